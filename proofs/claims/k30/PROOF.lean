import PyProof.Rows.All
import Wide.All
import OpenK.AllK
import Wide.FinOn
import HandS.ForMost
import HandS.TupAny
import HandS.Wide
import HandS.IsInst
import HandS.Style
import KE.KDictPairs
import HandS.TupLe
import KE.KRevSl
import PySem.Challenge.RW_longodds_k30_programs_in_form
section
set_option Elab.async false
set_option autoImplicit false
set_option linter.all false
set_option maxRecDepth 100000
set_option maxHeartbeats 2000000
/-! The mini layer, 1: values without the heap, a small store of what may change, and how both lie in the abstract heap. -/
namespace Mn
open PySem PySem.Spec PyProof.Rows L2

inductive D where
  | non | bl (b : Bool) | int (i : Int) | str (x : Str)
  | tup (l : List D) | lst (l : List D) | rol (l : List D) | dic (l : List (Key × D)) | loc (n : Nat) | ptl (l : List D)

abbrev Store := List D
/-- where the store's things are; l: in order; x: others that are being made -/
structure Rh where
  l : List Addr
  x : List Addr
def Rh.In (ρ : Rh) (a : Addr) : Prop := a ∈ ρ.l ∨ a ∈ ρ.x

/-- a tuple, a list, a dict that nobody changes any more (it is not in the store), or one of the module -/
def FzT (K : PySem.W.Frag) (ρ : Rh) (H : Hp) (a : Addr) (xs : List V) : Prop := (¬ ρ.In a ∧ ∃ o, H a = some (.frz o (.tup xs)) ∧ o.dict = none) ∨ (∃ o, K.lookup a = some o ∧ o.dict = none) ∧ ∀ H', SqT K H' a xs
/-- a tuple that is taken apart at once -/
def FzP (K : PySem.W.Frag) (ρ : Rh) (H : Hp) (a : Addr) (xs : List V) : Prop := (¬ ρ.In a ∧ SqT K H a xs) ∨ ∀ H', SqT K H' a xs
def FzL (K : PySem.W.Frag) (ρ : Rh) (H : Hp) (a : Addr) (xs : List V) : Prop := (¬ ρ.In a ∧ SqL K H a xs) ∨ ∀ H', SqL K H' a xs
def FzD (ρ : Rh) (H : Hp) (a : Addr) (xs : List (Key × V)) : Prop := ¬ ρ.In a ∧ Rd H a (.dK xs)

mutual
def RV (K : PySem.W.Frag) (ρ : Rh) (H : Hp) : D → V → Prop
  | .non, v => v = .non
  | .bl b, v => v = .bl b
  | .int i, v => v = .int i
  | .str x, v => v = .str x
  | .tup ds, v => ∃ a xs, v = .ref a ∧ FzT K ρ H a xs ∧ RVs K ρ H ds xs
  | .lst ds, v => ∃ a xs, v = .ref a ∧ (¬ ρ.In a ∧ H a = some (.lst xs)) ∧ RVs K ρ H ds xs
  | .rol ds, v => ∃ a xs, v = .ref a ∧ FzL K ρ H a xs ∧ RVs K ρ H ds xs
  | .dic ks, v => ∃ a xs, v = .ref a ∧ FzD ρ H a xs ∧ RVk K ρ H ks xs
  | .loc n, v => ∃ a, v = .ref a ∧ ρ.l[n]? = some a
  | .ptl ds, v => ∃ a xs, v = .ref a ∧ FzP K ρ H a xs ∧ RVs K ρ H ds xs
def RVs (K : PySem.W.Frag) (ρ : Rh) (H : Hp) : List D → List V → Prop
  | [], vs => vs = []
  | d :: ds, vs => ∃ v r, vs = v :: r ∧ RV K ρ H d v ∧ RVs K ρ H ds r
def RVk (K : PySem.W.Frag) (ρ : Rh) (H : Hp) : List (Key × D) → List (Key × V) → Prop
  | [], vs => vs = []
  | (k, d) :: ds, vs => ∃ v r, vs = (k, v) :: r ∧ RV K ρ H d v ∧ RVk K ρ H ds r
end

/-- from one state to a later one: what the store does not hold stays -/
structure Nx0 (ρ : Rh) (H : Hp) (ρ' : Rh) (H' : Hp) : Prop where
  pre : ∀ (i : Nat) (a : Addr), ρ.l[i]? = some a → ρ'.l[i]? = some a
  keep : ∀ a o, ¬ ρ.In a → H a = some o → H' a = some o
  new : ∀ a, ρ'.In a → ρ.In a ∨ H a = none
structure Nxt (ρ : Rh) (H : Hp) (ρ' : Rh) (H' : Hp) : Prop extends Nx0 ρ H ρ' H' where
  ex : ρ'.x = ρ.x
  hid : ∀ a, a ∈ ρ.x → H' a = H a
theorem Nx0.refl (ρ : Rh) (H : Hp) : Nx0 ρ H ρ H := ⟨fun _ _ h => h, fun _ _ _ h => h, fun _ h => .inl h⟩
theorem Nxt.refl (ρ : Rh) (H : Hp) : Nxt ρ H ρ H := ⟨Nx0.refl ρ H, rfl, fun _ _ => rfl⟩
theorem Nx0.out {ρ ρ' : Rh} {H H' : Hp} (n : Nx0 ρ H ρ' H') {a : Addr} {o : HO} (h : ¬ ρ.In a) (e : H a = some o) : ¬ ρ'.In a := fun z => by
  rcases n.new a z with q | q
  · exact h q
  · rw [e] at q; cases q
theorem Nx0.trans {ρ ρ1 ρ2 : Rh} {H H1 H2 : Hp} (n : Nx0 ρ H ρ1 H1) (m : Nx0 ρ1 H1 ρ2 H2) : Nx0 ρ H ρ2 H2 :=
  ⟨fun i a h => m.pre i a (n.pre i a h), fun a o h e => m.keep a o (n.out h e) (n.keep a o h e), fun a z => by
    rcases m.new a z with q | q
    · exact n.new a q
    · by_cases h : ρ.In a
      · exact .inl h
      · refine .inr ?_
        cases e : H a with
        | none => rfl
        | some o =>
          have := n.keep a o h e
          rw [q] at this; cases this⟩
theorem Nxt.trans {ρ ρ1 ρ2 : Rh} {H H1 H2 : Hp} (n : Nxt ρ H ρ1 H1) (m : Nxt ρ1 H1 ρ2 H2) : Nxt ρ H ρ2 H2 := ⟨n.toNx0.trans m.toNx0, m.ex.trans n.ex, fun a h => (m.hid a (by rw [n.ex]; exact h)).trans (n.hid a h)⟩

section
variable {K : PySem.W.Frag} {ρ ρ' : Rh} {H H' : Hp}
theorem Rd.nxt {a : Addr} {u : HO} (n : Nx0 ρ H ρ' H') (h : ¬ ρ.In a) (r : Rd H a u) : ¬ ρ'.In a ∧ Rd H' a u := by
  rcases r with r | ⟨o, r⟩
  · exact ⟨n.out h r, .inl (n.keep a _ h r)⟩
  · exact ⟨n.out h r, .inr ⟨o, n.keep a _ h r⟩⟩
theorem FzT.nxt {a : Addr} {xs : List V} (n : Nx0 ρ H ρ' H') (h : FzT K ρ H a xs) : FzT K ρ' H' a xs := by
  rcases h with ⟨h, o, q, z⟩ | h
  · exact .inl ⟨n.out h q, o, n.keep a _ h q, z⟩
  · exact .inr h
theorem FzP.nxt {a : Addr} {xs : List V} (n : Nx0 ρ H ρ' H') (h : FzP K ρ H a xs) : FzP K ρ' H' a xs := by
  rcases h with ⟨h, q | q⟩ | h
  · exact .inl ⟨(Rd.nxt n h q).1, .inl (Rd.nxt n h q).2⟩
  · exact .inr fun _ => .inr q
  · exact .inr h
theorem FzL.nxt {a : Addr} {xs : List V} (n : Nx0 ρ H ρ' H') (h : FzL K ρ H a xs) : FzL K ρ' H' a xs := by
  rcases h with ⟨h, q | q⟩ | h
  · exact .inl ⟨(Rd.nxt n h q).1, .inl (Rd.nxt n h q).2⟩
  · exact .inr fun _ => .inr q
  · exact .inr h
theorem FzD.nxt {a : Addr} {xs : List (Key × V)} (n : Nx0 ρ H ρ' H') (h : FzD ρ H a xs) : FzD ρ' H' a xs := ⟨(Rd.nxt n h.1 h.2).1, (Rd.nxt n h.1 h.2).2⟩
mutual
theorem RV.nx0 (n : Nx0 ρ H ρ' H') : ∀ (d : D) (v : V), RV K ρ H d v → RV K ρ' H' d v
  | .non, _, h => h
  | .bl _, _, h => h
  | .int _, _, h => h
  | .str _, _, h => h
  | .tup ds, _, ⟨a, xs, e, f, r⟩ => ⟨a, xs, e, f.nxt n, RVs.nx0 n ds xs r⟩
  | .lst ds, _, ⟨a, xs, e, f, r⟩ => ⟨a, xs, e, ⟨n.out f.1 f.2, n.keep a _ f.1 f.2⟩, RVs.nx0 n ds xs r⟩
  | .rol ds, _, ⟨a, xs, e, f, r⟩ => ⟨a, xs, e, f.nxt n, RVs.nx0 n ds xs r⟩
  | .dic ks, _, ⟨a, xs, e, f, r⟩ => ⟨a, xs, e, f.nxt n, RVk.nx0 n ks xs r⟩
  | .loc _, _, ⟨a, e, f⟩ => ⟨a, e, n.pre _ _ f⟩
  | .ptl ds, _, ⟨a, xs, e, f, r⟩ => ⟨a, xs, e, f.nxt n, RVs.nx0 n ds xs r⟩
theorem RVs.nx0 (n : Nx0 ρ H ρ' H') : ∀ (ds : List D) (vs : List V), RVs K ρ H ds vs → RVs K ρ' H' ds vs
  | [], _, h => h
  | d :: ds, _, ⟨v, r, e, h, t⟩ => ⟨v, r, e, RV.nx0 n d v h, RVs.nx0 n ds r t⟩
theorem RVk.nx0 (n : Nx0 ρ H ρ' H') : ∀ (ds : List (Key × D)) (vs : List (Key × V)), RVk K ρ H ds vs → RVk K ρ' H' ds vs
  | [], _, h => h
  | (k, d) :: ds, _, ⟨v, r, e, h, t⟩ => ⟨v, r, e, RV.nx0 n d v h, RVk.nx0 n ds r t⟩
end
theorem RV.nxt (n : Nxt ρ H ρ' H') (d : D) (v : V) (h : RV K ρ H d v) : RV K ρ' H' d v := RV.nx0 n.toNx0 d v h
theorem RVs.nxt (n : Nxt ρ H ρ' H') (d : List D) (v : List V) (h : RVs K ρ H d v) : RVs K ρ' H' d v := RVs.nx0 n.toNx0 d v h
theorem RVk.nxt (n : Nxt ρ H ρ' H') (d : List (Key × D)) (v : List (Key × V)) (h : RVk K ρ H d v) : RVk K ρ' H' d v := RVk.nx0 n.toNx0 d v h
theorem RVs.length : ∀ {ds : List D} {vs : List V}, RVs K ρ H ds vs → vs.length = ds.length
  | [], _, h => by subst h; rfl
  | d :: ds, _, ⟨v, r, e, _, t⟩ => by subst e; simp [RVs.length t]
theorem RVs.get : ∀ {ds : List D} {vs : List V} {i : Nat} {d : D}, RVs K ρ H ds vs → ds[i]? = some d → ∃ v, vs[i]? = some v ∧ RV K ρ H d v
  | [], _, _, _, _, e => by simp at e
  | d :: ds, _, 0, _, ⟨v, r, e, h, _⟩, q => by subst e; simp at q; subst q; exact ⟨v, rfl, h⟩
  | d :: ds, _, i + 1, _, ⟨v, r, e, _, t⟩, q => by
    subst e
    obtain ⟨w, h1, h2⟩ := RVs.get (i := i) t (by simpa using q)
    exact ⟨w, by simpa using h1, h2⟩
theorem RVs.append : ∀ {ds es : List D} {vs us : List V}, RVs K ρ H ds vs → RVs K ρ H es us → RVs K ρ H (ds ++ es) (vs ++ us)
  | [], _, _, _, h, t => by subst h; exact t
  | d :: ds, _, _, _, ⟨v, r, e, h, q⟩, t => by subst e; exact ⟨v, r ++ _, rfl, h, RVs.append q t⟩
theorem RVs.set {d : D} {v : V} (h : RV K ρ H d v) : ∀ {ds : List D} {vs : List V} (i : Nat), RVs K ρ H ds vs → RVs K ρ H (ds.set i d) (vs.set i v)
  | [], _, _, q => by subst q; rfl
  | _ :: _, _, 0, ⟨w, r, e, _, t⟩ => by subst e; exact ⟨v, r, rfl, h, t⟩
  | _ :: _, _, i + 1, ⟨w, r, e, q, t⟩ => by subst e; exact ⟨w, r.set i v, rfl, q, RVs.set h i t⟩
theorem RVs.take : ∀ {ds : List D} {vs : List V} (i : Nat), RVs K ρ H ds vs → RVs K ρ H (ds.take i) (vs.take i)
  | _, _, 0, _ => by simp [RVs]
  | [], _, _ + 1, q => by subst q; simp [RVs]
  | _ :: _, _, i + 1, ⟨w, r, e, q, t⟩ => by subst e; exact ⟨w, r.take i, rfl, q, RVs.take i t⟩
theorem RVs.drop : ∀ {ds : List D} {vs : List V} (i : Nat), RVs K ρ H ds vs → RVs K ρ H (ds.drop i) (vs.drop i)
  | _, _, 0, q => q
  | [], _, _ + 1, q => by subst q; simp [RVs]
  | _ :: _, _, i + 1, ⟨w, r, e, q, t⟩ => by subst e; exact RVs.drop i t
theorem RVs.nil : RVs K ρ H [] [] := rfl
theorem RVs.one {d : D} {v : V} (h : RV K ρ H d v) : RVs K ρ H [d] [v] := ⟨v, [], rfl, h, rfl⟩
theorem RVk.length : ∀ {ds : List (Key × D)} {vs : List (Key × V)}, RVk K ρ H ds vs → vs.length = ds.length
  | [], _, h => by subst h; rfl
  | (k, d) :: ds, _, ⟨v, r, e, _, t⟩ => by subst e; simp [RVk.length t]
end

/-- what stands in the store -/
def RO (K : PySem.W.Frag) (ρ : Rh) (H : Hp) (d : D) (a : Addr) : Prop :=
  match d with
  | .lst ds => ∃ xs, H a = some (.lst xs) ∧ RVs K ρ H ds xs
  | .dic ks => ∃ xs, H a = some (.dK xs) ∧ RVk K ρ H ks xs
  | _ => False
structure RepSt (K : PySem.W.Frag) (ρ : Rh) (st : Store) (H : Hp) : Prop where
  nd : (ρ.l ++ ρ.x).Nodup
  len : ρ.l.length = st.length
  exo : ∀ a, a ∈ ρ.x → ∃ o, H a = some o
  ob : ∀ (i : Nat) (a : Addr) (d : D), ρ.l[i]? = some a → st[i]? = some d → RO K ρ H d a
section
variable {K : PySem.W.Frag} {ρ ρ' : Rh} {H H' : Hp} {st : Store}
theorem nodup_get {l : List Addr} (h : l.Nodup) {i j : Nat} {a : Addr} (e : l[i]? = some a) (f : l[j]? = some a) : i = j := by
  obtain ⟨h1, e1⟩ := List.getElem?_eq_some_iff.mp e
  obtain ⟨h2, e2⟩ := List.getElem?_eq_some_iff.mp f
  exact (List.getElem_inj h).mp (e1.trans e2.symm)
theorem RepSt.ndl (r : RepSt K ρ st H) : ρ.l.Nodup := (List.nodup_append.mp r.nd).1
theorem RepSt.apart (r : RepSt K ρ st H) {a : Addr} (h : a ∈ ρ.l) : a ∉ ρ.x := fun z => (List.nodup_append.mp r.nd).2.2 a h a z rfl
theorem RepSt.there (r : RepSt K ρ st H) {a : Addr} (h : ρ.In a) : ∃ o, H a = some o := by
  rcases h with h | h
  · obtain ⟨i, e⟩ := List.getElem?_of_mem h
    have hi : i < ρ.l.length := (List.getElem?_eq_some_iff.mp e).1
    rw [r.len] at hi
    have q := r.ob i a st[i] e (List.getElem?_eq_getElem hi)
    generalize st[i] = d at q
    cases d <;> first | exact False.elim q | (obtain ⟨xs, e, _⟩ := q; exact ⟨_, e⟩)
  · exact r.exo a h
theorem RO.nxt {d : D} {a : Addr} (n : Nx0 ρ H ρ' H') (same : H' a = H a) (h : RO K ρ H d a) : RO K ρ' H' d a := by
  cases d <;> first | exact False.elim h | (obtain ⟨xs, e, r⟩ := h; first | exact ⟨xs, same.trans e, RVs.nx0 n _ _ r⟩ | exact ⟨xs, same.trans e, RVk.nx0 n _ _ r⟩)
theorem RepSt.out {p : Addr} (r : RepSt K ρ st H) (h : H p = none) : ¬ ρ.In p := fun z => by
  obtain ⟨o, e⟩ := r.there z
  rw [h] at e; cases e
/-- a new object that is not in the store -/
theorem Nx0.laid {p : Addr} {o : HO} (h : H p = none) : Nx0 ρ H ρ (upd H p o) :=
  ⟨fun _ _ h => h, fun a u _ e => by rw [upd_ne (ne_of_none e h)]; exact e, fun _ h => .inl h⟩
theorem Nxt.laid {p : Addr} {o : HO} (r : RepSt K ρ st H) (h : H p = none) : Nxt ρ H ρ (upd H p o) := ⟨Nx0.laid h, rfl, fun a z => by
  obtain ⟨u, q⟩ := r.exo a z
  exact upd_ne (ne_of_none q h)⟩
theorem RepSt.laid {p : Addr} {o : HO} (r : RepSt K ρ st H) (h : H p = none) : RepSt K ρ st (upd H p o) :=
  ⟨r.nd, r.len, fun a z => by
    obtain ⟨u, q⟩ := r.exo a z
    exact ⟨u, by rw [upd_ne (ne_of_none q h)]; exact q⟩, fun i a d e f => by
    have hp : a ≠ p := by
      obtain ⟨u, q⟩ := r.there (.inl (List.mem_of_getElem? e))
      exact ne_of_none q h
    exact (r.ob i a d e f).nxt (Nx0.laid h) (upd_ne hp)⟩
/-- a new object in the store -/
def Rh.add (ρ : Rh) (p : Addr) : Rh := ⟨ρ.l ++ [p], ρ.x⟩
theorem Nx0.alloc {p : Addr} {o : HO} (h : H p = none) : Nx0 ρ H (ρ.add p) (upd H p o) :=
  ⟨fun i a e => by
    have hi := (List.getElem?_eq_some_iff.mp e).1
    show (ρ.l ++ [p])[i]? = some a
    rw [List.getElem?_append_left hi]; exact e, fun a u _ e => by rw [upd_ne (ne_of_none e h)]; exact e, fun a z => by
    rcases z with z | z
    · rcases List.mem_append.mp z with z | z
      · exact .inl (.inl z)
      · simp at z; subst z; exact .inr h
    · exact .inl (.inr z)⟩
theorem Nxt.alloc {p : Addr} {o : HO} (r : RepSt K ρ st H) (h : H p = none) : Nxt ρ H (ρ.add p) (upd H p o) := ⟨Nx0.alloc h, rfl, fun a z => by
  obtain ⟨u, q⟩ := r.exo a z
  exact upd_ne (ne_of_none q h)⟩
theorem RepSt.alloc {p : Addr} {o : HO} {d : D} (r : RepSt K ρ st H) (h : H p = none) (new : RO K (ρ.add p) (upd H p o) d p) : RepSt K (ρ.add p) (st ++ [d]) (upd H p o) := by
  have hout := r.out h
  refine ⟨?_, by simp [Rh.add, r.len], fun a z => ?_, fun i a d' e f => ?_⟩
  · show ((ρ.l ++ [p]) ++ ρ.x).Nodup
    rw [List.append_assoc, List.nodup_append]
    have nd := List.nodup_append.mp r.nd
    refine ⟨nd.1, ?_, fun a ha b hb => ?_⟩
    · rw [List.singleton_append, List.nodup_cons]
      exact ⟨fun z => hout (.inr z), nd.2.1⟩
    · rw [List.singleton_append, List.mem_cons] at hb
      rcases hb with rfl | hb
      · rintro rfl
        exact hout (.inl ha)
      · exact nd.2.2 a ha b hb
  · obtain ⟨u, q⟩ := r.exo a z
    exact ⟨u, by rw [upd_ne (ne_of_none q h)]; exact q⟩
  · have e : (ρ.l ++ [p])[i]? = some a := e
    by_cases hi : i < ρ.l.length
    · rw [List.getElem?_append_left hi] at e
      rw [List.getElem?_append_left (by rw [← r.len]; exact hi)] at f
      have hp : a ≠ p := by
        obtain ⟨u, q⟩ := r.there (.inl (List.mem_of_getElem? e))
        exact ne_of_none q h
      exact (r.ob i a d' e f).nxt (Nx0.alloc h) (upd_ne hp)
    · have h1 : i = ρ.l.length := by
        have := (List.getElem?_eq_some_iff.mp e).1
        simp at this
        omega
      subst h1
      rw [List.getElem?_append_right (Nat.le_refl _)] at e
      rw [List.getElem?_append_right (by rw [r.len]; exact Nat.le_refl _)] at f
      simp at e
      simp [r.len] at f
      subst e; subst f
      exact new
/-- an object of the store is changed -/
theorem Nx0.write {p : Addr} {o : HO} (h : ρ.In p) : Nx0 ρ H ρ (upd H p o) :=
  ⟨fun _ _ h => h, fun a u n e => by rw [upd_ne (show a ≠ p from fun z => n (by rw [z]; exact h))]; exact e, fun _ h => .inl h⟩
theorem Nxt.write {p : Addr} {o : HO} (r : RepSt K ρ st H) (h : p ∈ ρ.l) : Nxt ρ H ρ (upd H p o) := ⟨Nx0.write (.inl h), rfl, fun a z => upd_ne fun y => r.apart h (by rw [← y]; exact z)⟩
theorem RepSt.write {p : Addr} {o : HO} {d : D} {i : Nat} (r : RepSt K ρ st H) (h : ρ.l[i]? = some p) (new : RO K ρ (upd H p o) d p) : RepSt K ρ (st.set i d) (upd H p o) := by
  have hm : p ∈ ρ.l := List.mem_of_getElem? h
  refine ⟨r.nd, by simp [r.len], fun a z => ?_, fun j a d' e f => ?_⟩
  · obtain ⟨u, q⟩ := r.exo a z
    exact ⟨u, by rw [upd_ne (show a ≠ p from fun y => r.apart hm (by rw [← y]; exact z))]; exact q⟩
  · by_cases hj : j = i
    · subst hj
      rw [h] at e; cases e
      have hi : j < st.length := by rw [← r.len]; exact (List.getElem?_eq_some_iff.mp h).1
      rw [List.getElem?_set_self hi] at f
      cases f
      exact new
    · rw [List.getElem?_set_ne (Ne.symm hj)] at f
      have hp : a ≠ p := fun z => hj (nodup_get r.ndl (z ▸ e) h)
      exact (r.ob j a d' e f).nxt (Nx0.write (.inl hm)) (upd_ne hp)
theorem RepSt.at (r : RepSt K ρ st H) {i : Nat} {d : D} {v : V} (hv : RV K ρ H (.loc i) v) (hd : st[i]? = some d) : ∃ a, v = .ref a ∧ ρ.l[i]? = some a ∧ RO K ρ H d a := by
  obtain ⟨a, e, f⟩ := hv
  exact ⟨a, e, f, r.ob i a d f hd⟩

/-! ### a thing that is being made: it is kept apart until it is ready -/
def Rh.hid (ρ : Rh) (p : Addr) : Rh := ⟨ρ.l, p :: ρ.x⟩
theorem Nx0.hide {p : Addr} {o : HO} (h : H p = none) : Nx0 ρ H (ρ.hid p) (upd H p o) :=
  ⟨fun _ _ e => e, fun a u _ e => by rw [upd_ne (ne_of_none e h)]; exact e, fun a z => by
    rcases z with z | z
    · exact .inl (.inl z)
    · rcases List.mem_cons.mp z with rfl | z
      · exact .inr h
      · exact .inl (.inr z)⟩
theorem RepSt.hide {p : Addr} {o : HO} (r : RepSt K ρ st H) (h : H p = none) : RepSt K (ρ.hid p) st (upd H p o) := by
  have hout := r.out h
  have nd := List.nodup_append.mp r.nd
  refine ⟨?_, r.len, fun a z => ?_, fun i a d e f => ?_⟩
  · show (ρ.l ++ (p :: ρ.x)).Nodup
    rw [List.nodup_append]
    refine ⟨nd.1, List.nodup_cons.mpr ⟨fun z => hout (.inr z), nd.2.1⟩, fun a ha b hb => ?_⟩
    rcases List.mem_cons.mp hb with rfl | hb
    · rintro rfl
      exact hout (.inl ha)
    · exact nd.2.2 a ha b hb
  · have z : a ∈ p :: ρ.x := z
    rcases List.mem_cons.mp z with rfl | z
    · exact ⟨o, upd_same⟩
    · obtain ⟨u, q⟩ := r.exo a z
      exact ⟨u, by rw [upd_ne (ne_of_none q h)]; exact q⟩
  · have hp : a ≠ p := by
      obtain ⟨u, q⟩ := r.there (.inl (List.mem_of_getElem? e))
      exact ne_of_none q h
    exact (r.ob i a d e f).nxt (Nx0.hide h) (upd_ne hp)
/-- it is changed -/
theorem RepSt.rehid {p : Addr} {o : HO} (r : RepSt K ρ st H) (h : p ∈ ρ.x) : RepSt K ρ st (upd H p o) :=
  ⟨r.nd, r.len, fun a z => by
    by_cases hp : a = p
    · subst hp; exact ⟨o, upd_same⟩
    · obtain ⟨u, q⟩ := r.exo a z
      exact ⟨u, by rw [upd_ne hp]; exact q⟩, fun i a d e f => by
    have hp : a ≠ p := fun z => r.apart (List.mem_of_getElem? e) (by rw [z]; exact h)
    exact (r.ob i a d e f).nxt (Nx0.write (.inr h)) (upd_ne hp)⟩
/-- fewer are kept apart -/
theorem Nx0.less {x : List Addr} (h : ∀ a, a ∈ x → a ∈ ρ.x) : Nx0 ρ H ⟨ρ.l, x⟩ H := ⟨fun _ _ e => e, fun _ _ _ e => e, fun a z => .inl (z.elim .inl fun q => .inr (h a q))⟩
theorem RepSt.bare {p : Addr} {x : List Addr} (r : RepSt K ρ st H) (h : ρ.x = p :: x) : RepSt K ⟨ρ.l, x⟩ st H ∧ ¬ (Rh.mk ρ.l x).In p := by
  have nd := r.nd
  rw [h] at nd
  have nd := List.nodup_append.mp nd
  have n2 := List.nodup_cons.mp nd.2.1
  refine ⟨⟨?_, r.len, fun a z => r.exo a (by rw [h]; exact List.mem_cons_of_mem _ z), fun i a d e f => (r.ob i a d e f).nxt (Nx0.less fun a z => by rw [h]; exact List.mem_cons_of_mem _ z) rfl⟩, fun z => ?_⟩
  · show (ρ.l ++ x).Nodup
    rw [List.nodup_append]
    exact ⟨nd.1, n2.2, fun a ha b hb => nd.2.2 a ha b (List.mem_cons_of_mem _ hb)⟩
  · rcases z with z | z
    · exact nd.2.2 p z p List.mem_cons_self rfl
    · exact n2.1 z
end
end Mn
end
section
set_option Elab.async false
set_option autoImplicit false
set_option linter.all false
set_option maxRecDepth 100000
set_option maxHeartbeats 2000000
/-! The mini layer, 2: what code computes over the store, as plain functions; the rules. -/
namespace Mn
open PySem PySem.Spec PyProof.Rows L2

abbrev MEnv := List (Option D)
abbrev M (α : Type) := MEnv → Store → Option (α × Store)
def bnd {α β : Type} (m : Option (α × Store)) (f : α → Store → Option β) : Option β :=
  match m with
  | some p => f p.1 p.2
  | none => none
def ret1 {α : Type} (o : Option α) (st : Store) : Option (α × Store) :=
  match o with
  | some d => some (d, st)
  | none => none
theorem bnd_some {α β : Type} {a : α} {st : Store} {f : α → Store → Option β} : bnd (some (a, st)) f = f a st := rfl
theorem ret1_some {α : Type} {d : α} {st : Store} : ret1 (some d) st = some (d, st) := rfl
theorem bnd_inv {α β : Type} {m : Option (α × Store)} {f : α → Store → Option β} {b : β} (h : bnd m f = some b) : ∃ a st, m = some (a, st) ∧ f a st = some b := by
  cases m with
  | none => cases h
  | some p => exact ⟨p.1, p.2, rfl, h⟩
theorem ret1_inv {α : Type} {o : Option α} {st : Store} {p : α × Store} (h : ret1 o st = some p) : o = some p.1 ∧ st = p.2 := by
  cases o with
  | none => cases h
  | some d => cases h; exact ⟨rfl, rfl⟩

/-- the slots -/
def RVo (K : PySem.W.Frag) (ρ : Rh) (H : Hp) (env : MEnv) (σ : L2.St) : Prop :=
  env.length = σ.length ∧ ∀ (i : Nat) (d : D), env[i]? = some (some d) → ∃ v, σ[i]? = some (some v) ∧ RV K ρ H d v
def After (K : PySem.W.Frag) (ρ : Rh) (H : Hp) (d : D) (st' : Store) (Q : VK) : Prop := ∀ v H' ρ', Nxt ρ H ρ' H' → RepSt K ρ' st' H' → RV K ρ' H' d v → Q v H'
def tM (K : PySem.W.Frag) (m : M D) : TE := fun σ H Q => ∃ env st ρ d st', RVo K ρ H env σ ∧ RepSt K ρ st H ∧ m env st = some (d, st') ∧ After K ρ H d st' Q
def tMT (K : PySem.W.Frag) (m : M Bool) : TT := fun σ H Q => ∃ env st ρ d st', RVo K ρ H env σ ∧ RepSt K ρ st H ∧ m env st = some (d, st') ∧ ∀ H' ρ', Nxt ρ H ρ' H' → RepSt K ρ' st' H' → Q d H'
def tMA (K : PySem.W.Frag) (m : M (List D)) : TA := fun σ H Q => ∃ env st ρ d st', RVo K ρ H env σ ∧ RepSt K ρ st H ∧ m env st = some (d, st') ∧ ∀ vs H' ρ', Nxt ρ H ρ' H' → RepSt K ρ' st' H' → RVs K ρ' H' d vs → Q vs H'
/-- a new list -/
def tML (K : PySem.W.Frag) (m : M (List D)) : TE := fun σ H Q => ∃ env st ρ d st', RVo K ρ H env σ ∧ RepSt K ρ st H ∧ m env st = some (d, st') ∧
  ∀ p vs H' ρ', Nxt ρ H ρ' H' → RepSt K ρ' st' H' → H' p = none → RVs K ρ' H' d vs → Q (.ref p) (upd H' p (.lst vs))
inductive Out where
  | nx (env : MEnv) | bk (env : MEnv) | ct (env : MEnv) | rt (d : D)
abbrev S := MEnv → Store → Option (Out × Store)
def AfterS (K : PySem.W.Frag) (ρ : Rh) (H : Hp) (o : Out) (st' : Store) (E : Ends) : Prop :=
  match o with
  | .nx env' => ∀ σ' H' ρ', Nxt ρ H ρ' H' → RepSt K ρ' st' H' → RVo K ρ' H' env' σ' → E.nx σ' H'
  | .bk env' => ∀ σ' H' ρ', Nxt ρ H ρ' H' → RepSt K ρ' st' H' → RVo K ρ' H' env' σ' → E.bk σ' H'
  | .ct env' => ∀ σ' H' ρ', Nxt ρ H ρ' H' → RepSt K ρ' st' H' → RVo K ρ' H' env' σ' → E.ct σ' H'
  | .rt d => After K ρ H d st' E.rt
def tS (K : PySem.W.Frag) (m : S) : TS := fun E σ H => ∃ env st ρ o st', RVo K ρ H env σ ∧ RepSt K ρ st H ∧ m env st = some (o, st') ∧ AfterS K ρ H o st' E
abbrev PM (X : Cx) (e : Expr) (m : M D) : Prop := PE X e (tM X.K m)
abbrev PMT (X : Cx) (e : Expr) (m : M Bool) : Prop := PT X e (tMT X.K m)
abbrev PMW (X : Cx) (e : Expr) (m : M Bool) : Prop := PW X e (tMT X.K m)
abbrev PMA (X : Cx) (es : List Expr) (m : M (List D)) : Prop := PA X es (tMA X.K m)
abbrev PML (X : Cx) (e : Expr) (m : M (List D)) : Prop := PE X e (tML X.K m)
abbrev PMS (X : Cx) (st : Stmt) (m : S) : Prop := PS X st (tS X.K m)
abbrev PMSs (X : Cx) (st : List Stmt) (m : S) : Prop := PSs X st (tS X.K m)

section
variable {K : PySem.W.Frag} {ρ ρ' : Rh} {H H' : Hp} {env : MEnv} {σ : L2.St}
theorem RVo.nxt (r : RVo K ρ H env σ) (n : Nxt ρ H ρ' H') : RVo K ρ' H' env σ := ⟨r.1, fun i d e => by
  obtain ⟨v, h1, h2⟩ := r.2 i d e
  exact ⟨v, h1, RV.nxt n d v h2⟩⟩
theorem RVo.set (r : RVo K ρ H env σ) {d : D} {v : V} (h : RV K ρ H d v) (i : Nat) : RVo K ρ H (env.set i (some d)) (σ.set i (some v)) := by
  refine ⟨by simp [r.1], fun j d' e => ?_⟩
  by_cases hj : j = i
  · subst hj
    have hl : j < env.length := by
      have := (List.getElem?_eq_some_iff.mp e).1
      simpa using this
    rw [List.getElem?_set_self hl] at e
    cases e
    exact ⟨v, by rw [List.getElem?_set_self (by rw [← r.1]; exact hl)], h⟩
  · rw [List.getElem?_set_ne (Ne.symm hj)] at e ⊢
    exact r.2 j d' e
end
theorem imp_e {X : Cx} {e : Expr} {t t' : TE} (h : PE X e t) (f : ∀ σ H Q, t' σ H Q → t σ H Q) : PE X e t' := ⟨fun pins s σ H Q I q => h.run pins s σ H Q I (f σ H Q q)⟩
theorem imp_t {X : Cx} {e : Expr} {t t' : TT} (h : PT X e t) (f : ∀ σ H Q, t' σ H Q → t σ H Q) : PT X e t' := ⟨fun pins s σ H Q I q => h.run pins s σ H Q I (f σ H Q q)⟩
theorem imp_w {X : Cx} {e : Expr} {t t' : TT} (h : PW X e t) (f : ∀ σ H Q, t' σ H Q → t σ H Q) : PW X e t' := ⟨fun wh pins s σ H Q I q => h.run wh pins s σ H Q I (f σ H Q q)⟩
theorem imp_a {X : Cx} {e : List Expr} {t t' : TA} (h : PA X e t) (f : ∀ σ H Q, t' σ H Q → t σ H Q) : PA X e t' := ⟨fun p pins s σ H Q I q => h.run p pins s σ H Q I (f σ H Q q)⟩
theorem imp_s {X : Cx} {e : Stmt} {t t' : TS} (h : PS X e t) (f : ∀ D σ H, t' D σ H → t D σ H) : PS X e t' := ⟨fun pins s σ H D I q => h.run pins s σ H D I (f D σ H q)⟩
theorem imp_ss {X : Cx} {e : List Stmt} {t t' : TS} (h : PSs X e t) (f : ∀ D σ H, t' D σ H → t D σ H) : PSs X e t' := ⟨fun pins s σ H D I q => h.run pins s σ H D I (f D σ H q)⟩

/-! ### names, constants -/
def mV (i : Nat) : M D := fun env st =>
  match env[i]? with
  | some (some d) => some (d, st)
  | _ => none
def mC (d : D) : M D := fun _ st => some (d, st)
section
variable {X : Cx} {a b c : Expr} {ma mb mc : M D} {pos : Pos}
theorem pm_var {i : Nat} {x : Str} (hN : X.N[i]? = some x := by rfl) (hv : Vis X.env.scope x := by first | exact Or.inl rfl | exact Or.inr (Or.inl rfl) | exact Or.inr (Or.inr rfl)) (hd : (x == ("__debug__" : Str)) = false := by decide)
    (hcd : (x == ("__classdict__" : Str)) = false := by decide) : PM X (.Name x pos) (mV i) :=
  imp_e (pe_var hN hv hd hcd) fun σ H Q ⟨env, st, ρ, d, st', ro, rs, e, k⟩ => by
    unfold mV at e
    split at e
    · rename_i d' h
      cases e
      obtain ⟨v, h1, h2⟩ := ro.2 i d h
      exact ⟨v, h1, k v H ρ (Nxt.refl _ _) rs h2⟩
    · cases e
theorem pm_k {e : Expr} {d : D} {v : V} (h : PE X e (tC v)) (hv : ∀ ρ H, RV X.K ρ H d v) : PM X e (mC d) :=
  imp_e h fun σ H Q ⟨env, st, ρ, d', st', ro, rs, e, k⟩ => by
    cases e
    exact k v H ρ (Nxt.refl _ _) rs (hv ρ H)
theorem pm_int {i j} : PM X (.Constant (.int i) j pos) (mC (.int i)) := pm_k pe_int fun _ _ => rfl
theorem pm_bl {i j} : PM X (.Constant (.bool i) j pos) (mC (.bl i)) := pm_k pe_bl fun _ _ => rfl
theorem pm_non {j} : PM X (.Constant .none j pos) (mC .non) := pm_k pe_non fun _ _ => rfl
theorem pm_str {x j} : PM X (.Constant (.str x) j pos) (mC (.str x)) := pm_k pe_str fun _ _ => rfl
/-- a constant of the module -/
def GlobM (K : PySem.W.Frag) (mg : Str → Option Value) (x : Str) (d : D) : Prop := ∃ u v, mg x = some u ∧ RelV v u ∧ ∀ ρ H, RV K ρ H d v
theorem pm_glob {x : Str} {d : D} (g : GlobM X.K X.mg x d) (hg : Gl X x) (hd : (x == ("__debug__" : Str)) = false := by decide) : PM X (.Name x pos) (mC d) := by
  obtain ⟨u, v, h1, h2, h3⟩ := g
  exact pm_k (pe_glob hg h1 h2 hd) h3
end

/-! ### operators by values -/
abbrev O2 := D → D → Store → Option D
def RefO (K : PySem.W.Frag) (r : R2) (f : O2) : Prop := ∀ (ρ : Rh) (st : Store) (H : Hp) (dx dy d : D) (x y : V) (Q : VK), RepSt K ρ st H → RV K ρ H dx x → RV K ρ H dy y → f dx dy st = some d →
  (∀ v H', Nxt ρ H ρ H' → RepSt K ρ st H' → RV K ρ H' d v → Q v H') → r x y H Q
def mOp (f : O2) (ma mb : M D) : M D := fun env st => bnd (ma env st) fun x st1 => bnd (mb env st1) fun y st2 => ret1 (f x y st2) st2
theorem op_core {K : PySem.W.Frag} {r : R2} {f : O2} (hf : RefO K r f) {ma mb : M D} {σ : L2.St} {H : Hp} {Q : VK} (h : tM K (mOp f ma mb) σ H Q) : tOp r (tM K ma) (tM K mb) σ H Q := by
  obtain ⟨env, st, ρ, d, st', ro, rs, e, k⟩ := h
  obtain ⟨x, s1, e1, e⟩ := bnd_inv e
  obtain ⟨y, s2, e2, e⟩ := bnd_inv e
  obtain ⟨e3, e4⟩ := ret1_inv e
  cases e4
  refine ⟨env, st, ρ, x, s1, ro, rs, e1, fun vx H1 ρ1 n1 rs1 rx => ⟨env, s1, ρ1, y, _, ro.nxt n1, rs1, e2, fun vy H2 ρ2 n2 rs2 ry => ?_⟩⟩
  exact hf ρ2 _ H2 x y d vx vy Q rs2 (RV.nxt n2 _ _ rx) ry e3 fun v H3 n3 rs3 rv => k v H3 ρ2 ((n1.trans n2).trans n3) rs3 rv
section
variable {X : Cx} {a b c : Expr} {ma mb mc : M D} {pos : Pos}
theorem pm_op {op : Operator} {r : R2} {f : O2} (ho : OpR X (binaryOp op) r ∧ RefO X.K r f) (ha : PM X a ma) (hb : PM X b mb) : PM X (.BinOp a op b pos) (mOp f ma mb) :=
  imp_e (pe_op ho.1 ha hb) fun _ _ _ h => op_core ho.2 h
theorem pm_cmp {op : CmpOp} {r : R2} {f : O2} (ho : OpR X (compareOp op) r ∧ RefO X.K r f) (ha : PM X a ma) (hb : PM X b mb) (hm : behindInMarks op b = false := by first | exact nomark _ | rfl) : PM X (.Compare a [op] [b] pos) (mOp f ma mb) :=
  imp_e (pe_cmpR ho.1 ha hb hm) fun _ _ _ h => op_core ho.2 h
/-- a value that is True or False, as a test -/
def mTB (m : M D) : M Bool := fun env st => bnd (m env st) fun x st1 =>
  match x with
  | .bl b => some (b, st1)
  | _ => none
theorem tB_core {K : PySem.W.Frag} {m : M D} {σ : L2.St} {H : Hp} {Q : Bool → Hp → Prop} (h : tMT K (mTB m) σ H Q) : tM K m σ H fun x H1 => ∃ c, x = .bl c ∧ Q c H1 := by
  obtain ⟨env, st, ρ, d, st', ro, rs, e, k⟩ := h
  obtain ⟨x, s1, e1, e⟩ := bnd_inv e
  refine ⟨env, st, ρ, x, s1, ro, rs, e1, fun v H' ρ' n rs' rv => ?_⟩
  cases x with
  | bl b => cases e; exact ⟨_, rv, k H' ρ' n rs'⟩
  | _ => cases e
theorem pmt_cmp {op : CmpOp} {r : R2} {f : O2} (ho : OpR X (compareOp op) r ∧ RefO X.K r f) (ha : PM X a ma) (hb : PM X b mb) (hm : behindInMarks op b = false := by first | exact nomark _ | rfl) : PMT X (.Compare a [op] [b] pos) (mTB (mOp f ma mb)) :=
  imp_t (pt_cmpR ho.1 ha hb hm) fun σ H Q h => by
    obtain ⟨env, st, ρ, d, st', ro, rs, e, k⟩ := tB_core h
    exact op_core ho.2 ⟨env, st, ρ, d, st', ro, rs, e, k⟩
theorem pmt_val {e : Expr} {m : M D} (h : PM X e m) (he : ∀ whole, isTrue e X.env whole = (do let v ← whole; standAt e.pos; holding [v] (truthy v)) := by intro _; rfl) : PMT X e (mTB m) :=
  imp_t (pt_val h he) fun _ _ _ h => tB_core h

/-! ### and, or, not of tests; the conditional expression -/
def mAnd (t u : M Bool) : M Bool := fun env st => bnd (t env st) fun x st1 => if x = true then u env st1 else some (false, st1)
def mOr (t u : M Bool) : M Bool := fun env st => bnd (t env st) fun x st1 => if x = true then some (true, st1) else u env st1
def mNot (t : M Bool) : M Bool := fun env st => bnd (t env st) fun x st1 => some (!x, st1)
def mIte {α : Type} (t : M Bool) (a b : M α) : M α := fun env st => bnd (t env st) fun x st1 => if x = true then a env st1 else b env st1
/-- a test, then something -/
theorem test_core {K : PySem.W.Frag} {t : M Bool} {α : Type} {f : Bool → Store → Option (α × Store)} {env : MEnv} {st : Store} {ρ : Rh} {σ : L2.St} {H : Hp} {r : α × Store} {Q : Bool → Hp → Prop} (ro : RVo K ρ H env σ) (rs : RepSt K ρ st H)
    (e : bnd (t env st) f = some r) (k : ∀ b s1 H1 ρ1, f b s1 = some r → Nxt ρ H ρ1 H1 → RepSt K ρ1 s1 H1 → RVo K ρ1 H1 env σ → Q b H1) : tMT K t σ H Q := by
  obtain ⟨x, s1, e1, e⟩ := bnd_inv e
  exact ⟨env, st, ρ, x, s1, ro, rs, e1, fun H' ρ' n rs' => k x s1 H' ρ' e n rs' (ro.nxt n)⟩
variable {t u : M Bool} {rest : List Expr}
theorem pmw_and1 (ha : PMT X a t) : PMW X (.BoolOp .And [a] pos) t := pw_and1 ha
theorem pmw_or1 (ha : PMT X a t) : PMW X (.BoolOp .Or [a] pos) t := pw_or1 ha
theorem pmw_and (ha : PMT X a t) (hb : PMW X (.BoolOp .And (b :: rest) pos) u) : PMW X (.BoolOp .And (a :: b :: rest) pos) (mAnd t u) :=
  imp_w (pw_and ha hb) fun σ H Q ⟨env, st, ρ, d, st', ro, rs, e, k⟩ => test_core ro rs e fun x s1 H1 ρ1 e n rs1 ro1 => by
    cases x with
    | true => exact ⟨env, s1, ρ1, d, st', ro1, rs1, e, fun H' ρ' n' rs' => k H' ρ' (n.trans n') rs'⟩
    | false => cases e; exact k H1 ρ1 n rs1
theorem pmw_or (ha : PMT X a t) (hb : PMW X (.BoolOp .Or (b :: rest) pos) u) : PMW X (.BoolOp .Or (a :: b :: rest) pos) (mOr t u) :=
  imp_w (pw_or ha hb) fun σ H Q ⟨env, st, ρ, d, st', ro, rs, e, k⟩ => test_core ro rs e fun x s1 H1 ρ1 e n rs1 ro1 => by
    cases x with
    | false => exact ⟨env, s1, ρ1, d, st', ro1, rs1, e, fun H' ρ' n' rs' => k H' ρ' (n.trans n') rs'⟩
    | true => cases e; exact k H1 ρ1 n rs1
theorem pmt_w {e : Expr} (h : PMW X e t) : PMT X e t := h.pt
theorem pmt_not (ha : PMT X a t) : PMT X (.UnaryOp .Not a pos) (mNot t) :=
  imp_t (pt_not ha) fun σ H Q ⟨env, st, ρ, d, st', ro, rs, e, k⟩ => test_core ro rs e fun x s1 H1 ρ1 e n rs1 ro1 => by
    cases e; exact k H1 ρ1 n rs1
theorem pm_ife (hc : PMT X c t) (ha : PM X a ma) (hb : PM X b mb) : PM X (.IfExp c a b pos) (mIte t ma mb) :=
  imp_e (pe_ifExp hc ha hb) fun σ H Q ⟨env, st, ρ, d, st', ro, rs, e, k⟩ => test_core ro rs e fun x s1 H1 ρ1 e n rs1 ro1 => by
    cases x with
    | true => exact ⟨env, s1, ρ1, d, st', ro1, rs1, e, fun v H' ρ' n' rs' rv => k v H' ρ' (n.trans n') rs' rv⟩
    | false => exact ⟨env, s1, ρ1, d, st', ro1, rs1, e, fun v H' ρ' n' rs' rv => k v H' ρ' (n.trans n') rs' rv⟩
/-- as values (bools) -/
def mBl (t : M Bool) : M D := fun env st => bnd (t env st) fun x st1 => some (.bl x, st1)
def mAndV (ma mb : M D) : M D := fun env st => bnd (mTB ma env st) fun x st1 => if x = true then mb env st1 else some (.bl false, st1)
def mOrV (ma mb : M D) : M D := fun env st => bnd (mTB ma env st) fun x st1 => if x = true then some (.bl true, st1) else mb env st1
def mNotV (ma : M D) : M D := fun env st => bnd (mTB ma env st) fun x st1 => some (.bl (!x), st1)
theorem pm_one {op} (h : PM X a ma) : PM X (.BoolOp op [a] pos) ma := pe_one h
theorem pm_and (ha : PM X a ma) (hb : PM X (.BoolOp .And (b :: rest) pos) mb) : PM X (.BoolOp .And (a :: b :: rest) pos) (mAndV ma mb) :=
  imp_e (pe_and ha hb) fun σ H Q ⟨env, st, ρ, d, st', ro, rs, e, k⟩ => tB_core (test_core (Q := fun c H1 => if c = true then tM X.K mb σ H1 Q else Q (.bl false) H1) ro rs e fun x s1 H1 ρ1 e n rs1 ro1 => by
    cases x with
    | true => exact ⟨env, s1, ρ1, d, st', ro1, rs1, e, fun v H' ρ' n' rs' rv => k v H' ρ' (n.trans n') rs' rv⟩
    | false => cases e; exact k _ H1 ρ1 n rs1 rfl)
theorem pm_or (ha : PM X a ma) (hb : PM X (.BoolOp .Or (b :: rest) pos) mb) : PM X (.BoolOp .Or (a :: b :: rest) pos) (mOrV ma mb) :=
  imp_e (pe_or ha hb) fun σ H Q ⟨env, st, ρ, d, st', ro, rs, e, k⟩ => tB_core (test_core (Q := fun c H1 => if c = true then Q (.bl true) H1 else tM X.K mb σ H1 Q) ro rs e fun x s1 H1 ρ1 e n rs1 ro1 => by
    cases x with
    | false => exact ⟨env, s1, ρ1, d, st', ro1, rs1, e, fun v H' ρ' n' rs' rv => k v H' ρ' (n.trans n') rs' rv⟩
    | true => cases e; exact k _ H1 ρ1 n rs1 rfl)
theorem pm_not (ha : PM X a ma) : PM X (.UnaryOp .Not a pos) (mNotV ma) :=
  imp_e (pe_not ha) fun σ H Q ⟨env, st, ρ, d, st', ro, rs, e, k⟩ => tB_core (test_core (Q := fun c H1 => Q (.bl (!c)) H1) ro rs e fun x s1 H1 ρ1 e n rs1 ro1 => by
    cases e; exact k _ H1 ρ1 n rs1 rfl)

/-! ### argument lists, displays -/
def mNil : M (List D) := fun _ st => some ([], st)
def mCons (m : M D) (r : M (List D)) : M (List D) := fun env st => bnd (m env st) fun x st1 => bnd (r env st1) fun xs st2 => some (x :: xs, st2)
variable {e : Expr} {es : List Expr} {m : M D} {ms : M (List D)}
theorem pma_nil : PMA X [] mNil := imp_a pa_nil fun σ H Q ⟨env, st, ρ, d, st', ro, rs, e, k⟩ => by cases e; exact k [] H ρ (Nxt.refl _ _) rs rfl
theorem pma_cons (ha : PM X e m) (hr : PMA X es ms) (hs : starEach (e :: es) X.env = (false, eval e X.env) :: starEach es X.env := by rfl) : PMA X (e :: es) (mCons m ms) :=
  imp_a (pa_cons ha hr hs) fun σ H Q ⟨env, st, ρ, d, st', ro, rs, e, k⟩ => by
    obtain ⟨x, s1, e1, e⟩ := bnd_inv e
    obtain ⟨y, s2, e2, e⟩ := bnd_inv e
    cases e
    exact ⟨env, st, ρ, x, s1, ro, rs, e1, fun vx H1 ρ1 n1 rs1 rx => ⟨env, s1, ρ1, y, _, ro.nxt n1, rs1, e2, fun vy H2 ρ2 n2 rs2 ry => k _ H2 ρ2 (n1.trans n2) rs2 ⟨vx, vy, rfl, RV.nxt n2 _ _ rx, ry⟩⟩⟩
def mTup (ms : M (List D)) : M D := fun env st => bnd (ms env st) fun xs st1 => if xs.length ≤ 1000 then some (.tup xs, st1) else none
theorem sz1000 {n : Nat} (h : n ≤ 1000) : n ≤ sizeLine := Nat.le_trans h (by decide)
theorem pe_tupF {x1} {ta : TA} (h : PA X es ta) : PE X (.Tuple es x1 pos) (fun σ H Q => ta σ H fun xs H1 => xs.length ≤ sizeLine ∧ ∀ p o, H1 p = none → o.dict = none → Q (.ref p) (upd H1 p (.frz o (.tup xs)))) := by
  refine ⟨fun pins s σ H Q I hq => ?_⟩
  refine wpAny_Tuple_spliced (thn (h.run pos pins s σ H _ I hq) fun us s1 ⟨xs, H1, I1, r, z, q⟩ => ⟨by rw [← r.length]; exact z, ?_⟩)
  have hf : H1 s1.heap.objs.size = none := I1.hok.fresh (Nat.le_refl _)
  refine ⟨.ref s1.heap.objs.size, _, I1.laid (o := .frz { cls := .type "tuple", data := .seq us.toArray } (.tup xs)) (t' := s1.toks) (fun b u e => Heap.get?_push_of_some _ e) (Nat.le_refl _) ?_, rfl, q _ _ hf rfl⟩
  exact ⟨Heap.get?_push_size _ rfl, z, us, r, ⟨_, Heap.get?_push_size _ rfl, rfl, _, rfl⟩⟩
theorem pm_tup {x1} (h : PMA X es ms) : PM X (.Tuple es x1 pos) (mTup ms) :=
  imp_e (pe_tupF h) fun σ H Q ⟨env, st, ρ, d, st', ro, rs, e, k⟩ => by
    obtain ⟨x, s1, e1, e⟩ := bnd_inv e
    split at e
    · rename_i hl
      cases e
      refine ⟨env, st, ρ, x, _, ro, rs, e1, fun vx H1 ρ1 n1 rs1 rx => ⟨by rw [RVs.length rx]; exact sz1000 hl, fun p o hp ho => ?_⟩⟩
      exact k _ _ ρ1 (n1.trans (Nxt.laid rs1 hp)) (rs1.laid hp) ⟨p, vx, rfl, .inl ⟨rs1.out hp, o, upd_same, ho⟩, RVs.nxt (Nxt.laid rs1 hp) _ _ rx⟩
    · cases e
def mLst (ms : M (List D)) : M (List D) := fun env st => bnd (ms env st) fun xs st1 => if xs.length ≤ 1000 then some (xs, st1) else none
theorem pml_lst (h : PMA X es ms) : PML X (.List es pos) (mLst ms) :=
  imp_e (pe_lst h) fun σ H Q ⟨env, st, ρ, d, st', ro, rs, e, k⟩ => by
    obtain ⟨x, s1, e1, e⟩ := bnd_inv e
    split at e
    · rename_i hl
      cases e
      refine ⟨env, st, ρ, d, _, ro, rs, e1, fun vx H1 ρ1 n1 rs1 rx => ⟨by rw [RVs.length rx]; exact sz1000 hl, fun p hp => ?_⟩⟩
      exact k _ _ _ ρ1 n1 rs1 hp rx
    · cases e
/-- a new list that stays as it is; one that goes into the store -/
def mFrz (ms : M (List D)) : M D := fun env st => bnd (ms env st) fun xs st1 => some (.lst xs, st1)
def mMut (ms : M (List D)) : M D := fun env st => bnd (ms env st) fun xs st1 => some (.loc st1.length, st1 ++ [.lst xs])
theorem pm_frz (h : PML X e ms) : PM X e (mFrz ms) :=
  imp_e h fun σ H Q ⟨env, st, ρ, d, st', ro, rs, e, k⟩ => by
    obtain ⟨x, s1, e1, e⟩ := bnd_inv e
    cases e
    exact ⟨env, st, ρ, x, _, ro, rs, e1, fun p vs H1 ρ1 n1 rs1 hp rx => k _ _ ρ1 (n1.trans (Nxt.laid rs1 hp)) (rs1.laid hp) ⟨p, vs, rfl, ⟨rs1.out hp, upd_same⟩, RVs.nxt (Nxt.laid rs1 hp) _ _ rx⟩⟩
theorem pm_mut (h : PML X e ms) : PM X e (mMut ms) :=
  imp_e h fun σ H Q ⟨env, st, ρ, d, st', ro, rs, e, k⟩ => by
    obtain ⟨x, s1, e1, e⟩ := bnd_inv e
    cases e
    refine ⟨env, st, ρ, x, s1, ro, rs, e1, fun p vs H1 ρ1 n1 rs1 hp rx => ?_⟩
    refine k (.ref p) _ (ρ1.add p) (n1.trans (Nxt.alloc rs1 hp)) (rs1.alloc hp ⟨vs, upd_same, RVs.nxt (Nxt.alloc rs1 hp) _ _ rx⟩) ⟨p, rfl, ?_⟩
    rw [← rs1.len]
    simp [Rh.add]
/-- a new list, made a tuple at once: tuple([..]) -/
def mTupOf (ms : M (List D)) : M D := fun env st => bnd (ms env st) fun xs st1 => some (.tup xs, st1)
end
end Mn
end
section
set_option Elab.async false
set_option autoImplicit false
set_option linter.all false
set_option maxRecDepth 100000
set_option maxHeartbeats 2000000
/-! The mini layer, 3: statements, loops, defs and their calls. -/
namespace Mn
noncomputable section
open PySem PySem.Spec PyProof.Rows L2

/-! ### statements -/
def sNil : S := fun env st => some (.nx env, st)
def sSeq (a b : S) : S := fun env st => bnd (a env st) fun o st1 =>
  match o with
  | .nx env1 => b env1 st1
  | .bk env1 => some (.bk env1, st1)
  | .ct env1 => some (.ct env1, st1)
  | .rt d => some (.rt d, st1)
def sAsg (i : Nat) (m : M D) : S := fun env st => bnd (m env st) fun d st1 => some (.nx (env.set i (some d)), st1)
def sDrop (m : M D) : S := fun env st => bnd (m env st) fun _ st1 => some (.nx env, st1)
def sRet (m : M D) : S := fun env st => bnd (m env st) fun d st1 => some (.rt d, st1)
def sRetN : S := fun _ st => some (.rt .non, st)
def sIf (t : M Bool) (a b : S) : S := fun env st => bnd (t env st) fun x st1 => if x = true then a env st1 else b env st1
def sBreak : S := fun env st => some (.bk env, st)
def sCont : S := fun env st => some (.ct env, st)
def sNever : S := fun _ _ => none

/-- what is wanted of a state, from an earlier one -/
theorem AfterS.nxt {K : PySem.W.Frag} {ρ ρ' : Rh} {H H' : Hp} {o : Out} {st' : Store} {E : Ends} (n : Nxt ρ H ρ' H') (h : AfterS K ρ H o st' E) : AfterS K ρ' H' o st' E := by
  cases o with
  | nx env => exact fun σ2 H2 ρ2 n2 rs ro => h σ2 H2 ρ2 (n.trans n2) rs ro
  | bk env => exact fun σ2 H2 ρ2 n2 rs ro => h σ2 H2 ρ2 (n.trans n2) rs ro
  | ct env => exact fun σ2 H2 ρ2 n2 rs ro => h σ2 H2 ρ2 (n.trans n2) rs ro
  | rt d => exact fun v H2 ρ2 n2 rs rv => h v H2 ρ2 (n.trans n2) rs rv
section
variable {X : Cx} {st : Stmt} {rest : List Stmt} {m : M D} {t : M Bool} {a b : S} {e c : Expr} {es : List Expr} {pos : Pos}
theorem pms_nil : PMSs X [] sNil := imp_ss pss_nil fun E σ H ⟨env, st, ρ, o, st', ro, rs, e, k⟩ => by
  cases e
  exact k σ H ρ (Nxt.refl _ _) rs ro
theorem seq_core {K : PySem.W.Frag} {E : Ends} {σ : L2.St} {H : Hp} (h : tS K (sSeq a b) E σ H) : tSeq (tS K a) (tS K b) E σ H := by
  obtain ⟨env, st, ρ, o, st', ro, rs, e, k⟩ := h
  obtain ⟨o1, s1, e1, e⟩ := bnd_inv e
  refine ⟨env, st, ρ, o1, s1, ro, rs, e1, ?_⟩
  cases o1 with
  | nx env1 => exact fun σ' H' ρ' n rs' ro' => ⟨env1, s1, ρ', o, st', ro', rs', e, k.nxt n⟩
  | bk env1 => cases e; exact k
  | ct env1 => cases e; exact k
  | rt d => cases e; exact k
theorem pms_cons (h1 : PMS X st a) (h2 : PMSs X rest b) : PMSs X (st :: rest) (sSeq a b) := imp_ss (pss_cons h1 h2) fun _ _ _ h => seq_core h
theorem pms_one (h1 : PMS X st a) : PMSs X [st] a := pss_one h1
theorem pms_set {i : Nat} {x : Str} {pos' : Pos} (hN : X.N.Nodup) (he : PM X e m) (hi : X.N[i]? = some x := by rfl) (hx : Loc X.env.scope x := by first | exact .inl rfl | exact .inr rfl) (hs : swapsWith e (some (.Name x pos')) pos.line X.env = pure false := by rfl)
    (hf : X.fn x = true ∨ X.env.scope.names.lookup x = some .local := by first | exact .inl rfl | exact .inr rfl | assumption) :
    PMS X (.Assign [.Name x pos'] e pos) (sAsg i m) :=
  imp_s (ps_set hN hi hx he hs hf) fun E σ H ⟨env, st, ρ, o, st', ro, rs, e, k⟩ => by
    obtain ⟨d, s1, e1, e⟩ := bnd_inv e
    cases e
    exact ⟨env, st, ρ, d, _, ro, rs, e1, fun v H' ρ' n rs' rv => k _ H' ρ' n rs' ((ro.nxt n).set rv i)⟩
theorem pms_drop (he : PM X e m) (hs : swapsWith e none pos.line X.env = pure false := by rfl) : PMS X (.Expr e pos) (sDrop m) :=
  imp_s (ps_expr he hs) fun E σ H ⟨env, st, ρ, o, st', ro, rs, e, k⟩ => by
    obtain ⟨d, s1, e1, e⟩ := bnd_inv e
    cases e
    exact ⟨env, st, ρ, d, _, ro, rs, e1, fun v H' ρ' n rs' rv => k _ H' ρ' n rs' (ro.nxt n)⟩
theorem pms_ret (he : PM X e m) : PMS X (.Return (some e) pos) (sRet m) :=
  imp_s (ps_ret he) fun E σ H ⟨env, st, ρ, o, st', ro, rs, e, k⟩ => by
    obtain ⟨d, s1, e1, e⟩ := bnd_inv e
    cases e
    exact ⟨env, st, ρ, d, _, ro, rs, e1, k⟩
theorem pms_retN : PMS X (.Return none pos) sRetN :=
  imp_s ps_retN fun E σ H ⟨env, st, ρ, o, st', ro, rs, e, k⟩ => by
    cases e
    exact k _ H ρ (Nxt.refl _ _) rs rfl
theorem pms_if {A B : List Stmt} (hc : PMT X c t) (ha : PMSs X A a) (hb : PMSs X B b) : PMS X (.If c A B pos) (sIf t a b) :=
  imp_s (ps_if hc ha hb) fun E σ H ⟨env, st, ρ, o, st', ro, rs, e, k⟩ => test_core ro rs e fun x s1 H1 ρ1 e n rs1 ro1 => by
    cases x with
    | true => exact ⟨env, s1, ρ1, o, st', ro1, rs1, e, k.nxt n⟩
    | false => exact ⟨env, s1, ρ1, o, st', ro1, rs1, e, k.nxt n⟩
theorem pms_break : PMS X (.Break pos) sBreak := imp_s ps_break fun E σ H ⟨env, st, ρ, o, st', ro, rs, e, k⟩ => by
  cases e
  exact k σ H ρ (Nxt.refl _ _) rs ro
theorem pms_cont : PMS X (.Continue pos) sCont := imp_s ps_continue fun E σ H ⟨env, st, ρ, o, st', ro, rs, e, k⟩ => by
  cases e
  exact k σ H ρ (Nxt.refl _ _) rs ro
theorem pms_pass : PMS X (.Pass pos) sNil := imp_s ps_pass fun E σ H ⟨env, st, ρ, o, st', ro, rs, e, k⟩ => by
  cases e
  exact k σ H ρ (Nxt.refl _ _) rs ro
theorem pms_never : PMS X st sNever := imp_s ps_never fun E σ H ⟨env, st, ρ, o, st', ro, rs, e, k⟩ => by cases e

/-! ### while -/
def whN (t : M Bool) (a : S) : Nat → S
  | 0, _, _ => none
  | n + 1, env, st => bnd (t env st) fun x st1 => if x = true then bnd (a env st1) fun o st2 =>
      match o with
      | .nx env1 => whN t a n env1 st2
      | .ct env1 => whN t a n env1 st2
      | .bk env1 => some (.nx env1, st2)
      | .rt d => some (.rt d, st2)
    else some (.nx env, st1)
open Classical in
noncomputable def sWhile (t : M Bool) (a : S) : S := fun env st => if h : ∃ n r, whN t a n env st = some r then some (Classical.choose (Classical.choose_spec h)) else none
theorem whN_mono (t : M Bool) (a : S) : ∀ (n : Nat) (env : MEnv) (st : Store) (r : Out × Store), whN t a n env st = some r → ∀ m, n ≤ m → whN t a m env st = some r
  | 0, _, _, _, h, _, _ => by cases h
  | n + 1, env, st, r, h, m, hm => by
    obtain ⟨k, rfl⟩ : ∃ k, m = k + 1 := ⟨m - 1, by omega⟩
    unfold whN at h ⊢
    obtain ⟨x, s1, e1, h⟩ := bnd_inv h
    rw [e1, bnd_some]
    cases x with
    | false => exact h
    | true =>
      simp only [if_true] at h ⊢
      obtain ⟨o, s2, e2, h⟩ := bnd_inv h
      rw [e2, bnd_some]
      cases o with
      | nx env1 => exact whN_mono t a n env1 s2 r h k (by omega)
      | ct env1 => exact whN_mono t a n env1 s2 r h k (by omega)
      | bk env1 => exact h
      | rt d => exact h
theorem sWhile_of {env : MEnv} {st : Store} {n : Nat} {r : Out × Store} (h : whN t a n env st = some r) : sWhile t a env st = some r := by
  have hx : ∃ n r, whN t a n env st = some r := ⟨n, r, h⟩
  unfold sWhile
  rw [dif_pos hx]
  have h2 := Classical.choose_spec (Classical.choose_spec hx)
  have h3 := whN_mono t a _ _ _ _ h2 (n + Classical.choose hx) (by omega)
  have h4 := whN_mono t a _ _ _ _ h (n + Classical.choose hx) (by omega)
  rw [h3] at h4
  exact h4
theorem sWhile_inv {env : MEnv} {st : Store} {r : Out × Store} (h : sWhile t a env st = some r) : ∃ n, whN t a n env st = some r := by
  unfold sWhile at h
  split at h
  · rename_i hx
    cases h
    exact ⟨_, Classical.choose_spec (Classical.choose_spec hx)⟩
  · cases h
theorem while_core {K : PySem.W.Frag} {E : Ends} {σ : L2.St} {H : Hp} (h : tS K (sWhile t a) E σ H) : tWhile (tMT K t) (tS K a) E σ H := by
  obtain ⟨env0, st0, ρ0, o, st', ro0, rs0, e0, k0⟩ := h
  obtain ⟨n0, e0⟩ := sWhile_inv e0
  refine ⟨fun n σ H => ∃ env st ρ, RVo K ρ H env σ ∧ RepSt K ρ st H ∧ whN t a n env st = some (o, st') ∧ AfterS K ρ H o st' E, ⟨n0, env0, st0, ρ0, ro0, rs0, e0, k0⟩, ?_⟩
  rintro n σ1 H1 ⟨env, st, ρ, ro, rs, e, k⟩
  cases n with
  | zero => cases e
  | succ n =>
    unfold whN at e
    refine test_core ro rs e fun x s1 H2 ρ1 e n1 rs1 ro1 => ?_
    cases x with
    | false =>
      simp only [Bool.false_eq_true, if_false] at e ⊢
      cases e
      exact k σ1 H2 ρ1 n1 rs1 ro1
    | true =>
      simp only [if_true] at e ⊢
      refine ⟨fun σ H => ∃ env st ρ, RVo K ρ H env σ ∧ RepSt K ρ st H ∧ whN t a n env st = some (o, st') ∧ AfterS K ρ H o st' E, fun σ' H' h => ⟨n, by omega, h⟩, ?_⟩
      obtain ⟨o2, s2, e2, e⟩ := bnd_inv e
      refine ⟨env, s1, ρ1, o2, s2, ro1, rs1, e2, ?_⟩
      cases o2 with
      | nx env1 => exact fun σ' H' ρ' n' rs' ro' => ⟨env1, s2, ρ', ro', rs', e, (k.nxt n1).nxt n'⟩
      | ct env1 => exact fun σ' H' ρ' n' rs' ro' => ⟨env1, s2, ρ', ro', rs', e, (k.nxt n1).nxt n'⟩
      | bk env1 => cases e; exact fun σ' H' ρ' n' rs' ro' => k σ' H' ρ' (n1.trans n') rs' ro'
      | rt d => cases e; exact fun v H' ρ' n' rs' rv => k v H' ρ' (n1.trans n') rs' rv
theorem pms_while {B : List Stmt} (hp : PassesOwn (model X.prog X.w) X.A X.env X.xe) (hc : PMT X c t) (hb : PMSs X B a) : PMS X (.While c B [] pos) (sWhile t a) := imp_s (ps_while hp hc hb) fun _ _ _ h => while_core h
end

/-! ### targets -/
abbrev G := D → MEnv → Store → Option (MEnv × Store)
/-- only the slots vs change -/
def OnlyAt (vs : List Nat) (σ σ' : L2.St) : Prop := σ'.length = σ.length ∧ ∀ j, j ∉ vs → σ'[j]? = σ[j]?
theorem OnlyAt.refl (vs : List Nat) (σ : L2.St) : OnlyAt vs σ σ := ⟨rfl, fun _ _ => rfl⟩
theorem OnlyAt.trans {vs us : List Nat} {σ σ1 σ2 : L2.St} (a : OnlyAt vs σ σ1) (b : OnlyAt us σ1 σ2) : OnlyAt (vs ++ us) σ σ2 :=
  ⟨b.1.trans a.1, fun j h => (b.2 j fun z => h (List.mem_append_right _ z)).trans (a.2 j fun z => h (List.mem_append_left _ z))⟩
def tG (K : PySem.W.Frag) (vs : List Nat) (g : G) : TG := fun v σ H Q => ∃ d env st ρ env' st', RV K ρ H d v ∧ RVo K ρ H env σ ∧ RepSt K ρ st H ∧ g d env st = some (env', st') ∧
  ∀ σ' H' ρ', OnlyAt vs σ σ' → Nxt ρ H ρ' H' → RepSt K ρ' st' H' → RVo K ρ' H' env' σ' → Q σ' H'
abbrev PMG (X : Cx) (e : Expr) (vs : List Nat) (g : G) : Prop := PG X e (tG X.K vs g)
abbrev Gs := List D → MEnv → Store → Option (MEnv × Store)
def tGs (K : PySem.W.Frag) (vs : List Nat) (g : Gs) : TGs := fun xs σ H Q => ∃ ds env st ρ env' st', RVs K ρ H ds xs ∧ RVo K ρ H env σ ∧ RepSt K ρ st H ∧ g ds env st = some (env', st') ∧
  ∀ σ' H' ρ', OnlyAt vs σ σ' → Nxt ρ H ρ' H' → RepSt K ρ' st' H' → RVo K ρ' H' env' σ' → Q σ' H'
abbrev PMGs (X : Cx) (es : List Expr) (vs : List Nat) (g : Gs) : Prop := PGs X es (tGs X.K vs g)
theorem imp_g {X : Cx} {e : Expr} {t t' : TG} (h : PG X e t) (f : ∀ v σ H Q, t' v σ H Q → t v σ H Q) : PG X e t' := ⟨fun pins s σ H v u Q I r q => h.run pins s σ H v u Q I r (f v σ H Q q)⟩
theorem imp_gs {X : Cx} {e : List Expr} {t t' : TGs} (h : PGs X e t) (f : ∀ v σ H Q, t' v σ H Q → t v σ H Q) : PGs X e t' := ⟨fun pins s σ H v u Q I r q => h.run pins s σ H v u Q I r (f v σ H Q q)⟩
def gN (i : Nat) : G := fun d env st => some (env.set i (some d), st)
def gsN : Gs := fun ds env st => if ds.isEmpty then some (env, st) else none
def gsC (g : G) (r : Gs) : Gs := fun ds env st =>
  match ds with
  | [] => none
  | d :: ds => bnd (g d env st) fun env1 st1 => r ds env1 st1
/-- the items of a tuple or a list -/
def seqD (d : D) (st : Store) : Option (List D) :=
  match d with
  | .tup l => some l
  | .lst l => some l
  | .rol l => some l
  | .loc n => match st[n]? with
    | some (.lst l) => some l
    | _ => none
  | _ => none
def tupD (d : D) : Option (List D) :=
  match d with
  | .tup l => some l
  | .ptl l => some l
  | _ => none
def gT (n : Nat) (r : Gs) : G := fun d env st =>
  match tupD d with
  | some l => if l.length = n then r l env st else none
  | none => none
theorem FzT.seq {K : PySem.W.Frag} {ρ : Rh} {H : Hp} {a : Addr} {xs : List V} (h : FzT K ρ H a xs) : SqT K H a xs := by
  rcases h with ⟨_, o, h, _⟩ | h
  · exact .inl (.inr ⟨o, h⟩)
  · exact h.2 H
theorem FzP.seq {K : PySem.W.Frag} {ρ : Rh} {H : Hp} {a : Addr} {xs : List V} (h : FzP K ρ H a xs) : SqT K H a xs := by
  rcases h with h | h
  · exact h.2
  · exact h H
theorem FzL.seq {K : PySem.W.Frag} {ρ : Rh} {H : Hp} {a : Addr} {xs : List V} (h : FzL K ρ H a xs) : SqL K H a xs := by
  rcases h with h | h
  · exact h.2
  · exact h H
theorem seqD_ok {K : PySem.W.Frag} {ρ : Rh} {H : Hp} {st : Store} {d : D} {v : V} {l : List D} (rs : RepSt K ρ st H) (rv : RV K ρ H d v) (e : seqD d st = some l) : ∃ a xs, v = .ref a ∧ (SqL K H a xs ∨ SqT K H a xs) ∧ RVs K ρ H l xs := by
  cases d with
  | tup ds => cases e; obtain ⟨a, xs, e1, f, r⟩ := rv; exact ⟨a, xs, e1, .inr f.seq, r⟩
  | lst ds => cases e; obtain ⟨a, xs, e1, f, r⟩ := rv; exact ⟨a, xs, e1, .inl (SqL.of f.2), r⟩
  | rol ds => cases e; obtain ⟨a, xs, e1, f, r⟩ := rv; exact ⟨a, xs, e1, .inl f.seq, r⟩
  | loc n =>
    unfold seqD at e
    simp only at e
    split at e
    · rename_i l' h
      cases e
      obtain ⟨a, e1, e2, xs, e3, r⟩ := rs.at rv h
      exact ⟨a, xs, e1, .inl (SqL.of e3), r⟩
    · cases e
  | _ => cases e
section
variable {X : Cx} {st : Stmt} {m : M D} {e : Expr} {es : List Expr} {pos : Pos} {g : G} {gs : Gs} {vs us : List Nat}
theorem pmg_name {i : Nat} {x : Str} (hN : X.N.Nodup) (hi : X.N[i]? = some x := by rfl) (hx : Loc X.env.scope x := by first | exact .inl rfl | exact .inr rfl) (hf : X.fn x = true ∨ X.env.scope.names.lookup x = some .local := by first | exact .inl rfl | exact .inr rfl | assumption) : PMG X (.Name x pos) [i] (gN i) :=
  imp_g (pg_name hN hi hx hf) fun v σ H Q ⟨d, env, st, ρ, env', st', rv, ro, rs, e, k⟩ => by
    cases e
    refine k _ H ρ ⟨by simp, fun j hj => ?_⟩ (Nxt.refl _ _) rs (ro.set rv i)
    rw [List.getElem?_set_ne (fun z => hj (by simp [z]))]
theorem pmgs_nil : PMGs X [] [] gsN := imp_gs pgs_nil fun v σ H Q ⟨d, env, st, ρ, env', st', rv, ro, rs, e, k⟩ => by
  unfold gsN at e
  cases d with
  | nil => cases e; exact ⟨rv, k σ H ρ (OnlyAt.refl _ _) (Nxt.refl _ _) rs ro⟩
  | cons _ _ => cases e
theorem pmgs_cons (h1 : PMG X e vs g) (h2 : PMGs X es us gs) (hs : (assignEach (e :: es) X.env).map (·.2) = assign e X.env :: (assignEach es X.env).map (·.2) := by rfl) : PMGs X (e :: es) (vs ++ us) (gsC g gs) :=
  imp_gs (pgs_cons h1 h2 hs) fun v σ H Q ⟨ds, env, st, ρ, env', st', rv, ro, rs, e, k⟩ => by
    cases ds with
    | nil => cases e
    | cons d ds =>
      obtain ⟨v1, r1, e1, rv1, rv2⟩ := rv
      obtain ⟨env1, s1, e2, e⟩ := bnd_inv e
      exact ⟨v1, r1, e1, d, env, st, ρ, env1, s1, rv1, ro, rs, e2, fun σ' H' ρ' oa n rs' ro' => ⟨ds, env1, s1, ρ', env', st', RVs.nxt n _ _ rv2, ro', rs', e, fun σ2 H2 ρ2 ob n2 rs2 ro2 => k σ2 H2 ρ2 (oa.trans ob) (n.trans n2) rs2 ro2⟩⟩
theorem pmg_tup {k n : Nat} (hc : X.calm = true) (h : PMGs X es vs gs) (hn : (assignEach es X.env).length = n := by rfl) (hst : (assignEach es X.env).findIdx? (·.1) = none := by rfl) : PMG X (.Tuple es k pos) vs (gT n gs) :=
  imp_g (pg_tup hc h hn hst) fun v σ H Q ⟨d, env, st, ρ, env', st', rv, ro, rs, e, k⟩ => by
    unfold gT at e
    cases d with
    | tup ds =>
      simp only [tupD] at e
      split at e
      · rename_i hl
        obtain ⟨a, xs, e1, f, r⟩ := rv
        exact ⟨a, xs, e1, f.seq, by rw [RVs.length r]; exact hl, ds, env, st, ρ, env', st', r, ro, rs, e, k⟩
      · cases e
    | ptl ds =>
      simp only [tupD] at e
      split at e
      · rename_i hl
        obtain ⟨a, xs, e1, f, r⟩ := rv
        exact ⟨a, xs, e1, f.seq, by rw [RVs.length r]; exact hl, ds, env, st, ρ, env', st', r, ro, rs, e, k⟩
      · cases e
    | _ => cases e
/-- target = value -/
def sTgt (m : M D) (g : G) : S := fun env st => bnd (m env st) fun d st1 => bnd (g d env st1) fun env2 st2 => some (.nx env2, st2)
theorem pms_asg {tg : Expr} (he : PM X e m) (hg : PMG X tg vs g) (hs : swapsWithSole [tg] e pos.line X.env = pure false := by rfl) (hw : swappedStores [tg] e X.env = pure none := by rfl)
    (h1 : (assignEach [tg] X.env).map (·.2) = [assign tg X.env] := by rfl) : PMS X (.Assign [tg] e pos) (sTgt m g) :=
  imp_s (ps_asg he hg hs hw h1) fun E σ H ⟨env, st, ρ, o, st', ro, rs, e, k⟩ => by
    obtain ⟨d, s1, e1, e⟩ := bnd_inv e
    obtain ⟨env2, s2, e2, e⟩ := bnd_inv e
    cases e
    exact ⟨env, st, ρ, d, s1, ro, rs, e1, fun v H' ρ' n rs' rv => ⟨d, env, s1, ρ', env2, _, rv, ro.nxt n, rs', e2, fun σ2 H2 ρ2 _ n2 rs2 ro2 => k σ2 H2 ρ2 (n.trans n2) rs2 ro2⟩⟩
/-- a, b = x, y with plain local names -/
def sPar (i j : Nat) (ms : M (List D)) : S := fun env st => bnd (ms env st) fun ds st1 =>
  match ds with
  | [x, y] => some (.nx ((env.set i (some x)).set j (some y)), st1)
  | _ => none
theorem pms_par {i j : Nat} {x y : Str} {a b : Expr} {ms : M (List D)} {px py pt : Pos} {kt k2 pt2} (hN : X.N.Nodup) (ha : PMA X [a, b] ms) (hc : X.calm = true := by rfl) (hi : X.N[i]? = some x := by rfl) (hj : X.N[j]? = some y := by rfl) (hij : i ≠ j := by decide)
    (hx : X.env.scope.names.lookup x = some .local := by rfl) (hy : X.env.scope.names.lookup y = some .local := by rfl)
    (hw : swappedStores [.Tuple [.Name x px, .Name y py] kt pt] (.Tuple [a, b] k2 pt2) X.env = pure (some [x, y]) := by rfl)
    (hs : swapsWithSole [.Tuple [.Name x px, .Name y py] kt pt] (.Tuple [a, b] k2 pt2) pos.line X.env = pure false := by rfl) :
    PMS X (.Assign [.Tuple [.Name x px, .Name y py] kt pt] (.Tuple [a, b] k2 pt2) pos) (sPar i j ms) :=
  imp_s (ps_par hc hN hi hj hij hx hy ha hw hs) fun E σ H ⟨env, st, ρ, o, st', ro, rs, e, k⟩ => by
    obtain ⟨ds, s1, e1, e⟩ := bnd_inv e
    refine ⟨env, st, ρ, ds, s1, ro, rs, e1, fun vs H' ρ' n rs' rv => ?_⟩
    split at e
    · rename_i x y
      cases e
      obtain ⟨v1, r1, rfl, h1, v2, r2, rfl, h2, rfl⟩ := rv
      exact ⟨v1, v2, rfl, k _ H' ρ' n rs' (((ro.nxt n).set h1 i).set h2 j)⟩
    · cases e
end

/-! ### for -/
/-- over items that stand -/
def forL (g : G) (b : S) : List D → S
  | [], env, st => some (.nx env, st)
  | x :: xs, env, st => bnd (g x env st) fun env1 st1 => bnd (b env1 st1) fun o st2 =>
    match o with
    | .nx env2 => forL g b xs env2 st2
    | .ct env2 => forL g b xs env2 st2
    | .bk env2 => some (.nx env2, st2)
    | .rt d => some (.rt d, st2)
/-- what a loop's or a comprehension's items are: they stand while the loop runs -/
def itD (d : D) : Option (List D) :=
  match d with
  | .tup l => some l
  | .lst l => some l
  | .rol l => some l
  | _ => none
/-- an iterator over given items: how each comes -/
structure ItOk (K : PySem.W.Frag) (J : It) (ρ : Rh) (H : Hp) (n : Nat) (item : Nat → D → Prop) : Prop where
  go : ∀ i ρ' H' , Nx0 ρ H ρ' H' → i < n → J.go i H'
  stop : ∀ ρ' H', Nx0 ρ H ρ' H' → J.stop n H'
  yld : ∀ i ρ' H' x H2 st, Nx0 ρ H ρ' H' → RepSt K ρ' st H' → i < n → J.yld i H' x H2 → ∃ d, item i d ∧ RV K ρ' H2 d x ∧ Nxt ρ' H' ρ' H2 ∧ RepSt K ρ' st H2
abbrev Items (ds : List D) : Nat → D → Prop := fun i d => ds[i]? = some d
/-- iterating: the expression's value (or a range), then its items -/
def tMI (K : PySem.W.Frag) (mi : M (List D)) : TI := fun σ H R => ∃ env st ρ ds st', RVo K ρ H env σ ∧ RepSt K ρ st H ∧ mi env st = some (ds, st') ∧
  ∀ J H' ρ', Nxt ρ H ρ' H' → RepSt K ρ' st' H' → ItOk K J ρ' H' ds.length (Items ds) → R J H'
abbrev PMI (X : Cx) (tg e : Expr) (m : M (List D)) : Prop := PI X tg e (tMI X.K m)
theorem imp_i {X : Cx} {tg e : Expr} {t t' : TI} (h : PI X tg e t) (f : ∀ σ H Q, t' σ H Q → t σ H Q) : PI X tg e t' := ⟨fun pins s σ H R I q => h.run pins s σ H R I (f σ H R q)⟩
def sFor (mi : M (List D)) (g : G) (b : S) : S := fun env st => bnd (mi env st) fun ds st1 => forL g b ds env st1
theorem drop_cons {ds : List D} {i : Nat} (h : i < ds.length) : ds.drop i = ds[i] :: ds.drop (i + 1) := List.drop_eq_getElem_cons h
theorem for_core {K : PySem.W.Frag} {vs : List Nat} {mi : M (List D)} {g : G} {b : S} {E : Ends} {σ : L2.St} {H : Hp} (h : tS K (sFor mi g b) E σ H) : tFor (tMI K mi) (tG K vs g) (tS K b) E σ H := by
  obtain ⟨env0, st0, ρ0, o, st', ro0, rs0, e0, k0⟩ := h
  obtain ⟨ds, s1, e1, e0⟩ := bnd_inv e0
  refine ⟨env0, st0, ρ0, ds, s1, ro0, rs0, e1, fun J H1 ρ1 n1 rs1 ok => ?_⟩
  refine ⟨fun i m σ H => m + i = ds.length ∧ ∃ env st ρ, Nxt ρ1 H1 ρ H ∧ RVo K ρ H env σ ∧ RepSt K ρ st H ∧ forL g b (ds.drop i) env st = some (o, st') ∧ AfterS K ρ H o st' E,
    ⟨ds.length, rfl, env0, s1, ρ1, Nxt.refl _ _, ro0.nxt n1, rs1, e0, k0.nxt n1⟩, ?_⟩
  rintro i m σ2 H2 ⟨hm, env, st, ρ, n2, ro, rs, e, k⟩
  by_cases hi : i < ds.length
  · refine .inr ⟨ok.go i ρ H2 n2.toNx0 hi, fun σ H => ∃ env st ρ, Nxt ρ1 H1 ρ H ∧ RVo K ρ H env σ ∧ RepSt K ρ st H ∧ forL g b (ds.drop (i + 1)) env st = some (o, st') ∧ AfterS K ρ H o st' E, fun σ' H' h => ⟨m - 1, by omega, by omega, h⟩, fun x H3 hy => ?_⟩
    obtain ⟨d, hd, rx, n3, rs3⟩ := ok.yld i ρ H2 x H3 st n2.toNx0 rs hi hy
    have hd' : ds[i] = d := by
      have : ds[i]? = some d := hd
      rw [List.getElem?_eq_getElem hi] at this
      exact Option.some.inj this
    rw [drop_cons hi, hd'] at e
    unfold forL at e
    obtain ⟨env2, s2, e2, e⟩ := bnd_inv e
    refine ⟨d, env, st, ρ, env2, s2, rx, ro.nxt n3, rs3, e2, fun σ4 H4 ρ4 _ n4 rs4 ro4 => ?_⟩
    obtain ⟨o5, s5, e5, e⟩ := bnd_inv e
    refine ⟨env2, s2, ρ4, o5, s5, ro4, rs4, e5, ?_⟩
    have nn := n2.trans (n3.trans n4)
    have k4 := k.nxt (n3.trans n4)
    cases o5 with
    | nx env1 => exact fun σ' H' ρ' n' rs' ro' => ⟨env1, s5, ρ', nn.trans n', ro', rs', e, k4.nxt n'⟩
    | ct env1 => exact fun σ' H' ρ' n' rs' ro' => ⟨env1, s5, ρ', nn.trans n', ro', rs', e, k4.nxt n'⟩
    | bk env1 => cases e; exact k4
    | rt d => cases e; exact k4
  · have hi2 : i = ds.length := by omega
    subst hi2
    refine .inl ⟨ok.stop ρ H2 n2.toNx0, ?_⟩
    rw [List.drop_length] at e
    cases e
    exact k σ2 H2 ρ (Nxt.refl _ _) rs ro
section
variable {X : Cx} {m : M D} {e tg : Expr} {pos : Pos} {g : G} {vs : List Nat}
theorem pms_for {mi : M (List D)} {b : S} {B : List Stmt} (hp : PassesOwn (model X.prog X.w) X.A X.env X.xe) (hi : PMI X tg e mi) (hg : PMG X tg vs g) (hb : PMSs X B b) (hc : X.calm = true := by rfl) (hs : ∀ x, foldedSetIterable e X.env x = pure x := by intro _; rfl) :
    PMS X (.For tg e B [] pos) (sFor mi g b) := imp_s (ps_for hp hc hi hg hb hs) fun _ _ _ h => for_core h
/-- a tuple or a frozen list -/
def miSeq (m : M D) : M (List D) := fun env st => bnd (m env st) fun d st1 => ret1 (itD d) st1
theorem itD_ok {K : PySem.W.Frag} {ρ : Rh} {H : Hp} {d : D} {v : V} {l : List D} (rv : RV K ρ H d v) (e : itD d = some l) :
    ∃ a xs, v = .ref a ∧ RVs K ρ H l xs ∧ ((∀ ρ' H', Nx0 ρ H ρ' H' → SqL K H' a xs) ∨ (∀ ρ' H', Nx0 ρ H ρ' H' → SqT K H' a xs)) := by
  cases d with
  | tup ds => cases e; obtain ⟨a, xs, e1, f, r⟩ := rv; exact ⟨a, xs, e1, r, .inr fun ρ' H' n => (f.nxt n).seq⟩
  | lst ds => cases e; obtain ⟨a, xs, e1, f, r⟩ := rv; exact ⟨a, xs, e1, r, .inl fun ρ' H' n => SqL.of (n.keep _ _ f.1 f.2)⟩
  | rol ds => cases e; obtain ⟨a, xs, e1, f, r⟩ := rv; exact ⟨a, xs, e1, r, .inl fun ρ' H' n => (f.nxt n).seq⟩
  | _ => cases e
theorem yld_of {K : PySem.W.Frag} {ρ ρ' : Rh} {H H' : Hp} {ds : List D} {xs : List V} {i : Nat} {x : V} {st : Store} (r : RVs K ρ H ds xs) (n : Nx0 ρ H ρ' H') (rs : RepSt K ρ' st H') (hi : i < ds.length) (hx : xs[i]? = some x) :
    ∃ d, Items ds i d ∧ RV K ρ' H' d x ∧ Nxt ρ' H' ρ' H' ∧ RepSt K ρ' st H' := by
  obtain ⟨v, h1, h2⟩ := RVs.get r (List.getElem?_eq_getElem hi)
  rw [hx] at h1
  cases h1
  exact ⟨_, List.getElem?_eq_getElem hi, RV.nx0 n _ _ h2, Nxt.refl _ _, rs⟩
/-- both kinds of sequences, at the iterator -/
theorem pi_seq {l : Expr} {tl : TE} (hl : PE X l tl) : PI X tg l (fun σ H R => tl σ H fun x H1 => ∃ a, x = .ref a ∧ (((∃ xs, SqL X.K H1 a xs) ∧ R (Itl X.K a) H1) ∨ ((∃ xs, SqT X.K H1 a xs) ∧ R (Itt X.K a) H1))) := by
  refine ⟨fun pins s σ H R I h => ?_⟩
  refine thn (hl.run pins s σ H _ I h) fun v s1 ⟨x, H1, I1, r1, q1⟩ => ?_
  obtain ⟨a, e, q⟩ := q1
  subst e
  cases r1
  rcases q with ⟨⟨xs, hq⟩, q⟩ | ⟨⟨xs, hq⟩, q⟩
  · obtain ⟨its, rv, p, hz⟩ := I1.list hq
    refine wpAny_pyIter_list p.isList ?_
    refine ⟨s1.heap.objs.size, [s1.heap.objs.size], _, _, H1, rfl, I1.kept (t' := s1.toks) fun b o e => Heap.get?_push_of_some _ e, turn_list a _, ⟨_, Heap.get?_push_size _ rfl, rfl, rfl⟩, fun b hb => ?_, q⟩
    have e : b = s1.heap.objs.size := by simpa using hb
    subst e
    exact I1.fpOk (Nat.le_refl _) (I1.hok.fresh (Nat.le_refl _))
  · obtain ⟨its, rv, p, hz⟩ := I1.tuple hq
    refine wpAny_pyIter_tuple (show s1.heap.IsTuple a its.toArray from p) ?_
    refine ⟨s1.heap.objs.size, [s1.heap.objs.size], _, _, H1, rfl, I1.kept (t' := s1.toks) fun b o e => Heap.get?_push_of_some _ e, turn_tuple a _, ⟨_, Heap.get?_push_size _ rfl, rfl, rfl⟩, fun b hb => ?_, q⟩
    have e : b = s1.heap.objs.size := by simpa using hb
    subst e
    exact I1.fpOk (Nat.le_refl _) (I1.hok.fresh (Nat.le_refl _))
theorem pmi_seq (h : PM X e m) : PMI X tg e (miSeq m) :=
  imp_i (pi_seq h) fun σ H R ⟨env, st, ρ, ds, st', ro, rs, e, k⟩ => by
    obtain ⟨d, s1, e1, e⟩ := bnd_inv e
    obtain ⟨e2, e3⟩ := ret1_inv e
    cases e3
    refine ⟨env, st, ρ, d, _, ro, rs, e1, fun v H' ρ' n rs' rv => ?_⟩
    obtain ⟨a, xs, ev, r, hq⟩ := itD_ok rv e2
    have hl := RVs.length r
    refine ⟨a, ev, ?_⟩
    rcases hq with hq | hq
    · refine .inl ⟨⟨xs, hq _ _ (Nx0.refl _ _)⟩, k _ H' ρ' n rs' ⟨fun i ρ2 H2 n2 hi => ?_, fun ρ2 H2 n2 => ⟨xs, hq _ _ n2, by rw [hl]; exact Nat.le_refl _⟩, fun i ρ2 H2 x H3 st2 n2 rs2 hi hy => ?_⟩⟩
      · have h2 : i < xs.length := by rw [hl]; exact hi
        exact ⟨xs, xs[i], hq _ _ n2, List.getElem?_eq_getElem h2⟩
      · obtain ⟨e5, hy⟩ := hy
        subst e5
        exact yld_of r n2 rs2 hi (hy xs (hq _ _ n2))
    · refine .inr ⟨⟨xs, hq _ _ (Nx0.refl _ _)⟩, k _ H' ρ' n rs' ⟨fun i ρ2 H2 n2 hi => ?_, fun ρ2 H2 n2 => ⟨xs, hq _ _ n2, by rw [hl]; exact Nat.le_refl _⟩, fun i ρ2 H2 x H3 st2 n2 rs2 hi hy => ?_⟩⟩
      · have h2 : i < xs.length := by rw [hl]; exact hi
        exact ⟨xs, xs[i], hq _ _ n2, List.getElem?_eq_getElem h2⟩
      · obtain ⟨e5, hy⟩ := hy
        subst e5
        exact yld_of r n2 rs2 hi (hy xs (hq _ _ n2))
/-- range -/
def rngL (lo : Int) (n : Nat) : List D := (List.range n).map fun i => .int (lo + (i : Nat))
theorem rngL_length (lo : Int) (n : Nat) : (rngL lo n).length = n := by simp [rngL]
theorem rng_ok (K : PySem.W.Frag) (lo : Int) (n : Nat) (ρ : Rh) (H : Hp) : ItOk K (Itr lo n) ρ H (rngL lo n).length (Items (rngL lo n)) := by
  rw [rngL_length]
  refine ⟨fun i ρ' H' n' hi => hi, fun ρ' H' n' => Nat.le_refl _, fun i ρ' H' x H2 st n' rs hi hy => ?_⟩
  obtain ⟨e1, e2⟩ := hy
  subst e1; subst e2
  exact ⟨.int (lo + i), by simp [Items, rngL, hi], rfl, Nxt.refl _ _, rs⟩
def miR1 (ms : M (List D)) : M (List D) := fun env st => bnd (ms env st) fun ds st1 =>
  match ds with
  | [.int j] => @ite _ (-(2 ^ 32) < j ∧ j < 2 ^ 32) (Classical.propDecidable _) (some (rngL 0 j.toNat, st1)) none
  | _ => none
def miR2 (ms : M (List D)) : M (List D) := fun env st => bnd (ms env st) fun ds st1 =>
  match ds with
  | [.int i, .int j] => @ite _ ((-(2 ^ 32) < i ∧ i < 2 ^ 32) ∧ -(2 ^ 32) < j ∧ j < 2 ^ 32) (Classical.propDecidable _) (some (rngL i (j - i).toNat, st1)) none
  | _ => none
theorem pmi_r1 {a : Expr} {ms : M (List D)} {p : Pos} (hm : X.mg "range" = none) (ha : PMA X [a] ms) (hg : Gl X "range" := by rfl) (hs : starEach [a] X.env = [(false, eval a X.env)] := by rfl) : PMI X tg (.Call (.Name "range" p) [a] [] pos) (miR1 ms) :=
  imp_i (pi_range1 hg hm ha hs) fun σ H R ⟨env, st, ρ, ds, st', ro, rs, e, k⟩ => by
    obtain ⟨d, s1, e1, e⟩ := bnd_inv e
    refine ⟨env, st, ρ, d, s1, ro, rs, e1, fun vs H' ρ' n rs' rv => ?_⟩
    split at e
    · rename_i j
      split at e
      · rename_i h
        cases e
        obtain ⟨v, r, rfl, rfl, rfl⟩ := rv
        exact ⟨j, rfl, by omega, by omega, k _ H' ρ' n rs' (rng_ok X.K 0 j.toNat ρ' H')⟩
      · cases e
    · cases e
theorem pmi_r2 {a b : Expr} {ms : M (List D)} {p : Pos} (hm : X.mg "range" = none) (ha : PMA X [a, b] ms) (hg : Gl X "range" := by rfl) (hs : starEach [a, b] X.env = [(false, eval a X.env), (false, eval b X.env)] := by rfl) (hs2 : starEach [b] X.env = [(false, eval b X.env)] := by rfl) :
    PMI X tg (.Call (.Name "range" p) [a, b] [] pos) (miR2 ms) :=
  imp_i (pi_range2 hg hm ha hs hs2) fun σ H R ⟨env, st, ρ, ds, st', ro, rs, e, k⟩ => by
    obtain ⟨d, s1, e1, e⟩ := bnd_inv e
    refine ⟨env, st, ρ, d, s1, ro, rs, e1, fun vs H' ρ' n rs' rv => ?_⟩
    split at e
    · rename_i i j
      split at e
      · rename_i h
        cases e
        obtain ⟨v, r, rfl, rfl, v2, r2, rfl, rfl, rfl⟩ := rv
        exact ⟨i, j, rfl, ⟨by omega, by omega, by omega, by omega⟩, k _ H' ρ' n rs' (rng_ok X.K i (j - i).toNat ρ' H')⟩
      · cases e
    · cases e
end
end
end Mn
end
section
set_option Elab.async false
set_option autoImplicit false
set_option linter.all false
set_option maxRecDepth 100000
set_option maxHeartbeats 2000000
/-! The mini layer, 4: comprehensions; defs and their calls. -/
namespace Mn
noncomputable section
open PySem PySem.Spec PyProof.Rows L2

/-! ### comprehensions -/
def wipeE (env : MEnv) : List Nat → MEnv
  | [] => env
  | v :: vs => (wipeE env vs).set v none
theorem wipe_in {σ : L2.St} {i : Nat} : ∀ {vs : List Nat}, i ∈ vs → (wipe σ vs)[i]? = if i < σ.length then some none else none
  | v :: vs, h => by
    unfold wipe
    by_cases hv : v = i
    · subst hv
      by_cases hl : v < σ.length
      · rw [List.getElem?_set_self (by rw [wipe_length]; exact hl), if_pos hl]
      · rw [List.getElem?_eq_none (by rw [List.length_set, wipe_length]; omega), if_neg hl]
    · rw [List.getElem?_set_ne hv]
      rcases List.mem_cons.mp h with e | h
      · exact absurd e.symm hv
      · exact wipe_in h
theorem wipe_eq {σ σ' : L2.St} {vs : List Nat} (o : OnlyAt vs (wipe σ vs) σ') : wipe σ' vs = wipe σ vs := by
  apply List.ext_getElem?
  intro i
  by_cases h : i ∈ vs
  · rw [wipe_in h, wipe_in h, o.1, wipe_length]
  · rw [wipe_out h, o.2 i h]
theorem wipeE_length (env : MEnv) : ∀ vs : List Nat, (wipeE env vs).length = env.length
  | [] => rfl
  | v :: vs => by unfold wipeE; rw [List.length_set, wipeE_length env vs]
theorem RVo.wipe {K : PySem.W.Frag} {ρ : Rh} {H : Hp} {env : MEnv} {σ : L2.St} (r : RVo K ρ H env σ) : ∀ vs : List Nat, RVo K ρ H (wipeE env vs) (L2.wipe σ vs)
  | [] => r
  | v :: vs => by
    have q := r.wipe vs
    refine ⟨by rw [wipeE_length, L2.wipe_length]; exact r.1, fun i d e => ?_⟩
    unfold wipeE at e
    unfold L2.wipe
    by_cases hv : v = i
    · subst hv
      have hl := (List.getElem?_eq_some_iff.mp e).1
      rw [List.getElem?_set_self (by simpa using hl)] at e
      cases e
    · rw [List.getElem?_set_ne hv] at e ⊢
      exact q.2 i d e
/-- the items' turns -/
def lcL (g : G) (t : M Bool) (elt : M D) (env : MEnv) : List D → Store → Option (List D × Store)
  | [], st => some ([], st)
  | x :: xs, st => bnd (g x env st) fun env1 st1 => bnd (t env1 st1) fun b st2 =>
    if b = true then bnd (elt env1 st2) fun d st3 => bnd (lcL g t elt env xs st3) fun r st4 => some (d :: r, st4)
    else lcL g t elt env xs st2
def mLc (vs : List Nat) (mi : M (List D)) (g : G) (t : M Bool) (elt : M D) : M (List D) := fun env st => bnd (mi env st) fun ds st1 =>
  @ite _ (ds.length ≤ 1000000) (Classical.propDecidable _) (lcL g t elt (wipeE env vs) ds st1) none
theorem sz1m {n : Nat} (h : n < 1000000) : n < sizeLine := Nat.lt_of_lt_of_le h (by decide)
theorem sz1m' {n : Nat} (h : n ≤ 1000000) : n ≤ sizeLine := Nat.le_trans h (by decide)
theorem lc_mcore {K : PySem.W.Frag} {vs : List Nat} {mi : M (List D)} {g : G} {t : M Bool} {elt : M D} {σ : L2.St} {H : Hp} {Q : VK} (h : tML K (mLc vs mi g t elt) σ H Q) : tLc (tMI K mi) (tG K vs g) (tMT K t) (tM K elt) vs σ H Q := by
  obtain ⟨env0, st0, ρ0, out, st', ro0, rs0, e0, k0⟩ := h
  obtain ⟨ds, s1, e1, e0⟩ := bnd_inv e0
  refine ⟨env0, st0, ρ0, ds, s1, ro0, rs0, e1, fun J H1 ρ1 n1 rs1 ok => ?_⟩
  split at e0
  case isFalse => cases e0
  rename_i hsz
  intro D hD
  have ro1 : RVo K ρ1 H1 (wipeE env0 vs) (wipe σ vs) := (ro0.nxt n1).wipe vs
  have neD : ∀ a, a ∈ ρ1.x → a ≠ D := fun a z => by
    obtain ⟨u, q⟩ := rs1.exo a z
    exact ne_of_none q hD
  refine ⟨fun i m H => m + i = ds.length ∧ ∃ (acc r : List Mn.D) (vacc : List V) (st : Store) (ρ : Rh), out = acc ++ r ∧ Nx0 ρ1 H1 ρ H ∧ ρ.x = D :: ρ1.x ∧ RepSt K ρ st H ∧ H D = some (.lst vacc) ∧ (∀ a, a ∈ ρ1.x → H a = H1 a) ∧ RVs K ρ H acc vacc ∧ acc.length ≤ i ∧ lcL g t elt (wipeE env0 vs) (ds.drop i) st = some (r, st'),
    ⟨ds.length, rfl, [], out, [], s1, ρ1.hid D, rfl, Nx0.hide hD, rfl, rs1.hide hD, upd_same, fun a z => upd_ne (neD a z), rfl, Nat.le_refl _, e0⟩, ?_⟩
  rintro i m H2 ⟨hm, acc, r, vacc, st, ρ, eo, n2, hx, rs, hDv, hh, ra, hacc, e⟩
  have hDin : ρ.In D := .inr (by rw [hx]; exact List.mem_cons_self)
  have hDin : D ∈ ρ.x := by rw [hx]; exact List.mem_cons_self
  by_cases hi : i < ds.length
  · refine .inr ⟨ok.go i _ H2 n2 hi, fun H => ∃ (acc r : List Mn.D) (vacc : List V) (st : Store) (ρ : Rh), out = acc ++ r ∧ Nx0 ρ1 H1 ρ H ∧ ρ.x = D :: ρ1.x ∧ RepSt K ρ st H ∧ H D = some (.lst vacc) ∧ (∀ a, a ∈ ρ1.x → H a = H1 a) ∧ RVs K ρ H acc vacc ∧ acc.length ≤ i + 1 ∧ lcL g t elt (wipeE env0 vs) (ds.drop (i + 1)) st = some (r, st'),
      fun H' h => ⟨m - 1, by omega, by omega, h⟩, fun x H3 hy => ?_⟩
    obtain ⟨d, hd, rx, n3, rs3⟩ := ok.yld i ρ H2 x H3 st n2 rs hi hy
    have hd' : ds[i] = d := by
      have : ds[i]? = some d := hd
      rw [List.getElem?_eq_getElem hi] at this
      exact Option.some.inj this
    rw [drop_cons hi, hd'] at e
    unfold lcL at e
    obtain ⟨env2, s2, e2, e⟩ := bnd_inv e
    have n23 := n2.trans n3.toNx0
    have ro3 : RVo K ρ H3 (wipeE env0 vs) (wipe σ vs) := ⟨ro1.1, fun j d' ej => by
      obtain ⟨v, h1, h2⟩ := ro1.2 j d' ej
      exact ⟨v, h1, RV.nx0 n23 d' v h2⟩⟩
    refine ⟨d, wipeE env0 vs, st, ρ, env2, s2, rx, ro3, rs3, e2, fun σ4 H4 ρ4 oa n4 rs4 ro4 => ⟨wipe_eq oa, ?_⟩⟩
    obtain ⟨b, s5, e5, e⟩ := bnd_inv e
    refine ⟨env2, s2, ρ4, b, s5, ro4, rs4, e5, fun H5 ρ5 n5 rs5 => ?_⟩
    have nn5 : Nxt ρ H2 ρ5 H5 := n3.trans (n4.trans n5)
    have hx5 : ρ5.x = D :: ρ1.x := nn5.ex.trans hx
    cases b with
    | false =>
      simp only [Bool.false_eq_true, if_false] at e ⊢
      exact ⟨acc, r, vacc, s5, ρ5, eo, n2.trans nn5.toNx0, hx5, rs5, (nn5.hid D hDin).trans hDv, fun a z => (nn5.hid a (by rw [hx]; exact List.mem_cons_of_mem _ z)).trans (hh a z), RVs.nxt nn5 _ _ ra, by omega, e⟩
    | true =>
      simp only [if_true] at e ⊢
      obtain ⟨d6, s6, e6, e⟩ := bnd_inv e
      obtain ⟨r7, s7, e7, e⟩ := bnd_inv e
      cases e
      refine ⟨env2, s5, ρ5, d6, s6, ro4.nxt n5, rs5, e6, fun v6 H6 ρ6 n6 rs6 rv6 => ?_⟩
      have nn6 : Nxt ρ H2 ρ6 H6 := nn5.trans n6
      have hx6 : ρ6.x = D :: ρ1.x := nn6.ex.trans hx
      have hD6 : D ∈ ρ6.x := by rw [hx6]; exact List.mem_cons_self
      refine ⟨vacc, (nn6.hid D hDin).trans hDv, ?_, ?_⟩
      · rw [RVs.length ra]
        exact sz1m (by omega)
      · have w : Nx0 ρ6 H6 ρ6 (upd H6 D (.lst (vacc ++ [v6]))) := Nx0.write (.inr hD6)
        refine ⟨acc ++ [d6], r7, vacc ++ [v6], s6, ρ6, by rw [eo]; simp, (n2.trans nn6.toNx0).trans w, hx6, rs6.rehid hD6, upd_same, fun a z => (upd_ne (neD a z)).trans ((nn6.hid a (by rw [hx]; exact List.mem_cons_of_mem _ z)).trans (hh a z)), ?_, by simp; omega, e7⟩
        exact RVs.append (RVs.nx0 (nn6.toNx0.trans w) _ _ ra) (RVs.one (RV.nx0 w _ _ rv6))
  · have hi2 : i = ds.length := by omega
    subst hi2
    refine .inl ⟨ok.stop ρ H2 n2, ?_⟩
    rw [List.drop_length] at e
    cases e
    obtain ⟨rsb, hDo⟩ := rs.bare hx
    rw [List.append_nil] at eo
    subst eo
    have hDr : ρ.In D := .inr hDin
    -- the heap without D
    have ne : ∀ {a : Addr} {o : HO}, a ≠ D → (if a = D then none else H2 a) = H2 a := fun {a o} h => if_neg h
    have er : upd (fun a => if a = D then none else H2 a) D (.lst vacc) = H2 := by
      funext a
      by_cases h : a = D
      · subst h; rw [upd_same, hDv]
      · rw [upd_ne h, if_neg h]
    have less : Nx0 ρ H2 ⟨ρ.l, ρ1.x⟩ (fun a => if a = D then none else H2 a) :=
      ⟨fun _ _ z => z, fun a o z q => by
        have h : a ≠ D := fun y => z (by rw [y]; exact hDr)
        show (if a = D then none else H2 a) = some o
        rw [if_neg h]; exact q, fun a z => .inl (z.elim .inl fun q => .inr (by rw [hx]; exact List.mem_cons_of_mem _ q))⟩
    have nall : Nxt ρ1 H1 ⟨ρ.l, ρ1.x⟩ (fun a => if a = D then none else H2 a) :=
      ⟨⟨n2.pre, fun a o z q => by
        have h : a ≠ D := ne_of_none q hD
        show (if a = D then none else H2 a) = some o
        rw [if_neg h]; exact n2.keep a o z q, fun a z => n2.new a (z.elim .inl fun q => .inr (by rw [hx]; exact List.mem_cons_of_mem _ q))⟩, rfl, fun a z => by
        show (if a = D then none else H2 a) = H1 a
        rw [if_neg (neD a z)]; exact hh a z⟩
    have rse : RepSt K ⟨ρ.l, ρ1.x⟩ st' (fun a => if a = D then none else H2 a) :=
      ⟨rsb.nd, rsb.len, fun a z => by
        obtain ⟨u, q⟩ := rsb.exo a z
        exact ⟨u, by show (if a = D then none else H2 a) = some u; rw [if_neg (neD a z)]; exact q⟩, fun i a d ea f => by
        have h : a ≠ D := fun y => hDo (.inl (by rw [← y]; exact List.mem_of_getElem? ea))
        exact (rs.ob i a d ea f).nxt less (if_neg h)⟩
    have fin := k0 D vacc _ ⟨ρ.l, ρ1.x⟩ (n1.trans nall) rse (if_pos rfl) (RVs.nx0 less _ _ ra)
    rw [er] at fin
    exact fin
section
variable {X : Cx} {tg elt iter : Expr} {g : G} {vs : List Nat} {mi : M (List Mn.D)} {t : M Bool} {me : M Mn.D}
theorem pmts_nil : PTs X [] (tMT X.K fun _ st => some (true, st)) := ⟨fun pins s σ H Q I ⟨env, st, ρ, d, st', ro, rs, e, k⟩ => by
  cases e
  exact pts_nil.run pins s σ H Q I (k H ρ (Nxt.refl _ _) rs)⟩
def mYes : M Bool := fun _ st => some (true, st)
theorem pmts_no : PTs X [] (tMT X.K mYes) := pmts_nil
theorem pmts_one {c : Expr} (h : PMT X c t) : PTs X [c] (tMT X.K t) := pts_one h
theorem pml_lc {ifs : List Expr} {scope : Scope} {own : List (Str × Nat)} {pos : Pos} (hN : X.N.Nodup) (hi : PMI X tg iter mi) (ok : BlkOk X.N X.env.scope scope own)
    (hg : ∀ (s : Shared) (H : Hp) (C : Addr) (cl : List (Str × Addr)) (fp : List Addr), PMG (X.blk s H scope (compEnvC scope cl C X.env) fp) tg (own.map (·.2)) g) (ht : ∀ (s : Shared) (H : Hp) (C : Addr) (cl : List (Str × Addr)) (fp : List Addr), PTs (X.blk s H scope (compEnvC scope cl C X.env) fp) ifs (tMT X.K t))
    (he : ∀ (s : Shared) (H : Hp) (C : Addr) (cl : List (Str × Addr)) (fp : List Addr), PM (X.blk s H scope (compEnvC scope cl C X.env) fp) elt me) (hc : X.calm = true := by rfl) (hs : ∀ x, foldedSetIterable iter X.env x = pure x := by intro _; rfl) :
    PML X (.ListComp elt [⟨tg, iter, ifs, 0⟩] scope pos) (mLc (own.map (·.2)) mi g t me) :=
  imp_e (pe_lc hc hN hi ok hg ht he hs) fun _ _ _ h => lc_mcore h
/-- name = [..] : frozen, or into the store -/
theorem imp_slc {e : Stmt} {i : Nat} {tl : TE} {ms : M (List Mn.D)} (h : PS X e (tAsg tl (gName i))) (f : ∀ σ H Q, tML X.K ms σ H Q → tl σ H Q) : PMS X e (sAsg i (mFrz ms)) ∧ PMS X e (sAsg i (mMut ms)) := by
  refine ⟨imp_s h fun E σ H ⟨env, st, ρ, o, st', ro, rs, e, k⟩ => ?_, imp_s h fun E σ H ⟨env, st, ρ, o, st', ro, rs, e, k⟩ => ?_⟩
  · obtain ⟨d, s1, e1, e⟩ := bnd_inv e
    obtain ⟨d2, s2, e2, e1⟩ := bnd_inv e1
    cases e; cases e1
    refine f σ H _ ⟨env, st, ρ, d2, _, ro, rs, e2, fun p vs H1 ρ1 n1 rs1 hp rx => ?_⟩
    have n := n1.trans (Nxt.laid (o := .lst vs) rs1 hp)
    exact k _ _ ρ1 n (rs1.laid hp) ((ro.nxt n).set (d := .lst d2) (v := .ref p) ⟨p, vs, rfl, ⟨rs1.out hp, upd_same⟩, RVs.nxt (Nxt.laid rs1 hp) _ _ rx⟩ i)
  · obtain ⟨d, s1, e1, e⟩ := bnd_inv e
    obtain ⟨d2, s2, e2, e1⟩ := bnd_inv e1
    cases e; cases e1
    refine f σ H _ ⟨env, st, ρ, d2, s2, ro, rs, e2, fun p vs H1 ρ1 n1 rs1 hp rx => ?_⟩
    have n := n1.trans (Nxt.alloc (o := .lst vs) rs1 hp)
    refine k _ _ (ρ1.add p) n (rs1.alloc hp ⟨vs, upd_same, RVs.nxt (Nxt.alloc rs1 hp) _ _ rx⟩) ((ro.nxt n).set (d := .loc s2.length) (v := .ref p) ⟨p, rfl, ?_⟩ i)
    rw [← rs1.len]
    simp [Rh.add]
theorem pms_setLc {i : Nat} {y : Str} {py : Pos} {ifs : List Expr} {scope : Scope} {own : List (Str × Nat)} {pos spos : Pos} (hN : X.N.Nodup)
    (hi : PMI X tg iter mi) (ok : BlkOk X.N X.env.scope scope own)
    (hg : ∀ (s : Shared) (H : Hp) (C : Addr) (cl : List (Str × Addr)) (fp : List Addr), PMG (X.blk s H scope (compEnvC scope cl C X.env) fp) tg (own.map (·.2)) g) (ht : ∀ (s : Shared) (H : Hp) (C : Addr) (cl : List (Str × Addr)) (fp : List Addr), PTs (X.blk s H scope (compEnvC scope cl C X.env) fp) ifs (tMT X.K t))
    (he : ∀ (s : Shared) (H : Hp) (C : Addr) (cl : List (Str × Addr)) (fp : List Addr), PM (X.blk s H scope (compEnvC scope cl C X.env) fp) elt me) (hc : X.calm = true := by rfl) (hy : X.N[i]? = some y := by rfl) (hyl : X.env.scope.names.lookup y = some .local := by rfl)
    (hsw : swapsWith (.ListComp elt [⟨tg, iter, ifs, 0⟩] scope pos) (some (.Name y py)) spos.line X.env = pure true := by exact sw_true rfl rfl rfl (by decide +kernel)) (hs : ∀ x, foldedSetIterable iter X.env x = pure x := by intro _; rfl) :
    PMS X (.Assign [.Name y py] (.ListComp elt [⟨tg, iter, ifs, 0⟩] scope pos) spos) (sAsg i (mFrz (mLc (own.map (·.2)) mi g t me))) ∧
    PMS X (.Assign [.Name y py] (.ListComp elt [⟨tg, iter, ifs, 0⟩] scope pos) spos) (sAsg i (mMut (mLc (own.map (·.2)) mi g t me))) :=
  imp_slc (ps_setLc hc hN hy hyl hsw hi ok hg ht he hs) fun _ _ _ h => lc_mcore h
end

/-! ### the end of a def: what was new is frozen, the store is as long as before -/
mutual
def lo (n : Nat) : Mn.D → Bool
  | .non => true
  | .bl _ => true
  | .int _ => true
  | .str _ => true
  | .tup ds => los n ds
  | .lst ds => los n ds
  | .rol ds => los n ds
  | .dic ks => lok n ks
  | .loc k => decide (k < n)
  | .ptl ds => los n ds
def los (n : Nat) : List Mn.D → Bool
  | [] => true
  | d :: ds => lo n d && los n ds
def lok (n : Nat) : List (Key × Mn.D) → Bool
  | [] => true
  | (_, d) :: ds => lo n d && lok n ds
end
section
variable {K : PySem.W.Frag} {ρ ρ' : Rh} {H H' : Hp}
/-- from a longer store's places to a shorter one's -/
structure Cut (n : Nat) (ρ ρ' : Rh) : Prop where
  at' : ∀ (i : Nat) (a : Addr), i < n → ρ.l[i]? = some a → ρ'.l[i]? = some a
  less : ∀ a, ρ'.In a → ρ.In a
mutual
theorem RV.cut {n : Nat} (c : Cut n ρ ρ') : ∀ (d : Mn.D) (v : V), lo n d = true → RV K ρ H d v → RV K ρ' H d v
  | .non, _, _, h => h
  | .bl _, _, _, h => h
  | .int _, _, _, h => h
  | .str _, _, _, h => h
  | .tup ds, _, l, ⟨a, xs, e, f, r⟩ => ⟨a, xs, e, f.elim (fun q => .inl ⟨fun z => q.1 (c.less _ z), q.2⟩) .inr, RVs.cut c ds xs l r⟩
  | .lst ds, _, l, ⟨a, xs, e, f, r⟩ => ⟨a, xs, e, ⟨fun z => f.1 (c.less _ z), f.2⟩, RVs.cut c ds xs l r⟩
  | .rol ds, _, l, ⟨a, xs, e, f, r⟩ => ⟨a, xs, e, f.elim (fun q => .inl ⟨fun z => q.1 (c.less _ z), q.2⟩) .inr, RVs.cut c ds xs l r⟩
  | .dic ks, _, l, ⟨a, xs, e, f, r⟩ => ⟨a, xs, e, ⟨fun z => f.1 (c.less _ z), f.2⟩, RVk.cut c ks xs l r⟩
  | .loc _, _, l, ⟨a, e, f⟩ => ⟨a, e, c.at' _ _ (of_decide_eq_true l) f⟩
  | .ptl ds, _, l, ⟨a, xs, e, f, r⟩ => ⟨a, xs, e, f.elim (fun q => .inl ⟨fun z => q.1 (c.less _ z), q.2⟩) .inr, RVs.cut c ds xs l r⟩
theorem RVs.cut {n : Nat} (c : Cut n ρ ρ') : ∀ (ds : List Mn.D) (vs : List V), los n ds = true → RVs K ρ H ds vs → RVs K ρ' H ds vs
  | [], _, _, h => h
  | d :: ds, _, l, ⟨v, r, e, h, t⟩ => ⟨v, r, e, RV.cut c d v (Bool.and_eq_true_iff.mp l).1 h, RVs.cut c ds r (Bool.and_eq_true_iff.mp l).2 t⟩
theorem RVk.cut {n : Nat} (c : Cut n ρ ρ') : ∀ (ds : List (Key × Mn.D)) (vs : List (Key × V)), lok n ds = true → RVk K ρ H ds vs → RVk K ρ' H ds vs
  | [], _, _, h => h
  | (k, d) :: ds, _, l, ⟨v, r, e, h, t⟩ => ⟨v, r, e, RV.cut c d v (Bool.and_eq_true_iff.mp l).1 h, RVk.cut c ds r (Bool.and_eq_true_iff.mp l).2 t⟩
end
mutual
/-- what is represented speaks of places of the store alone -/
theorem RV.lo : ∀ (d : Mn.D) (v : V), RV K ρ H d v → Mn.lo ρ.l.length d = true
  | .non, _, _ => rfl
  | .bl _, _, _ => rfl
  | .int _, _, _ => rfl
  | .str _, _, _ => rfl
  | .tup ds, _, ⟨a, xs, e, f, r⟩ => RVs.lo ds xs r
  | .lst ds, _, ⟨a, xs, e, f, r⟩ => RVs.lo ds xs r
  | .rol ds, _, ⟨a, xs, e, f, r⟩ => RVs.lo ds xs r
  | .dic ks, _, ⟨a, xs, e, f, r⟩ => RVk.lo ks xs r
  | .loc _, _, ⟨a, e, f⟩ => decide_eq_true (List.getElem?_eq_some_iff.mp f).1
  | .ptl ds, _, ⟨a, xs, e, f, r⟩ => RVs.lo ds xs r
theorem RVs.lo : ∀ (ds : List Mn.D) (vs : List V), RVs K ρ H ds vs → Mn.los ρ.l.length ds = true
  | [], _, _ => rfl
  | d :: ds, _, ⟨v, r, e, h, t⟩ => Bool.and_eq_true_iff.mpr ⟨RV.lo d v h, RVs.lo ds r t⟩
theorem RVk.lo : ∀ (ds : List (Key × Mn.D)) (vs : List (Key × V)), RVk K ρ H ds vs → Mn.lok ρ.l.length ds = true
  | [], _, _ => rfl
  | (k, d) :: ds, _, ⟨v, r, e, h, t⟩ => Bool.and_eq_true_iff.mpr ⟨RV.lo d v h, RVk.lo ds r t⟩
end
end
def mapO {α β : Type} (f : α → Option β) : List α → Option (List β)
  | [] => some []
  | x :: xs => match f x, mapO f xs with
    | some y, some ys => some (y :: ys)
    | _, _ => none
/-- new things of the store (from n on) as frozen values; the one at ex is left out -/
def fz (st : Store) (n ex : Nat) : Nat → Mn.D → Option Mn.D
  | 0, d => if lo n d = true then some d else none
  | k + 1, d => if lo n d = true then some d else
    match d with
    | .tup ds => (mapO (fz st n ex k) ds).map .tup
    | .lst ds => (mapO (fz st n ex k) ds).map .lst
    | .loc l => if l = ex then none else match st[l]? with
      | some (.lst ds) => (mapO (fz st n ex k) ds).map .lst
      | some (.dic ks) => if lok n ks = true then some (.dic ks) else none
      | _ => none
    | _ => none
theorem mapO_ok {K : PySem.W.Frag} {ρ ρ' : Rh} {H : Hp} {f : Mn.D → Option Mn.D} (hf : ∀ d d' v, f d = some d' → RV K ρ H d v → RV K ρ' H d' v) : ∀ {ds ds' : List Mn.D} {vs : List V}, mapO f ds = some ds' → RVs K ρ H ds vs → RVs K ρ' H ds' vs
  | [], _, _, e, h => by cases e; exact h
  | d :: ds, ds', vs, e, ⟨v, r, ev, h, t⟩ => by
    unfold mapO at e
    split at e
    · rename_i y ys e1 e2
      cases e
      exact ⟨v, r, ev, hf _ _ _ e1 h, mapO_ok hf e2 t⟩
    · cases e
theorem fz_ok {K : PySem.W.Frag} {ρ ρ' : Rh} {H : Hp} {st : Store} {n ex : Nat} (c : Cut n ρ ρ') (rs : RepSt K ρ st H) (hn : ∀ (i : Nat) a, n ≤ i → i ≠ ex → ρ.l[i]? = some a → ¬ ρ'.In a) : ∀ (k : Nat) (d d' : Mn.D) (v : V), fz st n ex k d = some d' → RV K ρ H d v → RV K ρ' H d' v
  | 0, d, d', v, e, h => by
    unfold fz at e
    split at e
    · rename_i hl
      cases e
      exact RV.cut c d v hl h
    · cases e
  | k + 1, d, d', v, e, h => by
    unfold fz at e
    split at e
    · rename_i hl
      cases e
      exact RV.cut c d v hl h
    · rename_i hl
      have ih := fz_ok c rs hn k
      cases d with
      | tup ds =>
        obtain ⟨ds', e1, e2⟩ := Option.map_eq_some_iff.mp e
        subst e2
        obtain ⟨a, xs, ev, f, r⟩ := h
        exact ⟨a, xs, ev, f.elim (fun q => .inl ⟨fun z => q.1 (c.less _ z), q.2⟩) .inr, mapO_ok ih e1 r⟩
      | lst ds =>
        obtain ⟨ds', e1, e2⟩ := Option.map_eq_some_iff.mp e
        subst e2
        obtain ⟨a, xs, ev, f, r⟩ := h
        exact ⟨a, xs, ev, ⟨fun z => f.1 (c.less _ z), f.2⟩, mapO_ok ih e1 r⟩
      | loc l =>
        have hl2 : n ≤ l := by
          have : ¬ decide (l < n) = true := hl
          simp at this
          exact this
        simp only at e
        split at e
        · cases e
        · rename_i hex
          split at e
          · rename_i ds hs
            obtain ⟨ds', e1, e2⟩ := Option.map_eq_some_iff.mp e
            subst e2
            obtain ⟨a, ev, ea, xs, hx, r⟩ := rs.at h hs
            exact ⟨a, xs, ev, ⟨hn l a hl2 hex ea, hx⟩, mapO_ok ih e1 r⟩
          · rename_i ks hs
            split at e
            · rename_i hk
              cases e
              obtain ⟨a, ev, ea, xs, hx, r⟩ := rs.at h hs
              exact ⟨a, xs, ev, ⟨hn l a hl2 hex ea, .inl hx⟩, RVk.cut c ks xs hk r⟩
            · cases e
          · cases e
      | _ => cases e
/-- the old things of the store know nothing of the new -/
def okOld (st st' : Store) : Prop := st.length ≤ st'.length ∧ ∀ i, i < st.length → st'[i]? = st[i]? ∨ ∃ d, st'[i]? = some d ∧ lo st.length d = true
open Classical in
noncomputable def fin (st : Store) (d : Mn.D) (st' : Store) : Option (Mn.D × Store) :=
  if okOld st st' then (fz st' st.length st'.length 8 d).map fun d' => (d', st'.take st.length) else none
open Classical in
/-- .. and the thing that is handed back goes on changing -/
noncomputable def finL (st : Store) (d : Mn.D) (st' : Store) : Option (Mn.D × Store) :=
  if okOld st st' then
    match d with
    | .loc l => if st.length ≤ l then match st'[l]? with
      | some (.lst ds) => (mapO (fz st' st.length l 8) ds).map fun ds' => (.loc st.length, st'.take st.length ++ [.lst ds'])
      | some (.dic ks) => if lok st.length ks = true then some (.loc st.length, st'.take st.length ++ [.dic ks]) else none
      | _ => none
      else none
    | _ => none
  else none
theorem take_at {ρ ρ' : Rh} {H H' : Hp} (n : Nxt ρ H ρ' H') : ρ'.l.take ρ.l.length = ρ.l := by
  apply List.ext_getElem?
  intro i
  by_cases hi : i < ρ.l.length
  · rw [List.getElem?_take_of_lt hi, List.getElem?_eq_getElem hi]
    exact n.pre i _ (List.getElem?_eq_getElem hi)
  · rw [List.getElem?_eq_none (by rw [List.length_take]; omega), List.getElem?_eq_none (by omega)]
section
variable {K : PySem.W.Frag} {ρ ρ' : Rh} {H H' : Hp} {st st' : Store}
theorem Nxt.cut (n : Nxt ρ H ρ' H') : Cut ρ.l.length ρ' ρ := ⟨fun i a hi e => by
  rw [← take_at n, List.getElem?_take_of_lt hi]; exact e, fun a z => by
  rcases z with z | z
  · obtain ⟨i, e⟩ := List.getElem?_of_mem z
    exact .inl (List.mem_of_getElem? (n.pre i a e))
  · exact .inr (by rw [n.ex]; exact z)⟩
theorem Nxt.back (n : Nxt ρ H ρ' H') : Nxt ρ H ρ H' := ⟨⟨fun _ _ e => e, n.keep, fun _ z => .inl z⟩, rfl, n.hid⟩
theorem RepSt.outer (rs' : RepSt K ρ' st' H') (n : Nxt ρ H ρ' H') (i : Nat) (a : Addr) (hi : ρ.l.length ≤ i) (e : ρ'.l[i]? = some a) : ¬ ρ.In a := fun z => by
  rcases z with z | z
  · obtain ⟨j, ej⟩ := List.getElem?_of_mem z
    have hj := (List.getElem?_eq_some_iff.mp ej).1
    have := nodup_get rs'.ndl e (n.pre j a ej)
    omega
  · exact rs'.apart (List.mem_of_getElem? e) (by rw [n.ex]; exact z)
theorem RepSt.cut (rs : RepSt K ρ st H) (rs' : RepSt K ρ' st' H') (n : Nxt ρ H ρ' H') (ok : okOld st st') : RepSt K ρ (st'.take st.length) H' := by
  have c := n.cut
  refine ⟨rs.nd, ?_, fun a z => rs'.exo a (by rw [n.ex]; exact z), fun i a d e f => ?_⟩
  · rw [List.length_take, rs.len]
    have := ok.1
    omega
  · have hi : i < st.length := by rw [← rs.len]; exact (List.getElem?_eq_some_iff.mp e).1
    rw [List.getElem?_take_of_lt hi] at f
    have q := rs'.ob i a d (n.pre i a e) f
    have hl : lo ρ.l.length d = true := by
      rw [rs.len]
      rcases ok.2 i hi with z | ⟨d', z, hl⟩
      · rw [f] at z
        have q0 := rs.ob i a d e z.symm
        rw [← rs.len]
        cases d with
        | lst ds => obtain ⟨xs, _, r⟩ := q0; exact RVs.lo ds xs r
        | dic ks => obtain ⟨xs, _, r⟩ := q0; exact RVk.lo ks xs r
        | _ => exact q0.elim
      · rw [f] at z
        cases z
        exact hl
    cases d with
    | lst ds => obtain ⟨xs, h1, r⟩ := q; exact ⟨xs, h1, RVs.cut c ds xs hl r⟩
    | dic ks => obtain ⟨xs, h1, r⟩ := q; exact ⟨xs, h1, RVk.cut c ks xs hl r⟩
    | _ => exact q.elim
theorem fin_ok {d d1 : Mn.D} {s1 : Store} {Q : VK} (rs : RepSt K ρ st H) (e : fin st d st' = some (d1, s1)) (k : After K ρ H d1 s1 Q) : After K ρ H d st' Q := fun v H' ρ' n rs' rv => by
  unfold fin at e
  split at e
  · rename_i ok
    obtain ⟨d2, e2, e3⟩ := Option.map_eq_some_iff.mp e
    cases e3
    refine k v H' ρ n.back (rs.cut rs' n ok) ?_
    rw [← rs.len] at e2
    refine fz_ok n.cut rs' (fun i a h1 h2 e => rs'.outer n i a h1 e) 8 d _ v e2 rv
  · cases e
theorem finL_ok {d d1 : Mn.D} {s1 : Store} {Q : VK} (rs : RepSt K ρ st H) (e : finL st d st' = some (d1, s1)) (k : After K ρ H d1 s1 Q) : After K ρ H d st' Q := fun v H' ρ' n rs' rv => by
  unfold finL at e
  split at e
  case isFalse => cases e
  rename_i ok
  split at e
  case h_2 => cases e
  rename_i l
  split at e
  case isFalse => cases e
  rename_i hl
  rw [← rs.len] at hl
  -- the new place
  have key : ∀ (dd d' : Mn.D) (a : Addr), st'[l]? = some dd → v = .ref a → ρ'.l[l]? = some a → (∀ ρ2 : Rh, ρ2 = ρ.add a → Cut ρ.l.length ρ' ρ2 → (∀ (i : Nat) b, ρ.l.length ≤ i → i ≠ l → ρ'.l[i]? = some b → ¬ ρ2.In b) → RO K ρ2 H' d' a) → After K ρ H (.loc st.length) (st'.take st.length ++ [d']) Q → Q v H' := by
    intro dd d' a hd hv ha ro kk
    have hao : ¬ ρ.In a := rs'.outer n l a hl ha
    have c0 := n.cut
    have c2 : Cut ρ.l.length ρ' (ρ.add a) := ⟨fun i b hi e => by
      show (ρ.l ++ [a])[i]? = some b
      rw [List.getElem?_append_left hi]; exact c0.at' i b hi e, fun b z => by
      rcases z with z | z
      · rcases List.mem_append.mp z with z | z
        · exact c0.less b (.inl z)
        · simp at z; subst z; exact .inl (List.mem_of_getElem? ha)
      · exact c0.less b (.inr z)⟩
    have o2 : ∀ (i : Nat) b, ρ.l.length ≤ i → i ≠ l → ρ'.l[i]? = some b → ¬ (ρ.add a).In b := fun i b hi hne e z => by
      rcases z with z | z
      · rcases List.mem_append.mp z with z | z
        · exact rs'.outer n i b hi e (.inl z)
        · simp at z; subst z
          exact hne (nodup_get rs'.ndl e ha)
      · exact rs'.outer n i b hi e (.inr z)
    have r0 := rs.cut rs' n ok
    have n2 : Nxt ρ H (ρ.add a) H' := ⟨⟨fun i b e => by
      show (ρ.l ++ [a])[i]? = some b
      rw [List.getElem?_append_left (List.getElem?_eq_some_iff.mp e).1]; exact e, n.keep, fun b z => n.new b (c2.less b z)⟩, rfl, n.hid⟩
    refine kk v H' (ρ.add a) n2 ⟨?_, ?_, r0.exo, fun i b d0 e f => ?_⟩ ⟨a, hv, ?_⟩
    · show ((ρ.l ++ [a]) ++ ρ.x).Nodup
      have nd := List.nodup_append.mp rs.nd
      rw [List.append_assoc, List.nodup_append]
      refine ⟨nd.1, ?_, fun b hb c hc => ?_⟩
      · rw [List.singleton_append, List.nodup_cons]
        exact ⟨fun z => hao (.inr z), nd.2.1⟩
      · rw [List.singleton_append, List.mem_cons] at hc
        rcases hc with rfl | hc
        · rintro rfl
          exact hao (.inl hb)
        · exact nd.2.2 b hb c hc
    · show (ρ.l ++ [a]).length = _
      rw [List.length_append, List.length_append, r0.len]
      rfl
    · have e : (ρ.l ++ [a])[i]? = some b := e
      by_cases hi : i < ρ.l.length
      · rw [List.getElem?_append_left hi] at e
        rw [List.getElem?_append_left (by rw [← r0.len]; exact hi)] at f
        have hf2 : st'[i]? = some d0 := by
          rw [List.getElem?_take_of_lt (by rw [← rs.len]; exact hi)] at f; exact f
        have q := rs'.ob i b d0 (n.pre i b e) hf2
        have q0 := r0.ob i b d0 e f
        cases d0 with
        | lst ds => obtain ⟨xs, h1, r⟩ := q; obtain ⟨xs0, h10, r00⟩ := q0; exact ⟨xs, h1, RVs.cut c2 ds xs (RVs.lo ds xs0 r00) r⟩
        | dic ks => obtain ⟨xs, h1, r⟩ := q; obtain ⟨xs0, h10, r00⟩ := q0; exact ⟨xs, h1, RVk.cut c2 ks xs (RVk.lo ks xs0 r00) r⟩
        | _ => exact q.elim
      · have h1 : i = ρ.l.length := by
          have := (List.getElem?_eq_some_iff.mp e).1
          simp at this
          omega
        subst h1
        rw [List.getElem?_append_right (Nat.le_refl _)] at e
        rw [List.getElem?_append_right (by rw [r0.len]; exact Nat.le_refl _)] at f
        simp at e
        rw [r0.len, Nat.sub_self] at f
        simp at f
        subst e; subst f
        exact ro _ rfl c2 o2
    · show (ρ.l ++ [a])[st.length]? = some a
      rw [← rs.len]
      simp
  split at e
  · rename_i ds hs
    obtain ⟨ds', e2, e3⟩ := Option.map_eq_some_iff.mp e
    cases e3
    obtain ⟨a, ev, ea, xs, hx, r⟩ := rs'.at rv hs
    refine key _ (.lst ds') a hs ev ea (fun ρ2 h2 c2 o2 => ⟨xs, hx, ?_⟩) k
    rw [← rs.len] at e2
    exact mapO_ok (fun d d' v h1 h2 => fz_ok c2 rs' o2 8 d d' v h1 h2) e2 r
  · rename_i ks hs
    split at e
    · rename_i hk
      cases e
      obtain ⟨a, ev, ea, xs, hx, r⟩ := rs'.at rv hs
      refine key _ (.dic ks) a hs ev ea (fun ρ2 h2 c2 o2 => ⟨xs, hx, ?_⟩) k
      rw [← rs.len] at hk
      exact RVk.cut c2 ks xs hk r
    · cases e
  · cases e
end
end
end Mn
end
section
set_option Elab.async false
set_option autoImplicit false
set_option linter.all false
set_option maxRecDepth 100000
set_option maxHeartbeats 2000000
/-! The mini layer, 5: defs and calls; operators and built-ins. -/
namespace Mn
noncomputable section
open PySem PySem.Spec PyProof.Rows L2

/-! ### defs and their calls -/
abbrev Fn := List Mn.D → Store → Option (Mn.D × Store)
def spF (K : PySem.W.Frag) (n : Nat) (F : Fn) : Sp := fun vs H Q _ => vs.length = n ∧ ∃ ds st ρ d st', RVs K ρ H ds vs ∧ RepSt K ρ st H ∧ F ds st = some (d, st') ∧ After K ρ H d st' Q
structure FnM (P : Program) (w : World) (K : PySem.W.Frag) (mg : Str → Option Value) (base : Heap) (k : Nat) (x : Str) (n : Nat) (F : Fn) : Prop where
  ln : ∀ ds st r, F ds st = some r → ds.length = n
  ex : ∃ (f : Addr) (fd : FuncData) (ps : List Str), ps.length = n ∧ FnOk P w K mg base CX0 k f fd ps (spF K n F) ∧ Binds K fd ps [] ∧ PySem.W.keepIn K (.ref f) = true ∧ mg x = some (.ref f)
theorem FnM.mono {P : Program} {w : World} {K : PySem.W.Frag} {mg : Str → Option Value} {base : Heap} {j k : Nat} {x : Str} {n : Nat} {F : Fn} (G : FnM P w K mg base j x n F) (h : j ≤ k) : FnM P w K mg base k x n F := by
  obtain ⟨f, fd, ps, h1, h2, h3⟩ := G.ex
  exact ⟨G.ln, f, fd, ps, h1, h2.mono h, h3⟩
def mCall (F : Fn) (ms : M (List Mn.D)) : M Mn.D := fun env st => bnd (ms env st) fun ds st1 => F ds st1
theorem call_core {K : PySem.W.Frag} {n : Nat} {F : Fn} (ln : ∀ ds st r, F ds st = some r → ds.length = n) {ms : M (List Mn.D)} {σ : L2.St} {H : Hp} {Q : VK} {E : XK} (h : tM K (mCall F ms) σ H Q) : tCall (spF K n F) [] E (tMA K ms) σ H Q := by
  obtain ⟨env, st, ρ, d, st', ro, rs, e, k⟩ := h
  obtain ⟨ds, s1, e1, e⟩ := bnd_inv e
  refine ⟨env, st, ρ, ds, s1, ro, rs, e1, fun vs H' ρ' n1 rs' rv => ?_⟩
  show spF K n F (vs ++ []) H' Q E
  rw [List.append_nil]
  refine ⟨by rw [RVs.length rv]; exact ln _ _ _ e, ds, s1, ρ', d, st', rv, rs', e, fun v H2 ρ2 n2 rs2 rv2 => k v H2 ρ2 (n1.trans n2) rs2 rv2⟩
section
variable {X : Cx} {e : Expr} {es : List Expr} {ms : M (List Mn.D)} {pos p : Pos}
theorem pm_call {k n : Nat} {x : Str} {F : Fn} (G : FnM X.prog X.w X.K X.mg X.base k x n F) (hr : Room k X.A) (ha : PMA X (e :: es) ms) (hg : Gl X x := by rfl) (hdb : (x == ("__debug__" : Str)) = false := by decide)
    (he : starEach (e :: es) X.env = (false, eval e X.env) :: starEach es X.env := by rfl) (hpl : (backTo pos (starEach es X.env)).any (·.1) = false := by rfl) : PM X (.Call (.Name x p) (e :: es) [] pos) (mCall F ms) := by
  obtain ⟨f, fd, ps, h1, h2, h3, h4, h5⟩ := G.ex
  exact imp_e (pe_call h2 hr hg h5 h4 h3 .nil pass0 ha hdb he hpl) fun _ _ _ h => call_core G.ln h
theorem pm_call0 {k : Nat} {x : Str} {F : Fn} (G : FnM X.prog X.w X.K X.mg X.base k x 0 F) (hr : Room k X.A) (hg : Gl X x := by rfl) (hdb : (x == ("__debug__" : Str)) = false := by decide) : PM X (.Call (.Name x p) [] [] pos) (mCall F mNil) := by
  obtain ⟨f, fd, ps, h1, h2, h3, h4, h5⟩ := G.ex
  refine imp_e (pe_call0 h2 hr hg h5 h4 h3 .nil pass0 hdb) fun σ H Q h => ?_
  obtain ⟨env, st, ρ, ds, st', ro, rs, e, q⟩ := call_core (E := E0) G.ln h
  cases e
  exact q [] H ρ (Nxt.refl _ _) rs rfl
end
/-- a def's end: as it should be, or None at the body's end -/
def endW (f : Mn.D → Store → Option (Mn.D × Store)) (r : Option (Out × Store)) : Option (Mn.D × Store) := bnd r fun o st' =>
  match o with
  | .rt d => f d st'
  | .nx _ => f .non st'
  | _ => none
noncomputable def mFun (N n : Nat) (b : S) : Fn := fun ds st => if ds.length = n then endW (fin st) (b (ds.map some ++ List.replicate (N - n) none) st) else none
noncomputable def mFunL (N n : Nat) (b : S) : Fn := fun ds st => if ds.length = n then endW (finL st) (b (ds.map some ++ List.replicate (N - n) none) st) else none
theorem mFun_ln {N n : Nat} {b : S} : ∀ ds st r, mFun N n b ds st = some r → ds.length = n := fun ds st r e => by
  unfold mFun at e
  split at e
  · assumption
  · cases e
theorem mFunL_ln {N n : Nat} {b : S} : ∀ ds st r, mFunL N n b ds st = some r → ds.length = n := fun ds st r e => by
  unfold mFunL at e
  split at e
  · assumption
  · cases e
theorem RVo.start {K : PySem.W.Frag} {ρ : Rh} {H : Hp} {ds : List Mn.D} {vs : List V} (N : List Str) (r : RVs K ρ H ds vs) : RVo K ρ H (ds.map some ++ List.replicate (N.length - ds.length) none) (L2.start N vs) := by
  have hl := RVs.length r
  refine ⟨by unfold L2.start; simp [hl], fun i d e => ?_⟩
  have hi : i < ds.length := by
    by_cases hi : i < ds.length
    · exact hi
    · rw [List.getElem?_append_right (by simpa using hi), List.getElem?_replicate] at e
      split at e <;> cases e
  rw [List.getElem?_append_left (by simpa using hi), List.getElem?_map] at e
  cases e2 : ds[i]? with
  | none => rw [e2] at e; cases e
  | some d' =>
    rw [e2] at e
    cases e
    obtain ⟨v, h1, h2⟩ := RVs.get r e2
    exact ⟨v, by unfold L2.start; rw [List.getElem?_append_left (by simp; omega), List.getElem?_map, h1]; rfl, h2⟩
section
variable {P : Program} {w : World} {K : PySem.W.Frag} {mg : Str → Option Value} {base : Heap} {k : Nat} {x qual : Str} {st : Stmt} {f : Addr} {fd : FuncData} {N ps : List Str} {b : S}
theorem body_core {ff : Store → Mn.D → Store → Option (Mn.D × Store)} (hff : ∀ {K : PySem.W.Frag} {ρ : Rh} {H : Hp} {st st' : Store} {d d1 : Mn.D} {s1 : Store} {Q : VK}, RepSt K ρ st H → ff st d st' = some (d1, s1) → After K ρ H d1 s1 Q → After K ρ H d st' Q)
    {F : Fn} (hF : ∀ ds st r, F ds st = some r → ds.length = ps.length ∧ endW (ff st) (b (ds.map some ++ List.replicate (N.length - ps.length) none) st) = some r)
    (F0 : Fun K x qual st f fd) (S0 : FnScope N ps (defScope st)) (hb : Binds K fd ps []) (hm : mg x = some (.ref f))
    (body : ∀ (cdv : Value) (A : Around) (outer : List Env) (s : Shared) (H : Hp) (E : XK), Room k (A.deeper (envOfC qual (defScope st) s.heap.objs.size f cdv)) →
      PMSs (cxOf CX0 P w K mg base N qual (defScope st) f cdv A outer s H E).nox (defBody st) b) : FnOk P w K mg base CX0 (k + 1) f fd ps (spF K ps.length F) := by
  refine F0.ok S0 (fun vs H Q E h => h.1) (fun cdv A outer s H vs Q E hr h => ⟨_, body cdv A outer s H E hr, ?_⟩)
  obtain ⟨hv, ds, s0, ρ, d, s1, rv, rs, e, kk⟩ := h
  obtain ⟨hl, e⟩ := hF ds s0 _ e
  obtain ⟨o, s2, e2, e⟩ := bnd_inv e
  refine ⟨_, s0, ρ, o, s2, ?_, rs, e2, ?_⟩
  · rw [← hl]
    exact RVo.start N rv
  · cases o with
    | rt d0 => exact hff rs e kk
    | nx env' => exact fun σ' H' ρ' n rs' ro' => hff rs e kk .non H' ρ' n rs' rfl
    | bk env' => cases e
    | ct env' => cases e
theorem fn_mk (F0 : Fun K x qual st f fd) (S0 : FnScope N ps (defScope st)) (hb : Binds K fd ps []) (hm : mg x = some (.ref f))
    (body : ∀ (cdv : Value) (A : Around) (outer : List Env) (s : Shared) (H : Hp) (E : XK), Room k (A.deeper (envOfC qual (defScope st) s.heap.objs.size f cdv)) →
      PMSs (cxOf CX0 P w K mg base N qual (defScope st) f cdv A outer s H E).nox (defBody st) b) : FnM P w K mg base (k + 1) x ps.length (mFun N.length ps.length b) := ⟨mFun_ln, f, fd, ps, rfl,
  body_core (ff := fin) (fun {K ρ H st st' d d1 s1 Q} a b c => fin_ok a b c) (fun ds st r e => ⟨mFun_ln ds st r e, by
    have h := mFun_ln ds st r e
    unfold mFun at e
    rw [if_pos h] at e
    exact e⟩) F0 S0 hb hm body, hb, F0.kp, hm⟩
theorem fn_mkL (F0 : Fun K x qual st f fd) (S0 : FnScope N ps (defScope st)) (hb : Binds K fd ps []) (hm : mg x = some (.ref f))
    (body : ∀ (cdv : Value) (A : Around) (outer : List Env) (s : Shared) (H : Hp) (E : XK), Room k (A.deeper (envOfC qual (defScope st) s.heap.objs.size f cdv)) →
      PMSs (cxOf CX0 P w K mg base N qual (defScope st) f cdv A outer s H E).nox (defBody st) b) : FnM P w K mg base (k + 1) x ps.length (mFunL N.length ps.length b) := ⟨mFunL_ln, f, fd, ps, rfl,
  body_core (ff := finL) (fun {K ρ H st st' d d1 s1 Q} a b c => finL_ok a b c) (fun ds st r e => ⟨mFunL_ln ds st r e, by
    have h := mFunL_ln ds st r e
    unfold mFunL at e
    rw [if_pos h] at e
    exact e⟩) F0 S0 hb hm body, hb, F0.kp, hm⟩
/-- the same, of the law itself: at the def's own place -/
theorem fn_law (F0 : Fun K x qual st f fd) (S0 : FnScope N ps (defScope st)) (hb : Binds K fd ps []) (hm : mg x = some (.ref f))
    (body : ∀ (cdv : Value) (A : Around) (outer : List Env) (s : Shared) (H : Hp) (E : XK), Room k (A.deeper (envOfC qual (defScope st) s.heap.objs.size f cdv)) →
      PMSs (cxOf CX0 P w K mg base N qual (defScope st) f cdv A outer s H E).nox (defBody st) b) : FnOk P w K mg base CX0 (k + 1) f fd ps (spF K ps.length (mFun N.length ps.length b)) :=
  body_core (ff := fin) (fun {K ρ H st st' d d1 s1 Q} a b c => fin_ok a b c) (fun ds st r e => ⟨mFun_ln ds st r e, by
    have h := mFun_ln ds st r e
    unfold mFun at e
    rw [if_pos h] at e
    exact e⟩) F0 S0 hb hm body
/-- a def that calls itself: no turn is left -/
theorem fn_none (F0 : Fun K x qual st f fd) (hb : Binds K fd ps []) (hm : mg x = some (.ref f)) : FnM P w K mg base k x ps.length (fun _ _ => none) :=
  ⟨fun _ _ _ e => (by cases e), f, fd, ps, rfl, ⟨fun vs H Q E h => h.1, fun A outer s H args us vs Q E hr e0 hbt hv h => by
    obtain ⟨_, _, _, _, _, _, _, _, e, _⟩ := h
    cases e⟩, hb, F0.kp, hm⟩
end

/-! ### operators -/
def lstD (d : Mn.D) (st : Store) : Option (List Mn.D) :=
  match d with
  | .lst l => some l
  | .loc n => match st[n]? with
    | some (.lst l) => some l
    | _ => none
  | _ => none
theorem lstD_ok {K : PySem.W.Frag} {ρ : Rh} {H : Hp} {st : Store} {d : Mn.D} {v : V} {l : List Mn.D} (rs : RepSt K ρ st H) (rv : RV K ρ H d v) (e : lstD d st = some l) : ∃ a xs, v = .ref a ∧ H a = some (.lst xs) ∧ RVs K ρ H l xs := by
  cases d with
  | lst ds => cases e; obtain ⟨a, xs, e1, f, r⟩ := rv; exact ⟨a, xs, e1, f.2, r⟩
  | loc n =>
    unfold lstD at e
    simp only at e
    split at e
    · rename_i l' h
      cases e
      obtain ⟨a, e1, e2, xs, e3, r⟩ := rs.at rv h
      exact ⟨a, xs, e1, e3, r⟩
    · cases e
  | _ => cases e
def dicD (d : Mn.D) (st : Store) : Option (List (Key × Mn.D)) :=
  match d with
  | .dic l => some l
  | .loc n => match st[n]? with
    | some (.dic l) => some l
    | _ => none
  | _ => none
theorem dicD_ok {K : PySem.W.Frag} {ρ : Rh} {H : Hp} {st : Store} {d : Mn.D} {v : V} {l : List (Key × Mn.D)} (rs : RepSt K ρ st H) (rv : RV K ρ H d v) (e : dicD d st = some l) : ∃ a xs, v = .ref a ∧ Rd H a (.dK xs) ∧ RVk K ρ H l xs := by
  cases d with
  | dic ds => cases e; obtain ⟨a, xs, e1, f, r⟩ := rv; exact ⟨a, xs, e1, f.2, r⟩
  | loc n =>
    unfold dicD at e
    simp only at e
    split at e
    · rename_i l' h
      cases e
      obtain ⟨a, e1, e2, xs, e3, r⟩ := rs.at rv h
      exact ⟨a, xs, e1, .inl e3, r⟩
    · cases e
  | _ => cases e

/-- t + u of tuples: the answer a plain tuple -/
def rCatF (K : PySem.W.Frag) : R2 := fun x y H Q => ∃ a b xs ys, x = .ref a ∧ y = .ref b ∧ SqT K H a xs ∧ SqT K H b ys ∧ xs.length + ys.length ≤ sizeLine ∧
  (xs = [] → Q (.ref b) H) ∧ (xs ≠ [] → ys = [] → Q (.ref a) H) ∧ (xs ≠ [] → ys ≠ [] → ∀ p o, H p = none → o.dict = none → Q (.ref p) (upd H p (.frz o (.tup (xs ++ ys)))))
theorem op_catF {X : Cx} : OpR X (binaryOp .Add) (rCatF X.K) := by
  intro pins s σ H x y v u Q I rx ry h
  obtain ⟨a, b, xs, ys, rfl, rfl, ha, hb, hz, q0, q1, q2⟩ := h
  cases rx
  cases ry
  obtain ⟨its, r1, p1, _⟩ := I.tuple ha
  obtain ⟨its2, r2, p2, _⟩ := I.tuple hb
  by_cases hx : xs = []
  · subst hx
    cases r1
    exact cat_tup0 p1 p2 ⟨.ref b, H, I, rfl, q0 rfl⟩
  · refine HT.cat_tup p1 p2 (fun z => hx (r1.nil_iff.mp z)) (fun z => ⟨.ref a, H, I, rfl, q1 hx (r2.nil_iff.mp z)⟩) (fun z => ?_) (by rw [← r1.length, ← r2.length]; exact hz)
    refine ⟨.ref s.heap.objs.size, _, I.laid (t' := s.toks) (o := .frz { cls := .type "tuple", data := .seq (its ++ its2).toArray } (.tup (xs ++ ys))) (fun b ob q => Heap.get?_push_of_some _ q) (Nat.le_refl _) ?_, rfl, q2 hx (fun w => z (r2.nil_iff.mpr w)) _ _ (I.hok.fresh (Nat.le_refl _)) rfl⟩
    exact ⟨Heap.get?_push_size _ rfl, by rw [List.length_append]; exact hz, _, r1.append r2, IsTup.new _ _⟩
def oAdd : O2 := fun x y st =>
  match x, y with
  | .int i, .int j => some (.int (i + j))
  | .int i, .bl k => some (.int (i + b2i k))
  | .str a, .str b => @ite _ (a.length + b.length ≤ 1000000) (Classical.propDecidable _) (some (.str (a ++ b))) none
  | .tup a, .tup b => @ite _ (a.length + b.length ≤ 1000000) (Classical.propDecidable _) (some (.tup (a ++ b))) none
  | x, y => match lstD x st, lstD y st with
    | some a, some b => @ite _ (a.length + b.length ≤ 1000000) (Classical.propDecidable _) (some (.lst (a ++ b))) none
    | _, _ => none
def rAddAll (K : PySem.W.Frag) : R2 := fun x y H Q => rI0 (fun i j => .int (i + j)) x y H Q ∨ (∃ i k, x = .int i ∧ y = .bl k ∧ Q (.int (i + b2i k)) H) ∨ (∃ i j, x = .str i ∧ y = .str j ∧ i.length + j.length ≤ sizeLine ∧ Q (.str (i ++ j)) H) ∨ rCatF K x y H Q ∨ rCat x y H Q
theorem RVs.nilD {K : PySem.W.Frag} {ρ : Rh} {H : Hp} {ds : List Mn.D} {vs : List V} (r : RVs K ρ H ds vs) : vs = [] ↔ ds = [] := by
  have h := RVs.length r
  constructor
  · intro e; subst e; exact List.length_eq_zero_iff.mp h.symm
  · intro e; subst e; exact List.length_eq_zero_iff.mp h
theorem o_add {X : Cx} : OpR X (binaryOp .Add) (rAddAll X.K) ∧ RefO X.K (rAddAll X.K) oAdd := by
  refine ⟨op_add.or (op_add_ib.or (op_add_str.or (op_catF.or op_cat))), fun ρ st H dx dy d x y Q rs rx ry e k => ?_⟩
  unfold oAdd at e
  split at e
  · rename_i i j
    cases e
    exact .inl ⟨i, j, rx, ry, k _ H (Nxt.refl _ _) rs rfl⟩
  · rename_i i j
    cases e
    exact .inr (.inl ⟨i, j, rx, ry, k _ H (Nxt.refl _ _) rs rfl⟩)
  · rename_i a b
    split at e
    · rename_i h
      cases e
      exact .inr (.inr (.inl ⟨a, b, rx, ry, sz1m' h, k _ H (Nxt.refl _ _) rs rfl⟩))
    · cases e
  · rename_i a b
    split at e
    · rename_i h
      cases e
      obtain ⟨p, xs, e1, f1, r1⟩ := rx
      obtain ⟨q, ys, e2, f2, r2⟩ := ry
      refine .inr (.inr (.inr (.inl ⟨p, q, xs, ys, e1, e2, f1.seq, f2.seq, by rw [RVs.length r1, RVs.length r2]; exact sz1m' h, fun z => ?_, fun _ z => ?_, fun z1 z2 np o hp ho => ?_⟩)))
      · have : a = [] := (RVs.nilD r1).mp z
        subst this
        exact k _ H (Nxt.refl _ _) rs ⟨q, ys, rfl, f2, r2⟩
      · have : b = [] := (RVs.nilD r2).mp z
        subst this
        rw [List.append_nil] at k
        exact k _ H (Nxt.refl _ _) rs ⟨p, xs, rfl, f1, r1⟩
      · have n := Nxt.laid (o := .frz o (.tup (xs ++ ys))) rs hp
        exact k _ _ n (rs.laid hp) ⟨np, xs ++ ys, rfl, .inl ⟨rs.out hp, o, upd_same, ho⟩, RVs.append (RVs.nxt n _ _ r1) (RVs.nxt n _ _ r2)⟩
    · cases e
  · split at e
    · rename_i a b h1 h2
      split at e
      · rename_i h
        cases e
        obtain ⟨p, xs, e1, f1, r1⟩ := lstD_ok rs rx h1
        obtain ⟨q, ys, e2, f2, r2⟩ := lstD_ok rs ry h2
        refine .inr (.inr (.inr (.inr ⟨p, q, xs, ys, e1, e2, f1, f2, by rw [RVs.length r1, RVs.length r2]; exact sz1m' h, fun np hp => ?_⟩)))
        have n := Nxt.laid (o := .lst (xs ++ ys)) rs hp
        exact k _ _ n (rs.laid hp) ⟨np, xs ++ ys, rfl, ⟨rs.out hp, upd_same⟩, RVs.append (RVs.nxt n _ _ r1) (RVs.nxt n _ _ r2)⟩
      · cases e
    · cases e
/-- xs + ys as a new list -/
def mCat (ma mb : M Mn.D) : M (List Mn.D) := fun env st => bnd (ma env st) fun x st1 => bnd (mb env st1) fun y st2 =>
  match lstD x st2, lstD y st2 with
  | some a, some b => @ite _ (a.length + b.length ≤ 1000000) (Classical.propDecidable _) (some (a ++ b, st2)) none
  | _, _ => none
theorem pml_cat {X : Cx} {a b : Expr} {ma mb : M Mn.D} {pos : Pos} (ha : PM X a ma) (hb : PM X b mb) : PML X (.BinOp a .Add b pos) (mCat ma mb) :=
  imp_e (pe_op op_cat ha hb) fun σ H Q ⟨env, st, ρ, d, st', ro, rs, e, k⟩ => by
    obtain ⟨x, s1, e1, e⟩ := bnd_inv e
    obtain ⟨y, s2, e2, e⟩ := bnd_inv e
    refine ⟨env, st, ρ, x, s1, ro, rs, e1, fun vx H1 ρ1 n1 rs1 rx => ⟨env, s1, ρ1, y, _, ro.nxt n1, rs1, e2, fun vy H2 ρ2 n2 rs2 ry => ?_⟩⟩
    split at e
    · rename_i a b h1 h2
      split at e
      · rename_i h
        cases e
        obtain ⟨p, xs, e1, f1, r1⟩ := lstD_ok rs2 (RV.nxt n2 _ _ rx) h1
        obtain ⟨q, ys, e2, f2, r2⟩ := lstD_ok rs2 ry h2
        exact ⟨p, q, xs, ys, e1, e2, f1, f2, by rw [RVs.length r1, RVs.length r2]; exact sz1m' h, fun np hp => k _ _ _ ρ2 (n1.trans n2) rs2 hp (RVs.append r1 r2)⟩
      · cases e
    · cases e

/-! ### ints -/
def BIGN : Nat := 2 ^ 8000
noncomputable def Fits (i : Int) : Bool := @decide (i.natAbs < BIGN) (Classical.propDecidable _)
theorem Fits.log {i : Int} (h : Fits i = true) : i.natAbs.log2 < 8000 := PySem.Flt.log2_lt_of (by decide) (@of_decide_eq_true _ (Classical.propDecidable _) h)
theorem fits_of {i : Int} {k : Nat} (hk : k ≤ 8000) (h : i.natAbs < 2 ^ k) : Fits i = true := @decide_eq_true _ (Classical.propDecidable _) (Nat.lt_of_lt_of_le h (Nat.pow_le_pow_right (by decide) hk))
def oI (f : Int → Int → Option Int) : O2 := fun x y _ =>
  match x, y with
  | .int i, .int j => match f i j with
    | some k => some (.int k)
    | none => none
  | _, _ => none
theorem oI_ok {K : PySem.W.Frag} {C : Int → Int → Prop} {g : Int → Int → Int} {f : Int → Int → Option Int} (h : ∀ i j k, f i j = some k → C i j ∧ k = g i j) : RefO K (rI C fun i j => .int (g i j)) (oI f) := fun ρ st H dx dy d x y Q rs rx ry e k => by
  unfold oI at e
  split at e
  · rename_i i j
    split at e
    · rename_i m hm
      cases e
      obtain ⟨h1, h2⟩ := h i j m hm
      subst h2
      exact ⟨i, j, rx, ry, h1, k _ H (Nxt.refl _ _) rs rfl⟩
    · cases e
  · cases e
def fSub (i j : Int) : Option Int := some (i - j)
def fMul (i j : Int) : Option Int := if Fits i = true ∧ Fits j = true then some (i * j) else none
def fDiv (i j : Int) : Option Int := if j ≠ 0 ∧ Fits j = true then some (i.fdiv j) else none
def fMod (i j : Int) : Option Int := if j ≠ 0 then some (i.fmod j) else none
def fPow (i j : Int) : Option Int := if 0 ≤ j ∧ j ≤ 1000000 ∧ i.natAbs < 2 ^ 64 then some (i ^ j.toNat) else none
section
variable {X : Cx}
theorem op_sub' : OpR X (binaryOp .Sub) (rI (fun _ _ => True) fun i j => .int (i - j)) := opI fun _ _ _ _ _ _ _ _ q => sub_int q
theorem o_sub : OpR X (binaryOp .Sub) (rI (fun _ _ => True) fun i j => .int (i - j)) ∧ RefO X.K (rI (fun _ _ => True) fun i j => .int (i - j)) (oI fSub) := ⟨op_sub', oI_ok fun i j k e => by cases e; exact ⟨trivial, rfl⟩⟩
theorem o_mul : OpR X (binaryOp .Mult) (rI CMulW fun i j => .int (i * j)) ∧ RefO X.K (rI CMulW fun i j => .int (i * j)) (oI fMul) := ⟨op_mulW, oI_ok fun i j k e => by
  unfold fMul at e
  split at e
  · rename_i h
    cases e
    have h1 := Fits.log h.1
    have h2 := Fits.log h.2
    exact ⟨by unfold CMulW; omega, rfl⟩
  · cases e⟩
def CDivA (_ j : Int) : Prop := j ≠ 0 ∧ j.natAbs.log2 < 9000
theorem op_fdivA : OpR X (binaryOp .FloorDiv) (rI CDivA fun i j => .int (i.fdiv j)) := opI fun i j _ _ _ _ _ hc q => floordiv_int hc.1 q (.inl (PyProof.noPylong_of_log2 hc.2))
theorem o_div : OpR X (binaryOp .FloorDiv) (rI CDivA fun i j => .int (i.fdiv j)) ∧ RefO X.K (rI CDivA fun i j => .int (i.fdiv j)) (oI fDiv) := ⟨op_fdivA, oI_ok fun i j k e => by
  unfold fDiv at e
  split at e
  · rename_i h
    cases e
    exact ⟨⟨h.1, by have := Fits.log h.2; omega⟩, rfl⟩
  · cases e⟩
theorem o_mod : OpR X (binaryOp .Mod) (rI (fun _ j => j ≠ 0) fun i j => .int (i.fmod j)) ∧ RefO X.K (rI (fun _ j => j ≠ 0) fun i j => .int (i.fmod j)) (oI fMod) := ⟨op_modN, oI_ok fun i j k e => by
  unfold fMod at e
  split at e
  · rename_i h
    cases e
    exact ⟨h, rfl⟩
  · cases e⟩
theorem o_pow : OpR X (binaryOp .Pow) (rI CPow fun i j => .int (i ^ j.toNat)) ∧ RefO X.K (rI CPow fun i j => .int (i ^ j.toNat)) (oI fPow) := ⟨op_pow, oI_ok fun i j k e => by
  unfold fPow at e
  split at e
  · rename_i h
    cases e
    exact ⟨h, rfl⟩
  · cases e⟩
def mNeg (m : M Mn.D) : M Mn.D := fun env st => bnd (m env st) fun x st1 =>
  match x with
  | .int i => some (.int (-i), st1)
  | _ => none
theorem pm_neg {a : Expr} {m : M Mn.D} {pos : Pos} (h : PM X a m) : PM X (.UnaryOp .USub a pos) (mNeg m) :=
  imp_e (pe_un un_neg h) fun σ H Q ⟨env, st, ρ, d, st', ro, rs, e, k⟩ => by
    obtain ⟨x, s1, e1, e⟩ := bnd_inv e
    refine ⟨env, st, ρ, x, s1, ro, rs, e1, fun vx H1 ρ1 n1 rs1 rx => ?_⟩
    cases x with
    | int i => cases e; exact ⟨i, rx, k _ H1 ρ1 n1 rs1 rfl⟩
    | _ => cases e
/-- comparisons of ints -/
def oC (f : Int → Int → Bool) : O2 := fun x y _ =>
  match x, y with
  | .int i, .int j => some (.bl (f i j))
  | _, _ => none
theorem oC_ok {K : PySem.W.Frag} {f : Int → Int → Bool} : RefO K (rI0 fun i j => .bl (f i j)) (oC f) := fun ρ st H dx dy d x y Q rs rx ry e k => by
  unfold oC at e
  split at e
  · rename_i i j
    cases e
    exact ⟨i, j, rx, ry, k _ H (Nxt.refl _ _) rs rfl⟩
  · cases e
def cLt (i j : Int) : Bool := decide (i < j)
def cLe (i j : Int) : Bool := decide (i ≤ j)
def cGt (i j : Int) : Bool := decide (j < i)
def cGe (i j : Int) : Bool := decide (j ≤ i)
theorem o_lt : OpR X (compareOp .Lt) (rI0 fun i j => .bl (decide (i < j))) ∧ RefO X.K (rI0 fun i j => .bl (decide (i < j))) (oC cLt) := ⟨op_lt, oC_ok⟩
theorem o_le : OpR X (compareOp .LtE) (rI0 fun i j => .bl (decide (i ≤ j))) ∧ RefO X.K (rI0 fun i j => .bl (decide (i ≤ j))) (oC cLe) := ⟨op_le, oC_ok⟩
theorem o_gt : OpR X (compareOp .Gt) (rI0 fun i j => .bl (decide (j < i))) ∧ RefO X.K (rI0 fun i j => .bl (decide (j < i))) (oC cGt) := ⟨op_gt, oC_ok⟩
theorem o_ge : OpR X (compareOp .GtE) (rI0 fun i j => .bl (decide (j ≤ i))) ∧ RefO X.K (rI0 fun i j => .bl (decide (j ≤ i))) (oC cGe) := ⟨op_ge, oC_ok⟩
/-- a < b < c -/
def mChain (f g : O2) (ma mb mc : M Mn.D) : M Mn.D := fun env st => bnd (ma env st) fun x st1 => bnd (mb env st1) fun y st2 =>
  match f x y st2 with
  | some (.bl true) => bnd (mc env st2) fun z st3 => ret1 (g y z st3) st3
  | some (.bl false) => some (.bl false, st2)
  | _ => none
/-- is None -/
def isN : Mn.D → Bool
  | .non => true
  | _ => false
theorem RV.isN {K : PySem.W.Frag} {ρ : Rh} {H : Hp} {d : Mn.D} {v : V} (r : RV K ρ H d v) : decide (v = .non) = Mn.isN d := by
  cases d <;> first
    | (cases r; rfl)
    | (obtain ⟨a, e, _⟩ := r; subst e; rfl)
    | (obtain ⟨a, xs, e, _⟩ := r; subst e; rfl)
def oIs : O2 := fun x y _ =>
  match y with
  | .non => some (.bl (isN x))
  | _ => none
def oIsNot : O2 := fun x y _ =>
  match y with
  | .non => some (.bl (!isN x))
  | _ => none
theorem o_is : OpR X (compareOp .Is) (fun x y H Q => y = .non ∧ Q (.bl (decide (x = .non))) H) ∧ RefO X.K (fun x y H Q => y = .non ∧ Q (.bl (decide (x = .non))) H) oIs := ⟨op_isN, fun ρ st H dx dy d x y Q rs rx ry e k => by
  cases dy with
  | non => cases e; exact ⟨ry, by rw [rx.isN]; exact k _ H (Nxt.refl _ _) rs rfl⟩
  | _ => cases e⟩
theorem o_isnot : OpR X (compareOp .IsNot) (fun x y H Q => y = .non ∧ Q (.bl (!decide (x = .non))) H) ∧ RefO X.K (fun x y H Q => y = .non ∧ Q (.bl (!decide (x = .non))) H) oIsNot := ⟨op_notN, fun ρ st H dx dy d x y Q rs rx ry e k => by
  cases dy with
  | non => cases e; exact ⟨ry, by rw [rx.isN]; exact k _ H (Nxt.refl _ _) rs rfl⟩
  | _ => cases e⟩
end

/-! ### == of data -/
mutual
def toPy : Mn.D → Option PyData
  | .non => some .none
  | .bl b => some (.bool b)
  | .int i => some (.int i)
  | .str x => some (.str x)
  | .tup ds => match toPys ds with
    | some l => some (.tuple l)
    | none => none
  | .lst ds => match toPys ds with
    | some l => some (.list l)
    | none => none
  | .rol _ => none
  | .dic _ => none
  | .loc _ => none
  | .ptl _ => none
def toPys : List Mn.D → Option (List PyData)
  | [] => some []
  | d :: ds => match toPy d, toPys ds with
    | some p, some l => some (p :: l)
    | _, _ => none
end
section
variable {K : PySem.W.Frag} {ρ : Rh} {H : Hp}
mutual
theorem toPy_ok : ∀ (d : Mn.D) (v : V) (p : PyData), toPy d = some p → RV K ρ H d v → Dp K H v p
  | .non, _, _, e, h => by cases e; cases h; exact .non
  | .bl b, _, _, e, h => by cases e; cases h; exact .bl b
  | .int i, _, _, e, h => by cases e; cases h; exact .int i
  | .str x, _, _, e, h => by cases e; cases h; exact .str x
  | .tup ds, _, _, e, ⟨a, xs, ev, f, r⟩ => by
    unfold toPy at e
    split at e
    · rename_i l hl
      cases e; subst ev
      exact .tup f.seq (toPys_ok ds xs l hl r)
    · cases e
  | .lst ds, _, _, e, ⟨a, xs, ev, f, r⟩ => by
    unfold toPy at e
    split at e
    · rename_i l hl
      cases e; subst ev
      exact .lst (SqL.of f.2) (toPys_ok ds xs l hl r)
    · cases e
  | .rol _, _, _, e, _ => by cases e
  | .dic _, _, _, e, _ => by cases e
  | .loc _, _, _, e, _ => by cases e
  | .ptl _, _, _, e, _ => by cases e
theorem toPys_ok : ∀ (ds : List Mn.D) (vs : List V) (ps : List PyData), toPys ds = some ps → RVs K ρ H ds vs → DpAll K H vs ps
  | [], _, _, e, h => by cases e; cases h; exact .nil
  | d :: ds, _, _, e, ⟨v, r, ev, h, t⟩ => by
    unfold toPys at e
    split at e
    · rename_i p l h1 h2
      cases e; subst ev
      exact .cons (toPy_ok d v p h1 h) (toPys_ok ds r l h2 t)
    · cases e
end
end
/-- scalars -/
def eqS (x y : Mn.D) : Option Bool :=
  match x, y with
  | .int i, .int j => some (i == j)
  | .str i, .str j => some (i == j)
  | .bl i, .bl j => some (i == j)
  | .int _, .str _ => some false
  | .str _, .int _ => some false
  | .non, .non => some true
  | .non, .int _ => some false
  | .int _, .non => some false
  | .non, .str _ => some false
  | .str _, .non => some false
  | .bl _, .str _ => some false
  | .str _, .bl _ => some false
  | _, _ => none
theorem eqS_ok {K : PySem.W.Frag} {ρ : Rh} {H : Hp} {dx dy : Mn.D} {x y : V} {b : Bool} (rx : RV K ρ H dx x) (ry : RV K ρ H dy y) (e : eqS dx dy = some b) : scal x y = true ∧ decide (x = y) = b := by
  unfold eqS at e
  split at e <;> first
    | (cases e; cases rx; cases ry; first | exact ⟨rfl, dec_int⟩ | exact ⟨rfl, dec_str⟩ | exact ⟨rfl, dec_bl⟩ | exact ⟨rfl, by simp⟩)
    | cases e
def eqP (x y : Mn.D) : Option Bool :=
  match toPy x, toPy y with
    | some p, some q => if SeqAt.shaped p = true ∧ SeqAt.shaped q = true then some (PyData.eqv p q) else none
    | _, _ => none
theorem eqP_ok {K : PySem.W.Frag} {ρ : Rh} {H : Hp} {dx dy : Mn.D} {x y : V} {b : Bool} (rx : RV K ρ H dx x) (ry : RV K ρ H dy y) (e : eqP dx dy = some b) : ∃ d e, Dp K H x d ∧ Dp K H y e ∧ SeqAt.shaped d = true ∧ SeqAt.shaped e = true ∧ PyData.eqv d e = b := by
  unfold eqP at e
  split at e
  · rename_i p q h1 h2
    split at e
    · rename_i h
      cases e
      exact ⟨p, q, toPy_ok _ _ _ h1 rx, toPy_ok _ _ _ h2 ry, h.1, h.2, rfl⟩
    · cases e
  · cases e
def eqD (x y : Mn.D) : Option Bool := match eqS x y with
  | some b => some b
  | none => eqP x y
def oEq : O2 := fun x y _ => match eqD x y with
  | some b => some (.bl b)
  | none => none
def oNe : O2 := fun x y _ => match eqD x y with
  | some b => some (.bl (!b))
  | none => none
section
variable {X : Cx}
def rEqA (K : PySem.W.Frag) : R2 := fun x y H Q => rEq x y H Q ∨ rEqD K x y H Q
def rNeA (K : PySem.W.Frag) : R2 := fun x y H Q => rNe x y H Q ∨ rNeD K x y H Q
theorem o_eq (hu : X.A.units + 64 < cLine) : OpR X (compareOp .Eq) (rEqA X.K) ∧ RefO X.K (rEqA X.K) oEq := ⟨op_eq.or (op_eqD hu), fun ρ st H dx dy d x y Q rs rx ry e k => by
  unfold oEq eqD at e
  cases h : eqS dx dy with
  | some b =>
    rw [h] at e
    cases e
    obtain ⟨h1, h2⟩ := eqS_ok rx ry h
    exact .inl ⟨h1, by rw [h2]; exact k _ H (Nxt.refl _ _) rs rfl⟩
  | none =>
    rw [h] at e
    simp only at e
    split at e
    · rename_i b hb
      cases e
      obtain ⟨p, q, h1, h2, h3, h4, h5⟩ := eqP_ok rx ry hb
      exact .inr ⟨p, q, h1, h2, h3, h4, by rw [h5]; exact k _ H (Nxt.refl _ _) rs rfl⟩
    · cases e⟩
theorem o_ne (hu : X.A.units + 64 < cLine) : OpR X (compareOp .NotEq) (rNeA X.K) ∧ RefO X.K (rNeA X.K) oNe := ⟨op_ne.or (op_neD hu), fun ρ st H dx dy d x y Q rs rx ry e k => by
  unfold oNe eqD at e
  cases h : eqS dx dy with
  | some b =>
    rw [h] at e
    cases e
    obtain ⟨h1, h2⟩ := eqS_ok rx ry h
    exact .inl ⟨h1, by rw [h2]; exact k _ H (Nxt.refl _ _) rs rfl⟩
  | none =>
    rw [h] at e
    simp only at e
    split at e
    · rename_i b hb
      cases e
      obtain ⟨p, q, h1, h2, h3, h4, h5⟩ := eqP_ok rx ry hb
      exact .inr ⟨p, q, h1, h2, h3, h4, by rw [h5]; exact k _ H (Nxt.refl _ _) rs rfl⟩
    · cases e⟩
end
end
end Mn
end
section
set_option Elab.async false
set_option autoImplicit false
set_option linter.all false
set_option maxRecDepth 100000
set_option maxHeartbeats 2000000
/-! The mini layer, 6: chains, places, slices, truth, in, built-ins, methods. -/
namespace Mn
noncomputable section
open PySem PySem.Spec PyProof.Rows L2

/-! ### chains -/
theorem chain_core {K : PySem.W.Frag} {r r' : R2} {f g : O2} (hf : RefO K r f) (hg : RefO K r' g) {ma mb mc : M Mn.D} {σ : L2.St} {H : Hp} {Q : VK} (h : tM K (mChain f g ma mb mc) σ H Q) : tChain r r' (tM K ma) (tM K mb) (tM K mc) σ H Q := by
  obtain ⟨env, st, ρ, d, st', ro, rs, e, k⟩ := h
  obtain ⟨x, s1, e1, e⟩ := bnd_inv e
  obtain ⟨y, s2, e2, e⟩ := bnd_inv e
  refine ⟨env, st, ρ, x, s1, ro, rs, e1, fun vx H1 ρ1 n1 rs1 rx => ⟨env, s1, ρ1, y, s2, ro.nxt n1, rs1, e2, fun vy H2 ρ2 n2 rs2 ry => ?_⟩⟩
  split at e
  · rename_i hb
    obtain ⟨z, s3, e3, e⟩ := bnd_inv e
    obtain ⟨e4, e5⟩ := ret1_inv e
    cases e5
    refine hf ρ2 s2 H2 x y (.bl true) vx vy _ rs2 (RV.nxt n2 _ _ rx) ry hb fun v H3 n3 rs3 rv => ⟨true, rv, ?_⟩
    simp only [if_true]
    refine ⟨env, s2, ρ2, z, _, (ro.nxt n1).nxt (n2.trans n3), rs3, e3, fun vz H4 ρ4 n4 rs4 rz => ?_⟩
    exact hg ρ4 _ H4 y z d vy vz Q rs4 (RV.nxt (n3.trans n4) _ _ ry) rz e4 fun v H5 n5 rs5 rv => k v H5 ρ4 (n1.trans (n2.trans (n3.trans (n4.trans n5)))) rs5 rv
  · rename_i hb
    cases e
    refine hf ρ2 _ H2 x y (.bl false) vx vy _ rs2 (RV.nxt n2 _ _ rx) ry hb fun v H3 n3 rs3 rv => ⟨false, rv, ?_⟩
    simp only [Bool.false_eq_true, if_false]
    exact k _ H3 ρ2 (n1.trans (n2.trans n3)) rs3 rfl
  · cases e
section
variable {X : Cx} {a b c : Expr} {ma mb mc : M Mn.D} {pos : Pos}
theorem pm_chain {op op' : CmpOp} {r r' : R2} {f g : O2} (ho : OpR X (compareOp op) r ∧ RefO X.K r f) (ho' : OpR X (compareOp op') r' ∧ RefO X.K r' g) (ha : PM X a ma) (hb : PM X b mb) (hc : PM X c mc)
    (hm : lastMarks [op, op'] [b, c] = false := by with_unfolding_all rfl) : PM X (.Compare a [op, op'] [b, c] pos) (mChain f g ma mb mc) := imp_e (pe_chain ho.1 ho'.1 ha hb hc hm) fun _ _ _ h => chain_core ho.2 ho'.2 h
theorem pmt_chain {op op' : CmpOp} {r r' : R2} {f g : O2} (ho : OpR X (compareOp op) r ∧ RefO X.K r f) (ho' : OpR X (compareOp op') r' ∧ RefO X.K r' g) (ha : PM X a ma) (hb : PM X b mb) (hc : PM X c mc)
    (hm : lastMarks [op, op'] [b, c] = false := by with_unfolding_all rfl) : PMT X (.Compare a [op, op'] [b, c] pos) (mTB (mChain f g ma mb mc)) := imp_t (pt_chain ho.1 ho'.1 ha hb hc hm) fun σ H Q h => chain_core ho.2 ho'.2 (tB_core h)
end

/-! ### dicts as tables -/
def keyD : Mn.D → Option Key
  | .int i => some (.inl i)
  | .str x => some (.inr x)
  | _ => none
theorem keyD_ok {K : PySem.W.Frag} {ρ : Rh} {H : Hp} {d : Mn.D} {v : V} {k : Key} (r : RV K ρ H d v) (e : keyD d = some k) : v = kV k := by
  cases d <;> cases e <;> exact r
def lkD : List (Key × Mn.D) → Key → Option Mn.D
  | [], _ => none
  | (j, d) :: r, k => if j = k then some d else lkD r k
def putD (l : List (Key × Mn.D)) (k : Key) (d : Mn.D) : List (Key × Mn.D) :=
  if (l.any fun kv => decide (kv.1 = k)) = true then l.map (fun kv => if kv.1 = k then (kv.1, d) else kv) else l ++ [(k, d)]
section
variable {K : PySem.W.Frag} {ρ : Rh} {H : Hp}
theorem lkD_ok : ∀ {l : List (Key × Mn.D)} {xs : List (Key × V)} {k : Key}, RVk K ρ H l xs → (lkD l k).isSome = (valV xs k).isSome ∧ ∀ d, lkD l k = some d → ∃ v, valV xs k = some v ∧ RV K ρ H d v
  | [], _, _, h => by subst h; exact ⟨rfl, fun d e => by cases e⟩
  | (j, d) :: l, _, k, ⟨v, r, e, h, t⟩ => by
    subst e
    unfold lkD
    by_cases hj : j = k
    · rw [if_pos hj, valV_pos hj]
      exact ⟨rfl, fun d' e => by cases e; exact ⟨v, rfl, h⟩⟩
    · rw [if_neg hj, valV_neg hj]
      exact lkD_ok t
theorem RVk.any : ∀ {l : List (Key × Mn.D)} {xs : List (Key × V)} (k : Key), RVk K ρ H l xs → (l.any fun kv => decide (kv.1 = k)) = (xs.any fun kv => decide (kv.1 = k))
  | [], _, _, h => by subst h; rfl
  | (j, d) :: l, _, k, ⟨v, r, e, h, t⟩ => by subst e; simp only [List.any_cons]; rw [RVk.any k t]
theorem RVk.repl {d : Mn.D} {v : V} (k : Key) (hv : RV K ρ H d v) : ∀ {l : List (Key × Mn.D)} {xs : List (Key × V)}, RVk K ρ H l xs → RVk K ρ H (l.map (fun kv => if kv.1 = k then (kv.1, d) else kv)) (xs.map (fun kv => if kv.1 = k then (kv.1, v) else kv))
  | [], _, h => by subst h; rfl
  | (j, e) :: l, _, ⟨w, r, ew, h, t⟩ => by
    subst ew
    simp only [List.map_cons]
    by_cases hj : j = k
    · simp only [hj, if_true]
      exact ⟨v, _, rfl, hv, RVk.repl k hv t⟩
    · simp only [hj, if_false]
      exact ⟨w, _, rfl, h, RVk.repl k hv t⟩
theorem RVk.append : ∀ {l m : List (Key × Mn.D)} {xs ys : List (Key × V)}, RVk K ρ H l xs → RVk K ρ H m ys → RVk K ρ H (l ++ m) (xs ++ ys)
  | [], _, _, _, h, t => by subst h; exact t
  | (j, e) :: l, _, _, _, ⟨w, r, ew, h, q⟩, t => by subst ew; exact ⟨w, r ++ _, rfl, h, RVk.append q t⟩
theorem RVk.put {d : Mn.D} {v : V} (k : Key) (hv : RV K ρ H d v) {l : List (Key × Mn.D)} {xs : List (Key × V)} (h : RVk K ρ H l xs) : RVk K ρ H (putD l k d) (putK xs k v) := by
  unfold putD putK
  rw [RVk.any k h]
  split
  · exact RVk.repl k hv h
  · exact RVk.append h ⟨v, [], rfl, hv, rfl⟩
end
theorem putD_len (l : List (Key × Mn.D)) (k : Key) (d : Mn.D) : (putD l k d).length ≤ l.length + 1 := by
  unfold putD
  split <;> simp

/-! ### a[b]: a list, a tuple, a text, a dict -/
def ixO : O2 := fun x y st =>
  match y with
  | .int i => match seqD x st with
    | some l => atI l i
    | none => match x with
      | .str z => @ite _ (z.length ≤ 1000000) (Classical.propDecidable _) ((atI z.cps.toList i).map fun c => .str ⟨#[c]⟩) none
      | _ => match dicD x st with
        | some ks => lkD ks (.inl i)
        | none => none
  | .str z => match dicD x st with
    | some ks => lkD ks (.inr z)
    | none => none
  | _ => none
theorem atI_ok {K : PySem.W.Frag} {ρ : Rh} {H : Hp} {l : List Mn.D} {xs : List V} {i : Int} {d : Mn.D} (r : RVs K ρ H l xs) (e : atI l i = some d) : ∃ v, atI xs i = some v ∧ RV K ρ H d v := by
  unfold atI at e ⊢
  rw [RVs.length r]
  cases h : ixN l.length i with
  | none => rw [h] at e; cases e
  | some j =>
    rw [h] at e
    exact RVs.get r e
def rIxD : R2 := fun x y H Q => ∃ a v, x = .ref a ∧ DGet H a y (some v) ∧ Q v H
theorem ix_dict {X : Cx} (hu : X.A.units + 1 < cLine) : IxR X rIxD := by
  intro value slice pins s σ H x y v u Q I rx ry h hs
  obtain ⟨a, w, rfl, g, q⟩ := h
  cases rx
  exact tail_any (dict_typeIs I g) PySem.F.slot_dict_getitem.lookup (d_getItem hu I g ry fun w' s' I' rw' => ⟨w, H, I', rw', q⟩) hs
def rIxA (K : PySem.W.Frag) : R2 := fun x y H Q => rIx K x y H Q ∨ rIxD x y H Q
theorem ix_ref {K : PySem.W.Frag} : RefO K (rIxA K) ixO := fun ρ st H dx dy d x y Q rs rx ry e k => by
  have dict : ∀ {ks : List (Key × Mn.D)} {kk : Key}, dicD dx st = some ks → lkD ks kk = some d → y = kV kk → rIxA K x y H Q := fun {ks kk} h1 h2 h3 => by
    obtain ⟨a, xs, e1, f, r⟩ := dicD_ok rs rx h1
    obtain ⟨v, h4, h5⟩ := (lkD_ok r).2 d h2
    exact .inr ⟨a, v, e1, .inl ⟨xs, kk, f, h3, h4.symm⟩, k v H (Nxt.refl _ _) rs h5⟩
  unfold ixO at e
  split at e
  · rename_i i
    split at e
    · rename_i l hl
      obtain ⟨a, xs, e1, f, r⟩ := seqD_ok rs rx hl
      obtain ⟨v, h1, h2⟩ := atI_ok r e
      rcases f with f | f
      · exact .inl (.inl ⟨a, xs, i, v, e1, ry, f, h1, k v H (Nxt.refl _ _) rs h2⟩)
      · exact .inl (.inr (.inl ⟨a, xs, i, v, e1, ry, f, h1, k v H (Nxt.refl _ _) rs h2⟩))
    · split at e
      · rename_i z hq
        split at e
        · rename_i hz
          obtain ⟨c, h1, h2⟩ := Option.map_eq_some_iff.mp e
          subst h2
          exact .inl (.inr (.inr ⟨z, i, c, rx, ry, sz1m' hz, h1, k _ H (Nxt.refl _ _) rs rfl⟩))
        · cases e
      · split at e
        · rename_i ks hk
          exact dict hk e ry
        · cases e
  · rename_i z
    split at e
    · rename_i ks hk
      exact dict hk e ry
    · cases e
  · cases e
section
variable {X : Cx} {a b c : Expr} {ma mb mc : M Mn.D} {pos : Pos}
theorem pm_ix (hu : X.A.units + 1 < cLine) (ha : PM X a ma) (hb : PM X b mb) (hs : PlainIx b := by exact fun _ _ => rfl) : PM X (.Subscript a b pos) (mOp ixO ma mb) :=
  imp_e (pe_ix (ix_seq.or (ix_dict hu)) ha hb hs) fun _ _ _ h => op_core ix_ref h

/-! ### slices -/
def cutD (l : List Mn.D) (lo hi : Option Int) : List Mn.D := (l.drop (HT.sIx l.length 0 lo)).take (HT.sIx l.length l.length hi - HT.sIx l.length 0 lo)
theorem cutD_ok {K : PySem.W.Frag} {ρ : Rh} {H : Hp} {l : List Mn.D} {xs : List V} (lo hi : Option Int) (r : RVs K ρ H l xs) : RVs K ρ H (cutD l lo hi) (cutV xs lo hi) := by
  unfold cutD cutV
  rw [RVs.length r]
  exact RVs.take _ (RVs.drop _ r)
abbrev MO := M (Option Int)
def tMO (K : PySem.W.Frag) (m : MO) : TO := fun σ H Q => ∃ env st ρ d st', RVo K ρ H env σ ∧ RepSt K ρ st H ∧ m env st = some (d, st') ∧ ∀ H' ρ', Nxt ρ H ρ' H' → RepSt K ρ' st' H' → Q d H'
abbrev PMO (X : Cx) (e : Option Expr) (m : MO) : Prop := PO X e (tMO X.K m)
def mNoP : MO := fun _ st => some (none, st)
def mPart (m : M Mn.D) : MO := fun env st => bnd (m env st) fun x st1 =>
  match x with
  | .int i => some (some i, st1)
  | _ => none
theorem imp_o {e : Option Expr} {t t' : TO} (h : PO X e t) (f : ∀ σ H Q, t' σ H Q → t σ H Q) : PO X e t' := ⟨fun pins s σ H Q I q => h.run pins s σ H Q I (f σ H Q q)⟩
theorem pmo_none : PMO X none mNoP := imp_o po_none fun σ H Q ⟨env, st, ρ, d, st', ro, rs, e, k⟩ => by
  cases e
  exact k H ρ (Nxt.refl _ _) rs
theorem pmo_some (h : PM X a ma) : PMO X (some a) (mPart ma) := imp_o (po_some h) fun σ H Q ⟨env, st, ρ, d, st', ro, rs, e, k⟩ => by
  obtain ⟨x, s1, e1, e⟩ := bnd_inv e
  refine ⟨env, st, ρ, x, s1, ro, rs, e1, fun v H' ρ' n rs' rv => ?_⟩
  cases x with
  | int i => cases e; exact ⟨i, rv, k H' ρ' n rs'⟩
  | _ => cases e
/-- a slice of a list: a new list -/
def mSlL (ma : M Mn.D) (ml mh : MO) : M (List Mn.D) := fun env st => bnd (ma env st) fun x st1 => bnd (ml env st1) fun lo st2 => bnd (mh env st2) fun hi st3 =>
  match x with
  | .tup _ => none
  | x => match seqD x st3 with
    | some l => some (cutD l lo hi, st3)
    | none => none
theorem seqD_list {K : PySem.W.Frag} {ρ : Rh} {H : Hp} {st : Store} {d : Mn.D} {v : V} {l : List Mn.D} (rs : RepSt K ρ st H) (rv : RV K ρ H d v) (e : seqD d st = some l) (h : ∀ l, d ≠ .tup l) : ∃ a xs, v = .ref a ∧ SqL K H a xs ∧ RVs K ρ H l xs := by
  cases d with
  | tup ds => exact absurd rfl (h ds)
  | lst ds => cases e; obtain ⟨a, xs, e1, f, r⟩ := rv; exact ⟨a, xs, e1, SqL.of f.2, r⟩
  | rol ds => cases e; obtain ⟨a, xs, e1, f, r⟩ := rv; exact ⟨a, xs, e1, f.seq, r⟩
  | loc n =>
    unfold seqD at e
    simp only at e
    split at e
    · rename_i l' h
      cases e
      obtain ⟨a, e1, e2, xs, e3, r⟩ := rs.at rv h
      exact ⟨a, xs, e1, SqL.of e3, r⟩
    · cases e
  | _ => cases e
theorem pml_sl {lo hi : Option Expr} {ml mh : MO} {p2 : Pos} (ha : PM X a ma) (hl : PMO X lo ml) (hh : PMO X hi mh) : PML X (.Subscript a (.Slice lo hi none p2) pos) (mSlL ma ml mh) :=
  imp_e (pe_slice sl_list ha hl hh) fun σ H Q ⟨env, st, ρ, d, st', ro, rs, e, k⟩ => by
    obtain ⟨x, s1, e1, e⟩ := bnd_inv e
    obtain ⟨l, s2, e2, e⟩ := bnd_inv e
    obtain ⟨h, s3, e3, e⟩ := bnd_inv e
    refine ⟨env, st, ρ, x, s1, ro, rs, e1, fun vx H1 ρ1 n1 rs1 rx => ⟨env, s1, ρ1, l, s2, ro.nxt n1, rs1, e2, fun H2 ρ2 n2 rs2 => ⟨env, s2, ρ2, h, s3, ro.nxt (n1.trans n2), rs2, e3, fun H3 ρ3 n3 rs3 => ?_⟩⟩⟩
    split at e
    · cases e
    · rename_i hx
      split at e
      · rename_i l' hs
        cases e
        obtain ⟨p, xs, ev, f, r⟩ := seqD_list rs3 (RV.nxt (n2.trans n3) _ _ rx) hs (fun l z => hx l z)
        exact ⟨p, xs, ev, f, fun q hq => k q _ H3 ρ3 (n1.trans (n2.trans n3)) rs3 hq (cutD_ok _ _ r)⟩
      · cases e
/-- of a tuple: a plain tuple, itself if it is the whole -/
def rSlF (K : PySem.W.Frag) : V → Option Int → Option Int → Hp → VK → Prop := fun x lo hi H Q => ∃ a xs, x = .ref a ∧ SqT K H a xs ∧
  (HT.sIx xs.length 0 lo = 0 ∧ HT.sIx xs.length xs.length hi = xs.length → Q (.ref a) H) ∧ (¬ (HT.sIx xs.length 0 lo = 0 ∧ HT.sIx xs.length xs.length hi = xs.length) → ∀ p o, H p = none → o.dict = none → Q (.ref p) (upd H p (.frz o (.tup (cutV xs lo hi)))))
theorem sl_tupF : SlR X (rSlF X.K) := by
  intro pins s σ H x v vl vu lo hi sl Q I rx hs pl pu h
  obtain ⟨a, xs, rfl, hx, q1, q2⟩ := h
  by_cases hw : HT.sIx xs.length 0 lo = 0 ∧ HT.sIx xs.length xs.length hi = xs.length
  · cases rx
    obtain ⟨its, r, ht, hz⟩ := I.tuple hx
    have hlen := r.length
    refine ⟨"tuple", _, PyProof.Rows.slot_tuple_getitem.lookup, ht.typeIs, ?_⟩
    refine getItem_tuple_whole ht hs pl pu ?_ ⟨.ref a, H, I, rfl, q1 hw⟩
    rw [List.size_toArray, ← hlen]
    exact hw
  · cases rx
    obtain ⟨its, r, ht, hz⟩ := I.tuple hx
    have hlen : its.toArray.size = xs.length := by rw [List.size_toArray]; exact r.length.symm
    refine ⟨"tuple", _, PyProof.Rows.slot_tuple_getitem.lookup, ht.typeIs, ?_⟩
    refine HT.getItem_tuple_cut ht hs pl pu (by rw [hlen]; exact hw) ?_ (by rw [hlen]; exact hz)
    rw [hlen]
    refine ⟨.ref s.heap.objs.size, _, I.laid (t' := s.toks) (o := .frz { cls := .type "tuple", data := .seq ((its.toArray.toList.drop (HT.sIx xs.length 0 lo)).take (HT.sIx xs.length xs.length hi - HT.sIx xs.length 0 lo)).toArray } (.tup (cutV xs lo hi))) (fun b ob q => Heap.get?_push_of_some _ q) (Nat.le_refl _) ?_, rfl, q2 hw _ _ (I.hok.fresh (Nat.le_refl _)) rfl⟩
    exact ⟨Heap.get?_push_size _ rfl, Nat.le_trans (cutV_length xs lo hi) hz, _, (r.drop (HT.sIx xs.length 0 lo)).take (HT.sIx xs.length xs.length hi - HT.sIx xs.length 0 lo), IsTup.new _ _⟩
/-- .. -/
def mSlT (ma : M Mn.D) (ml mh : MO) : M Mn.D := fun env st => bnd (ma env st) fun x st1 => bnd (ml env st1) fun lo st2 => bnd (mh env st2) fun hi st3 =>
  match x with
  | .tup l => some (.tup (cutD l lo hi), st3)
  | _ => none
theorem cutV_whole {xs : List V} {lo hi : Option Int} (h : HT.sIx xs.length 0 lo = 0 ∧ HT.sIx xs.length xs.length hi = xs.length) : cutV xs lo hi = xs := by
  unfold cutV
  rw [h.1, h.2, List.drop_zero, Nat.sub_zero, List.take_length]
theorem cutD_whole {xs : List Mn.D} {lo hi : Option Int} (h : HT.sIx xs.length 0 lo = 0 ∧ HT.sIx xs.length xs.length hi = xs.length) : cutD xs lo hi = xs := by
  unfold cutD
  rw [h.1, h.2, List.drop_zero, Nat.sub_zero, List.take_length]
theorem pm_slT {lo hi : Option Expr} {ml mh : MO} {p2 : Pos} (ha : PM X a ma) (hl : PMO X lo ml) (hh : PMO X hi mh) : PM X (.Subscript a (.Slice lo hi none p2) pos) (mSlT ma ml mh) :=
  imp_e (pe_slice sl_tupF ha hl hh) fun σ H Q ⟨env, st, ρ, d, st', ro, rs, e, k⟩ => by
    obtain ⟨x, s1, e1, e⟩ := bnd_inv e
    obtain ⟨l, s2, e2, e⟩ := bnd_inv e
    obtain ⟨h, s3, e3, e⟩ := bnd_inv e
    refine ⟨env, st, ρ, x, s1, ro, rs, e1, fun vx H1 ρ1 n1 rs1 rx => ⟨env, s1, ρ1, l, s2, ro.nxt n1, rs1, e2, fun H2 ρ2 n2 rs2 => ⟨env, s2, ρ2, h, s3, ro.nxt (n1.trans n2), rs2, e3, fun H3 ρ3 n3 rs3 => ?_⟩⟩⟩
    cases x with
    | tup ds =>
      cases e
      obtain ⟨p, xs, ev, f, r⟩ := RV.nxt (n2.trans n3) _ _ rx
      have hl := RVs.length r
      have nn := n1.trans (n2.trans n3)
      refine ⟨p, xs, ev, f.seq, fun hw => ?_, fun hw q o hq ho => ?_⟩
      · rw [hl] at hw
        rw [cutD_whole hw] at k
        exact k _ H3 ρ3 nn rs3 ⟨p, xs, rfl, f, r⟩
      · have n := Nxt.laid (o := .frz o (.tup (cutV xs l h))) rs3 hq
        exact k _ _ ρ3 (nn.trans n) (rs3.laid hq) ⟨q, _, rfl, .inl ⟨rs3.out hq, o, upd_same, ho⟩, RVs.nxt n _ _ (cutD_ok _ _ r)⟩
    | _ => cases e

/-! ### truth -/
def truD (d : Mn.D) (st : Store) : Option Bool :=
  match d with
  | .non => some false
  | .bl b => some b
  | .int i => some (i != 0)
  | .str x => @ite _ (x.length ≤ 1000000) (Classical.propDecidable _) (some ((x.length : Int) != 0)) none
  | .dic ks => some (!ks.isEmpty)
  | .ptl _ => none
  | .loc n => match st[n]? with
    | some (.lst l) => some (!l.isEmpty)
    | some (.dic l) => some (!l.isEmpty)
    | _ => none
  | d => (seqD d st).map fun l => !l.isEmpty
def mTr (m : M Mn.D) : M Bool := fun env st => bnd (m env st) fun x st1 => ret1 (truD x st1) st1
theorem tru_dic : TruR X (fun x H Q => ∃ a kvs, x = .ref a ∧ Rd H a (.dK kvs) ∧ Q (!kvs.isEmpty) H) := by
  intro pins s σ H x v Q I rx h
  obtain ⟨a, kvs, rfl, hd, q⟩ := h
  cases rx
  exact d_truth I hd fun s' I' => ⟨H, I', q⟩
theorem RVs.empty {K : PySem.W.Frag} {ρ : Rh} {H : Hp} {l : List Mn.D} {xs : List V} (r : RVs K ρ H l xs) : xs.isEmpty = l.isEmpty := by
  cases l with
  | nil => cases r; rfl
  | cons d l => obtain ⟨v, r, e, _⟩ := r; subst e; rfl
theorem RVk.empty {K : PySem.W.Frag} {ρ : Rh} {H : Hp} {l : List (Key × Mn.D)} {xs : List (Key × V)} (r : RVk K ρ H l xs) : xs.isEmpty = l.isEmpty := by
  cases l with
  | nil => cases r; rfl
  | cons d l => obtain ⟨k, d⟩ := d; obtain ⟨v, r, e, _⟩ := r; subst e; rfl
theorem truD_ok {K : PySem.W.Frag} {ρ : Rh} {H : Hp} {st : Store} {d : Mn.D} {v : V} {b : Bool} (rs : RepSt K ρ st H) (rv : RV K ρ H d v) (e : truD d st = some b) : (TruV K v H b) ∨ ∃ a kvs, v = .ref a ∧ Rd H a (.dK kvs) ∧ b = !kvs.isEmpty := by
  have seq : ∀ l, seqD d st = some l → b = !l.isEmpty → TruV K v H b := fun l h1 h2 => by
    obtain ⟨a, xs, e1, f, r⟩ := seqD_ok rs rv h1
    subst e1
    rw [h2, ← RVs.empty r]
    exact f.elim (fun f => .inl ⟨xs, f, rfl⟩) (fun f => .inr (.inl ⟨xs, f, rfl⟩))
  have dic : ∀ l, dicD d st = some l → b = !l.isEmpty → ∃ a kvs, v = .ref a ∧ Rd H a (.dK kvs) ∧ b = !kvs.isEmpty := fun l h1 h2 => by
    obtain ⟨a, xs, e1, f, r⟩ := dicD_ok rs rv h1
    exact ⟨a, xs, e1, f, by rw [h2, RVk.empty r]⟩
  cases d with
  | non => cases e; cases rv; exact .inl rfl
  | bl b => cases e; cases rv; exact .inl rfl
  | int i => cases e; cases rv; exact .inl rfl
  | str x =>
    cases rv
    unfold truD at e
    simp only at e
    split at e
    · rename_i h
      cases e
      exact .inl ⟨sz1m' h, rfl⟩
    · cases e
  | tup l => cases e; exact .inl (seq l rfl rfl)
  | lst l => cases e; exact .inl (seq l rfl rfl)
  | rol l => cases e; exact .inl (seq l rfl rfl)
  | dic l => cases e; exact .inr (dic l rfl rfl)
  | ptl l => cases e
  | loc n =>
    unfold truD at e
    simp only at e
    split at e
    · rename_i l h
      cases e
      exact .inl (seq l (by unfold seqD; simp only [h]) rfl)
    · rename_i l h
      cases e
      exact .inr (dic l (by unfold dicD; simp only [h]) rfl)
    · cases e
theorem pmt_tr (ha : PM X a ma) (he : ∀ whole, isTrue a X.env whole = (do let v ← whole; standAt a.pos; holding [v] (truthy v)) := by intro _; rfl) : PMT X a (mTr ma) := by
  have h : PT X a (fun σ H Q => tM X.K ma σ H fun x H' => (∃ k, TruV X.K x H' k ∧ Q k H') ∨ ∃ a kvs, x = .ref a ∧ Rd H' a (.dK kvs) ∧ Q (!kvs.isEmpty) H') := by
    refine ⟨fun pins s σ H Q I h => ?_⟩
    refine isTrue_plain (thn (ha.run pins s σ H _ I h) fun v s1 ⟨x, H1, I1, r1, q1⟩ => ?_) (he _)
    rcases q1 with q1 | q1
    · exact tru_ok pins s1 σ H1 x v Q I1 r1 q1
    · exact tru_dic pins s1 σ H1 x v Q I1 r1 q1
  refine imp_t h fun σ H Q ⟨env, st, ρ, d, st', ro, rs, e, k⟩ => ?_
  obtain ⟨x, s1, e1, e⟩ := bnd_inv e
  obtain ⟨e2, e3⟩ := ret1_inv e
  cases e3
  refine ⟨env, st, ρ, x, _, ro, rs, e1, fun v H' ρ' n rs' rv => ?_⟩
  rcases truD_ok rs' rv e2 with h | ⟨a, kvs, h1, h2, h3⟩
  · exact .inl ⟨_, h, k H' ρ' n rs'⟩
  · exact .inr ⟨a, kvs, h1, h2, by rw [← h3]; exact k H' ρ' n rs'⟩

/-! ### in -/
def flatD : Mn.D → Bool
  | .non => true
  | .bl _ => true
  | .int _ => true
  | .str _ => true
  | _ => false
def eqF : Mn.D → Mn.D → Bool
  | .non, .non => true
  | .bl a, .bl b => a == b
  | .bl a, .int b => (if a then 1 else 0) == b
  | .int a, .bl b => a == (if b then 1 else 0)
  | .int a, .int b => a == b
  | .str a, .str b => a == b
  | _, _ => false
def inD (x : Mn.D) (l : List Mn.D) : Bool := l.any fun y => eqF y x
section
variable {K : PySem.W.Frag} {ρ : Rh} {H : Hp}
theorem flat_ok {d : Mn.D} {v : V} (r : RV K ρ H d v) (h : flatD d = true) : flatV v = true := by
  cases d <;> first
    | (cases r; rfl)
    | cases h
theorem eqF_ok {d e : Mn.D} {v u : V} (r : RV K ρ H d v) (q : RV K ρ H e u) (h : flatD d = true) (h2 : flatD e = true) : eqV v u = eqF d e := by
  cases d <;> cases e <;> first
    | (cases h; done)
    | (cases h2; done)
    | (cases r; cases q; rfl)
theorem inD_ok {d : Mn.D} {v : V} (r : RV K ρ H d v) (h : flatD d = true) : ∀ {l : List Mn.D} {xs : List V}, RVs K ρ H l xs → l.all flatD = true → xs.all flatV = true ∧ inV v xs = inD d l
  | [], _, q, _ => by subst q; exact ⟨rfl, rfl⟩
  | e :: l, _, ⟨u, t, eu, q, rest⟩, f => by
    subst eu
    simp only [List.all_cons, Bool.and_eq_true] at f
    obtain ⟨h1, h2⟩ := inD_ok r h rest f.2
    refine ⟨by simp only [List.all_cons, Bool.and_eq_true]; exact ⟨flat_ok q f.1, h1⟩, ?_⟩
    show (eqV u v || t.any fun y => eqV y v) = (eqF e d || l.any fun y => eqF y d)
    rw [eqF_ok q r f.1 h]
    exact congrArg _ h2
end
def inO (x y : Mn.D) (st : Store) : Option Bool :=
  match y with
  | .str z => match x with
    | .str c => if c.cps.size = 1 then some (decide (c.cps.getD 0 0 ∈ z.cps.toList)) else none
    | _ => none
  | y => match seqD y st with
    | some l => if flatD x = true ∧ l.all flatD = true then some (inD x l) else none
    | none => match dicD y st, keyD x with
      | some ks, some k => some (lkD ks k).isSome
      | _, _ => none
def oIn : O2 := fun x y st => match inO x y st with
  | some b => some (.bl b)
  | none => none
def oNotIn : O2 := fun x y st => match inO x y st with
  | some b => some (.bl (!b))
  | none => none
def rInA (K : PySem.W.Frag) (neg : Bool) : R2 := fun x y H Q => (∃ (c : Nat) (z : Str), x = .str ⟨#[c]⟩ ∧ y = .str z ∧ Q (.bl (if neg then !decide (c ∈ z.cps.toList) else decide (c ∈ z.cps.toList))) H) ∨ rIn K neg x y H Q ∨ ∃ a o, y = .ref a ∧ DGet H a x o ∧ Q (.bl (if neg then !o.isSome else o.isSome)) H
theorem op_inA (hu : X.A.units + 1 < cLine) : OpR X (compareOp .In) (rInA X.K false) :=
  op_in_sign.or (op_in_seq.or fun pins s σ H x y v u Q I rx ry h => by
    obtain ⟨a, o, rfl, g, q⟩ := h
    cases ry
    exact d_in hu I g rx fun s' I' => ⟨.bl o.isSome, H, I', rfl, q⟩)
theorem op_notInA (hu : X.A.units + 1 < cLine) : OpR X (compareOp .NotIn) (rInA X.K true) :=
  op_notIn_sign.or (op_notIn_seq.or fun pins s σ H x y v u Q I rx ry h => by
    obtain ⟨a, o, rfl, g, q⟩ := h
    cases ry
    exact d_notIn hu I g rx fun s' I' => ⟨.bl (!o.isSome), H, I', rfl, q⟩)
theorem inO_ok {K : PySem.W.Frag} {ρ : Rh} {H : Hp} {st : Store} {dx dy : Mn.D} {x y : V} {b neg : Bool} {Q : VK} (rs : RepSt K ρ st H) (rx : RV K ρ H dx x) (ry : RV K ρ H dy y) (e : inO dx dy st = some b) (q : Q (.bl (if neg then !b else b)) H) : rInA K neg x y H Q := by
  unfold inO at e
  split at e
  · rename_i z
    split at e
    · rename_i c
      split at e
      · rename_i hc
        cases e
        refine .inl ⟨c.cps.getD 0 0, z, ?_, ry, q⟩
        have ec : c = ⟨#[c.cps.getD 0 0]⟩ := by
          obtain ⟨cps⟩ := c
          have hc : cps.size = 1 := hc
          congr 1
          apply Array.ext
          · simp [hc]
          · intro i h1 h2
            have : i = 0 := by simp at h2; omega
            subst this
            simp [Array.getD, hc]
        rw [ec] at rx
        exact rx
      · cases e
    · cases e
  · rename_i hns
    split at e
    · rename_i l hl
      split at e
      · rename_i hf
        cases e
        obtain ⟨a, xs, e1, f, r⟩ := seqD_ok rs ry hl
        obtain ⟨h1, h2⟩ := inD_ok rx hf.1 r hf.2
        exact .inr (.inl ⟨a, xs, e1, f, flat_ok rx hf.1, h1, by rw [h2]; exact q⟩)
      · cases e
    · split at e
      · rename_i ks k h1 h2
        cases e
        obtain ⟨a, xs, e1, f, r⟩ := dicD_ok rs ry h1
        refine .inr (.inr ⟨a, valV xs k, e1, .inl ⟨xs, k, f, keyD_ok rx h2, rfl⟩, ?_⟩)
        rw [← (lkD_ok r).1]
        exact q
      · cases e
theorem o_in (hu : X.A.units + 1 < cLine) : OpR X (compareOp .In) (rInA X.K false) ∧ RefO X.K (rInA X.K false) oIn := ⟨op_inA hu, fun ρ st H dx dy d x y Q rs rx ry e k => by
  unfold oIn at e
  split at e
  · rename_i b hb
    cases e
    exact inO_ok (neg := false) rs rx ry hb (k _ H (Nxt.refl _ _) rs rfl)
  · cases e⟩
theorem o_notin (hu : X.A.units + 1 < cLine) : OpR X (compareOp .NotIn) (rInA X.K true) ∧ RefO X.K (rInA X.K true) oNotIn := ⟨op_notInA hu, fun ρ st H dx dy d x y Q rs rx ry e k => by
  unfold oNotIn at e
  split at e
  · rename_i b hb
    cases e
    exact inO_ok (neg := true) rs rx ry hb (k _ H (Nxt.refl _ _) rs rfl)
  · cases e⟩
end
end
end Mn
end
section
set_option Elab.async false
set_option autoImplicit false
set_option linter.all false
set_option maxRecDepth 100000
set_option maxHeartbeats 2000000
/-! The mini layer, 7: built-in functions and classes by name, methods, stores. -/
namespace Mn
noncomputable section
open PySem PySem.Spec PyProof.Rows L2

/-! ### built-ins by values -/
abbrev OC := List Mn.D → Store → Option Mn.D
def RefC (K : PySem.W.Frag) (r : List V → Hp → VK → Prop) (f : OC) : Prop := ∀ (ρ : Rh) (st : Store) (H : Hp) (ds : List Mn.D) (d : Mn.D) (vs : List V) (Q : VK), RepSt K ρ st H → RVs K ρ H ds vs → f ds st = some d →
  (∀ v H', Nxt ρ H ρ H' → RepSt K ρ st H' → RV K ρ H' d v → Q v H') → r vs H Q
def mCB (f : OC) (ms : M (List Mn.D)) : M Mn.D := fun env st => bnd (ms env st) fun xs st1 => ret1 (f xs st1) st1
theorem cb_core {K : PySem.W.Frag} {r : List V → Hp → VK → Prop} {f : OC} (hf : RefC K r f) {ms : M (List Mn.D)} {σ : L2.St} {H : Hp} {Q : VK} (h : tM K (mCB f ms) σ H Q) : tCB r (tMA K ms) σ H Q := by
  obtain ⟨env, st, ρ, d, st', ro, rs, e, k⟩ := h
  obtain ⟨xs, s1, e1, e⟩ := bnd_inv e
  obtain ⟨e2, e3⟩ := ret1_inv e
  cases e3
  exact ⟨env, st, ρ, xs, _, ro, rs, e1, fun vs H' ρ' n rs' rv => hf ρ' _ H' xs d vs Q rs' rv e2 fun v H2 n2 rs2 rv2 => k v H2 ρ' (n.trans n2) rs2 rv2⟩
/-- a new list out of values -/
abbrev OL := List Mn.D → Store → Option (List Mn.D)
def RefCL (K : PySem.W.Frag) (r : List V → Hp → VK → Prop) (f : OL) : Prop := ∀ (ρ : Rh) (st : Store) (H : Hp) (ds d : List Mn.D) (vs : List V) (Q : VK), RepSt K ρ st H → RVs K ρ H ds vs → f ds st = some d →
  (∀ p us, H p = none → RVs K ρ H d us → Q (.ref p) (upd H p (.lst us))) → r vs H Q
def mCBL (f : OL) (ms : M (List Mn.D)) : M (List Mn.D) := fun env st => bnd (ms env st) fun xs st1 => ret1 (f xs st1) st1
theorem cbl_core {K : PySem.W.Frag} {r : List V → Hp → VK → Prop} {f : OL} (hf : RefCL K r f) {ms : M (List Mn.D)} {σ : L2.St} {H : Hp} {Q : VK} (h : tML K (mCBL f ms) σ H Q) : tCB r (tMA K ms) σ H Q := by
  obtain ⟨env, st, ρ, d, st', ro, rs, e, k⟩ := h
  obtain ⟨xs, s1, e1, e⟩ := bnd_inv e
  obtain ⟨e2, e3⟩ := ret1_inv e
  cases e3
  exact ⟨env, st, ρ, xs, _, ro, rs, e1, fun vs H' ρ' n rs' rv => hf ρ' _ H' xs d vs Q rs' rv e2 fun p us hp ru => k p us H' ρ' n rs' hp ru⟩
section
variable {X : Cx} {e : Expr} {es : List Expr} {ms : M (List Mn.D)} {pos p : Pos} {x : Str} {id T : String} {r : List V → Hp → VK → Prop}
theorem pm_callB {f : OC} (hc : CallR X (.builtin id) r ∧ RefC X.K r f) (hm : X.mg x = none) (hv : bootBuiltins x = some (.builtin id)) (ha : PMA X (e :: es) ms) (hg : Gl X x := by rfl) (hn : x ≠ "__name__" := by decide) (hdb : (x == ("__debug__" : Str)) = false := by decide)
    (he : starEach (e :: es) X.env = (false, eval e X.env) :: starEach es X.env := by rfl) (hpl : (backTo pos (starEach es X.env)).any (·.1) = false := by rfl) : PM X (.Call (.Name x p) (e :: es) [] pos) (mCB f ms) :=
  imp_e (pe_callB hc.1 hg hm hv ha hn hdb he hpl) fun _ _ _ h => cb_core hc.2 h
theorem pm_callTy {f : OC} (hc : CallR X (.type T) r ∧ RefC X.K r f) (hm : X.mg x = none) (hv : bootBuiltins x = some (.type T)) (ha : PMA X (e :: es) ms) (hg : Gl X x := by rfl) (hn : x ≠ "__name__" := by decide) (hdb : (x == ("__debug__" : Str)) = false := by decide)
    (he : starEach (e :: es) X.env = (false, eval e X.env) :: starEach es X.env := by rfl) (hpl : (backTo pos (starEach es X.env)).any (·.1) = false := by rfl) : PM X (.Call (.Name x p) (e :: es) [] pos) (mCB f ms) :=
  imp_e (pe_callTy hc.1 hg hm hv ha hn hdb he hpl) fun _ _ _ h => cb_core hc.2 h
theorem pml_callTy {f : OL} (hc : CallR X (.type T) r ∧ RefCL X.K r f) (hm : X.mg x = none) (hv : bootBuiltins x = some (.type T)) (ha : PMA X (e :: es) ms) (hg : Gl X x := by rfl) (hn : x ≠ "__name__" := by decide) (hdb : (x == ("__debug__" : Str)) = false := by decide)
    (he : starEach (e :: es) X.env = (false, eval e X.env) :: starEach es X.env := by rfl) (hpl : (backTo pos (starEach es X.env)).any (·.1) = false := by rfl) : PML X (.Call (.Name x p) (e :: es) [] pos) (mCBL f ms) :=
  imp_e (pe_callTy hc.1 hg hm hv ha hn hdb he hpl) fun _ _ _ h => cbl_core hc.2 h
theorem pml_callB {f : OL} (hc : CallR X (.builtin id) r ∧ RefCL X.K r f) (hm : X.mg x = none) (hv : bootBuiltins x = some (.builtin id)) (ha : PMA X (e :: es) ms) (hg : Gl X x := by rfl) (hn : x ≠ "__name__" := by decide) (hdb : (x == ("__debug__" : Str)) = false := by decide)
    (he : starEach (e :: es) X.env = (false, eval e X.env) :: starEach es X.env := by rfl) (hpl : (backTo pos (starEach es X.env)).any (·.1) = false := by rfl) : PML X (.Call (.Name x p) (e :: es) [] pos) (mCBL f ms) :=
  imp_e (pe_callB hc.1 hg hm hv ha hn hdb he hpl) fun _ _ _ h => cbl_core hc.2 h
end
theorem CallR.imp {X : Cx} {f : Value} {r r' : List V → Hp → VK → Prop} (h : CallR X f r) (i : ∀ vs H Q, r' vs H Q → r vs H Q) : CallR X f r' := fun pins s σ H xs us Q I rv q => h pins s σ H xs us Q I rv (i xs H Q q)
section
variable {X : Cx}
/-! ### len, abs, int, bool, sum, all, any, max, min -/
def cLen : OC := fun xs st =>
  match xs with
  | [x] => match seqD x st with
    | some l => some (.int l.length)
    | none => match x with
      | .str z => @ite _ (z.length ≤ 1000000) (Classical.propDecidable _) (some (.int z.length)) none
      | _ => match dicD x st with
        | some l => some (.int l.length)
        | none => none
  | _ => none
def rLenA (K : PySem.W.Frag) : List V → Hp → VK → Prop := fun xs H Q => (∃ x n, xs = [x] ∧ LenV K x H n ∧ Q (.int n) H) ∨ ∃ a kvs, xs = [.ref a] ∧ Rd H a (.dK kvs) ∧ Q (.int kvs.length) H
theorem c_len : CallR X (.builtin "len") (rLenA X.K) ∧ RefC X.K (rLenA X.K) cLen := by
  refine ⟨CallR.or call_len fun pins s σ H xs us Q I r h => ?_, fun ρ st H ds d vs Q rs rv e k => ?_⟩
  · obtain ⟨a, kvs, rfl, hd, q⟩ := h
    rw [Vals.ref1 r]
    exact d_len I hd fun t s' I' => ⟨.int _, H, I', ⟨_, rfl⟩, q⟩
  · unfold cLen at e
    split at e
    · rename_i x
      obtain ⟨v, r, rfl, rx, rfl⟩ := rv
      split at e
      · rename_i l hl
        cases e
        obtain ⟨a, xs, e1, f, r⟩ := seqD_ok rs rx hl
        subst e1
        rw [← RVs.length r] at k
        exact .inl ⟨_, _, rfl, f.elim (fun f => .inl ⟨xs, f, rfl⟩) (fun f => .inr ⟨xs, f, rfl⟩), k _ H (Nxt.refl _ _) rs rfl⟩
      · split at e
        · rename_i z hz
          split at e
          · rename_i h
            cases e; cases rx
            exact .inl ⟨_, _, rfl, ⟨sz1m' h, rfl⟩, k _ H (Nxt.refl _ _) rs rfl⟩
          · cases e
        · split at e
          · rename_i l hl
            cases e
            obtain ⟨a, xs, e1, f, r⟩ := dicD_ok rs rx hl
            subst e1
            rw [← RVk.length r] at k
            exact .inr ⟨a, xs, rfl, f, k _ H (Nxt.refl _ _) rs rfl⟩
          · cases e
    · cases e
def cInt1 (f : Int → Int) : OC := fun xs _ =>
  match xs with
  | [.int i] => some (.int (f i))
  | _ => none
def fAbs (i : Int) : Int := if i < 0 then -i else i
theorem c_abs : CallR X (.builtin "abs") (fun xs H Q => ∃ i, xs = [.int i] ∧ Q (.int (if i < 0 then -i else i)) H) ∧ RefC X.K (fun xs H Q => ∃ i, xs = [.int i] ∧ Q (.int (if i < 0 then -i else i)) H) (cInt1 fAbs) := ⟨call_abs, fun ρ st H ds d vs Q rs rv e k => by
  unfold cInt1 at e
  split at e
  · rename_i i
    cases e
    obtain ⟨v, r, rfl, rfl, rfl⟩ := rv
    exact ⟨i, rfl, k _ H (Nxt.refl _ _) rs rfl⟩
  · cases e⟩
def cInt : OC := fun xs _ =>
  match xs with
  | [.int i] => some (.int i)
  | [.bl b] => some (.int (if b then 1 else 0))
  | _ => none
theorem c_int : CallR X (.type "int") (fun xs H Q => (∃ i, xs = [.int i] ∧ Q (.int i) H) ∨ ∃ k, xs = [.bl k] ∧ Q (.int (if k then 1 else 0)) H) ∧ RefC X.K (fun xs H Q => (∃ i, xs = [.int i] ∧ Q (.int i) H) ∨ ∃ k, xs = [.bl k] ∧ Q (.int (if k then 1 else 0)) H) cInt := ⟨call_int1, fun ρ st H ds d vs Q rs rv e k => by
  unfold cInt at e
  split at e
  · rename_i i
    cases e
    obtain ⟨v, r, rfl, rfl, rfl⟩ := rv
    exact .inl ⟨i, rfl, k _ H (Nxt.refl _ _) rs rfl⟩
  · rename_i i
    cases e
    obtain ⟨v, r, rfl, rfl, rfl⟩ := rv
    exact .inr ⟨i, rfl, k _ H (Nxt.refl _ _) rs rfl⟩
  · cases e⟩
def cInt2 (f : Int → Int → Int) : OC := fun xs _ =>
  match xs with
  | [.int i, .int j] => some (.int (f i j))
  | _ => none
def fMax (i j : Int) : Int := if j > i then j else i
def fMin (i j : Int) : Int := if j < i then j else i
theorem c_max2 (hc : X.calm = true) : CallR X (.builtin "max") (fun xs H Q => ∃ i j, xs = [.int i, .int j] ∧ Q (.int (if j > i then j else i)) H) ∧ RefC X.K (fun xs H Q => ∃ i j, xs = [.int i, .int j] ∧ Q (.int (if j > i then j else i)) H) (cInt2 fMax) := ⟨call_max2 hc, fun ρ st H ds d vs Q rs rv e k => by
  unfold cInt2 at e
  split at e
  · rename_i i j
    cases e
    obtain ⟨v, r, rfl, rfl, v2, r2, rfl, rfl, rfl⟩ := rv
    exact ⟨i, j, rfl, k _ H (Nxt.refl _ _) rs rfl⟩
  · cases e⟩
theorem c_min2 (hc : X.calm = true) : CallR X (.builtin "min") (fun xs H Q => ∃ i j, xs = [.int i, .int j] ∧ Q (.int (if j < i then j else i)) H) ∧ RefC X.K (fun xs H Q => ∃ i j, xs = [.int i, .int j] ∧ Q (.int (if j < i then j else i)) H) (cInt2 fMin) := ⟨call_min2 hc, fun ρ st H ds d vs Q rs rv e k => by
  unfold cInt2 at e
  split at e
  · rename_i i j
    cases e
    obtain ⟨v, r, rfl, rfl, v2, r2, rfl, rfl, rfl⟩ := rv
    exact ⟨i, j, rfl, k _ H (Nxt.refl _ _) rs rfl⟩
  · cases e⟩
/-- lists of bools, of ints -/
def blsD : List Mn.D → Option (List Bool)
  | [] => some []
  | .bl b :: r => match blsD r with
    | some l => some (b :: l)
    | none => none
  | _ => none
def intsD : List Mn.D → Option (List Int)
  | [] => some []
  | .int b :: r => match intsD r with
    | some l => some (b :: l)
    | none => none
  | _ => none
theorem blsD_ok {K : PySem.W.Frag} {ρ : Rh} {H : Hp} : ∀ {ds : List Mn.D} {bs : List Bool} {vs : List V}, blsD ds = some bs → RVs K ρ H ds vs → vs = bs.map V.bl
  | [], _, _, e, r => by cases e; exact r
  | d :: ds, bs, vs, e, ⟨v, t, ev, h, r⟩ => by
    unfold blsD at e
    split at e
    · cases e; exact absurd ‹_› (by simp)
    · rename_i b r' heq
      cases heq
      split at e
      · rename_i l hl
        cases e
        subst ev
        rw [blsD_ok hl r]
        cases h
        rfl
      · cases e
    · cases e
theorem intsD_ok {K : PySem.W.Frag} {ρ : Rh} {H : Hp} : ∀ {ds : List Mn.D} {bs : List Int} {vs : List V}, intsD ds = some bs → RVs K ρ H ds vs → vs = bs.map V.int
  | [], _, _, e, r => by cases e; exact r
  | d :: ds, bs, vs, e, ⟨v, t, ev, h, r⟩ => by
    unfold intsD at e
    split at e
    · cases e; exact absurd ‹_› (by simp)
    · rename_i b r' heq
      cases heq
      split at e
      · rename_i l hl
        cases e
        subst ev
        rw [intsD_ok hl r]
        cases h
        rfl
      · cases e
    · cases e
def listD (d : Mn.D) (st : Store) : Option (List Mn.D) :=
  match d with
  | .tup _ => none
  | d => seqD d st
theorem listD_ok {K : PySem.W.Frag} {ρ : Rh} {H : Hp} {st : Store} {d : Mn.D} {v : V} {l : List Mn.D} (rs : RepSt K ρ st H) (rv : RV K ρ H d v) (e : listD d st = some l) : ∃ a xs, v = .ref a ∧ SqL K H a xs ∧ RVs K ρ H l xs := by
  cases d with
  | tup _ => cases e
  | _ => exact seqD_list rs rv e (fun l z => by cases z)
def cBls (f : List Bool → Mn.D) : OC := fun xs st =>
  match xs with
  | [x] => match listD x st with
    | some l => match blsD l with
      | some bs => some (f bs)
      | none => none
    | none => none
  | _ => none
def cInts (f : List Int → Mn.D) : OC := fun xs st =>
  match xs with
  | [x] => match listD x st with
    | some l => match intsD l with
      | some bs => some (f bs)
      | none => none
    | none => none
  | _ => none
def fAll (bs : List Bool) : Mn.D := .bl (bs.all id)
def fAny (bs : List Bool) : Mn.D := .bl (bs.any id)
def fSum (ns : List Int) : Mn.D := .int ns.sum
theorem cBls_inv {K : PySem.W.Frag} {ρ : Rh} {st : Store} {H : Hp} {ds : List Mn.D} {d : Mn.D} {vs : List V} {f : List Bool → Mn.D} (rs : RepSt K ρ st H) (rv : RVs K ρ H ds vs) (e : cBls f ds st = some d) : ∃ (a : Addr) (bs : List Bool), vs = [V.ref a] ∧ SqL K H a (bs.map V.bl) ∧ d = f bs := by
  unfold cBls at e
  split at e
  · rename_i x
    obtain ⟨v, r, rfl, rx, rfl⟩ := rv
    split at e
    · rename_i l hl
      split at e
      · rename_i bs hb
        cases e
        obtain ⟨a, xs, e1, f, r⟩ := listD_ok rs rx hl
        subst e1
        rw [blsD_ok hb r] at f
        exact ⟨a, bs, rfl, f, rfl⟩
      · cases e
    · cases e
  · cases e
theorem cInts_inv {K : PySem.W.Frag} {ρ : Rh} {st : Store} {H : Hp} {ds : List Mn.D} {d : Mn.D} {vs : List V} {f : List Int → Mn.D} (rs : RepSt K ρ st H) (rv : RVs K ρ H ds vs) (e : cInts f ds st = some d) : ∃ (a : Addr) (bs : List Int), vs = [V.ref a] ∧ SqL K H a (bs.map V.int) ∧ d = f bs := by
  unfold cInts at e
  split at e
  · rename_i x
    obtain ⟨v, r, rfl, rx, rfl⟩ := rv
    split at e
    · rename_i l hl
      split at e
      · rename_i bs hb
        cases e
        obtain ⟨a, xs, e1, f, r⟩ := listD_ok rs rx hl
        subst e1
        rw [intsD_ok hb r] at f
        exact ⟨a, bs, rfl, f, rfl⟩
      · cases e
    · cases e
  · cases e
theorem c_all (hc : X.calm = true) : CallR X (.builtin "all") (rAll X.K) ∧ RefC X.K (rAll X.K) (cBls fAll) := ⟨cr_all hc, fun ρ st H ds d vs Q rs rv e k => by
  obtain ⟨a, bs, h1, h2, rfl⟩ := cBls_inv rs rv e
  exact ⟨a, bs, h1, h2, k _ H (Nxt.refl _ _) rs rfl⟩⟩
theorem c_any (hc : X.calm = true) : CallR X (.builtin "any") (rAny X.K) ∧ RefC X.K (rAny X.K) (cBls fAny) := ⟨cr_any hc, fun ρ st H ds d vs Q rs rv e k => by
  obtain ⟨a, bs, h1, h2, rfl⟩ := cBls_inv rs rv e
  exact ⟨a, bs, h1, h2, k _ H (Nxt.refl _ _) rs rfl⟩⟩
theorem c_sum (hc : X.calm = true) : CallR X (.builtin "sum") (rSum X.K) ∧ RefC X.K (rSum X.K) (cInts fSum) := ⟨cr_sum hc, fun ρ st H ds d vs Q rs rv e k => by
  obtain ⟨a, bs, h1, h2, rfl⟩ := cInts_inv rs rv e
  exact ⟨a, bs, h1, h2, k _ H (Nxt.refl _ _) rs rfl⟩⟩

/-! ### tuple(x), list(x) -/
def rTupF (K : PySem.W.Frag) : List V → Hp → VK → Prop := fun xs H Q => ∃ p ys, xs = [.ref p] ∧ ((SqL K H p ys ∧ ∀ l o, H l = none → o.dict = none → Q (.ref l) (upd H l (.frz o (.tup ys)))) ∨ (SqT K H p ys ∧ Q (.ref p) H))
theorem call_tupF : CallR X (.type "tuple") (rTupF X.K) := by
  intro pins s σ H xs us Q I r h
  obtain ⟨p, ys, rfl, h⟩ := h
  obtain ⟨u, rfl, rx⟩ := vals1 r
  cases rx
  rcases h with ⟨hq, q⟩ | ⟨hq, q⟩
  · obtain ⟨its, r', pl, hz⟩ := I.list hq
    have hlen := r'.length
    refine call_tuple_list pl.isList (fun h' kp => ?_) (by simp only [List.size_toArray] <;> omega)
    have I1 : Inv X pins σ H { s with heap := h' } := I.kept (t' := s.toks) kp
    have I2 : Inv X pins σ (upd H h'.objs.size (.frz { cls := .type "tuple", data := .seq its.toArray } (.tup ys))) { s with heap := h'.push { cls := .type "tuple", data := .seq its.toArray } } :=
      I1.laid (t' := s.toks) (fun b o e => Heap.get?_push_of_some _ e) (Nat.le_refl _) (show ObjOk X.prog X.w _ _ _ (.frz { cls := .type "tuple", data := .seq its.toArray } (.tup ys)) from ⟨Heap.get?_push_size _ rfl, hz, its, r', IsTup.new _ _⟩)
    exact ⟨.ref h'.objs.size, _, I2, rfl, q _ _ (I1.hok.fresh (Nat.le_refl _)) rfl⟩
  · obtain ⟨its, r', pl, hz⟩ := I.tuple hq
    exact call_tuple_same pl ⟨.ref p, H, I, rfl, q⟩
def cTup : OC := fun xs st =>
  match xs with
  | [x] => match seqD x st with
    | some l => some (.tup l)
    | none => none
  | _ => none
theorem c_tup : CallR X (.type "tuple") (rTupF X.K) ∧ RefC X.K (rTupF X.K) cTup := ⟨call_tupF, fun ρ st H ds d vs Q rs rv e k => by
  unfold cTup at e
  split at e
  · rename_i x
    obtain ⟨v, r, rfl, rx, rfl⟩ := rv
    cases x with
    | tup l =>
      cases e
      obtain ⟨a, xs, e1, f, r⟩ := rx
      subst e1
      exact ⟨a, xs, rfl, .inr ⟨f.seq, k _ H (Nxt.refl _ _) rs ⟨a, xs, rfl, f, r⟩⟩⟩
    | _ =>
      split at e
      · rename_i l hl
        cases e
        obtain ⟨a, xs, e1, f, r⟩ := seqD_list rs rx hl (fun l z => by cases z)
        subst e1
        refine ⟨a, xs, rfl, .inl ⟨f, fun p o hp ho => ?_⟩⟩
        have n := Nxt.laid (o := .frz o (.tup xs)) rs hp
        exact k _ _ n (rs.laid hp) ⟨p, xs, rfl, .inl ⟨rs.out hp, o, upd_same, ho⟩, RVs.nxt n _ _ r⟩
      · cases e
  · cases e⟩
def cList : OL := fun xs st =>
  match xs with
  | [x] => seqD x st
  | _ => none
theorem c_list : CallR X (.type "list") (fun xs H Q => ∃ p ys, xs = [.ref p] ∧ (SqL X.K H p ys ∨ SqT X.K H p ys) ∧ ∀ l, H l = none → Q (.ref l) (upd H l (.lst ys))) ∧
    RefCL X.K (fun xs H Q => ∃ p ys, xs = [.ref p] ∧ (SqL X.K H p ys ∨ SqT X.K H p ys) ∧ ∀ l, H l = none → Q (.ref l) (upd H l (.lst ys))) cList := ⟨call_list_of, fun ρ st H ds d vs Q rs rv e k => by
  unfold cList at e
  split at e
  · rename_i x
    obtain ⟨v, r, rfl, rx, rfl⟩ := rv
    obtain ⟨a, xs, e1, f, r⟩ := seqD_ok rs rx e
    subst e1
    exact ⟨a, xs, rfl, f, fun p hp => k p xs hp r⟩
  · cases e⟩

/-! ### isinstance -/
def tyD (d : Mn.D) (st : Store) : Option String :=
  match d with
  | .non => some "NoneType"
  | .bl _ => some "bool"
  | .int _ => some "int"
  | .str _ => some "str"
  | .tup _ => some "tuple"
  | .lst _ => some "list"
  | .rol _ => none
  | .dic _ => some "dict"
  | .ptl _ => none
  | .loc n => match st[n]? with
    | some (.lst _) => some "list"
    | some (.dic _) => some "dict"
    | _ => none
theorem tyD_ok {K : PySem.W.Frag} {ρ : Rh} {H : Hp} {st : Store} {d : Mn.D} {v : V} {t : String} (rs : RepSt K ρ st H) (rv : RV K ρ H d v) (e : tyD d st = some t) : TyX K H v (.type t) := by
  cases d with
  | non => cases e; cases rv; exact .base .non
  | bl b => cases e; cases rv; exact .base (.bl b)
  | int i => cases e; cases rv; exact .base (.int i)
  | str x => cases e; cases rv; exact .base (.str x)
  | tup l =>
    cases e
    obtain ⟨a, xs, e1, f, r⟩ := rv
    subst e1
    rcases f with ⟨_, o, h, _⟩ | ⟨_, h⟩
    · exact .fTuple h
    · rcases h (fun _ => none) with h | ⟨o, its, n, h1, h2, _⟩
      · rcases h with h | ⟨_, h⟩ <;> cases h
      · exact .kTuple h1 h2
  | lst l => cases e; obtain ⟨a, xs, e1, f, r⟩ := rv; subst e1; exact .base (.lst f.2)
  | rol l => cases e
  | dic l =>
    cases e
    obtain ⟨a, xs, e1, f, r⟩ := rv
    subst e1
    rcases f.2 with h | ⟨o, h⟩
    · exact .base (.dK h)
    · exact .fDict h
  | ptl l => cases e
  | loc n =>
    unfold tyD at e
    simp only at e
    split at e
    · rename_i l h
      cases e
      obtain ⟨a, e1, e2, xs, e3, r⟩ := rs.at rv h
      subst e1
      exact .base (.lst e3)
    · rename_i l h
      cases e
      obtain ⟨a, e1, e2, xs, e3, r⟩ := rs.at rv h
      subst e1
      exact .base (.dK e3)
    · cases e
def isiL (t : String) : List String → Option Bool
  | [] => some false
  | c :: cs => match kitB t c with
    | some true => some true
    | some false => isiL t cs
    | none => none
theorem isiL_ok {K : PySem.W.Frag} {t : String} : ∀ {cs : List String} {b : Bool}, isiL t cs = some b → PySem.W.kitAny K (.type t) (cs.map Value.type) = some b
  | [], b, e => by cases e; exact kitAny_nil
  | c :: cs, b, e => by
    unfold isiL at e
    split at e
    · rename_i h
      cases e
      exact kitAny_cons (kit_ty h) (fun z => by cases z) fun _ => rfl
    · rename_i h
      exact kitAny_cons (kit_ty h) (fun _ => isiL_ok e) fun z => by cases z
    · cases e
/-- isinstance(x, c) | isinstance(x, (c, ..)) -/
def mIsi (cs : List String) (m : M Mn.D) : M Mn.D := fun env st => bnd (m env st) fun x st1 =>
  match tyD x st1 with
  | some t => match isiL t cs with
    | some b => some (.bl b, st1)
    | none => none
  | none => none
variable {a : Expr} {m : M Mn.D} {pos p p1 p2 p3 : Pos}
theorem pe_ty {x : Str} {T : String} {pos : Pos} (hm : X.mg x = none) (hv : bootBuiltins x = some (.type T)) (hg : Gl X x := by rfl) (hn : x ≠ "__name__" := by decide) (hdb : (x == ("__debug__" : Str)) = false := by decide) : PE X (.Name x pos) (tC (.ty T)) := pe_bltn hg hm hv rfl hn hdb
theorem pm_isi {c : Str} {T : String} (hi : X.mg "isinstance" = none) (h : PM X a m) (hc : PE X (.Name c p1) (tC (.ty T))) (hv : bootBuiltins "isinstance" = some (.builtin "isinstance") := by decide +kernel) (hg : Gl X "isinstance" := by rfl)
    (hs1 : starEach [.Name c p1] X.env = [(false, eval (.Name c p1) X.env)] := by rfl) (he : starEach [a, .Name c p1] X.env = (false, eval a X.env) :: starEach [.Name c p1] X.env := by rfl) (hpl : (backTo pos (starEach [.Name c p1] X.env)).any (·.1) = false := by rfl) : PM X (.Call (.Name "isinstance" p) [a, .Name c p1] [] pos) (mIsi [T] m) :=
  imp_e (pe_callB call_isi hg hi hv (pa_cons h (pa_cons hc pa_nil hs1) he) (he := he) (hpl := hpl)) fun σ H Q ⟨env, st, ρ, d, st', ro, rs, e, k⟩ => by
    obtain ⟨x, s1, e1, e⟩ := bnd_inv e
    split at e
    · rename_i t ht
      split at e
      · rename_i b hb
        cases e
        refine ⟨env, st, ρ, x, _, ro, rs, e1, fun v H' ρ' n rs' rv => ⟨v, .ty T, .type t, .type T, b, rfl, .ty T, tyD_ok rs' rv ht, ?_, k _ H' ρ' n rs' rfl⟩⟩
        unfold isiL isiL at hb
        apply kit_ty
        split at hb
        · rename_i h2; cases hb; exact h2
        · rename_i h2; cases hb; exact h2
        · cases hb
      · cases e
    · cases e
theorem pm_isi2 {c c2 : Str} {T T2 : String} {x1} (hi : X.mg "isinstance" = none) (h : PM X a m) (hc : PE X (.Name c p1) (tC (.ty T))) (hc2 : PE X (.Name c2 p2) (tC (.ty T2))) (hv : bootBuiltins "isinstance" = some (.builtin "isinstance") := by decide +kernel) (hg : Gl X "isinstance" := by rfl)
    (hs1 : starEach [.Name c p1, .Name c2 p2] X.env = [(false, eval (.Name c p1) X.env), (false, eval (.Name c2 p2) X.env)] := by rfl) (hs2 : starEach [.Name c2 p2] X.env = [(false, eval (.Name c2 p2) X.env)] := by rfl)
    (he2 : starEach [.Tuple [.Name c p1, .Name c2 p2] x1 p3] X.env = [(false, eval (.Tuple [.Name c p1, .Name c2 p2] x1 p3) X.env)] := by rfl)
    (he : starEach [a, .Tuple [.Name c p1, .Name c2 p2] x1 p3] X.env = (false, eval a X.env) :: starEach [.Tuple [.Name c p1, .Name c2 p2] x1 p3] X.env := by rfl) (hpl : (backTo pos (starEach [.Tuple [.Name c p1, .Name c2 p2] x1 p3] X.env)).any (·.1) = false := by rfl) :
    PM X (.Call (.Name "isinstance" p) [a, .Tuple [.Name c p1, .Name c2 p2] x1 p3] [] pos) (mIsi [T, T2] m) :=
  imp_e (pe_callB call_isiT hg hi hv (pa_cons h (pa_cons (pe_tup (pa_cons hc (pa_cons hc2 pa_nil hs2) (by rw [hs1, hs2]))) pa_nil he2) he) (he := he) (hpl := hpl)) fun σ H Q ⟨env, st, ρ, d, st', ro, rs, e, k⟩ => by
    obtain ⟨x, s1, e1, e⟩ := bnd_inv e
    split at e
    · rename_i t ht
      split at e
      · rename_i b hb
        cases e
        refine ⟨env, st, ρ, x, _, ro, rs, e1, fun v H' ρ' n rs' rv => ⟨by show 2 ≤ sizeLine; decide, fun tp hp => ?_⟩⟩
        have n2 := Nxt.laid (o := .tup [.ty T, .ty T2]) rs' hp
        exact ⟨v, tp, [.ty T, .ty T2], .type t, [.type T, .type T2], b, rfl, upd_same, .cons (.ty T) (.cons (.ty T2) .nil), tyD_ok (rs'.laid hp) (RV.nxt n2 _ _ rv) ht, isiL_ok hb, k _ _ ρ' (n.trans n2) (rs'.laid hp) rfl⟩
      · cases e
    · cases e
end

/-! ### methods of a list that stands in the store -/
abbrev OM := List Mn.D → List Mn.D → Store → Option (Mn.D × List Mn.D)
def RefMt (K : PySem.W.Frag) (r : V → List V → Hp → VK → Prop) (f : OM) : Prop := ∀ (ρ : Rh) (st : Store) (H : Hp) (a : Addr) (ds xs : List Mn.D) (dr : Mn.D) (ds' : List Mn.D) (us vs : List V) (Q : VK), RepSt K ρ st H → H a = some (.lst us) → RVs K ρ H ds us → RVs K ρ H xs vs → f ds xs st = some (dr, ds') →
  (∀ v us', RVs K ρ H ds' us' → RV K ρ H dr v → Q v (upd H a (.lst us'))) → r (.ref a) vs H Q
def isLoc (d : Mn.D) (st : Store) : Option Nat :=
  match d with
  | .loc n => match st[n]? with
    | some (.lst _) => some n
    | _ => none
  | _ => none
def mMt (f : OM) (mo : M Mn.D) (ms : M (List Mn.D)) : M Mn.D := fun env st => bnd (mo env st) fun x st1 =>
  match isLoc x st1 with
  | some n => bnd (ms env st1) fun xs st2 => match st2[n]? with
    | some (.lst ds) => match f ds xs st2 with
      | some (dr, ds') => some (dr, st2.set n (.lst ds'))
      | none => none
    | _ => none
  | none => none
theorem isLoc_inv {d : Mn.D} {st : Store} {n : Nat} (e : isLoc d st = some n) : d = .loc n ∧ ∃ l, st[n]? = some (.lst l) := by
  unfold isLoc at e
  split at e
  · split at e
    · rename_i l h
      cases e
      exact ⟨rfl, l, h⟩
    · cases e
  · cases e
theorem mt_core {K : PySem.W.Frag} {r : V → List V → Hp → VK → Prop} {f : OM} (hf : RefMt K r f) {mo : M Mn.D} {ms : M (List Mn.D)} {σ : L2.St} {H : Hp} {Q : VK} (h : tM K (mMt f mo ms) σ H Q) :
    tM K mo σ H fun x H1 => tyV K "list" x H1 ∧ tMA K ms σ H1 fun xs H2 => r x xs H2 Q := by
  obtain ⟨env, st, ρ, d, st', ro, rs, e, k⟩ := h
  obtain ⟨x, s1, e1, e⟩ := bnd_inv e
  refine ⟨env, st, ρ, x, s1, ro, rs, e1, fun v H1 ρ1 n1 rs1 rv => ?_⟩
  split at e
  · rename_i n hn
    obtain ⟨rfl, l, hl⟩ := isLoc_inv hn
    obtain ⟨xs, s2, e2, e⟩ := bnd_inv e
    obtain ⟨a, ev, ea, us, hu, ru⟩ := rs1.at rv hl
    subst ev
    refine ⟨.inl ⟨rfl, us, SqL.of hu⟩, env, s1, ρ1, xs, s2, ro.nxt n1, rs1, e2, fun vs H2 ρ2 n2 rs2 rvs => ?_⟩
    split at e
    · rename_i ds hds
      split at e
      · rename_i dr ds' hf'
        cases e
        have ea2 := n2.pre n a ea
        obtain ⟨us2, hu2, ru2⟩ := rs2.ob n a _ ea2 hds
        refine hf ρ2 s2 H2 a ds xs d ds' us2 vs Q rs2 hu2 ru2 rvs hf' fun v us' ru' rv' => ?_
        have w := Nxt.write (o := .lst us') rs2 (List.mem_of_getElem? ea2)
        exact k v _ ρ2 (n1.trans (n2.trans w)) (rs2.write ea2 ⟨us', upd_same, RVs.nxt w _ _ ru'⟩) (RV.nxt w _ _ rv')
      · cases e
    · cases e
  · cases e
section
variable {X : Cx} {o e : Expr} {es : List Expr} {mo : M Mn.D} {ms : M (List Mn.D)} {apos cpos : Pos} {name : Str} {id : String} {r : V → List V → Hp → VK → Prop} {f : OM}
theorem pm_mt (slot : Slot "list" name id) (hty : typeOf (.builtin id) = pure (.type "method_descriptor")) (hm : MtR X id r ∧ RefMt X.K r f) (ho : PM X o mo) (ha : PMA X (e :: es) ms)
    (hbase : attributeBase o name X.env (eval o X.env) = eval o X.env := by rfl)
    (hfew : ((backTo cpos (starEach (e :: es) X.env)).all (fun x => !x.1) && (backToKw cpos (keywordEach [] X.env)).all (fun x => x.1.isSome)
      && decide ((e :: es).length + ([] : List Keyword).length + (if ([] : List Keyword).isEmpty then 0 else 1) < 30)) = true := by rfl)
    (hline : (apos.endLine == cpos.line) = true := by rfl) (hs : starEach (e :: es) X.env = (false, eval e X.env) :: starEach es X.env := by rfl) (hplain : (backTo cpos (starEach es X.env)).any (·.1) = false := by rfl) :
    PM X (.Call (.Attribute o name apos) (e :: es) [] cpos) (mMt f mo ms) := imp_e (pe_bm PySem.F.plainAttrs_list slot hty hm.1 ho ha hbase hfew hline hs hplain) fun _ _ _ h => mt_core hm.2 h
theorem pm_mt0 (slot : Slot "list" name id) (hty : typeOf (.builtin id) = pure (.type "method_descriptor")) (hm : MtR X id r ∧ RefMt X.K r f) (ho : PM X o mo)
    (hbase : attributeBase o name X.env (eval o X.env) = eval o X.env := by rfl) (hline : (apos.endLine == cpos.line) = true := by rfl) : PM X (.Call (.Attribute o name apos) [] [] cpos) (mMt f mo mNil) :=
  imp_e (pe_bm0 PySem.F.plainAttrs_list slot hty hm.1 ho hbase hline) fun σ H Q h => by
    obtain ⟨env, st, ρ, d, st', ro, rs, e, k⟩ := mt_core hm.2 h
    refine ⟨env, st, ρ, d, st', ro, rs, e, fun v H' ρ' n rs' rv => ?_⟩
    obtain ⟨h1, env2, st2, ρ2, ds, st3, ro2, rs2, e2, k2⟩ := k v H' ρ' n rs' rv
    cases e2
    exact ⟨h1, k2 [] H' ρ2 (Nxt.refl _ _) rs2 rfl⟩
def fApp : OM := fun ds xs _ =>
  match xs with
  | [x] => @ite _ (ds.length < 1000000) (Classical.propDecidable _) (some (.non, ds ++ [x])) none
  | _ => none
theorem m_app : MtR X "list.append" rAppend ∧ RefMt X.K rAppend fApp := ⟨mt_append, fun ρ st H a ds xs dr ds' us vs Q rs hu ru rx e k => by
  unfold fApp at e
  split at e
  · rename_i x
    split at e
    · rename_i h
      cases e
      obtain ⟨v, r, rfl, rv, rfl⟩ := rx
      exact ⟨a, us, v, rfl, rfl, hu, by rw [RVs.length ru]; exact sz1m h, k _ _ (RVs.append ru (RVs.one rv)) rfl⟩
    · cases e
  · cases e⟩
def fPop : OM := fun ds xs _ =>
  match xs with
  | [] => match ds[ds.length - 1]? with
    | some d => some (d, ds.dropLast)
    | none => none
  | _ => none
theorem RVs.dropLast {K : PySem.W.Frag} {ρ : Rh} {H : Hp} {ds : List Mn.D} {vs : List V} (r : RVs K ρ H ds vs) : RVs K ρ H ds.dropLast vs.dropLast := by
  rw [List.dropLast_eq_take, List.dropLast_eq_take, RVs.length r]
  exact RVs.take _ r
theorem m_pop : MtR X "list.pop" rPop ∧ RefMt X.K rPop fPop := ⟨mt_pop, fun ρ st H a ds xs dr ds' us vs Q rs hu ru rx e k => by
  unfold fPop at e
  split at e
  · split at e
    · rename_i d hd
      cases e
      cases rx
      obtain ⟨v, h1, h2⟩ := RVs.get ru hd
      exact ⟨a, us, v, rfl, rfl, hu, by rw [RVs.length ru]; exact h1, k _ _ (RVs.dropLast ru) h2⟩
    · cases e
  · cases e⟩
def fExt : OM := fun ds xs st =>
  match xs with
  | [x] => match lstD x st with
    | some l => @ite _ (ds.length + l.length ≤ 1000000) (Classical.propDecidable _) (some (.non, ds ++ l)) none
    | none => none
  | _ => none
theorem m_ext : MtR X "list.extend" rExtend ∧ RefMt X.K rExtend fExt := ⟨mt_extend, fun ρ st H a ds xs dr ds' us vs Q rs hu ru rx e k => by
  unfold fExt at e
  split at e
  · rename_i x
    split at e
    · rename_i l hl
      split at e
      · rename_i h
        cases e
        obtain ⟨v, r, rfl, rv, rfl⟩ := rx
        obtain ⟨b, ys, e1, f, r⟩ := lstD_ok rs rv hl
        subst e1
        exact ⟨a, b, us, ys, rfl, rfl, hu, f, by rw [RVs.length ru, RVs.length r]; exact sz1m' h, k _ _ (RVs.append ru r) rfl⟩
      · cases e
    · cases e
  · cases e⟩

/-! ### o[i] = v -/
def rSetD : V → V → V → Hp → (Hp → Prop) → Prop := fun o i v H Q => ∃ a H4, o = .ref a ∧ DPut H a i v H4 ∧ Q H4
def rSetA : V → V → V → Hp → (Hp → Prop) → Prop := fun o i v H Q => rSetL o i v H Q ∨ rSetD o i v H Q
theorem set_any (hu : X.A.units + 1 < cLine) : PSet X rSetA := by
  intro pins s σ H o i v ov iv u Q I ro ri rv h
  rcases h with h | ⟨a, H4, rfl, hp, q⟩
  · exact set_list pins s σ H o i v ov iv u Q I ro ri rv h
  · cases ro
    exact d_setItem hu I hp ri rv fun s' I' => ⟨H4, I', q⟩
def setO (o i v : Mn.D) (st : Store) : Option Store :=
  match o with
  | .loc n => match st[n]? with
    | some (.lst l) => match i with
      | .int k => match ixN l.length k with
        | some j => some (st.set n (.lst (l.set j v)))
        | none => none
      | _ => none
    | some (.dic l) => match keyD i with
      | some k => @ite _ (l.length < 1000000) (Classical.propDecidable _) (some (st.set n (.dic (putD l k v)))) none
      | none => none
    | _ => none
  | _ => none
theorem setO_ok {K : PySem.W.Frag} {ρ : Rh} {H : Hp} {st st' : Store} {dO dI dV : Mn.D} {o i v : V} {Q : Hp → Prop} (rs : RepSt K ρ st H) (ro : RV K ρ H dO o) (ri : RV K ρ H dI i) (rv : RV K ρ H dV v) (e : setO dO dI dV st = some st')
    (k : ∀ H', Nxt ρ H ρ H' → RepSt K ρ st' H' → Q H') : rSetA o i v H Q := by
  unfold setO at e
  split at e
  · rename_i n
    split at e
    · rename_i l hl
      split at e
      · rename_i kk
        split at e
        · rename_i j hj
          cases e
          obtain ⟨a, e1, e2, us, hu, ru⟩ := rs.at ro hl
          have w := Nxt.write (o := .lst (us.set j v)) rs (List.mem_of_getElem? e2)
          exact .inl ⟨a, us, kk, j, e1, ri, hu, by rw [RVs.length ru]; exact hj, k _ w (rs.write e2 ⟨_, upd_same, RVs.nxt w _ _ (RVs.set rv j ru)⟩)⟩
        · cases e
      · cases e
    · rename_i l hl
      split at e
      · rename_i kk hk
        split at e
        · rename_i h
          cases e
          obtain ⟨a, e1, e2, us, hu, ru⟩ := rs.at ro hl
          have w := Nxt.write (o := .dK (putK us kk v)) rs (List.mem_of_getElem? e2)
          refine .inr ⟨a, _, e1, .inl ⟨us, kk, hu, keyD_ok ri hk, by rw [RVk.length ru]; exact sz1m h, rfl⟩, k _ w (rs.write e2 ⟨_, upd_same, RVk.nxt w _ _ (RVk.put kk rv ru)⟩)⟩
        · cases e
      · cases e
    · cases e
  · cases e
def gSet (mo mi : M Mn.D) : G := fun v env st => bnd (mo env st) fun o st1 => bnd (mi env st1) fun i st2 => match setO o i v st2 with
  | some st3 => some (env, st3)
  | none => none
theorem pmg_sub {i : Expr} {mi : M Mn.D} {pos : Pos} (hu : X.A.units + 1 < cLine) (ho : PM X o mo) (hi : PM X i mi)
    (ha : ∀ v, assign (.Subscript o i pos) X.env v = (do
      let ov ← holding [v] (eval o X.env)
      let iv ← holding [v, ov] (eval i X.env)
      standAt pos
      holding [v, ov, iv] (setItem ov iv v)
      release [v, ov, iv] []) := by intro _; rfl) : PMG X (.Subscript o i pos) [] (gSet mo mi) :=
  imp_g (pg_sub ho hi (set_any hu) ha) fun v σ H Q ⟨d, env, st, ρ, env', st', rv, ro, rs, e, k⟩ => by
    obtain ⟨x, s1, e1, e⟩ := bnd_inv e
    obtain ⟨y, s2, e2, e⟩ := bnd_inv e
    refine ⟨env, st, ρ, x, s1, ro, rs, e1, fun vx H1 ρ1 n1 rs1 rx => ⟨env, s1, ρ1, y, s2, ro.nxt n1, rs1, e2, fun vy H2 ρ2 n2 rs2 ry => ?_⟩⟩
    split at e
    · rename_i s3 h3
      cases e
      exact setO_ok rs2 (RV.nxt n2 _ _ rx) ry (RV.nxt (n1.trans n2) _ _ rv) h3 fun H3 n3 rs3 => k σ H3 ρ2 (OnlyAt.refl _ _) ((n1.trans n2).trans n3) rs3 (ro.nxt ((n1.trans n2).trans n3))
    · cases e
/-- name op= e -/
def sAug (i : Nat) (f : O2) (m : M Mn.D) : S := fun env st => match env[i]? with
  | some (some x) => bnd (m env st) fun y st1 => match f x y st1 with
    | some z => some (.nx (env.set i (some z)), st1)
    | none => none
  | _ => none
theorem pms_aug {i : Nat} {x : Str} {op : Operator} {rr : R2} {f : O2} {m : M Mn.D} {pos pos' : Pos} (hN : X.N.Nodup) (he : PM X e m) (hop : OpR X (inplaceOp op) rr ∧ RefO X.K rr f) (hi : X.N[i]? = some x := by rfl) (hx : Loc X.env.scope x := by first | exact .inl rfl | exact .inr rfl)
    (hf : X.fn x = true ∨ X.env.scope.names.lookup x = some .local := by first | exact .inl rfl | exact .inr rfl | assumption) : PMS X (.AugAssign (.Name x pos') op e pos) (sAug i f m) :=
  imp_s (ps_aug (ti := fun x y H Q => rr x y H Q) hN hi hx he hop.1 hf) fun E σ H ⟨env, st, ρ, o, st', ro, rs, e, k⟩ => by
    unfold sAug at e
    split at e
    · rename_i dx hdx
      obtain ⟨y, s1, e1, e⟩ := bnd_inv e
      obtain ⟨vx, h1, h2⟩ := ro.2 i dx hdx
      refine ⟨vx, h1, env, st, ρ, y, s1, ro, rs, e1, fun vy H1 ρ1 n1 rs1 ry => ?_⟩
      split at e
      · rename_i z hz
        cases e
        exact hop.2 ρ1 _ H1 dx y z vx vy _ rs1 (RV.nxt n1 _ _ h2) ry hz fun v H2 n2 rs2 rv => k _ H2 ρ1 (n1.trans n2) rs2 ((ro.nxt (n1.trans n2)).set rv i)
      · cases e
    · cases e
theorem io_add : OpR X (inplaceOp .Add) (rI0 fun i j => .int (i + j)) ∧ RefO X.K (rI0 fun i j => .int (i + j)) (oI fun i j => some (i + j)) := ⟨iop_add, fun ρ st H dx dy d x y Q rs rx ry e k => by
  unfold oI at e
  split at e
  · rename_i i j
    cases e
    exact ⟨i, j, rx, ry, k _ H (Nxt.refl _ _) rs rfl⟩
  · cases e⟩
theorem io_sub : OpR X (inplaceOp .Sub) (rI0 fun i j => .int (i - j)) ∧ RefO X.K (rI0 fun i j => .int (i - j)) (oI fun i j => some (i - j)) := ⟨iop_sub, fun ρ st H dx dy d x y Q rs rx ry e k => by
  unfold oI at e
  split at e
  · rename_i i j
    cases e
    exact ⟨i, j, rx, ry, k _ H (Nxt.refl _ _) rs rfl⟩
  · cases e⟩

/-! ### dicts -/
def mDic0 : M Mn.D := fun _ st => some (.loc st.length, st ++ [.dic []])
theorem pm_dic0 {pos : Pos} : PM X (.Dict [] [] pos) mDic0 := imp_e pe_dnewK fun σ H Q ⟨env, st, ρ, d, st', ro, rs, e, k⟩ p hp => by
  cases e
  refine k _ _ (ρ.add p) (Nxt.alloc rs hp) (rs.alloc hp ⟨[], upd_same, rfl⟩) ⟨p, rfl, ?_⟩
  rw [← rs.len]
  simp [Rh.add]
/-- d.get(k) | d.get(k, x) -/
def mGet1 (mo mk : M Mn.D) : M Mn.D := fun env st => bnd (mo env st) fun x st1 => bnd (mk env st1) fun k st2 => match dicD x st1, dicD x st2, keyD k with
  | some _, some l, some k => some ((lkD l k).getD .non, st2)
  | _, _, _ => none
def mGet2 (mo mk mx : M Mn.D) : M Mn.D := fun env st => bnd (mo env st) fun x st1 => bnd (mk env st1) fun k st2 => bnd (mx env st2) fun z st3 => match dicD x st1, dicD x st3, keyD k with
  | some _, some l, some k => some ((lkD l k).getD z, st3)
  | _, _, _ => none
theorem lk_getD {K : PySem.W.Frag} {ρ : Rh} {H : Hp} {l : List (Key × Mn.D)} {xs : List (Key × V)} {k : Key} {z : Mn.D} {vz : V} (r : RVk K ρ H l xs) (rz : RV K ρ H z vz) : RV K ρ H ((lkD l k).getD z) ((valV xs k).getD vz) := by
  obtain ⟨h1, h2⟩ := lkD_ok (k := k) r
  cases e : lkD l k with
  | none =>
    rw [e] at h1
    have : valV xs k = none := by
      cases q : valV xs k with
      | none => rfl
      | some v => rw [q] at h1; cases h1
    rw [this]
    exact rz
  | some d =>
    obtain ⟨v, h3, h4⟩ := h2 d e
    rw [h3]
    exact h4
theorem pm_get1 {e : Expr} {mk : M Mn.D} (hu : X.A.units + 1 < cLine) (ho : PM X o mo) (he : PM X e mk) (m : M1 X o "get" apos e cpos := by exact ⟨rfl, rfl, rfl, rfl⟩) : PM X (.Call (.Attribute o "get" apos) [e] [] cpos) (mGet1 mo mk) :=
  imp_e (pe_dget1 hu ho he m) fun σ H Q ⟨env, st, ρ, d, st', ro, rs, e, k⟩ => by
    obtain ⟨x, s1, e1, e⟩ := bnd_inv e
    obtain ⟨y, s2, e2, e⟩ := bnd_inv e
    refine ⟨env, st, ρ, x, s1, ro, rs, e1, fun vx H1 ρ1 n1 rs1 rx => ?_⟩
    split at e
    · rename_i l1 l kk h1 h2 h3
      cases e
      obtain ⟨a, xs1, ev, f1, r1⟩ := dicD_ok rs1 rx h1
      refine ⟨a, ev, .inl ⟨xs1, f1⟩, env, s1, ρ1, y, _, ro.nxt n1, rs1, e2, fun vy H2 ρ2 n2 rs2 ry => ?_⟩
      obtain ⟨b, xs2, ev2, f2, r2⟩ := dicD_ok rs2 (RV.nxt n2 _ _ rx) h2
      rw [ev] at ev2
      cases ev2
      exact ⟨valV xs2 kk, .inl ⟨xs2, kk, f2, keyD_ok ry h3, rfl⟩, k _ H2 ρ2 (n1.trans n2) rs2 (lk_getD r2 rfl)⟩
    · cases e
theorem pm_get2 {e f : Expr} {mk mx : M Mn.D} (hu : X.A.units + 1 < cLine) (ho : PM X o mo) (he : PM X e mk) (hf : PM X f mx) (m : M2 X o "get" apos e f cpos := by exact ⟨rfl, rfl, rfl, rfl⟩) : PM X (.Call (.Attribute o "get" apos) [e, f] [] cpos) (mGet2 mo mk mx) :=
  imp_e (pe_dget2 hu ho he hf m) fun σ H Q ⟨env, st, ρ, d, st', ro, rs, e, k⟩ => by
    obtain ⟨x, s1, e1, e⟩ := bnd_inv e
    obtain ⟨y, s2, e2, e⟩ := bnd_inv e
    obtain ⟨z, s3, e3, e⟩ := bnd_inv e
    refine ⟨env, st, ρ, x, s1, ro, rs, e1, fun vx H1 ρ1 n1 rs1 rx => ?_⟩
    split at e
    · rename_i l1 l kk h1 h2 h3
      cases e
      obtain ⟨a, xs1, ev, f1, r1⟩ := dicD_ok rs1 rx h1
      refine ⟨a, ev, .inl ⟨xs1, f1⟩, env, s1, ρ1, y, _, ro.nxt n1, rs1, e2, fun vy H2 ρ2 n2 rs2 ry => ⟨env, s2, ρ2, z, _, ro.nxt (n1.trans n2), rs2, e3, fun vz H3 ρ3 n3 rs3 rz => ?_⟩⟩
      obtain ⟨b, xs2, ev2, f2, r2⟩ := dicD_ok rs3 (RV.nxt (n2.trans n3) _ _ rx) h2
      rw [ev] at ev2
      cases ev2
      exact ⟨valV xs2 kk, .inl ⟨xs2, kk, f2, keyD_ok (RV.nxt n3 _ _ ry) h3, rfl⟩, k _ H3 ρ3 (n1.trans (n2.trans n3)) rs3 (lk_getD r2 rz)⟩
    · cases e
end
end
end Mn
end
section
set_option Elab.async false
set_option autoImplicit false
set_option linter.all false
set_option maxRecDepth 100000
set_option maxHeartbeats 2000000
/-! The mini layer, 8: dict(..) of pairs. -/
namespace Mn
noncomputable section
open PySem PySem.Spec PyProof.Rows L2

def pairD (d : Mn.D) : Option (Key × Mn.D) :=
  match tupD d with
  | some [k, v] => match keyD k with
    | some k => some (k, v)
    | none => none
  | _ => none
def pairsD : List Mn.D → Option (List (Key × Mn.D))
  | [] => some []
  | d :: ds => match pairD d, pairsD ds with
    | some p, some l => some (p :: l)
    | _, _ => none
def mergeD (more : List (Key × Mn.D)) (l : List (Key × Mn.D)) : List (Key × Mn.D) := more.foldl (fun acc kv => putD acc kv.1 kv.2) l
theorem mergeD_ok {K : PySem.W.Frag} {ρ : Rh} {H : Hp} : ∀ {more : List (Key × Mn.D)} {ms : List (Key × V)} {l : List (Key × Mn.D)} {xs : List (Key × V)}, RVk K ρ H more ms → RVk K ρ H l xs → RVk K ρ H (mergeD more l) (mergeK xs ms)
  | [], _, _, _, h, r => by subst h; exact r
  | (k, d) :: more, _, l, xs, ⟨v, t, e, h, q⟩, r => by
    subst e
    show RVk K ρ H (mergeD more (putD l k d)) (mergeK (putK xs k v) t)
    exact mergeD_ok q (RVk.put k h r)
theorem pairD_ok {K : PySem.W.Frag} {ρ : Rh} {H : Hp} {d : Mn.D} {v : V} {k : Key} {e : Mn.D} (r : RV K ρ H d v) (h : pairD d = some (k, e)) : ∃ a ve, v = .ref a ∧ SqT K H a [kV k, ve] ∧ RV K ρ H e ve := by
  unfold pairD at h
  split at h
  · rename_i k' v' ht
    split at h
    · rename_i kk hk
      cases h
      have go : ∀ a xs, v = .ref a → SqT K H a xs → RVs K ρ H [k', e] xs → ∃ a ve, v = .ref a ∧ SqT K H a [kV k, ve] ∧ RV K ρ H e ve := fun a xs e1 f r => by
        obtain ⟨v1, r1, rfl, h1, v2, r2, rfl, h2, rfl⟩ := r
        rw [keyD_ok h1 hk] at f
        exact ⟨a, v2, e1, f, h2⟩
      cases d with
      | tup l => cases ht; obtain ⟨a, xs, e1, f, r⟩ := r; exact go a xs e1 f.seq r
      | ptl l => cases ht; obtain ⟨a, xs, e1, f, r⟩ := r; exact go a xs e1 f.seq r
      | _ => cases ht
    · cases h
  · cases h
theorem pairsD_ok {K : PySem.W.Frag} {ρ : Rh} {H : Hp} : ∀ {ds : List Mn.D} {vs : List V} {l : List (Key × Mn.D)}, RVs K ρ H ds vs → pairsD ds = some l → ∃ (ps : List Addr) (kvs : List (Key × V)), vs = ps.map V.ref ∧ Paired (fun p kv => SqT K H p [kV kv.1, kv.2]) ps kvs ∧ RVk K ρ H l kvs
  | [], _, _, r, e => by cases e; cases r; exact ⟨[], [], rfl, .nil, rfl⟩
  | d :: ds, _, l, ⟨v, t, ev, h, r⟩, e => by
    unfold pairsD at e
    split at e
    · rename_i p l' h1 h2
      cases e
      obtain ⟨a, ve, e1, f, q⟩ := pairD_ok (k := p.1) (e := p.2) h h1
      obtain ⟨ps, kvs, e2, pp, q2⟩ := pairsD_ok r h2
      subst ev; subst e1; subst e2
      exact ⟨a :: ps, (p.1, ve) :: kvs, rfl, .cons f pp, ve, kvs, rfl, q, q2⟩
    · cases e
def cDic (xs : List Mn.D) (st : Store) : Option (List (Key × Mn.D)) :=
  match xs with
  | [x] => match seqD x st with
    | some l => match pairsD l with
      | some ps => some (mergeD ps [])
      | none => none
    | none => none
  | _ => none
section
variable {X : Cx}
/-- dict(t), t a plain tuple of pairs -/
theorem call_dictT (hcalm : X.calm = true) : CallR X (.type "dict") (fun xs H Q => ∃ (ρ : Rh) (a : Addr) (ps : List Addr) (kvs : List (Key × V)), xs = [.ref a] ∧ FzT X.K ρ H a (ps.map V.ref) ∧ Paired (fun p kv => SqT X.K H p [kV kv.1, kv.2]) ps kvs ∧
    ∀ p, H p = none → Q (.ref p) (upd H p (.dK (mergeK [] kvs)))) := by
  intro pins s σ H xs us Q I r q
  obtain ⟨ρ, a, ps, kvs, ex, hq, hp, q⟩ := q
  subst ex
  obtain ⟨u, eu, rx⟩ := vals1 r
  subst eu
  cases rx
  obtain ⟨o, ho, hod⟩ : ∃ o, s.heap.get? a = some o ∧ o.dict = none := by
    rcases hq with ⟨_, o, h, hod⟩ | ⟨⟨o, h, hod⟩, _⟩
    · exact ⟨o, (show ObjOk X.prog X.w H s.heap a (.frz o (.tup (ps.map V.ref))) from I.hok a _ h).1, hod⟩
    · exact ⟨o, I.kIn a o h, hod⟩
  obtain ⟨its, rv, ⟨o', ho', hc, n, hdat⟩, hz⟩ := I.tuple hq.seq
  rw [ho] at ho'
  cases ho'
  have ei := refs_at rv
  subst ei
  rw [List.length_map] at hz
  obtain ⟨prs, rel, hl, hpr⟩ := pairs_of I hp
  have hgk : ∀ j : Nat, j < prs.length → ∃ b u q, prs[j]? = some q ∧ ps[j]? = some b ∧ IsTup s.heap b #[u, q.2] ∧ keyIs q.1 u = true := fun j hj => by
    obtain ⟨b, u, h1, h2, h3⟩ := hpr j prs[j] (List.getElem?_eq_getElem hj)
    exact ⟨b, u, _, List.getElem?_eq_getElem hj, h1, h2, h3⟩
  -- the pairs as the library takes them
  let us : Nat → Value := fun j => if h : j < prs.length then Classical.choose (Classical.choose_spec (hgk j h)) else .none
  let vp : List (Value × Value) := (List.range prs.length).map fun j => (us j, (prs.getD j (Sum.inl 0, .none)).2)
  have vl : vp.length = prs.length := by simp [vp]
  have vat : ∀ (j : Nat) (hj : j < prs.length), vp[j]? = some (us j, prs[j].2) := fun j hj => by
    simp [vp, hj]
  have uat : ∀ (j : Nat) (hj : j < prs.length), IsTup s.heap (ps.getD j 0) #[us j, prs[j].2] ∧ keyIs prs[j].1 (us j) = true ∧ ps[j]? = some (ps.getD j 0) := fun j hj => by
    obtain ⟨q, h1, h2, h3, h4⟩ := Classical.choose_spec (Classical.choose_spec (hgk j hj))
    have e1 : us j = Classical.choose (Classical.choose_spec (hgk j hj)) := dif_pos hj
    rw [List.getElem?_eq_getElem hj] at h1
    cases h1
    rw [e1]
    have e2 : ps.getD j 0 = Classical.choose (hgk j hj) := by rw [List.getD_eq_getElem?_getD]; exact congrArg (fun z => z.getD 0) h2
    rw [e2]
    exact ⟨h3, h4, h2⟩
  have items : PairItems s.heap (ps.map Value.ref).toArray (fun j => ps.getD j 0) vp := by
    refine ⟨by simp [vl, hl], fun j k v hj => ?_⟩
    have hjl : j < prs.length := by
      have := (List.getElem?_eq_some_iff.mp hj).1
      rw [vl] at this
      exact this
    rw [vat j hjl] at hj
    cases hj
    obtain ⟨h1, h2, h3⟩ := uat j hjl
    refine ⟨by rw [List.getElem?_toArray, List.getElem?_map, h3]; rfl, .inl h1⟩
  have have_ : PairsHave (mixKind X.prog X.w) vp.length (PairRel vp) prs := by
    refine ⟨vl.symm, fun i key v h => ?_⟩
    have hjl : i < prs.length := by
      have := (List.getElem?_eq_some_iff.mp (show vp[i]? = some (key, v) from h)).1
      rw [vl] at this
      exact this
    have h : vp[i]? = some (key, v) := h
    rw [vat i hjl] at h
    cases h
    exact ⟨prs[i].1, by rw [List.getElem?_eq_getElem hjl], (uat i hjl).2.1⟩
  refine PySem.call_dict_pairs (PairArg.tuple a (ps.map Value.ref).toArray (fun j => ps.getD j 0) vp) (I.ok.hd hcalm) ⟨⟨o, n, ho, hc, hod, hdat⟩, items⟩ have_ (by rw [vl, hl]; exact hz) fun h' tk hd' k => ?_
  have hm : (s.heap.objs.size == sysModules) = false := beq_eq_false_iff_ne.mpr (Nat.ne_of_gt I.big)
  have hlen : (mergeK [] kvs).length ≤ sizeLine := by
    refine Nat.le_trans (length_mergeK kvs []) ?_
    rw [List.length_nil, Nat.zero_add, rel.length, hl]
    exact hz
  exact ⟨.ref s.heap.objs.size, upd H s.heap.objs.size (.dK (mergeK [] kvs)), I.laid (t' := tk) (fun b o e => k b o (by simp) e) (Nat.le_refl _) (show ObjOk X.prog X.w _ _ _ (.dK (mergeK [] kvs)) from ⟨hlen, hm, merged [] prs, KV.merge rel .nil, hd'⟩), rfl, q _ (I.hok.fresh (Nat.le_refl _))⟩
/-- a new dict: frozen, or into the store -/
def mDicF (ms : M (List Mn.D)) : M Mn.D := fun env st => bnd (ms env st) fun xs st1 => match cDic xs st1 with
  | some l => some (.dic l, st1)
  | none => none
def mDicM (ms : M (List Mn.D)) : M Mn.D := fun env st => bnd (ms env st) fun xs st1 => match cDic xs st1 with
  | some l => some (.loc st1.length, st1 ++ [.dic l])
  | none => none
def rDicA (K : PySem.W.Frag) : List V → Hp → VK → Prop := fun xs H Q => (∃ (a : Addr) (ps : List Addr) (kvs : List (Key × V)), xs = [.ref a] ∧ SqL K H a (ps.map V.ref) ∧ Paired (fun p kv => SqT K H p [kV kv.1, kv.2]) ps kvs ∧
    ∀ p, H p = none → Q (.ref p) (upd H p (.dK (mergeK [] kvs)))) ∨ ∃ (ρ : Rh) (a : Addr) (ps : List Addr) (kvs : List (Key × V)), xs = [.ref a] ∧ FzT K ρ H a (ps.map V.ref) ∧ Paired (fun p kv => SqT K H p [kV kv.1, kv.2]) ps kvs ∧
    ∀ p, H p = none → Q (.ref p) (upd H p (.dK (mergeK [] kvs)))
theorem rDicA_of {K : PySem.W.Frag} {ρ : Rh} {H : Hp} {st : Store} {xs : List Mn.D} {vs : List V} {l : List (Key × Mn.D)} {Q : VK} (rs : RepSt K ρ st H) (rv : RVs K ρ H xs vs) (e : cDic xs st = some l)
    (k : ∀ p kvs, H p = none → RVk K ρ H l kvs → Q (.ref p) (upd H p (.dK kvs))) : rDicA K vs H Q := by
  unfold cDic at e
  split at e
  · rename_i x
    obtain ⟨v, r, rfl, rx, rfl⟩ := rv
    split at e
    · rename_i ds hds
      split at e
      · rename_i ps hps
        cases e
        cases hx : x with
        | tup ds' =>
          subst hx
          cases hds
          obtain ⟨a, ys, e1, f, ry⟩ := rx
          obtain ⟨qs, kvs, e2, pp, rk⟩ := pairsD_ok ry hps
          subst e1; subst e2
          exact .inr ⟨ρ, a, qs, kvs, rfl, f, pp, fun p hp => k p _ hp (mergeD_ok rk rfl)⟩
        | _ =>
          obtain ⟨a, ys, e1, f, ry⟩ := seqD_list rs rx hds (fun l z => by rw [hx] at z; cases z)
          obtain ⟨qs, kvs, e2, pp, rk⟩ := pairsD_ok ry hps
          subst e1; subst e2
          exact .inl ⟨a, qs, kvs, rfl, f, pp, fun p hp => k p _ hp (mergeD_ok rk rfl)⟩
      · cases e
    · cases e
  · cases e
variable {e : Expr} {es : List Expr} {ms : M (List Mn.D)} {pos p : Pos}
theorem pe_dicA {t : TA} (hc : X.calm = true) (hm : X.mg "dict" = none) (ha : PA X (e :: es) t) (hv : bootBuiltins "dict" = some (.type "dict") := by decide +kernel) (hg : Gl X "dict" := by rfl)
    (he : starEach (e :: es) X.env = (false, eval e X.env) :: starEach es X.env := by rfl) (hpl : (backTo pos (starEach es X.env)).any (·.1) = false := by rfl) : PE X (.Call (.Name "dict" p) (e :: es) [] pos) (tCB (rDicA X.K) t) :=
  pe_callTy (CallR.or (call_dictP hc) (call_dictT hc)) hg hm hv ha (he := he) (hpl := hpl)
theorem pm_dicF (hm : X.mg "dict" = none) (ha : PMA X (e :: es) ms) (hc : X.calm = true := by rfl) (hv : bootBuiltins "dict" = some (.type "dict") := by decide +kernel) (hg : Gl X "dict" := by rfl)
    (he : starEach (e :: es) X.env = (false, eval e X.env) :: starEach es X.env := by rfl) (hpl : (backTo pos (starEach es X.env)).any (·.1) = false := by rfl) : PM X (.Call (.Name "dict" p) (e :: es) [] pos) (mDicF ms) :=
  imp_e (pe_dicA hc hm ha hv hg he hpl) fun σ H Q ⟨env, st, ρ, d, st', ro, rs, e, k⟩ => by
    obtain ⟨xs, s1, e1, e⟩ := bnd_inv e
    split at e
    · rename_i l hl
      cases e
      refine ⟨env, st, ρ, xs, _, ro, rs, e1, fun vs H' ρ' n rs' rv => rDicA_of rs' rv hl fun p kvs hp rk => ?_⟩
      have n2 := Nxt.laid (o := .dK kvs) rs' hp
      exact k _ _ ρ' (n.trans n2) (rs'.laid hp) ⟨p, kvs, rfl, ⟨rs'.out hp, .inl upd_same⟩, RVk.nxt n2 _ _ rk⟩
    · cases e
theorem pm_dicM (hm : X.mg "dict" = none) (ha : PMA X (e :: es) ms) (hc : X.calm = true := by rfl) (hv : bootBuiltins "dict" = some (.type "dict") := by decide +kernel) (hg : Gl X "dict" := by rfl)
    (he : starEach (e :: es) X.env = (false, eval e X.env) :: starEach es X.env := by rfl) (hpl : (backTo pos (starEach es X.env)).any (·.1) = false := by rfl) : PM X (.Call (.Name "dict" p) (e :: es) [] pos) (mDicM ms) :=
  imp_e (pe_dicA hc hm ha hv hg he hpl) fun σ H Q ⟨env, st, ρ, d, st', ro, rs, e, k⟩ => by
    obtain ⟨xs, s1, e1, e⟩ := bnd_inv e
    split at e
    · rename_i l hl
      cases e
      refine ⟨env, st, ρ, xs, s1, ro, rs, e1, fun vs H' ρ' n rs' rv => rDicA_of rs' rv hl fun p kvs hp rk => ?_⟩
      have n2 := Nxt.alloc (o := .dK kvs) rs' hp
      refine k _ _ (ρ'.add p) (n.trans n2) (rs'.alloc hp ⟨kvs, upd_same, RVk.nxt n2 _ _ rk⟩) ⟨p, rfl, ?_⟩
      rw [← rs'.len]
      simp [Rh.add]
    · cases e
end
end
end Mn
end
section
set_option Elab.async false
set_option autoImplicit false
set_option linter.all false
set_option maxRecDepth 100000
set_option maxHeartbeats 2000000
/-! The mini layer, 9: any slice; three names at once; the law's end. -/
namespace Mn
noncomputable section
open PySem PySem.Spec PyProof.Rows L2
section
variable {X : Cx} {a b c : Expr} {ma mb mc : M Mn.D} {pos : Pos}
/-- x[lo:hi] of a tuple or a list (a new one, frozen) -/
def slD (x : Mn.D) (lo hi : Option Int) (st : Store) : Option Mn.D :=
  match x with
  | .tup l => some (.tup (cutD l lo hi))
  | x => match seqD x st with
    | some l => some (.lst (cutD l lo hi))
    | none => none
def mSl (ma : M Mn.D) (ml mh : MO) : M Mn.D := fun env st => bnd (ma env st) fun x st1 => bnd (ml env st1) fun lo st2 => bnd (mh env st2) fun hi st3 => ret1 (slD x lo hi st3) st3
theorem pm_sl {lo hi : Option Expr} {ml mh : MO} {p2 : Pos} (ha : PM X a ma) (hl : PMO X lo ml) (hh : PMO X hi mh) : PM X (.Subscript a (.Slice lo hi none p2) pos) (mSl ma ml mh) :=
  imp_e (pe_slice (sl_list.or sl_tupF) ha hl hh) fun σ H Q ⟨env, st, ρ, d, st', ro, rs, e, k⟩ => by
    obtain ⟨x, s1, e1, e⟩ := bnd_inv e
    obtain ⟨l, s2, e2, e⟩ := bnd_inv e
    obtain ⟨h, s3, e3, e⟩ := bnd_inv e
    obtain ⟨e4, e5⟩ := ret1_inv e
    cases e5
    refine ⟨env, st, ρ, x, s1, ro, rs, e1, fun vx H1 ρ1 n1 rs1 rx => ⟨env, s1, ρ1, l, s2, ro.nxt n1, rs1, e2, fun H2 ρ2 n2 rs2 => ⟨env, s2, ρ2, h, _, ro.nxt (n1.trans n2), rs2, e3, fun H3 ρ3 n3 rs3 => ?_⟩⟩⟩
    have nn := n1.trans (n2.trans n3)
    have rx3 := RV.nxt (n2.trans n3) _ _ rx
    cases hx : x with
    | tup ds =>
      subst hx
      cases e4
      obtain ⟨p, xs, ev, f, r⟩ := rx3
      have hl := RVs.length r
      refine .inr ⟨p, xs, ev, f.seq, fun hw => ?_, fun hw q o hq ho => ?_⟩
      · rw [hl] at hw
        rw [cutD_whole hw] at k
        exact k _ H3 ρ3 nn rs3 ⟨p, xs, rfl, f, r⟩
      · have n := Nxt.laid (o := .frz o (.tup (cutV xs l h))) rs3 hq
        exact k _ _ ρ3 (nn.trans n) (rs3.laid hq) ⟨q, _, rfl, .inl ⟨rs3.out hq, o, upd_same, ho⟩, RVs.nxt n _ _ (cutD_ok _ _ r)⟩
    | _ =>
      have e4 : slD x l h _ = some d := e4
      unfold slD at e4
      rw [hx] at e4
      simp only at e4
      split at e4
      · rename_i l' hs
        cases e4
        obtain ⟨p, xs, ev, f, r⟩ := seqD_list rs3 (hx ▸ rx3) hs (fun l z => by cases z)
        refine .inl ⟨p, xs, ev, f, fun q hq => ?_⟩
        have n := Nxt.laid (o := .lst (cutV xs l h)) rs3 hq
        exact k _ _ ρ3 (nn.trans n) (rs3.laid hq) ⟨q, _, rfl, ⟨rs3.out hq, upd_same⟩, RVs.nxt n _ _ (cutD_ok _ _ r)⟩
      · cases e4
/-- a, b, c = x, y, z with plain local names -/
def sPar3 (i j l : Nat) (ms : M (List Mn.D)) : S := fun env st => bnd (ms env st) fun ds st1 =>
  match ds with
  | [x, y, z] => some (.nx (((env.set i (some x)).set j (some y)).set l (some z)), st1)
  | _ => none
theorem pms_par3 {i j l : Nat} {x y z : Str} {ms : M (List Mn.D)} {px py pz pt : Pos} {kt k2 pt2} (hN : X.N.Nodup) (ha : PMA X [a, b, c] ms) (hc : X.calm = true := by rfl) (hi : X.N[i]? = some x := by rfl) (hj : X.N[j]? = some y := by rfl) (hl : X.N[l]? = some z := by rfl)
    (hij : i ≠ j := by decide) (hil : i ≠ l := by decide) (hjl : j ≠ l := by decide) (hx : X.env.scope.names.lookup x = some .local := by rfl) (hy : X.env.scope.names.lookup y = some .local := by rfl) (hz : X.env.scope.names.lookup z = some .local := by rfl)
    (hw : swappedStores [.Tuple [.Name x px, .Name y py, .Name z pz] kt pt] (.Tuple [a, b, c] k2 pt2) X.env = pure (some [x, y, z]) := by rfl)
    (hs : swapsWithSole [.Tuple [.Name x px, .Name y py, .Name z pz] kt pt] (.Tuple [a, b, c] k2 pt2) pos.line X.env = pure false := by rfl) :
    PMS X (.Assign [.Tuple [.Name x px, .Name y py, .Name z pz] kt pt] (.Tuple [a, b, c] k2 pt2) pos) (sPar3 i j l ms) :=
  imp_s (ps_par3 hc hN hi hj hl hij hil hjl hx hy hz ha hw hs) fun E σ H ⟨env, st, ρ, o, st', ro, rs, e, k⟩ => by
    obtain ⟨ds, s1, e1, e⟩ := bnd_inv e
    refine ⟨env, st, ρ, ds, s1, ro, rs, e1, fun vs H' ρ' n rs' rv => ?_⟩
    split at e
    · rename_i x y z
      cases e
      obtain ⟨v1, r1, rfl, h1, v2, r2, rfl, h2, v3, r3, rfl, h3, rfl⟩ := rv
      exact ⟨v1, v2, v3, rfl, k _ H' ρ' n rs' ((((ro.nxt n).set h1 i).set h2 j).set h3 l)⟩
    · cases e
end
/-! ### the law's end -/
/-- what is to be shown of the law's own function, in plain Lean -/
def Keeps (F : Fn) : Prop := ∀ ns : List Int, ns.length ≤ 63 → ∃ st', F [.rol (ns.map Mn.D.int)] [] = some (.bl true, st')
theorem ints_rv {K : PySem.W.Frag} {ρ : Rh} {H : Hp} : ∀ ns : List Int, RVs K ρ H (ns.map Mn.D.int) (ns.map V.int)
  | [] => rfl
  | n :: ns => ⟨.int n, ns.map V.int, rfl, rfl, ints_rv ns⟩
theorem keeps_sp {K : PySem.W.Frag} {F : Fn} (h : Keeps F) {H : Hp} {a : Addr} {ns : List Int} (hl : ns.length ≤ 63) (hS : SqL K H a (ns.map V.int)) : spF K 1 F [.ref a] H (fun v _ => v = .bl true) fun _ _ _ => False := by
  obtain ⟨st', e⟩ := h ns hl
  refine ⟨rfl, [.rol (ns.map Mn.D.int)], [], ⟨[], []⟩, .bl true, st', ⟨.ref a, [], rfl, ⟨a, ns.map V.int, rfl, .inl ⟨fun z => ?_, hS⟩, ints_rv ns⟩, rfl⟩, ⟨by simp, rfl, fun a z => (by cases z), fun i a d z => (by simp at z)⟩, e, fun v H' ρ' n rs rv => rv⟩
  rcases z with z | z <;> cases z
end
end Mn
end
section
set_option Elab.async false
set_option autoImplicit false
set_option linter.all false
set_option maxRecDepth 100000
set_option maxHeartbeats 2000000
/-! The mini layer, 10: a tuple turned about; the signs of a text; is True, is False; constants of the module that are tuples. -/
namespace Mn
noncomputable section
open PySem PySem.Spec PyProof.Rows L2
section
variable {prog : Program} {w : World} {A : Around} {E : Value → Shared → Prop} {s : Shared}
theorem adjust_back (n : Nat) : Builtin.Slice.sliceAdjust none none (-1) (n : Int) = ((n : Int) - 1, -1) := by
  unfold Builtin.Slice.sliceAdjust
  rfl
theorem places_back (n : Nat) : Builtin.Slice.slicePlaces ((n : Int) - 1) (-1) (-1) = n := by
  unfold Builtin.Slice.slicePlaces
  have h1 : ¬ ((-1 : Int) > 0) := by omega
  have h2 : (- -1 : Int) = 1 := by decide
  simp only [h1, if_false, h2, Int.ediv_one]
  split <;> omega
theorem fm_congr {α β : Type} {f g : α → Option β} : ∀ l : List α, (∀ x ∈ l, f x = g x) → l.filterMap f = l.filterMap g
  | [], _ => rfl
  | x :: l, h => by
    rw [List.filterMap_cons, List.filterMap_cons, h x (List.mem_cons_self ..), fm_congr l fun y hy => h y (List.mem_cons_of_mem _ hy)]
theorem pick_back (xs : Array Value) : ((List.range xs.size).filterMap fun (m : Nat) => xs[(((xs.size : Int) - 1) + (m : Int) * (-1)).toNat]?).toArray = xs.toList.reverse.toArray := by
  congr 1
  have e : ((List.range xs.size).filterMap fun (m : Nat) => xs[(((xs.size : Int) - 1) + (m : Int) * (-1)).toNat]?) = ((List.range xs.size).map fun k => xs.size - 1 - k).filterMap (xs[·]?) := by
    rw [List.filterMap_map]
    refine fm_congr _ fun m hm => ?_
    have := List.mem_range.mp hm
    have e2 : (((xs.size : Int) - 1) + (m : Int) * (-1)).toNat = xs.size - 1 - m := by omega
    show xs[_]? = xs[_]?
    rw [e2]
  rw [e, PySem.W.krv_range, List.filterMap_reverse, PySem.W.krv_all]
theorem getItem_tuple_back {t sl : Addr} {its : Array Value} {vl vu vs : Value} {Q : Value → Shared → Prop} (ht : IsTup s.heap t its) (hs : s.heap.IsSliceOf sl vl vu vs) (pl : IsPart vl none) (pu : IsPart vu none) (ps : IsPart vs (some (-1)))
    (q : Q (.ref s.heap.objs.size) { s with heap := s.heap.push { cls := .type "tuple", data := .seq its.toList.reverse.toArray } }) (hz : its.size ≤ sizeLine) :
    wpAny (model prog w) A (getItem (.ref t) (.ref sl)) Q E s := by
  have hfit : sizeOk (.seq its.toList.reverse.toArray) := by
    show its.toList.reverse.toArray.size ≤ sizeLine
    simpa using hz
  obtain ⟨ob, h1, h2, h3⟩ := id hs
  have hT : s.TypeIs (.ref sl) "slice" := ⟨ob, h1, h2⟩
  unfold getItem
  try with_reducible refine wpAny_holding ?_
  first | refine wpAny_bind (wpAny_pure ?_) | skip
  refine wpAny_bind (wpAny_sequenceKey ht.typeIs (by decide) ?_)
  refine wpAny_bind ?_
  refine wpAny_callSpecial?_slot (name := Str.ofString "__getitem__") ht.typeIs PyProof.Rows.slot_tuple_getitem ?_
  refine wpAny_call_entry PyProof.Rows.slot_tuple_getitem ht.typeIs entry_tuple_getitem ?_ (args_tuple_getitem _ _)
  show wpAny _ _ (Builtin.Tuple.tupleItemsOf (.ref t) >>= _) _ _ s
  refine wpAny_bind (tupleItemsOf_ ht (wpAny_bind (wpAny_typeOf hT ?_)))
  rw [if_pos (by decide)]
  refine wpAny_bind ?_
  unfold Builtin.Slice.sliceApplied Builtin.Slice.sliceFields
  refine wpAny_bind (wpAny_bind (wpAny_field h1 h3 (x := vl) rfl ?_))
  refine wpAny_bind (wpAny_field h1 h3 (x := vu) rfl ?_)
  refine wpAny_bind (wpAny_field h1 h3 (x := vs) rfl (wpAny_pure ?_))
  refine wpAny_bind (HT.slicePart_ ps ?_)
  show wpAny _ _ (if ((-1 : Int) == 0) = true then _ else _) _ _ s
  rw [if_neg (by decide)]
  refine wpAny_bind (HT.slicePart_ pl ?_)
  refine wpAny_bind (HT.slicePart_ pu ?_)
  refine wpAny_bind (wpAny_pure ?_)
  show wpAny _ _ (match Builtin.Slice.sliceAdjust none none (-1) (its.size : Int) with | (b, e) => pure (b, (-1 : Int), Builtin.Slice.slicePlaces b e (-1))) _ _ s
  rw [adjust_back]
  show wpAny _ _ (pure ((its.size : Int) - 1, (-1 : Int), Builtin.Slice.slicePlaces ((its.size : Int) - 1) (-1) (-1))) _ _ s
  rw [places_back]
  refine wpAny_pure ?_
  have no : ¬ (((its.size : Int) - 1 == 0 && (-1 : Int) == 1 && its.size == its.size) = true) := by
    have : ((-1 : Int) == 1) = false := by decide
    rw [this]
    simp
  show wpAny _ _ (if ((its.size : Int) - 1 == 0 && (-1 : Int) == 1 && its.size == its.size) = true then _ else _) _ _ s
  rw [if_neg no, pick_back]
  first
    | exact wpAny_bind (m := Builtin.Tuple.tupleExact _) (wpAny_newObj_type (wpAny_pure ⟨_, rfl, wpAny_pure q⟩) hfit)
    | exact wpAny_bind (m := Builtin.Tuple.tupleExact _) (wpAny_newObj_type (wpAny_bind (wpAny_pure (wpAny_pure ⟨_, rfl, wpAny_pure q⟩))) hfit)
    | exact wpAny_bind (wpAny_bind (m := Builtin.Tuple.tupleExact _) (wpAny_newObj_type (wpAny_pure (wpAny_pure ⟨_, rfl, wpAny_pure q⟩)) hfit))
    | exact wpAny_bind (wpAny_bind (m := Builtin.Tuple.tupleExact _) (wpAny_newObj_type (wpAny_pure ⟨_, rfl, wpAny_pure q⟩) hfit))
end
section
variable {X : Cx}
/-- t[::-1] -/
def tRevT (K : PySem.W.Frag) (te : TE) : TE := fun σ H Q => te σ H fun x H1 => ∃ a xs, x = .ref a ∧ SqT K H1 a xs ∧ ∀ p o, H1 p = none → o.dict = none → Q (.ref p) (upd H1 p (.frz o (.tup xs.reverse)))
theorem pe_revT {e : Expr} {te : TE} {k : Nat} {p1 p2 p3 pos : Pos} (he : PE X e te) : PE X (.Subscript e (.Slice none none (some (.UnaryOp .USub (.Constant (.int 1) k p1) p2)) p3) pos) (tRevT X.K te) := by
  refine ⟨fun pins s σ H Q I h => ?_⟩
  refine Subscript_ (thn (he.run pins s σ H _ I h) fun v s1 ⟨x, H1, I1, r1, q1⟩ => ?_)
  obtain ⟨a, xs, ex, hx, q⟩ := q1
  subst ex
  cases r1
  have hst : PO X (some (.UnaryOp .USub (.Constant (.int 1) k p1) p2)) (tPart (tUn (rU fun i => .int (-i)) (tC (.int 1)))) := po_some (pe_un un_neg pe_int)
  refine wpAny_Slice (thn (po_none.run pins s1 σ H1 (fun o J => o = none ∧ J = H1) I1 ⟨rfl, rfl⟩) fun vl s2 ⟨l, H2, I2, pl, el, e2⟩ => ?_)
  subst el e2
  refine thn (po_none.run pins s2 σ H2 (fun o J => o = none ∧ J = H2) I2 ⟨rfl, rfl⟩) fun vu s3 ⟨u, H3, I3, pu, eu, e3⟩ => ?_
  subst eu e3
  refine thn (hst.run pins s3 σ H3 (fun o J => o = some (-1) ∧ J = H3) I3 ⟨1, rfl, -1, rfl, rfl, rfl⟩) fun vs s4 ⟨o, H4, I4, ps, eo, e4⟩ => ?_
  subst eo e4
  have I5 : Inv X pins σ H4 { s4 with heap := s4.heap.push { cls := .type "slice", data := .fields #[vl, vu, vs] } } := I4.kept (t' := s4.toks) fun b ob q => Heap.get?_push_of_some _ q
  obtain ⟨its, r, ht, hz⟩ := I5.tuple hx
  have hlen := r.length
  show wpAny (model X.prog X.w) X.A (subscriptTail e (.Slice none none (some (.UnaryOp .USub (.Constant (.int 1) k p1) p2)) p3) (.ref a) (.ref s4.heap.objs.size)) (EP X pins σ Q) X.xe { s4 with heap := s4.heap.push { cls := .type "slice", data := .fields #[vl, vu, vs] } }
  refine tail_any (ops := [.ref a, .ref s4.heap.objs.size]) ht.typeIs (PyProof.Rows.slot_tuple_getitem.lookup) ?_ (by with_unfolding_all rfl)
  refine getItem_tuple_back ht (Heap.IsSliceOf.new _ vl vu vs) pl pu ps ?_ (by rw [List.size_toArray]; omega)
  refine ⟨.ref _, _, I5.laid (t' := s4.toks) (o := .frz { cls := .type "tuple", data := .seq its.toArray.toList.reverse.toArray } (.tup xs.reverse)) (fun b ob q => Heap.get?_push_of_some _ q) (Nat.le_refl _) ?_, rfl, q _ _ (I5.hok.fresh (Nat.le_refl _)) rfl⟩
  exact ⟨Heap.get?_push_size _ rfl, by rw [List.length_reverse]; exact hz, _, r.reverse, IsTup.new _ _⟩
def mRev (m : M Mn.D) : M Mn.D := fun env st => bnd (m env st) fun x st1 =>
  match x with
  | .tup l => some (.tup l.reverse, st1)
  | _ => none
theorem RVs.reverse {K : PySem.W.Frag} {ρ : Rh} {H : Hp} : ∀ {ds : List Mn.D} {vs : List V}, RVs K ρ H ds vs → RVs K ρ H ds.reverse vs.reverse
  | [], _, h => by subst h; rfl
  | d :: ds, _, ⟨v, r, e, h, t⟩ => by
    subst e
    rw [List.reverse_cons, List.reverse_cons]
    exact RVs.append (RVs.reverse t) (RVs.one h)
theorem pm_rev {a : Expr} {ma : M Mn.D} {k : Nat} {p1 p2 p3 pos : Pos} (ha : PM X a ma) : PM X (.Subscript a (.Slice none none (some (.UnaryOp .USub (.Constant (.int 1) k p1) p2)) p3) pos) (mRev ma) :=
  imp_e (pe_revT ha) fun σ H Q ⟨env, st, ρ, d, st', ro, rs, e, q⟩ => by
    obtain ⟨x, s1, e1, e⟩ := bnd_inv e
    cases x with
    | tup ds =>
      cases e
      refine ⟨env, st, ρ, _, _, ro, rs, e1, fun vx H1 ρ1 n1 rs1 rx => ?_⟩
      obtain ⟨p, xs, ev, f, r⟩ := rx
      refine ⟨p, xs, ev, f.seq, fun z o hz ho => ?_⟩
      have n := Nxt.laid (o := .frz o (.tup xs.reverse)) rs1 hz
      exact q _ _ ρ1 (n1.trans n) (rs1.laid hz) ⟨z, _, rfl, .inl ⟨rs1.out hz, o, upd_same, ho⟩, RVs.nxt n _ _ (RVs.reverse r)⟩
    | _ => cases e
/-- the signs of a text -/
def signsD (x : Str) : List Mn.D := x.cps.toList.map fun c => .str ⟨#[c]⟩
def miTxt (m : M Mn.D) : M (List Mn.D) := fun env st => bnd (m env st) fun x st1 =>
  match x with
  | .str z => some (signsD z, st1)
  | _ => none
theorem txt_ok (K : PySem.W.Frag) (x : Str) (ρ : Rh) (H : Hp) : ItOk K (Its x) ρ H (signsD x).length (Items (signsD x)) := by
  have hl : (signsD x).length = x.cps.size := by simp [signsD]
  rw [hl]
  refine ⟨fun i ρ' H' n' hi => hi, fun ρ' H' n' => Nat.le_refl _, fun i ρ' H' v H2 st n' rs hi hy => ?_⟩
  obtain ⟨e1, c, e2, e3⟩ := hy
  subst e1; subst e3
  refine ⟨.str ⟨#[c]⟩, ?_, rfl, Nxt.refl _ _, rs⟩
  show (signsD x)[i]? = _
  unfold signsD
  rw [List.getElem?_map, Array.getElem?_toList, e2]
  rfl
theorem pmi_txt {tg e : Expr} {m : M Mn.D} (h : PM X e m) : PMI X tg e (miTxt m) :=
  imp_i (pi_str h) fun σ H R ⟨env, st, ρ, ds, st', ro, rs, e, k⟩ => by
    obtain ⟨d, s1, e1, e⟩ := bnd_inv e
    cases d with
    | str x =>
      cases e
      exact ⟨env, st, ρ, _, _, ro, rs, e1, fun v H' ρ' n rs' rv => ⟨x, rv, k _ H' ρ' n rs' (txt_ok X.K x ρ' H')⟩⟩
    | _ => cases e
/-- is True, is False -/
def oIsB : O2 := fun x y _ =>
  match x, y with
  | .bl a, .bl b => some (.bl (decide (a = b)))
  | _, _ => none
def oIsNotB : O2 := fun x y _ =>
  match x, y with
  | .bl a, .bl b => some (.bl (!decide (a = b)))
  | _, _ => none
theorem o_isB : OpR X (compareOp .Is) (fun x y H Q => ∃ a b, x = .bl a ∧ y = .bl b ∧ Q (.bl (decide (a = b))) H) ∧ RefO X.K (fun x y H Q => ∃ a b, x = .bl a ∧ y = .bl b ∧ Q (.bl (decide (a = b))) H) oIsB := ⟨op_is_bl, fun ρ st H dx dy d x y Q rs rx ry e k => by
  cases dx with
  | bl a =>
    cases dy with
    | bl b => cases e; exact ⟨a, b, rx, ry, k _ H (Nxt.refl _ _) rs rfl⟩
    | _ => cases e
  | _ => cases e⟩
theorem o_isNotB : OpR X (compareOp .IsNot) (fun x y H Q => ∃ a b, x = .bl a ∧ y = .bl b ∧ Q (.bl (!decide (a = b))) H) ∧ RefO X.K (fun x y H Q => ∃ a b, x = .bl a ∧ y = .bl b ∧ Q (.bl (!decide (a = b))) H) oIsNotB := ⟨op_isnot_bl, fun ρ st H dx dy d x y Q rs rx ry e k => by
  cases dx with
  | bl a =>
    cases dy with
    | bl b => cases e; exact ⟨a, b, rx, ry, k _ H (Nxt.refl _ _) rs rfl⟩
    | _ => cases e
  | _ => cases e⟩
end
/-! constants of the module -/
section
variable {K : PySem.W.Frag} {mg : Str → Option Value} {x : Str}
theorem glob_int {i : Int} {t : Tok} (h : mg x = some (.int i t)) : GlobM K mg x (.int i) := ⟨_, .int i, h, ⟨_, rfl⟩, fun _ _ => rfl⟩
theorem glob_str {y : Str} {t : Tok} (h : mg x = some (.str y t)) : GlobM K mg x (.str y) := ⟨_, .str y, h, ⟨_, rfl⟩, fun _ _ => rfl⟩
theorem glob_pair {g : Addr} {i j : Int} {t u : Tok} {n : Nat} {sl : Array (Option Value)} (h : mg x = some (.ref g)) (l : K.lookup g = some ⟨.type "tuple", none, .seq #[.int i t, .int j u] n, sl⟩) : GlobM K mg x (.tup [.int i, .int j]) :=
  ⟨_, .ref g, h, rfl, fun ρ H => ⟨g, [.int i, .int j], rfl, .inr ⟨⟨_, l, rfl⟩, fun H' => .inr ⟨_, _, _, l, rfl, rfl, by show 2 ≤ sizeLine; decide, .cons ⟨_, rfl⟩ (.cons ⟨_, rfl⟩ .nil)⟩⟩, ⟨_, _, rfl, rfl, _, _, rfl, rfl, rfl⟩⟩⟩
end
end
end Mn
end
section
set_option Elab.async false
set_option autoImplicit false
set_option linter.all false
set_option maxRecDepth 100000
set_option maxHeartbeats 2000000
/-! The mini layer, S: its equations, step by step; what comes next has a name, so that nothing is looked at ahead of its turn. -/
namespace Mn
noncomputable section
open PySem PySem.Spec PyProof.Rows L2
section
variable {a b : S} {env : MEnv} {st : Store} {m ma mb mc mo mi mk mx : M D} {t u : M Bool} {ms : M (List D)} {i j k n N : Nat} {d x y z : D} {f g : O2} {g1 : G} {gs : Gs} {c : OC} {ds xs l : List D} {v w : Int} {p : Bool} {r s : Str}
theorem bnd_some' {α β : Type} {a : α} {f : α → Store → Option β} : bnd (some (a, st)) f = f a st := rfl
theorem ret1_some' {α : Type} {d : α} : ret1 (some d) st = some (d, st) := rfl
def kThen (b : S) (o : Out) (st1 : Store) : Option (Out × Store) :=
  match o with
  | .nx env1 => b env1 st1
  | .bk env1 => some (.bk env1, st1)
  | .ct env1 => some (.ct env1, st1)
  | .rt d => some (.rt d, st1)
theorem sSeq_eq  : sSeq a b env st = bnd (a env st) (kThen b) := rfl
theorem kThen_nx  : kThen b (.nx env) st = b env st := rfl
theorem kThen_rt  : kThen b (.rt d) st = some (.rt d, st) := rfl
theorem kThen_bk  : kThen b (.bk env) st = some (.bk env, st) := rfl
theorem kThen_ct  : kThen b (.ct env) st = some (.ct env, st) := rfl
theorem sNil_eq  : sNil env st = some (.nx env, st) := rfl
def kAsg (i : Nat) (env : MEnv) (d : D) (st1 : Store) : Option (Out × Store) := some (.nx (env.set i (some d)), st1)
theorem sAsg_eq  : sAsg i m env st = bnd (m env st) (kAsg i env) := rfl
theorem kAsg_eq  : kAsg i env d st = some (.nx (env.set i (some d)), st) := rfl
def kDrop (env : MEnv) (_ : D) (st1 : Store) : Option (Out × Store) := some (.nx env, st1)
theorem sDrop_eq  : sDrop m env st = bnd (m env st) (kDrop env) := rfl
theorem kDrop_eq  : kDrop env d st = some (.nx env, st) := rfl
def kRet (d : D) (st1 : Store) : Option (Out × Store) := some (.rt d, st1)
theorem sRet_eq  : sRet m env st = bnd (m env st) kRet := rfl
theorem kRet_eq  : kRet d st = some (.rt d, st) := rfl
theorem sRetN_eq  : sRetN env st = some (.rt .non, st) := rfl
theorem sBreak_eq  : sBreak env st = some (.bk env, st) := rfl
theorem sCont_eq  : sCont env st = some (.ct env, st) := rfl
def kIf (a b : S) (env : MEnv) (p : Bool) (st1 : Store) : Option (Out × Store) := if p = true then a env st1 else b env st1
theorem sIf_eq  : sIf t a b env st = bnd (t env st) (kIf a b env) := rfl
theorem kIf_true  : kIf a b env true st = a env st := rfl
theorem kIf_false  : kIf a b env false st = b env st := rfl
def kTgt2 (env2 : MEnv) (st2 : Store) : Option (Out × Store) := some (.nx env2, st2)
def kTgt1 (g : G) (env : MEnv) (d : D) (st1 : Store) : Option (Out × Store) := bnd (g d env st1) kTgt2
theorem sTgt_eq  : sTgt m g1 env st = bnd (m env st) (kTgt1 g1 env) := rfl
theorem kTgt1_eq  : kTgt1 g1 env d st = bnd (g1 d env st) kTgt2 := rfl
theorem kTgt2_eq  : kTgt2 env st = some (.nx env, st) := rfl
def kPar2 (i j : Nat) (env : MEnv) (ds : List D) (st1 : Store) : Option (Out × Store) :=
  match ds with
  | [x, y] => some (.nx ((env.set i (some x)).set j (some y)), st1)
  | _ => none
theorem sPar_eq  : sPar i j ms env st = bnd (ms env st) (kPar2 i j env) := rfl
theorem kPar2_eq  : kPar2 i j env [x, y] st = some (.nx ((env.set i (some x)).set j (some y)), st) := rfl
def kPar3 (i j l : Nat) (env : MEnv) (ds : List D) (st1 : Store) : Option (Out × Store) :=
  match ds with
  | [x, y, z] => some (.nx (((env.set i (some x)).set j (some y)).set l (some z)), st1)
  | _ => none
theorem sPar3_eq  : sPar3 i j k ms env st = bnd (ms env st) (kPar3 i j k env) := rfl
theorem kPar3_eq  : kPar3 i j k env [x, y, z] st = some (.nx (((env.set i (some x)).set j (some y)).set k (some z)), st) := rfl
def kFor (g : G) (b : S) (env : MEnv) (ds : List D) (st1 : Store) : Option (Out × Store) := forL g b ds env st1
theorem sFor_eq {mi : M (List D)} : sFor mi g1 b env st = bnd (mi env st) (kFor g1 b env) := rfl
theorem kFor_eq  : kFor g1 b env ds st = forL g1 b ds env st := rfl
def kAug1 (i : Nat) (f : O2) (x : D) (env : MEnv) (y : D) (st1 : Store) : Option (Out × Store) := bnd (ret1 (f x y st1) st1) (kAsg i env)
def kAug (i : Nat) (f : O2) (m : M D) (env : MEnv) (st : Store) (o : Option (Option D)) : Option (Out × Store) :=
  match o with
  | some (some x) => bnd (m env st) (kAug1 i f x env)
  | _ => none
theorem sAug_eq  : sAug i f m env st = kAug i f m env st env[i]? := by
  unfold sAug kAug
  cases env[i]? with
  | none => rfl
  | some o =>
    cases o with
    | none => rfl
    | some x =>
      show bnd (m env st) _ = bnd (m env st) _
      congr 1
      funext y st1
      unfold kAug1
      cases f x y st1 <;> rfl
theorem kAug_eq  : kAug i f m env st (some (some x)) = bnd (m env st) (kAug1 i f x env) := rfl
theorem kAug1_eq  : kAug1 i f x env y st = bnd (ret1 (f x y st) st) (kAsg i env) := rfl
def kGot (st : Store) (o : Option (Option D)) : Option (D × Store) :=
  match o with
  | some (some d) => some (d, st)
  | _ => none
theorem mV_eq  : mV i env st = kGot st env[i]? := rfl
theorem kGot_eq  : kGot st (some (some d)) = some (d, st) := rfl
theorem mC_eq  : mC d env st = some (d, st) := rfl
def kOp2 (f : O2) (x y : D) (st2 : Store) : Option (D × Store) := ret1 (f x y st2) st2
def kOp1 (f : O2) (mb : M D) (env : MEnv) (x : D) (st1 : Store) : Option (D × Store) := bnd (mb env st1) (kOp2 f x)
theorem mOp_eq  : mOp f ma mb env st = bnd (ma env st) (kOp1 f mb env) := rfl
theorem kOp1_eq  : kOp1 f mb env x st = bnd (mb env st) (kOp2 f x) := rfl
theorem kOp2_eq  : kOp2 f x y st = ret1 (f x y st) st := rfl
def kB (d : D) (st1 : Store) : Option (Bool × Store) :=
  match d with
  | .bl b => some (b, st1)
  | _ => none
theorem mTB_eq  : mTB m env st = bnd (m env st) kB := rfl
theorem kB_eq  : kB (.bl p) st = some (p, st) := rfl
def kAnd (u : M Bool) (env : MEnv) (p : Bool) (st1 : Store) : Option (Bool × Store) := if p = true then u env st1 else some (false, st1)
def kOr (u : M Bool) (env : MEnv) (p : Bool) (st1 : Store) : Option (Bool × Store) := if p = true then some (true, st1) else u env st1
def kNot (p : Bool) (st1 : Store) : Option (Bool × Store) := some (!p, st1)
theorem mAnd_eq  : mAnd t u env st = bnd (t env st) (kAnd u env) := rfl
theorem kAnd_true  : kAnd u env true st = u env st := rfl
theorem kAnd_false  : kAnd u env false st = some (false, st) := rfl
theorem mOr_eq  : mOr t u env st = bnd (t env st) (kOr u env) := rfl
theorem kOr_true  : kOr u env true st = some (true, st) := rfl
theorem kOr_false  : kOr u env false st = u env st := rfl
theorem mNot_eq  : mNot t env st = bnd (t env st) kNot := rfl
theorem kNot_eq  : kNot p st = some (!p, st) := rfl
def kIte {α : Type} (a b : M α) (env : MEnv) (p : Bool) (st1 : Store) : Option (α × Store) := if p = true then a env st1 else b env st1
theorem mIte_eq {α : Type} {x y : M α} : mIte t x y env st = bnd (t env st) (kIte x y env) := rfl
theorem kIte_true {α : Type} {x y : M α} : kIte x y env true st = x env st := rfl
theorem kIte_false {α : Type} {x y : M α} : kIte x y env false st = y env st := rfl
def kAndV (mb : M D) (env : MEnv) (p : Bool) (st1 : Store) : Option (D × Store) := if p = true then mb env st1 else some (.bl false, st1)
def kOrV (mb : M D) (env : MEnv) (p : Bool) (st1 : Store) : Option (D × Store) := if p = true then some (.bl true, st1) else mb env st1
def kNotV (p : Bool) (st1 : Store) : Option (D × Store) := some (.bl (!p), st1)
theorem mAndV_eq  : mAndV ma mb env st = bnd (mTB ma env st) (kAndV mb env) := rfl
theorem kAndV_true  : kAndV mb env true st = mb env st := rfl
theorem kAndV_false  : kAndV mb env false st = some (.bl false, st) := rfl
theorem mOrV_eq  : mOrV ma mb env st = bnd (mTB ma env st) (kOrV mb env) := rfl
theorem kOrV_true  : kOrV mb env true st = some (.bl true, st) := rfl
theorem kOrV_false  : kOrV mb env false st = mb env st := rfl
theorem mNotV_eq  : mNotV ma env st = bnd (mTB ma env st) kNotV := rfl
theorem kNotV_eq  : kNotV p st = some (.bl (!p), st) := rfl
theorem mNil_eq  : mNil env st = some ([], st) := rfl
def kCons2 (x : D) (xs : List D) (st2 : Store) : Option (List D × Store) := some (x :: xs, st2)
def kCons1 (r : M (List D)) (env : MEnv) (x : D) (st1 : Store) : Option (List D × Store) := bnd (r env st1) (kCons2 x)
theorem mCons_eq  : mCons m ms env st = bnd (m env st) (kCons1 ms env) := rfl
theorem kCons1_eq  : kCons1 ms env x st = bnd (ms env st) (kCons2 x) := rfl
theorem kCons2_eq  : kCons2 x xs st = some (x :: xs, st) := rfl
def kTup (xs : List D) (st1 : Store) : Option (D × Store) := if xs.length ≤ 1000 then some (.tup xs, st1) else none
def kLst (xs : List D) (st1 : Store) : Option (List D × Store) := if xs.length ≤ 1000 then some (xs, st1) else none
theorem mTup_eq  : mTup ms env st = bnd (ms env st) kTup := rfl
theorem kTup_eq (h : xs.length ≤ 1000) : kTup xs st = some (.tup xs, st) := if_pos h
theorem mLst_eq  : mLst ms env st = bnd (ms env st) kLst := rfl
theorem kLst_eq (h : xs.length ≤ 1000) : kLst xs st = some (xs, st) := if_pos h
def kFrz (xs : List D) (st1 : Store) : Option (D × Store) := some (.lst xs, st1)
def kMut (xs : List D) (st1 : Store) : Option (D × Store) := some (.loc st1.length, st1 ++ [.lst xs])
theorem mFrz_eq  : mFrz ms env st = bnd (ms env st) kFrz := rfl
theorem kFrz_eq  : kFrz xs st = some (.lst xs, st) := rfl
theorem mMut_eq  : mMut ms env st = bnd (ms env st) kMut := rfl
theorem kMut_eq  : kMut xs st = some (.loc st.length, st ++ [.lst xs]) := rfl
theorem mCall_eq {F : Fn} : mCall F ms env st = bnd (ms env st) F := rfl
def kCB (c : OC) (xs : List D) (st1 : Store) : Option (D × Store) := ret1 (c xs st1) st1
def kCBL (c : OL) (xs : List D) (st1 : Store) : Option (List D × Store) := ret1 (c xs st1) st1
theorem mCB_eq  : mCB c ms env st = bnd (ms env st) (kCB c) := rfl
theorem kCB_eq  : kCB c xs st = ret1 (c xs st) st := rfl
theorem mCBL_eq {c : OL} : mCBL c ms env st = bnd (ms env st) (kCBL c) := rfl
theorem kCBL_eq {c : OL} : kCBL c xs st = ret1 (c xs st) st := rfl
def kTr (x : D) (st1 : Store) : Option (Bool × Store) := ret1 (truD x st1) st1
theorem mTr_eq  : mTr m env st = bnd (m env st) kTr := rfl
theorem kTr_eq  : kTr x st = ret1 (truD x st) st := rfl
def kNeg (x : D) (st1 : Store) : Option (D × Store) :=
  match x with
  | .int i => some (.int (-i), st1)
  | _ => none
theorem mNeg_eq  : mNeg m env st = bnd (m env st) kNeg := rfl
theorem kNeg_eq  : kNeg (.int v) st = some (.int (-v), st) := rfl
def kChn (g : O2) (mc : M D) (env : MEnv) (y : D) (st2 : Store) (o : Option D) : Option (D × Store) :=
  match o with
  | some (.bl true) => bnd (mc env st2) (kOp2 g y)
  | some (.bl false) => some (.bl false, st2)
  | _ => none
def kChn2 (f g : O2) (mc : M D) (env : MEnv) (x y : D) (st2 : Store) : Option (D × Store) := kChn g mc env y st2 (f x y st2)
def kChn1 (f g : O2) (mb mc : M D) (env : MEnv) (x : D) (st1 : Store) : Option (D × Store) := bnd (mb env st1) (kChn2 f g mc env x)
theorem mChain_eq  : mChain f g ma mb mc env st = bnd (ma env st) (kChn1 f g mb mc env) := rfl
theorem kChn1_eq  : kChn1 f g mb mc env x st = bnd (mb env st) (kChn2 f g mc env x) := rfl
theorem kChn2_eq  : kChn2 f g mc env x y st = kChn g mc env y st (f x y st) := rfl
theorem kChn_true  : kChn g mc env y st (some (.bl true)) = bnd (mc env st) (kOp2 g y) := rfl
theorem kChn_false  : kChn g mc env y st (some (.bl false)) = some (.bl false, st) := rfl
theorem gN_eq  : gN i d env st = some (env.set i (some d), st) := rfl
theorem gsN_eq  : gsN [] env st = some (env, st) := rfl
def kGs (gs : Gs) (ds : List D) (env1 : MEnv) (st1 : Store) : Option (MEnv × Store) := gs ds env1 st1
theorem gsC_eq  : gsC g1 gs (d :: ds) env st = bnd (g1 d env st) (kGs gs ds) := rfl
theorem kGs_eq  : kGs gs ds env st = gs ds env st := rfl
theorem gT_eq (h : ds.length = n) : gT n gs (.tup ds) env st = gs ds env st := if_pos h
theorem gTp_eq (h : ds.length = n) : gT n gs (.ptl ds) env st = gs ds env st := if_pos h
def kSetE (env : MEnv) (o : Option Store) : Option (MEnv × Store) :=
  match o with
  | some st3 => some (env, st3)
  | none => none
def kSet2 (env : MEnv) (d o i : D) (st2 : Store) : Option (MEnv × Store) := kSetE env (setO o i d st2)
def kSet1 (mi : M D) (env : MEnv) (d o : D) (st1 : Store) : Option (MEnv × Store) := bnd (mi env st1) (kSet2 env d o)
theorem gSet_eq  : gSet mo mi d env st = bnd (mo env st) (kSet1 mi env d) := rfl
theorem kSet1_eq  : kSet1 mi env d x st = bnd (mi env st) (kSet2 env d x) := rfl
theorem kSet2_eq  : kSet2 env d x y st = kSetE env (setO x y d st) := rfl
theorem kSetE_eq {st3 : Store} : kSetE env (some st3) = some (env, st3) := rfl
def setL (n : Nat) (i v : D) (st : Store) (o : Option D) : Option Store :=
  match o with
  | some (.lst l) => match i with
      | .int k => match ixN l.length k with
        | some j => some (st.set n (.lst (l.set j v)))
        | none => none
      | _ => none
  | some (.dic l) => match keyD i with
      | some k => @ite _ (l.length < 1000000) (Classical.propDecidable _) (some (st.set n (.dic (putD l k v)))) none
      | none => none
  | _ => none
theorem setO_eq  : setO (.loc n) x d st = setL n x d st st[n]? := rfl
theorem ixN_nat {n k : Nat} (h : k < n) : ixN n (k : Int) = some k := by
  unfold ixN
  rw [if_pos (by omega), if_pos (by omega)]
  simp
theorem setL_nat (h : k < l.length) : setL n (.int (k : Int)) d st (some (.lst l)) = some (st.set n (.lst (l.set k d))) := by
  unfold setL
  simp only [ixN_nat h]
theorem setL_lit (h : k < l.length) : setL n (.int (no_index (OfNat.ofNat k))) d st (some (.lst l)) = some (st.set n (.lst (l.set k d))) := setL_nat h
theorem setL_str {l : List (Key × D)} (h : l.length < 1000000) : setL n (.str r) d st (some (.dic l)) = some (st.set n (.dic (putD l (.inr r) d))) := if_pos h
def kMt3 (n : Nat) (st2 : Store) (o : Option (D × List D)) : Option (D × Store) :=
  match o with
  | some (dr, ds') => some (dr, st2.set n (.lst ds'))
  | none => none
def kMt2' (f : OM) (n : Nat) (xs : List D) (st2 : Store) (o : Option D) : Option (D × Store) :=
  match o with
  | some (.lst ds) => kMt3 n st2 (f ds xs st2)
  | _ => none
def kMt2 (f : OM) (n : Nat) (xs : List D) (st2 : Store) : Option (D × Store) := kMt2' f n xs st2 st2[n]?
def kMt1' (f : OM) (ms : M (List D)) (env : MEnv) (n : Nat) (st1 : Store) (o : Option D) : Option (D × Store) :=
  match o with
  | some (.lst _) => bnd (ms env st1) (kMt2 f n)
  | _ => none
def kMt1 (f : OM) (ms : M (List D)) (env : MEnv) (x : D) (st1 : Store) : Option (D × Store) :=
  match x with
  | .loc n => kMt1' f ms env n st1 st1[n]?
  | _ => none
theorem mMt_eq {f : OM} : mMt f mo ms env st = bnd (mo env st) (kMt1 f ms env) := by
  unfold mMt
  congr 1
  funext x st1
  unfold kMt1 isLoc
  cases x <;> try rfl
  rename_i n
  simp only
  unfold kMt1'
  cases h : st1[n]? with
  | none => rfl
  | some d =>
    cases d <;> first
      | rfl
      | (simp only
         congr 1
         funext xs st2
         unfold kMt2 kMt2' kMt3
         cases h2 : st2[n]? with
         | none => rfl
         | some d2 =>
           cases d2 <;> try rfl
           rename_i ds
           simp only
           cases f ds xs st2 <;> rfl)
theorem kMt1_eq {f : OM} : kMt1 f ms env (.loc n) st = kMt1' f ms env n st st[n]? := rfl
theorem kMt1'_eq {f : OM} : kMt1' f ms env n st (some (.lst l)) = bnd (ms env st) (kMt2 f n) := rfl
theorem kMt2_eq {f : OM} : kMt2 f n xs st = kMt2' f n xs st st[n]? := rfl
theorem kMt2'_eq {f : OM} : kMt2' f n xs st (some (.lst ds)) = kMt3 n st (f ds xs st) := rfl
theorem kMt3_eq  : kMt3 n st (some (d, ds)) = some (d, st.set n (.lst ds)) := rfl
theorem fApp_eq (h : ds.length < 1000000) : fApp ds [x] st = some (.non, ds ++ [x]) := if_pos h
def kPop (ds : List D) (o : Option D) : Option (D × List D) :=
  match o with
  | some d => some (d, ds.dropLast)
  | none => none
theorem fPop_eq  : fPop ds [] st = kPop ds ds.getLast? := by
  unfold fPop kPop
  rw [List.getLast?_eq_getElem?]
  all_goals (cases ds[ds.length - 1]? <;> rfl)
theorem kPop_eq  : kPop ds (some d) = some (d, ds.dropLast) := rfl
theorem getLast_snoc  : (ds ++ [d]).getLast? = some d := by simp
theorem dropLast_snoc  : (ds ++ [d]).dropLast = ds := by simp
def kExt (ds : List D) (o : Option (List D)) : Option (D × List D) :=
  match o with
  | some l => @ite _ (ds.length + l.length ≤ 1000000) (Classical.propDecidable _) (some (.non, ds ++ l)) none
  | none => none
theorem fExt_eq  : fExt ds [x] st = kExt ds (lstD x st) := rfl
theorem kExt_eq (h : ds.length + l.length ≤ 1000000) : kExt ds (some l) = some (.non, ds ++ l) := if_pos h
theorem oAdd_int  : oAdd (.int v) (.int w) st = some (.int (v + w)) := rfl
theorem oAdd_str (h : r.length + s.length ≤ 1000000) : oAdd (.str r) (.str s) st = some (.str (r ++ s)) := if_pos h
theorem oAdd_tup (h : ds.length + l.length ≤ 1000000) : oAdd (.tup ds) (.tup l) st = some (.tup (ds ++ l)) := if_pos h
def kCat (o p : Option (List D)) : Option D :=
  match o, p with
  | some a, some b => @ite _ (a.length + b.length ≤ 1000000) (Classical.propDecidable _) (some (.lst (a ++ b))) none
  | _, _ => none
theorem oAdd_lst  : oAdd (.lst ds) y st = kCat (some ds) (lstD y st) := rfl
theorem oAdd_loc  : oAdd (.loc n) y st = kCat (lstD (.loc n) st) (lstD y st) := rfl
theorem kCat_eq (h : ds.length + l.length ≤ 1000000) : kCat (some ds) (some l) = some (.lst (ds ++ l)) := if_pos h
def isLst (o : Option D) : Option (List D) :=
  match o with
  | some (.lst l) => some l
  | _ => none
theorem lstD_lst  : lstD (.lst l) st = some l := rfl
theorem lstD_loc  : lstD (.loc n) st = isLst st[n]? := rfl
theorem isLst_eq  : isLst (some (.lst l)) = some l := rfl
theorem seqD_tup  : seqD (.tup l) st = some l := rfl
theorem seqD_lst  : seqD (.lst l) st = some l := rfl
theorem seqD_rol  : seqD (.rol l) st = some l := rfl
theorem seqD_loc  : seqD (.loc n) st = isLst st[n]? := rfl
def isDic (o : Option D) : Option (List (Key × D)) :=
  match o with
  | some (.dic l) => some l
  | _ => none
theorem dicD_dic {l : List (Key × D)} : dicD (.dic l) st = some l := rfl
theorem dicD_loc  : dicD (.loc n) st = isDic st[n]? := rfl
theorem isDic_eq {l : List (Key × D)} : isDic (some (.dic l)) = some l := rfl
theorem oSub_int  : oI fSub (.int v) (.int w) st = some (.int (v - w)) := rfl
theorem oMul_int (h1 : Fits v = true) (h2 : Fits w = true) : oI fMul (.int v) (.int w) st = some (.int (v * w)) := by
  unfold oI fMul
  simp only [h1, h2, and_self, if_true]
theorem oDiv_int (h1 : 0 < w) (h2 : Fits w = true) : oI fDiv (.int v) (.int w) st = some (.int (v / w)) := by
  unfold oI fDiv
  have : w ≠ 0 := by omega
  simp only [h2, this, ne_eq, not_false_eq_true, and_self, if_true]
  rw [Int.fdiv_eq_ediv_of_nonneg _ (by omega)]
theorem oDiv_any (h1 : w ≠ 0) (h2 : Fits w = true) : oI fDiv (.int v) (.int w) st = some (.int (v.fdiv w)) := by
  unfold oI fDiv
  simp only [h2, h1, ne_eq, not_false_eq_true, and_self, if_true]
theorem oMod_int (h1 : 0 < w) : oI fMod (.int v) (.int w) st = some (.int (v % w)) := by
  unfold oI fMod
  have : w ≠ 0 := by omega
  simp only [this, ne_eq, not_false_eq_true, if_true]
  rw [Int.fmod_eq_emod_of_nonneg _ (by omega)]
theorem oPow_lit (h : 0 ≤ w ∧ w ≤ 1000000 ∧ v.natAbs < 18446744073709551616) : oI fPow (.int v) (.int w) st = some (.int (v ^ w.toNat)) := by
  unfold oI fPow
  have h2 : v.natAbs < 2 ^ 64 := h.2.2
  simp only [h.1, h.2.1, h2, and_self, if_true]
theorem oI_plus  : oI (fun i j => some (i + j)) (.int v) (.int w) st = some (.int (v + w)) := rfl
theorem oI_minus  : oI (fun i j => some (i - j)) (.int v) (.int w) st = some (.int (v - w)) := rfl
theorem oLt_int  : oC cLt (.int v) (.int w) st = some (.bl (decide (v < w))) := rfl
theorem oLe_int  : oC cLe (.int v) (.int w) st = some (.bl (decide (v ≤ w))) := rfl
theorem oGt_int  : oC cGt (.int v) (.int w) st = some (.bl (decide (w < v))) := rfl
theorem oGe_int  : oC cGe (.int v) (.int w) st = some (.bl (decide (w ≤ v))) := rfl
theorem oEq_int  : oEq (.int v) (.int w) st = some (.bl ((v == w))) := rfl
theorem oEq_str  : oEq (.str r) (.str s) st = some (.bl ((r == s))) := rfl
theorem oEq_bl {q : Bool} : oEq (.bl p) (.bl q) st = some (.bl ((p == q))) := rfl
theorem oNe_int  : oNe (.int v) (.int w) st = some (.bl (!(v == w))) := rfl
theorem oNe_str  : oNe (.str r) (.str s) st = some (.bl (!(r == s))) := rfl
theorem oNe_bl {q : Bool} : oNe (.bl p) (.bl q) st = some (.bl (!(p == q))) := rfl
theorem oIs_non  : oIs x .non st = some (.bl (isN x)) := rfl
theorem oIsNot_non  : oIsNot x .non st = some (.bl (!isN x)) := rfl
theorem isN_non  : isN .non = true := rfl
theorem isN_int  : isN (.int v) = false := rfl
theorem isN_bl  : isN (.bl p) = false := rfl
theorem isN_str  : isN (.str r) = false := rfl
theorem isN_tup  : isN (.tup l) = false := rfl
theorem isN_lst  : isN (.lst l) = false := rfl
theorem isN_loc  : isN (.loc n) = false := rfl
theorem atI_nat' {l : List D} {k : Nat} : atI l (k : Int) = l[k]? := by
  unfold atI ixN
  by_cases h : k < l.length
  · rw [if_pos (by omega), if_pos (by omega)]
    simp
  · rw [if_pos (by omega), if_neg (by omega)]
    simp
    omega
theorem atI_lit  : atI l (no_index (OfNat.ofNat k)) = l[k]? := atI_nat'
theorem atI_natc  : atI l (k : Int) = l[k]? := atI_nat'
theorem atI_neg1  : atI l (-1) = l.getLast? := by
  cases l with
  | nil => rfl
  | cons x r =>
    have h := atI_last ((x :: r).dropLast) ((x :: r).getLast (List.cons_ne_nil x r))
    rw [List.dropLast_concat_getLast] at h
    rw [h, List.getLast?_eq_some_getLast (List.cons_ne_nil x r)]
def ixL (y : D) (o : Option D) : Option D :=
  match o, y with
  | some (.lst l), .int i => atI l i
  | some (.dic l), .int i => lkD l (.inl i)
  | some (.dic l), .str s => lkD l (.inr s)
  | _, _ => none
theorem ixO_tup  : ixO (.tup l) (.int v) st = atI l v := rfl
theorem ixO_lst  : ixO (.lst l) (.int v) st = atI l v := rfl
theorem ixO_dics {l : List (Key × D)} : ixO (.dic l) (.str r) st = lkD l (.inr r) := rfl
theorem ixO_dici {l : List (Key × D)} : ixO (.dic l) (.int v) st = lkD l (.inl v) := rfl
theorem ixO_locs  : ixO (.loc n) (.str r) st = ixL (.str r) st[n]? := by
  unfold ixO dicD ixL
  cases h : st[n]? with
  | none => simp only [h]
  | some d => cases d <;> simp only [h]
theorem ixO_loci  : ixO (.loc n) (.int v) st = ixL (.int v) st[n]? := by
  unfold ixO seqD dicD ixL
  cases h : st[n]? with
  | none => simp only [h]
  | some d => cases d <;> simp only [h]
theorem ixL_lst  : ixL (.int v) (some (.lst l)) = atI l v := rfl
theorem ixL_dics {l : List (Key × D)} : ixL (.str r) (some (.dic l)) = lkD l (.inr r) := rfl
theorem ixL_dici {l : List (Key × D)} : ixL (.int v) (some (.dic l)) = lkD l (.inl v) := rfl
def lenL (o : Option D) : Option D :=
  match o with
  | some (.lst l) => some (.int l.length)
  | some (.dic l) => some (.int l.length)
  | _ => none
theorem cLen_tup  : cLen [.tup l] st = some (.int l.length) := rfl
theorem cLen_lst  : cLen [.lst l] st = some (.int l.length) := rfl
theorem cLen_dic {l : List (Key × D)} : cLen [.dic l] st = some (.int l.length) := rfl
theorem cLen_loc  : cLen [.loc n] st = lenL st[n]? := by
  unfold cLen seqD dicD lenL
  cases h : st[n]? with
  | none => simp only [h]
  | some d => cases d <;> simp only [h]
theorem lenL_lst  : lenL (some (.lst l)) = some (.int l.length) := rfl
theorem lenL_dic {l : List (Key × D)} : lenL (some (.dic l)) = some (.int l.length) := rfl
theorem cInt_int  : cInt [.int v] st = some (.int v) := rfl
theorem cInt_bl  : cInt [.bl p] st = some (.int (if p then 1 else 0)) := rfl
theorem fAbs_eq (i : Int) : fAbs i = (i.natAbs : Int) := by unfold fAbs; split <;> omega
theorem cAbs_int  : cInt1 fAbs [.int v] st = some (.int v.natAbs) := by
  show some (D.int (fAbs v)) = _
  rw [fAbs_eq]
theorem cTup_tup  : cTup [.tup l] st = some (.tup l) := rfl
theorem cTup_lst  : cTup [.lst l] st = some (.tup l) := rfl
def tupL (o : Option (List D)) : Option D :=
  match o with
  | some l => some (.tup l)
  | none => none
theorem cTup_loc  : cTup [.loc n] st = tupL (isLst st[n]?) := rfl
theorem tupL_eq  : tupL (some l) = some (.tup l) := rfl
theorem cList_eq  : cList [x] st = seqD x st := rfl
def blsA (f : List Bool → D) (o : Option (List Bool)) : Option D :=
  match o with
  | some bs => some (f bs)
  | none => none
theorem cBls_lst {f : List Bool → D} : cBls f [.lst l] st = blsA f (blsD l) := rfl
theorem blsA_eq {f : List Bool → D} {bs : List Bool} : blsA f (some bs) = some (f bs) := rfl
theorem fAll_eq {bs : List Bool} : fAll bs = .bl (bs.all id) := rfl
theorem fAny_eq {bs : List Bool} : fAny bs = .bl (bs.any id) := rfl
theorem blsD_map {α : Type} (h : α → Bool) : ∀ l : List α, blsD (l.map fun x => .bl (h x)) = some (l.map h)
  | [] => rfl
  | x :: l => by
    show (match blsD (l.map fun x => .bl (h x)) with | some r => some (h x :: r) | none => none) = _
    rw [blsD_map h l]
    rfl
def truL (o : Option D) : Option Bool :=
  match o with
  | some (.lst l) => some (!l.isEmpty)
  | some (.dic l) => some (!l.isEmpty)
  | _ => none
theorem truD_lst  : truD (.lst l) st = some (!l.isEmpty) := rfl
theorem truD_tup  : truD (.tup l) st = some (!l.isEmpty) := rfl
theorem truD_bl  : truD (.bl p) st = some p := rfl
theorem truD_int  : truD (.int v) st = some (v != 0) := rfl
theorem truD_non  : truD .non st = some false := rfl
theorem truD_loc  : truD (.loc n) st = truL st[n]? := rfl
theorem truL_lst  : truL (some (.lst l)) = some (!l.isEmpty) := rfl
theorem truL_dic {l : List (Key × D)} : truL (some (.dic l)) = some (!l.isEmpty) := rfl
theorem itD_tup  : itD (.tup l) = some l := rfl
theorem itD_lst  : itD (.lst l) = some l := rfl
def kIt (d : D) (st1 : Store) : Option (List D × Store) := ret1 (itD d) st1
theorem miSeq_eq  : miSeq m env st = bnd (m env st) kIt := rfl
theorem kIt_eq  : kIt d st = ret1 (itD d) st := rfl
def kR1 (ds : List D) (st1 : Store) : Option (List D × Store) :=
  match ds with
  | [.int j] => @ite _ (-(2 ^ 32) < j ∧ j < 2 ^ 32) (Classical.propDecidable _) (some (rngL 0 j.toNat, st1)) none
  | _ => none
def kR2 (ds : List D) (st1 : Store) : Option (List D × Store) :=
  match ds with
  | [.int i, .int j] => @ite _ ((-(2 ^ 32) < i ∧ i < 2 ^ 32) ∧ -(2 ^ 32) < j ∧ j < 2 ^ 32) (Classical.propDecidable _) (some (rngL i (j - i).toNat, st1)) none
  | _ => none
theorem miR1_eq  : miR1 ms env st = bnd (ms env st) kR1 := rfl
theorem kR1_eq (h : 0 ≤ v) (h2 : v < 4294967296) : kR1 [.int v] st = some (rngL 0 v.toNat, st) := by
  unfold kR1
  simp only
  rw [if_pos (by omega)]
theorem miR2_eq  : miR2 ms env st = bnd (ms env st) kR2 := rfl
theorem kR2_eq (h : -4294967296 < v) (h1 : v < 4294967296) (h2 : -4294967296 < w) (h3 : w < 4294967296) : kR2 [.int v, .int w] st = some (rngL v (w - v).toNat, st) := by
  unfold kR2
  simp only
  rw [if_pos (by omega)]
def kSl3 (x : D) (lo hi : Option Int) (st3 : Store) : Option (D × Store) := ret1 (slD x lo hi st3) st3
def kSl2 (mh : MO) (env : MEnv) (x : D) (lo : Option Int) (st2 : Store) : Option (D × Store) := bnd (mh env st2) (kSl3 x lo)
def kSl1 (ml mh : MO) (env : MEnv) (x : D) (st1 : Store) : Option (D × Store) := bnd (ml env st1) (kSl2 mh env x)
def kPart (x : D) (st1 : Store) : Option (Option Int × Store) :=
  match x with
  | .int i => some (some i, st1)
  | _ => none
def slA (lo hi : Option Int) (o : Option (List D)) : Option D :=
  match o with
  | some l => some (.lst (cutD l lo hi))
  | none => none
theorem mSl_eq {ml mh : MO} : mSl ma ml mh env st = bnd (ma env st) (kSl1 ml mh env) := rfl
theorem kSl1_eq {ml mh : MO} : kSl1 ml mh env x st = bnd (ml env st) (kSl2 mh env x) := rfl
theorem kSl2_eq {mh : MO} {lo : Option Int} : kSl2 mh env x lo st = bnd (mh env st) (kSl3 x lo) := rfl
theorem kSl3_eq {lo hi : Option Int} : kSl3 x lo hi st = ret1 (slD x lo hi st) st := rfl
theorem mNoP_eq  : mNoP env st = some (none, st) := rfl
theorem mPart_eq  : mPart m env st = bnd (m env st) kPart := rfl
theorem kPart_eq  : kPart (.int v) st = some (some v, st) := rfl
theorem slD_tup {lo hi : Option Int} : slD (.tup l) lo hi st = some (.tup (cutD l lo hi)) := rfl
theorem slD_lst {lo hi : Option Int} : slD (.lst l) lo hi st = some (.lst (cutD l lo hi)) := rfl
theorem slD_rol {lo hi : Option Int} : slD (.rol l) lo hi st = some (.lst (cutD l lo hi)) := rfl
theorem slD_loc {lo hi : Option Int} : slD (.loc n) lo hi st = slA lo hi (isLst st[n]?) := rfl
theorem slA_eq {lo hi : Option Int} : slA lo hi (some l) = some (.lst (cutD l lo hi)) := rfl
def kIsi2 (cs : List String) (st1 : Store) (o : Option String) : Option (D × Store) :=
  match o with
  | some t => match isiL t cs with
    | some b => some (.bl b, st1)
    | none => none
  | none => none
def kIsi (cs : List String) (x : D) (st1 : Store) : Option (D × Store) := kIsi2 cs st1 (tyD x st1)
theorem mIsi_eq {cs : List String} : mIsi cs m env st = bnd (m env st) (kIsi cs) := rfl
theorem kIsi_eq {cs : List String} : kIsi cs x st = kIsi2 cs st (tyD x st) := rfl
theorem kIsi2_of {cs : List String} {t : String} {b : Bool} (h : isiL t cs = some b) : kIsi2 cs st (some t) = some (.bl b, st) := by
  unfold kIsi2
  simp only [h]
theorem tyD_non  : tyD (.non ) st = some "NoneType" := rfl
theorem tyD_bl  : tyD (.bl p) st = some "bool" := rfl
theorem tyD_int  : tyD (.int v) st = some "int" := rfl
theorem tyD_str  : tyD (.str r) st = some "str" := rfl
theorem tyD_tup  : tyD (.tup l) st = some "tuple" := rfl
theorem tyD_lst  : tyD (.lst l) st = some "list" := rfl
theorem isi_NoneType_tuple  : kIsi2 ["tuple"] st (some "NoneType") = some (.bl false, st) := kIsi2_of (by decide +kernel)
theorem isi_NoneType_list  : kIsi2 ["list"] st (some "NoneType") = some (.bl false, st) := kIsi2_of (by decide +kernel)
theorem isi_NoneType_int  : kIsi2 ["int"] st (some "NoneType") = some (.bl false, st) := kIsi2_of (by decide +kernel)
theorem isi_NoneType_str  : kIsi2 ["str"] st (some "NoneType") = some (.bl false, st) := kIsi2_of (by decide +kernel)
theorem isi_NoneType_bool  : kIsi2 ["bool"] st (some "NoneType") = some (.bl false, st) := kIsi2_of (by decide +kernel)
theorem isi_NoneType_int_str  : kIsi2 ["int", "str"] st (some "NoneType") = some (.bl false, st) := kIsi2_of (by decide +kernel)
theorem isi_bool_tuple  : kIsi2 ["tuple"] st (some "bool") = some (.bl false, st) := kIsi2_of (by decide +kernel)
theorem isi_bool_list  : kIsi2 ["list"] st (some "bool") = some (.bl false, st) := kIsi2_of (by decide +kernel)
theorem isi_bool_int  : kIsi2 ["int"] st (some "bool") = some (.bl true, st) := kIsi2_of (by decide +kernel)
theorem isi_bool_str  : kIsi2 ["str"] st (some "bool") = some (.bl false, st) := kIsi2_of (by decide +kernel)
theorem isi_bool_bool  : kIsi2 ["bool"] st (some "bool") = some (.bl true, st) := kIsi2_of (by decide +kernel)
theorem isi_bool_int_str  : kIsi2 ["int", "str"] st (some "bool") = some (.bl true, st) := kIsi2_of (by decide +kernel)
theorem isi_int_tuple  : kIsi2 ["tuple"] st (some "int") = some (.bl false, st) := kIsi2_of (by decide +kernel)
theorem isi_int_list  : kIsi2 ["list"] st (some "int") = some (.bl false, st) := kIsi2_of (by decide +kernel)
theorem isi_int_int  : kIsi2 ["int"] st (some "int") = some (.bl true, st) := kIsi2_of (by decide +kernel)
theorem isi_int_str  : kIsi2 ["str"] st (some "int") = some (.bl false, st) := kIsi2_of (by decide +kernel)
theorem isi_int_bool  : kIsi2 ["bool"] st (some "int") = some (.bl false, st) := kIsi2_of (by decide +kernel)
theorem isi_int_int_str  : kIsi2 ["int", "str"] st (some "int") = some (.bl true, st) := kIsi2_of (by decide +kernel)
theorem isi_str_tuple  : kIsi2 ["tuple"] st (some "str") = some (.bl false, st) := kIsi2_of (by decide +kernel)
theorem isi_str_list  : kIsi2 ["list"] st (some "str") = some (.bl false, st) := kIsi2_of (by decide +kernel)
theorem isi_str_int  : kIsi2 ["int"] st (some "str") = some (.bl false, st) := kIsi2_of (by decide +kernel)
theorem isi_str_str  : kIsi2 ["str"] st (some "str") = some (.bl true, st) := kIsi2_of (by decide +kernel)
theorem isi_str_bool  : kIsi2 ["bool"] st (some "str") = some (.bl false, st) := kIsi2_of (by decide +kernel)
theorem isi_str_int_str  : kIsi2 ["int", "str"] st (some "str") = some (.bl true, st) := kIsi2_of (by decide +kernel)
theorem isi_tuple_tuple  : kIsi2 ["tuple"] st (some "tuple") = some (.bl true, st) := kIsi2_of (by decide +kernel)
theorem isi_tuple_list  : kIsi2 ["list"] st (some "tuple") = some (.bl false, st) := kIsi2_of (by decide +kernel)
theorem isi_tuple_int  : kIsi2 ["int"] st (some "tuple") = some (.bl false, st) := kIsi2_of (by decide +kernel)
theorem isi_tuple_str  : kIsi2 ["str"] st (some "tuple") = some (.bl false, st) := kIsi2_of (by decide +kernel)
theorem isi_tuple_bool  : kIsi2 ["bool"] st (some "tuple") = some (.bl false, st) := kIsi2_of (by decide +kernel)
theorem isi_tuple_int_str  : kIsi2 ["int", "str"] st (some "tuple") = some (.bl false, st) := kIsi2_of (by decide +kernel)
theorem isi_list_tuple  : kIsi2 ["tuple"] st (some "list") = some (.bl false, st) := kIsi2_of (by decide +kernel)
theorem isi_list_list  : kIsi2 ["list"] st (some "list") = some (.bl true, st) := kIsi2_of (by decide +kernel)
theorem isi_list_int  : kIsi2 ["int"] st (some "list") = some (.bl false, st) := kIsi2_of (by decide +kernel)
theorem isi_list_str  : kIsi2 ["str"] st (some "list") = some (.bl false, st) := kIsi2_of (by decide +kernel)
theorem isi_list_bool  : kIsi2 ["bool"] st (some "list") = some (.bl false, st) := kIsi2_of (by decide +kernel)
theorem isi_list_int_str  : kIsi2 ["int", "str"] st (some "list") = some (.bl false, st) := kIsi2_of (by decide +kernel)
def dicA (o : Option (List (Key × D))) (st1 : Store) : Option (D × Store) :=
  match o with
  | some l => some (.dic l, st1)
  | none => none
def dicB (o : Option (List (Key × D))) (st1 : Store) : Option (D × Store) :=
  match o with
  | some l => some (.loc st1.length, st1 ++ [.dic l])
  | none => none
def kDicF (xs : List D) (st1 : Store) : Option (D × Store) := dicA (cDic xs st1) st1
def kDicM (xs : List D) (st1 : Store) : Option (D × Store) := dicB (cDic xs st1) st1
theorem mDicF_eq  : mDicF ms env st = bnd (ms env st) kDicF := rfl
theorem kDicF_eq  : kDicF xs st = dicA (cDic xs st) st := rfl
theorem mDicM_eq  : mDicM ms env st = bnd (ms env st) kDicM := rfl
theorem kDicM_eq  : kDicM xs st = dicB (cDic xs st) st := rfl
theorem dicA_eq {l : List (Key × D)} : dicA (some l) st = some (.dic l, st) := rfl
theorem dicB_eq {l : List (Key × D)} : dicB (some l) st = some (.loc st.length, st ++ [.dic l]) := rfl
theorem mDic0_eq  : mDic0 env st = some (.loc st.length, st ++ [.dic []]) := rfl
def kGet3 (z : D) (k : D) (o p : Option (List (Key × D))) (st3 : Store) : Option (D × Store) :=
  match o, p, keyD k with
  | some _, some l, some k => some ((lkD l k).getD z, st3)
  | _, _, _ => none
def kGet2b (x k : D) (st1 : Store) (z : D) (st3 : Store) : Option (D × Store) := kGet3 z k (dicD x st1) (dicD x st3) st3
def kGet2a (mx : M D) (env : MEnv) (x : D) (st1 : Store) (k : D) (st2 : Store) : Option (D × Store) := bnd (mx env st2) (kGet2b x k st1)
def kGet2 (mk mx : M D) (env : MEnv) (x : D) (st1 : Store) : Option (D × Store) := bnd (mk env st1) (kGet2a mx env x st1)
def kGet1a (x : D) (st1 : Store) (k : D) (st2 : Store) : Option (D × Store) := kGet3 .non k (dicD x st1) (dicD x st2) st2
def kGet1 (mk : M D) (env : MEnv) (x : D) (st1 : Store) : Option (D × Store) := bnd (mk env st1) (kGet1a x st1)
theorem mGet1_eq  : mGet1 mo mk env st = bnd (mo env st) (kGet1 mk env) := rfl
theorem kGet1_eq  : kGet1 mk env x st = bnd (mk env st) (kGet1a x st) := rfl
theorem kGet1a_eq {st1 : Store} : kGet1a x st1 y st = kGet3 .non y (dicD x st1) (dicD x st) st := rfl
theorem mGet2_eq  : mGet2 mo mk mx env st = bnd (mo env st) (kGet2 mk mx env) := rfl
theorem kGet2_eq  : kGet2 mk mx env x st = bnd (mk env st) (kGet2a mx env x st) := rfl
theorem kGet2a_eq {st1 : Store} : kGet2a mx env x st1 y st = bnd (mx env st) (kGet2b x y st1) := rfl
theorem kGet2b_eq {st1 : Store} : kGet2b x y st1 z st = kGet3 z y (dicD x st1) (dicD x st) st := rfl
theorem kGet3_str {l l' : List (Key × D)} : kGet3 z (.str r) (some l') (some l) st = some ((lkD l (.inr r)).getD z, st) := rfl
theorem kGet3_int {l l' : List (Key × D)} : kGet3 z (.int v) (some l') (some l) st = some ((lkD l (.inl v)).getD z, st) := rfl
def kForS (g : G) (b : S) (xs : List D) (o : Out) (st2 : Store) : Option (Out × Store) :=
  match o with
  | .nx env2 => forL g b xs env2 st2
  | .ct env2 => forL g b xs env2 st2
  | .bk env2 => some (.nx env2, st2)
  | .rt d => some (.rt d, st2)
def kForB (g : G) (b : S) (xs : List D) (env1 : MEnv) (st1 : Store) : Option (Out × Store) := bnd (b env1 st1) (kForS g b xs)
theorem forL_nil  : forL g1 b [] env st = some (.nx env, st) := rfl
theorem forL_cons  : forL g1 b (x :: xs) env st = bnd (g1 x env st) (kForB g1 b xs) := by
  rw [forL]
  rfl
theorem kForB_eq  : kForB g1 b xs env st = bnd (b env st) (kForS g1 b xs) := rfl
theorem kForS_nx  : kForS g1 b xs (.nx env) st = forL g1 b xs env st := rfl
theorem kForS_ct  : kForS g1 b xs (.ct env) st = forL g1 b xs env st := rfl
theorem kForS_bk  : kForS g1 b xs (.bk env) st = some (.nx env, st) := rfl
theorem kForS_rt  : kForS g1 b xs (.rt d) st = some (.rt d, st) := rfl
def kWhS (t : M Bool) (a : S) (n : Nat) (o : Out) (st2 : Store) : Option (Out × Store) :=
  match o with
  | .nx env1 => whN t a n env1 st2
  | .ct env1 => whN t a n env1 st2
  | .bk env1 => some (.nx env1, st2)
  | .rt d => some (.rt d, st2)
def kWh (t : M Bool) (a : S) (n : Nat) (env : MEnv) (p : Bool) (st1 : Store) : Option (Out × Store) := if p = true then bnd (a env st1) (kWhS t a n) else some (.nx env, st1)
theorem whN_succ  : whN t a (n + 1) env st = bnd (t env st) (kWh t a n env) := by
  rw [whN]
  rfl
theorem kWh_true  : kWh t a n env true st = bnd (a env st) (kWhS t a n) := rfl
theorem kWh_false  : kWh t a n env false st = some (.nx env, st) := rfl
theorem kWhS_nx  : kWhS t a n (.nx env) st = whN t a n env st := rfl
theorem kWhS_ct  : kWhS t a n (.ct env) st = whN t a n env st := rfl
theorem kWhS_bk  : kWhS t a n (.bk env) st = some (.nx env, st) := rfl
theorem kWhS_rt  : kWhS t a n (.rt d) st = some (.rt d, st) := rfl
def kLc4 (d : D) (r : List D) (st4 : Store) : Option (List D × Store) := some (d :: r, st4)
def kLc3 (g : G) (t : M Bool) (e : M D) (env : MEnv) (xs : List D) (d : D) (st3 : Store) : Option (List D × Store) := bnd (lcL g t e env xs st3) (kLc4 d)
def kLc2 (g : G) (t : M Bool) (e : M D) (env : MEnv) (xs : List D) (env1 : MEnv) (p : Bool) (st2 : Store) : Option (List D × Store) := if p = true then bnd (e env1 st2) (kLc3 g t e env xs) else lcL g t e env xs st2
def kLc1 (g : G) (t : M Bool) (e : M D) (env : MEnv) (xs : List D) (env1 : MEnv) (st1 : Store) : Option (List D × Store) := bnd (t env1 st1) (kLc2 g t e env xs env1)
def kLc (g : G) (t : M Bool) (e : M D) (env : MEnv) (ds : List D) (st1 : Store) : Option (List D × Store) := @ite _ (ds.length ≤ 1000000) (Classical.propDecidable _) (lcL g t e env ds st1) none
theorem mLc_eq {vs : List Nat} {mi : M (List D)} : mLc vs mi g1 t m env st = bnd (mi env st) (kLc g1 t m (wipeE env vs)) := rfl
theorem kLc_eq (h : ds.length ≤ 1000000) : kLc g1 t m env ds st = lcL g1 t m env ds st := if_pos h
theorem lcL_nil  : lcL g1 t m env [] st = some ([], st) := rfl
theorem lcL_cons  : lcL g1 t m env (x :: xs) st = bnd (g1 x env st) (kLc1 g1 t m env xs) := by
  rw [lcL]
  rfl
theorem kLc1_eq {env1 : MEnv} : kLc1 g1 t m env xs env1 st = bnd (t env1 st) (kLc2 g1 t m env xs env1) := rfl
theorem kLc2_true {env1 : MEnv} : kLc2 g1 t m env xs env1 true st = bnd (m env1 st) (kLc3 g1 t m env xs) := rfl
theorem kLc2_false {env1 : MEnv} : kLc2 g1 t m env xs env1 false st = lcL g1 t m env xs st := rfl
theorem kLc3_eq  : kLc3 g1 t m env xs d st = bnd (lcL g1 t m env xs st) (kLc4 d) := rfl
theorem kLc4_eq  : kLc4 d xs st = some (d :: xs, st) := rfl
theorem mYes_eq  : mYes env st = some (true, st) := rfl
theorem wipeE_nil  : wipeE env [] = env := rfl
theorem wipeE_cons {vs : List Nat} : wipeE env (i :: vs) = (wipeE env vs).set i none := rfl
theorem mFun_0  : mFun N 0 b [] st = endW (fin st) (b (List.replicate (N - 0) none) st) := rfl
theorem mFun_1 {x0 : D} : mFun N 1 b [x0] st = endW (fin st) (b (some x0 :: List.replicate (N - 1) none) st) := rfl
theorem mFun_2 {x0 x1 : D} : mFun N 2 b [x0, x1] st = endW (fin st) (b (some x0 :: some x1 :: List.replicate (N - 2) none) st) := rfl
theorem mFun_3 {x0 x1 x2 : D} : mFun N 3 b [x0, x1, x2] st = endW (fin st) (b (some x0 :: some x1 :: some x2 :: List.replicate (N - 3) none) st) := rfl
theorem mFun_4 {x0 x1 x2 x3 : D} : mFun N 4 b [x0, x1, x2, x3] st = endW (fin st) (b (some x0 :: some x1 :: some x2 :: some x3 :: List.replicate (N - 4) none) st) := rfl
theorem mFun_5 {x0 x1 x2 x3 x4 : D} : mFun N 5 b [x0, x1, x2, x3, x4] st = endW (fin st) (b (some x0 :: some x1 :: some x2 :: some x3 :: some x4 :: List.replicate (N - 5) none) st) := rfl
theorem mFun_6 {x0 x1 x2 x3 x4 x5 : D} : mFun N 6 b [x0, x1, x2, x3, x4, x5] st = endW (fin st) (b (some x0 :: some x1 :: some x2 :: some x3 :: some x4 :: some x5 :: List.replicate (N - 6) none) st) := rfl
theorem mFun_7 {x0 x1 x2 x3 x4 x5 x6 : D} : mFun N 7 b [x0, x1, x2, x3, x4, x5, x6] st = endW (fin st) (b (some x0 :: some x1 :: some x2 :: some x3 :: some x4 :: some x5 :: some x6 :: List.replicate (N - 7) none) st) := rfl
theorem mFun_8 {x0 x1 x2 x3 x4 x5 x6 x7 : D} : mFun N 8 b [x0, x1, x2, x3, x4, x5, x6, x7] st = endW (fin st) (b (some x0 :: some x1 :: some x2 :: some x3 :: some x4 :: some x5 :: some x6 :: some x7 :: List.replicate (N - 8) none) st) := rfl
theorem mFunL_0  : mFunL N 0 b [] st = endW (finL st) (b (List.replicate (N - 0) none) st) := rfl
theorem mFunL_1 {x0 : D} : mFunL N 1 b [x0] st = endW (finL st) (b (some x0 :: List.replicate (N - 1) none) st) := rfl
theorem mFunL_2 {x0 x1 : D} : mFunL N 2 b [x0, x1] st = endW (finL st) (b (some x0 :: some x1 :: List.replicate (N - 2) none) st) := rfl
theorem mFunL_3 {x0 x1 x2 : D} : mFunL N 3 b [x0, x1, x2] st = endW (finL st) (b (some x0 :: some x1 :: some x2 :: List.replicate (N - 3) none) st) := rfl
theorem mFunL_4 {x0 x1 x2 x3 : D} : mFunL N 4 b [x0, x1, x2, x3] st = endW (finL st) (b (some x0 :: some x1 :: some x2 :: some x3 :: List.replicate (N - 4) none) st) := rfl
theorem mFunL_5 {x0 x1 x2 x3 x4 : D} : mFunL N 5 b [x0, x1, x2, x3, x4] st = endW (finL st) (b (some x0 :: some x1 :: some x2 :: some x3 :: some x4 :: List.replicate (N - 5) none) st) := rfl
theorem mFunL_6 {x0 x1 x2 x3 x4 x5 : D} : mFunL N 6 b [x0, x1, x2, x3, x4, x5] st = endW (finL st) (b (some x0 :: some x1 :: some x2 :: some x3 :: some x4 :: some x5 :: List.replicate (N - 6) none) st) := rfl
theorem mFunL_7 {x0 x1 x2 x3 x4 x5 x6 : D} : mFunL N 7 b [x0, x1, x2, x3, x4, x5, x6] st = endW (finL st) (b (some x0 :: some x1 :: some x2 :: some x3 :: some x4 :: some x5 :: some x6 :: List.replicate (N - 7) none) st) := rfl
theorem mFunL_8 {x0 x1 x2 x3 x4 x5 x6 x7 : D} : mFunL N 8 b [x0, x1, x2, x3, x4, x5, x6, x7] st = endW (finL st) (b (some x0 :: some x1 :: some x2 :: some x3 :: some x4 :: some x5 :: some x6 :: some x7 :: List.replicate (N - 8) none) st) := rfl
theorem endW_rt {f : D → Store → Option (D × Store)} : endW f (some (.rt d, st)) = f d st := rfl
theorem endW_nx {f : D → Store → Option (D × Store)} : endW f (some (.nx env, st)) = f .non st := rfl
def kRev (d : D) (st1 : Store) : Option (D × Store) :=
  match d with
  | .tup l => some (.tup l.reverse, st1)
  | _ => none
theorem mRev_eq  : mRev m env st = bnd (m env st) kRev := rfl
theorem kRev_eq  : kRev (.tup l) st = some (.tup l.reverse, st) := rfl
def kTxt (d : D) (st1 : Store) : Option (List D × Store) :=
  match d with
  | .str z => some (signsD z, st1)
  | _ => none
theorem miTxt_eq  : miTxt m env st = bnd (m env st) kTxt := rfl
theorem kTxt_eq  : kTxt (.str r) st = some (signsD r, st) := rfl
theorem oIsB_bl {q : Bool} : oIsB (.bl p) (.bl q) st = some (.bl (decide (p = q))) := rfl
theorem oIsNotB_bl {q : Bool} : oIsNotB (.bl p) (.bl q) st = some (.bl (!decide (p = q))) := rfl
def kIn (o : Option Bool) : Option D :=
  match o with
  | some b => some (.bl b)
  | none => none
def kNIn (o : Option Bool) : Option D :=
  match o with
  | some b => some (.bl (!b))
  | none => none
theorem oIn_eq  : oIn x y st = kIn (inO x y st) := rfl
theorem oNotIn_eq  : oNotIn x y st = kNIn (inO x y st) := rfl
theorem kIn_eq  : kIn (some p) = some (.bl p) := rfl
theorem kNIn_eq  : kNIn (some p) = some (.bl (!p)) := rfl
theorem inO_sign {c : Nat} : inO (.str ⟨#[c]⟩) (.str r) st = some (decide (c ∈ r.cps.toList)) := rfl
def inA (x : D) (o : Option (List D)) : Option Bool :=
  match o with
  | some l => if flatD x = true ∧ l.all flatD = true then some (inD x l) else none
  | none => none
theorem inA_eq (h : flatD x = true) (h2 : l.all flatD = true) : inA x (some l) = some (inD x l) := if_pos ⟨h, h2⟩
theorem inO_tup  : inO x (.tup l) st = inA x (some l) := rfl
theorem inO_lst  : inO x (.lst l) st = inA x (some l) := rfl
def inL (x : D) (o : Option D) : Option Bool :=
  match o with
  | some (.lst l) => inA x (some l)
  | some (.dic ks) => (match keyD x with
    | some k => some (lkD ks k).isSome
    | none => none)
  | _ => none
theorem inO_loc  : inO x (.loc n) st = inL x st[n]? := by
  unfold inO inL inA seqD dicD
  cases h : st[n]? with
  | none => simp only [h]
  | some e => cases e <;> simp only [h] <;> cases keyD x <;> rfl
theorem inL_lst  : inL x (some (.lst l)) = inA x (some l) := rfl
theorem inL_dics {l : List (Key × D)} : inL (.str r) (some (.dic l)) = some (lkD l (.inr r)).isSome := rfl
theorem inL_dici {l : List (Key × D)} : inL (.int v) (some (.dic l)) = some (lkD l (.inl v)).isSome := rfl
theorem inO_dics {l : List (Key × D)} : inO (.str r) (.dic l) st = some (lkD l (.inr r)).isSome := rfl
theorem inO_dici {l : List (Key × D)} : inO (.int v) (.dic l) st = some (lkD l (.inl v)).isSome := rfl
theorem flatD_non  : flatD (.non) = true := rfl
theorem flatD_bl  : flatD (.bl p) = true := rfl
theorem flatD_int  : flatD (.int v) = true := rfl
theorem flatD_str  : flatD (.str r) = true := rfl
theorem ixO_str (h : r.length ≤ 1000000) : ixO (.str r) (.int v) st = (atI r.cps.toList v).map fun c => .str ⟨#[c]⟩ := if_pos h
theorem cLen_str (h : r.length ≤ 1000000) : cLen [.str r] st = some (.int r.length) := if_pos h
end

/-! ### the store -/
theorem st_app {st g : Store} {k : Nat} : (st ++ g)[st.length + k]? = g[k]? := by
  rw [List.getElem?_append_right (by omega)]
  congr 1
  omega
theorem st_app0 {st g : Store} : (st ++ g)[st.length]? = g[0]? := st_app (k := 0)
theorem st_set {st g : Store} {k : Nat} {d : D} : (st ++ g).set (st.length + k) d = st ++ g.set k d := by
  rw [List.set_append_right _ _ (by omega)]
  congr 2
  omega
theorem st_set0 {st g : Store} {d : D} : (st ++ g).set st.length d = st ++ g.set 0 d := st_set (k := 0)
theorem st_low {st g : Store} {i : Nat} {d : D} (h : st[i]? = some d) : (st ++ g)[i]? = some d := by
  rw [List.getElem?_append_left (List.getElem?_eq_some_iff.mp h).1]; exact h
theorem st_lows {st g : Store} {i : Nat} {d : D} (h : i < st.length) : (st ++ g).set i d = st.set i d ++ g := List.set_append_left _ _ h
theorem st_put {st : Store} {i : Nat} {d x : D} (h : st[i]? = some x) : (st.set i d)[i]? = some d := List.getElem?_set_self (List.getElem?_eq_some_iff.mp h).1
theorem okOld_app (st g : Store) : okOld st (st ++ g) := ⟨by simp, fun i h => .inl (List.getElem?_append_left h)⟩
theorem okOld_set (st g : Store) {i : Nat} {d : D} (h : lo st.length d = true) : okOld st ((st ++ g).set i d) := by
  refine ⟨by simp, fun j hj => ?_⟩
  by_cases e : j = i
  · subst e
    exact .inr ⟨d, by rw [List.getElem?_set_self (by simp; omega)], h⟩
  · exact .inl (by rw [List.getElem?_set_ne (Ne.symm e)]; exact List.getElem?_append_left hj)
theorem fz_lo {st : Store} {n ex k : Nat} {d : D} (h : lo n d = true) : fz st n ex k d = some d := by
  cases k with
  | zero => unfold fz; rw [if_pos h]
  | succ k => unfold fz; rw [if_pos h]
/-- a def's end where the store has grown, or is as it was -/
theorem fin_app {st g : Store} {d : D} (h : lo st.length d = true) : fin st d (st ++ g) = some (d, st) := by
  unfold fin
  rw [if_pos (okOld_app st g), fz_lo h]
  simp
theorem fin_same {st : Store} {d : D} (h : lo st.length d = true) : fin st d st = some (d, st) := by
  have := fin_app (st := st) (g := []) h
  rwa [List.append_nil] at this
theorem fin_set {st g : Store} {i : Nat} {d e : D} (hi : i < st.length) (he : lo st.length e = true) (h : lo st.length d = true) : fin st d (st.set i e ++ g) = some (d, st.set i e) := by
  unfold fin
  rw [← st_lows hi, if_pos (okOld_set st g he), fz_lo h]
  simp only [Option.map_some, Option.some.injEq, Prod.mk.injEq, true_and]
  rw [List.set_append_left _ _ hi, List.take_left' (by simp)]
theorem fin_set0 {st : Store} {i : Nat} {d e : D} (hi : i < st.length) (he : lo st.length e = true) (h : lo st.length d = true) : fin st d (st.set i e) = some (d, st.set i e) := by
  have := fin_set (g := []) hi he h
  rwa [List.append_nil] at this
/-! ### sizes -/
theorem fits_small {i : Int} (h : i.natAbs < 2 ^ 256) : Fits i = true := fits_of (k := 256) (by decide) h
theorem fits_lit {n : Nat} (h : n < 1000000000000000000000000000000) : Fits (no_index (OfNat.ofNat n)) = true := fits_small (Nat.lt_trans h (by decide))
theorem fits_ab {i : Int} (h : -1000000000000000000000000000000 < i) (h2 : i < 1000000000000000000000000000000) : Fits i = true := fits_small (by
  have : i.natAbs < 1000000000000000000000000000000 := by omega
  exact Nat.lt_trans this (by decide))
end
end Mn
end
section
set_option Elab.async false
set_option linter.all false
set_option maxRecDepth 100000
set_option maxHeartbeats 4000000
namespace K30
open PySem L2 Mn
noncomputable section
def c_MOST_SIGNS : Mn.D := .int 8
def c_LETTERS : Mn.D := .str "abcdefghijklmnopqrstuvwxyz"
def c_DIGITS : Mn.D := .str "0123456789"
def c_ZERO : Mn.D := .tup [.int 0, .int 1]
def c_MOST_NUMBER : Mn.D := .int 10000000000000000000000000000000000000000
def c_ONE : Mn.D := .tup [.int 1, .int 1]
def E_is_name_1 : M Mn.D :=
    mOp oIn (mV 1) (mOp oAdd (mC c_LETTERS) (mC c_DIGITS))

def R_is_name_1 : S :=
    sRet (mAndV (mOp oIn (mOp ixO (mV 0) (mC (.int 0))) (mC c_LETTERS)) (mCB (cBls fAll) (mCons (mFrz (mLc [1] (miTxt (mV 0)) (gN 1) (mYes) (E_is_name_1))) (mNil))))

def B_is_name : S :=
    sSeq (sIf (mOr (mNot (mTr (mIsi ["str"] (mV 0)))) (mOr (mNot (mTB (mChain (oC cLe) (oC cLe) (mC (.int 1)) (mCB cLen (mCons (mV 0) (mNil))) (mC c_MOST_SIGNS)))) (mTB (mOp oIn (mV 0) (mTup (mCons (mC (.str "end")) (mCons (mC (.str "stop")) (mNil))))))))
      (sRet (mC (.bl false)))
      (sNil))
    (R_is_name_1)

def F_is_name : Fn := mFun 2 1 B_is_name

def B_is_less : S :=
    sRet (mOp (oC cLt) (mOp (oI fMul) (mOp ixO (mV 0) (mC (.int 0))) (mOp ixO (mV 1) (mC (.int 1)))) (mOp (oI fMul) (mOp ixO (mV 1) (mC (.int 0))) (mOp ixO (mV 0) (mC (.int 1)))))

def F_is_less : Fn := mFun 2 2 B_is_less

def L_common_divisor_1 : S :=
    sPar 0 1 (mCons (mV 1) (mCons (mOp (oI fMod) (mV 0) (mV 1)) mNil))

def T_common_divisor_1 : M Bool :=
    mTB (mOp oNe (mV 1) (mC (.int 0)))

def R_common_divisor_1 : S :=
    sRet (mV 0)

def B_common_divisor : S :=
    sSeq (sPar 0 1 (mCons (mCB (cInt1 fAbs) (mCons (mV 0) (mNil))) (mCons (mCB (cInt1 fAbs) (mCons (mV 1) (mNil))) mNil)))
    (sSeq (sWhile (T_common_divisor_1)
      (L_common_divisor_1))
    (R_common_divisor_1))

def F_common_divisor : Fn := mFun 2 2 B_common_divisor

def R_ratio_1 : S :=
    sRet (mTup (mCons (mV 0) (mCons (mV 1) (mNil))))

def R_ratio_2 : S :=
    sSeq (sIf (mTB (mOp oNe (mV 1) (mC (.int 1))))
      (sSeq (sAsg 2 (mCall F_common_divisor (mCons (mV 0) (mCons (mV 1) (mNil)))))
      (sPar 0 1 (mCons (mOp (oI fDiv) (mV 0) (mV 2)) (mCons (mOp (oI fDiv) (mV 1) (mV 2)) mNil))))
      (sNil))
    (R_ratio_1)

def B_ratio : S :=
    sSeq (sIf (mTB (mOp (oC cLt) (mV 1) (mC (.int 0))))
      (sPar 0 1 (mCons (mNeg (mV 0)) (mCons (mNeg (mV 1)) mNil)))
      (sNil))
    (R_ratio_2)

def F_ratio : Fn := mFun 3 2 B_ratio

def R_plus_1 : S :=
    sRet (mCall F_ratio (mCons (mOp oAdd (mOp (oI fMul) (mOp ixO (mV 0) (mC (.int 0))) (mOp ixO (mV 1) (mC (.int 1)))) (mOp (oI fMul) (mOp ixO (mV 1) (mC (.int 0))) (mOp ixO (mV 0) (mC (.int 1))))) (mCons (mOp (oI fMul) (mOp ixO (mV 0) (mC (.int 1))) (mOp ixO (mV 1) (mC (.int 1)))) (mNil))))

def B_plus : S :=
    sSeq (sIf (mTB (mChain oEq oEq (mOp ixO (mV 0) (mC (.int 1))) (mOp ixO (mV 1) (mC (.int 1))) (mC (.int 1))))
      (sRet (mTup (mCons (mOp oAdd (mOp ixO (mV 0) (mC (.int 0))) (mOp ixO (mV 1) (mC (.int 0)))) (mCons (mC (.int 1)) (mNil)))))
      (sNil))
    (R_plus_1)

def F_plus : Fn := mFun 2 2 B_plus

def L_total_1 : S :=
    sAsg 1 (mCall F_plus (mCons (mV 1) (mCons (mV 2) (mNil))))

def R_total_1 : S :=
    sRet (mV 1)

def B_total : S :=
    sSeq (sAsg 1 (mC c_ZERO))
    (sSeq (sFor (miSeq (mV 0)) (gN 2)
      (L_total_1))
    (R_total_1))

def F_total : Fn := mFun 3 1 B_total

def B_is_integer : S :=
    sRet (mAndV (mIsi ["int"] (mV 0)) (mNotV (mIsi ["bool"] (mV 0))))

def F_is_integer : Fn := mFun 1 1 B_is_integer

def R_is_ratio_1 : S :=
    sRet (mAndV (mOp (oC cGt) (mOp ixO (mV 0) (mC (.int 1))) (mC (.int 0))) (mOp oEq (mCall F_common_divisor (mCons (mOp ixO (mV 0) (mC (.int 0))) (mCons (mOp ixO (mV 0) (mC (.int 1))) (mNil)))) (mC (.int 1))))

def B_is_ratio : S :=
    sSeq (sIf (mOr (mNot (mTr (mIsi ["tuple"] (mV 0)))) (mOr (mTB (mOp oNe (mCB cLen (mCons (mV 0) (mNil))) (mC (.int 2)))) (mOr (mNot (mTr (mCall F_is_integer (mCons (mOp ixO (mV 0) (mC (.int 0))) (mNil))))) (mNot (mTr (mCall F_is_integer (mCons (mOp ixO (mV 0) (mC (.int 1))) (mNil))))))))
      (sRet (mC (.bl false)))
      (sNil))
    (R_is_ratio_1)

def F_is_ratio : Fn := mFun 1 1 B_is_ratio

def R_has_rows_1 : S :=
    sIf (mOr (mTB (mOp (oC cGe) (mOp ixO (mOp ixO (mV 1) (mC (.int 0))) (mC (.int 0))) (mC c_MOST_NUMBER))) (mTB (mOp (oC cGe) (mOp ixO (mOp ixO (mV 1) (mC (.int 0))) (mC (.int 1))) (mC c_MOST_NUMBER))))
        (sRet (mC (.bl false)))
        (sNil)

def L_has_rows_1 : S :=
    sSeq (sIf (mOr (mNot (mTr (mIsi ["tuple"] (mV 1)))) (mOr (mTB (mOp oNe (mCB cLen (mCons (mV 1) (mNil))) (mC (.int 2)))) (mOr (mNot (mTr (mCall F_is_ratio (mCons (mOp ixO (mV 1) (mC (.int 0))) (mNil))))) (mNot (mTr (mCall F_is_less (mCons (mC c_ZERO) (mCons (mOp ixO (mV 1) (mC (.int 0))) (mNil)))))))))
        (sRet (mC (.bl false)))
        (sNil))
      (R_has_rows_1)

def E_has_rows_1 : M Mn.D :=
    mOp ixO (mV 1) (mC (.int 0))

def R_has_rows_2 : S :=
    sRet (mOp oEq (mCall F_total (mCons (mFrz (mLc [1] (miSeq (mV 0)) (gN 1) (mYes) (E_has_rows_1))) (mNil))) (mC c_ONE))

def R_has_rows_3 : S :=
    sSeq (sFor (miSeq (mV 0)) (gN 1)
      (L_has_rows_1))
    (R_has_rows_2)

def B_has_rows : S :=
    sSeq (sIf (mOr (mNot (mTr (mIsi ["tuple"] (mV 0)))) (mTB (mOp oEq (mCB cLen (mCons (mV 0) (mNil))) (mC (.int 0)))))
      (sRet (mC (.bl false)))
      (sNil))
    (R_has_rows_3)

def F_has_rows : Fn := mFun 2 1 B_has_rows

def R_is_body_1 : S :=
    sDrop (mMt fApp (mV 2) (mCons (mOp ixO (mV 3) (mC (.int 2))) (mNil)))

def E_is_body_1 : M Mn.D :=
    mOp ixO (mV 4) (mC (.int 1))

def R_is_body_2 : S :=
    sIf (mTB (mOp oIn (mOp ixO (mV 3) (mC (.int 0))) (mTup (mCons (mC (.str "end")) (mCons (mC (.str "stop")) (mNil))))))
        (sIf (mTB (mOp oNe (mCB cLen (mCons (mV 3) (mNil))) (mC (.int 1))))
          (sRet (mC (.bl false)))
          (sNil))
        (sIf (mTB (mOp oIn (mOp ixO (mV 3) (mC (.int 0))) (mTup (mCons (mC (.str "tell")) (mCons (mC (.str "call")) (mNil))))))
          (sSeq (sIf (mOr (mTB (mOp oNe (mCB cLen (mCons (mV 3) (mNil))) (mC (.int 3)))) (mOr (mNot (mTr (mCall F_is_name (mCons (mOp ixO (mV 3) (mC (.int 1))) (mNil))))) (mAnd (mTB (mOp oEq (mOp ixO (mV 3) (mC (.int 0))) (mC (.str "call")))) (mTB (mOp oNotIn (mOp ixO (mV 3) (mC (.int 1))) (mV 1))))))
            (sRet (mC (.bl false)))
            (sNil))
          (R_is_body_1))
          (sIf (mOr (mTB (mOp oNe (mOp ixO (mV 3) (mC (.int 0))) (mC (.str "draw")))) (mOr (mTB (mOp oNe (mCB cLen (mCons (mV 3) (mNil))) (mC (.int 2)))) (mNot (mTr (mCall F_has_rows (mCons (mOp ixO (mV 3) (mC (.int 1))) (mNil)))))))
            (sRet (mC (.bl false)))
            (sDrop (mMt fExt (mV 2) (mCons (mFrz (mLc [4] (miSeq (mOp ixO (mV 3) (mC (.int 1)))) (gN 4) (mYes) (E_is_body_1))) (mNil))))))

def L_is_body_1 : S :=
    sSeq (sAsg 3 (mMt fPop (mV 2) mNil))
      (sSeq (sIf (mOr (mNot (mTr (mIsi ["tuple"] (mV 3)))) (mOr (mTB (mOp oEq (mCB cLen (mCons (mV 3) (mNil))) (mC (.int 0)))) (mNot (mTr (mIsi ["str"] (mOp ixO (mV 3) (mC (.int 0))))))))
        (sRet (mC (.bl false)))
        (sNil))
      (R_is_body_2))

def T_is_body_1 : M Bool :=
    mTr (mV 2)

def R_is_body_3 : S :=
    sRet (mC (.bl true))

def B_is_body : S :=
    sSeq (sAsg 2 (mMut (mLst (mCons (mV 0) (mNil)))))
    (sSeq (sWhile (T_is_body_1)
      (L_is_body_1))
    (R_is_body_3))

def F_is_body : Fn := mFun 5 2 B_is_body

def R_is_program_1 : S :=
    sTgt (mC (.bl true)) (gSet (mV 1) (mOp ixO (mV 2) (mC (.int 0))))

def L_is_program_1 : S :=
    sSeq (sIf (mOr (mNot (mTr (mIsi ["tuple"] (mV 2)))) (mOr (mTB (mOp oNe (mCB cLen (mCons (mV 2) (mNil))) (mC (.int 2)))) (mOr (mNot (mTr (mCall F_is_name (mCons (mOp ixO (mV 2) (mC (.int 0))) (mNil))))) (mTB (mOp oIn (mOp ixO (mV 2) (mC (.int 0))) (mV 1))))))
        (sRet (mC (.bl false)))
        (sNil))
      (R_is_program_1)

def E_is_program_1 : M Mn.D :=
    mCall F_is_body (mCons (mV 4) (mCons (mV 1) (mNil)))

def R_is_program_2 : S :=
    sRet (mCB (cBls fAll) (mCons (mFrz (mLc [3, 4] (miSeq (mV 0)) (gT 2 (gsC (gN 3) (gsC (gN 4) (gsN)))) (mYes) (E_is_program_1))) (mNil)))

def R_is_program_3 : S :=
    sSeq (sAsg 1 (mDic0))
    (sSeq (sFor (miSeq (mV 0)) (gN 2)
      (L_is_program_1))
    (R_is_program_2))

def B_is_program : S :=
    sSeq (sIf (mOr (mNot (mTr (mIsi ["tuple"] (mV 0)))) (mTB (mOp oEq (mCB cLen (mCons (mV 0) (mNil))) (mC (.int 0)))))
      (sRet (mC (.bl false)))
      (sNil))
    (R_is_program_3)

def F_is_program : Fn := mFun 5 1 B_is_program

def E__law_start_1 : M Mn.D :=
    mCB cInt (mCons (mV 1) (mNil))

def B__law_start : S :=
    sRet (mMut (mLst (mCons (mFrz (mLc [1] (miSeq (mSl (mV 0) (mNoP) (mPart (mC (.int 63))))) (gN 1) (mYes) (E__law_start_1))) (mCons (mC (.int 0)) (mCons (mC (.int 0)) (mCons (mC (.int 0)) (mCons (mC (.int 20)) (mNil))))))))

def F__law_start : Fn := mFunL 2 1 B__law_start

def R__law_fill_1 : S :=
    sIf (mTB (mOp (oC cGe) (mV 1) (mOp (oI fPow) (mC (.int 10)) (mC (.int 18)))))
        (sRet (mV 1))
        (sNil)

def R__law_fill_2 : S :=
    sSeq (sAsg 1 (mOp (oI fMod) (mCB cInt (mCons (mOp oAdd (mOp (oI fMul) (mV 1) (mC (.int 48271))) (mOp (oI fMul) (mOp ixO (mV 0) (mC (.int 3))) (mC (.int 69621)))) (mNil))) (mC (.int 2147483647))))
    (sRet (mOp oAdd (mOp (oI fDiv) (mCB cInt (mCons (mOp oAdd (mOp oAdd (mOp (oI fMul) (mV 1) (mV 1)) (mOp (oI fMul) (mOp ixO (mV 0) (mC (.int 3))) (mC (.int 7919)))) (mC (.int 11))) (mNil))) (mC (.int 64))) (mC (.int 36028797018963968))))

def R__law_fill_3 : S :=
    sSeq (sIf (mAnd (mTr (mOp ixO (mV 0) (mC (.int 0)))) (mTB (mOp (oC cGe) (mOp ixO (mV 0) (mC (.int 1))) (mCB cLen (mCons (mOp ixO (mV 0) (mC (.int 0))) (mNil))))))
      (sAsg 1 (mOp oAdd (mV 1) (mOp (oI fMod) (mCB cInt (mCons (mOp ixO (mOp ixO (mV 0) (mC (.int 0))) (mNeg (mC (.int 1)))) (mNil))) (mC (.int 1000003)))))
      (sNil))
    (R__law_fill_2)

def B__law_fill : S :=
    sSeq (sTgt (mOp oAdd (mOp ixO (mV 0) (mC (.int 3))) (mC (.int 1))) (gSet (mV 0) (mC (.int 3))))
    (sSeq (sAsg 1 (mOp oAdd (mOp (oI fMul) (mOp ixO (mV 0) (mC (.int 3))) (mC (.int 69621))) (mC (.int 12345))))
    (sSeq (sIf (mTB (mOp (oC cLt) (mOp ixO (mV 0) (mC (.int 1))) (mCB cLen (mCons (mOp ixO (mV 0) (mC (.int 0))) (mNil)))))
      (sSeq (sAsg 1 (mOp ixO (mOp ixO (mV 0) (mC (.int 0))) (mOp ixO (mV 0) (mC (.int 1)))))
      (sSeq (sTgt (mOp oAdd (mOp ixO (mV 0) (mC (.int 1))) (mC (.int 1))) (gSet (mV 0) (mC (.int 1))))
      (sSeq (sIf (mTB (mOp (oC cLt) (mV 1) (mC (.int 0))))
        (sAsg 1 (mOp (oI fSub) (mOp (oI fSub) (mC (.int 0)) (mC (.int 1))) (mV 1)))
        (sNil))
      (R__law_fill_1))))
      (sNil))
    (R__law_fill_3)))

def F__law_fill : Fn := mFun 2 1 B__law_fill

def R__law_take_1 : S :=
    sSeq (sAsg 2 (mOp (oI fMod) (mCB cInt (mCons (mOp ixO (mV 0) (mC (.int 2))) (mNil))) (mV 1)))
    (sSeq (sTgt (mOp (oI fDiv) (mOp ixO (mV 0) (mC (.int 2))) (mV 1)) (gSet (mV 0) (mC (.int 2))))
    (sRet (mV 2)))

def B__law_take : S :=
    sSeq (sIf (mTB (mOp (oC cLt) (mOp ixO (mV 0) (mC (.int 2))) (mV 1)))
      (sTgt (mCall F__law_fill (mCons (mV 0) (mNil))) (gSet (mV 0) (mC (.int 2))))
      (sNil))
    (R__law_take_1)

def F__law_take : Fn := mFun 3 2 B__law_take

def R__law_divisor_1 : S :=
    sPar 0 1 (mCons (mV 1) (mCons (mOp (oI fMod) (mV 0) (mV 1)) mNil))

def L__law_divisor_1 : S :=
    sSeq (sIf (mTB (mOp oEq (mV 1) (mC (.int 0))))
        (sRet (mCB (cInt1 fAbs) (mCons (mV 0) (mNil))))
        (sNil))
      (R__law_divisor_1)

def R__law_divisor_2 : S :=
    sRet (mC (.int 1))

def B__law_divisor : S :=
    sSeq (sFor (miR1 (mCons (mC (.int 20000)) (mNil))) (gN 2)
      (L__law_divisor_1))
    (R__law_divisor_2)

def F__law_divisor : Fn := mFun 3 2 B__law_divisor

def B__law_fraction : S :=
    sSeq (sAsg 2 (mCall F__law_divisor (mCons (mV 0) (mCons (mV 1) (mNil)))))
    (sSeq (sAsg 2 (mIte (mTB (mOp (oC cGt) (mV 1) (mC (.int 0)))) (mV 2) (mOp (oI fSub) (mC (.int 0)) (mV 2))))
    (sRet (mTup (mCons (mOp (oI fDiv) (mV 0) (mV 2)) (mCons (mOp (oI fDiv) (mV 1) (mV 2)) (mNil))))))

def F__law_fraction : Fn := mFun 3 2 B__law_fraction

def B__law_plus : S :=
    sRet (mCall F__law_fraction (mCons (mOp oAdd (mOp (oI fMul) (mOp ixO (mV 0) (mC (.int 0))) (mOp ixO (mV 1) (mC (.int 1)))) (mOp (oI fMul) (mOp ixO (mV 1) (mC (.int 0))) (mOp ixO (mV 0) (mC (.int 1))))) (mCons (mOp (oI fMul) (mOp ixO (mV 0) (mC (.int 1))) (mOp ixO (mV 1) (mC (.int 1)))) (mNil))))

def F__law_plus : Fn := mFun 2 2 B__law_plus

def B__law_times : S :=
    sRet (mCall F__law_fraction (mCons (mOp (oI fMul) (mOp ixO (mV 0) (mC (.int 0))) (mOp ixO (mV 1) (mC (.int 0)))) (mCons (mOp (oI fMul) (mOp ixO (mV 0) (mC (.int 1))) (mOp ixO (mV 1) (mC (.int 1)))) (mNil))))

def F__law_times : Fn := mFun 2 2 B__law_times

def R__law_cut_1 : S :=
    sRet (mOp oAdd (mV 4) (mFrz (mLst (mCons (mV 5) (mNil)))))

def R__law_cut_2 : S :=
    sSeq (sAsg 4 (mMut (mLst (mCons (mTup (mCons (mV 2) (mCons (mV 3) (mNil)))) (mNil)))))
    (sSeq (sAsg 5 (mCall F__law_fraction (mCons (mOp (oI fSub) (mV 3) (mV 2)) (mCons (mV 3) (mNil)))))
    (sSeq (sIf (mTB (mOp oEq (mCall F__law_take (mCons (mV 0) (mCons (mC (.int 3)) (mNil)))) (mC (.int 0))))
      (sSeq (sTgt (mOp ixO (mV 1) (mOp oAdd (mC (.int 1)) (mCall F__law_take (mCons (mV 0) (mCons (mC (.int 8)) (mNil)))))) (gT 2 (gsC (gN 2) (gsC (gN 3) (gsN)))))
      (sSeq (sAsg 6 (mCall F__law_times (mCons (mV 5) (mCons (mTup (mCons (mV 2) (mCons (mV 3) (mNil)))) (mNil)))))
      (sSeq (sDrop (mMt fApp (mV 4) (mCons (mV 6) (mNil))))
      (sAsg 5 (mCall F__law_plus (mCons (mV 5) (mCons (mTup (mCons (mOp (oI fSub) (mC (.int 0)) (mOp ixO (mV 6) (mC (.int 0)))) (mCons (mOp ixO (mV 6) (mC (.int 1))) (mNil)))) (mNil))))))))
      (sNil))
    (R__law_cut_1)))

def B__law_cut : S :=
    sSeq (sAsg 1 (mFrz (mLst (mCons (mTup (mCons (mC (.int 1)) (mCons (mC (.int 1)) (mNil)))) (mCons (mTup (mCons (mC (.int 1)) (mCons (mC (.int 2)) (mNil)))) (mCons (mTup (mCons (mC (.int 1)) (mCons (mC (.int 3)) (mNil)))) (mCons (mTup (mCons (mC (.int 2)) (mCons (mC (.int 3)) (mNil)))) (mCons (mTup (mCons (mC (.int 1)) (mCons (mC (.int 4)) (mNil)))) (mCons (mTup (mCons (mC (.int 3)) (mCons (mC (.int 4)) (mNil)))) (mCons (mTup (mCons (mC (.int 1)) (mCons (mC (.int 5)) (mNil)))) (mCons (mTup (mCons (mC (.int 2)) (mCons (mC (.int 7)) (mNil)))) (mCons (mTup (mCons (mC (.int 1)) (mCons (mC (.int 10)) (mNil)))) (mNil)))))))))))))
    (sSeq (sTgt (mOp ixO (mV 1) (mCall F__law_take (mCons (mV 0) (mCons (mC (.int 9)) (mNil))))) (gT 2 (gsC (gN 2) (gsC (gN 3) (gsN)))))
    (sSeq (sIf (mTB (mOp oEq (mV 3) (mC (.int 1))))
      (sRet (mFrz (mLst (mCons (mTup (mCons (mC (.int 1)) (mCons (mC (.int 1)) (mNil)))) (mNil)))))
      (sNil))
    (R__law_cut_2)))

def F__law_cut : Fn := mFun 7 1 B__law_cut

def E__law_body_1 (n : Nat) (F : Fn) : M Mn.D :=
    mTup (mCons (mV 5) (mCons (mCall F (mCons (mV 0) (mCons (mV 1) (mCons (mV 2) (mCons (mOp (oI fSub) (mV 3) (mC (.int 1))) (mNil)))))) (mNil)))

def R__law_body_1 (n : Nat) (F : Fn) : S :=
    sRet (mTup (mCons (mC (.str "draw")) (mCons (mCB cTup (mCons (mFrz (mLc [5] (miSeq (mCall F__law_cut (mCons (mV 0) (mNil)))) (gN 5) (mYes) (E__law_body_1 n F))) (mNil))) (mNil))))

def R__law_body_2 (n : Nat) (F : Fn) : S :=
    sSeq (sIf (mTB (mOp (oC cLt) (mV 4) (mC (.int 6))))
      (sRet (mTup (mCons (mC (.str "call")) (mCons (mOp ixO (mV 1) (mCall F__law_take (mCons (mV 0) (mCons (mCB cLen (mCons (mV 1) (mNil))) (mNil))))) (mCons (mCall F (mCons (mV 0) (mCons (mV 1) (mCons (mV 2) (mCons (mOp (oI fSub) (mV 3) (mC (.int 1))) (mNil)))))) (mNil))))))
      (sNil))
    (R__law_body_1 n F)

def R__law_body_3 (n : Nat) (F : Fn) : S :=
    sSeq (sIf (mAnd (mTB (mOp (oC cLt) (mV 4) (mC (.int 3)))) (mTr (mV 2)))
      (sRet (mTup (mCons (mC (.str "tell")) (mCons (mOp ixO (mV 2) (mCall F__law_take (mCons (mV 0) (mCons (mCB cLen (mCons (mV 2) (mNil))) (mNil))))) (mCons (mCall F (mCons (mV 0) (mCons (mV 1) (mCons (mV 2) (mCons (mOp (oI fSub) (mV 3) (mC (.int 1))) (mNil)))))) (mNil))))))
      (sNil))
    (R__law_body_2 n F)

def B__law_body (n : Nat) (F : Fn) : S :=
    sSeq (sAsg 4 (mCall F__law_take (mCons (mV 0) (mCons (mC (.int 9)) (mNil)))))
    (sSeq (sIf (mOr (mTB (mOp (oC cLt) (mV 3) (mC (.int 1)))) (mTB (mOp oEq (mV 4) (mC (.int 0)))))
      (sRet (mOp ixO (mFrz (mLst (mCons (mTup (mCons (mC (.str "end")) (mNil))) (mCons (mTup (mCons (mC (.str "end")) (mNil))) (mCons (mTup (mCons (mC (.str "end")) (mNil))) (mCons (mTup (mCons (mC (.str "end")) (mNil))) (mCons (mTup (mCons (mC (.str "stop")) (mNil))) (mNil)))))))) (mCall F__law_take (mCons (mV 0) (mCons (mC (.int 5)) (mNil))))))
      (sNil))
    (R__law_body_3 n F))

def F__law_body : Nat → Fn
  | 0 => fun _ _ => none
  | n + 1 => mFun 6 4 (B__law_body n (F__law_body n))

def E__law_program_1 : M Mn.D :=
    mTup (mCons (mV 4) (mCons (mCall (F__law_body 8) (mCons (mV 0) (mCons (mV 1) (mCons (mV 3) (mCons (mOp oAdd (mC (.int 1)) (mCall F__law_take (mCons (mV 0) (mCons (mC (.int 5)) (mNil))))) (mNil)))))) (mNil)))

def B__law_program : S :=
    sSeq (sAsg 1 (mSl (mFrz (mLst (mCons (mC (.str "p")) (mCons (mC (.str "q")) (mCons (mC (.str "r2")) (mCons (mC (.str "s")) (mNil))))))) (mNoP) (mPart (mOp oAdd (mC (.int 1)) (mCall F__law_take (mCons (mV 0) (mCons (mC (.int 4)) (mNil))))))))
    (sSeq (sAsg 2 (mCall F__law_take (mCons (mV 0) (mCons (mCB cLen (mCons (mV 1) (mNil))) (mNil)))))
    (sSeq (sAsg 1 (mOp oAdd (mSl (mV 1) (mPart (mV 2)) (mNoP)) (mSl (mV 1) (mNoP) (mPart (mV 2)))))
    (sSeq (sAsg 3 (mSl (mFrz (mLst (mCons (mC (.str "a")) (mCons (mC (.str "b")) (mCons (mC (.str "p")) (mNil)))))) (mNoP) (mPart (mCall F__law_take (mCons (mV 0) (mCons (mC (.int 4)) (mNil)))))))
    (sRet (mCB cTup (mCons (mFrz (mLc [4] (miSeq (mV 1)) (gN 4) (mYes) (E__law_program_1))) (mNil)))))))

def F__law_program : Fn := mFun 5 1 B__law_program

def E__law_is_name_1 : M Mn.D :=
    mOp oIn (mV 2) (mOp oAdd (mV 1) (mC (.str "0123456789")))

def R__law_is_name_1 : S :=
    sSeq (sAsg 1 (mC (.str "abcdefghijklmnopqrstuvwxyz")))
    (sRet (mAndV (mOp oIn (mOp ixO (mV 0) (mC (.int 0))) (mV 1)) (mCB (cBls fAll) (mCons (mFrz (mLc [2] (miTxt (mV 0)) (gN 2) (mYes) (E__law_is_name_1))) (mNil)))))

def B__law_is_name : S :=
    sSeq (sIf (mOr (mNot (mTr (mIsi ["str"] (mV 0)))) (mOr (mTB (mOp (oC cLt) (mCB cLen (mCons (mV 0) (mNil))) (mC (.int 1)))) (mOr (mTB (mOp (oC cGt) (mCB cLen (mCons (mV 0) (mNil))) (mC (.int 8)))) (mTB (mOp oIn (mV 0) (mFrz (mLst (mCons (mC (.str "stop")) (mCons (mC (.str "end")) (mNil))))))))))
      (sRet (mC (.bl false)))
      (sNil))
    (R__law_is_name_1)

def F__law_is_name : Fn := mFun 3 1 B__law_is_name

def B__law_is_int : S :=
    sRet (mAndV (mIsi ["int"] (mV 0)) (mNotV (mIsi ["bool"] (mV 0))))

def F__law_is_int : Fn := mFun 1 1 B__law_is_int

def R__law_is_fraction_1 : S :=
    sRet (mAndV (mOp (oC cGt) (mOp ixO (mV 0) (mC (.int 1))) (mC (.int 0))) (mAndV (mOp (oC cGt) (mOp ixO (mV 0) (mC (.int 0))) (mC (.int 0))) (mOp oEq (mCall F__law_divisor (mCons (mOp ixO (mV 0) (mC (.int 0))) (mCons (mOp ixO (mV 0) (mC (.int 1))) (mNil)))) (mC (.int 1)))))

def B__law_is_fraction : S :=
    sSeq (sIf (mOr (mNot (mTr (mIsi ["tuple"] (mV 0)))) (mOr (mTB (mOp oNe (mCB cLen (mCons (mV 0) (mNil))) (mC (.int 2)))) (mOr (mNot (mTr (mCall F__law_is_int (mCons (mOp ixO (mV 0) (mC (.int 0))) (mNil))))) (mNot (mTr (mCall F__law_is_int (mCons (mOp ixO (mV 0) (mC (.int 1))) (mNil))))))))
      (sRet (mC (.bl false)))
      (sNil))
    (R__law_is_fraction_1)

def F__law_is_fraction : Fn := mFun 1 1 B__law_is_fraction

def R__law_is_body_1 (n : Nat) (F : Fn) : S :=
    sRet (mCall F (mCons (mOp ixO (mV 0) (mC (.int 2))) (mCons (mV 1) (mNil))))

def R__law_is_body_2 (n : Nat) (F : Fn) : S :=
    sAsg 2 (mCall F__law_plus (mCons (mV 2) (mCons (mOp ixO (mV 3) (mC (.int 0))) (mNil))))

def L__law_is_body_1 (n : Nat) (F : Fn) : S :=
    sSeq (sIf (mOr (mNot (mTr (mIsi ["tuple"] (mV 3)))) (mOr (mTB (mOp oNe (mCB cLen (mCons (mV 3) (mNil))) (mC (.int 2)))) (mOr (mNot (mTr (mCall F__law_is_fraction (mCons (mOp ixO (mV 3) (mC (.int 0))) (mNil))))) (mNot (mTr (mCall F (mCons (mOp ixO (mV 3) (mC (.int 1))) (mCons (mV 1) (mNil)))))))))
        (sRet (mC (.bl false)))
        (sNil))
      (R__law_is_body_2 n F)

def R__law_is_body_3 (n : Nat) (F : Fn) : S :=
    sRet (mOp oEq (mV 2) (mTup (mCons (mC (.int 1)) (mCons (mC (.int 1)) (mNil)))))

def R__law_is_body_4 (n : Nat) (F : Fn) : S :=
    sSeq (sAsg 2 (mTup (mCons (mC (.int 0)) (mCons (mC (.int 1)) (mNil)))))
    (sSeq (sFor (miSeq (mOp ixO (mV 0) (mC (.int 1)))) (gN 3)
      (L__law_is_body_1 n F))
    (R__law_is_body_3 n F))

def R__law_is_body_5 (n : Nat) (F : Fn) : S :=
    sSeq (sIf (mOr (mTB (mOp oNe (mOp ixO (mV 0) (mC (.int 0))) (mC (.str "draw")))) (mOr (mTB (mOp oNe (mCB cLen (mCons (mV 0) (mNil))) (mC (.int 2)))) (mOr (mNot (mTr (mIsi ["tuple"] (mOp ixO (mV 0) (mC (.int 1)))))) (mNot (mTr (mOp ixO (mV 0) (mC (.int 1))))))))
      (sRet (mC (.bl false)))
      (sNil))
    (R__law_is_body_4 n F)

def R__law_is_body_6 (n : Nat) (F : Fn) : S :=
    sSeq (sIf (mOr (mTB (mOp oEq (mOp ixO (mV 0) (mC (.int 0))) (mC (.str "tell")))) (mTB (mOp oEq (mOp ixO (mV 0) (mC (.int 0))) (mC (.str "call")))))
      (sSeq (sIf (mOr (mTB (mOp oNe (mCB cLen (mCons (mV 0) (mNil))) (mC (.int 3)))) (mOr (mNot (mTr (mCall F__law_is_name (mCons (mOp ixO (mV 0) (mC (.int 1))) (mNil))))) (mAnd (mTB (mOp oEq (mOp ixO (mV 0) (mC (.int 0))) (mC (.str "call")))) (mTB (mOp oNotIn (mOp ixO (mV 0) (mC (.int 1))) (mV 1))))))
        (sRet (mC (.bl false)))
        (sNil))
      (R__law_is_body_1 n F))
      (sNil))
    (R__law_is_body_5 n F)

def R__law_is_body_7 (n : Nat) (F : Fn) : S :=
    sSeq (sIf (mOr (mTB (mOp oEq (mOp ixO (mV 0) (mC (.int 0))) (mC (.str "end")))) (mTB (mOp oEq (mOp ixO (mV 0) (mC (.int 0))) (mC (.str "stop")))))
      (sRet (mOp oEq (mCB cLen (mCons (mV 0) (mNil))) (mC (.int 1))))
      (sNil))
    (R__law_is_body_6 n F)

def B__law_is_body (n : Nat) (F : Fn) : S :=
    sSeq (sIf (mOr (mNot (mTr (mIsi ["tuple"] (mV 0)))) (mOr (mNot (mTr (mV 0))) (mNot (mTr (mIsi ["str"] (mOp ixO (mV 0) (mC (.int 0))))))))
      (sRet (mC (.bl false)))
      (sNil))
    (R__law_is_body_7 n F)

def F__law_is_body : Nat → Fn
  | 0 => fun _ _ => none
  | n + 1 => mFun 4 2 (B__law_is_body n (F__law_is_body n))

def R__law_is_program_1 : S :=
    sDrop (mMt fApp (mV 1) (mCons (mOp ixO (mV 2) (mC (.int 0))) (mNil)))

def L__law_is_program_1 : S :=
    sSeq (sIf (mOr (mNot (mTr (mIsi ["tuple"] (mV 2)))) (mOr (mTB (mOp oNe (mCB cLen (mCons (mV 2) (mNil))) (mC (.int 2)))) (mOr (mNot (mTr (mCall F__law_is_name (mCons (mOp ixO (mV 2) (mC (.int 0))) (mNil))))) (mTB (mOp oIn (mOp ixO (mV 2) (mC (.int 0))) (mV 1))))))
        (sRet (mC (.bl false)))
        (sNil))
      (R__law_is_program_1)

def E__law_is_program_1 : M Mn.D :=
    mCall (F__law_is_body 60) (mCons (mOp ixO (mV 2) (mC (.int 1))) (mCons (mV 1) (mNil)))

def R__law_is_program_2 : S :=
    sRet (mCB (cBls fAll) (mCons (mFrz (mLc [2] (miSeq (mV 0)) (gN 2) (mYes) (E__law_is_program_1))) (mNil)))

def R__law_is_program_3 : S :=
    sSeq (sAsg 1 (mMut (mLst (mNil))))
    (sSeq (sFor (miSeq (mV 0)) (gN 2)
      (L__law_is_program_1))
    (R__law_is_program_2))

def B__law_is_program : S :=
    sSeq (sIf (mOr (mNot (mTr (mIsi ["tuple"] (mV 0)))) (mNot (mTr (mV 0))))
      (sRet (mC (.bl false)))
      (sNil))
    (R__law_is_program_3)

def F__law_is_program : Fn := mFun 3 1 B__law_is_program

def R__law_spoilt_1 (n : Nat) (F : Fn) : S :=
    sSeq (sAsg 4 (mCall F__law_take (mCons (mV 0) (mCons (mCB cLen (mCons (mV 1) (mNil))) (mNil)))))
    (sRet (mOp oAdd (mOp oAdd (mSl (mV 1) (mNoP) (mPart (mV 4))) (mTup (mCons (mCall F (mCons (mV 0) (mCons (mOp ixO (mV 1) (mV 4)) (mNil)))) (mNil)))) (mSl (mV 1) (mPart (mOp oAdd (mV 4) (mC (.int 1)))) (mNoP))))

def R__law_spoilt_2 (n : Nat) (F : Fn) : S :=
    sSeq (sIf (mTB (mOp oEq (mCall F__law_take (mCons (mV 0) (mCons (mC (.int 6)) (mNil)))) (mC (.int 0))))
      (sSeq (sAsg 3 (mFrz (mLst (mCons (mSl (mV 1) (mPart (mC (.int 1))) (mNoP)) (mCons (mSl (mV 1) (mNoP) (mPart (mNeg (mC (.int 1))))) (mCons (mOp oAdd (mV 1) (mSl (mV 1) (mPart (mNeg (mC (.int 1)))) (mNoP))) (mCons (mRev (mV 1)) (mCons (mFrz (mCBL cList (mCons (mV 1) (mNil)))) (mCons (mTup (mCons (mC (.str "end")) (mNil))) (mCons (mTup (mCons (mC (.str "stop")) (mNil))) (mCons (mTup (mCons (mV 1) (mNil))) (mCons (mTup (mCons (mC (.int 1)) (mCons (mC (.int 2)) (mNil)))) (mCons (mTup (mCons (mC (.int 2)) (mCons (mC (.int 4)) (mNil)))) (mNil))))))))))))))
      (sRet (mOp ixO (mV 3) (mCall F__law_take (mCons (mV 0) (mCons (mC (.int 10)) (mNil)))))))
      (sNil))
    (R__law_spoilt_1 n F)

def R__law_spoilt_3 (n : Nat) (F : Fn) : S :=
    sSeq (sIf (mOr (mNot (mTr (mIsi ["tuple"] (mV 1)))) (mNot (mTr (mV 1))))
      (sRet (mOp ixO (mFrz (mLst (mCons (mC (.int 0)) (mCons (mC (.int 1)) (mCons (mC (.int 2)) (mCons (mC (.int 3)) (mCons (mC (.bl true)) (mCons (mOp (oI fSub) (mC (.int 0)) (mC (.int 1))) (mCons (mC .non) (mCons (mTup (mNil)) (mCons (mC (.str "end")) (mCons (mTup (mCons (mC (.str "end")) (mNil))) (mNil))))))))))))) (mCall F__law_take (mCons (mV 0) (mCons (mC (.int 10)) (mNil))))))
      (sNil))
    (R__law_spoilt_2 n F)

def B__law_spoilt (n : Nat) (F : Fn) : S :=
    sSeq (sIf (mTr (mIsi ["str"] (mV 1)))
      (sSeq (sAsg 2 (mFrz (mLst (mCons (mC (.str "end")) (mCons (mC (.str "stop")) (mCons (mC (.str "tell")) (mCons (mC (.str "call")) (mCons (mC (.str "draw")) (mCons (mC (.str "p")) (mCons (mC (.str "q")) (mCons (mC (.str "")) (mCons (mC (.str "2p")) (mCons (mC (.str "abcdefgh")) (mCons (mC (.str "abcdefghi")) (mCons (mC (.str "P")) (mCons (mC (.str "a_")) (mCons (mC (.int 0)) (mNil))))))))))))))))))
      (sRet (mOp ixO (mV 2) (mCall F__law_take (mCons (mV 0) (mCons (mC (.int 14)) (mNil)))))))
      (sNil))
    (R__law_spoilt_3 n F)

def F__law_spoilt : Nat → Fn
  | 0 => fun _ _ => none
  | n + 1 => mFun 5 2 (B__law_spoilt n (F__law_spoilt n))

def L_law_1 : S :=
    sAsg 4 (mCall (F__law_spoilt 60) (mCons (mV 1) (mCons (mV 4) (mNil))))

def R_law_1 : S :=
    sSeq (sAsg 6 (mCall F_is_program (mCons (mV 4) (mNil))))
      (sIf (mOr (mNot (mTr (mIsi ["bool"] (mV 6)))) (mTB (mOp oNe (mV 6) (mCall F__law_is_program (mCons (mV 4) (mNil))))))
        (sRet (mC (.bl false)))
        (sNil))

def L_law_2 : S :=
    sSeq (sAsg 4 (mV 2))
      (sSeq (sFor (miR1 (mCons (mOp oAdd (mC (.int 1)) (mCall F__law_take (mCons (mV 1) (mCons (mC (.int 2)) (mNil))))) (mNil))) (gN 5)
        (L_law_1))
      (R_law_1))

def R_law_2 : S :=
    sRet (mC (.bl true))

def R_law_3 : S :=
    sSeq (sFor (miR1 (mCons (mC (.int 12)) (mNil))) (gN 3)
      (L_law_2))
    (R_law_2)

def B_law : S :=
    sSeq (sAsg 1 (mCall F__law_start (mCons (mV 0) (mNil))))
    (sSeq (sAsg 2 (mCall F__law_program (mCons (mV 1) (mNil))))
    (sSeq (sIf (mOr (mTB (mOp oIsNotB (mCall F_is_program (mCons (mV 2) (mNil))) (mC (.bl true)))) (mTB (mOp oIsNotB (mCall F_is_program (mCons (mTup (mNil)) (mNil))) (mC (.bl false)))))
      (sRet (mC (.bl false)))
      (sNil))
    (R_law_3)))

def F_law : Fn := mFun 7 1 B_law

end
end K30
end
section
set_option Elab.async false
set_option linter.all false
set_option maxRecDepth 100000
set_option maxHeartbeats 4000000
namespace K30
open PySem PySem.Spec PyProof.Rows L2 Mn
def topS (i : Nat) : Stmt := PySem.Challenge.pw_longodds_k30_programs_in_form.main.body.getD i (.Pass ⟨0, 0, 0, 0⟩)
abbrev s_is_name : Stmt := topS 15
abbrev N_is_name : List Str := ["value", "sign"]
theorem sc_is_name : FnScope N_is_name ["value"] (defScope s_is_name) := ⟨rfl, rfl, rfl, by decide +kernel, rfl, by decide +kernel, by decide +kernel⟩
abbrev s_is_less : Stmt := topS 6
abbrev N_is_less : List Str := ["first", "second"]
theorem sc_is_less : FnScope N_is_less ["first", "second"] (defScope s_is_less) := ⟨rfl, rfl, rfl, by decide +kernel, rfl, by decide +kernel, by decide +kernel⟩
abbrev s_common_divisor : Stmt := topS 3
abbrev N_common_divisor : List Str := ["first", "second"]
theorem sc_common_divisor : FnScope N_common_divisor ["first", "second"] (defScope s_common_divisor) := ⟨rfl, rfl, rfl, by decide +kernel, rfl, by decide +kernel, by decide +kernel⟩
abbrev s_ratio : Stmt := topS 4
abbrev N_ratio : List Str := ["above", "below", "both"]
theorem sc_ratio : FnScope N_ratio ["above", "below"] (defScope s_ratio) := ⟨rfl, rfl, rfl, by decide +kernel, rfl, by decide +kernel, by decide +kernel⟩
abbrev s_plus : Stmt := topS 5
abbrev N_plus : List Str := ["first", "second"]
theorem sc_plus : FnScope N_plus ["first", "second"] (defScope s_plus) := ⟨rfl, rfl, rfl, by decide +kernel, rfl, by decide +kernel, by decide +kernel⟩
abbrev s_total : Stmt := topS 7
abbrev N_total : List Str := ["fractions", "found", "one"]
theorem sc_total : FnScope N_total ["fractions"] (defScope s_total) := ⟨rfl, rfl, rfl, by decide +kernel, rfl, by decide +kernel, by decide +kernel⟩
abbrev s_is_integer : Stmt := topS 8
abbrev N_is_integer : List Str := ["value"]
theorem sc_is_integer : FnScope N_is_integer ["value"] (defScope s_is_integer) := ⟨rfl, rfl, rfl, by decide +kernel, rfl, by decide +kernel, by decide +kernel⟩
abbrev s_is_ratio : Stmt := topS 9
abbrev N_is_ratio : List Str := ["value"]
theorem sc_is_ratio : FnScope N_is_ratio ["value"] (defScope s_is_ratio) := ⟨rfl, rfl, rfl, by decide +kernel, rfl, by decide +kernel, by decide +kernel⟩
abbrev s_has_rows : Stmt := topS 16
abbrev N_has_rows : List Str := ["value", "row"]
theorem sc_has_rows : FnScope N_has_rows ["value"] (defScope s_has_rows) := ⟨rfl, rfl, rfl, by decide +kernel, rfl, by decide +kernel, by decide +kernel⟩
abbrev s_is_body : Stmt := topS 17
abbrev N_is_body : List Str := ["value", "names", "left", "one", "row"]
theorem sc_is_body : FnScope N_is_body ["value", "names"] (defScope s_is_body) := ⟨rfl, rfl, rfl, by decide +kernel, rfl, by decide +kernel, by decide +kernel⟩
abbrev s_is_program : Stmt := topS 18
abbrev N_is_program : List Str := ["value", "names", "row", "name", "body"]
theorem sc_is_program : FnScope N_is_program ["value"] (defScope s_is_program) := ⟨rfl, rfl, rfl, by decide +kernel, rfl, by decide +kernel, by decide +kernel⟩
abbrev s__law_start : Stmt := topS 20
abbrev N__law_start : List Str := ["script", "cell"]
theorem sc__law_start : FnScope N__law_start ["script"] (defScope s__law_start) := ⟨rfl, rfl, rfl, by decide +kernel, rfl, by decide +kernel, by decide +kernel⟩
abbrev s__law_fill : Stmt := topS 21
abbrev N__law_fill : List Str := ["c", "number"]
theorem sc__law_fill : FnScope N__law_fill ["c"] (defScope s__law_fill) := ⟨rfl, rfl, rfl, by decide +kernel, rfl, by decide +kernel, by decide +kernel⟩
abbrev s__law_take : Stmt := topS 22
abbrev N__law_take : List Str := ["c", "many", "digit"]
theorem sc__law_take : FnScope N__law_take ["c", "many"] (defScope s__law_take) := ⟨rfl, rfl, rfl, by decide +kernel, rfl, by decide +kernel, by decide +kernel⟩
abbrev s__law_divisor : Stmt := topS 23
abbrev N__law_divisor : List Str := ["a", "b", "turn"]
theorem sc__law_divisor : FnScope N__law_divisor ["a", "b"] (defScope s__law_divisor) := ⟨rfl, rfl, rfl, by decide +kernel, rfl, by decide +kernel, by decide +kernel⟩
abbrev s__law_fraction : Stmt := topS 24
abbrev N__law_fraction : List Str := ["n", "d", "many"]
theorem sc__law_fraction : FnScope N__law_fraction ["n", "d"] (defScope s__law_fraction) := ⟨rfl, rfl, rfl, by decide +kernel, rfl, by decide +kernel, by decide +kernel⟩
abbrev s__law_plus : Stmt := topS 25
abbrev N__law_plus : List Str := ["a", "b"]
theorem sc__law_plus : FnScope N__law_plus ["a", "b"] (defScope s__law_plus) := ⟨rfl, rfl, rfl, by decide +kernel, rfl, by decide +kernel, by decide +kernel⟩
abbrev s__law_times : Stmt := topS 26
abbrev N__law_times : List Str := ["a", "b"]
theorem sc__law_times : FnScope N__law_times ["a", "b"] (defScope s__law_times) := ⟨rfl, rfl, rfl, by decide +kernel, rfl, by decide +kernel, by decide +kernel⟩
abbrev s__law_cut : Stmt := topS 27
abbrev N__law_cut : List Str := ["c", "menu", "n", "d", "found", "rest", "part"]
theorem sc__law_cut : FnScope N__law_cut ["c"] (defScope s__law_cut) := ⟨rfl, rfl, rfl, by decide +kernel, rfl, by decide +kernel, by decide +kernel⟩
abbrev s__law_body : Stmt := topS 28
abbrev N__law_body : List Str := ["c", "names", "letters", "deep", "way", "one"]
theorem sc__law_body : FnScope N__law_body ["c", "names", "letters", "deep"] (defScope s__law_body) := ⟨rfl, rfl, rfl, by decide +kernel, rfl, by decide +kernel, by decide +kernel⟩
abbrev s__law_program : Stmt := topS 29
abbrev N__law_program : List Str := ["c", "names", "k", "letters", "name"]
theorem sc__law_program : FnScope N__law_program ["c"] (defScope s__law_program) := ⟨rfl, rfl, rfl, by decide +kernel, rfl, by decide +kernel, by decide +kernel⟩
abbrev s__law_is_name : Stmt := topS 31
abbrev N__law_is_name : List Str := ["value", "letters", "sign"]
theorem sc__law_is_name : FnScope N__law_is_name ["value"] (defScope s__law_is_name) := ⟨rfl, rfl, rfl, by decide +kernel, rfl, by decide +kernel, by decide +kernel⟩
abbrev s__law_is_int : Stmt := topS 32
abbrev N__law_is_int : List Str := ["value"]
theorem sc__law_is_int : FnScope N__law_is_int ["value"] (defScope s__law_is_int) := ⟨rfl, rfl, rfl, by decide +kernel, rfl, by decide +kernel, by decide +kernel⟩
abbrev s__law_is_fraction : Stmt := topS 33
abbrev N__law_is_fraction : List Str := ["value"]
theorem sc__law_is_fraction : FnScope N__law_is_fraction ["value"] (defScope s__law_is_fraction) := ⟨rfl, rfl, rfl, by decide +kernel, rfl, by decide +kernel, by decide +kernel⟩
abbrev s__law_is_body : Stmt := topS 34
abbrev N__law_is_body : List Str := ["value", "names", "total_v", "row"]
theorem sc__law_is_body : FnScope N__law_is_body ["value", "names"] (defScope s__law_is_body) := ⟨rfl, rfl, rfl, by decide +kernel, rfl, by decide +kernel, by decide +kernel⟩
abbrev s__law_is_program : Stmt := topS 35
abbrev N__law_is_program : List Str := ["value", "names", "row"]
theorem sc__law_is_program : FnScope N__law_is_program ["value"] (defScope s__law_is_program) := ⟨rfl, rfl, rfl, by decide +kernel, rfl, by decide +kernel, by decide +kernel⟩
abbrev s__law_spoilt : Stmt := topS 36
abbrev N__law_spoilt : List Str := ["c", "value", "row", "rows", "k"]
theorem sc__law_spoilt : FnScope N__law_spoilt ["c", "value"] (defScope s__law_spoilt) := ⟨rfl, rfl, rfl, by decide +kernel, rfl, by decide +kernel, by decide +kernel⟩
abbrev s_law : Stmt := topS 37
abbrev N_law : List Str := ["script", "c", "value", "turn", "bent", "k", "told"]
theorem sc_law : FnScope N_law ["script"] (defScope s_law) := ⟨rfl, rfl, rfl, by decide +kernel, rfl, by decide +kernel, by decide +kernel⟩
structure Txt (K : PySem.W.Frag) (mg : Str → Option Value) : Prop where
  n_abs : mg "abs" = none
  n_all : mg "all" = none
  n_bool : mg "bool" = none
  n_int : mg "int" = none
  n_isinstance : mg "isinstance" = none
  n_len : mg "len" = none
  n_list : mg "list" = none
  n_range : mg "range" = none
  n_str : mg "str" = none
  n_tuple : mg "tuple" = none
  g_MOST_SIGNS : GlobM K mg "MOST_SIGNS" c_MOST_SIGNS
  g_LETTERS : GlobM K mg "LETTERS" c_LETTERS
  g_DIGITS : GlobM K mg "DIGITS" c_DIGITS
  g_ZERO : GlobM K mg "ZERO" c_ZERO
  g_MOST_NUMBER : GlobM K mg "MOST_NUMBER" c_MOST_NUMBER
  g_ONE : GlobM K mg "ONE" c_ONE
section
variable {P : Program} {w : World} {K : PySem.W.Frag} {mg : Str → Option Value} {base : Heap}
theorem ok_is_name (T : Txt K mg) {f : Addr} {fd : FuncData} (F0 : Fun K "is_name" "is_name" s_is_name f fd) (hb : Binds K fd ["value"] []) (hm : mg "is_name" = some (.ref f)) : FnM P w K mg base 1 "is_name" 1 F_is_name :=
  fn_mk (k := 0) F0 sc_is_name hb hm fun cdv A outer s H E hr =>
    pms_cons (pms_if (pmt_w (pmw_or (pmt_not (pmt_tr (pm_isi T.n_isinstance (pm_var (i := 0)) (pe_ty (T := "str") T.n_str (by decide +kernel))))) (pmw_or (pmt_not (pmt_chain o_le o_le (pm_int) (pm_callB c_len T.n_len (by decide +kernel) (pma_cons (pm_var (i := 0)) (pma_nil))) (pm_glob T.g_MOST_SIGNS (by rfl)))) (pmw_or1 (pmt_cmp (o_in (hu_of hr)) (pm_var (i := 0)) (pm_tup (pma_cons (pm_str) (pma_cons (pm_str) (pma_nil)))))))))
      (pms_one (pms_ret (pm_bl)))
      (pms_nil))
    (pms_one (pms_ret (pm_and (pm_cmp (o_in (hu_of hr)) (pm_ix (hu_of hr) (pm_var (i := 0)) (pm_int)) (pm_glob T.g_LETTERS (by rfl))) (pm_one (pm_callB (c_all rfl) T.n_all (by decide +kernel) (pma_cons (pm_frz (pml_lc (own := [("sign", 1)]) sc_is_name.nd (pmi_txt (pm_var (i := 0))) (blkOk_by (own := [("sign", 1)]) (N := N_is_name) (sc := defScope s_is_name) (by decide +kernel)) (fun _ _ _ _ _ => pmg_name sc_is_name.nd (i := 1)) (fun _ _ _ _ _ => pmts_no) (fun _ _ _ _ _ => pm_cmp (o_in (hu_of hr)) (pm_var (i := 1)) (pm_op o_add (pm_glob T.g_LETTERS (by rfl)) (pm_glob T.g_DIGITS (by rfl)))))) (pma_nil)))))))
theorem ok_is_less (T : Txt K mg) {f : Addr} {fd : FuncData} (F0 : Fun K "is_less" "is_less" s_is_less f fd) (hb : Binds K fd ["first", "second"] []) (hm : mg "is_less" = some (.ref f)) : FnM P w K mg base 1 "is_less" 2 F_is_less :=
  fn_mk (k := 0) F0 sc_is_less hb hm fun cdv A outer s H E hr =>
    pms_one (pms_ret (pm_cmp o_lt (pm_op o_mul (pm_ix (hu_of hr) (pm_var (i := 0)) (pm_int)) (pm_ix (hu_of hr) (pm_var (i := 1)) (pm_int))) (pm_op o_mul (pm_ix (hu_of hr) (pm_var (i := 1)) (pm_int)) (pm_ix (hu_of hr) (pm_var (i := 0)) (pm_int)))))
theorem ok_common_divisor (T : Txt K mg) {f : Addr} {fd : FuncData} (F0 : Fun K "common_divisor" "common_divisor" s_common_divisor f fd) (hb : Binds K fd ["first", "second"] []) (hm : mg "common_divisor" = some (.ref f)) : FnM P w K mg base 1 "common_divisor" 2 F_common_divisor :=
  fn_mk (k := 0) F0 sc_common_divisor hb hm fun cdv A outer s H E hr =>
    pms_cons (pms_par (i := 0) (j := 1) sc_common_divisor.nd (pma_cons (pm_callB c_abs T.n_abs (by decide +kernel) (pma_cons (pm_var (i := 0)) (pma_nil))) (pma_cons (pm_callB c_abs T.n_abs (by decide +kernel) (pma_cons (pm_var (i := 1)) (pma_nil))) pma_nil)))
    (pms_cons (pms_while PassesOwn.never (pmt_cmp (o_ne hr.units) (pm_var (i := 1)) (pm_int))
      (pms_one (pms_par (i := 0) (j := 1) sc_common_divisor.nd (pma_cons (pm_var (i := 1)) (pma_cons (pm_op o_mod (pm_var (i := 0)) (pm_var (i := 1))) pma_nil)))))
    (pms_one (pms_ret (pm_var (i := 0)))))
theorem ok_ratio (T : Txt K mg) {f : Addr} {fd : FuncData} (F0 : Fun K "ratio" "ratio" s_ratio f fd) (hb : Binds K fd ["above", "below"] []) (hm : mg "ratio" = some (.ref f)) (G_common_divisor : FnM P w K mg base 1 "common_divisor" 2 F_common_divisor) : FnM P w K mg base 2 "ratio" 2 F_ratio :=
  fn_mk (k := 1) F0 sc_ratio hb hm fun cdv A outer s H E hr =>
    pms_cons (pms_if (pmt_cmp o_lt (pm_var (i := 1)) (pm_int))
      (pms_one (pms_par (i := 0) (j := 1) sc_ratio.nd (pma_cons (pm_neg (pm_var (i := 0))) (pma_cons (pm_neg (pm_var (i := 1))) pma_nil))))
      (pms_nil))
    (pms_cons (pms_if (pmt_cmp (o_ne hr.units) (pm_var (i := 1)) (pm_int))
      (pms_cons (pms_set (i := 2) sc_ratio.nd (pm_call G_common_divisor (hr.mono (by decide)) (pma_cons (pm_var (i := 0)) (pma_cons (pm_var (i := 1)) (pma_nil)))))
      (pms_one (pms_par (i := 0) (j := 1) sc_ratio.nd (pma_cons (pm_op o_div (pm_var (i := 0)) (pm_var (i := 2))) (pma_cons (pm_op o_div (pm_var (i := 1)) (pm_var (i := 2))) pma_nil)))))
      (pms_nil))
    (pms_one (pms_ret (pm_tup (pma_cons (pm_var (i := 0)) (pma_cons (pm_var (i := 1)) (pma_nil)))))))
theorem ok_plus (T : Txt K mg) {f : Addr} {fd : FuncData} (F0 : Fun K "plus" "plus" s_plus f fd) (hb : Binds K fd ["first", "second"] []) (hm : mg "plus" = some (.ref f)) (G_ratio : FnM P w K mg base 2 "ratio" 2 F_ratio) : FnM P w K mg base 3 "plus" 2 F_plus :=
  fn_mk (k := 2) F0 sc_plus hb hm fun cdv A outer s H E hr =>
    pms_cons (pms_if (pmt_chain (o_eq hr.units) (o_eq hr.units) (pm_ix (hu_of hr) (pm_var (i := 0)) (pm_int)) (pm_ix (hu_of hr) (pm_var (i := 1)) (pm_int)) (pm_int))
      (pms_one (pms_ret (pm_tup (pma_cons (pm_op o_add (pm_ix (hu_of hr) (pm_var (i := 0)) (pm_int)) (pm_ix (hu_of hr) (pm_var (i := 1)) (pm_int))) (pma_cons (pm_int) (pma_nil))))))
      (pms_nil))
    (pms_one (pms_ret (pm_call G_ratio (hr.mono (by decide)) (pma_cons (pm_op o_add (pm_op o_mul (pm_ix (hu_of hr) (pm_var (i := 0)) (pm_int)) (pm_ix (hu_of hr) (pm_var (i := 1)) (pm_int))) (pm_op o_mul (pm_ix (hu_of hr) (pm_var (i := 1)) (pm_int)) (pm_ix (hu_of hr) (pm_var (i := 0)) (pm_int)))) (pma_cons (pm_op o_mul (pm_ix (hu_of hr) (pm_var (i := 0)) (pm_int)) (pm_ix (hu_of hr) (pm_var (i := 1)) (pm_int))) (pma_nil))))))
theorem ok_total (T : Txt K mg) {f : Addr} {fd : FuncData} (F0 : Fun K "total" "total" s_total f fd) (hb : Binds K fd ["fractions"] []) (hm : mg "total" = some (.ref f)) (G_plus : FnM P w K mg base 3 "plus" 2 F_plus) : FnM P w K mg base 4 "total" 1 F_total :=
  fn_mk (k := 3) F0 sc_total hb hm fun cdv A outer s H E hr =>
    pms_cons (pms_set (i := 1) sc_total.nd (pm_glob T.g_ZERO (by rfl)))
    (pms_cons (pms_for PassesOwn.never (pmi_seq (pm_var (i := 0))) (pmg_name sc_total.nd (i := 2))
      (pms_one (pms_set (i := 1) sc_total.nd (pm_call G_plus (hr.mono (by decide)) (pma_cons (pm_var (i := 1)) (pma_cons (pm_var (i := 2)) (pma_nil)))))))
    (pms_one (pms_ret (pm_var (i := 1)))))
theorem ok_is_integer (T : Txt K mg) {f : Addr} {fd : FuncData} (F0 : Fun K "is_integer" "is_integer" s_is_integer f fd) (hb : Binds K fd ["value"] []) (hm : mg "is_integer" = some (.ref f)) : FnM P w K mg base 1 "is_integer" 1 F_is_integer :=
  fn_mk (k := 0) F0 sc_is_integer hb hm fun cdv A outer s H E hr =>
    pms_one (pms_ret (pm_and (pm_isi T.n_isinstance (pm_var (i := 0)) (pe_ty (T := "int") T.n_int (by decide +kernel))) (pm_one (pm_not (pm_isi T.n_isinstance (pm_var (i := 0)) (pe_ty (T := "bool") T.n_bool (by decide +kernel)))))))
theorem ok_is_ratio (T : Txt K mg) {f : Addr} {fd : FuncData} (F0 : Fun K "is_ratio" "is_ratio" s_is_ratio f fd) (hb : Binds K fd ["value"] []) (hm : mg "is_ratio" = some (.ref f)) (G_common_divisor : FnM P w K mg base 1 "common_divisor" 2 F_common_divisor) (G_is_integer : FnM P w K mg base 1 "is_integer" 1 F_is_integer) : FnM P w K mg base 2 "is_ratio" 1 F_is_ratio :=
  fn_mk (k := 1) F0 sc_is_ratio hb hm fun cdv A outer s H E hr =>
    pms_cons (pms_if (pmt_w (pmw_or (pmt_not (pmt_tr (pm_isi T.n_isinstance (pm_var (i := 0)) (pe_ty (T := "tuple") T.n_tuple (by decide +kernel))))) (pmw_or (pmt_cmp (o_ne hr.units) (pm_callB c_len T.n_len (by decide +kernel) (pma_cons (pm_var (i := 0)) (pma_nil))) (pm_int)) (pmw_or (pmt_not (pmt_tr (pm_call G_is_integer (hr.mono (by decide)) (pma_cons (pm_ix (hu_of hr) (pm_var (i := 0)) (pm_int)) (pma_nil))))) (pmw_or1 (pmt_not (pmt_tr (pm_call G_is_integer (hr.mono (by decide)) (pma_cons (pm_ix (hu_of hr) (pm_var (i := 0)) (pm_int)) (pma_nil))))))))))
      (pms_one (pms_ret (pm_bl)))
      (pms_nil))
    (pms_one (pms_ret (pm_and (pm_cmp o_gt (pm_ix (hu_of hr) (pm_var (i := 0)) (pm_int)) (pm_int)) (pm_one (pm_cmp (o_eq hr.units) (pm_call G_common_divisor (hr.mono (by decide)) (pma_cons (pm_ix (hu_of hr) (pm_var (i := 0)) (pm_int)) (pma_cons (pm_ix (hu_of hr) (pm_var (i := 0)) (pm_int)) (pma_nil)))) (pm_int))))))
theorem ok_has_rows (T : Txt K mg) {f : Addr} {fd : FuncData} (F0 : Fun K "has_rows" "has_rows" s_has_rows f fd) (hb : Binds K fd ["value"] []) (hm : mg "has_rows" = some (.ref f)) (G_is_less : FnM P w K mg base 1 "is_less" 2 F_is_less) (G_total : FnM P w K mg base 4 "total" 1 F_total) (G_is_ratio : FnM P w K mg base 2 "is_ratio" 1 F_is_ratio) : FnM P w K mg base 5 "has_rows" 1 F_has_rows :=
  fn_mk (k := 4) F0 sc_has_rows hb hm fun cdv A outer s H E hr =>
    pms_cons (pms_if (pmt_w (pmw_or (pmt_not (pmt_tr (pm_isi T.n_isinstance (pm_var (i := 0)) (pe_ty (T := "tuple") T.n_tuple (by decide +kernel))))) (pmw_or1 (pmt_cmp (o_eq hr.units) (pm_callB c_len T.n_len (by decide +kernel) (pma_cons (pm_var (i := 0)) (pma_nil))) (pm_int)))))
      (pms_one (pms_ret (pm_bl)))
      (pms_nil))
    (pms_cons (pms_for PassesOwn.never (pmi_seq (pm_var (i := 0))) (pmg_name sc_has_rows.nd (i := 1))
      (pms_cons (pms_if (pmt_w (pmw_or (pmt_not (pmt_tr (pm_isi T.n_isinstance (pm_var (i := 1)) (pe_ty (T := "tuple") T.n_tuple (by decide +kernel))))) (pmw_or (pmt_cmp (o_ne hr.units) (pm_callB c_len T.n_len (by decide +kernel) (pma_cons (pm_var (i := 1)) (pma_nil))) (pm_int)) (pmw_or (pmt_not (pmt_tr (pm_call G_is_ratio (hr.mono (by decide)) (pma_cons (pm_ix (hu_of hr) (pm_var (i := 1)) (pm_int)) (pma_nil))))) (pmw_or1 (pmt_not (pmt_tr (pm_call G_is_less (hr.mono (by decide)) (pma_cons (pm_glob T.g_ZERO (by rfl)) (pma_cons (pm_ix (hu_of hr) (pm_var (i := 1)) (pm_int)) (pma_nil)))))))))))
        (pms_one (pms_ret (pm_bl)))
        (pms_nil))
      (pms_one (pms_if (pmt_w (pmw_or (pmt_cmp o_ge (pm_ix (hu_of hr) (pm_ix (hu_of hr) (pm_var (i := 1)) (pm_int)) (pm_int)) (pm_glob T.g_MOST_NUMBER (by rfl))) (pmw_or1 (pmt_cmp o_ge (pm_ix (hu_of hr) (pm_ix (hu_of hr) (pm_var (i := 1)) (pm_int)) (pm_int)) (pm_glob T.g_MOST_NUMBER (by rfl))))))
        (pms_one (pms_ret (pm_bl)))
        (pms_nil)))))
    (pms_one (pms_ret (pm_cmp (o_eq hr.units) (pm_call G_total (hr.mono (by decide)) (pma_cons (pm_frz (pml_lc (own := [("row", 1)]) sc_has_rows.nd (pmi_seq (pm_var (i := 0))) (blkOk_by (own := [("row", 1)]) (N := N_has_rows) (sc := defScope s_has_rows) (by decide +kernel)) (fun _ _ _ _ _ => pmg_name sc_has_rows.nd (i := 1)) (fun _ _ _ _ _ => pmts_no) (fun _ _ _ _ _ => pm_ix (hu_of hr) (pm_var (i := 1)) (pm_int)))) (pma_nil))) (pm_glob T.g_ONE (by rfl))))))
theorem ok_is_body (T : Txt K mg) {f : Addr} {fd : FuncData} (F0 : Fun K "is_body" "is_body" s_is_body f fd) (hb : Binds K fd ["value", "names"] []) (hm : mg "is_body" = some (.ref f)) (G_is_name : FnM P w K mg base 1 "is_name" 1 F_is_name) (G_has_rows : FnM P w K mg base 5 "has_rows" 1 F_has_rows) : FnM P w K mg base 6 "is_body" 2 F_is_body :=
  fn_mk (k := 5) F0 sc_is_body hb hm fun cdv A outer s H E hr =>
    pms_cons (pms_set (i := 2) sc_is_body.nd (pm_mut (pml_lst (pma_cons (pm_var (i := 0)) (pma_nil)))))
    (pms_cons (pms_while PassesOwn.never (pmt_tr (pm_var (i := 2)))
      (pms_cons (pms_set (i := 3) sc_is_body.nd (pm_mt0 PySem.F.slot_list_pop PySem.F.type_list_pop m_pop (pm_var (i := 2))))
      (pms_cons (pms_if (pmt_w (pmw_or (pmt_not (pmt_tr (pm_isi T.n_isinstance (pm_var (i := 3)) (pe_ty (T := "tuple") T.n_tuple (by decide +kernel))))) (pmw_or (pmt_cmp (o_eq hr.units) (pm_callB c_len T.n_len (by decide +kernel) (pma_cons (pm_var (i := 3)) (pma_nil))) (pm_int)) (pmw_or1 (pmt_not (pmt_tr (pm_isi T.n_isinstance (pm_ix (hu_of hr) (pm_var (i := 3)) (pm_int)) (pe_ty (T := "str") T.n_str (by decide +kernel)))))))))
        (pms_one (pms_ret (pm_bl)))
        (pms_nil))
      (pms_one (pms_if (pmt_cmp (o_in (hu_of hr)) (pm_ix (hu_of hr) (pm_var (i := 3)) (pm_int)) (pm_tup (pma_cons (pm_str) (pma_cons (pm_str) (pma_nil)))))
        (pms_one (pms_if (pmt_cmp (o_ne hr.units) (pm_callB c_len T.n_len (by decide +kernel) (pma_cons (pm_var (i := 3)) (pma_nil))) (pm_int))
          (pms_one (pms_ret (pm_bl)))
          (pms_nil)))
        (pms_one (pms_if (pmt_cmp (o_in (hu_of hr)) (pm_ix (hu_of hr) (pm_var (i := 3)) (pm_int)) (pm_tup (pma_cons (pm_str) (pma_cons (pm_str) (pma_nil)))))
          (pms_cons (pms_if (pmt_w (pmw_or (pmt_cmp (o_ne hr.units) (pm_callB c_len T.n_len (by decide +kernel) (pma_cons (pm_var (i := 3)) (pma_nil))) (pm_int)) (pmw_or (pmt_not (pmt_tr (pm_call G_is_name (hr.mono (by decide)) (pma_cons (pm_ix (hu_of hr) (pm_var (i := 3)) (pm_int)) (pma_nil))))) (pmw_or1 (pmt_w (pmw_and (pmt_cmp (o_eq hr.units) (pm_ix (hu_of hr) (pm_var (i := 3)) (pm_int)) (pm_str)) (pmw_and1 (pmt_cmp (o_notin (hu_of hr)) (pm_ix (hu_of hr) (pm_var (i := 3)) (pm_int)) (pm_var (i := 1))))))))))
            (pms_one (pms_ret (pm_bl)))
            (pms_nil))
          (pms_one (pms_drop (pm_mt PySem.F.slot_list_append PySem.F.type_list_append m_app (pm_var (i := 2)) (pma_cons (pm_ix (hu_of hr) (pm_var (i := 3)) (pm_int)) (pma_nil))))))
          (pms_one (pms_if (pmt_w (pmw_or (pmt_cmp (o_ne hr.units) (pm_ix (hu_of hr) (pm_var (i := 3)) (pm_int)) (pm_str)) (pmw_or (pmt_cmp (o_ne hr.units) (pm_callB c_len T.n_len (by decide +kernel) (pma_cons (pm_var (i := 3)) (pma_nil))) (pm_int)) (pmw_or1 (pmt_not (pmt_tr (pm_call G_has_rows (hr.mono (by decide)) (pma_cons (pm_ix (hu_of hr) (pm_var (i := 3)) (pm_int)) (pma_nil)))))))))
            (pms_one (pms_ret (pm_bl)))
            (pms_one (pms_drop (pm_mt PySem.F.slot_list_extend PySem.F.type_list_extend m_ext (pm_var (i := 2)) (pma_cons (pm_frz (pml_lc (own := [("row", 4)]) sc_is_body.nd (pmi_seq (pm_ix (hu_of hr) (pm_var (i := 3)) (pm_int))) (blkOk_by (own := [("row", 4)]) (N := N_is_body) (sc := defScope s_is_body) (by decide +kernel)) (fun _ _ _ _ _ => pmg_name sc_is_body.nd (i := 4)) (fun _ _ _ _ _ => pmts_no) (fun _ _ _ _ _ => pm_ix (hu_of hr) (pm_var (i := 4)) (pm_int)))) (pma_nil))))))))))))))
    (pms_one (pms_ret (pm_bl))))
theorem ok_is_program (T : Txt K mg) {f : Addr} {fd : FuncData} (F0 : Fun K "is_program" "is_program" s_is_program f fd) (hb : Binds K fd ["value"] []) (hm : mg "is_program" = some (.ref f)) (G_is_name : FnM P w K mg base 1 "is_name" 1 F_is_name) (G_is_body : FnM P w K mg base 6 "is_body" 2 F_is_body) : FnM P w K mg base 7 "is_program" 1 F_is_program :=
  fn_mk (k := 6) F0 sc_is_program hb hm fun cdv A outer s H E hr =>
    pms_cons (pms_if (pmt_w (pmw_or (pmt_not (pmt_tr (pm_isi T.n_isinstance (pm_var (i := 0)) (pe_ty (T := "tuple") T.n_tuple (by decide +kernel))))) (pmw_or1 (pmt_cmp (o_eq hr.units) (pm_callB c_len T.n_len (by decide +kernel) (pma_cons (pm_var (i := 0)) (pma_nil))) (pm_int)))))
      (pms_one (pms_ret (pm_bl)))
      (pms_nil))
    (pms_cons (pms_set (i := 1) sc_is_program.nd (pm_dic0))
    (pms_cons (pms_for PassesOwn.never (pmi_seq (pm_var (i := 0))) (pmg_name sc_is_program.nd (i := 2))
      (pms_cons (pms_if (pmt_w (pmw_or (pmt_not (pmt_tr (pm_isi T.n_isinstance (pm_var (i := 2)) (pe_ty (T := "tuple") T.n_tuple (by decide +kernel))))) (pmw_or (pmt_cmp (o_ne hr.units) (pm_callB c_len T.n_len (by decide +kernel) (pma_cons (pm_var (i := 2)) (pma_nil))) (pm_int)) (pmw_or (pmt_not (pmt_tr (pm_call G_is_name (hr.mono (by decide)) (pma_cons (pm_ix (hu_of hr) (pm_var (i := 2)) (pm_int)) (pma_nil))))) (pmw_or1 (pmt_cmp (o_in (hu_of hr)) (pm_ix (hu_of hr) (pm_var (i := 2)) (pm_int)) (pm_var (i := 1))))))))
        (pms_one (pms_ret (pm_bl)))
        (pms_nil))
      (pms_one (pms_asg (pm_bl) (pmg_sub (hu_of hr) (pm_var (i := 1)) (pm_ix (hu_of hr) (pm_var (i := 2)) (pm_int)))))))
    (pms_one (pms_ret (pm_callB (c_all rfl) T.n_all (by decide +kernel) (pma_cons (pm_frz (pml_lc (own := [("name", 3), ("body", 4)]) sc_is_program.nd (pmi_seq (pm_var (i := 0))) (blkOk_by (own := [("name", 3), ("body", 4)]) (N := N_is_program) (sc := defScope s_is_program) (by decide +kernel)) (fun _ _ _ _ _ => pmg_tup rfl (pmgs_cons (pmg_name sc_is_program.nd (i := 3)) (pmgs_cons (pmg_name sc_is_program.nd (i := 4)) (pmgs_nil)))) (fun _ _ _ _ _ => pmts_no) (fun _ _ _ _ _ => pm_call G_is_body (hr.mono (by decide)) (pma_cons (pm_var (i := 4)) (pma_cons (pm_var (i := 1)) (pma_nil)))))) (pma_nil)))))))
theorem ok__law_start (T : Txt K mg) {f : Addr} {fd : FuncData} (F0 : Fun K "_law_start" "_law_start" s__law_start f fd) (hb : Binds K fd ["script"] []) (hm : mg "_law_start" = some (.ref f)) : FnM P w K mg base 1 "_law_start" 1 F__law_start :=
  fn_mkL (k := 0) F0 sc__law_start hb hm fun cdv A outer s H E hr =>
    pms_one (pms_ret (pm_mut (pml_lst (pma_cons (pm_frz (pml_lc (own := [("cell", 1)]) sc__law_start.nd (pmi_seq (pm_sl (pm_var (i := 0)) (pmo_none) (pmo_some (pm_int)))) (blkOk_by (own := [("cell", 1)]) (N := N__law_start) (sc := defScope s__law_start) (by decide +kernel)) (fun _ _ _ _ _ => pmg_name sc__law_start.nd (i := 1)) (fun _ _ _ _ _ => pmts_no) (fun _ _ _ _ _ => pm_callTy c_int T.n_int (by decide +kernel) (pma_cons (pm_var (i := 1)) (pma_nil))))) (pma_cons (pm_int) (pma_cons (pm_int) (pma_cons (pm_int) (pma_cons (pm_int) (pma_nil)))))))))
theorem ok__law_fill (T : Txt K mg) {f : Addr} {fd : FuncData} (F0 : Fun K "_law_fill" "_law_fill" s__law_fill f fd) (hb : Binds K fd ["c"] []) (hm : mg "_law_fill" = some (.ref f)) : FnM P w K mg base 1 "_law_fill" 1 F__law_fill :=
  fn_mk (k := 0) F0 sc__law_fill hb hm fun cdv A outer s H E hr =>
    pms_cons (pms_asg (pm_op o_add (pm_ix (hu_of hr) (pm_var (i := 0)) (pm_int)) (pm_int)) (pmg_sub (hu_of hr) (pm_var (i := 0)) (pm_int)))
    (pms_cons (pms_set (i := 1) sc__law_fill.nd (pm_op o_add (pm_op o_mul (pm_ix (hu_of hr) (pm_var (i := 0)) (pm_int)) (pm_int)) (pm_int)))
    (pms_cons (pms_if (pmt_cmp o_lt (pm_ix (hu_of hr) (pm_var (i := 0)) (pm_int)) (pm_callB c_len T.n_len (by decide +kernel) (pma_cons (pm_ix (hu_of hr) (pm_var (i := 0)) (pm_int)) (pma_nil))))
      (pms_cons (pms_set (i := 1) sc__law_fill.nd (pm_ix (hu_of hr) (pm_ix (hu_of hr) (pm_var (i := 0)) (pm_int)) (pm_ix (hu_of hr) (pm_var (i := 0)) (pm_int))))
      (pms_cons (pms_asg (pm_op o_add (pm_ix (hu_of hr) (pm_var (i := 0)) (pm_int)) (pm_int)) (pmg_sub (hu_of hr) (pm_var (i := 0)) (pm_int)))
      (pms_cons (pms_if (pmt_cmp o_lt (pm_var (i := 1)) (pm_int))
        (pms_one (pms_set (i := 1) sc__law_fill.nd (pm_op o_sub (pm_op o_sub (pm_int) (pm_int)) (pm_var (i := 1)))))
        (pms_nil))
      (pms_one (pms_if (pmt_cmp o_ge (pm_var (i := 1)) (pm_op o_pow (pm_int) (pm_int)))
        (pms_one (pms_ret (pm_var (i := 1))))
        (pms_nil))))))
      (pms_nil))
    (pms_cons (pms_if (pmt_w (pmw_and (pmt_tr (pm_ix (hu_of hr) (pm_var (i := 0)) (pm_int))) (pmw_and1 (pmt_cmp o_ge (pm_ix (hu_of hr) (pm_var (i := 0)) (pm_int)) (pm_callB c_len T.n_len (by decide +kernel) (pma_cons (pm_ix (hu_of hr) (pm_var (i := 0)) (pm_int)) (pma_nil)))))))
      (pms_one (pms_set (i := 1) sc__law_fill.nd (pm_op o_add (pm_var (i := 1)) (pm_op o_mod (pm_callTy c_int T.n_int (by decide +kernel) (pma_cons (pm_ix (hu_of hr) (pm_ix (hu_of hr) (pm_var (i := 0)) (pm_int)) (pm_neg (pm_int))) (pma_nil))) (pm_int)))))
      (pms_nil))
    (pms_cons (pms_set (i := 1) sc__law_fill.nd (pm_op o_mod (pm_callTy c_int T.n_int (by decide +kernel) (pma_cons (pm_op o_add (pm_op o_mul (pm_var (i := 1)) (pm_int)) (pm_op o_mul (pm_ix (hu_of hr) (pm_var (i := 0)) (pm_int)) (pm_int))) (pma_nil))) (pm_int)))
    (pms_one (pms_ret (pm_op o_add (pm_op o_div (pm_callTy c_int T.n_int (by decide +kernel) (pma_cons (pm_op o_add (pm_op o_add (pm_op o_mul (pm_var (i := 1)) (pm_var (i := 1))) (pm_op o_mul (pm_ix (hu_of hr) (pm_var (i := 0)) (pm_int)) (pm_int))) (pm_int)) (pma_nil))) (pm_int)) (pm_int))))))))
theorem ok__law_take (T : Txt K mg) {f : Addr} {fd : FuncData} (F0 : Fun K "_law_take" "_law_take" s__law_take f fd) (hb : Binds K fd ["c", "many"] []) (hm : mg "_law_take" = some (.ref f)) (G__law_fill : FnM P w K mg base 1 "_law_fill" 1 F__law_fill) : FnM P w K mg base 2 "_law_take" 2 F__law_take :=
  fn_mk (k := 1) F0 sc__law_take hb hm fun cdv A outer s H E hr =>
    pms_cons (pms_if (pmt_cmp o_lt (pm_ix (hu_of hr) (pm_var (i := 0)) (pm_int)) (pm_var (i := 1)))
      (pms_one (pms_asg (pm_call G__law_fill (hr.mono (by decide)) (pma_cons (pm_var (i := 0)) (pma_nil))) (pmg_sub (hu_of hr) (pm_var (i := 0)) (pm_int))))
      (pms_nil))
    (pms_cons (pms_set (i := 2) sc__law_take.nd (pm_op o_mod (pm_callTy c_int T.n_int (by decide +kernel) (pma_cons (pm_ix (hu_of hr) (pm_var (i := 0)) (pm_int)) (pma_nil))) (pm_var (i := 1))))
    (pms_cons (pms_asg (pm_op o_div (pm_ix (hu_of hr) (pm_var (i := 0)) (pm_int)) (pm_var (i := 1))) (pmg_sub (hu_of hr) (pm_var (i := 0)) (pm_int)))
    (pms_one (pms_ret (pm_var (i := 2))))))
theorem ok__law_divisor (T : Txt K mg) {f : Addr} {fd : FuncData} (F0 : Fun K "_law_divisor" "_law_divisor" s__law_divisor f fd) (hb : Binds K fd ["a", "b"] []) (hm : mg "_law_divisor" = some (.ref f)) : FnM P w K mg base 1 "_law_divisor" 2 F__law_divisor :=
  fn_mk (k := 0) F0 sc__law_divisor hb hm fun cdv A outer s H E hr =>
    pms_cons (pms_for PassesOwn.never (pmi_r1 T.n_range (pma_cons (pm_int) (pma_nil))) (pmg_name sc__law_divisor.nd (i := 2))
      (pms_cons (pms_if (pmt_cmp (o_eq hr.units) (pm_var (i := 1)) (pm_int))
        (pms_one (pms_ret (pm_callB c_abs T.n_abs (by decide +kernel) (pma_cons (pm_var (i := 0)) (pma_nil)))))
        (pms_nil))
      (pms_one (pms_par (i := 0) (j := 1) sc__law_divisor.nd (pma_cons (pm_var (i := 1)) (pma_cons (pm_op o_mod (pm_var (i := 0)) (pm_var (i := 1))) pma_nil))))))
    (pms_one (pms_ret (pm_int)))
theorem ok__law_fraction (T : Txt K mg) {f : Addr} {fd : FuncData} (F0 : Fun K "_law_fraction" "_law_fraction" s__law_fraction f fd) (hb : Binds K fd ["n", "d"] []) (hm : mg "_law_fraction" = some (.ref f)) (G__law_divisor : FnM P w K mg base 1 "_law_divisor" 2 F__law_divisor) : FnM P w K mg base 2 "_law_fraction" 2 F__law_fraction :=
  fn_mk (k := 1) F0 sc__law_fraction hb hm fun cdv A outer s H E hr =>
    pms_cons (pms_set (i := 2) sc__law_fraction.nd (pm_call G__law_divisor (hr.mono (by decide)) (pma_cons (pm_var (i := 0)) (pma_cons (pm_var (i := 1)) (pma_nil)))))
    (pms_cons (pms_set (i := 2) sc__law_fraction.nd (pm_ife (pmt_cmp o_gt (pm_var (i := 1)) (pm_int)) (pm_var (i := 2)) (pm_op o_sub (pm_int) (pm_var (i := 2)))))
    (pms_one (pms_ret (pm_tup (pma_cons (pm_op o_div (pm_var (i := 0)) (pm_var (i := 2))) (pma_cons (pm_op o_div (pm_var (i := 1)) (pm_var (i := 2))) (pma_nil)))))))
theorem ok__law_plus (T : Txt K mg) {f : Addr} {fd : FuncData} (F0 : Fun K "_law_plus" "_law_plus" s__law_plus f fd) (hb : Binds K fd ["a", "b"] []) (hm : mg "_law_plus" = some (.ref f)) (G__law_fraction : FnM P w K mg base 2 "_law_fraction" 2 F__law_fraction) : FnM P w K mg base 3 "_law_plus" 2 F__law_plus :=
  fn_mk (k := 2) F0 sc__law_plus hb hm fun cdv A outer s H E hr =>
    pms_one (pms_ret (pm_call G__law_fraction (hr.mono (by decide)) (pma_cons (pm_op o_add (pm_op o_mul (pm_ix (hu_of hr) (pm_var (i := 0)) (pm_int)) (pm_ix (hu_of hr) (pm_var (i := 1)) (pm_int))) (pm_op o_mul (pm_ix (hu_of hr) (pm_var (i := 1)) (pm_int)) (pm_ix (hu_of hr) (pm_var (i := 0)) (pm_int)))) (pma_cons (pm_op o_mul (pm_ix (hu_of hr) (pm_var (i := 0)) (pm_int)) (pm_ix (hu_of hr) (pm_var (i := 1)) (pm_int))) (pma_nil)))))
theorem ok__law_times (T : Txt K mg) {f : Addr} {fd : FuncData} (F0 : Fun K "_law_times" "_law_times" s__law_times f fd) (hb : Binds K fd ["a", "b"] []) (hm : mg "_law_times" = some (.ref f)) (G__law_fraction : FnM P w K mg base 2 "_law_fraction" 2 F__law_fraction) : FnM P w K mg base 3 "_law_times" 2 F__law_times :=
  fn_mk (k := 2) F0 sc__law_times hb hm fun cdv A outer s H E hr =>
    pms_one (pms_ret (pm_call G__law_fraction (hr.mono (by decide)) (pma_cons (pm_op o_mul (pm_ix (hu_of hr) (pm_var (i := 0)) (pm_int)) (pm_ix (hu_of hr) (pm_var (i := 1)) (pm_int))) (pma_cons (pm_op o_mul (pm_ix (hu_of hr) (pm_var (i := 0)) (pm_int)) (pm_ix (hu_of hr) (pm_var (i := 1)) (pm_int))) (pma_nil)))))
theorem ok__law_cut (T : Txt K mg) {f : Addr} {fd : FuncData} (F0 : Fun K "_law_cut" "_law_cut" s__law_cut f fd) (hb : Binds K fd ["c"] []) (hm : mg "_law_cut" = some (.ref f)) (G__law_take : FnM P w K mg base 2 "_law_take" 2 F__law_take) (G__law_fraction : FnM P w K mg base 2 "_law_fraction" 2 F__law_fraction) (G__law_plus : FnM P w K mg base 3 "_law_plus" 2 F__law_plus) (G__law_times : FnM P w K mg base 3 "_law_times" 2 F__law_times) : FnM P w K mg base 4 "_law_cut" 1 F__law_cut :=
  fn_mk (k := 3) F0 sc__law_cut hb hm fun cdv A outer s H E hr =>
    pms_cons (pms_set (i := 1) sc__law_cut.nd (pm_frz (pml_lst (pma_cons (pm_tup (pma_cons (pm_int) (pma_cons (pm_int) (pma_nil)))) (pma_cons (pm_tup (pma_cons (pm_int) (pma_cons (pm_int) (pma_nil)))) (pma_cons (pm_tup (pma_cons (pm_int) (pma_cons (pm_int) (pma_nil)))) (pma_cons (pm_tup (pma_cons (pm_int) (pma_cons (pm_int) (pma_nil)))) (pma_cons (pm_tup (pma_cons (pm_int) (pma_cons (pm_int) (pma_nil)))) (pma_cons (pm_tup (pma_cons (pm_int) (pma_cons (pm_int) (pma_nil)))) (pma_cons (pm_tup (pma_cons (pm_int) (pma_cons (pm_int) (pma_nil)))) (pma_cons (pm_tup (pma_cons (pm_int) (pma_cons (pm_int) (pma_nil)))) (pma_cons (pm_tup (pma_cons (pm_int) (pma_cons (pm_int) (pma_nil)))) (pma_nil)))))))))))))
    (pms_cons (pms_asg (pm_ix (hu_of hr) (pm_var (i := 1)) (pm_call G__law_take (hr.mono (by decide)) (pma_cons (pm_var (i := 0)) (pma_cons (pm_int) (pma_nil))))) (pmg_tup rfl (pmgs_cons (pmg_name sc__law_cut.nd (i := 2)) (pmgs_cons (pmg_name sc__law_cut.nd (i := 3)) (pmgs_nil)))))
    (pms_cons (pms_if (pmt_cmp (o_eq hr.units) (pm_var (i := 3)) (pm_int))
      (pms_one (pms_ret (pm_frz (pml_lst (pma_cons (pm_tup (pma_cons (pm_int) (pma_cons (pm_int) (pma_nil)))) (pma_nil))))))
      (pms_nil))
    (pms_cons (pms_set (i := 4) sc__law_cut.nd (pm_mut (pml_lst (pma_cons (pm_tup (pma_cons (pm_var (i := 2)) (pma_cons (pm_var (i := 3)) (pma_nil)))) (pma_nil)))))
    (pms_cons (pms_set (i := 5) sc__law_cut.nd (pm_call G__law_fraction (hr.mono (by decide)) (pma_cons (pm_op o_sub (pm_var (i := 3)) (pm_var (i := 2))) (pma_cons (pm_var (i := 3)) (pma_nil)))))
    (pms_cons (pms_if (pmt_cmp (o_eq hr.units) (pm_call G__law_take (hr.mono (by decide)) (pma_cons (pm_var (i := 0)) (pma_cons (pm_int) (pma_nil)))) (pm_int))
      (pms_cons (pms_asg (pm_ix (hu_of hr) (pm_var (i := 1)) (pm_op o_add (pm_int) (pm_call G__law_take (hr.mono (by decide)) (pma_cons (pm_var (i := 0)) (pma_cons (pm_int) (pma_nil)))))) (pmg_tup rfl (pmgs_cons (pmg_name sc__law_cut.nd (i := 2)) (pmgs_cons (pmg_name sc__law_cut.nd (i := 3)) (pmgs_nil)))))
      (pms_cons (pms_set (i := 6) sc__law_cut.nd (pm_call G__law_times (hr.mono (by decide)) (pma_cons (pm_var (i := 5)) (pma_cons (pm_tup (pma_cons (pm_var (i := 2)) (pma_cons (pm_var (i := 3)) (pma_nil)))) (pma_nil)))))
      (pms_cons (pms_drop (pm_mt PySem.F.slot_list_append PySem.F.type_list_append m_app (pm_var (i := 4)) (pma_cons (pm_var (i := 6)) (pma_nil))))
      (pms_one (pms_set (i := 5) sc__law_cut.nd (pm_call G__law_plus (hr.mono (by decide)) (pma_cons (pm_var (i := 5)) (pma_cons (pm_tup (pma_cons (pm_op o_sub (pm_int) (pm_ix (hu_of hr) (pm_var (i := 6)) (pm_int))) (pma_cons (pm_ix (hu_of hr) (pm_var (i := 6)) (pm_int)) (pma_nil)))) (pma_nil)))))))))
      (pms_nil))
    (pms_one (pms_ret (pm_op o_add (pm_var (i := 4)) (pm_frz (pml_lst (pma_cons (pm_var (i := 5)) (pma_nil))))))))))))
theorem ok__law_body (T : Txt K mg) {f : Addr} {fd : FuncData} (F0 : Fun K "_law_body" "_law_body" s__law_body f fd) (hb : Binds K fd ["c", "names", "letters", "deep"] []) (hm : mg "_law_body" = some (.ref f)) (G__law_take : FnM P w K mg base 2 "_law_take" 2 F__law_take) (G__law_cut : FnM P w K mg base 4 "_law_cut" 1 F__law_cut) : ∀ n : Nat, FnM P w K mg base (4 + n) "_law_body" 4 (F__law_body n)
  | 0 => fn_none F0 hb hm
  | n + 1 => by
    have ih := ok__law_body T F0 hb hm G__law_take G__law_cut n
    exact (fn_mk (k := 4 + n) F0 sc__law_body hb hm fun cdv A outer s H E hr =>
      pms_cons (pms_set (i := 4) sc__law_body.nd (pm_call G__law_take (hr.mono (by omega)) (pma_cons (pm_var (i := 0)) (pma_cons (pm_int) (pma_nil)))))
    (pms_cons (pms_if (pmt_w (pmw_or (pmt_cmp o_lt (pm_var (i := 3)) (pm_int)) (pmw_or1 (pmt_cmp (o_eq hr.units) (pm_var (i := 4)) (pm_int)))))
      (pms_one (pms_ret (pm_ix (hu_of hr) (pm_frz (pml_lst (pma_cons (pm_tup (pma_cons (pm_str) (pma_nil))) (pma_cons (pm_tup (pma_cons (pm_str) (pma_nil))) (pma_cons (pm_tup (pma_cons (pm_str) (pma_nil))) (pma_cons (pm_tup (pma_cons (pm_str) (pma_nil))) (pma_cons (pm_tup (pma_cons (pm_str) (pma_nil))) (pma_nil)))))))) (pm_call G__law_take (hr.mono (by omega)) (pma_cons (pm_var (i := 0)) (pma_cons (pm_int) (pma_nil)))))))
      (pms_nil))
    (pms_cons (pms_if (pmt_w (pmw_and (pmt_cmp o_lt (pm_var (i := 4)) (pm_int)) (pmw_and1 (pmt_tr (pm_var (i := 2))))))
      (pms_one (pms_ret (pm_tup (pma_cons (pm_str) (pma_cons (pm_ix (hu_of hr) (pm_var (i := 2)) (pm_call G__law_take (hr.mono (by omega)) (pma_cons (pm_var (i := 0)) (pma_cons (pm_callB c_len T.n_len (by decide +kernel) (pma_cons (pm_var (i := 2)) (pma_nil))) (pma_nil))))) (pma_cons (pm_call ih (hr.mono (by omega)) (pma_cons (pm_var (i := 0)) (pma_cons (pm_var (i := 1)) (pma_cons (pm_var (i := 2)) (pma_cons (pm_op o_sub (pm_var (i := 3)) (pm_int)) (pma_nil)))))) (pma_nil)))))))
      (pms_nil))
    (pms_cons (pms_if (pmt_cmp o_lt (pm_var (i := 4)) (pm_int))
      (pms_one (pms_ret (pm_tup (pma_cons (pm_str) (pma_cons (pm_ix (hu_of hr) (pm_var (i := 1)) (pm_call G__law_take (hr.mono (by omega)) (pma_cons (pm_var (i := 0)) (pma_cons (pm_callB c_len T.n_len (by decide +kernel) (pma_cons (pm_var (i := 1)) (pma_nil))) (pma_nil))))) (pma_cons (pm_call ih (hr.mono (by omega)) (pma_cons (pm_var (i := 0)) (pma_cons (pm_var (i := 1)) (pma_cons (pm_var (i := 2)) (pma_cons (pm_op o_sub (pm_var (i := 3)) (pm_int)) (pma_nil)))))) (pma_nil)))))))
      (pms_nil))
    (pms_one (pms_ret (pm_tup (pma_cons (pm_str) (pma_cons (pm_callTy c_tup T.n_tuple (by decide +kernel) (pma_cons (pm_frz (pml_lc (own := [("one", 5)]) sc__law_body.nd (pmi_seq (pm_call G__law_cut (hr.mono (by omega)) (pma_cons (pm_var (i := 0)) (pma_nil)))) (blkOk_by (own := [("one", 5)]) (N := N__law_body) (sc := defScope s__law_body) (by decide +kernel)) (fun _ _ _ _ _ => pmg_name sc__law_body.nd (i := 5)) (fun _ _ _ _ _ => pmts_no) (fun _ _ _ _ _ => pm_tup (pma_cons (pm_var (i := 5)) (pma_cons (pm_call ih (hr.mono (by omega)) (pma_cons (pm_var (i := 0)) (pma_cons (pm_var (i := 1)) (pma_cons (pm_var (i := 2)) (pma_cons (pm_op o_sub (pm_var (i := 3)) (pm_int)) (pma_nil)))))) (pma_nil)))))) (pma_nil))) (pma_nil))))))))))
theorem ok__law_program (T : Txt K mg) {f : Addr} {fd : FuncData} (F0 : Fun K "_law_program" "_law_program" s__law_program f fd) (hb : Binds K fd ["c"] []) (hm : mg "_law_program" = some (.ref f)) (G__law_take : FnM P w K mg base 2 "_law_take" 2 F__law_take) (G__law_body : FnM P w K mg base 12 "_law_body" 4 (F__law_body 8)) : FnM P w K mg base 13 "_law_program" 1 F__law_program :=
  fn_mk (k := 12) F0 sc__law_program hb hm fun cdv A outer s H E hr =>
    pms_cons (pms_set (i := 1) sc__law_program.nd (pm_sl (pm_frz (pml_lst (pma_cons (pm_str) (pma_cons (pm_str) (pma_cons (pm_str) (pma_cons (pm_str) (pma_nil))))))) (pmo_none) (pmo_some (pm_op o_add (pm_int) (pm_call G__law_take (hr.mono (by decide)) (pma_cons (pm_var (i := 0)) (pma_cons (pm_int) (pma_nil))))))))
    (pms_cons (pms_set (i := 2) sc__law_program.nd (pm_call G__law_take (hr.mono (by decide)) (pma_cons (pm_var (i := 0)) (pma_cons (pm_callB c_len T.n_len (by decide +kernel) (pma_cons (pm_var (i := 1)) (pma_nil))) (pma_nil)))))
    (pms_cons (pms_set (i := 1) sc__law_program.nd (pm_op o_add (pm_sl (pm_var (i := 1)) (pmo_some (pm_var (i := 2))) (pmo_none)) (pm_sl (pm_var (i := 1)) (pmo_none) (pmo_some (pm_var (i := 2))))))
    (pms_cons (pms_set (i := 3) sc__law_program.nd (pm_sl (pm_frz (pml_lst (pma_cons (pm_str) (pma_cons (pm_str) (pma_cons (pm_str) (pma_nil)))))) (pmo_none) (pmo_some (pm_call G__law_take (hr.mono (by decide)) (pma_cons (pm_var (i := 0)) (pma_cons (pm_int) (pma_nil)))))))
    (pms_one (pms_ret (pm_callTy c_tup T.n_tuple (by decide +kernel) (pma_cons (pm_frz (pml_lc (own := [("name", 4)]) sc__law_program.nd (pmi_seq (pm_var (i := 1))) (blkOk_by (own := [("name", 4)]) (N := N__law_program) (sc := defScope s__law_program) (by decide +kernel)) (fun _ _ _ _ _ => pmg_name sc__law_program.nd (i := 4)) (fun _ _ _ _ _ => pmts_no) (fun _ _ _ _ _ => pm_tup (pma_cons (pm_var (i := 4)) (pma_cons (pm_call G__law_body (hr.mono (by decide)) (pma_cons (pm_var (i := 0)) (pma_cons (pm_var (i := 1)) (pma_cons (pm_var (i := 3)) (pma_cons (pm_op o_add (pm_int) (pm_call G__law_take (hr.mono (by decide)) (pma_cons (pm_var (i := 0)) (pma_cons (pm_int) (pma_nil))))) (pma_nil)))))) (pma_nil)))))) (pma_nil))))))))
theorem ok__law_is_name (T : Txt K mg) {f : Addr} {fd : FuncData} (F0 : Fun K "_law_is_name" "_law_is_name" s__law_is_name f fd) (hb : Binds K fd ["value"] []) (hm : mg "_law_is_name" = some (.ref f)) : FnM P w K mg base 1 "_law_is_name" 1 F__law_is_name :=
  fn_mk (k := 0) F0 sc__law_is_name hb hm fun cdv A outer s H E hr =>
    pms_cons (pms_if (pmt_w (pmw_or (pmt_not (pmt_tr (pm_isi T.n_isinstance (pm_var (i := 0)) (pe_ty (T := "str") T.n_str (by decide +kernel))))) (pmw_or (pmt_cmp o_lt (pm_callB c_len T.n_len (by decide +kernel) (pma_cons (pm_var (i := 0)) (pma_nil))) (pm_int)) (pmw_or (pmt_cmp o_gt (pm_callB c_len T.n_len (by decide +kernel) (pma_cons (pm_var (i := 0)) (pma_nil))) (pm_int)) (pmw_or1 (pmt_cmp (o_in (hu_of hr)) (pm_var (i := 0)) (pm_frz (pml_lst (pma_cons (pm_str) (pma_cons (pm_str) (pma_nil)))))))))))
      (pms_one (pms_ret (pm_bl)))
      (pms_nil))
    (pms_cons (pms_set (i := 1) sc__law_is_name.nd (pm_str))
    (pms_one (pms_ret (pm_and (pm_cmp (o_in (hu_of hr)) (pm_ix (hu_of hr) (pm_var (i := 0)) (pm_int)) (pm_var (i := 1))) (pm_one (pm_callB (c_all rfl) T.n_all (by decide +kernel) (pma_cons (pm_frz (pml_lc (own := [("sign", 2)]) sc__law_is_name.nd (pmi_txt (pm_var (i := 0))) (blkOk_by (own := [("sign", 2)]) (N := N__law_is_name) (sc := defScope s__law_is_name) (by decide +kernel)) (fun _ _ _ _ _ => pmg_name sc__law_is_name.nd (i := 2)) (fun _ _ _ _ _ => pmts_no) (fun _ _ _ _ _ => pm_cmp (o_in (hu_of hr)) (pm_var (i := 2)) (pm_op o_add (pm_var (i := 1)) (pm_str))))) (pma_nil))))))))
theorem ok__law_is_int (T : Txt K mg) {f : Addr} {fd : FuncData} (F0 : Fun K "_law_is_int" "_law_is_int" s__law_is_int f fd) (hb : Binds K fd ["value"] []) (hm : mg "_law_is_int" = some (.ref f)) : FnM P w K mg base 1 "_law_is_int" 1 F__law_is_int :=
  fn_mk (k := 0) F0 sc__law_is_int hb hm fun cdv A outer s H E hr =>
    pms_one (pms_ret (pm_and (pm_isi T.n_isinstance (pm_var (i := 0)) (pe_ty (T := "int") T.n_int (by decide +kernel))) (pm_one (pm_not (pm_isi T.n_isinstance (pm_var (i := 0)) (pe_ty (T := "bool") T.n_bool (by decide +kernel)))))))
theorem ok__law_is_fraction (T : Txt K mg) {f : Addr} {fd : FuncData} (F0 : Fun K "_law_is_fraction" "_law_is_fraction" s__law_is_fraction f fd) (hb : Binds K fd ["value"] []) (hm : mg "_law_is_fraction" = some (.ref f)) (G__law_divisor : FnM P w K mg base 1 "_law_divisor" 2 F__law_divisor) (G__law_is_int : FnM P w K mg base 1 "_law_is_int" 1 F__law_is_int) : FnM P w K mg base 2 "_law_is_fraction" 1 F__law_is_fraction :=
  fn_mk (k := 1) F0 sc__law_is_fraction hb hm fun cdv A outer s H E hr =>
    pms_cons (pms_if (pmt_w (pmw_or (pmt_not (pmt_tr (pm_isi T.n_isinstance (pm_var (i := 0)) (pe_ty (T := "tuple") T.n_tuple (by decide +kernel))))) (pmw_or (pmt_cmp (o_ne hr.units) (pm_callB c_len T.n_len (by decide +kernel) (pma_cons (pm_var (i := 0)) (pma_nil))) (pm_int)) (pmw_or (pmt_not (pmt_tr (pm_call G__law_is_int (hr.mono (by decide)) (pma_cons (pm_ix (hu_of hr) (pm_var (i := 0)) (pm_int)) (pma_nil))))) (pmw_or1 (pmt_not (pmt_tr (pm_call G__law_is_int (hr.mono (by decide)) (pma_cons (pm_ix (hu_of hr) (pm_var (i := 0)) (pm_int)) (pma_nil))))))))))
      (pms_one (pms_ret (pm_bl)))
      (pms_nil))
    (pms_one (pms_ret (pm_and (pm_cmp o_gt (pm_ix (hu_of hr) (pm_var (i := 0)) (pm_int)) (pm_int)) (pm_and (pm_cmp o_gt (pm_ix (hu_of hr) (pm_var (i := 0)) (pm_int)) (pm_int)) (pm_one (pm_cmp (o_eq hr.units) (pm_call G__law_divisor (hr.mono (by decide)) (pma_cons (pm_ix (hu_of hr) (pm_var (i := 0)) (pm_int)) (pma_cons (pm_ix (hu_of hr) (pm_var (i := 0)) (pm_int)) (pma_nil)))) (pm_int)))))))
theorem ok__law_is_body (T : Txt K mg) {f : Addr} {fd : FuncData} (F0 : Fun K "_law_is_body" "_law_is_body" s__law_is_body f fd) (hb : Binds K fd ["value", "names"] []) (hm : mg "_law_is_body" = some (.ref f)) (G__law_plus : FnM P w K mg base 3 "_law_plus" 2 F__law_plus) (G__law_is_name : FnM P w K mg base 1 "_law_is_name" 1 F__law_is_name) (G__law_is_fraction : FnM P w K mg base 2 "_law_is_fraction" 1 F__law_is_fraction) : ∀ n : Nat, FnM P w K mg base (3 + n) "_law_is_body" 2 (F__law_is_body n)
  | 0 => fn_none F0 hb hm
  | n + 1 => by
    have ih := ok__law_is_body T F0 hb hm G__law_plus G__law_is_name G__law_is_fraction n
    exact (fn_mk (k := 3 + n) F0 sc__law_is_body hb hm fun cdv A outer s H E hr =>
      pms_cons (pms_if (pmt_w (pmw_or (pmt_not (pmt_tr (pm_isi T.n_isinstance (pm_var (i := 0)) (pe_ty (T := "tuple") T.n_tuple (by decide +kernel))))) (pmw_or (pmt_not (pmt_tr (pm_var (i := 0)))) (pmw_or1 (pmt_not (pmt_tr (pm_isi T.n_isinstance (pm_ix (hu_of hr) (pm_var (i := 0)) (pm_int)) (pe_ty (T := "str") T.n_str (by decide +kernel)))))))))
      (pms_one (pms_ret (pm_bl)))
      (pms_nil))
    (pms_cons (pms_if (pmt_w (pmw_or (pmt_cmp (o_eq hr.units) (pm_ix (hu_of hr) (pm_var (i := 0)) (pm_int)) (pm_str)) (pmw_or1 (pmt_cmp (o_eq hr.units) (pm_ix (hu_of hr) (pm_var (i := 0)) (pm_int)) (pm_str)))))
      (pms_one (pms_ret (pm_cmp (o_eq hr.units) (pm_callB c_len T.n_len (by decide +kernel) (pma_cons (pm_var (i := 0)) (pma_nil))) (pm_int))))
      (pms_nil))
    (pms_cons (pms_if (pmt_w (pmw_or (pmt_cmp (o_eq hr.units) (pm_ix (hu_of hr) (pm_var (i := 0)) (pm_int)) (pm_str)) (pmw_or1 (pmt_cmp (o_eq hr.units) (pm_ix (hu_of hr) (pm_var (i := 0)) (pm_int)) (pm_str)))))
      (pms_cons (pms_if (pmt_w (pmw_or (pmt_cmp (o_ne hr.units) (pm_callB c_len T.n_len (by decide +kernel) (pma_cons (pm_var (i := 0)) (pma_nil))) (pm_int)) (pmw_or (pmt_not (pmt_tr (pm_call G__law_is_name (hr.mono (by omega)) (pma_cons (pm_ix (hu_of hr) (pm_var (i := 0)) (pm_int)) (pma_nil))))) (pmw_or1 (pmt_w (pmw_and (pmt_cmp (o_eq hr.units) (pm_ix (hu_of hr) (pm_var (i := 0)) (pm_int)) (pm_str)) (pmw_and1 (pmt_cmp (o_notin (hu_of hr)) (pm_ix (hu_of hr) (pm_var (i := 0)) (pm_int)) (pm_var (i := 1))))))))))
        (pms_one (pms_ret (pm_bl)))
        (pms_nil))
      (pms_one (pms_ret (pm_call ih (hr.mono (by omega)) (pma_cons (pm_ix (hu_of hr) (pm_var (i := 0)) (pm_int)) (pma_cons (pm_var (i := 1)) (pma_nil)))))))
      (pms_nil))
    (pms_cons (pms_if (pmt_w (pmw_or (pmt_cmp (o_ne hr.units) (pm_ix (hu_of hr) (pm_var (i := 0)) (pm_int)) (pm_str)) (pmw_or (pmt_cmp (o_ne hr.units) (pm_callB c_len T.n_len (by decide +kernel) (pma_cons (pm_var (i := 0)) (pma_nil))) (pm_int)) (pmw_or (pmt_not (pmt_tr (pm_isi T.n_isinstance (pm_ix (hu_of hr) (pm_var (i := 0)) (pm_int)) (pe_ty (T := "tuple") T.n_tuple (by decide +kernel))))) (pmw_or1 (pmt_not (pmt_tr (pm_ix (hu_of hr) (pm_var (i := 0)) (pm_int)))))))))
      (pms_one (pms_ret (pm_bl)))
      (pms_nil))
    (pms_cons (pms_set (i := 2) sc__law_is_body.nd (pm_tup (pma_cons (pm_int) (pma_cons (pm_int) (pma_nil)))))
    (pms_cons (pms_for PassesOwn.never (pmi_seq (pm_ix (hu_of hr) (pm_var (i := 0)) (pm_int))) (pmg_name sc__law_is_body.nd (i := 3))
      (pms_cons (pms_if (pmt_w (pmw_or (pmt_not (pmt_tr (pm_isi T.n_isinstance (pm_var (i := 3)) (pe_ty (T := "tuple") T.n_tuple (by decide +kernel))))) (pmw_or (pmt_cmp (o_ne hr.units) (pm_callB c_len T.n_len (by decide +kernel) (pma_cons (pm_var (i := 3)) (pma_nil))) (pm_int)) (pmw_or (pmt_not (pmt_tr (pm_call G__law_is_fraction (hr.mono (by omega)) (pma_cons (pm_ix (hu_of hr) (pm_var (i := 3)) (pm_int)) (pma_nil))))) (pmw_or1 (pmt_not (pmt_tr (pm_call ih (hr.mono (by omega)) (pma_cons (pm_ix (hu_of hr) (pm_var (i := 3)) (pm_int)) (pma_cons (pm_var (i := 1)) (pma_nil)))))))))))
        (pms_one (pms_ret (pm_bl)))
        (pms_nil))
      (pms_one (pms_set (i := 2) sc__law_is_body.nd (pm_call G__law_plus (hr.mono (by omega)) (pma_cons (pm_var (i := 2)) (pma_cons (pm_ix (hu_of hr) (pm_var (i := 3)) (pm_int)) (pma_nil))))))))
    (pms_one (pms_ret (pm_cmp (o_eq hr.units) (pm_var (i := 2)) (pm_tup (pma_cons (pm_int) (pma_cons (pm_int) (pma_nil)))))))))))))
theorem ok__law_is_program (T : Txt K mg) {f : Addr} {fd : FuncData} (F0 : Fun K "_law_is_program" "_law_is_program" s__law_is_program f fd) (hb : Binds K fd ["value"] []) (hm : mg "_law_is_program" = some (.ref f)) (G__law_is_name : FnM P w K mg base 1 "_law_is_name" 1 F__law_is_name) (G__law_is_body : FnM P w K mg base 63 "_law_is_body" 2 (F__law_is_body 60)) : FnM P w K mg base 64 "_law_is_program" 1 F__law_is_program :=
  fn_mk (k := 63) F0 sc__law_is_program hb hm fun cdv A outer s H E hr =>
    pms_cons (pms_if (pmt_w (pmw_or (pmt_not (pmt_tr (pm_isi T.n_isinstance (pm_var (i := 0)) (pe_ty (T := "tuple") T.n_tuple (by decide +kernel))))) (pmw_or1 (pmt_not (pmt_tr (pm_var (i := 0)))))))
      (pms_one (pms_ret (pm_bl)))
      (pms_nil))
    (pms_cons (pms_set (i := 1) sc__law_is_program.nd (pm_mut (pml_lst (pma_nil))))
    (pms_cons (pms_for PassesOwn.never (pmi_seq (pm_var (i := 0))) (pmg_name sc__law_is_program.nd (i := 2))
      (pms_cons (pms_if (pmt_w (pmw_or (pmt_not (pmt_tr (pm_isi T.n_isinstance (pm_var (i := 2)) (pe_ty (T := "tuple") T.n_tuple (by decide +kernel))))) (pmw_or (pmt_cmp (o_ne hr.units) (pm_callB c_len T.n_len (by decide +kernel) (pma_cons (pm_var (i := 2)) (pma_nil))) (pm_int)) (pmw_or (pmt_not (pmt_tr (pm_call G__law_is_name (hr.mono (by decide)) (pma_cons (pm_ix (hu_of hr) (pm_var (i := 2)) (pm_int)) (pma_nil))))) (pmw_or1 (pmt_cmp (o_in (hu_of hr)) (pm_ix (hu_of hr) (pm_var (i := 2)) (pm_int)) (pm_var (i := 1))))))))
        (pms_one (pms_ret (pm_bl)))
        (pms_nil))
      (pms_one (pms_drop (pm_mt PySem.F.slot_list_append PySem.F.type_list_append m_app (pm_var (i := 1)) (pma_cons (pm_ix (hu_of hr) (pm_var (i := 2)) (pm_int)) (pma_nil)))))))
    (pms_one (pms_ret (pm_callB (c_all rfl) T.n_all (by decide +kernel) (pma_cons (pm_frz (pml_lc (own := [("row", 2)]) sc__law_is_program.nd (pmi_seq (pm_var (i := 0))) (blkOk_by (own := [("row", 2)]) (N := N__law_is_program) (sc := defScope s__law_is_program) (by decide +kernel)) (fun _ _ _ _ _ => pmg_name sc__law_is_program.nd (i := 2)) (fun _ _ _ _ _ => pmts_no) (fun _ _ _ _ _ => pm_call G__law_is_body (hr.mono (by decide)) (pma_cons (pm_ix (hu_of hr) (pm_var (i := 2)) (pm_int)) (pma_cons (pm_var (i := 1)) (pma_nil)))))) (pma_nil)))))))
theorem ok__law_spoilt (T : Txt K mg) {f : Addr} {fd : FuncData} (F0 : Fun K "_law_spoilt" "_law_spoilt" s__law_spoilt f fd) (hb : Binds K fd ["c", "value"] []) (hm : mg "_law_spoilt" = some (.ref f)) (G__law_take : FnM P w K mg base 2 "_law_take" 2 F__law_take) : ∀ n : Nat, FnM P w K mg base (2 + n) "_law_spoilt" 2 (F__law_spoilt n)
  | 0 => fn_none F0 hb hm
  | n + 1 => by
    have ih := ok__law_spoilt T F0 hb hm G__law_take n
    exact (fn_mk (k := 2 + n) F0 sc__law_spoilt hb hm fun cdv A outer s H E hr =>
      pms_cons (pms_if (pmt_tr (pm_isi T.n_isinstance (pm_var (i := 1)) (pe_ty (T := "str") T.n_str (by decide +kernel))))
      (pms_cons (pms_set (i := 2) sc__law_spoilt.nd (pm_frz (pml_lst (pma_cons (pm_str) (pma_cons (pm_str) (pma_cons (pm_str) (pma_cons (pm_str) (pma_cons (pm_str) (pma_cons (pm_str) (pma_cons (pm_str) (pma_cons (pm_str) (pma_cons (pm_str) (pma_cons (pm_str) (pma_cons (pm_str) (pma_cons (pm_str) (pma_cons (pm_str) (pma_cons (pm_int) (pma_nil))))))))))))))))))
      (pms_one (pms_ret (pm_ix (hu_of hr) (pm_var (i := 2)) (pm_call G__law_take (hr.mono (by omega)) (pma_cons (pm_var (i := 0)) (pma_cons (pm_int) (pma_nil))))))))
      (pms_nil))
    (pms_cons (pms_if (pmt_w (pmw_or (pmt_not (pmt_tr (pm_isi T.n_isinstance (pm_var (i := 1)) (pe_ty (T := "tuple") T.n_tuple (by decide +kernel))))) (pmw_or1 (pmt_not (pmt_tr (pm_var (i := 1)))))))
      (pms_one (pms_ret (pm_ix (hu_of hr) (pm_frz (pml_lst (pma_cons (pm_int) (pma_cons (pm_int) (pma_cons (pm_int) (pma_cons (pm_int) (pma_cons (pm_bl) (pma_cons (pm_op o_sub (pm_int) (pm_int)) (pma_cons (pm_non) (pma_cons (pm_tup (pma_nil)) (pma_cons (pm_str) (pma_cons (pm_tup (pma_cons (pm_str) (pma_nil))) (pma_nil))))))))))))) (pm_call G__law_take (hr.mono (by omega)) (pma_cons (pm_var (i := 0)) (pma_cons (pm_int) (pma_nil)))))))
      (pms_nil))
    (pms_cons (pms_if (pmt_cmp (o_eq hr.units) (pm_call G__law_take (hr.mono (by omega)) (pma_cons (pm_var (i := 0)) (pma_cons (pm_int) (pma_nil)))) (pm_int))
      (pms_cons (pms_set (i := 3) sc__law_spoilt.nd (pm_frz (pml_lst (pma_cons (pm_sl (pm_var (i := 1)) (pmo_some (pm_int)) (pmo_none)) (pma_cons (pm_sl (pm_var (i := 1)) (pmo_none) (pmo_some (pm_neg (pm_int)))) (pma_cons (pm_op o_add (pm_var (i := 1)) (pm_sl (pm_var (i := 1)) (pmo_some (pm_neg (pm_int))) (pmo_none))) (pma_cons (pm_rev (pm_var (i := 1))) (pma_cons (pm_frz (pml_callTy c_list T.n_list (by decide +kernel) (pma_cons (pm_var (i := 1)) (pma_nil)))) (pma_cons (pm_tup (pma_cons (pm_str) (pma_nil))) (pma_cons (pm_tup (pma_cons (pm_str) (pma_nil))) (pma_cons (pm_tup (pma_cons (pm_var (i := 1)) (pma_nil))) (pma_cons (pm_tup (pma_cons (pm_int) (pma_cons (pm_int) (pma_nil)))) (pma_cons (pm_tup (pma_cons (pm_int) (pma_cons (pm_int) (pma_nil)))) (pma_nil))))))))))))))
      (pms_one (pms_ret (pm_ix (hu_of hr) (pm_var (i := 3)) (pm_call G__law_take (hr.mono (by omega)) (pma_cons (pm_var (i := 0)) (pma_cons (pm_int) (pma_nil))))))))
      (pms_nil))
    (pms_cons (pms_set (i := 4) sc__law_spoilt.nd (pm_call G__law_take (hr.mono (by omega)) (pma_cons (pm_var (i := 0)) (pma_cons (pm_callB c_len T.n_len (by decide +kernel) (pma_cons (pm_var (i := 1)) (pma_nil))) (pma_nil)))))
    (pms_one (pms_ret (pm_op o_add (pm_op o_add (pm_sl (pm_var (i := 1)) (pmo_none) (pmo_some (pm_var (i := 4)))) (pm_tup (pma_cons (pm_call ih (hr.mono (by omega)) (pma_cons (pm_var (i := 0)) (pma_cons (pm_ix (hu_of hr) (pm_var (i := 1)) (pm_var (i := 4))) (pma_nil)))) (pma_nil)))) (pm_sl (pm_var (i := 1)) (pmo_some (pm_op o_add (pm_var (i := 4)) (pm_int))) (pmo_none)))))))))
theorem ok_law (T : Txt K mg) {f : Addr} {fd : FuncData} (F0 : Fun K "law" "law" s_law f fd) (hb : Binds K fd ["script"] []) (hm : mg "law" = some (.ref f)) (G_is_program : FnM P w K mg base 7 "is_program" 1 F_is_program) (G__law_start : FnM P w K mg base 1 "_law_start" 1 F__law_start) (G__law_take : FnM P w K mg base 2 "_law_take" 2 F__law_take) (G__law_program : FnM P w K mg base 13 "_law_program" 1 F__law_program) (G__law_is_program : FnM P w K mg base 64 "_law_is_program" 1 F__law_is_program) (G__law_spoilt : FnM P w K mg base 62 "_law_spoilt" 2 (F__law_spoilt 60)) : FnOk P w K mg base CX0 65 f fd ["script"] (spF K 1 F_law) :=
  fn_law (k := 64) F0 sc_law hb hm fun cdv A outer s H E hr =>
    pms_cons (pms_set (i := 1) sc_law.nd (pm_call G__law_start (hr.mono (by decide)) (pma_cons (pm_var (i := 0)) (pma_nil))))
    (pms_cons (pms_set (i := 2) sc_law.nd (pm_call G__law_program (hr.mono (by decide)) (pma_cons (pm_var (i := 1)) (pma_nil))))
    (pms_cons (pms_if (pmt_w (pmw_or (pmt_cmp o_isNotB (pm_call G_is_program (hr.mono (by decide)) (pma_cons (pm_var (i := 2)) (pma_nil))) (pm_bl)) (pmw_or1 (pmt_cmp o_isNotB (pm_call G_is_program (hr.mono (by decide)) (pma_cons (pm_tup (pma_nil)) (pma_nil))) (pm_bl)))))
      (pms_one (pms_ret (pm_bl)))
      (pms_nil))
    (pms_cons (pms_for PassesOwn.never (pmi_r1 T.n_range (pma_cons (pm_int) (pma_nil))) (pmg_name sc_law.nd (i := 3))
      (pms_cons (pms_set (i := 4) sc_law.nd (pm_var (i := 2)))
      (pms_cons (pms_for PassesOwn.never (pmi_r1 T.n_range (pma_cons (pm_op o_add (pm_int) (pm_call G__law_take (hr.mono (by decide)) (pma_cons (pm_var (i := 1)) (pma_cons (pm_int) (pma_nil))))) (pma_nil))) (pmg_name sc_law.nd (i := 5))
        (pms_one (pms_set (i := 4) sc_law.nd (pm_call G__law_spoilt (hr.mono (by decide)) (pma_cons (pm_var (i := 1)) (pma_cons (pm_var (i := 4)) (pma_nil)))))))
      (pms_cons (pms_set (i := 6) sc_law.nd (pm_call G_is_program (hr.mono (by decide)) (pma_cons (pm_var (i := 4)) (pma_nil))))
      (pms_one (pms_if (pmt_w (pmw_or (pmt_not (pmt_tr (pm_isi T.n_isinstance (pm_var (i := 6)) (pe_ty (T := "bool") T.n_bool (by decide +kernel))))) (pmw_or1 (pmt_cmp (o_ne hr.units) (pm_var (i := 6)) (pm_call G__law_is_program (hr.mono (by decide)) (pma_cons (pm_var (i := 4)) (pma_nil)))))))
        (pms_one (pms_ret (pm_bl)))
        (pms_nil)))))))
    (pms_one (pms_ret (pm_bl))))))
end
theorem all_mk {l : PySem.W.OpenLaw} {w : World} {K : PySem.W.Frag} {h : Heap} {mg : Str → Option Value} {fa f0 f1 f2 f3 f4 f5 f6 f7 f8 f9 f10 f11 f12 f13 f14 f15 f16 f17 f18 f19 f20 f21 f22 f23 f24 f25 f26 f27 : Addr} (X : K.In h) (G : h.Ns mainGlobals mg) (hfa : mg "law" = some (.ref fa))
    {od0 an0 od1 an1 od2 an2 od3 an3 od4 an4 od5 an5 od6 an6 od7 an7 od8 an8 od9 an9 od10 an10 od11 an11 od12 an12 od13 an13 od14 an14 od15 an15 od16 an16 od17 an17 od18 an18 od19 an19 od20 an20 od21 an21 od22 an22 od23 an23 od24 an24 od25 an25 od26 an26 od27 an27 : Option Addr} {sl0 sl1 sl2 sl3 sl4 sl5 sl6 sl7 sl8 sl9 sl10 sl11 sl12 sl13 sl14 sl15 sl16 sl17 sl18 sl19 sl20 sl21 sl22 sl23 sl24 sl25 sl26 sl27 : Array (Option Value)} {oc0 kV0 dc0 pm0 cd0 ct0 oc1 kV1 dc1 pm1 cd1 ct1 oc2 kV2 dc2 pm2 cd2 ct2 oc3 kV3 dc3 pm3 cd3 ct3 oc4 kV4 dc4 pm4 cd4 ct4 oc5 kV5 dc5 pm5 cd5 ct5 oc6 kV6 dc6 pm6 cd6 ct6 oc7 kV7 dc7 pm7 cd7 ct7 oc8 kV8 dc8 pm8 cd8 ct8 oc9 kV9 dc9 pm9 cd9 ct9 oc10 kV10 dc10 pm10 cd10 ct10 oc11 kV11 dc11 pm11 cd11 ct11 oc12 kV12 dc12 pm12 cd12 ct12 oc13 kV13 dc13 pm13 cd13 ct13 oc14 kV14 dc14 pm14 cd14 ct14 oc15 kV15 dc15 pm15 cd15 ct15 oc16 kV16 dc16 pm16 cd16 ct16 oc17 kV17 dc17 pm17 cd17 ct17 oc18 kV18 dc18 pm18 cd18 ct18 oc19 kV19 dc19 pm19 cd19 ct19 oc20 kV20 dc20 pm20 cd20 ct20 oc21 kV21 dc21 pm21 cd21 ct21 oc22 kV22 dc22 pm22 cd22 ct22 oc23 kV23 dc23 pm23 cd23 ct23 oc24 kV24 dc24 pm24 cd24 ct24 oc25 kV25 dc25 pm25 cd25 ct25 oc26 kV26 dc26 pm26 cd26 ct26 oc27 kV27 dc27 pm27 cd27 ct27 : Value}
    (a0 : PySem.W.nsIn K mainGlobals "is_name" = some (some (.ref f0))) (l0 : K.lookup f0 = some ⟨oc0, od0, .func (PySem.W.fnOf "is_name" "is_name" (defArgs s_is_name) (defBody s_is_name) (defScope s_is_name) .none kV0 dc0 pm0 an0 cd0 ct0), sl0⟩) (c0 : PySem.W.codeIn K cd0 "is_name" = true) (k0 : PySem.W.keepIn K (.ref f0) = true)
    (a1 : PySem.W.nsIn K mainGlobals "is_less" = some (some (.ref f1))) (l1 : K.lookup f1 = some ⟨oc1, od1, .func (PySem.W.fnOf "is_less" "is_less" (defArgs s_is_less) (defBody s_is_less) (defScope s_is_less) .none kV1 dc1 pm1 an1 cd1 ct1), sl1⟩) (c1 : PySem.W.codeIn K cd1 "is_less" = true) (k1 : PySem.W.keepIn K (.ref f1) = true)
    (a2 : PySem.W.nsIn K mainGlobals "common_divisor" = some (some (.ref f2))) (l2 : K.lookup f2 = some ⟨oc2, od2, .func (PySem.W.fnOf "common_divisor" "common_divisor" (defArgs s_common_divisor) (defBody s_common_divisor) (defScope s_common_divisor) .none kV2 dc2 pm2 an2 cd2 ct2), sl2⟩) (c2 : PySem.W.codeIn K cd2 "common_divisor" = true) (k2 : PySem.W.keepIn K (.ref f2) = true)
    (a3 : PySem.W.nsIn K mainGlobals "ratio" = some (some (.ref f3))) (l3 : K.lookup f3 = some ⟨oc3, od3, .func (PySem.W.fnOf "ratio" "ratio" (defArgs s_ratio) (defBody s_ratio) (defScope s_ratio) .none kV3 dc3 pm3 an3 cd3 ct3), sl3⟩) (c3 : PySem.W.codeIn K cd3 "ratio" = true) (k3 : PySem.W.keepIn K (.ref f3) = true)
    (a4 : PySem.W.nsIn K mainGlobals "plus" = some (some (.ref f4))) (l4 : K.lookup f4 = some ⟨oc4, od4, .func (PySem.W.fnOf "plus" "plus" (defArgs s_plus) (defBody s_plus) (defScope s_plus) .none kV4 dc4 pm4 an4 cd4 ct4), sl4⟩) (c4 : PySem.W.codeIn K cd4 "plus" = true) (k4 : PySem.W.keepIn K (.ref f4) = true)
    (a5 : PySem.W.nsIn K mainGlobals "total" = some (some (.ref f5))) (l5 : K.lookup f5 = some ⟨oc5, od5, .func (PySem.W.fnOf "total" "total" (defArgs s_total) (defBody s_total) (defScope s_total) .none kV5 dc5 pm5 an5 cd5 ct5), sl5⟩) (c5 : PySem.W.codeIn K cd5 "total" = true) (k5 : PySem.W.keepIn K (.ref f5) = true)
    (a6 : PySem.W.nsIn K mainGlobals "is_integer" = some (some (.ref f6))) (l6 : K.lookup f6 = some ⟨oc6, od6, .func (PySem.W.fnOf "is_integer" "is_integer" (defArgs s_is_integer) (defBody s_is_integer) (defScope s_is_integer) .none kV6 dc6 pm6 an6 cd6 ct6), sl6⟩) (c6 : PySem.W.codeIn K cd6 "is_integer" = true) (k6 : PySem.W.keepIn K (.ref f6) = true)
    (a7 : PySem.W.nsIn K mainGlobals "is_ratio" = some (some (.ref f7))) (l7 : K.lookup f7 = some ⟨oc7, od7, .func (PySem.W.fnOf "is_ratio" "is_ratio" (defArgs s_is_ratio) (defBody s_is_ratio) (defScope s_is_ratio) .none kV7 dc7 pm7 an7 cd7 ct7), sl7⟩) (c7 : PySem.W.codeIn K cd7 "is_ratio" = true) (k7 : PySem.W.keepIn K (.ref f7) = true)
    (a8 : PySem.W.nsIn K mainGlobals "has_rows" = some (some (.ref f8))) (l8 : K.lookup f8 = some ⟨oc8, od8, .func (PySem.W.fnOf "has_rows" "has_rows" (defArgs s_has_rows) (defBody s_has_rows) (defScope s_has_rows) .none kV8 dc8 pm8 an8 cd8 ct8), sl8⟩) (c8 : PySem.W.codeIn K cd8 "has_rows" = true) (k8 : PySem.W.keepIn K (.ref f8) = true)
    (a9 : PySem.W.nsIn K mainGlobals "is_body" = some (some (.ref f9))) (l9 : K.lookup f9 = some ⟨oc9, od9, .func (PySem.W.fnOf "is_body" "is_body" (defArgs s_is_body) (defBody s_is_body) (defScope s_is_body) .none kV9 dc9 pm9 an9 cd9 ct9), sl9⟩) (c9 : PySem.W.codeIn K cd9 "is_body" = true) (k9 : PySem.W.keepIn K (.ref f9) = true)
    (a10 : PySem.W.nsIn K mainGlobals "is_program" = some (some (.ref f10))) (l10 : K.lookup f10 = some ⟨oc10, od10, .func (PySem.W.fnOf "is_program" "is_program" (defArgs s_is_program) (defBody s_is_program) (defScope s_is_program) .none kV10 dc10 pm10 an10 cd10 ct10), sl10⟩) (c10 : PySem.W.codeIn K cd10 "is_program" = true) (k10 : PySem.W.keepIn K (.ref f10) = true)
    (a11 : PySem.W.nsIn K mainGlobals "_law_start" = some (some (.ref f11))) (l11 : K.lookup f11 = some ⟨oc11, od11, .func (PySem.W.fnOf "_law_start" "_law_start" (defArgs s__law_start) (defBody s__law_start) (defScope s__law_start) .none kV11 dc11 pm11 an11 cd11 ct11), sl11⟩) (c11 : PySem.W.codeIn K cd11 "_law_start" = true) (k11 : PySem.W.keepIn K (.ref f11) = true)
    (a12 : PySem.W.nsIn K mainGlobals "_law_fill" = some (some (.ref f12))) (l12 : K.lookup f12 = some ⟨oc12, od12, .func (PySem.W.fnOf "_law_fill" "_law_fill" (defArgs s__law_fill) (defBody s__law_fill) (defScope s__law_fill) .none kV12 dc12 pm12 an12 cd12 ct12), sl12⟩) (c12 : PySem.W.codeIn K cd12 "_law_fill" = true) (k12 : PySem.W.keepIn K (.ref f12) = true)
    (a13 : PySem.W.nsIn K mainGlobals "_law_take" = some (some (.ref f13))) (l13 : K.lookup f13 = some ⟨oc13, od13, .func (PySem.W.fnOf "_law_take" "_law_take" (defArgs s__law_take) (defBody s__law_take) (defScope s__law_take) .none kV13 dc13 pm13 an13 cd13 ct13), sl13⟩) (c13 : PySem.W.codeIn K cd13 "_law_take" = true) (k13 : PySem.W.keepIn K (.ref f13) = true)
    (a14 : PySem.W.nsIn K mainGlobals "_law_divisor" = some (some (.ref f14))) (l14 : K.lookup f14 = some ⟨oc14, od14, .func (PySem.W.fnOf "_law_divisor" "_law_divisor" (defArgs s__law_divisor) (defBody s__law_divisor) (defScope s__law_divisor) .none kV14 dc14 pm14 an14 cd14 ct14), sl14⟩) (c14 : PySem.W.codeIn K cd14 "_law_divisor" = true) (k14 : PySem.W.keepIn K (.ref f14) = true)
    (a15 : PySem.W.nsIn K mainGlobals "_law_fraction" = some (some (.ref f15))) (l15 : K.lookup f15 = some ⟨oc15, od15, .func (PySem.W.fnOf "_law_fraction" "_law_fraction" (defArgs s__law_fraction) (defBody s__law_fraction) (defScope s__law_fraction) .none kV15 dc15 pm15 an15 cd15 ct15), sl15⟩) (c15 : PySem.W.codeIn K cd15 "_law_fraction" = true) (k15 : PySem.W.keepIn K (.ref f15) = true)
    (a16 : PySem.W.nsIn K mainGlobals "_law_plus" = some (some (.ref f16))) (l16 : K.lookup f16 = some ⟨oc16, od16, .func (PySem.W.fnOf "_law_plus" "_law_plus" (defArgs s__law_plus) (defBody s__law_plus) (defScope s__law_plus) .none kV16 dc16 pm16 an16 cd16 ct16), sl16⟩) (c16 : PySem.W.codeIn K cd16 "_law_plus" = true) (k16 : PySem.W.keepIn K (.ref f16) = true)
    (a17 : PySem.W.nsIn K mainGlobals "_law_times" = some (some (.ref f17))) (l17 : K.lookup f17 = some ⟨oc17, od17, .func (PySem.W.fnOf "_law_times" "_law_times" (defArgs s__law_times) (defBody s__law_times) (defScope s__law_times) .none kV17 dc17 pm17 an17 cd17 ct17), sl17⟩) (c17 : PySem.W.codeIn K cd17 "_law_times" = true) (k17 : PySem.W.keepIn K (.ref f17) = true)
    (a18 : PySem.W.nsIn K mainGlobals "_law_cut" = some (some (.ref f18))) (l18 : K.lookup f18 = some ⟨oc18, od18, .func (PySem.W.fnOf "_law_cut" "_law_cut" (defArgs s__law_cut) (defBody s__law_cut) (defScope s__law_cut) .none kV18 dc18 pm18 an18 cd18 ct18), sl18⟩) (c18 : PySem.W.codeIn K cd18 "_law_cut" = true) (k18 : PySem.W.keepIn K (.ref f18) = true)
    (a19 : PySem.W.nsIn K mainGlobals "_law_body" = some (some (.ref f19))) (l19 : K.lookup f19 = some ⟨oc19, od19, .func (PySem.W.fnOf "_law_body" "_law_body" (defArgs s__law_body) (defBody s__law_body) (defScope s__law_body) .none kV19 dc19 pm19 an19 cd19 ct19), sl19⟩) (c19 : PySem.W.codeIn K cd19 "_law_body" = true) (k19 : PySem.W.keepIn K (.ref f19) = true)
    (a20 : PySem.W.nsIn K mainGlobals "_law_program" = some (some (.ref f20))) (l20 : K.lookup f20 = some ⟨oc20, od20, .func (PySem.W.fnOf "_law_program" "_law_program" (defArgs s__law_program) (defBody s__law_program) (defScope s__law_program) .none kV20 dc20 pm20 an20 cd20 ct20), sl20⟩) (c20 : PySem.W.codeIn K cd20 "_law_program" = true) (k20 : PySem.W.keepIn K (.ref f20) = true)
    (a21 : PySem.W.nsIn K mainGlobals "_law_is_name" = some (some (.ref f21))) (l21 : K.lookup f21 = some ⟨oc21, od21, .func (PySem.W.fnOf "_law_is_name" "_law_is_name" (defArgs s__law_is_name) (defBody s__law_is_name) (defScope s__law_is_name) .none kV21 dc21 pm21 an21 cd21 ct21), sl21⟩) (c21 : PySem.W.codeIn K cd21 "_law_is_name" = true) (k21 : PySem.W.keepIn K (.ref f21) = true)
    (a22 : PySem.W.nsIn K mainGlobals "_law_is_int" = some (some (.ref f22))) (l22 : K.lookup f22 = some ⟨oc22, od22, .func (PySem.W.fnOf "_law_is_int" "_law_is_int" (defArgs s__law_is_int) (defBody s__law_is_int) (defScope s__law_is_int) .none kV22 dc22 pm22 an22 cd22 ct22), sl22⟩) (c22 : PySem.W.codeIn K cd22 "_law_is_int" = true) (k22 : PySem.W.keepIn K (.ref f22) = true)
    (a23 : PySem.W.nsIn K mainGlobals "_law_is_fraction" = some (some (.ref f23))) (l23 : K.lookup f23 = some ⟨oc23, od23, .func (PySem.W.fnOf "_law_is_fraction" "_law_is_fraction" (defArgs s__law_is_fraction) (defBody s__law_is_fraction) (defScope s__law_is_fraction) .none kV23 dc23 pm23 an23 cd23 ct23), sl23⟩) (c23 : PySem.W.codeIn K cd23 "_law_is_fraction" = true) (k23 : PySem.W.keepIn K (.ref f23) = true)
    (a24 : PySem.W.nsIn K mainGlobals "_law_is_body" = some (some (.ref f24))) (l24 : K.lookup f24 = some ⟨oc24, od24, .func (PySem.W.fnOf "_law_is_body" "_law_is_body" (defArgs s__law_is_body) (defBody s__law_is_body) (defScope s__law_is_body) .none kV24 dc24 pm24 an24 cd24 ct24), sl24⟩) (c24 : PySem.W.codeIn K cd24 "_law_is_body" = true) (k24 : PySem.W.keepIn K (.ref f24) = true)
    (a25 : PySem.W.nsIn K mainGlobals "_law_is_program" = some (some (.ref f25))) (l25 : K.lookup f25 = some ⟨oc25, od25, .func (PySem.W.fnOf "_law_is_program" "_law_is_program" (defArgs s__law_is_program) (defBody s__law_is_program) (defScope s__law_is_program) .none kV25 dc25 pm25 an25 cd25 ct25), sl25⟩) (c25 : PySem.W.codeIn K cd25 "_law_is_program" = true) (k25 : PySem.W.keepIn K (.ref f25) = true)
    (a26 : PySem.W.nsIn K mainGlobals "_law_spoilt" = some (some (.ref f26))) (l26 : K.lookup f26 = some ⟨oc26, od26, .func (PySem.W.fnOf "_law_spoilt" "_law_spoilt" (defArgs s__law_spoilt) (defBody s__law_spoilt) (defScope s__law_spoilt) .none kV26 dc26 pm26 an26 cd26 ct26), sl26⟩) (c26 : PySem.W.codeIn K cd26 "_law_spoilt" = true) (k26 : PySem.W.keepIn K (.ref f26) = true)
    (a27 : PySem.W.nsIn K mainGlobals "law" = some (some (.ref f27))) (l27 : K.lookup f27 = some ⟨oc27, od27, .func (PySem.W.fnOf "law" "law" (defArgs s_law) (defBody s_law) (defScope s_law) .none kV27 dc27 pm27 an27 cd27 ct27), sl27⟩) (c27 : PySem.W.codeIn K cd27 "law" = true) (k27 : PySem.W.keepIn K (.ref f27) = true)
    (z0 : PySem.W.nsIn K mainGlobals "abs" = some none)
    (z1 : PySem.W.nsIn K mainGlobals "all" = some none)
    (z2 : PySem.W.nsIn K mainGlobals "bool" = some none)
    (z3 : PySem.W.nsIn K mainGlobals "int" = some none)
    (z4 : PySem.W.nsIn K mainGlobals "isinstance" = some none)
    (z5 : PySem.W.nsIn K mainGlobals "len" = some none)
    (z6 : PySem.W.nsIn K mainGlobals "list" = some none)
    (z7 : PySem.W.nsIn K mainGlobals "range" = some none)
    (z8 : PySem.W.nsIn K mainGlobals "str" = some none)
    (z9 : PySem.W.nsIn K mainGlobals "tuple" = some none)
    {tk_MOST_SIGNS : Tok} (qa_MOST_SIGNS : PySem.W.nsIn K mainGlobals "MOST_SIGNS" = some (some (.int 8 tk_MOST_SIGNS)))
    {tk_LETTERS : Tok} (qa_LETTERS : PySem.W.nsIn K mainGlobals "LETTERS" = some (some (.str "abcdefghijklmnopqrstuvwxyz" tk_LETTERS)))
    {tk_DIGITS : Tok} (qa_DIGITS : PySem.W.nsIn K mainGlobals "DIGITS" = some (some (.str "0123456789" tk_DIGITS)))
    {ad_ZERO : Addr} {tk_ZERO tu_ZERO : Tok} {nn_ZERO : Nat} {ss_ZERO : Array (Option Value)} (qa_ZERO : PySem.W.nsIn K mainGlobals "ZERO" = some (some (.ref ad_ZERO))) (qb_ZERO : K.lookup ad_ZERO = some ⟨.type "tuple", none, .seq #[.int 0 tk_ZERO, .int 1 tu_ZERO] nn_ZERO, ss_ZERO⟩)
    {tk_MOST_NUMBER : Tok} (qa_MOST_NUMBER : PySem.W.nsIn K mainGlobals "MOST_NUMBER" = some (some (.int 10000000000000000000000000000000000000000 tk_MOST_NUMBER)))
    {ad_ONE : Addr} {tk_ONE tu_ONE : Tok} {nn_ONE : Nat} {ss_ONE : Array (Option Value)} (qa_ONE : PySem.W.nsIn K mainGlobals "ONE" = some (some (.ref ad_ONE))) (qb_ONE : K.lookup ad_ONE = some ⟨.type "tuple", none, .seq #[.int 1 tk_ONE, .int 1 tu_ONE] nn_ONE, ss_ONE⟩)
    : ∃ fd : FuncData, (∀ (s : Shared) (v : Value), BindsTo s fd ⟨[v], []⟩ [("script", v)]) ∧ ∀ base : Heap, K.In base → base.Ns mainGlobals mg → FnOk l.prog w K mg base CX0 65 fa fd ["script"] (spF K 1 F_law) := by
  have e := hfa.symm.trans (PySem.W.mg_of X G a27)
  cases e
  have T : Txt K mg := ⟨PySem.W.mg_none_of X G z0, PySem.W.mg_none_of X G z1, PySem.W.mg_none_of X G z2, PySem.W.mg_none_of X G z3, PySem.W.mg_none_of X G z4, PySem.W.mg_none_of X G z5, PySem.W.mg_none_of X G z6, PySem.W.mg_none_of X G z7, PySem.W.mg_none_of X G z8, PySem.W.mg_none_of X G z9, glob_int (PySem.W.mg_of X G qa_MOST_SIGNS), glob_str (PySem.W.mg_of X G qa_LETTERS), glob_str (PySem.W.mg_of X G qa_DIGITS), glob_pair (PySem.W.mg_of X G qa_ZERO) qb_ZERO, glob_int (PySem.W.mg_of X G qa_MOST_NUMBER), glob_pair (PySem.W.mg_of X G qa_ONE) qb_ONE⟩
  have F0 := fun_mk (st := s_is_name) l0 c0 k0
  have b0 := F0.binds (ps := ["value"]) fun _ _ _ _ _ _ us hl => match us, hl with | [_], _ => rfl
  have F1 := fun_mk (st := s_is_less) l1 c1 k1
  have b1 := F1.binds (ps := ["first", "second"]) fun _ _ _ _ _ _ us hl => match us, hl with | [_, _], _ => rfl
  have F2 := fun_mk (st := s_common_divisor) l2 c2 k2
  have b2 := F2.binds (ps := ["first", "second"]) fun _ _ _ _ _ _ us hl => match us, hl with | [_, _], _ => rfl
  have F3 := fun_mk (st := s_ratio) l3 c3 k3
  have b3 := F3.binds (ps := ["above", "below"]) fun _ _ _ _ _ _ us hl => match us, hl with | [_, _], _ => rfl
  have F4 := fun_mk (st := s_plus) l4 c4 k4
  have b4 := F4.binds (ps := ["first", "second"]) fun _ _ _ _ _ _ us hl => match us, hl with | [_, _], _ => rfl
  have F5 := fun_mk (st := s_total) l5 c5 k5
  have b5 := F5.binds (ps := ["fractions"]) fun _ _ _ _ _ _ us hl => match us, hl with | [_], _ => rfl
  have F6 := fun_mk (st := s_is_integer) l6 c6 k6
  have b6 := F6.binds (ps := ["value"]) fun _ _ _ _ _ _ us hl => match us, hl with | [_], _ => rfl
  have F7 := fun_mk (st := s_is_ratio) l7 c7 k7
  have b7 := F7.binds (ps := ["value"]) fun _ _ _ _ _ _ us hl => match us, hl with | [_], _ => rfl
  have F8 := fun_mk (st := s_has_rows) l8 c8 k8
  have b8 := F8.binds (ps := ["value"]) fun _ _ _ _ _ _ us hl => match us, hl with | [_], _ => rfl
  have F9 := fun_mk (st := s_is_body) l9 c9 k9
  have b9 := F9.binds (ps := ["value", "names"]) fun _ _ _ _ _ _ us hl => match us, hl with | [_, _], _ => rfl
  have F10 := fun_mk (st := s_is_program) l10 c10 k10
  have b10 := F10.binds (ps := ["value"]) fun _ _ _ _ _ _ us hl => match us, hl with | [_], _ => rfl
  have F11 := fun_mk (st := s__law_start) l11 c11 k11
  have b11 := F11.binds (ps := ["script"]) fun _ _ _ _ _ _ us hl => match us, hl with | [_], _ => rfl
  have F12 := fun_mk (st := s__law_fill) l12 c12 k12
  have b12 := F12.binds (ps := ["c"]) fun _ _ _ _ _ _ us hl => match us, hl with | [_], _ => rfl
  have F13 := fun_mk (st := s__law_take) l13 c13 k13
  have b13 := F13.binds (ps := ["c", "many"]) fun _ _ _ _ _ _ us hl => match us, hl with | [_, _], _ => rfl
  have F14 := fun_mk (st := s__law_divisor) l14 c14 k14
  have b14 := F14.binds (ps := ["a", "b"]) fun _ _ _ _ _ _ us hl => match us, hl with | [_, _], _ => rfl
  have F15 := fun_mk (st := s__law_fraction) l15 c15 k15
  have b15 := F15.binds (ps := ["n", "d"]) fun _ _ _ _ _ _ us hl => match us, hl with | [_, _], _ => rfl
  have F16 := fun_mk (st := s__law_plus) l16 c16 k16
  have b16 := F16.binds (ps := ["a", "b"]) fun _ _ _ _ _ _ us hl => match us, hl with | [_, _], _ => rfl
  have F17 := fun_mk (st := s__law_times) l17 c17 k17
  have b17 := F17.binds (ps := ["a", "b"]) fun _ _ _ _ _ _ us hl => match us, hl with | [_, _], _ => rfl
  have F18 := fun_mk (st := s__law_cut) l18 c18 k18
  have b18 := F18.binds (ps := ["c"]) fun _ _ _ _ _ _ us hl => match us, hl with | [_], _ => rfl
  have F19 := fun_mk (st := s__law_body) l19 c19 k19
  have b19 := F19.binds (ps := ["c", "names", "letters", "deep"]) fun _ _ _ _ _ _ us hl => match us, hl with | [_, _, _, _], _ => rfl
  have F20 := fun_mk (st := s__law_program) l20 c20 k20
  have b20 := F20.binds (ps := ["c"]) fun _ _ _ _ _ _ us hl => match us, hl with | [_], _ => rfl
  have F21 := fun_mk (st := s__law_is_name) l21 c21 k21
  have b21 := F21.binds (ps := ["value"]) fun _ _ _ _ _ _ us hl => match us, hl with | [_], _ => rfl
  have F22 := fun_mk (st := s__law_is_int) l22 c22 k22
  have b22 := F22.binds (ps := ["value"]) fun _ _ _ _ _ _ us hl => match us, hl with | [_], _ => rfl
  have F23 := fun_mk (st := s__law_is_fraction) l23 c23 k23
  have b23 := F23.binds (ps := ["value"]) fun _ _ _ _ _ _ us hl => match us, hl with | [_], _ => rfl
  have F24 := fun_mk (st := s__law_is_body) l24 c24 k24
  have b24 := F24.binds (ps := ["value", "names"]) fun _ _ _ _ _ _ us hl => match us, hl with | [_, _], _ => rfl
  have F25 := fun_mk (st := s__law_is_program) l25 c25 k25
  have b25 := F25.binds (ps := ["value"]) fun _ _ _ _ _ _ us hl => match us, hl with | [_], _ => rfl
  have F26 := fun_mk (st := s__law_spoilt) l26 c26 k26
  have b26 := F26.binds (ps := ["c", "value"]) fun _ _ _ _ _ _ us hl => match us, hl with | [_, _], _ => rfl
  have F27 := fun_mk (st := s_law) l27 c27 k27
  have b27 := F27.binds (ps := ["script"]) fun _ _ _ _ _ _ us hl => match us, hl with | [_], _ => rfl
  refine ⟨PySem.W.fnOf "law" "law" (defArgs s_law) (defBody s_law) (defScope s_law) .none kV27 dc27 pm27 an27 cd27 ct27, fun s v => .of_eq rfl, fun base _ _ => ?_⟩
  have G_is_name := ok_is_name (P := l.prog) (w := w) (base := base) T F0 b0 (PySem.W.mg_of X G a0)
  have G_is_less := ok_is_less (P := l.prog) (w := w) (base := base) T F1 b1 (PySem.W.mg_of X G a1)
  have G_common_divisor := ok_common_divisor (P := l.prog) (w := w) (base := base) T F2 b2 (PySem.W.mg_of X G a2)
  have G_ratio := ok_ratio (P := l.prog) (w := w) (base := base) T F3 b3 (PySem.W.mg_of X G a3) G_common_divisor
  have G_plus := ok_plus (P := l.prog) (w := w) (base := base) T F4 b4 (PySem.W.mg_of X G a4) G_ratio
  have G_total := ok_total (P := l.prog) (w := w) (base := base) T F5 b5 (PySem.W.mg_of X G a5) G_plus
  have G_is_integer := ok_is_integer (P := l.prog) (w := w) (base := base) T F6 b6 (PySem.W.mg_of X G a6)
  have G_is_ratio := ok_is_ratio (P := l.prog) (w := w) (base := base) T F7 b7 (PySem.W.mg_of X G a7) G_common_divisor G_is_integer
  have G_has_rows := ok_has_rows (P := l.prog) (w := w) (base := base) T F8 b8 (PySem.W.mg_of X G a8) G_is_less G_total G_is_ratio
  have G_is_body := ok_is_body (P := l.prog) (w := w) (base := base) T F9 b9 (PySem.W.mg_of X G a9) G_is_name G_has_rows
  have G_is_program := ok_is_program (P := l.prog) (w := w) (base := base) T F10 b10 (PySem.W.mg_of X G a10) G_is_name G_is_body
  have G__law_start := ok__law_start (P := l.prog) (w := w) (base := base) T F11 b11 (PySem.W.mg_of X G a11)
  have G__law_fill := ok__law_fill (P := l.prog) (w := w) (base := base) T F12 b12 (PySem.W.mg_of X G a12)
  have G__law_take := ok__law_take (P := l.prog) (w := w) (base := base) T F13 b13 (PySem.W.mg_of X G a13) G__law_fill
  have G__law_divisor := ok__law_divisor (P := l.prog) (w := w) (base := base) T F14 b14 (PySem.W.mg_of X G a14)
  have G__law_fraction := ok__law_fraction (P := l.prog) (w := w) (base := base) T F15 b15 (PySem.W.mg_of X G a15) G__law_divisor
  have G__law_plus := ok__law_plus (P := l.prog) (w := w) (base := base) T F16 b16 (PySem.W.mg_of X G a16) G__law_fraction
  have G__law_times := ok__law_times (P := l.prog) (w := w) (base := base) T F17 b17 (PySem.W.mg_of X G a17) G__law_fraction
  have G__law_cut := ok__law_cut (P := l.prog) (w := w) (base := base) T F18 b18 (PySem.W.mg_of X G a18) G__law_take G__law_fraction G__law_plus G__law_times
  have G__law_body := ok__law_body (P := l.prog) (w := w) (base := base) T F19 b19 (PySem.W.mg_of X G a19) G__law_take G__law_cut 8
  have G__law_program := ok__law_program (P := l.prog) (w := w) (base := base) T F20 b20 (PySem.W.mg_of X G a20) G__law_take G__law_body
  have G__law_is_name := ok__law_is_name (P := l.prog) (w := w) (base := base) T F21 b21 (PySem.W.mg_of X G a21)
  have G__law_is_int := ok__law_is_int (P := l.prog) (w := w) (base := base) T F22 b22 (PySem.W.mg_of X G a22)
  have G__law_is_fraction := ok__law_is_fraction (P := l.prog) (w := w) (base := base) T F23 b23 (PySem.W.mg_of X G a23) G__law_divisor G__law_is_int
  have G__law_is_body := ok__law_is_body (P := l.prog) (w := w) (base := base) T F24 b24 (PySem.W.mg_of X G a24) G__law_plus G__law_is_name G__law_is_fraction 60
  have G__law_is_program := ok__law_is_program (P := l.prog) (w := w) (base := base) T F25 b25 (PySem.W.mg_of X G a25) G__law_is_name G__law_is_body
  have G__law_spoilt := ok__law_spoilt (P := l.prog) (w := w) (base := base) T F26 b26 (PySem.W.mg_of X G a26) G__law_take 60
  have G_law := ok_law (P := l.prog) (w := w) (base := base) T F27 b27 (PySem.W.mg_of X G a27) G_is_program G__law_start G__law_take G__law_program G__law_is_program G__law_spoilt
  exact G_law
end K30
end
section
set_option Elab.async false
set_option autoImplicit false
set_option linter.all false
set_option maxRecDepth 100000
set_option maxHeartbeats 2000000
namespace K30
open PySem L2 Mn
local macro_rules | `(tactic| l_ints) => `(tactic| simp only [bnd_some', ret1_some', sSeq_eq, kThen_nx, kThen_rt, kThen_bk, kThen_ct, sNil_eq, sAsg_eq, kAsg_eq, sDrop_eq, kDrop_eq, sRet_eq, kRet_eq, sRetN_eq, sBreak_eq, sCont_eq, sIf_eq, kIf_true, kIf_false, sTgt_eq, kTgt1_eq, kTgt2_eq, sPar_eq, kPar2_eq, sPar3_eq, kPar3_eq, sFor_eq, kFor_eq, sAug_eq, kAug_eq, kAug1_eq, mV_eq, kGot_eq, mC_eq, mOp_eq, kOp1_eq, kOp2_eq, mTB_eq, kB_eq, mAnd_eq, kAnd_true, kAnd_false, mOr_eq, kOr_true, kOr_false, mNot_eq, kNot_eq, mIte_eq, kIte_true, kIte_false, mAndV_eq, kAndV_true, kAndV_false, mOrV_eq, kOrV_true, kOrV_false, mNotV_eq, kNotV_eq, mNil_eq, mCons_eq, kCons1_eq, kCons2_eq, mTup_eq, kTup_eq, mLst_eq, kLst_eq, mFrz_eq, kFrz_eq, mMut_eq, kMut_eq, mCall_eq, mCB_eq, kCB_eq, mCBL_eq, kCBL_eq, mTr_eq, kTr_eq, mNeg_eq, kNeg_eq, mChain_eq, kChn1_eq, kChn2_eq, kChn_true, kChn_false, gN_eq, gsN_eq, gsC_eq, kGs_eq, gT_eq, gTp_eq, gSet_eq, kSet1_eq, kSet2_eq, kSetE_eq, setO_eq, setL_nat, setL_lit, setL_str, mMt_eq, kMt1_eq, kMt1'_eq, kMt2_eq, kMt2'_eq, kMt3_eq, fApp_eq, fPop_eq, kPop_eq, getLast_snoc, dropLast_snoc, fExt_eq, kExt_eq, oAdd_int, oAdd_str, oAdd_tup, oAdd_lst, oAdd_loc, kCat_eq, lstD_lst, lstD_loc, isLst_eq, seqD_tup, seqD_lst, seqD_rol, seqD_loc, dicD_dic, dicD_loc, isDic_eq, oSub_int, oMul_int, oDiv_int, oMod_int, oI_plus, oI_minus, oLt_int, oLe_int, oGt_int, oGe_int, oEq_int, oEq_str, oEq_bl, oNe_int, oNe_str, oNe_bl, oIs_non, oIsNot_non, isN_non, isN_int, isN_bl, isN_str, isN_tup, isN_lst, isN_loc, atI_lit, atI_natc, atI_neg1, ixO_tup, ixO_lst, ixO_dics, ixO_dici, ixO_locs, ixO_loci, ixL_lst, ixL_dics, ixL_dici, cLen_tup, cLen_lst, cLen_dic, cLen_loc, lenL_lst, lenL_dic, cInt_int, cInt_bl, cAbs_int, cTup_tup, cTup_lst, cTup_loc, tupL_eq, cList_eq, cBls_lst, blsA_eq, fAll_eq, fAny_eq, truD_lst, truD_tup, truD_bl, truD_int, truD_non, truD_loc, truL_lst, truL_dic, itD_tup, itD_lst, miSeq_eq, kIt_eq, miR1_eq, kR1_eq, miR2_eq, kR2_eq, mSl_eq, kSl1_eq, kSl2_eq, kSl3_eq, mNoP_eq, mPart_eq, kPart_eq, slD_tup, slD_lst, slD_rol, slD_loc, slA_eq, mIsi_eq, kIsi_eq, tyD_non, tyD_bl, tyD_int, tyD_str, tyD_tup, tyD_lst, isi_NoneType_tuple, isi_NoneType_list, isi_NoneType_int, isi_NoneType_str, isi_NoneType_bool, isi_NoneType_int_str, isi_bool_tuple, isi_bool_list, isi_bool_int, isi_bool_str, isi_bool_bool, isi_bool_int_str, isi_int_tuple, isi_int_list, isi_int_int, isi_int_str, isi_int_bool, isi_int_int_str, isi_str_tuple, isi_str_list, isi_str_int, isi_str_str, isi_str_bool, isi_str_int_str, isi_tuple_tuple, isi_tuple_list, isi_tuple_int, isi_tuple_str, isi_tuple_bool, isi_tuple_int_str, isi_list_tuple, isi_list_list, isi_list_int, isi_list_str, isi_list_bool, isi_list_int_str, mDicF_eq, kDicF_eq, mDicM_eq, kDicM_eq, dicA_eq, dicB_eq, mDic0_eq, mGet1_eq, kGet1_eq, kGet1a_eq, mGet2_eq, kGet2_eq, kGet2a_eq, kGet2b_eq, kGet3_str, kGet3_int, kForB_eq, kForS_nx, kForS_ct, kForS_bk, kForS_rt, kWh_true, kWh_false, kWhS_nx, kWhS_ct, kWhS_bk, kWhS_rt, mLc_eq, kLc_eq, kLc1_eq, kLc2_true, kLc2_false, kLc3_eq, kLc4_eq, mYes_eq, wipeE_nil, wipeE_cons, mFun_0, mFun_1, mFun_2, mFun_3, mFun_4, mFun_5, mFun_6, mFun_7, mFun_8, mFunL_0, mFunL_1, mFunL_2, mFunL_3, mFunL_4, mFunL_5, mFunL_6, mFunL_7, mFunL_8, endW_rt, endW_nx, mRev_eq, kRev_eq, miTxt_eq, kTxt_eq, oIsB_bl, oIsNotB_bl, oIn_eq, oNotIn_eq, kIn_eq, kNIn_eq, inO_sign, inA_eq, inO_tup, inO_lst, inO_loc, inL_lst, inL_dics, inL_dici, inO_dics, inO_dici, flatD_non, flatD_bl, flatD_int, flatD_str, Nat.reduceSub, Nat.reduceAdd, Nat.reduceLeDiff, Nat.reduceLT, Nat.reduceEqDiff, Int.reduceLT, Int.reduceLE, Int.reduceAdd, Int.reduceSub, Int.reduceNeg, Int.reduceMul, Int.reduceToNat, Int.reduceBEq, fits_lit, List.getElem?_cons_zero, List.getElem?_cons_succ, List.getElem?_nil, List.set_cons_zero, List.set_cons_succ, List.set_nil, List.length_cons, List.length_nil, List.length_set, List.length_map, List.length_append, List.set_set, List.replicate_succ, List.replicate_zero, List.isEmpty_nil, List.isEmpty_cons, List.nil_append, List.cons_append, List.append_assoc, Bool.not_true, Bool.not_false, decide_true, decide_false, if_true, if_false, Bool.false_eq_true, st_app, st_app0, st_set, st_set0, List.getLast?_nil, getLast_snoc, dropLast_snoc])
local macro_rules | `(tactic| l_intsC) => `(tactic| simp only [bnd_some', ret1_some', sSeq_eq, kThen_nx, kThen_rt, kThen_bk, kThen_ct, sNil_eq, sAsg_eq, kAsg_eq, sDrop_eq, kDrop_eq, sRet_eq, kRet_eq, sRetN_eq, sBreak_eq, sCont_eq, sIf_eq, kIf_true, kIf_false, sTgt_eq, kTgt1_eq, kTgt2_eq, sPar_eq, kPar2_eq, sPar3_eq, kPar3_eq, sFor_eq, kFor_eq, sAug_eq, kAug_eq, kAug1_eq, mV_eq, kGot_eq, mC_eq, mOp_eq, kOp1_eq, kOp2_eq, mTB_eq, kB_eq, mAnd_eq, kAnd_true, kAnd_false, mOr_eq, kOr_true, kOr_false, mNot_eq, kNot_eq, mIte_eq, kIte_true, kIte_false, mAndV_eq, kAndV_true, kAndV_false, mOrV_eq, kOrV_true, kOrV_false, mNotV_eq, kNotV_eq, mNil_eq, mCons_eq, kCons1_eq, kCons2_eq, mTup_eq, kTup_eq, mLst_eq, kLst_eq, mFrz_eq, kFrz_eq, mMut_eq, kMut_eq, mCall_eq, mCB_eq, kCB_eq, mCBL_eq, kCBL_eq, mTr_eq, kTr_eq, mNeg_eq, kNeg_eq, mChain_eq, kChn1_eq, kChn2_eq, kChn_true, kChn_false, gN_eq, gsN_eq, gsC_eq, kGs_eq, gT_eq, gTp_eq, gSet_eq, kSet1_eq, kSet2_eq, kSetE_eq, setO_eq, setL_nat, setL_lit, setL_str, mMt_eq, kMt1_eq, kMt1'_eq, kMt2_eq, kMt2'_eq, kMt3_eq, fApp_eq, fPop_eq, kPop_eq, getLast_snoc, dropLast_snoc, fExt_eq, kExt_eq, oAdd_int, oAdd_str, oAdd_tup, oAdd_lst, oAdd_loc, kCat_eq, lstD_lst, lstD_loc, isLst_eq, seqD_tup, seqD_lst, seqD_rol, seqD_loc, dicD_dic, dicD_loc, isDic_eq, oSub_int, oMul_int, oDiv_int, oMod_int, oI_plus, oI_minus, oLt_int, oLe_int, oGt_int, oGe_int, oEq_int, oEq_str, oEq_bl, oNe_int, oNe_str, oNe_bl, oIs_non, oIsNot_non, isN_non, isN_int, isN_bl, isN_str, isN_tup, isN_lst, isN_loc, atI_lit, atI_natc, atI_neg1, ixO_tup, ixO_lst, ixO_dics, ixO_dici, ixO_locs, ixO_loci, ixL_lst, ixL_dics, ixL_dici, cLen_tup, cLen_lst, cLen_dic, cLen_loc, lenL_lst, lenL_dic, cInt_int, cInt_bl, cAbs_int, cTup_tup, cTup_lst, cTup_loc, tupL_eq, cList_eq, cBls_lst, blsA_eq, fAll_eq, fAny_eq, truD_lst, truD_tup, truD_bl, truD_int, truD_non, truD_loc, truL_lst, truL_dic, itD_tup, itD_lst, miSeq_eq, kIt_eq, miR1_eq, kR1_eq, miR2_eq, kR2_eq, mSl_eq, kSl1_eq, kSl2_eq, kSl3_eq, mNoP_eq, mPart_eq, kPart_eq, slD_tup, slD_lst, slD_rol, slD_loc, slA_eq, mIsi_eq, kIsi_eq, tyD_non, tyD_bl, tyD_int, tyD_str, tyD_tup, tyD_lst, isi_NoneType_tuple, isi_NoneType_list, isi_NoneType_int, isi_NoneType_str, isi_NoneType_bool, isi_NoneType_int_str, isi_bool_tuple, isi_bool_list, isi_bool_int, isi_bool_str, isi_bool_bool, isi_bool_int_str, isi_int_tuple, isi_int_list, isi_int_int, isi_int_str, isi_int_bool, isi_int_int_str, isi_str_tuple, isi_str_list, isi_str_int, isi_str_str, isi_str_bool, isi_str_int_str, isi_tuple_tuple, isi_tuple_list, isi_tuple_int, isi_tuple_str, isi_tuple_bool, isi_tuple_int_str, isi_list_tuple, isi_list_list, isi_list_int, isi_list_str, isi_list_bool, isi_list_int_str, mDicF_eq, kDicF_eq, mDicM_eq, kDicM_eq, dicA_eq, dicB_eq, mDic0_eq, mGet1_eq, kGet1_eq, kGet1a_eq, mGet2_eq, kGet2_eq, kGet2a_eq, kGet2b_eq, kGet3_str, kGet3_int, kForB_eq, kForS_nx, kForS_ct, kForS_bk, kForS_rt, kWh_true, kWh_false, kWhS_nx, kWhS_ct, kWhS_bk, kWhS_rt, mLc_eq, kLc_eq, kLc1_eq, kLc2_true, kLc2_false, kLc3_eq, kLc4_eq, mYes_eq, wipeE_nil, wipeE_cons, mFun_0, mFun_1, mFun_2, mFun_3, mFun_4, mFun_5, mFun_6, mFun_7, mFun_8, mFunL_0, mFunL_1, mFunL_2, mFunL_3, mFunL_4, mFunL_5, mFunL_6, mFunL_7, mFunL_8, endW_rt, endW_nx, mRev_eq, kRev_eq, miTxt_eq, kTxt_eq, oIsB_bl, oIsNotB_bl, oIn_eq, oNotIn_eq, kIn_eq, kNIn_eq, inO_sign, inA_eq, inO_tup, inO_lst, inO_loc, inL_lst, inL_dics, inL_dici, inO_dics, inO_dici, flatD_non, flatD_bl, flatD_int, flatD_str, Nat.reduceSub, Nat.reduceAdd, Nat.reduceLeDiff, Nat.reduceLT, Nat.reduceEqDiff, Int.reduceLT, Int.reduceLE, Int.reduceAdd, Int.reduceSub, Int.reduceNeg, Int.reduceMul, Int.reduceToNat, Int.reduceBEq, fits_lit, List.getElem?_cons_zero, List.getElem?_cons_succ, List.getElem?_nil, List.set_cons_zero, List.set_cons_succ, List.set_nil, List.length_cons, List.length_nil, List.length_set, List.length_map, List.length_append, List.set_set, List.replicate_succ, List.replicate_zero, List.isEmpty_nil, List.isEmpty_cons, List.nil_append, List.cons_append, List.append_assoc, Bool.not_true, Bool.not_false, decide_true, decide_false, if_true, if_false, Bool.false_eq_true, st_app, st_app0, st_set, st_set0, List.getLast?_nil, getLast_snoc, dropLast_snoc, *])

theorem gcd_loop (st : Store) : ∀ (n : Nat) (x y : Nat), y < n → whN T_common_divisor_1 L_common_divisor_1 n [some (.int x), some (.int y)] st = some (.nx [some (.int (Nat.gcd x y)), some (.int 0)], st)
  | 0, _, _, h => by omega
  | n + 1, x, y, h => by
    rw [whN_succ]
    by_cases hy : y = 0
    · subst hy
      have hT : T_common_divisor_1 [some (.int x), some (.int ((0 : Nat) : Int))] st = some (false, st) := by
        unfold T_common_divisor_1
        l_ints
        rfl
      rw [hT]
      l_ints
      simp
    · have e : ((y : Int) == 0) = false := by simp; omega
      have hT : T_common_divisor_1 [some (.int x), some (.int y)] st = some (true, st) := by
        unfold T_common_divisor_1
        l_intsC
      have hL : L_common_divisor_1 [some (.int x), some (.int y)] st = some (.nx [some (.int y), some (.int ((x % y : Nat) : Int))], st) := by
        unfold L_common_divisor_1
        l_ints
        rw [oMod_int (by omega)]
        l_ints
        simp
      rw [hT]
      l_ints
      rw [hL]
      l_ints
      rw [gcd_loop st n y (x % y) (by have := Nat.mod_lt x (Nat.pos_of_ne_zero hy); omega)]
      congr 4
      rw [Nat.gcd_comm x y, Nat.gcd_rec y x, Nat.gcd_comm]
theorem common_divisor_eq (a b : Int) (st : Store) : F_common_divisor [.int a, .int b] st = some (.int (Int.gcd a b), st) := by
  unfold F_common_divisor B_common_divisor
  l_ints
  rw [sWhile_of (gcd_loop st (b.natAbs + 1) a.natAbs b.natAbs (by omega))]
  unfold R_common_divisor_1
  l_ints
  rw [fin_same rfl]
  rfl
end K30
end
section
set_option Elab.async false
set_option autoImplicit false
set_option linter.all false
set_option maxRecDepth 100000
set_option maxHeartbeats 2000000
namespace K30
open PySem L2 Mn
local macro_rules | `(tactic| l_ints) => `(tactic| simp only [bnd_some', ret1_some', sSeq_eq, kThen_nx, kThen_rt, kThen_bk, kThen_ct, sNil_eq, sAsg_eq, kAsg_eq, sDrop_eq, kDrop_eq, sRet_eq, kRet_eq, sRetN_eq, sBreak_eq, sCont_eq, sIf_eq, kIf_true, kIf_false, sTgt_eq, kTgt1_eq, kTgt2_eq, sPar_eq, kPar2_eq, sPar3_eq, kPar3_eq, sFor_eq, kFor_eq, sAug_eq, kAug_eq, kAug1_eq, mV_eq, kGot_eq, mC_eq, mOp_eq, kOp1_eq, kOp2_eq, mTB_eq, kB_eq, mAnd_eq, kAnd_true, kAnd_false, mOr_eq, kOr_true, kOr_false, mNot_eq, kNot_eq, mIte_eq, kIte_true, kIte_false, mAndV_eq, kAndV_true, kAndV_false, mOrV_eq, kOrV_true, kOrV_false, mNotV_eq, kNotV_eq, mNil_eq, mCons_eq, kCons1_eq, kCons2_eq, mTup_eq, kTup_eq, mLst_eq, kLst_eq, mFrz_eq, kFrz_eq, mMut_eq, kMut_eq, mCall_eq, mCB_eq, kCB_eq, mCBL_eq, kCBL_eq, mTr_eq, kTr_eq, mNeg_eq, kNeg_eq, mChain_eq, kChn1_eq, kChn2_eq, kChn_true, kChn_false, gN_eq, gsN_eq, gsC_eq, kGs_eq, gT_eq, gTp_eq, gSet_eq, kSet1_eq, kSet2_eq, kSetE_eq, setO_eq, setL_nat, setL_lit, setL_str, mMt_eq, kMt1_eq, kMt1'_eq, kMt2_eq, kMt2'_eq, kMt3_eq, fApp_eq, fPop_eq, kPop_eq, getLast_snoc, dropLast_snoc, fExt_eq, kExt_eq, oAdd_int, oAdd_str, oAdd_tup, oAdd_lst, oAdd_loc, kCat_eq, lstD_lst, lstD_loc, isLst_eq, seqD_tup, seqD_lst, seqD_rol, seqD_loc, dicD_dic, dicD_loc, isDic_eq, oSub_int, oMul_int, oDiv_int, oMod_int, oI_plus, oI_minus, oLt_int, oLe_int, oGt_int, oGe_int, oEq_int, oEq_str, oEq_bl, oNe_int, oNe_str, oNe_bl, oIs_non, oIsNot_non, isN_non, isN_int, isN_bl, isN_str, isN_tup, isN_lst, isN_loc, atI_lit, atI_natc, atI_neg1, ixO_tup, ixO_lst, ixO_dics, ixO_dici, ixO_locs, ixO_loci, ixL_lst, ixL_dics, ixL_dici, cLen_tup, cLen_lst, cLen_dic, cLen_loc, lenL_lst, lenL_dic, cInt_int, cInt_bl, cAbs_int, cTup_tup, cTup_lst, cTup_loc, tupL_eq, cList_eq, cBls_lst, blsA_eq, fAll_eq, fAny_eq, truD_lst, truD_tup, truD_bl, truD_int, truD_non, truD_loc, truL_lst, truL_dic, itD_tup, itD_lst, miSeq_eq, kIt_eq, miR1_eq, kR1_eq, miR2_eq, kR2_eq, mSl_eq, kSl1_eq, kSl2_eq, kSl3_eq, mNoP_eq, mPart_eq, kPart_eq, slD_tup, slD_lst, slD_rol, slD_loc, slA_eq, mIsi_eq, kIsi_eq, tyD_non, tyD_bl, tyD_int, tyD_str, tyD_tup, tyD_lst, isi_NoneType_tuple, isi_NoneType_list, isi_NoneType_int, isi_NoneType_str, isi_NoneType_bool, isi_NoneType_int_str, isi_bool_tuple, isi_bool_list, isi_bool_int, isi_bool_str, isi_bool_bool, isi_bool_int_str, isi_int_tuple, isi_int_list, isi_int_int, isi_int_str, isi_int_bool, isi_int_int_str, isi_str_tuple, isi_str_list, isi_str_int, isi_str_str, isi_str_bool, isi_str_int_str, isi_tuple_tuple, isi_tuple_list, isi_tuple_int, isi_tuple_str, isi_tuple_bool, isi_tuple_int_str, isi_list_tuple, isi_list_list, isi_list_int, isi_list_str, isi_list_bool, isi_list_int_str, mDicF_eq, kDicF_eq, mDicM_eq, kDicM_eq, dicA_eq, dicB_eq, mDic0_eq, mGet1_eq, kGet1_eq, kGet1a_eq, mGet2_eq, kGet2_eq, kGet2a_eq, kGet2b_eq, kGet3_str, kGet3_int, kForB_eq, kForS_nx, kForS_ct, kForS_bk, kForS_rt, kWh_true, kWh_false, kWhS_nx, kWhS_ct, kWhS_bk, kWhS_rt, mLc_eq, kLc_eq, kLc1_eq, kLc2_true, kLc2_false, kLc3_eq, kLc4_eq, mYes_eq, wipeE_nil, wipeE_cons, mFun_0, mFun_1, mFun_2, mFun_3, mFun_4, mFun_5, mFun_6, mFun_7, mFun_8, mFunL_0, mFunL_1, mFunL_2, mFunL_3, mFunL_4, mFunL_5, mFunL_6, mFunL_7, mFunL_8, endW_rt, endW_nx, mRev_eq, kRev_eq, miTxt_eq, kTxt_eq, oIsB_bl, oIsNotB_bl, oIn_eq, oNotIn_eq, kIn_eq, kNIn_eq, inO_sign, inA_eq, inO_tup, inO_lst, inO_loc, inL_lst, inL_dics, inL_dici, inO_dics, inO_dici, flatD_non, flatD_bl, flatD_int, flatD_str, Nat.reduceSub, Nat.reduceAdd, Nat.reduceLeDiff, Nat.reduceLT, Nat.reduceEqDiff, Int.reduceLT, Int.reduceLE, Int.reduceAdd, Int.reduceSub, Int.reduceNeg, Int.reduceMul, Int.reduceToNat, Int.reduceBEq, fits_lit, List.getElem?_cons_zero, List.getElem?_cons_succ, List.getElem?_nil, List.set_cons_zero, List.set_cons_succ, List.set_nil, List.length_cons, List.length_nil, List.length_set, List.length_map, List.length_append, List.set_set, List.replicate_succ, List.replicate_zero, List.isEmpty_nil, List.isEmpty_cons, List.nil_append, List.cons_append, List.append_assoc, Bool.not_true, Bool.not_false, decide_true, decide_false, if_true, if_false, Bool.false_eq_true, st_app, st_app0, st_set, st_set0, List.getLast?_nil, getLast_snoc, dropLast_snoc])
local macro_rules | `(tactic| l_intsC) => `(tactic| simp only [bnd_some', ret1_some', sSeq_eq, kThen_nx, kThen_rt, kThen_bk, kThen_ct, sNil_eq, sAsg_eq, kAsg_eq, sDrop_eq, kDrop_eq, sRet_eq, kRet_eq, sRetN_eq, sBreak_eq, sCont_eq, sIf_eq, kIf_true, kIf_false, sTgt_eq, kTgt1_eq, kTgt2_eq, sPar_eq, kPar2_eq, sPar3_eq, kPar3_eq, sFor_eq, kFor_eq, sAug_eq, kAug_eq, kAug1_eq, mV_eq, kGot_eq, mC_eq, mOp_eq, kOp1_eq, kOp2_eq, mTB_eq, kB_eq, mAnd_eq, kAnd_true, kAnd_false, mOr_eq, kOr_true, kOr_false, mNot_eq, kNot_eq, mIte_eq, kIte_true, kIte_false, mAndV_eq, kAndV_true, kAndV_false, mOrV_eq, kOrV_true, kOrV_false, mNotV_eq, kNotV_eq, mNil_eq, mCons_eq, kCons1_eq, kCons2_eq, mTup_eq, kTup_eq, mLst_eq, kLst_eq, mFrz_eq, kFrz_eq, mMut_eq, kMut_eq, mCall_eq, mCB_eq, kCB_eq, mCBL_eq, kCBL_eq, mTr_eq, kTr_eq, mNeg_eq, kNeg_eq, mChain_eq, kChn1_eq, kChn2_eq, kChn_true, kChn_false, gN_eq, gsN_eq, gsC_eq, kGs_eq, gT_eq, gTp_eq, gSet_eq, kSet1_eq, kSet2_eq, kSetE_eq, setO_eq, setL_nat, setL_lit, setL_str, mMt_eq, kMt1_eq, kMt1'_eq, kMt2_eq, kMt2'_eq, kMt3_eq, fApp_eq, fPop_eq, kPop_eq, getLast_snoc, dropLast_snoc, fExt_eq, kExt_eq, oAdd_int, oAdd_str, oAdd_tup, oAdd_lst, oAdd_loc, kCat_eq, lstD_lst, lstD_loc, isLst_eq, seqD_tup, seqD_lst, seqD_rol, seqD_loc, dicD_dic, dicD_loc, isDic_eq, oSub_int, oMul_int, oDiv_int, oMod_int, oI_plus, oI_minus, oLt_int, oLe_int, oGt_int, oGe_int, oEq_int, oEq_str, oEq_bl, oNe_int, oNe_str, oNe_bl, oIs_non, oIsNot_non, isN_non, isN_int, isN_bl, isN_str, isN_tup, isN_lst, isN_loc, atI_lit, atI_natc, atI_neg1, ixO_tup, ixO_lst, ixO_dics, ixO_dici, ixO_locs, ixO_loci, ixL_lst, ixL_dics, ixL_dici, cLen_tup, cLen_lst, cLen_dic, cLen_loc, lenL_lst, lenL_dic, cInt_int, cInt_bl, cAbs_int, cTup_tup, cTup_lst, cTup_loc, tupL_eq, cList_eq, cBls_lst, blsA_eq, fAll_eq, fAny_eq, truD_lst, truD_tup, truD_bl, truD_int, truD_non, truD_loc, truL_lst, truL_dic, itD_tup, itD_lst, miSeq_eq, kIt_eq, miR1_eq, kR1_eq, miR2_eq, kR2_eq, mSl_eq, kSl1_eq, kSl2_eq, kSl3_eq, mNoP_eq, mPart_eq, kPart_eq, slD_tup, slD_lst, slD_rol, slD_loc, slA_eq, mIsi_eq, kIsi_eq, tyD_non, tyD_bl, tyD_int, tyD_str, tyD_tup, tyD_lst, isi_NoneType_tuple, isi_NoneType_list, isi_NoneType_int, isi_NoneType_str, isi_NoneType_bool, isi_NoneType_int_str, isi_bool_tuple, isi_bool_list, isi_bool_int, isi_bool_str, isi_bool_bool, isi_bool_int_str, isi_int_tuple, isi_int_list, isi_int_int, isi_int_str, isi_int_bool, isi_int_int_str, isi_str_tuple, isi_str_list, isi_str_int, isi_str_str, isi_str_bool, isi_str_int_str, isi_tuple_tuple, isi_tuple_list, isi_tuple_int, isi_tuple_str, isi_tuple_bool, isi_tuple_int_str, isi_list_tuple, isi_list_list, isi_list_int, isi_list_str, isi_list_bool, isi_list_int_str, mDicF_eq, kDicF_eq, mDicM_eq, kDicM_eq, dicA_eq, dicB_eq, mDic0_eq, mGet1_eq, kGet1_eq, kGet1a_eq, mGet2_eq, kGet2_eq, kGet2a_eq, kGet2b_eq, kGet3_str, kGet3_int, kForB_eq, kForS_nx, kForS_ct, kForS_bk, kForS_rt, kWh_true, kWh_false, kWhS_nx, kWhS_ct, kWhS_bk, kWhS_rt, mLc_eq, kLc_eq, kLc1_eq, kLc2_true, kLc2_false, kLc3_eq, kLc4_eq, mYes_eq, wipeE_nil, wipeE_cons, mFun_0, mFun_1, mFun_2, mFun_3, mFun_4, mFun_5, mFun_6, mFun_7, mFun_8, mFunL_0, mFunL_1, mFunL_2, mFunL_3, mFunL_4, mFunL_5, mFunL_6, mFunL_7, mFunL_8, endW_rt, endW_nx, mRev_eq, kRev_eq, miTxt_eq, kTxt_eq, oIsB_bl, oIsNotB_bl, oIn_eq, oNotIn_eq, kIn_eq, kNIn_eq, inO_sign, inA_eq, inO_tup, inO_lst, inO_loc, inL_lst, inL_dics, inL_dici, inO_dics, inO_dici, flatD_non, flatD_bl, flatD_int, flatD_str, Nat.reduceSub, Nat.reduceAdd, Nat.reduceLeDiff, Nat.reduceLT, Nat.reduceEqDiff, Int.reduceLT, Int.reduceLE, Int.reduceAdd, Int.reduceSub, Int.reduceNeg, Int.reduceMul, Int.reduceToNat, Int.reduceBEq, fits_lit, List.getElem?_cons_zero, List.getElem?_cons_succ, List.getElem?_nil, List.set_cons_zero, List.set_cons_succ, List.set_nil, List.length_cons, List.length_nil, List.length_set, List.length_map, List.length_append, List.set_set, List.replicate_succ, List.replicate_zero, List.isEmpty_nil, List.isEmpty_cons, List.nil_append, List.cons_append, List.append_assoc, Bool.not_true, Bool.not_false, decide_true, decide_false, if_true, if_false, Bool.false_eq_true, st_app, st_app0, st_set, st_set0, List.getLast?_nil, getLast_snoc, dropLast_snoc, *])
def cobj (ns : List Int) (i v k : Int) : D := .lst [.lst (ns.map .int), .int i, .int v, .int k, .int 20]
theorem last_int (ns : List Int) (h : ns ≠ []) : ∃ x : Int, (ns.map D.int).getLast? = some (.int x) := by
  rw [List.getLast?_eq_some_getLast (by simpa using h)]
  exact ⟨ns.getLast h, by simp [List.getLast_map]⟩
theorem fill_tail {st : Store} {lc : Nat} {ns : List Int} {i v k num : Int} (hc : st[lc]? = some (.lst [.lst (ns.map .int), .int i, .int v, .int k, .int 20])) (hk : 0 ≤ k) (hk2 : k < 20000000000000000000) (hn : 0 ≤ num) (hn2 : num < 20000000000000000000000000) :
    ∃ r, R__law_fill_3 [some (.loc lc), some (.int num)] st = some (.rt (.int r), st) ∧ 36028797018963968 ≤ r := by
  have f1 : Fits k = true := fits_ab (by omega) (by omega)
  unfold R__law_fill_3 R__law_fill_2
  -- the end, for any number
  have fin : ∀ num : Int, 0 ≤ num → num < 20000000000000001000000000 → ∃ r, (num * 48271 + k * 69621) % 2147483647 = r ∧ 0 ≤ r ∧ r < 2147483647 ∧ Fits num = true ∧ Fits r = true := fun num h1 h2 =>
    ⟨_, rfl, Int.emod_nonneg _ (by omega), Int.emod_lt_of_pos _ (by omega), fits_ab (by omega) (by omega), fits_ab (by have := Int.emod_nonneg (num * 48271 + k * 69621) (show (2147483647 : Int) ≠ 0 by omega); omega) (by have := Int.emod_lt_of_pos (num * 48271 + k * 69621) (show (0 : Int) < 2147483647 by omega); omega)⟩
  have big : ∀ r : Int, 0 ≤ r → 36028797018963968 ≤ (r * r + k * 7919 + 11) / 64 + 36028797018963968 := fun r hr => by
    have := Int.mul_nonneg hr hr
    omega
  by_cases hns : ns = []
  · subst hns
    obtain ⟨r, e, r0, r1, fn, fr⟩ := fin num hn (by omega)
    refine ⟨_, ?_, big r r0⟩
    l_intsC
    simp only [List.map_nil]
    l_intsC
  · obtain ⟨x, hx⟩ := last_int ns hns
    have hem : (ns.map D.int).isEmpty = false := by cases ns; exact absurd rfl hns; rfl
    by_cases hi : (ns.length : Int) ≤ i
    · have m0 := Int.emod_nonneg x (show (1000003 : Int) ≠ 0 by omega)
      have m1 := Int.emod_lt_of_pos x (show (0 : Int) < 1000003 by omega)
      obtain ⟨r, e, r0, r1, fn, fr⟩ := fin (num + x % 1000003) (by omega) (by omega)
      refine ⟨_, ?_, big r r0⟩
      l_intsC
    · obtain ⟨r, e, r0, r1, fn, fr⟩ := fin num hn (by omega)
      refine ⟨_, ?_, big r r0⟩
      l_intsC
theorem los_map {α : Type} {n : Nat} {f : α → D} (h : ∀ x, lo n (f x) = true) : ∀ l : List α, los n (l.map f) = true
  | [] => rfl
  | x :: l => by
    show (lo n (f x) && los n (l.map f)) = true
    rw [h, los_map h l]
    rfl
theorem lo_cobj (n : Nat) (ns : List Int) (i v k : Int) : lo n (cobj ns i v k) = true := by
  show ((los n (ns.map .int)) && _) = true
  rw [los_map fun _ => rfl]
  rfl
theorem fill_spec {st : Store} {lc : Nat} {ns : List Int} {i v k : Int} (hc : st[lc]? = some (cobj ns i v k)) (hi : 0 ≤ i) (hi2 : i ≤ ns.length) (hk : 0 ≤ k) (hk2 : k < 10000000000000000000) :
    ∃ r i', F__law_fill [.loc lc] st = some (.int r, st.set lc (cobj ns i' v (k + 1))) ∧ 36028797018963968 ≤ r ∧ 0 ≤ i' ∧ i' ≤ ns.length := by
  have hl : lc < st.length := (List.getElem?_eq_some_iff.mp hc).1
  have g : ∀ d, (st.set lc d)[lc]? = some d := fun d => List.getElem?_set_self hl
  have h01 : (0 : Int) - 1 = -1 := rfl
  have f1 : Fits (k + 1) = true := fits_ab (by omega) (by omega)
  have fs : ∀ (i' r : Int), fin st (.int r) (st.set lc (cobj ns i' v (k + 1))) = some (.int r, st.set lc (cobj ns i' v (k + 1))) := fun i' r => fin_set0 hl (lo_cobj _ _ _ _ _) rfl
  unfold F__law_fill B__law_fill R__law_fill_1
  by_cases h : i < (ns.length : Int)
  · -- a number of the script
    obtain ⟨x, hx⟩ : ∃ x : Int, atI (ns.map D.int) i = some (.int x) := by
      obtain ⟨j, rfl⟩ : ∃ j : Nat, i = (j : Int) := ⟨i.toNat, by omega⟩
      have hlt : j < ns.length := by omega
      exact ⟨ns[j], by rw [atI_nat', List.getElem?_map, List.getElem?_eq_getElem hlt]; rfl⟩
    have p18 : ∀ st : Store, oI fPow (.int 10) (.int 18) st = some (.int 1000000000000000000) := fun st => by rw [oPow_lit (by decide)]; rfl
    by_cases hx0 : x < 0
    · by_cases hb : 1000000000000000000 ≤ -1 - x
      · refine ⟨-1 - x, i + 1, ?_, by omega, by omega, by omega⟩
        rw [← fs]
        unfold cobj at hc ⊢
        l_intsC
      · obtain ⟨r, e, hr⟩ := fill_tail (st := st.set lc (cobj ns (i + 1) v (k + 1))) (lc := lc) (ns := ns) (i := i + 1) (v := v) (k := k + 1) (num := -1 - x) (g _) (by omega) (by omega) (by omega) (by omega)
        refine ⟨r, i + 1, ?_, hr, by omega, by omega⟩
        rw [← fs]
        unfold cobj at hc e ⊢
        l_intsC
    · by_cases hb : 1000000000000000000 ≤ x
      · refine ⟨x, i + 1, ?_, by omega, by omega, by omega⟩
        rw [← fs]
        unfold cobj at hc ⊢
        l_intsC
      · obtain ⟨r, e, hr⟩ := fill_tail (st := st.set lc (cobj ns (i + 1) v (k + 1))) (lc := lc) (ns := ns) (i := i + 1) (v := v) (k := k + 1) (num := x) (g _) (by omega) (by omega) (by omega) (by omega)
        refine ⟨r, i + 1, ?_, hr, by omega, by omega⟩
        rw [← fs]
        unfold cobj at hc e ⊢
        l_intsC
  · obtain ⟨r, e, hr⟩ := fill_tail (st := st.set lc (cobj ns i v (k + 1))) (lc := lc) (ns := ns) (i := i) (v := v) (k := k + 1) (num := (k + 1) * 69621 + 12345) (g _) (by omega) (by omega) (by omega) (by omega)
    refine ⟨r, i, ?_, hr, hi, hi2⟩
    rw [← fs]
    unfold cobj at hc e ⊢
    l_intsC
end K30
end
section
set_option Elab.async false
set_option autoImplicit false
set_option linter.all false
set_option maxRecDepth 100000
set_option maxHeartbeats 2000000
namespace K30
open PySem L2 Mn
local macro_rules | `(tactic| l_ints) => `(tactic| simp only [bnd_some', ret1_some', sSeq_eq, kThen_nx, kThen_rt, kThen_bk, kThen_ct, sNil_eq, sAsg_eq, kAsg_eq, sDrop_eq, kDrop_eq, sRet_eq, kRet_eq, sRetN_eq, sBreak_eq, sCont_eq, sIf_eq, kIf_true, kIf_false, sTgt_eq, kTgt1_eq, kTgt2_eq, sPar_eq, kPar2_eq, sPar3_eq, kPar3_eq, sFor_eq, kFor_eq, sAug_eq, kAug_eq, kAug1_eq, mV_eq, kGot_eq, mC_eq, mOp_eq, kOp1_eq, kOp2_eq, mTB_eq, kB_eq, mAnd_eq, kAnd_true, kAnd_false, mOr_eq, kOr_true, kOr_false, mNot_eq, kNot_eq, mIte_eq, kIte_true, kIte_false, mAndV_eq, kAndV_true, kAndV_false, mOrV_eq, kOrV_true, kOrV_false, mNotV_eq, kNotV_eq, mNil_eq, mCons_eq, kCons1_eq, kCons2_eq, mTup_eq, kTup_eq, mLst_eq, kLst_eq, mFrz_eq, kFrz_eq, mMut_eq, kMut_eq, mCall_eq, mCB_eq, kCB_eq, mCBL_eq, kCBL_eq, mTr_eq, kTr_eq, mNeg_eq, kNeg_eq, mChain_eq, kChn1_eq, kChn2_eq, kChn_true, kChn_false, gN_eq, gsN_eq, gsC_eq, kGs_eq, gT_eq, gTp_eq, gSet_eq, kSet1_eq, kSet2_eq, kSetE_eq, setO_eq, setL_nat, setL_lit, setL_str, mMt_eq, kMt1_eq, kMt1'_eq, kMt2_eq, kMt2'_eq, kMt3_eq, fApp_eq, fPop_eq, kPop_eq, getLast_snoc, dropLast_snoc, fExt_eq, kExt_eq, oAdd_int, oAdd_str, oAdd_tup, oAdd_lst, oAdd_loc, kCat_eq, lstD_lst, lstD_loc, isLst_eq, seqD_tup, seqD_lst, seqD_rol, seqD_loc, dicD_dic, dicD_loc, isDic_eq, oSub_int, oMul_int, oDiv_int, oMod_int, oI_plus, oI_minus, oLt_int, oLe_int, oGt_int, oGe_int, oEq_int, oEq_str, oEq_bl, oNe_int, oNe_str, oNe_bl, oIs_non, oIsNot_non, isN_non, isN_int, isN_bl, isN_str, isN_tup, isN_lst, isN_loc, atI_lit, atI_natc, atI_neg1, ixO_tup, ixO_lst, ixO_dics, ixO_dici, ixO_locs, ixO_loci, ixL_lst, ixL_dics, ixL_dici, cLen_tup, cLen_lst, cLen_dic, cLen_loc, lenL_lst, lenL_dic, cInt_int, cInt_bl, cAbs_int, cTup_tup, cTup_lst, cTup_loc, tupL_eq, cList_eq, cBls_lst, blsA_eq, fAll_eq, fAny_eq, truD_lst, truD_tup, truD_bl, truD_int, truD_non, truD_loc, truL_lst, truL_dic, itD_tup, itD_lst, miSeq_eq, kIt_eq, miR1_eq, kR1_eq, miR2_eq, kR2_eq, mSl_eq, kSl1_eq, kSl2_eq, kSl3_eq, mNoP_eq, mPart_eq, kPart_eq, slD_tup, slD_lst, slD_rol, slD_loc, slA_eq, mIsi_eq, kIsi_eq, tyD_non, tyD_bl, tyD_int, tyD_str, tyD_tup, tyD_lst, isi_NoneType_tuple, isi_NoneType_list, isi_NoneType_int, isi_NoneType_str, isi_NoneType_bool, isi_NoneType_int_str, isi_bool_tuple, isi_bool_list, isi_bool_int, isi_bool_str, isi_bool_bool, isi_bool_int_str, isi_int_tuple, isi_int_list, isi_int_int, isi_int_str, isi_int_bool, isi_int_int_str, isi_str_tuple, isi_str_list, isi_str_int, isi_str_str, isi_str_bool, isi_str_int_str, isi_tuple_tuple, isi_tuple_list, isi_tuple_int, isi_tuple_str, isi_tuple_bool, isi_tuple_int_str, isi_list_tuple, isi_list_list, isi_list_int, isi_list_str, isi_list_bool, isi_list_int_str, mDicF_eq, kDicF_eq, mDicM_eq, kDicM_eq, dicA_eq, dicB_eq, mDic0_eq, mGet1_eq, kGet1_eq, kGet1a_eq, mGet2_eq, kGet2_eq, kGet2a_eq, kGet2b_eq, kGet3_str, kGet3_int, kForB_eq, kForS_nx, kForS_ct, kForS_bk, kForS_rt, kWh_true, kWh_false, kWhS_nx, kWhS_ct, kWhS_bk, kWhS_rt, mLc_eq, kLc_eq, kLc1_eq, kLc2_true, kLc2_false, kLc3_eq, kLc4_eq, mYes_eq, wipeE_nil, wipeE_cons, mFun_0, mFun_1, mFun_2, mFun_3, mFun_4, mFun_5, mFun_6, mFun_7, mFun_8, mFunL_0, mFunL_1, mFunL_2, mFunL_3, mFunL_4, mFunL_5, mFunL_6, mFunL_7, mFunL_8, endW_rt, endW_nx, mRev_eq, kRev_eq, miTxt_eq, kTxt_eq, oIsB_bl, oIsNotB_bl, oIn_eq, oNotIn_eq, kIn_eq, kNIn_eq, inO_sign, inA_eq, inO_tup, inO_lst, inO_loc, inL_lst, inL_dics, inL_dici, inO_dics, inO_dici, flatD_non, flatD_bl, flatD_int, flatD_str, Nat.reduceSub, Nat.reduceAdd, Nat.reduceLeDiff, Nat.reduceLT, Nat.reduceEqDiff, Int.reduceLT, Int.reduceLE, Int.reduceAdd, Int.reduceSub, Int.reduceNeg, Int.reduceMul, Int.reduceToNat, Int.reduceBEq, fits_lit, List.getElem?_cons_zero, List.getElem?_cons_succ, List.getElem?_nil, List.set_cons_zero, List.set_cons_succ, List.set_nil, List.length_cons, List.length_nil, List.length_set, List.length_map, List.length_append, List.set_set, List.replicate_succ, List.replicate_zero, List.isEmpty_nil, List.isEmpty_cons, List.nil_append, List.cons_append, List.append_assoc, Bool.not_true, Bool.not_false, decide_true, decide_false, if_true, if_false, Bool.false_eq_true, st_app, st_app0, st_set, st_set0, List.getLast?_nil, getLast_snoc, dropLast_snoc])
local macro_rules | `(tactic| l_intsC) => `(tactic| simp only [bnd_some', ret1_some', sSeq_eq, kThen_nx, kThen_rt, kThen_bk, kThen_ct, sNil_eq, sAsg_eq, kAsg_eq, sDrop_eq, kDrop_eq, sRet_eq, kRet_eq, sRetN_eq, sBreak_eq, sCont_eq, sIf_eq, kIf_true, kIf_false, sTgt_eq, kTgt1_eq, kTgt2_eq, sPar_eq, kPar2_eq, sPar3_eq, kPar3_eq, sFor_eq, kFor_eq, sAug_eq, kAug_eq, kAug1_eq, mV_eq, kGot_eq, mC_eq, mOp_eq, kOp1_eq, kOp2_eq, mTB_eq, kB_eq, mAnd_eq, kAnd_true, kAnd_false, mOr_eq, kOr_true, kOr_false, mNot_eq, kNot_eq, mIte_eq, kIte_true, kIte_false, mAndV_eq, kAndV_true, kAndV_false, mOrV_eq, kOrV_true, kOrV_false, mNotV_eq, kNotV_eq, mNil_eq, mCons_eq, kCons1_eq, kCons2_eq, mTup_eq, kTup_eq, mLst_eq, kLst_eq, mFrz_eq, kFrz_eq, mMut_eq, kMut_eq, mCall_eq, mCB_eq, kCB_eq, mCBL_eq, kCBL_eq, mTr_eq, kTr_eq, mNeg_eq, kNeg_eq, mChain_eq, kChn1_eq, kChn2_eq, kChn_true, kChn_false, gN_eq, gsN_eq, gsC_eq, kGs_eq, gT_eq, gTp_eq, gSet_eq, kSet1_eq, kSet2_eq, kSetE_eq, setO_eq, setL_nat, setL_lit, setL_str, mMt_eq, kMt1_eq, kMt1'_eq, kMt2_eq, kMt2'_eq, kMt3_eq, fApp_eq, fPop_eq, kPop_eq, getLast_snoc, dropLast_snoc, fExt_eq, kExt_eq, oAdd_int, oAdd_str, oAdd_tup, oAdd_lst, oAdd_loc, kCat_eq, lstD_lst, lstD_loc, isLst_eq, seqD_tup, seqD_lst, seqD_rol, seqD_loc, dicD_dic, dicD_loc, isDic_eq, oSub_int, oMul_int, oDiv_int, oMod_int, oI_plus, oI_minus, oLt_int, oLe_int, oGt_int, oGe_int, oEq_int, oEq_str, oEq_bl, oNe_int, oNe_str, oNe_bl, oIs_non, oIsNot_non, isN_non, isN_int, isN_bl, isN_str, isN_tup, isN_lst, isN_loc, atI_lit, atI_natc, atI_neg1, ixO_tup, ixO_lst, ixO_dics, ixO_dici, ixO_locs, ixO_loci, ixL_lst, ixL_dics, ixL_dici, cLen_tup, cLen_lst, cLen_dic, cLen_loc, lenL_lst, lenL_dic, cInt_int, cInt_bl, cAbs_int, cTup_tup, cTup_lst, cTup_loc, tupL_eq, cList_eq, cBls_lst, blsA_eq, fAll_eq, fAny_eq, truD_lst, truD_tup, truD_bl, truD_int, truD_non, truD_loc, truL_lst, truL_dic, itD_tup, itD_lst, miSeq_eq, kIt_eq, miR1_eq, kR1_eq, miR2_eq, kR2_eq, mSl_eq, kSl1_eq, kSl2_eq, kSl3_eq, mNoP_eq, mPart_eq, kPart_eq, slD_tup, slD_lst, slD_rol, slD_loc, slA_eq, mIsi_eq, kIsi_eq, tyD_non, tyD_bl, tyD_int, tyD_str, tyD_tup, tyD_lst, isi_NoneType_tuple, isi_NoneType_list, isi_NoneType_int, isi_NoneType_str, isi_NoneType_bool, isi_NoneType_int_str, isi_bool_tuple, isi_bool_list, isi_bool_int, isi_bool_str, isi_bool_bool, isi_bool_int_str, isi_int_tuple, isi_int_list, isi_int_int, isi_int_str, isi_int_bool, isi_int_int_str, isi_str_tuple, isi_str_list, isi_str_int, isi_str_str, isi_str_bool, isi_str_int_str, isi_tuple_tuple, isi_tuple_list, isi_tuple_int, isi_tuple_str, isi_tuple_bool, isi_tuple_int_str, isi_list_tuple, isi_list_list, isi_list_int, isi_list_str, isi_list_bool, isi_list_int_str, mDicF_eq, kDicF_eq, mDicM_eq, kDicM_eq, dicA_eq, dicB_eq, mDic0_eq, mGet1_eq, kGet1_eq, kGet1a_eq, mGet2_eq, kGet2_eq, kGet2a_eq, kGet2b_eq, kGet3_str, kGet3_int, kForB_eq, kForS_nx, kForS_ct, kForS_bk, kForS_rt, kWh_true, kWh_false, kWhS_nx, kWhS_ct, kWhS_bk, kWhS_rt, mLc_eq, kLc_eq, kLc1_eq, kLc2_true, kLc2_false, kLc3_eq, kLc4_eq, mYes_eq, wipeE_nil, wipeE_cons, mFun_0, mFun_1, mFun_2, mFun_3, mFun_4, mFun_5, mFun_6, mFun_7, mFun_8, mFunL_0, mFunL_1, mFunL_2, mFunL_3, mFunL_4, mFunL_5, mFunL_6, mFunL_7, mFunL_8, endW_rt, endW_nx, mRev_eq, kRev_eq, miTxt_eq, kTxt_eq, oIsB_bl, oIsNotB_bl, oIn_eq, oNotIn_eq, kIn_eq, kNIn_eq, inO_sign, inA_eq, inO_tup, inO_lst, inO_loc, inL_lst, inL_dics, inL_dici, inO_dics, inO_dici, flatD_non, flatD_bl, flatD_int, flatD_str, Nat.reduceSub, Nat.reduceAdd, Nat.reduceLeDiff, Nat.reduceLT, Nat.reduceEqDiff, Int.reduceLT, Int.reduceLE, Int.reduceAdd, Int.reduceSub, Int.reduceNeg, Int.reduceMul, Int.reduceToNat, Int.reduceBEq, fits_lit, List.getElem?_cons_zero, List.getElem?_cons_succ, List.getElem?_nil, List.set_cons_zero, List.set_cons_succ, List.set_nil, List.length_cons, List.length_nil, List.length_set, List.length_map, List.length_append, List.set_set, List.replicate_succ, List.replicate_zero, List.isEmpty_nil, List.isEmpty_cons, List.nil_append, List.cons_append, List.append_assoc, Bool.not_true, Bool.not_false, decide_true, decide_false, if_true, if_false, Bool.false_eq_true, st_app, st_app0, st_set, st_set0, List.getLast?_nil, getLast_snoc, dropLast_snoc, *])
structure CSt where
  i : Int
  v : Int
  k : Int
def Good (ns : List Int) (K : Int) (s : CSt) : Prop := (0 ≤ s.i ∧ s.i ≤ ns.length) ∧ 0 ≤ s.k ∧ s.k ≤ K
theorem Good.mono {ns : List Int} {K K' : Int} {s : CSt} (h : Good ns K s) (hk : K ≤ K') : Good ns K' s := ⟨h.1, h.2.1, by have := h.2.2; omega⟩
/-- the store with the draws' state s at lc -/
def cst (st : Store) (lc : Nat) (ns : List Int) (s : CSt) : Store := st.set lc (cobj ns s.i s.v s.k)
section
variable {st : Store} {lc : Nat} {ns : List Int} {s s' : CSt} {K m : Int} {d : D} {g : Store}
theorem cst_get (h : lc < st.length) : (cst st lc ns s)[lc]? = some (cobj ns s.i s.v s.k) := List.getElem?_set_self h
theorem cst_len : (cst st lc ns s).length = st.length := by simp [cst]
theorem cst_set {i v k : Int} : (cst st lc ns s).set lc (cobj ns i v k) = cst st lc ns ⟨i, v, k⟩ := by simp [cst]
theorem cst_app (h : lc < st.length) : cst st lc ns s ++ g = cst (st ++ g) lc ns s := by
  unfold cst
  rw [List.set_append_left _ _ h]
theorem fin_cst (h : lc < st.length) (hd : lo st.length d = true) : fin (cst st lc ns s) d (cst st lc ns s') = some (d, cst st lc ns s') := by
  have e : cst st lc ns s' = (cst st lc ns s).set lc (cobj ns s'.i s'.v s'.k) := by simp [cst]
  rw [e]
  exact fin_set0 (by rw [cst_len]; exact h) (lo_cobj _ _ _ _ _) (by rw [cst_len]; exact hd)
theorem fin_cstg (h : lc < st.length) (hd : lo st.length d = true) : fin (cst st lc ns s) d (cst st lc ns s' ++ g) = some (d, cst st lc ns s') := by
  have e : cst st lc ns s' = (cst st lc ns s).set lc (cobj ns s'.i s'.v s'.k) := by simp [cst]
  rw [e]
  exact fin_set (by rw [cst_len]; exact h) (lo_cobj _ _ _ _ _) (by rw [cst_len]; exact hd)
theorem take_rest (h : lc < st.length) (hm : 0 < m) (hm2 : m < 1000000) : ∃ d s', R__law_take_1 [some (.loc lc), some (.int m), none] (cst st lc ns s) = some (.rt (.int d), cst st lc ns s') ∧ (0 ≤ d ∧ d < m) ∧ s'.i = s.i ∧ s'.k = s.k := by
  have hc := cst_get (ns := ns) (s := s) h
  have hl : lc < (cst st lc ns s).length := by rw [cst_len]; exact h
  have g : ∀ d, ((cst st lc ns s).set lc d)[lc]? = some d := fun d => List.getElem?_set_self hl
  have f1 : Fits m = true := fits_ab (by omega) (by omega)
  refine ⟨s.v % m, ⟨s.i, s.v / m, s.k⟩, ?_, ⟨Int.emod_nonneg _ (by omega), Int.emod_lt_of_pos _ hm⟩, rfl, rfl⟩
  have e : cst st lc ns ⟨s.i, s.v / m, s.k⟩ = (cst st lc ns s).set lc (cobj ns s.i (s.v / m) s.k) := cst_set.symm
  rw [e]
  unfold R__law_take_1
  unfold cobj at hc ⊢
  l_intsC
theorem take_spec (h : lc < st.length) (hg : Good ns K s) (hK : K < 1000000000000000000) (hm : 0 < m) (hm2 : m < 1000000) :
    ∃ d s', F__law_take [.loc lc, .int m] (cst st lc ns s) = some (.int d, cst st lc ns s') ∧ (0 ≤ d ∧ d < m) ∧ Good ns (K + 1) s' := by
  have hc := cst_get (ns := ns) (s := s) h
  have hl : lc < (cst st lc ns s).length := by rw [cst_len]; exact h
  have g : ∀ d, ((cst st lc ns s).set lc d)[lc]? = some d := fun d => List.getElem?_set_self hl
  obtain ⟨⟨g1, g2⟩, g3, g4⟩ := hg
  unfold F__law_take B__law_take
  by_cases hv : s.v < m
  · obtain ⟨r, i', e, hr, h1, h2⟩ := fill_spec hc g1 g2 g3 (by omega)
    obtain ⟨d, s', e2, hd, hi, hk⟩ := take_rest (ns := ns) (s := ⟨i', r, s.k + 1⟩) h hm hm2
    refine ⟨d, s', ?_, hd, ⟨by rw [hi]; exact ⟨h1, h2⟩, by rw [hk]; show 0 ≤ s.k + 1; omega, by rw [hk]; show s.k + 1 ≤ K + 1; omega⟩⟩
    have e3 : cst st lc ns ⟨i', r, s.k + 1⟩ = (cst st lc ns s).set lc (cobj ns i' r (s.k + 1)) := cst_set.symm
    rw [e3] at e2
    unfold cobj at hc e e2
    l_intsC
    rw [fin_cst h rfl]
  · obtain ⟨d, s', e2, hd, hi, hk⟩ := take_rest (ns := ns) (s := s) h hm hm2
    refine ⟨d, s', ?_, hd, ⟨by rw [hi]; exact ⟨g1, g2⟩, by rw [hk]; exact g3, by rw [hk]; omega⟩⟩
    unfold cobj at hc
    l_intsC
    rw [fin_cst h rfl]
end
end K30
end
section
set_option Elab.async false
set_option autoImplicit false
set_option linter.all false
set_option maxRecDepth 100000
set_option maxHeartbeats 2000000
namespace K30
open PySem L2 Mn
local macro_rules | `(tactic| l_ints) => `(tactic| simp only [bnd_some', ret1_some', sSeq_eq, kThen_nx, kThen_rt, kThen_bk, kThen_ct, sNil_eq, sAsg_eq, kAsg_eq, sDrop_eq, kDrop_eq, sRet_eq, kRet_eq, sRetN_eq, sBreak_eq, sCont_eq, sIf_eq, kIf_true, kIf_false, sTgt_eq, kTgt1_eq, kTgt2_eq, sPar_eq, kPar2_eq, sPar3_eq, kPar3_eq, sFor_eq, kFor_eq, sAug_eq, kAug_eq, kAug1_eq, mV_eq, kGot_eq, mC_eq, mOp_eq, kOp1_eq, kOp2_eq, mTB_eq, kB_eq, mAnd_eq, kAnd_true, kAnd_false, mOr_eq, kOr_true, kOr_false, mNot_eq, kNot_eq, mIte_eq, kIte_true, kIte_false, mAndV_eq, kAndV_true, kAndV_false, mOrV_eq, kOrV_true, kOrV_false, mNotV_eq, kNotV_eq, mNil_eq, mCons_eq, kCons1_eq, kCons2_eq, mTup_eq, kTup_eq, mLst_eq, kLst_eq, mFrz_eq, kFrz_eq, mMut_eq, kMut_eq, mCall_eq, mCB_eq, kCB_eq, mCBL_eq, kCBL_eq, mTr_eq, kTr_eq, mNeg_eq, kNeg_eq, mChain_eq, kChn1_eq, kChn2_eq, kChn_true, kChn_false, gN_eq, gsN_eq, gsC_eq, kGs_eq, gT_eq, gTp_eq, gSet_eq, kSet1_eq, kSet2_eq, kSetE_eq, setO_eq, setL_nat, setL_lit, setL_str, mMt_eq, kMt1_eq, kMt1'_eq, kMt2_eq, kMt2'_eq, kMt3_eq, fApp_eq, fPop_eq, kPop_eq, getLast_snoc, dropLast_snoc, fExt_eq, kExt_eq, oAdd_int, oAdd_str, oAdd_tup, oAdd_lst, oAdd_loc, kCat_eq, lstD_lst, lstD_loc, isLst_eq, seqD_tup, seqD_lst, seqD_rol, seqD_loc, dicD_dic, dicD_loc, isDic_eq, oSub_int, oMul_int, oDiv_int, oMod_int, oI_plus, oI_minus, oLt_int, oLe_int, oGt_int, oGe_int, oEq_int, oEq_str, oEq_bl, oNe_int, oNe_str, oNe_bl, oIs_non, oIsNot_non, isN_non, isN_int, isN_bl, isN_str, isN_tup, isN_lst, isN_loc, atI_lit, atI_natc, atI_neg1, ixO_tup, ixO_lst, ixO_dics, ixO_dici, ixO_locs, ixO_loci, ixL_lst, ixL_dics, ixL_dici, cLen_tup, cLen_lst, cLen_dic, cLen_loc, lenL_lst, lenL_dic, cInt_int, cInt_bl, cAbs_int, cTup_tup, cTup_lst, cTup_loc, tupL_eq, cList_eq, cBls_lst, blsA_eq, fAll_eq, fAny_eq, truD_lst, truD_tup, truD_bl, truD_int, truD_non, truD_loc, truL_lst, truL_dic, itD_tup, itD_lst, miSeq_eq, kIt_eq, miR1_eq, kR1_eq, miR2_eq, kR2_eq, mSl_eq, kSl1_eq, kSl2_eq, kSl3_eq, mNoP_eq, mPart_eq, kPart_eq, slD_tup, slD_lst, slD_rol, slD_loc, slA_eq, mIsi_eq, kIsi_eq, tyD_non, tyD_bl, tyD_int, tyD_str, tyD_tup, tyD_lst, isi_NoneType_tuple, isi_NoneType_list, isi_NoneType_int, isi_NoneType_str, isi_NoneType_bool, isi_NoneType_int_str, isi_bool_tuple, isi_bool_list, isi_bool_int, isi_bool_str, isi_bool_bool, isi_bool_int_str, isi_int_tuple, isi_int_list, isi_int_int, isi_int_str, isi_int_bool, isi_int_int_str, isi_str_tuple, isi_str_list, isi_str_int, isi_str_str, isi_str_bool, isi_str_int_str, isi_tuple_tuple, isi_tuple_list, isi_tuple_int, isi_tuple_str, isi_tuple_bool, isi_tuple_int_str, isi_list_tuple, isi_list_list, isi_list_int, isi_list_str, isi_list_bool, isi_list_int_str, mDicF_eq, kDicF_eq, mDicM_eq, kDicM_eq, dicA_eq, dicB_eq, mDic0_eq, mGet1_eq, kGet1_eq, kGet1a_eq, mGet2_eq, kGet2_eq, kGet2a_eq, kGet2b_eq, kGet3_str, kGet3_int, kForB_eq, kForS_nx, kForS_ct, kForS_bk, kForS_rt, kWh_true, kWh_false, kWhS_nx, kWhS_ct, kWhS_bk, kWhS_rt, mLc_eq, kLc_eq, kLc1_eq, kLc2_true, kLc2_false, kLc3_eq, kLc4_eq, mYes_eq, wipeE_nil, wipeE_cons, mFun_0, mFun_1, mFun_2, mFun_3, mFun_4, mFun_5, mFun_6, mFun_7, mFun_8, mFunL_0, mFunL_1, mFunL_2, mFunL_3, mFunL_4, mFunL_5, mFunL_6, mFunL_7, mFunL_8, endW_rt, endW_nx, mRev_eq, kRev_eq, miTxt_eq, kTxt_eq, oIsB_bl, oIsNotB_bl, oIn_eq, oNotIn_eq, kIn_eq, kNIn_eq, inO_sign, inA_eq, inO_tup, inO_lst, inO_loc, inL_lst, inL_dics, inL_dici, inO_dics, inO_dici, flatD_non, flatD_bl, flatD_int, flatD_str, Nat.reduceSub, Nat.reduceAdd, Nat.reduceLeDiff, Nat.reduceLT, Nat.reduceEqDiff, Int.reduceLT, Int.reduceLE, Int.reduceAdd, Int.reduceSub, Int.reduceNeg, Int.reduceMul, Int.reduceToNat, Int.reduceBEq, fits_lit, List.getElem?_cons_zero, List.getElem?_cons_succ, List.getElem?_nil, List.set_cons_zero, List.set_cons_succ, List.set_nil, List.length_cons, List.length_nil, List.length_set, List.length_map, List.length_append, List.set_set, List.replicate_succ, List.replicate_zero, List.isEmpty_nil, List.isEmpty_cons, List.nil_append, List.cons_append, List.append_assoc, Bool.not_true, Bool.not_false, decide_true, decide_false, if_true, if_false, Bool.false_eq_true, st_app, st_app0, st_set, st_set0, List.getLast?_nil, getLast_snoc, dropLast_snoc])
local macro_rules | `(tactic| l_intsC) => `(tactic| simp only [bnd_some', ret1_some', sSeq_eq, kThen_nx, kThen_rt, kThen_bk, kThen_ct, sNil_eq, sAsg_eq, kAsg_eq, sDrop_eq, kDrop_eq, sRet_eq, kRet_eq, sRetN_eq, sBreak_eq, sCont_eq, sIf_eq, kIf_true, kIf_false, sTgt_eq, kTgt1_eq, kTgt2_eq, sPar_eq, kPar2_eq, sPar3_eq, kPar3_eq, sFor_eq, kFor_eq, sAug_eq, kAug_eq, kAug1_eq, mV_eq, kGot_eq, mC_eq, mOp_eq, kOp1_eq, kOp2_eq, mTB_eq, kB_eq, mAnd_eq, kAnd_true, kAnd_false, mOr_eq, kOr_true, kOr_false, mNot_eq, kNot_eq, mIte_eq, kIte_true, kIte_false, mAndV_eq, kAndV_true, kAndV_false, mOrV_eq, kOrV_true, kOrV_false, mNotV_eq, kNotV_eq, mNil_eq, mCons_eq, kCons1_eq, kCons2_eq, mTup_eq, kTup_eq, mLst_eq, kLst_eq, mFrz_eq, kFrz_eq, mMut_eq, kMut_eq, mCall_eq, mCB_eq, kCB_eq, mCBL_eq, kCBL_eq, mTr_eq, kTr_eq, mNeg_eq, kNeg_eq, mChain_eq, kChn1_eq, kChn2_eq, kChn_true, kChn_false, gN_eq, gsN_eq, gsC_eq, kGs_eq, gT_eq, gTp_eq, gSet_eq, kSet1_eq, kSet2_eq, kSetE_eq, setO_eq, setL_nat, setL_lit, setL_str, mMt_eq, kMt1_eq, kMt1'_eq, kMt2_eq, kMt2'_eq, kMt3_eq, fApp_eq, fPop_eq, kPop_eq, getLast_snoc, dropLast_snoc, fExt_eq, kExt_eq, oAdd_int, oAdd_str, oAdd_tup, oAdd_lst, oAdd_loc, kCat_eq, lstD_lst, lstD_loc, isLst_eq, seqD_tup, seqD_lst, seqD_rol, seqD_loc, dicD_dic, dicD_loc, isDic_eq, oSub_int, oMul_int, oDiv_int, oMod_int, oI_plus, oI_minus, oLt_int, oLe_int, oGt_int, oGe_int, oEq_int, oEq_str, oEq_bl, oNe_int, oNe_str, oNe_bl, oIs_non, oIsNot_non, isN_non, isN_int, isN_bl, isN_str, isN_tup, isN_lst, isN_loc, atI_lit, atI_natc, atI_neg1, ixO_tup, ixO_lst, ixO_dics, ixO_dici, ixO_locs, ixO_loci, ixL_lst, ixL_dics, ixL_dici, cLen_tup, cLen_lst, cLen_dic, cLen_loc, lenL_lst, lenL_dic, cInt_int, cInt_bl, cAbs_int, cTup_tup, cTup_lst, cTup_loc, tupL_eq, cList_eq, cBls_lst, blsA_eq, fAll_eq, fAny_eq, truD_lst, truD_tup, truD_bl, truD_int, truD_non, truD_loc, truL_lst, truL_dic, itD_tup, itD_lst, miSeq_eq, kIt_eq, miR1_eq, kR1_eq, miR2_eq, kR2_eq, mSl_eq, kSl1_eq, kSl2_eq, kSl3_eq, mNoP_eq, mPart_eq, kPart_eq, slD_tup, slD_lst, slD_rol, slD_loc, slA_eq, mIsi_eq, kIsi_eq, tyD_non, tyD_bl, tyD_int, tyD_str, tyD_tup, tyD_lst, isi_NoneType_tuple, isi_NoneType_list, isi_NoneType_int, isi_NoneType_str, isi_NoneType_bool, isi_NoneType_int_str, isi_bool_tuple, isi_bool_list, isi_bool_int, isi_bool_str, isi_bool_bool, isi_bool_int_str, isi_int_tuple, isi_int_list, isi_int_int, isi_int_str, isi_int_bool, isi_int_int_str, isi_str_tuple, isi_str_list, isi_str_int, isi_str_str, isi_str_bool, isi_str_int_str, isi_tuple_tuple, isi_tuple_list, isi_tuple_int, isi_tuple_str, isi_tuple_bool, isi_tuple_int_str, isi_list_tuple, isi_list_list, isi_list_int, isi_list_str, isi_list_bool, isi_list_int_str, mDicF_eq, kDicF_eq, mDicM_eq, kDicM_eq, dicA_eq, dicB_eq, mDic0_eq, mGet1_eq, kGet1_eq, kGet1a_eq, mGet2_eq, kGet2_eq, kGet2a_eq, kGet2b_eq, kGet3_str, kGet3_int, kForB_eq, kForS_nx, kForS_ct, kForS_bk, kForS_rt, kWh_true, kWh_false, kWhS_nx, kWhS_ct, kWhS_bk, kWhS_rt, mLc_eq, kLc_eq, kLc1_eq, kLc2_true, kLc2_false, kLc3_eq, kLc4_eq, mYes_eq, wipeE_nil, wipeE_cons, mFun_0, mFun_1, mFun_2, mFun_3, mFun_4, mFun_5, mFun_6, mFun_7, mFun_8, mFunL_0, mFunL_1, mFunL_2, mFunL_3, mFunL_4, mFunL_5, mFunL_6, mFunL_7, mFunL_8, endW_rt, endW_nx, mRev_eq, kRev_eq, miTxt_eq, kTxt_eq, oIsB_bl, oIsNotB_bl, oIn_eq, oNotIn_eq, kIn_eq, kNIn_eq, inO_sign, inA_eq, inO_tup, inO_lst, inO_loc, inL_lst, inL_dics, inL_dici, inO_dics, inO_dici, flatD_non, flatD_bl, flatD_int, flatD_str, Nat.reduceSub, Nat.reduceAdd, Nat.reduceLeDiff, Nat.reduceLT, Nat.reduceEqDiff, Int.reduceLT, Int.reduceLE, Int.reduceAdd, Int.reduceSub, Int.reduceNeg, Int.reduceMul, Int.reduceToNat, Int.reduceBEq, fits_lit, List.getElem?_cons_zero, List.getElem?_cons_succ, List.getElem?_nil, List.set_cons_zero, List.set_cons_succ, List.set_nil, List.length_cons, List.length_nil, List.length_set, List.length_map, List.length_append, List.set_set, List.replicate_succ, List.replicate_zero, List.isEmpty_nil, List.isEmpty_cons, List.nil_append, List.cons_append, List.append_assoc, Bool.not_true, Bool.not_false, decide_true, decide_false, if_true, if_false, Bool.false_eq_true, st_app, st_app0, st_set, st_set0, List.getLast?_nil, getLast_snoc, dropLast_snoc, *])
theorem div_loop {st : Store} : ∀ (l : List D) (a : Int) (b : Nat) (j : Option D), b < l.length → forL (gN 2) L__law_divisor_1 l [some (.int a), some (.int b), j] st = some (.rt (.int (Int.gcd a b)), st)
  | [], a, b, j, h => by simp at h
  | x :: l, a, b, j, h => by
    simp only [List.length_cons] at h
    rw [forL_cons]
    unfold L__law_divisor_1 R__law_divisor_1
    by_cases hb : b = 0
    · subst hb
      have e : (((0 : Nat) : Int) == 0) = true := rfl
      l_intsC
      simp
    · have e : ((b : Int) == 0) = false := by simp; omega
      have hb' : (0 : Int) < b := by omega
      have ih := div_loop (st := st) l b (a % b).toNat (some x) (by have := Int.emod_lt_of_pos a hb'; have := Int.emod_nonneg a (show (b : Int) ≠ 0 by omega); omega)
      have e2 : (((a % b).toNat : Nat) : Int) = a % b := Int.toNat_of_nonneg (Int.emod_nonneg a (by omega))
      rw [e2] at ih
      unfold L__law_divisor_1 R__law_divisor_1 at ih
      l_intsC
      have : Int.gcd (b : Int) (a % b) = Int.gcd a b := by rw [Int.emod_def, Int.gcd_sub_mul_left_right, Int.gcd_comm]
      rw [this]
theorem divisor_eq (a b : Int) (st : Store) (h : 0 ≤ b) (h2 : b < 20000) : F__law_divisor [.int a, .int b] st = some (.int (Int.gcd a b), st) := by
  obtain ⟨n, rfl⟩ : ∃ n : Nat, b = (n : Int) := ⟨b.toNat, by omega⟩
  unfold F__law_divisor B__law_divisor
  l_ints
  rw [div_loop _ a n none (by rw [rngL_length]; omega)]
  l_ints
  rw [fin_same rfl]
def frac (n d : Int) : Int × Int := (n / Int.gcd n d, d / Int.gcd n d)
def eF (p : Int × Int) : D := .tup [.int p.1, .int p.2]
theorem gcd_pos (n d : Int) (h : 0 < d) : (0 : Int) < Int.gcd n d := by
  have : 0 < Int.gcd n d := Int.gcd_pos_of_ne_zero_right _ (by omega)
  omega
theorem gcd_le (n d : Int) (h : 0 < d) : (Int.gcd n d : Int) ≤ d := Int.le_of_dvd h (Int.gcd_dvd_right ..)
theorem fraction_eq (n d : Int) (st : Store) (h : 0 < d) (h2 : d < 20000) : F__law_fraction [.int n, .int d] st = some (eF (frac n d), st) := by
  have hd := divisor_eq n d st (by omega) h2
  have g0 := gcd_pos n d h
  have g1 := gcd_le n d h
  have f1 : Fits (Int.gcd n d : Int) = true := fits_ab (by omega) (by omega)
  unfold F__law_fraction B__law_fraction
  l_intsC
  rw [fin_same rfl]
  rfl
theorem plus_eq (a b : Int × Int) (st : Store) (h1 : 0 < a.2 ∧ a.2 < 1000) (h2 : 0 < b.2 ∧ b.2 < 1000) (h : a.2 * b.2 < 20000) (h3 : -1000 < a.1 ∧ a.1 < 1000) (h4 : -1000 < b.1 ∧ b.1 < 1000) :
    F__law_plus [eF a, eF b] st = some (eF (frac (a.1 * b.2 + b.1 * a.2) (a.2 * b.2)), st) := by
  have e := fraction_eq (a.1 * b.2 + b.1 * a.2) (a.2 * b.2) st (Int.mul_pos h1.1 h2.1) h
  have f1 : Fits a.1 = true := fits_ab (by omega) (by omega)
  have f2 : Fits a.2 = true := fits_ab (by omega) (by omega)
  have f3 : Fits b.1 = true := fits_ab (by omega) (by omega)
  have f4 : Fits b.2 = true := fits_ab (by omega) (by omega)
  unfold F__law_plus B__law_plus
  unfold eF at e ⊢
  l_intsC
  rw [fin_same rfl]
theorem times_eq (a b : Int × Int) (st : Store) (h1 : 0 < a.2 ∧ a.2 < 1000) (h2 : 0 < b.2 ∧ b.2 < 1000) (h : a.2 * b.2 < 20000) (h3 : -1000 < a.1 ∧ a.1 < 1000) (h4 : -1000 < b.1 ∧ b.1 < 1000) :
    F__law_times [eF a, eF b] st = some (eF (frac (a.1 * b.1) (a.2 * b.2)), st) := by
  have e := fraction_eq (a.1 * b.1) (a.2 * b.2) st (Int.mul_pos h1.1 h2.1) h
  have f1 : Fits a.1 = true := fits_ab (by omega) (by omega)
  have f2 : Fits a.2 = true := fits_ab (by omega) (by omega)
  have f3 : Fits b.1 = true := fits_ab (by omega) (by omega)
  have f4 : Fits b.2 = true := fits_ab (by omega) (by omega)
  unfold F__law_times B__law_times
  unfold eF at e ⊢
  l_intsC
  rw [fin_same rfl]
theorem atI_map {α : Type} {f : α → D} {l : List α} {a : Int} (h : 0 ≤ a) (h2 : a < l.length) : ∃ x, x ∈ l ∧ atI (l.map f) a = some (f x) := by
  obtain ⟨j, rfl⟩ : ∃ j : Nat, a = (j : Int) := ⟨a.toNat, by omega⟩
  have hlt : j < l.length := by omega
  exact ⟨l[j], List.getElem_mem hlt, by rw [atI_nat', List.getElem?_map, List.getElem?_eq_getElem hlt]; rfl⟩
def menu : List (Int × Int) := [(1, 1), (1, 2), (1, 3), (2, 3), (1, 4), (3, 4), (1, 5), (2, 7), (1, 10)]
/-- the shares of a cut -/
def lcmL : List (Int × Int) → Int → Int
  | [], f => f
  | r :: rs, f => lcmL rs (f * r.2 / Int.gcd f r.2)
def sumL (m : Int) : List (Int × Int) → Int
  | [] => 0
  | r :: rs => r.1 * (m / r.2) + sumL m rs
/-- the running least multiples stay small -/
def lokL : List (Int × Int) → Int → Bool
  | [], _ => true
  | r :: rs, f => decide (0 < f ∧ f < 20000) && decide (0 < r.1 ∧ 0 < r.2 ∧ r.1 ≤ r.2 ∧ r.2 < 20000) && lokL rs (f * r.2 / Int.gcd f r.2)
def fplus (a b : Int × Int) : Int × Int := frac (a.1 * b.2 + b.1 * a.2) (a.2 * b.2)
def okF (r : Int × Int) : Bool := decide (0 < r.2) && (decide (0 < r.1) && ((Int.gcd r.1 r.2 : Int) == 1)) && decide (r.1 < 2000 ∧ r.2 < 2000)
def CutOK (rs : List (Int × Int)) : Bool := (rs.all okF && ((rs.foldl fplus (0, 1)).1 == 1 && (rs.foldl fplus (0, 1)).2 == 1) && !rs.isEmpty) && lokL rs 1 && decide (sumL (lcmL rs 1) rs = lcmL rs 1) && decide (0 < lcmL rs 1 ∧ lcmL rs 1 < 20000) && decide (lcmL rs 1 = 1 → rs = [(1, 1)]) && decide (rs.length ≤ 3)
def rest0 (p : Int × Int) : Int × Int := frac (p.2 - p.1) p.2
def part0 (p q : Int × Int) : Int × Int := frac ((rest0 p).1 * q.1) ((rest0 p).2 * q.2)
def rest1 (p q : Int × Int) : Int × Int := frac ((rest0 p).1 * (part0 p q).2 + (0 - (part0 p q).1) * (rest0 p).2) ((rest0 p).2 * (part0 p q).2)
theorem cut_ok1 : CutOK [(1, 1)] = true := by decide +kernel
theorem cut_ok2 : ∀ p ∈ menu, p.2 ≠ 1 → CutOK [p, rest0 p] = true := by decide +kernel
theorem cut_ok3 : ∀ p ∈ menu, p.2 ≠ 1 → ∀ q ∈ menu.tail, CutOK [p, part0 p q, rest1 p q] = true := by decide +kernel
theorem sz0 : ∀ p ∈ menu, 0 < p.1 ∧ p.1 ≤ 3 ∧ 0 < p.2 ∧ p.2 ≤ 10 ∧ (p = (1, 1) ∨ p.2 ≠ 1) := by decide +kernel
theorem sz1 : ∀ p ∈ menu, p.2 ≠ 1 → 0 < (rest0 p).2 ∧ (rest0 p).2 ≤ 10 ∧ -20 < (rest0 p).1 ∧ (rest0 p).1 < 20 := by decide +kernel
theorem sz2 : ∀ p ∈ menu, p.2 ≠ 1 → ∀ q ∈ menu.tail, 0 < (part0 p q).2 ∧ (part0 p q).2 ≤ 100 ∧ -200 < (part0 p q).1 ∧ (part0 p q).1 < 200 := by decide +kernel
end K30
end
section
set_option Elab.async false
set_option autoImplicit false
set_option linter.all false
set_option maxRecDepth 100000
set_option maxHeartbeats 2000000
namespace K30
open PySem L2 Mn
local macro_rules | `(tactic| l_ints) => `(tactic| simp only [bnd_some', ret1_some', sSeq_eq, kThen_nx, kThen_rt, kThen_bk, kThen_ct, sNil_eq, sAsg_eq, kAsg_eq, sDrop_eq, kDrop_eq, sRet_eq, kRet_eq, sRetN_eq, sBreak_eq, sCont_eq, sIf_eq, kIf_true, kIf_false, sTgt_eq, kTgt1_eq, kTgt2_eq, sPar_eq, kPar2_eq, sPar3_eq, kPar3_eq, sFor_eq, kFor_eq, sAug_eq, kAug_eq, kAug1_eq, mV_eq, kGot_eq, mC_eq, mOp_eq, kOp1_eq, kOp2_eq, mTB_eq, kB_eq, mAnd_eq, kAnd_true, kAnd_false, mOr_eq, kOr_true, kOr_false, mNot_eq, kNot_eq, mIte_eq, kIte_true, kIte_false, mAndV_eq, kAndV_true, kAndV_false, mOrV_eq, kOrV_true, kOrV_false, mNotV_eq, kNotV_eq, mNil_eq, mCons_eq, kCons1_eq, kCons2_eq, mTup_eq, kTup_eq, mLst_eq, kLst_eq, mFrz_eq, kFrz_eq, mMut_eq, kMut_eq, mCall_eq, mCB_eq, kCB_eq, mCBL_eq, kCBL_eq, mTr_eq, kTr_eq, mNeg_eq, kNeg_eq, mChain_eq, kChn1_eq, kChn2_eq, kChn_true, kChn_false, gN_eq, gsN_eq, gsC_eq, kGs_eq, gT_eq, gTp_eq, gSet_eq, kSet1_eq, kSet2_eq, kSetE_eq, setO_eq, setL_nat, setL_lit, setL_str, mMt_eq, kMt1_eq, kMt1'_eq, kMt2_eq, kMt2'_eq, kMt3_eq, fApp_eq, fPop_eq, kPop_eq, getLast_snoc, dropLast_snoc, fExt_eq, kExt_eq, oAdd_int, oAdd_str, oAdd_tup, oAdd_lst, oAdd_loc, kCat_eq, lstD_lst, lstD_loc, isLst_eq, seqD_tup, seqD_lst, seqD_rol, seqD_loc, dicD_dic, dicD_loc, isDic_eq, oSub_int, oMul_int, oDiv_int, oMod_int, oI_plus, oI_minus, oLt_int, oLe_int, oGt_int, oGe_int, oEq_int, oEq_str, oEq_bl, oNe_int, oNe_str, oNe_bl, oIs_non, oIsNot_non, isN_non, isN_int, isN_bl, isN_str, isN_tup, isN_lst, isN_loc, atI_lit, atI_natc, atI_neg1, ixO_tup, ixO_lst, ixO_dics, ixO_dici, ixO_locs, ixO_loci, ixL_lst, ixL_dics, ixL_dici, cLen_tup, cLen_lst, cLen_dic, cLen_loc, lenL_lst, lenL_dic, cInt_int, cInt_bl, cAbs_int, cTup_tup, cTup_lst, cTup_loc, tupL_eq, cList_eq, cBls_lst, blsA_eq, fAll_eq, fAny_eq, truD_lst, truD_tup, truD_bl, truD_int, truD_non, truD_loc, truL_lst, truL_dic, itD_tup, itD_lst, miSeq_eq, kIt_eq, miR1_eq, kR1_eq, miR2_eq, kR2_eq, mSl_eq, kSl1_eq, kSl2_eq, kSl3_eq, mNoP_eq, mPart_eq, kPart_eq, slD_tup, slD_lst, slD_rol, slD_loc, slA_eq, mIsi_eq, kIsi_eq, tyD_non, tyD_bl, tyD_int, tyD_str, tyD_tup, tyD_lst, isi_NoneType_tuple, isi_NoneType_list, isi_NoneType_int, isi_NoneType_str, isi_NoneType_bool, isi_NoneType_int_str, isi_bool_tuple, isi_bool_list, isi_bool_int, isi_bool_str, isi_bool_bool, isi_bool_int_str, isi_int_tuple, isi_int_list, isi_int_int, isi_int_str, isi_int_bool, isi_int_int_str, isi_str_tuple, isi_str_list, isi_str_int, isi_str_str, isi_str_bool, isi_str_int_str, isi_tuple_tuple, isi_tuple_list, isi_tuple_int, isi_tuple_str, isi_tuple_bool, isi_tuple_int_str, isi_list_tuple, isi_list_list, isi_list_int, isi_list_str, isi_list_bool, isi_list_int_str, mDicF_eq, kDicF_eq, mDicM_eq, kDicM_eq, dicA_eq, dicB_eq, mDic0_eq, mGet1_eq, kGet1_eq, kGet1a_eq, mGet2_eq, kGet2_eq, kGet2a_eq, kGet2b_eq, kGet3_str, kGet3_int, kForB_eq, kForS_nx, kForS_ct, kForS_bk, kForS_rt, kWh_true, kWh_false, kWhS_nx, kWhS_ct, kWhS_bk, kWhS_rt, mLc_eq, kLc_eq, kLc1_eq, kLc2_true, kLc2_false, kLc3_eq, kLc4_eq, mYes_eq, wipeE_nil, wipeE_cons, mFun_0, mFun_1, mFun_2, mFun_3, mFun_4, mFun_5, mFun_6, mFun_7, mFun_8, mFunL_0, mFunL_1, mFunL_2, mFunL_3, mFunL_4, mFunL_5, mFunL_6, mFunL_7, mFunL_8, endW_rt, endW_nx, mRev_eq, kRev_eq, miTxt_eq, kTxt_eq, oIsB_bl, oIsNotB_bl, oIn_eq, oNotIn_eq, kIn_eq, kNIn_eq, inO_sign, inA_eq, inO_tup, inO_lst, inO_loc, inL_lst, inL_dics, inL_dici, inO_dics, inO_dici, flatD_non, flatD_bl, flatD_int, flatD_str, Nat.reduceSub, Nat.reduceAdd, Nat.reduceLeDiff, Nat.reduceLT, Nat.reduceEqDiff, Int.reduceLT, Int.reduceLE, Int.reduceAdd, Int.reduceSub, Int.reduceNeg, Int.reduceMul, Int.reduceToNat, Int.reduceBEq, fits_lit, List.getElem?_cons_zero, List.getElem?_cons_succ, List.getElem?_nil, List.set_cons_zero, List.set_cons_succ, List.set_nil, List.length_cons, List.length_nil, List.length_set, List.length_map, List.length_append, List.set_set, List.replicate_succ, List.replicate_zero, List.isEmpty_nil, List.isEmpty_cons, List.nil_append, List.cons_append, List.append_assoc, Bool.not_true, Bool.not_false, decide_true, decide_false, if_true, if_false, Bool.false_eq_true, st_app, st_app0, st_set, st_set0, List.getLast?_nil, getLast_snoc, dropLast_snoc])
local macro_rules | `(tactic| l_intsC) => `(tactic| simp only [bnd_some', ret1_some', sSeq_eq, kThen_nx, kThen_rt, kThen_bk, kThen_ct, sNil_eq, sAsg_eq, kAsg_eq, sDrop_eq, kDrop_eq, sRet_eq, kRet_eq, sRetN_eq, sBreak_eq, sCont_eq, sIf_eq, kIf_true, kIf_false, sTgt_eq, kTgt1_eq, kTgt2_eq, sPar_eq, kPar2_eq, sPar3_eq, kPar3_eq, sFor_eq, kFor_eq, sAug_eq, kAug_eq, kAug1_eq, mV_eq, kGot_eq, mC_eq, mOp_eq, kOp1_eq, kOp2_eq, mTB_eq, kB_eq, mAnd_eq, kAnd_true, kAnd_false, mOr_eq, kOr_true, kOr_false, mNot_eq, kNot_eq, mIte_eq, kIte_true, kIte_false, mAndV_eq, kAndV_true, kAndV_false, mOrV_eq, kOrV_true, kOrV_false, mNotV_eq, kNotV_eq, mNil_eq, mCons_eq, kCons1_eq, kCons2_eq, mTup_eq, kTup_eq, mLst_eq, kLst_eq, mFrz_eq, kFrz_eq, mMut_eq, kMut_eq, mCall_eq, mCB_eq, kCB_eq, mCBL_eq, kCBL_eq, mTr_eq, kTr_eq, mNeg_eq, kNeg_eq, mChain_eq, kChn1_eq, kChn2_eq, kChn_true, kChn_false, gN_eq, gsN_eq, gsC_eq, kGs_eq, gT_eq, gTp_eq, gSet_eq, kSet1_eq, kSet2_eq, kSetE_eq, setO_eq, setL_nat, setL_lit, setL_str, mMt_eq, kMt1_eq, kMt1'_eq, kMt2_eq, kMt2'_eq, kMt3_eq, fApp_eq, fPop_eq, kPop_eq, getLast_snoc, dropLast_snoc, fExt_eq, kExt_eq, oAdd_int, oAdd_str, oAdd_tup, oAdd_lst, oAdd_loc, kCat_eq, lstD_lst, lstD_loc, isLst_eq, seqD_tup, seqD_lst, seqD_rol, seqD_loc, dicD_dic, dicD_loc, isDic_eq, oSub_int, oMul_int, oDiv_int, oMod_int, oI_plus, oI_minus, oLt_int, oLe_int, oGt_int, oGe_int, oEq_int, oEq_str, oEq_bl, oNe_int, oNe_str, oNe_bl, oIs_non, oIsNot_non, isN_non, isN_int, isN_bl, isN_str, isN_tup, isN_lst, isN_loc, atI_lit, atI_natc, atI_neg1, ixO_tup, ixO_lst, ixO_dics, ixO_dici, ixO_locs, ixO_loci, ixL_lst, ixL_dics, ixL_dici, cLen_tup, cLen_lst, cLen_dic, cLen_loc, lenL_lst, lenL_dic, cInt_int, cInt_bl, cAbs_int, cTup_tup, cTup_lst, cTup_loc, tupL_eq, cList_eq, cBls_lst, blsA_eq, fAll_eq, fAny_eq, truD_lst, truD_tup, truD_bl, truD_int, truD_non, truD_loc, truL_lst, truL_dic, itD_tup, itD_lst, miSeq_eq, kIt_eq, miR1_eq, kR1_eq, miR2_eq, kR2_eq, mSl_eq, kSl1_eq, kSl2_eq, kSl3_eq, mNoP_eq, mPart_eq, kPart_eq, slD_tup, slD_lst, slD_rol, slD_loc, slA_eq, mIsi_eq, kIsi_eq, tyD_non, tyD_bl, tyD_int, tyD_str, tyD_tup, tyD_lst, isi_NoneType_tuple, isi_NoneType_list, isi_NoneType_int, isi_NoneType_str, isi_NoneType_bool, isi_NoneType_int_str, isi_bool_tuple, isi_bool_list, isi_bool_int, isi_bool_str, isi_bool_bool, isi_bool_int_str, isi_int_tuple, isi_int_list, isi_int_int, isi_int_str, isi_int_bool, isi_int_int_str, isi_str_tuple, isi_str_list, isi_str_int, isi_str_str, isi_str_bool, isi_str_int_str, isi_tuple_tuple, isi_tuple_list, isi_tuple_int, isi_tuple_str, isi_tuple_bool, isi_tuple_int_str, isi_list_tuple, isi_list_list, isi_list_int, isi_list_str, isi_list_bool, isi_list_int_str, mDicF_eq, kDicF_eq, mDicM_eq, kDicM_eq, dicA_eq, dicB_eq, mDic0_eq, mGet1_eq, kGet1_eq, kGet1a_eq, mGet2_eq, kGet2_eq, kGet2a_eq, kGet2b_eq, kGet3_str, kGet3_int, kForB_eq, kForS_nx, kForS_ct, kForS_bk, kForS_rt, kWh_true, kWh_false, kWhS_nx, kWhS_ct, kWhS_bk, kWhS_rt, mLc_eq, kLc_eq, kLc1_eq, kLc2_true, kLc2_false, kLc3_eq, kLc4_eq, mYes_eq, wipeE_nil, wipeE_cons, mFun_0, mFun_1, mFun_2, mFun_3, mFun_4, mFun_5, mFun_6, mFun_7, mFun_8, mFunL_0, mFunL_1, mFunL_2, mFunL_3, mFunL_4, mFunL_5, mFunL_6, mFunL_7, mFunL_8, endW_rt, endW_nx, mRev_eq, kRev_eq, miTxt_eq, kTxt_eq, oIsB_bl, oIsNotB_bl, oIn_eq, oNotIn_eq, kIn_eq, kNIn_eq, inO_sign, inA_eq, inO_tup, inO_lst, inO_loc, inL_lst, inL_dics, inL_dici, inO_dics, inO_dici, flatD_non, flatD_bl, flatD_int, flatD_str, Nat.reduceSub, Nat.reduceAdd, Nat.reduceLeDiff, Nat.reduceLT, Nat.reduceEqDiff, Int.reduceLT, Int.reduceLE, Int.reduceAdd, Int.reduceSub, Int.reduceNeg, Int.reduceMul, Int.reduceToNat, Int.reduceBEq, fits_lit, List.getElem?_cons_zero, List.getElem?_cons_succ, List.getElem?_nil, List.set_cons_zero, List.set_cons_succ, List.set_nil, List.length_cons, List.length_nil, List.length_set, List.length_map, List.length_append, List.set_set, List.replicate_succ, List.replicate_zero, List.isEmpty_nil, List.isEmpty_cons, List.nil_append, List.cons_append, List.append_assoc, Bool.not_true, Bool.not_false, decide_true, decide_false, if_true, if_false, Bool.false_eq_true, st_app, st_app0, st_set, st_set0, List.getLast?_nil, getLast_snoc, dropLast_snoc, *])
section
variable {st : Store} {lc : Nat} {ns : List Int} {s s' : CSt} {K m : Int} {d : D} {g : Store}
theorem fin_csta (h : lc < st.length) (hd : lo st.length d = true) : fin (cst st lc ns s) d (cst (st ++ g) lc ns s') = some (d, cst st lc ns s') := by
  rw [← cst_app h]
  exact fin_cstg h hd
theorem menu_tail {d : Int} (h : 0 ≤ d) (h2 : d < 8) : ∃ q, q ∈ menu.tail ∧ atI (menu.map eF) (1 + d) = some (eF q) := by
  obtain ⟨q, hq, e⟩ := atI_map (f := eF) (l := menu.tail) h h2
  refine ⟨q, hq, ?_⟩
  obtain ⟨j, rfl⟩ : ∃ j : Nat, d = (j : Int) := ⟨d.toNat, by omega⟩
  have : (1 + (j : Int)) = ((j + 1 : Nat) : Int) := by omega
  rw [this, atI_nat']
  rw [atI_nat'] at e
  exact e
theorem cst_snoc_get (h : lc < st.length) : (cst (st ++ [d]) lc ns s)[st.length]? = some d := by
  rw [← cst_app h]
  have := cst_len (st := st) (lc := lc) (ns := ns) (s := s)
  rw [← this]
  exact st_app0
theorem cst_snoc_set {e : D} (h : lc < st.length) : (cst (st ++ [d]) lc ns s).set st.length e = cst (st ++ [e]) lc ns s := by
  rw [← cst_app h, ← cst_app h]
  have := cst_len (st := st) (lc := lc) (ns := ns) (s := s)
  rw [← this]
  exact st_set0
theorem cut_spec (h : lc < st.length) (hg : Good ns K s) (hK : K + 3 < 1000000000000000000) :
    ∃ rs s', F__law_cut [.loc lc] (cst st lc ns s) = some (.lst (rs.map eF), cst st lc ns s') ∧ CutOK rs = true ∧ Good ns (K + 3) s' := by
  obtain ⟨d, s1, e1, hd, g1⟩ := take_spec h hg (by omega) (m := 9) (by omega) (by omega)
  obtain ⟨p, hp, a1⟩ := atI_map (f := eF) (l := menu) hd.1 hd.2
  obtain ⟨p1, p2, p3, p4, p5⟩ := sz0 p hp
  unfold menu eF at a1
  simp only [List.map_cons, List.map_nil] at a1
  unfold F__law_cut B__law_cut
  rcases p5 with p5 | p5
  · subst p5
    refine ⟨[(1, 1)], s1, ?_, cut_ok1, g1.mono (by omega)⟩
    have : ((1 : Int) == 1) = true := rfl
    l_intsC
    rw [fin_cst h rfl]
    rfl
  · have q1 : (p.2 == 1) = false := by simpa using p5
    obtain ⟨r1, r2, r3, r4⟩ := sz1 p hp p5
    have e2 : ∀ st : Store, F__law_fraction [.int (p.2 - p.1), .int p.2] st = some (.tup [.int (rest0 p).1, .int (rest0 p).2], st) := fun st => fraction_eq (p.2 - p.1) p.2 st (by omega) (by omega)
    have c0 := cst_len (st := st) (lc := lc) (ns := ns) (s := s1)
    have c1 : cst st lc ns s1 ++ [.lst [.tup [.int p.1, .int p.2]]] = cst (st ++ [.lst [.tup [.int p.1, .int p.2]]]) lc ns s1 := cst_app h
    have h' : lc < (st ++ [D.lst [.tup [.int p.1, .int p.2]]]).length := by simp; omega
    obtain ⟨t, s2, e3, ht, g2⟩ := take_spec h' g1 (by omega) (m := 3) (by omega) (by omega)
    unfold R__law_cut_2 R__law_cut_1
    by_cases ht0 : t = 0
    · subst ht0
      have t0 : ((0 : Int) == 0) = true := rfl
      obtain ⟨b, s3, e4, hb, g3⟩ := take_spec h' g2 (by omega) (m := 8) (by omega) (by omega)
      obtain ⟨q, hq, a2⟩ := menu_tail hb.1 hb.2
      unfold menu eF at a2
      simp only [List.map_cons, List.map_nil] at a2
      have hq' : q ∈ menu := List.mem_of_mem_tail hq
      obtain ⟨q2, q3, q4, q5, _⟩ := sz0 q hq'
      obtain ⟨u1, u2, u3, u4⟩ := sz2 p hp p5 q hq
      have b1 : ∀ x y : Int, 0 < x → x ≤ 100 → 0 < y → y ≤ 100 → x * y < 20000 := fun x y h1 h2 h3 h4 => by
        have := Int.mul_le_mul h2 h4 (by omega) (by omega)
        omega
      have e5 : ∀ st : Store, F__law_times [.tup [.int (rest0 p).1, .int (rest0 p).2], .tup [.int q.1, .int q.2]] st = some (.tup [.int (part0 p q).1, .int (part0 p q).2], st) := fun st => times_eq (rest0 p) q st (by omega) (by omega) (b1 _ _ (by omega) (by omega) (by omega) (by omega)) (by omega) (by omega)
      have e6 : ∀ st : Store, F__law_plus [.tup [.int (rest0 p).1, .int (rest0 p).2], .tup [.int (0 - (part0 p q).1), .int (part0 p q).2]] st = some (.tup [.int (rest1 p q).1, .int (rest1 p q).2], st) := fun st => plus_eq (rest0 p) (0 - (part0 p q).1, (part0 p q).2) st (by omega) ⟨by show 0 < (part0 p q).2; omega, by show (part0 p q).2 < 1000; omega⟩ (b1 _ _ (by omega) (by omega) (by show 0 < (part0 p q).2; omega) (by show (part0 p q).2 ≤ 100; omega)) (by omega) ⟨by show -1000 < 0 - (part0 p q).1; omega, by show 0 - (part0 p q).1 < 1000; omega⟩
      refine ⟨[p, part0 p q, rest1 p q], s3, ?_, cut_ok3 p hp p5 q hq, g3.mono (by omega)⟩
      have k1 := cst_snoc_get (st := st) (lc := lc) (ns := ns) (s := s3) (d := .lst [.tup [.int p.1, .int p.2]]) h
      have k2 := cst_snoc_set (st := st) (lc := lc) (ns := ns) (s := s3) (d := .lst [.tup [.int p.1, .int p.2]]) (e := .lst [.tup [.int p.1, .int p.2], .tup [.int (part0 p q).1, .int (part0 p q).2]]) h
      have k3 := cst_snoc_get (st := st) (lc := lc) (ns := ns) (s := s3) (d := .lst [.tup [.int p.1, .int p.2], .tup [.int (part0 p q).1, .int (part0 p q).2]]) h
      l_intsC
      rw [fin_csta h rfl]
      rfl
    · have t0 : (t == 0) = false := by simpa using ht0
      have k1 := cst_snoc_get (st := st) (lc := lc) (ns := ns) (s := s2) (d := .lst [.tup [.int p.1, .int p.2]]) h
      refine ⟨[p, rest0 p], s2, ?_, cut_ok2 p hp p5, g2.mono (by omega)⟩
      l_intsC
      rw [fin_csta h rfl]
      rfl
end
end K30
end
section
set_option Elab.async false
set_option autoImplicit false
set_option linter.all false
set_option maxRecDepth 100000
set_option maxHeartbeats 2000000
namespace K30
open PySem L2 Mn
local macro_rules | `(tactic| l_ints) => `(tactic| simp only [bnd_some', ret1_some', sSeq_eq, kThen_nx, kThen_rt, kThen_bk, kThen_ct, sNil_eq, sAsg_eq, kAsg_eq, sDrop_eq, kDrop_eq, sRet_eq, kRet_eq, sRetN_eq, sBreak_eq, sCont_eq, sIf_eq, kIf_true, kIf_false, sTgt_eq, kTgt1_eq, kTgt2_eq, sPar_eq, kPar2_eq, sPar3_eq, kPar3_eq, sFor_eq, kFor_eq, sAug_eq, kAug_eq, kAug1_eq, mV_eq, kGot_eq, mC_eq, mOp_eq, kOp1_eq, kOp2_eq, mTB_eq, kB_eq, mAnd_eq, kAnd_true, kAnd_false, mOr_eq, kOr_true, kOr_false, mNot_eq, kNot_eq, mIte_eq, kIte_true, kIte_false, mAndV_eq, kAndV_true, kAndV_false, mOrV_eq, kOrV_true, kOrV_false, mNotV_eq, kNotV_eq, mNil_eq, mCons_eq, kCons1_eq, kCons2_eq, mTup_eq, kTup_eq, mLst_eq, kLst_eq, mFrz_eq, kFrz_eq, mMut_eq, kMut_eq, mCall_eq, mCB_eq, kCB_eq, mCBL_eq, kCBL_eq, mTr_eq, kTr_eq, mNeg_eq, kNeg_eq, mChain_eq, kChn1_eq, kChn2_eq, kChn_true, kChn_false, gN_eq, gsN_eq, gsC_eq, kGs_eq, gT_eq, gTp_eq, gSet_eq, kSet1_eq, kSet2_eq, kSetE_eq, setO_eq, setL_nat, setL_lit, setL_str, mMt_eq, kMt1_eq, kMt1'_eq, kMt2_eq, kMt2'_eq, kMt3_eq, fApp_eq, fPop_eq, kPop_eq, getLast_snoc, dropLast_snoc, fExt_eq, kExt_eq, oAdd_int, oAdd_str, oAdd_tup, oAdd_lst, oAdd_loc, kCat_eq, lstD_lst, lstD_loc, isLst_eq, seqD_tup, seqD_lst, seqD_rol, seqD_loc, dicD_dic, dicD_loc, isDic_eq, oSub_int, oMul_int, oDiv_int, oMod_int, oI_plus, oI_minus, oLt_int, oLe_int, oGt_int, oGe_int, oEq_int, oEq_str, oEq_bl, oNe_int, oNe_str, oNe_bl, oIs_non, oIsNot_non, isN_non, isN_int, isN_bl, isN_str, isN_tup, isN_lst, isN_loc, atI_lit, atI_natc, atI_neg1, ixO_tup, ixO_lst, ixO_dics, ixO_dici, ixO_locs, ixO_loci, ixL_lst, ixL_dics, ixL_dici, cLen_tup, cLen_lst, cLen_dic, cLen_loc, lenL_lst, lenL_dic, cInt_int, cInt_bl, cAbs_int, cTup_tup, cTup_lst, cTup_loc, tupL_eq, cList_eq, cBls_lst, blsA_eq, fAll_eq, fAny_eq, truD_lst, truD_tup, truD_bl, truD_int, truD_non, truD_loc, truL_lst, truL_dic, itD_tup, itD_lst, miSeq_eq, kIt_eq, miR1_eq, kR1_eq, miR2_eq, kR2_eq, mSl_eq, kSl1_eq, kSl2_eq, kSl3_eq, mNoP_eq, mPart_eq, kPart_eq, slD_tup, slD_lst, slD_rol, slD_loc, slA_eq, mIsi_eq, kIsi_eq, tyD_non, tyD_bl, tyD_int, tyD_str, tyD_tup, tyD_lst, isi_NoneType_tuple, isi_NoneType_list, isi_NoneType_int, isi_NoneType_str, isi_NoneType_bool, isi_NoneType_int_str, isi_bool_tuple, isi_bool_list, isi_bool_int, isi_bool_str, isi_bool_bool, isi_bool_int_str, isi_int_tuple, isi_int_list, isi_int_int, isi_int_str, isi_int_bool, isi_int_int_str, isi_str_tuple, isi_str_list, isi_str_int, isi_str_str, isi_str_bool, isi_str_int_str, isi_tuple_tuple, isi_tuple_list, isi_tuple_int, isi_tuple_str, isi_tuple_bool, isi_tuple_int_str, isi_list_tuple, isi_list_list, isi_list_int, isi_list_str, isi_list_bool, isi_list_int_str, mDicF_eq, kDicF_eq, mDicM_eq, kDicM_eq, dicA_eq, dicB_eq, mDic0_eq, mGet1_eq, kGet1_eq, kGet1a_eq, mGet2_eq, kGet2_eq, kGet2a_eq, kGet2b_eq, kGet3_str, kGet3_int, kForB_eq, kForS_nx, kForS_ct, kForS_bk, kForS_rt, kWh_true, kWh_false, kWhS_nx, kWhS_ct, kWhS_bk, kWhS_rt, mLc_eq, kLc_eq, kLc1_eq, kLc2_true, kLc2_false, kLc3_eq, kLc4_eq, mYes_eq, wipeE_nil, wipeE_cons, mFun_0, mFun_1, mFun_2, mFun_3, mFun_4, mFun_5, mFun_6, mFun_7, mFun_8, mFunL_0, mFunL_1, mFunL_2, mFunL_3, mFunL_4, mFunL_5, mFunL_6, mFunL_7, mFunL_8, endW_rt, endW_nx, mRev_eq, kRev_eq, miTxt_eq, kTxt_eq, oIsB_bl, oIsNotB_bl, oIn_eq, oNotIn_eq, kIn_eq, kNIn_eq, inO_sign, inA_eq, inO_tup, inO_lst, inO_loc, inL_lst, inL_dics, inL_dici, inO_dics, inO_dici, flatD_non, flatD_bl, flatD_int, flatD_str, Nat.reduceSub, Nat.reduceAdd, Nat.reduceLeDiff, Nat.reduceLT, Nat.reduceEqDiff, Int.reduceLT, Int.reduceLE, Int.reduceAdd, Int.reduceSub, Int.reduceNeg, Int.reduceMul, Int.reduceToNat, Int.reduceBEq, fits_lit, List.getElem?_cons_zero, List.getElem?_cons_succ, List.getElem?_nil, List.set_cons_zero, List.set_cons_succ, List.set_nil, List.length_cons, List.length_nil, List.length_set, List.length_map, List.length_append, List.set_set, List.replicate_succ, List.replicate_zero, List.isEmpty_nil, List.isEmpty_cons, List.nil_append, List.cons_append, List.append_assoc, Bool.not_true, Bool.not_false, decide_true, decide_false, if_true, if_false, Bool.false_eq_true, st_app, st_app0, st_set, st_set0, List.getLast?_nil, getLast_snoc, dropLast_snoc])
local macro_rules | `(tactic| l_intsC) => `(tactic| simp only [bnd_some', ret1_some', sSeq_eq, kThen_nx, kThen_rt, kThen_bk, kThen_ct, sNil_eq, sAsg_eq, kAsg_eq, sDrop_eq, kDrop_eq, sRet_eq, kRet_eq, sRetN_eq, sBreak_eq, sCont_eq, sIf_eq, kIf_true, kIf_false, sTgt_eq, kTgt1_eq, kTgt2_eq, sPar_eq, kPar2_eq, sPar3_eq, kPar3_eq, sFor_eq, kFor_eq, sAug_eq, kAug_eq, kAug1_eq, mV_eq, kGot_eq, mC_eq, mOp_eq, kOp1_eq, kOp2_eq, mTB_eq, kB_eq, mAnd_eq, kAnd_true, kAnd_false, mOr_eq, kOr_true, kOr_false, mNot_eq, kNot_eq, mIte_eq, kIte_true, kIte_false, mAndV_eq, kAndV_true, kAndV_false, mOrV_eq, kOrV_true, kOrV_false, mNotV_eq, kNotV_eq, mNil_eq, mCons_eq, kCons1_eq, kCons2_eq, mTup_eq, kTup_eq, mLst_eq, kLst_eq, mFrz_eq, kFrz_eq, mMut_eq, kMut_eq, mCall_eq, mCB_eq, kCB_eq, mCBL_eq, kCBL_eq, mTr_eq, kTr_eq, mNeg_eq, kNeg_eq, mChain_eq, kChn1_eq, kChn2_eq, kChn_true, kChn_false, gN_eq, gsN_eq, gsC_eq, kGs_eq, gT_eq, gTp_eq, gSet_eq, kSet1_eq, kSet2_eq, kSetE_eq, setO_eq, setL_nat, setL_lit, setL_str, mMt_eq, kMt1_eq, kMt1'_eq, kMt2_eq, kMt2'_eq, kMt3_eq, fApp_eq, fPop_eq, kPop_eq, getLast_snoc, dropLast_snoc, fExt_eq, kExt_eq, oAdd_int, oAdd_str, oAdd_tup, oAdd_lst, oAdd_loc, kCat_eq, lstD_lst, lstD_loc, isLst_eq, seqD_tup, seqD_lst, seqD_rol, seqD_loc, dicD_dic, dicD_loc, isDic_eq, oSub_int, oMul_int, oDiv_int, oMod_int, oI_plus, oI_minus, oLt_int, oLe_int, oGt_int, oGe_int, oEq_int, oEq_str, oEq_bl, oNe_int, oNe_str, oNe_bl, oIs_non, oIsNot_non, isN_non, isN_int, isN_bl, isN_str, isN_tup, isN_lst, isN_loc, atI_lit, atI_natc, atI_neg1, ixO_tup, ixO_lst, ixO_dics, ixO_dici, ixO_locs, ixO_loci, ixL_lst, ixL_dics, ixL_dici, cLen_tup, cLen_lst, cLen_dic, cLen_loc, lenL_lst, lenL_dic, cInt_int, cInt_bl, cAbs_int, cTup_tup, cTup_lst, cTup_loc, tupL_eq, cList_eq, cBls_lst, blsA_eq, fAll_eq, fAny_eq, truD_lst, truD_tup, truD_bl, truD_int, truD_non, truD_loc, truL_lst, truL_dic, itD_tup, itD_lst, miSeq_eq, kIt_eq, miR1_eq, kR1_eq, miR2_eq, kR2_eq, mSl_eq, kSl1_eq, kSl2_eq, kSl3_eq, mNoP_eq, mPart_eq, kPart_eq, slD_tup, slD_lst, slD_rol, slD_loc, slA_eq, mIsi_eq, kIsi_eq, tyD_non, tyD_bl, tyD_int, tyD_str, tyD_tup, tyD_lst, isi_NoneType_tuple, isi_NoneType_list, isi_NoneType_int, isi_NoneType_str, isi_NoneType_bool, isi_NoneType_int_str, isi_bool_tuple, isi_bool_list, isi_bool_int, isi_bool_str, isi_bool_bool, isi_bool_int_str, isi_int_tuple, isi_int_list, isi_int_int, isi_int_str, isi_int_bool, isi_int_int_str, isi_str_tuple, isi_str_list, isi_str_int, isi_str_str, isi_str_bool, isi_str_int_str, isi_tuple_tuple, isi_tuple_list, isi_tuple_int, isi_tuple_str, isi_tuple_bool, isi_tuple_int_str, isi_list_tuple, isi_list_list, isi_list_int, isi_list_str, isi_list_bool, isi_list_int_str, mDicF_eq, kDicF_eq, mDicM_eq, kDicM_eq, dicA_eq, dicB_eq, mDic0_eq, mGet1_eq, kGet1_eq, kGet1a_eq, mGet2_eq, kGet2_eq, kGet2a_eq, kGet2b_eq, kGet3_str, kGet3_int, kForB_eq, kForS_nx, kForS_ct, kForS_bk, kForS_rt, kWh_true, kWh_false, kWhS_nx, kWhS_ct, kWhS_bk, kWhS_rt, mLc_eq, kLc_eq, kLc1_eq, kLc2_true, kLc2_false, kLc3_eq, kLc4_eq, mYes_eq, wipeE_nil, wipeE_cons, mFun_0, mFun_1, mFun_2, mFun_3, mFun_4, mFun_5, mFun_6, mFun_7, mFun_8, mFunL_0, mFunL_1, mFunL_2, mFunL_3, mFunL_4, mFunL_5, mFunL_6, mFunL_7, mFunL_8, endW_rt, endW_nx, mRev_eq, kRev_eq, miTxt_eq, kTxt_eq, oIsB_bl, oIsNotB_bl, oIn_eq, oNotIn_eq, kIn_eq, kNIn_eq, inO_sign, inA_eq, inO_tup, inO_lst, inO_loc, inL_lst, inL_dics, inL_dici, inO_dics, inO_dici, flatD_non, flatD_bl, flatD_int, flatD_str, Nat.reduceSub, Nat.reduceAdd, Nat.reduceLeDiff, Nat.reduceLT, Nat.reduceEqDiff, Int.reduceLT, Int.reduceLE, Int.reduceAdd, Int.reduceSub, Int.reduceNeg, Int.reduceMul, Int.reduceToNat, Int.reduceBEq, fits_lit, List.getElem?_cons_zero, List.getElem?_cons_succ, List.getElem?_nil, List.set_cons_zero, List.set_cons_succ, List.set_nil, List.length_cons, List.length_nil, List.length_set, List.length_map, List.length_append, List.set_set, List.replicate_succ, List.replicate_zero, List.isEmpty_nil, List.isEmpty_cons, List.nil_append, List.cons_append, List.append_assoc, Bool.not_true, Bool.not_false, decide_true, decide_false, if_true, if_false, Bool.false_eq_true, st_app, st_app0, st_set, st_set0, List.getLast?_nil, getLast_snoc, dropLast_snoc, *])
def tellS : List Str := ["a", "b", "p"]
/-- a body of a procedure, n deep at most -/
def IsB (nm : List Str) : Nat → D → Prop
  | 0, _ => False
  | n + 1, d => d = .tup [.str "end"] ∨ d = .tup [.str "stop"] ∨ (∃ x b, x ∈ tellS ∧ d = .tup [.str "tell", .str x, b] ∧ IsB nm n b) ∨ (∃ x b, x ∈ nm ∧ d = .tup [.str "call", .str x, b] ∧ IsB nm n b) ∨
    ∃ rs : List ((Int × Int) × D), d = .tup [.str "draw", .tup (rs.map fun r => .tup [eF r.1, r.2])] ∧ CutOK (rs.map (·.1)) = true ∧ ∀ r ∈ rs, IsB nm n r.2
theorem los_mapm {α : Type} {n : Nat} {f : α → D} : ∀ l : List α, (∀ x ∈ l, lo n (f x) = true) → los n (l.map f) = true
  | [], _ => rfl
  | x :: l, h => by
    show (lo n (f x) && los n (l.map f)) = true
    rw [h x (List.mem_cons_self ..), los_mapm l fun y hy => h y (List.mem_cons_of_mem _ hy)]
    rfl
theorem IsB.lo {nm : List Str} {m : Nat} : ∀ {n : Nat} {d : D}, IsB nm n d → Mn.lo m d = true
  | 0, _, h => h.elim
  | n + 1, d, h => by
    rcases h with rfl | rfl | ⟨x, b, _, rfl, hb⟩ | ⟨x, b, _, rfl, hb⟩ | ⟨rs, rfl, _, hr⟩
    · rfl
    · rfl
    · have := hb.lo (m := m)
      simp [Mn.lo, los, this]
    · have := hb.lo (m := m)
      simp [Mn.lo, los, this]
    · have : los m (rs.map fun r => D.tup [eF r.1, r.2]) = true := los_mapm rs fun r h => by
        have := (hr r h).lo (m := m)
        simp [Mn.lo, los, eF, this]
      simp [Mn.lo, los, this]
section
variable {st : Store} {lc : Nat} {ns : List Int} {s s' : CSt} {K m : Int} {d : D} {g : Store}
def cN : Nat → Int
  | 0 => 0
  | n + 1 => 5 + 3 * cN n
theorem cN_nn : ∀ n, 0 ≤ cN n
  | 0 => by decide
  | n + 1 => by have := cN_nn n; unfold cN; omega
theorem lc_rows {n : Nat} {F : Fn} {nm : List Str} {a b : D} {deep way c : Int} (hc : 0 ≤ c)
    (H : ∀ (K : Int) (s : CSt), Good ns K s → K + c < 1000000000000000000 → ∃ d s', F [.loc lc, a, b, .int (deep - 1)] (cst st lc ns s) = some (d, cst st lc ns s') ∧ IsB nm n d ∧ Good ns (K + c) s') :
    ∀ (rs : List (Int × Int)) (K : Int) (s : CSt), Good ns K s → K + c * rs.length < 1000000000000000000 →
      ∃ (out : List ((Int × Int) × D)) (s' : CSt), lcL (gN 5) mYes (E__law_body_1 n F) [some (.loc lc), some a, some b, some (.int deep), some (.int way), none] (rs.map eF) (cst st lc ns s) = some (out.map fun r => .tup [eF r.1, r.2], cst st lc ns s') ∧ out.map (·.1) = rs ∧ (∀ r ∈ out, IsB nm n r.2) ∧ Good ns (K + c * rs.length) s'
  | [], K, s, hg, hK => ⟨[], s, rfl, rfl, fun r h => (List.not_mem_nil h).elim, hg.mono (by simp)⟩
  | r :: rs, K, s, hg, hK => by
    have ee : c * ((r :: rs).length : Int) = c + c * rs.length := by
      rw [List.length_cons]
      push_cast
      rw [Int.mul_add]
      omega
    have nn : 0 ≤ c * (rs.length : Int) := Int.mul_nonneg hc (by omega)
    rw [ee] at hK ⊢
    obtain ⟨d, s1, e1, hd, g1⟩ := H K s hg (by omega)
    obtain ⟨out, s2, e2, ho, hb, g2⟩ := lc_rows (way := way) hc H rs (K + c) s1 g1 (by omega)
    refine ⟨(r, d) :: out, s2, ?_, by simp [ho], ?_, g2.mono (by omega)⟩
    · rw [List.map_cons, lcL_cons]
      have u : E__law_body_1 n F [some (.loc lc), some a, some b, some (.int deep), some (.int way), some (eF r)] (cst st lc ns s) = some (.tup [eF r, d], cst st lc ns s1) := by
        unfold E__law_body_1
        l_intsC
      l_intsC
      rfl
    · intro q hq
      rcases List.mem_cons.mp hq with rfl | hq
      · exact hd
      · exact hb q hq
theorem body_spec (h : lc < st.length) {nm lt : List Str} (hn : 0 < nm.length ∧ nm.length ≤ 4) (hl : lt.length ≤ 3) (hlt : ∀ x ∈ lt, x ∈ tellS) : ∀ (n : Nat) (deep K : Int) (s : CSt), 0 ≤ deep → deep < n → Good ns K s → K + cN n < 1000000000000000000 →
    ∃ d s', F__law_body n [.loc lc, .lst (nm.map .str), .lst (lt.map .str), .int deep] (cst st lc ns s) = some (d, cst st lc ns s') ∧ IsB nm n d ∧ Good ns (K + cN n) s'
  | 0, deep, K, s, h1, h2, _, _ => by omega
  | n + 1, deep, K, s, h1, h2, hg, hK => by
    have cn := cN_nn n
    have ec : cN (n + 1) = 5 + 3 * cN n := rfl
    rw [ec] at hK ⊢
    obtain ⟨way, s1, e1, hw, g1⟩ := take_spec h hg (by omega) (m := 9) (by omega) (by omega)
    show ∃ d s', mFun 6 4 (B__law_body n (F__law_body n)) _ _ = _ ∧ _
    unfold B__law_body
    by_cases c1 : deep < 1 ∨ way = 0
    · obtain ⟨t, s2, e2, ht, g2⟩ := take_spec h g1 (by omega) (m := 5) (by omega) (by omega)
      obtain ⟨x, hx, a1⟩ := atI_map (f := fun x : Str => D.tup [.str x]) (l := ["end", "end", "end", "end", "stop"]) ht.1 ht.2
      simp only [List.map_cons, List.map_nil] at a1
      refine ⟨.tup [.str x], s2, ?_, ?_, g2.mono (by omega)⟩
      · have fe := fin_cst (st := st) (lc := lc) (ns := ns) (s := s) (s' := s2) (d := .tup [.str x]) h rfl
        by_cases c2 : deep < 1
        · l_intsC
        · have w0 : (way == 0) = true := by simpa using c1.resolve_left c2
          l_intsC
      · simp only [List.mem_cons, List.not_mem_nil, or_false] at hx
        rcases hx with rfl | rfl | rfl | rfl | rfl <;> simp [IsB]
    · have c2 : ¬ deep < 1 := fun z => c1 (.inl z)
      have w0 : (way == 0) = false := by simpa using fun z => c1 (.inr z)
      have H : ∀ (K : Int) (s : CSt), Good ns K s → K + cN n < 1000000000000000000 → ∃ d s', F__law_body n [.loc lc, .lst (nm.map .str), .lst (lt.map .str), .int (deep - 1)] (cst st lc ns s) = some (d, cst st lc ns s') ∧ IsB nm n d ∧ Good ns (K + cN n) s' :=
        fun K s hg hK => body_spec h hn hl hlt n (deep - 1) K s (by omega) (by omega) hg hK
      unfold R__law_body_3
      -- the rest, once the letters are done with
      have rest : ∃ d s', endW (fin (cst st lc ns s)) (R__law_body_2 n (F__law_body n) [some (.loc lc), some (.lst (nm.map .str)), some (.lst (lt.map .str)), some (.int deep), some (.int way), none] (cst st lc ns s1)) = some (d, cst st lc ns s') ∧ IsB nm (n + 1) d ∧ Good ns (K + (5 + 3 * cN n)) s' := by
        unfold R__law_body_2 R__law_body_1
        by_cases c3 : way < 6
        · obtain ⟨t, s2, e2, ht, g2⟩ := take_spec h g1 (by omega) (m := (nm.length : Int)) (by omega) (by omega)
          obtain ⟨x, hx, a1⟩ := atI_map (f := D.str) (l := nm) ht.1 ht.2
          obtain ⟨b, s3, e3, hb, g3⟩ := H _ s2 g2 (by omega)
          refine ⟨.tup [.str "call", .str x, b], s3, ?_, .inr (.inr (.inr (.inl ⟨x, b, hx, rfl, hb⟩))), g3.mono (by omega)⟩
          have fe := fin_cst (st := st) (lc := lc) (ns := ns) (s := s) (s' := s3) (d := .tup [.str "call", .str x, b]) h (by simp [lo, los, hb.lo])
          l_intsC
        · obtain ⟨rs, s2, e2, hr, g2⟩ := cut_spec h g1 (by omega)
          have r3 : rs.length ≤ 3 := by
            simp only [CutOK, Bool.and_eq_true, decide_eq_true_eq] at hr
            exact hr.2
          have mm : cN n * (rs.length : Int) ≤ cN n * 3 := Int.mul_le_mul_of_nonneg_left (by omega) cn
          obtain ⟨out, s3, e3, ho, hb, g3⟩ := lc_rows (way := way) cn H rs _ s2 g2 (by omega)
          have B : IsB nm (n + 1) (.tup [.str "draw", .tup (out.map fun r => .tup [eF r.1, r.2])]) := .inr (.inr (.inr (.inr ⟨out, rfl, by rw [ho]; exact hr, hb⟩)))
          refine ⟨_, s3, ?_, B, g3.mono (by omega)⟩
          have fe := fin_cst (st := st) (lc := lc) (ns := ns) (s := s) (s' := s3) h B.lo
          have rl : rs.length ≤ 1000000 := by omega
          l_intsC
      by_cases c4 : way < 3
      · by_cases c5 : lt = []
        · subst c5
          obtain ⟨d, s', e, hd⟩ := rest
          refine ⟨d, s', ?_, hd⟩
          simp only [List.map_nil] at e ⊢
          l_intsC
        · have le : (lt.map D.str).isEmpty = false := by cases lt; exact absurd rfl c5; rfl
          have l0 : 0 < lt.length := by cases lt; exact absurd rfl c5; simp
          obtain ⟨t, s2, e2, ht, g2⟩ := take_spec h g1 (by omega) (m := (lt.length : Int)) (by omega) (by omega)
          obtain ⟨x, hx, a1⟩ := atI_map (f := D.str) (l := lt) ht.1 ht.2
          obtain ⟨b, s3, e3, hb, g3⟩ := H _ s2 g2 (by omega)
          refine ⟨.tup [.str "tell", .str x, b], s3, ?_, .inr (.inr (.inl ⟨x, b, hlt x hx, rfl, hb⟩)), g3.mono (by omega)⟩
          have fe := fin_cst (st := st) (lc := lc) (ns := ns) (s := s) (s' := s3) (d := .tup [.str "tell", .str x, b]) h (by simp [lo, los, hb.lo])
          l_intsC
      · obtain ⟨d, s', e, hd⟩ := rest
        refine ⟨d, s', ?_, hd⟩
        l_intsC
end
end K30
end
section
set_option Elab.async false
set_option autoImplicit false
set_option linter.all false
set_option maxRecDepth 100000
set_option maxHeartbeats 2000000
namespace K30
open PySem L2 Mn
local macro_rules | `(tactic| l_ints) => `(tactic| simp only [bnd_some', ret1_some', sSeq_eq, kThen_nx, kThen_rt, kThen_bk, kThen_ct, sNil_eq, sAsg_eq, kAsg_eq, sDrop_eq, kDrop_eq, sRet_eq, kRet_eq, sRetN_eq, sBreak_eq, sCont_eq, sIf_eq, kIf_true, kIf_false, sTgt_eq, kTgt1_eq, kTgt2_eq, sPar_eq, kPar2_eq, sPar3_eq, kPar3_eq, sFor_eq, kFor_eq, sAug_eq, kAug_eq, kAug1_eq, mV_eq, kGot_eq, mC_eq, mOp_eq, kOp1_eq, kOp2_eq, mTB_eq, kB_eq, mAnd_eq, kAnd_true, kAnd_false, mOr_eq, kOr_true, kOr_false, mNot_eq, kNot_eq, mIte_eq, kIte_true, kIte_false, mAndV_eq, kAndV_true, kAndV_false, mOrV_eq, kOrV_true, kOrV_false, mNotV_eq, kNotV_eq, mNil_eq, mCons_eq, kCons1_eq, kCons2_eq, mTup_eq, kTup_eq, mLst_eq, kLst_eq, mFrz_eq, kFrz_eq, mMut_eq, kMut_eq, mCall_eq, mCB_eq, kCB_eq, mCBL_eq, kCBL_eq, mTr_eq, kTr_eq, mNeg_eq, kNeg_eq, mChain_eq, kChn1_eq, kChn2_eq, kChn_true, kChn_false, gN_eq, gsN_eq, gsC_eq, kGs_eq, gT_eq, gTp_eq, gSet_eq, kSet1_eq, kSet2_eq, kSetE_eq, setO_eq, setL_nat, setL_lit, setL_str, mMt_eq, kMt1_eq, kMt1'_eq, kMt2_eq, kMt2'_eq, kMt3_eq, fApp_eq, fPop_eq, kPop_eq, getLast_snoc, dropLast_snoc, fExt_eq, kExt_eq, oAdd_int, oAdd_str, oAdd_tup, oAdd_lst, oAdd_loc, kCat_eq, lstD_lst, lstD_loc, isLst_eq, seqD_tup, seqD_lst, seqD_rol, seqD_loc, dicD_dic, dicD_loc, isDic_eq, oSub_int, oMul_int, oDiv_int, oMod_int, oI_plus, oI_minus, oLt_int, oLe_int, oGt_int, oGe_int, oEq_int, oEq_str, oEq_bl, oNe_int, oNe_str, oNe_bl, oIs_non, oIsNot_non, isN_non, isN_int, isN_bl, isN_str, isN_tup, isN_lst, isN_loc, atI_lit, atI_natc, atI_neg1, ixO_tup, ixO_lst, ixO_dics, ixO_dici, ixO_locs, ixO_loci, ixL_lst, ixL_dics, ixL_dici, cLen_tup, cLen_lst, cLen_dic, cLen_loc, lenL_lst, lenL_dic, cInt_int, cInt_bl, cAbs_int, cTup_tup, cTup_lst, cTup_loc, tupL_eq, cList_eq, cBls_lst, blsA_eq, fAll_eq, fAny_eq, truD_lst, truD_tup, truD_bl, truD_int, truD_non, truD_loc, truL_lst, truL_dic, itD_tup, itD_lst, miSeq_eq, kIt_eq, miR1_eq, kR1_eq, miR2_eq, kR2_eq, mSl_eq, kSl1_eq, kSl2_eq, kSl3_eq, mNoP_eq, mPart_eq, kPart_eq, slD_tup, slD_lst, slD_rol, slD_loc, slA_eq, mIsi_eq, kIsi_eq, tyD_non, tyD_bl, tyD_int, tyD_str, tyD_tup, tyD_lst, isi_NoneType_tuple, isi_NoneType_list, isi_NoneType_int, isi_NoneType_str, isi_NoneType_bool, isi_NoneType_int_str, isi_bool_tuple, isi_bool_list, isi_bool_int, isi_bool_str, isi_bool_bool, isi_bool_int_str, isi_int_tuple, isi_int_list, isi_int_int, isi_int_str, isi_int_bool, isi_int_int_str, isi_str_tuple, isi_str_list, isi_str_int, isi_str_str, isi_str_bool, isi_str_int_str, isi_tuple_tuple, isi_tuple_list, isi_tuple_int, isi_tuple_str, isi_tuple_bool, isi_tuple_int_str, isi_list_tuple, isi_list_list, isi_list_int, isi_list_str, isi_list_bool, isi_list_int_str, mDicF_eq, kDicF_eq, mDicM_eq, kDicM_eq, dicA_eq, dicB_eq, mDic0_eq, mGet1_eq, kGet1_eq, kGet1a_eq, mGet2_eq, kGet2_eq, kGet2a_eq, kGet2b_eq, kGet3_str, kGet3_int, kForB_eq, kForS_nx, kForS_ct, kForS_bk, kForS_rt, kWh_true, kWh_false, kWhS_nx, kWhS_ct, kWhS_bk, kWhS_rt, mLc_eq, kLc_eq, kLc1_eq, kLc2_true, kLc2_false, kLc3_eq, kLc4_eq, mYes_eq, wipeE_nil, wipeE_cons, mFun_0, mFun_1, mFun_2, mFun_3, mFun_4, mFun_5, mFun_6, mFun_7, mFun_8, mFunL_0, mFunL_1, mFunL_2, mFunL_3, mFunL_4, mFunL_5, mFunL_6, mFunL_7, mFunL_8, endW_rt, endW_nx, mRev_eq, kRev_eq, miTxt_eq, kTxt_eq, oIsB_bl, oIsNotB_bl, oIn_eq, oNotIn_eq, kIn_eq, kNIn_eq, inO_sign, inA_eq, inO_tup, inO_lst, inO_loc, inL_lst, inL_dics, inL_dici, inO_dics, inO_dici, flatD_non, flatD_bl, flatD_int, flatD_str, Nat.reduceSub, Nat.reduceAdd, Nat.reduceLeDiff, Nat.reduceLT, Nat.reduceEqDiff, Int.reduceLT, Int.reduceLE, Int.reduceAdd, Int.reduceSub, Int.reduceNeg, Int.reduceMul, Int.reduceToNat, Int.reduceBEq, fits_lit, List.getElem?_cons_zero, List.getElem?_cons_succ, List.getElem?_nil, List.set_cons_zero, List.set_cons_succ, List.set_nil, List.length_cons, List.length_nil, List.length_set, List.length_map, List.length_append, List.set_set, List.replicate_succ, List.replicate_zero, List.isEmpty_nil, List.isEmpty_cons, List.nil_append, List.cons_append, List.append_assoc, Bool.not_true, Bool.not_false, decide_true, decide_false, if_true, if_false, Bool.false_eq_true, st_app, st_app0, st_set, st_set0, List.getLast?_nil, getLast_snoc, dropLast_snoc])
local macro_rules | `(tactic| l_intsC) => `(tactic| simp only [bnd_some', ret1_some', sSeq_eq, kThen_nx, kThen_rt, kThen_bk, kThen_ct, sNil_eq, sAsg_eq, kAsg_eq, sDrop_eq, kDrop_eq, sRet_eq, kRet_eq, sRetN_eq, sBreak_eq, sCont_eq, sIf_eq, kIf_true, kIf_false, sTgt_eq, kTgt1_eq, kTgt2_eq, sPar_eq, kPar2_eq, sPar3_eq, kPar3_eq, sFor_eq, kFor_eq, sAug_eq, kAug_eq, kAug1_eq, mV_eq, kGot_eq, mC_eq, mOp_eq, kOp1_eq, kOp2_eq, mTB_eq, kB_eq, mAnd_eq, kAnd_true, kAnd_false, mOr_eq, kOr_true, kOr_false, mNot_eq, kNot_eq, mIte_eq, kIte_true, kIte_false, mAndV_eq, kAndV_true, kAndV_false, mOrV_eq, kOrV_true, kOrV_false, mNotV_eq, kNotV_eq, mNil_eq, mCons_eq, kCons1_eq, kCons2_eq, mTup_eq, kTup_eq, mLst_eq, kLst_eq, mFrz_eq, kFrz_eq, mMut_eq, kMut_eq, mCall_eq, mCB_eq, kCB_eq, mCBL_eq, kCBL_eq, mTr_eq, kTr_eq, mNeg_eq, kNeg_eq, mChain_eq, kChn1_eq, kChn2_eq, kChn_true, kChn_false, gN_eq, gsN_eq, gsC_eq, kGs_eq, gT_eq, gTp_eq, gSet_eq, kSet1_eq, kSet2_eq, kSetE_eq, setO_eq, setL_nat, setL_lit, setL_str, mMt_eq, kMt1_eq, kMt1'_eq, kMt2_eq, kMt2'_eq, kMt3_eq, fApp_eq, fPop_eq, kPop_eq, getLast_snoc, dropLast_snoc, fExt_eq, kExt_eq, oAdd_int, oAdd_str, oAdd_tup, oAdd_lst, oAdd_loc, kCat_eq, lstD_lst, lstD_loc, isLst_eq, seqD_tup, seqD_lst, seqD_rol, seqD_loc, dicD_dic, dicD_loc, isDic_eq, oSub_int, oMul_int, oDiv_int, oMod_int, oI_plus, oI_minus, oLt_int, oLe_int, oGt_int, oGe_int, oEq_int, oEq_str, oEq_bl, oNe_int, oNe_str, oNe_bl, oIs_non, oIsNot_non, isN_non, isN_int, isN_bl, isN_str, isN_tup, isN_lst, isN_loc, atI_lit, atI_natc, atI_neg1, ixO_tup, ixO_lst, ixO_dics, ixO_dici, ixO_locs, ixO_loci, ixL_lst, ixL_dics, ixL_dici, cLen_tup, cLen_lst, cLen_dic, cLen_loc, lenL_lst, lenL_dic, cInt_int, cInt_bl, cAbs_int, cTup_tup, cTup_lst, cTup_loc, tupL_eq, cList_eq, cBls_lst, blsA_eq, fAll_eq, fAny_eq, truD_lst, truD_tup, truD_bl, truD_int, truD_non, truD_loc, truL_lst, truL_dic, itD_tup, itD_lst, miSeq_eq, kIt_eq, miR1_eq, kR1_eq, miR2_eq, kR2_eq, mSl_eq, kSl1_eq, kSl2_eq, kSl3_eq, mNoP_eq, mPart_eq, kPart_eq, slD_tup, slD_lst, slD_rol, slD_loc, slA_eq, mIsi_eq, kIsi_eq, tyD_non, tyD_bl, tyD_int, tyD_str, tyD_tup, tyD_lst, isi_NoneType_tuple, isi_NoneType_list, isi_NoneType_int, isi_NoneType_str, isi_NoneType_bool, isi_NoneType_int_str, isi_bool_tuple, isi_bool_list, isi_bool_int, isi_bool_str, isi_bool_bool, isi_bool_int_str, isi_int_tuple, isi_int_list, isi_int_int, isi_int_str, isi_int_bool, isi_int_int_str, isi_str_tuple, isi_str_list, isi_str_int, isi_str_str, isi_str_bool, isi_str_int_str, isi_tuple_tuple, isi_tuple_list, isi_tuple_int, isi_tuple_str, isi_tuple_bool, isi_tuple_int_str, isi_list_tuple, isi_list_list, isi_list_int, isi_list_str, isi_list_bool, isi_list_int_str, mDicF_eq, kDicF_eq, mDicM_eq, kDicM_eq, dicA_eq, dicB_eq, mDic0_eq, mGet1_eq, kGet1_eq, kGet1a_eq, mGet2_eq, kGet2_eq, kGet2a_eq, kGet2b_eq, kGet3_str, kGet3_int, kForB_eq, kForS_nx, kForS_ct, kForS_bk, kForS_rt, kWh_true, kWh_false, kWhS_nx, kWhS_ct, kWhS_bk, kWhS_rt, mLc_eq, kLc_eq, kLc1_eq, kLc2_true, kLc2_false, kLc3_eq, kLc4_eq, mYes_eq, wipeE_nil, wipeE_cons, mFun_0, mFun_1, mFun_2, mFun_3, mFun_4, mFun_5, mFun_6, mFun_7, mFun_8, mFunL_0, mFunL_1, mFunL_2, mFunL_3, mFunL_4, mFunL_5, mFunL_6, mFunL_7, mFunL_8, endW_rt, endW_nx, mRev_eq, kRev_eq, miTxt_eq, kTxt_eq, oIsB_bl, oIsNotB_bl, oIn_eq, oNotIn_eq, kIn_eq, kNIn_eq, inO_sign, inA_eq, inO_tup, inO_lst, inO_loc, inL_lst, inL_dics, inL_dici, inO_dics, inO_dici, flatD_non, flatD_bl, flatD_int, flatD_str, Nat.reduceSub, Nat.reduceAdd, Nat.reduceLeDiff, Nat.reduceLT, Nat.reduceEqDiff, Int.reduceLT, Int.reduceLE, Int.reduceAdd, Int.reduceSub, Int.reduceNeg, Int.reduceMul, Int.reduceToNat, Int.reduceBEq, fits_lit, List.getElem?_cons_zero, List.getElem?_cons_succ, List.getElem?_nil, List.set_cons_zero, List.set_cons_succ, List.set_nil, List.length_cons, List.length_nil, List.length_set, List.length_map, List.length_append, List.set_set, List.replicate_succ, List.replicate_zero, List.isEmpty_nil, List.isEmpty_cons, List.nil_append, List.cons_append, List.append_assoc, Bool.not_true, Bool.not_false, decide_true, decide_false, if_true, if_false, Bool.false_eq_true, st_app, st_app0, st_set, st_set0, List.getLast?_nil, getLast_snoc, dropLast_snoc, *])
theorem cut_hi {α : Type} {f : α → D} {l : List α} {v : Int} (h : 0 ≤ v) : cutD (l.map f) none (some v) = (l.take v.toNat).map f := by
  obtain ⟨j, rfl⟩ : ∃ j : Nat, v = (j : Int) := ⟨v.toNat, by omega⟩
  unfold cutD
  rw [HT.sIx_nat, HT.sIx_none]
  simp only [List.drop_zero, Nat.sub_zero, List.length_map, Int.toNat_natCast]
  rw [← List.map_take]
  congr 1
  rcases Nat.le_total j l.length with h | h
  · rw [Nat.min_eq_left h]
  · rw [Nat.min_eq_right h, List.take_of_length_le (Nat.le_refl _), List.take_of_length_le h]
theorem cut_lo {α : Type} {f : α → D} {l : List α} {v : Int} (h : 0 ≤ v) (h2 : v ≤ l.length) : cutD (l.map f) (some v) none = (l.drop v.toNat).map f := by
  obtain ⟨j, rfl⟩ : ∃ j : Nat, v = (j : Int) := ⟨v.toNat, by omega⟩
  unfold cutD
  rw [HT.sIx_nat, HT.sIx_none]
  simp only [List.length_map, Int.toNat_natCast]
  rw [Nat.min_eq_left (by omega), ← List.map_drop]
  rw [List.take_of_length_le (by simp)]
def nameS : List Str := ["p", "q", "r2", "s"]
def progD (pr : List (Str × D)) : D := .tup (pr.map fun r => .tup [.str r.1, r.2])
section
variable {st : Store} {lc : Nat} {ns : List Int} {s s' : CSt} {K m : Int} {d : D} {g : Store}
theorem lc_prog (h : lc < st.length) {nm lt : List Str} (hn : 0 < nm.length ∧ nm.length ≤ 4) (hl : lt.length ≤ 3) (hlt : ∀ x ∈ lt, x ∈ tellS) {j : Option D} :
    ∀ (xs : List Str) (K : Int) (s : CSt), Good ns K s → K + 40000 * xs.length < 1000000000000000000 →
      ∃ (out : List (Str × D)) (s' : CSt), lcL (gN 4) mYes E__law_program_1 [some (.loc lc), some (.lst (nm.map .str)), j, some (.lst (lt.map .str)), none] (xs.map D.str) (cst st lc ns s) = some (out.map fun r => .tup [.str r.1, r.2], cst st lc ns s') ∧ out.map (·.1) = xs ∧ (∀ r ∈ out, IsB nm 8 r.2) ∧ Good ns (K + 40000 * xs.length) s'
  | [], K, s, hg, hK => ⟨[], s, rfl, rfl, fun r h => (List.not_mem_nil h).elim, hg.mono (by simp)⟩
  | r :: rs, K, s, hg, hK => by
    rw [List.length_cons] at hK ⊢
    push_cast at hK ⊢
    have c8 : cN 8 = 16400 := by decide
    obtain ⟨t, s1, e1, ht, g1⟩ := take_spec h hg (by omega) (m := 5) (by omega) (by omega)
    obtain ⟨d, s2, e2, hd, g2⟩ := body_spec h hn hl hlt 8 (1 + t) _ s1 (by omega) (by omega) g1 (by omega)
    obtain ⟨out, s3, e3, ho, hb, g3⟩ := lc_prog h hn hl hlt (j := j) rs (K + 40000) s2 (g2.mono (by omega)) (by omega)
    refine ⟨(r, d) :: out, s3, ?_, by simp [ho], ?_, g3.mono (by omega)⟩
    · rw [List.map_cons, lcL_cons]
      have u : E__law_program_1 [some (.loc lc), some (.lst (nm.map .str)), j, some (.lst (lt.map .str)), some (.str r)] (cst st lc ns s) = some (.tup [.str r, d], cst st lc ns s2) := by
        unfold E__law_program_1
        l_intsC
      l_intsC
      rfl
    · intro q hq
      rcases List.mem_cons.mp hq with rfl | hq
      · exact hd
      · exact hb q hq
theorem program_spec (h : lc < st.length) (hg : Good ns K s) (hK : K + 200000 < 1000000000000000000) :
    ∃ (pr : List (Str × D)) (s' : CSt), F__law_program [.loc lc] (cst st lc ns s) = some (progD pr, cst st lc ns s') ∧ (0 < pr.length ∧ pr.length ≤ 4) ∧ ((∀ x ∈ pr.map (·.1), x ∈ nameS) ∧ (pr.map (·.1)).Nodup) ∧ (∀ r ∈ pr, IsB (pr.map (·.1)) 8 r.2) ∧ Good ns (K + 200000) s' := by
  obtain ⟨t, s1, e1, ht, g1⟩ := take_spec h hg (by omega) (m := 4) (by omega) (by omega)
  have a1 := cut_hi (f := D.str) (l := ["p", "q", "r2", "s"]) (v := 1 + t) (by omega)
  obtain ⟨nm, hnm⟩ : ∃ nm : List Str, nm = (["p", "q", "r2", "s"] : List Str).take (1 + t).toNat := ⟨_, rfl⟩
  have ln : (nm.length : Int) = 1 + t := by rw [hnm, List.length_take]; simp only [List.length_cons, List.length_nil]; omega
  rw [← hnm] at a1
  obtain ⟨k, s2, e2, hk, g2⟩ := take_spec h g1 (by omega) (m := (nm.length : Int)) (by omega) (by omega)
  have a2 := cut_lo (f := D.str) (l := nm) (v := k) (by omega) (by omega)
  have a3 := cut_hi (f := D.str) (l := nm) (v := k) (by omega)
  obtain ⟨nm2, hn2⟩ : ∃ nm2 : List Str, nm2 = nm.drop k.toNat ++ nm.take k.toNat := ⟨_, rfl⟩
  have a4 : (nm.drop k.toNat).map D.str ++ (nm.take k.toNat).map D.str = nm2.map D.str := by rw [hn2, List.map_append]
  have l2 : nm2.length = nm.length := by rw [hn2, List.length_append, List.length_drop, List.length_take]; omega
  have l3 : (nm.drop k.toNat).length + (nm.take k.toNat).length ≤ 1000000 := by rw [List.length_drop, List.length_take]; omega
  obtain ⟨u, s3, e3, hu, g3⟩ := take_spec h g2 (by omega) (m := 4) (by omega) (by omega)
  have a5 := cut_hi (f := D.str) (l := ["a", "b", "p"]) (v := u) (by omega)
  obtain ⟨lt, hlt⟩ : ∃ lt : List Str, lt = (["a", "b", "p"] : List Str).take u.toNat := ⟨_, rfl⟩
  have hlt2 : ∀ x ∈ lt, x ∈ tellS := fun x hx => by
    rw [hlt] at hx
    exact List.mem_of_mem_take hx
  have hn3 : ∀ x ∈ nm2, x ∈ nameS := fun x hx => by
    rw [hn2] at hx
    have hx' : x ∈ nm := (List.mem_append.mp hx).elim List.mem_of_mem_drop List.mem_of_mem_take
    rw [hnm] at hx'
    exact List.mem_of_mem_take hx'
  have hn4 : nm2.Nodup := by
    have h0 : (["p", "q", "r2", "s"] : List Str).Nodup := by decide +kernel
    have h1 : nm.Nodup := by rw [hnm]; exact h0.sublist (List.take_sublist _ _)
    rw [hn2]
    have h2 : (nm.take k.toNat ++ nm.drop k.toNat).Nodup := by rw [List.take_append_drop]; exact h1
    exact (List.perm_append_comm.nodup_iff).mp h2
  have ll : lt.length ≤ 3 := by rw [hlt, List.length_take]; simp only [List.length_cons, List.length_nil]; omega
  rw [← hlt] at a5
  obtain ⟨out, s4, e4, ho, hb, g4⟩ := lc_prog h (nm := nm2) (lt := lt) (by omega) ll hlt2 (j := some (.int k)) nm2 _ s3 g3 (by omega)
  have lo2 : out.length = nm2.length := by rw [← ho, List.length_map]
  refine ⟨out, s4, ?_, ⟨by omega, by omega⟩, by rw [ho]; exact ⟨hn3, hn4⟩, by rw [ho]; exact hb, g4.mono (by omega)⟩
  have l4 : nm2.length ≤ 1000000 := by omega
  have fe := fin_cst (st := st) (lc := lc) (ns := ns) (s := s) (s' := s4) (d := progD out) h (by
    show los _ _ = true
    exact los_mapm _ fun r hr => by simp [lo, los, (hb r hr).lo])
  unfold progD at fe ⊢
  simp only [List.map_cons, List.map_nil] at a1 a5
  clear hnm hlt hn2 ln l2 hlt2 hn3 hn4
  unfold F__law_program B__law_program
  l_intsC
end
end K30
end
section
set_option Elab.async false
set_option autoImplicit false
set_option linter.all false
set_option maxRecDepth 100000
set_option maxHeartbeats 2000000
namespace K30
open PySem L2 Mn
local macro_rules | `(tactic| l_ints) => `(tactic| simp only [bnd_some', ret1_some', sSeq_eq, kThen_nx, kThen_rt, kThen_bk, kThen_ct, sNil_eq, sAsg_eq, kAsg_eq, sDrop_eq, kDrop_eq, sRet_eq, kRet_eq, sRetN_eq, sBreak_eq, sCont_eq, sIf_eq, kIf_true, kIf_false, sTgt_eq, kTgt1_eq, kTgt2_eq, sPar_eq, kPar2_eq, sPar3_eq, kPar3_eq, sFor_eq, kFor_eq, sAug_eq, kAug_eq, kAug1_eq, mV_eq, kGot_eq, mC_eq, mOp_eq, kOp1_eq, kOp2_eq, mTB_eq, kB_eq, mAnd_eq, kAnd_true, kAnd_false, mOr_eq, kOr_true, kOr_false, mNot_eq, kNot_eq, mIte_eq, kIte_true, kIte_false, mAndV_eq, kAndV_true, kAndV_false, mOrV_eq, kOrV_true, kOrV_false, mNotV_eq, kNotV_eq, mNil_eq, mCons_eq, kCons1_eq, kCons2_eq, mTup_eq, kTup_eq, mLst_eq, kLst_eq, mFrz_eq, kFrz_eq, mMut_eq, kMut_eq, mCall_eq, mCB_eq, kCB_eq, mCBL_eq, kCBL_eq, mTr_eq, kTr_eq, mNeg_eq, kNeg_eq, mChain_eq, kChn1_eq, kChn2_eq, kChn_true, kChn_false, gN_eq, gsN_eq, gsC_eq, kGs_eq, gT_eq, gTp_eq, gSet_eq, kSet1_eq, kSet2_eq, kSetE_eq, setO_eq, setL_nat, setL_lit, setL_str, mMt_eq, kMt1_eq, kMt1'_eq, kMt2_eq, kMt2'_eq, kMt3_eq, fApp_eq, fPop_eq, kPop_eq, getLast_snoc, dropLast_snoc, fExt_eq, kExt_eq, oAdd_int, oAdd_str, oAdd_tup, oAdd_lst, oAdd_loc, kCat_eq, lstD_lst, lstD_loc, isLst_eq, seqD_tup, seqD_lst, seqD_rol, seqD_loc, dicD_dic, dicD_loc, isDic_eq, oSub_int, oMul_int, oDiv_int, oMod_int, oI_plus, oI_minus, oLt_int, oLe_int, oGt_int, oGe_int, oEq_int, oEq_str, oEq_bl, oNe_int, oNe_str, oNe_bl, oIs_non, oIsNot_non, isN_non, isN_int, isN_bl, isN_str, isN_tup, isN_lst, isN_loc, atI_lit, atI_natc, atI_neg1, ixO_tup, ixO_lst, ixO_dics, ixO_dici, ixO_locs, ixO_loci, ixL_lst, ixL_dics, ixL_dici, cLen_tup, cLen_lst, cLen_dic, cLen_loc, lenL_lst, lenL_dic, cInt_int, cInt_bl, cAbs_int, cTup_tup, cTup_lst, cTup_loc, tupL_eq, cList_eq, cBls_lst, blsA_eq, fAll_eq, fAny_eq, truD_lst, truD_tup, truD_bl, truD_int, truD_non, truD_loc, truL_lst, truL_dic, itD_tup, itD_lst, miSeq_eq, kIt_eq, miR1_eq, kR1_eq, miR2_eq, kR2_eq, mSl_eq, kSl1_eq, kSl2_eq, kSl3_eq, mNoP_eq, mPart_eq, kPart_eq, slD_tup, slD_lst, slD_rol, slD_loc, slA_eq, mIsi_eq, kIsi_eq, tyD_non, tyD_bl, tyD_int, tyD_str, tyD_tup, tyD_lst, isi_NoneType_tuple, isi_NoneType_list, isi_NoneType_int, isi_NoneType_str, isi_NoneType_bool, isi_NoneType_int_str, isi_bool_tuple, isi_bool_list, isi_bool_int, isi_bool_str, isi_bool_bool, isi_bool_int_str, isi_int_tuple, isi_int_list, isi_int_int, isi_int_str, isi_int_bool, isi_int_int_str, isi_str_tuple, isi_str_list, isi_str_int, isi_str_str, isi_str_bool, isi_str_int_str, isi_tuple_tuple, isi_tuple_list, isi_tuple_int, isi_tuple_str, isi_tuple_bool, isi_tuple_int_str, isi_list_tuple, isi_list_list, isi_list_int, isi_list_str, isi_list_bool, isi_list_int_str, mDicF_eq, kDicF_eq, mDicM_eq, kDicM_eq, dicA_eq, dicB_eq, mDic0_eq, mGet1_eq, kGet1_eq, kGet1a_eq, mGet2_eq, kGet2_eq, kGet2a_eq, kGet2b_eq, kGet3_str, kGet3_int, kForB_eq, kForS_nx, kForS_ct, kForS_bk, kForS_rt, kWh_true, kWh_false, kWhS_nx, kWhS_ct, kWhS_bk, kWhS_rt, mLc_eq, kLc_eq, kLc1_eq, kLc2_true, kLc2_false, kLc3_eq, kLc4_eq, mYes_eq, wipeE_nil, wipeE_cons, mFun_0, mFun_1, mFun_2, mFun_3, mFun_4, mFun_5, mFun_6, mFun_7, mFun_8, mFunL_0, mFunL_1, mFunL_2, mFunL_3, mFunL_4, mFunL_5, mFunL_6, mFunL_7, mFunL_8, endW_rt, endW_nx, mRev_eq, kRev_eq, miTxt_eq, kTxt_eq, oIsB_bl, oIsNotB_bl, oIn_eq, oNotIn_eq, kIn_eq, kNIn_eq, inO_sign, inA_eq, inO_tup, inO_lst, inO_loc, inL_lst, inL_dics, inL_dici, inO_dics, inO_dici, flatD_non, flatD_bl, flatD_int, flatD_str, Nat.reduceSub, Nat.reduceAdd, Nat.reduceLeDiff, Nat.reduceLT, Nat.reduceEqDiff, Int.reduceLT, Int.reduceLE, Int.reduceAdd, Int.reduceSub, Int.reduceNeg, Int.reduceMul, Int.reduceToNat, Int.reduceBEq, fits_lit, List.getElem?_cons_zero, List.getElem?_cons_succ, List.getElem?_nil, List.set_cons_zero, List.set_cons_succ, List.set_nil, List.length_cons, List.length_nil, List.length_set, List.length_map, List.length_append, List.set_set, List.replicate_succ, List.replicate_zero, List.isEmpty_nil, List.isEmpty_cons, List.nil_append, List.cons_append, List.append_assoc, Bool.not_true, Bool.not_false, decide_true, decide_false, if_true, if_false, Bool.false_eq_true, st_app, st_app0, st_set, st_set0, List.getLast?_nil, getLast_snoc, dropLast_snoc])
local macro_rules | `(tactic| l_intsC) => `(tactic| simp only [bnd_some', ret1_some', sSeq_eq, kThen_nx, kThen_rt, kThen_bk, kThen_ct, sNil_eq, sAsg_eq, kAsg_eq, sDrop_eq, kDrop_eq, sRet_eq, kRet_eq, sRetN_eq, sBreak_eq, sCont_eq, sIf_eq, kIf_true, kIf_false, sTgt_eq, kTgt1_eq, kTgt2_eq, sPar_eq, kPar2_eq, sPar3_eq, kPar3_eq, sFor_eq, kFor_eq, sAug_eq, kAug_eq, kAug1_eq, mV_eq, kGot_eq, mC_eq, mOp_eq, kOp1_eq, kOp2_eq, mTB_eq, kB_eq, mAnd_eq, kAnd_true, kAnd_false, mOr_eq, kOr_true, kOr_false, mNot_eq, kNot_eq, mIte_eq, kIte_true, kIte_false, mAndV_eq, kAndV_true, kAndV_false, mOrV_eq, kOrV_true, kOrV_false, mNotV_eq, kNotV_eq, mNil_eq, mCons_eq, kCons1_eq, kCons2_eq, mTup_eq, kTup_eq, mLst_eq, kLst_eq, mFrz_eq, kFrz_eq, mMut_eq, kMut_eq, mCall_eq, mCB_eq, kCB_eq, mCBL_eq, kCBL_eq, mTr_eq, kTr_eq, mNeg_eq, kNeg_eq, mChain_eq, kChn1_eq, kChn2_eq, kChn_true, kChn_false, gN_eq, gsN_eq, gsC_eq, kGs_eq, gT_eq, gTp_eq, gSet_eq, kSet1_eq, kSet2_eq, kSetE_eq, setO_eq, setL_nat, setL_lit, setL_str, mMt_eq, kMt1_eq, kMt1'_eq, kMt2_eq, kMt2'_eq, kMt3_eq, fApp_eq, fPop_eq, kPop_eq, getLast_snoc, dropLast_snoc, fExt_eq, kExt_eq, oAdd_int, oAdd_str, oAdd_tup, oAdd_lst, oAdd_loc, kCat_eq, lstD_lst, lstD_loc, isLst_eq, seqD_tup, seqD_lst, seqD_rol, seqD_loc, dicD_dic, dicD_loc, isDic_eq, oSub_int, oMul_int, oDiv_int, oMod_int, oI_plus, oI_minus, oLt_int, oLe_int, oGt_int, oGe_int, oEq_int, oEq_str, oEq_bl, oNe_int, oNe_str, oNe_bl, oIs_non, oIsNot_non, isN_non, isN_int, isN_bl, isN_str, isN_tup, isN_lst, isN_loc, atI_lit, atI_natc, atI_neg1, ixO_tup, ixO_lst, ixO_dics, ixO_dici, ixO_locs, ixO_loci, ixL_lst, ixL_dics, ixL_dici, cLen_tup, cLen_lst, cLen_dic, cLen_loc, lenL_lst, lenL_dic, cInt_int, cInt_bl, cAbs_int, cTup_tup, cTup_lst, cTup_loc, tupL_eq, cList_eq, cBls_lst, blsA_eq, fAll_eq, fAny_eq, truD_lst, truD_tup, truD_bl, truD_int, truD_non, truD_loc, truL_lst, truL_dic, itD_tup, itD_lst, miSeq_eq, kIt_eq, miR1_eq, kR1_eq, miR2_eq, kR2_eq, mSl_eq, kSl1_eq, kSl2_eq, kSl3_eq, mNoP_eq, mPart_eq, kPart_eq, slD_tup, slD_lst, slD_rol, slD_loc, slA_eq, mIsi_eq, kIsi_eq, tyD_non, tyD_bl, tyD_int, tyD_str, tyD_tup, tyD_lst, isi_NoneType_tuple, isi_NoneType_list, isi_NoneType_int, isi_NoneType_str, isi_NoneType_bool, isi_NoneType_int_str, isi_bool_tuple, isi_bool_list, isi_bool_int, isi_bool_str, isi_bool_bool, isi_bool_int_str, isi_int_tuple, isi_int_list, isi_int_int, isi_int_str, isi_int_bool, isi_int_int_str, isi_str_tuple, isi_str_list, isi_str_int, isi_str_str, isi_str_bool, isi_str_int_str, isi_tuple_tuple, isi_tuple_list, isi_tuple_int, isi_tuple_str, isi_tuple_bool, isi_tuple_int_str, isi_list_tuple, isi_list_list, isi_list_int, isi_list_str, isi_list_bool, isi_list_int_str, mDicF_eq, kDicF_eq, mDicM_eq, kDicM_eq, dicA_eq, dicB_eq, mDic0_eq, mGet1_eq, kGet1_eq, kGet1a_eq, mGet2_eq, kGet2_eq, kGet2a_eq, kGet2b_eq, kGet3_str, kGet3_int, kForB_eq, kForS_nx, kForS_ct, kForS_bk, kForS_rt, kWh_true, kWh_false, kWhS_nx, kWhS_ct, kWhS_bk, kWhS_rt, mLc_eq, kLc_eq, kLc1_eq, kLc2_true, kLc2_false, kLc3_eq, kLc4_eq, mYes_eq, wipeE_nil, wipeE_cons, mFun_0, mFun_1, mFun_2, mFun_3, mFun_4, mFun_5, mFun_6, mFun_7, mFun_8, mFunL_0, mFunL_1, mFunL_2, mFunL_3, mFunL_4, mFunL_5, mFunL_6, mFunL_7, mFunL_8, endW_rt, endW_nx, mRev_eq, kRev_eq, miTxt_eq, kTxt_eq, oIsB_bl, oIsNotB_bl, oIn_eq, oNotIn_eq, kIn_eq, kNIn_eq, inO_sign, inA_eq, inO_tup, inO_lst, inO_loc, inL_lst, inL_dics, inL_dici, inO_dics, inO_dici, flatD_non, flatD_bl, flatD_int, flatD_str, Nat.reduceSub, Nat.reduceAdd, Nat.reduceLeDiff, Nat.reduceLT, Nat.reduceEqDiff, Int.reduceLT, Int.reduceLE, Int.reduceAdd, Int.reduceSub, Int.reduceNeg, Int.reduceMul, Int.reduceToNat, Int.reduceBEq, fits_lit, List.getElem?_cons_zero, List.getElem?_cons_succ, List.getElem?_nil, List.set_cons_zero, List.set_cons_succ, List.set_nil, List.length_cons, List.length_nil, List.length_set, List.length_map, List.length_append, List.set_set, List.replicate_succ, List.replicate_zero, List.isEmpty_nil, List.isEmpty_cons, List.nil_append, List.cons_append, List.append_assoc, Bool.not_true, Bool.not_false, decide_true, decide_false, if_true, if_false, Bool.false_eq_true, st_app, st_app0, st_set, st_set0, List.getLast?_nil, getLast_snoc, dropLast_snoc, *])
/-- what a value is made of -/
def vok (L : Nat) : Nat → D → Prop
  | _, .non => True
  | _, .bl _ => True
  | _, .int i => -2000 < i ∧ i < 2000
  | _, .str z => z.length ≤ 1000
  | n + 1, .tup ds => ds.length ≤ L ∧ ∀ d ∈ ds, vok L n d
  | n + 1, .lst ds => ds.length ≤ L ∧ ∀ d ∈ ds, vok L n d
  | _, _ => False
/-- .. at its head -/
def hd1 : D → Prop
  | .non => True
  | .bl _ => True
  | .int i => -2000 < i ∧ i < 2000
  | .str z => z.length ≤ 1000
  | .tup _ => True
  | .lst _ => True
  | _ => False
theorem vok.hd {L : Nat} : ∀ {n : Nat} {d : D}, vok L n d → hd1 d
  | 0, d, h => by cases d <;> first | trivial | exact h | exact (h : False).elim
  | n + 1, d, h => by cases d <;> first | trivial | exact h | exact (h : False).elim
def intB : D → Bool
  | .int _ => true
  | _ => false
theorem is_integer_eq {d : D} (h : hd1 d) (st : Store) : F_is_integer [d] st = some (.bl (intB d), st) := by
  unfold F_is_integer B_is_integer
  cases d <;> first
    | exact (h : False).elim
    | (l_ints; first | rw [fin_same rfl]; rfl | done)
theorem law_is_int_eq {d : D} (h : hd1 d) (st : Store) : F__law_is_int [d] st = some (.bl (intB d), st) := by
  unfold F__law_is_int B__law_is_int
  cases d <;> first
    | exact (h : False).elim
    | (l_ints; first | rw [fin_same rfl]; rfl | done)
def LET : Str := "abcdefghijklmnopqrstuvwxyz"
def DIG : Str := "0123456789"
def inT (z : Str) (c : Nat) : Bool := decide (c ∈ z.cps.toList)
def nameZ (z : Str) : Bool := decide (1 ≤ (z.length : Int)) && decide ((z.length : Int) ≤ 8) && !(("end" : Str) == z || ("stop" : Str) == z) && (match z.cps.toList with | [] => false | c :: _ => inT LET c) && z.cps.toList.all (inT (LET ++ DIG))
def nameB : D → Bool
  | .str z => nameZ z
  | _ => false
theorem text_lc {st : Store} {a0 : Option D} : ∀ cs : List Nat, lcL (gN 1) mYes E_is_name_1 [a0, none] (cs.map fun c => .str ⟨#[c]⟩) st = some (cs.map fun c => .bl (inT (LET ++ DIG) c), st)
  | [] => rfl
  | c :: cs => by
    have ih := text_lc (st := st) (a0 := a0) cs
    have hl : LET.length + DIG.length ≤ 1000000 := by decide +kernel
    have u : E_is_name_1 [a0, some (.str ⟨#[c]⟩)] st = some (.bl (inT (LET ++ DIG) c), st) := by
      unfold E_is_name_1 c_LETTERS c_DIGITS
      show mOp oIn (mV 1) (mOp oAdd (mC (.str LET)) (mC (.str DIG))) _ _ = _
      l_intsC
      rfl
    rw [List.map_cons, List.map_cons, lcL_cons]
    l_intsC
theorem len_toList (z : Str) : z.cps.toList.length = z.length := by
  show z.cps.toList.length = z.cps.size
  simp
theorem name_true {st : Store} {z : Str} (hz : z.length ≤ 1000) (h1 : 1 ≤ (z.length : Int)) (h2 : (z.length : Int) ≤ 8) (h3 : (("end" : Str) == z || ("stop" : Str) == z) = false) :
    F_is_name [.str z] st = some (.bl (nameZ z), st) := by
  have hl : ∀ st : Store, cLen [.str z] st = some (.int z.length) := fun st => cLen_str (by omega)
  have hi : inA (.str z) (some [.str "end", .str "stop"]) = some false := by
    rw [inA_eq rfl rfl]
    congr 1
    show ((("end" : Str) == z) || ((("stop" : Str) == z) || false)) = false
    rw [Bool.or_false]
    exact h3
  obtain ⟨c, cs, hc⟩ : ∃ c cs, z.cps.toList = c :: cs := by
    have := len_toList z
    cases e : z.cps.toList with
    | nil => rw [e] at this; simp at this; omega
    | cons c cs => exact ⟨c, cs, rfl⟩
  have hx : ∀ st : Store, ixO (.str z) (.int 0) st = some (.str ⟨#[c]⟩) := fun st => by
    rw [ixO_str (by omega), hc]
    simp [atI, ixN]
  have tl := text_lc (st := st) (a0 := some (.str z)) z.cps.toList
  have sg : signsD z = z.cps.toList.map fun c => .str ⟨#[c]⟩ := rfl
  rw [← sg] at tl
  have k1 := (kLc_eq (g1 := gN 1) (t := mYes) (m := E_is_name_1) (env := [some (.str z), none]) (ds := signsD z) (st := st) (by rw [sg, List.length_map, len_toList]; omega)).trans tl
  have bd : blsD (z.cps.toList.map fun c => D.bl (inT (LET ++ DIG) c)) = some (z.cps.toList.map (inT (LET ++ DIG))) := blsD_map _ _
  have hf : inO (.str ⟨#[c]⟩) (.str "abcdefghijklmnopqrstuvwxyz") st = some (inT LET c) := rfl
  have nz : nameZ z = (inT LET c && z.cps.toList.all (inT (LET ++ DIG))) := by
    have m : (match z.cps.toList with | [] => false | c :: _ => inT LET c) = inT LET c := by rw [hc]
    unfold nameZ
    rw [h3, m]
    simp only [h1, h2, decide_true, Bool.true_and, Bool.not_false]
  rw [nz]
  clear nz tl sg hc
  have al : (z.cps.toList.map (inT (LET ++ DIG))).all id = z.cps.toList.all (inT (LET ++ DIG)) := by rw [List.all_map]; rfl
  unfold F_is_name B_is_name R_is_name_1 c_LETTERS c_MOST_SIGNS
  cases e : inT LET c
  · l_intsC
    rw [fin_same rfl]
    rfl
  · l_intsC
    rw [fin_same rfl]
    rfl
theorem name_eq {d : D} (h : hd1 d) (st : Store) : F_is_name [d] st = some (.bl (nameB d), st) := by
  cases d with
  | str z =>
    have hz : z.length ≤ 1000 := h
    have hl : ∀ st : Store, cLen [.str z] st = some (.int z.length) := fun st => cLen_str (by omega)
    have hi : inA (.str z) (some [.str "end", .str "stop"]) = some (("end" : Str) == z || ("stop" : Str) == z) := by
      rw [inA_eq rfl rfl]
      congr 1
      show ((("end" : Str) == z) || ((("stop" : Str) == z) || false)) = _
      rw [Bool.or_false]
    by_cases h1 : 1 ≤ (z.length : Int)
    · by_cases h2 : (z.length : Int) ≤ 8
      · cases h3 : (("end" : Str) == z || ("stop" : Str) == z)
        · exact name_true hz h1 h2 h3
        · have e : nameB (.str z) = false := by
            show nameZ z = false
            unfold nameZ
            rw [h3]
            simp
          rw [e]
          unfold F_is_name B_is_name R_is_name_1 c_LETTERS c_MOST_SIGNS
          clear e
          l_intsC
          rw [fin_same rfl]
      · have e : nameB (.str z) = false := by
          show nameZ z = false
          unfold nameZ
          simp [h2]
        rw [e]
        unfold F_is_name B_is_name R_is_name_1 c_LETTERS c_MOST_SIGNS
        clear e
        l_intsC
        rw [fin_same rfl]
    · have e : nameB (.str z) = false := by
        show nameZ z = false
        unfold nameZ
        simp [h1]
      rw [e]
      unfold F_is_name B_is_name R_is_name_1 c_LETTERS c_MOST_SIGNS
      clear e
      l_intsC
      rw [fin_same rfl]
  | _ =>
    first
    | exact (h : False).elim
    | (unfold F_is_name B_is_name; l_ints; rw [fin_same rfl]; rfl)
/-! the law's own look at names -/
theorem ltext_lc {st : Store} {a0 : Option D} : ∀ cs : List Nat, lcL (gN 2) mYes E__law_is_name_1 [a0, some (.str "abcdefghijklmnopqrstuvwxyz"), none] (cs.map fun c => .str ⟨#[c]⟩) st = some (cs.map fun c => .bl (inT (LET ++ DIG) c), st)
  | [] => rfl
  | c :: cs => by
    have ih := ltext_lc (st := st) (a0 := a0) cs
    have hl : LET.length + DIG.length ≤ 1000000 := by decide +kernel
    have u : E__law_is_name_1 [a0, some (.str "abcdefghijklmnopqrstuvwxyz"), some (.str ⟨#[c]⟩)] st = some (.bl (inT (LET ++ DIG) c), st) := by
      unfold E__law_is_name_1
      show mOp oIn (mV 2) (mOp oAdd (mV 1) (mC (.str DIG))) [a0, some (.str LET), some (.str ⟨#[c]⟩)] _ = _
      l_intsC
      rfl
    rw [List.map_cons, List.map_cons, lcL_cons]
    l_intsC
theorem lname_true {st : Store} {z : Str} (hz : z.length ≤ 1000) (h1 : 1 ≤ (z.length : Int)) (h2 : (z.length : Int) ≤ 8) (h3 : (("end" : Str) == z || ("stop" : Str) == z) = false) :
    F__law_is_name [.str z] st = some (.bl (nameZ z), st) := by
  have hl : ∀ st : Store, cLen [.str z] st = some (.int z.length) := fun st => cLen_str (by omega)
  have hi : inA (.str z) (some [.str "stop", .str "end"]) = some false := by
    rw [inA_eq rfl rfl]
    congr 1
    show ((("stop" : Str) == z) || ((("end" : Str) == z) || false)) = false
    rw [Bool.or_false, Bool.or_comm]
    exact h3
  obtain ⟨c, cs, hc⟩ : ∃ c cs, z.cps.toList = c :: cs := by
    have := len_toList z
    cases e : z.cps.toList with
    | nil => rw [e] at this; simp at this; omega
    | cons c cs => exact ⟨c, cs, rfl⟩
  have hx : ∀ st : Store, ixO (.str z) (.int 0) st = some (.str ⟨#[c]⟩) := fun st => by
    rw [ixO_str (by omega), hc]
    simp [atI, ixN]
  have tl := ltext_lc (st := st) (a0 := some (.str z)) z.cps.toList
  have sg : signsD z = z.cps.toList.map fun c => .str ⟨#[c]⟩ := rfl
  rw [← sg] at tl
  have k1 := (kLc_eq (g1 := gN 2) (t := mYes) (m := E__law_is_name_1) (env := [some (.str z), some (.str "abcdefghijklmnopqrstuvwxyz"), none]) (ds := signsD z) (st := st) (by rw [sg, List.length_map, len_toList]; omega)).trans tl
  have bd : blsD (z.cps.toList.map fun c => D.bl (inT (LET ++ DIG) c)) = some (z.cps.toList.map (inT (LET ++ DIG))) := blsD_map _ _
  have hf : inO (.str ⟨#[c]⟩) (.str "abcdefghijklmnopqrstuvwxyz") st = some (inT LET c) := rfl
  have nz : nameZ z = (inT LET c && z.cps.toList.all (inT (LET ++ DIG))) := by
    have m : (match z.cps.toList with | [] => false | c :: _ => inT LET c) = inT LET c := by rw [hc]
    unfold nameZ
    rw [h3, m]
    simp only [h1, h2, decide_true, Bool.true_and, Bool.not_false]
  have g1 : ¬ (z.length : Int) < 1 := by omega
  have g2 : ¬ 8 < (z.length : Int) := by omega
  rw [nz]
  clear nz tl sg hc h1 h2
  have al : (z.cps.toList.map (inT (LET ++ DIG))).all id = z.cps.toList.all (inT (LET ++ DIG)) := by rw [List.all_map]; rfl
  unfold F__law_is_name B__law_is_name R__law_is_name_1
  cases e : inT LET c
  · l_intsC
    rw [fin_same rfl]
    rfl
  · l_intsC
    rw [fin_same rfl]
    rfl
theorem lname_eq {d : D} (h : hd1 d) (st : Store) : F__law_is_name [d] st = some (.bl (nameB d), st) := by
  cases d with
  | str z =>
    have hz : z.length ≤ 1000 := h
    have hl : ∀ st : Store, cLen [.str z] st = some (.int z.length) := fun st => cLen_str (by omega)
    have hi : inA (.str z) (some [.str "stop", .str "end"]) = some (("end" : Str) == z || ("stop" : Str) == z) := by
      rw [inA_eq rfl rfl]
      congr 1
      show ((("stop" : Str) == z) || ((("end" : Str) == z) || false)) = _
      rw [Bool.or_false, Bool.or_comm]
    by_cases h1 : (z.length : Int) < 1
    · have e : nameB (.str z) = false := by
        show nameZ z = false
        unfold nameZ
        have : ¬ 1 ≤ (z.length : Int) := by omega
        simp [this]
      rw [e]
      unfold F__law_is_name B__law_is_name
      clear e
      l_intsC
      rw [fin_same rfl]
    · by_cases h2 : 8 < (z.length : Int)
      · have e : nameB (.str z) = false := by
          show nameZ z = false
          unfold nameZ
          have : ¬ (z.length : Int) ≤ 8 := by omega
          simp [this]
        rw [e]
        unfold F__law_is_name B__law_is_name
        clear e
        l_intsC
        rw [fin_same rfl]
      · cases h3 : (("end" : Str) == z || ("stop" : Str) == z)
        · exact lname_true hz (by omega) (by omega) h3
        · have e : nameB (.str z) = false := by
            show nameZ z = false
            unfold nameZ
            rw [h3]
            simp
          rw [e]
          unfold F__law_is_name B__law_is_name
          clear e
          l_intsC
          rw [fin_same rfl]
  | _ =>
    first
    | exact (h : False).elim
    | (unfold F__law_is_name B__law_is_name; l_ints; rw [fin_same rfl]; rfl)
end K30
end
section
set_option Elab.async false
set_option autoImplicit false
set_option linter.all false
set_option maxRecDepth 100000
set_option maxHeartbeats 2000000
namespace K30
open PySem L2 Mn
local macro_rules | `(tactic| l_ints) => `(tactic| simp only [bnd_some', ret1_some', sSeq_eq, kThen_nx, kThen_rt, kThen_bk, kThen_ct, sNil_eq, sAsg_eq, kAsg_eq, sDrop_eq, kDrop_eq, sRet_eq, kRet_eq, sRetN_eq, sBreak_eq, sCont_eq, sIf_eq, kIf_true, kIf_false, sTgt_eq, kTgt1_eq, kTgt2_eq, sPar_eq, kPar2_eq, sPar3_eq, kPar3_eq, sFor_eq, kFor_eq, sAug_eq, kAug_eq, kAug1_eq, mV_eq, kGot_eq, mC_eq, mOp_eq, kOp1_eq, kOp2_eq, mTB_eq, kB_eq, mAnd_eq, kAnd_true, kAnd_false, mOr_eq, kOr_true, kOr_false, mNot_eq, kNot_eq, mIte_eq, kIte_true, kIte_false, mAndV_eq, kAndV_true, kAndV_false, mOrV_eq, kOrV_true, kOrV_false, mNotV_eq, kNotV_eq, mNil_eq, mCons_eq, kCons1_eq, kCons2_eq, mTup_eq, kTup_eq, mLst_eq, kLst_eq, mFrz_eq, kFrz_eq, mMut_eq, kMut_eq, mCall_eq, mCB_eq, kCB_eq, mCBL_eq, kCBL_eq, mTr_eq, kTr_eq, mNeg_eq, kNeg_eq, mChain_eq, kChn1_eq, kChn2_eq, kChn_true, kChn_false, gN_eq, gsN_eq, gsC_eq, kGs_eq, gT_eq, gTp_eq, gSet_eq, kSet1_eq, kSet2_eq, kSetE_eq, setO_eq, setL_nat, setL_lit, setL_str, mMt_eq, kMt1_eq, kMt1'_eq, kMt2_eq, kMt2'_eq, kMt3_eq, fApp_eq, fPop_eq, kPop_eq, getLast_snoc, dropLast_snoc, fExt_eq, kExt_eq, oAdd_int, oAdd_str, oAdd_tup, oAdd_lst, oAdd_loc, kCat_eq, lstD_lst, lstD_loc, isLst_eq, seqD_tup, seqD_lst, seqD_rol, seqD_loc, dicD_dic, dicD_loc, isDic_eq, oSub_int, oMul_int, oDiv_int, oMod_int, oI_plus, oI_minus, oLt_int, oLe_int, oGt_int, oGe_int, oEq_int, oEq_str, oEq_bl, oNe_int, oNe_str, oNe_bl, oIs_non, oIsNot_non, isN_non, isN_int, isN_bl, isN_str, isN_tup, isN_lst, isN_loc, atI_lit, atI_natc, atI_neg1, ixO_tup, ixO_lst, ixO_dics, ixO_dici, ixO_locs, ixO_loci, ixL_lst, ixL_dics, ixL_dici, cLen_tup, cLen_lst, cLen_dic, cLen_loc, lenL_lst, lenL_dic, cInt_int, cInt_bl, cAbs_int, cTup_tup, cTup_lst, cTup_loc, tupL_eq, cList_eq, cBls_lst, blsA_eq, fAll_eq, fAny_eq, truD_lst, truD_tup, truD_bl, truD_int, truD_non, truD_loc, truL_lst, truL_dic, itD_tup, itD_lst, miSeq_eq, kIt_eq, miR1_eq, kR1_eq, miR2_eq, kR2_eq, mSl_eq, kSl1_eq, kSl2_eq, kSl3_eq, mNoP_eq, mPart_eq, kPart_eq, slD_tup, slD_lst, slD_rol, slD_loc, slA_eq, mIsi_eq, kIsi_eq, tyD_non, tyD_bl, tyD_int, tyD_str, tyD_tup, tyD_lst, isi_NoneType_tuple, isi_NoneType_list, isi_NoneType_int, isi_NoneType_str, isi_NoneType_bool, isi_NoneType_int_str, isi_bool_tuple, isi_bool_list, isi_bool_int, isi_bool_str, isi_bool_bool, isi_bool_int_str, isi_int_tuple, isi_int_list, isi_int_int, isi_int_str, isi_int_bool, isi_int_int_str, isi_str_tuple, isi_str_list, isi_str_int, isi_str_str, isi_str_bool, isi_str_int_str, isi_tuple_tuple, isi_tuple_list, isi_tuple_int, isi_tuple_str, isi_tuple_bool, isi_tuple_int_str, isi_list_tuple, isi_list_list, isi_list_int, isi_list_str, isi_list_bool, isi_list_int_str, mDicF_eq, kDicF_eq, mDicM_eq, kDicM_eq, dicA_eq, dicB_eq, mDic0_eq, mGet1_eq, kGet1_eq, kGet1a_eq, mGet2_eq, kGet2_eq, kGet2a_eq, kGet2b_eq, kGet3_str, kGet3_int, kForB_eq, kForS_nx, kForS_ct, kForS_bk, kForS_rt, kWh_true, kWh_false, kWhS_nx, kWhS_ct, kWhS_bk, kWhS_rt, mLc_eq, kLc_eq, kLc1_eq, kLc2_true, kLc2_false, kLc3_eq, kLc4_eq, mYes_eq, wipeE_nil, wipeE_cons, mFun_0, mFun_1, mFun_2, mFun_3, mFun_4, mFun_5, mFun_6, mFun_7, mFun_8, mFunL_0, mFunL_1, mFunL_2, mFunL_3, mFunL_4, mFunL_5, mFunL_6, mFunL_7, mFunL_8, endW_rt, endW_nx, mRev_eq, kRev_eq, miTxt_eq, kTxt_eq, oIsB_bl, oIsNotB_bl, oIn_eq, oNotIn_eq, kIn_eq, kNIn_eq, inO_sign, inA_eq, inO_tup, inO_lst, inO_loc, inL_lst, inL_dics, inL_dici, inO_dics, inO_dici, flatD_non, flatD_bl, flatD_int, flatD_str, Nat.reduceSub, Nat.reduceAdd, Nat.reduceLeDiff, Nat.reduceLT, Nat.reduceEqDiff, Int.reduceLT, Int.reduceLE, Int.reduceAdd, Int.reduceSub, Int.reduceNeg, Int.reduceMul, Int.reduceToNat, Int.reduceBEq, fits_lit, List.getElem?_cons_zero, List.getElem?_cons_succ, List.getElem?_nil, List.set_cons_zero, List.set_cons_succ, List.set_nil, List.length_cons, List.length_nil, List.length_set, List.length_map, List.length_append, List.set_set, List.replicate_succ, List.replicate_zero, List.isEmpty_nil, List.isEmpty_cons, List.nil_append, List.cons_append, List.append_assoc, Bool.not_true, Bool.not_false, decide_true, decide_false, if_true, if_false, Bool.false_eq_true, st_app, st_app0, st_set, st_set0, List.getLast?_nil, getLast_snoc, dropLast_snoc])
local macro_rules | `(tactic| l_intsC) => `(tactic| simp only [bnd_some', ret1_some', sSeq_eq, kThen_nx, kThen_rt, kThen_bk, kThen_ct, sNil_eq, sAsg_eq, kAsg_eq, sDrop_eq, kDrop_eq, sRet_eq, kRet_eq, sRetN_eq, sBreak_eq, sCont_eq, sIf_eq, kIf_true, kIf_false, sTgt_eq, kTgt1_eq, kTgt2_eq, sPar_eq, kPar2_eq, sPar3_eq, kPar3_eq, sFor_eq, kFor_eq, sAug_eq, kAug_eq, kAug1_eq, mV_eq, kGot_eq, mC_eq, mOp_eq, kOp1_eq, kOp2_eq, mTB_eq, kB_eq, mAnd_eq, kAnd_true, kAnd_false, mOr_eq, kOr_true, kOr_false, mNot_eq, kNot_eq, mIte_eq, kIte_true, kIte_false, mAndV_eq, kAndV_true, kAndV_false, mOrV_eq, kOrV_true, kOrV_false, mNotV_eq, kNotV_eq, mNil_eq, mCons_eq, kCons1_eq, kCons2_eq, mTup_eq, kTup_eq, mLst_eq, kLst_eq, mFrz_eq, kFrz_eq, mMut_eq, kMut_eq, mCall_eq, mCB_eq, kCB_eq, mCBL_eq, kCBL_eq, mTr_eq, kTr_eq, mNeg_eq, kNeg_eq, mChain_eq, kChn1_eq, kChn2_eq, kChn_true, kChn_false, gN_eq, gsN_eq, gsC_eq, kGs_eq, gT_eq, gTp_eq, gSet_eq, kSet1_eq, kSet2_eq, kSetE_eq, setO_eq, setL_nat, setL_lit, setL_str, mMt_eq, kMt1_eq, kMt1'_eq, kMt2_eq, kMt2'_eq, kMt3_eq, fApp_eq, fPop_eq, kPop_eq, getLast_snoc, dropLast_snoc, fExt_eq, kExt_eq, oAdd_int, oAdd_str, oAdd_tup, oAdd_lst, oAdd_loc, kCat_eq, lstD_lst, lstD_loc, isLst_eq, seqD_tup, seqD_lst, seqD_rol, seqD_loc, dicD_dic, dicD_loc, isDic_eq, oSub_int, oMul_int, oDiv_int, oMod_int, oI_plus, oI_minus, oLt_int, oLe_int, oGt_int, oGe_int, oEq_int, oEq_str, oEq_bl, oNe_int, oNe_str, oNe_bl, oIs_non, oIsNot_non, isN_non, isN_int, isN_bl, isN_str, isN_tup, isN_lst, isN_loc, atI_lit, atI_natc, atI_neg1, ixO_tup, ixO_lst, ixO_dics, ixO_dici, ixO_locs, ixO_loci, ixL_lst, ixL_dics, ixL_dici, cLen_tup, cLen_lst, cLen_dic, cLen_loc, lenL_lst, lenL_dic, cInt_int, cInt_bl, cAbs_int, cTup_tup, cTup_lst, cTup_loc, tupL_eq, cList_eq, cBls_lst, blsA_eq, fAll_eq, fAny_eq, truD_lst, truD_tup, truD_bl, truD_int, truD_non, truD_loc, truL_lst, truL_dic, itD_tup, itD_lst, miSeq_eq, kIt_eq, miR1_eq, kR1_eq, miR2_eq, kR2_eq, mSl_eq, kSl1_eq, kSl2_eq, kSl3_eq, mNoP_eq, mPart_eq, kPart_eq, slD_tup, slD_lst, slD_rol, slD_loc, slA_eq, mIsi_eq, kIsi_eq, tyD_non, tyD_bl, tyD_int, tyD_str, tyD_tup, tyD_lst, isi_NoneType_tuple, isi_NoneType_list, isi_NoneType_int, isi_NoneType_str, isi_NoneType_bool, isi_NoneType_int_str, isi_bool_tuple, isi_bool_list, isi_bool_int, isi_bool_str, isi_bool_bool, isi_bool_int_str, isi_int_tuple, isi_int_list, isi_int_int, isi_int_str, isi_int_bool, isi_int_int_str, isi_str_tuple, isi_str_list, isi_str_int, isi_str_str, isi_str_bool, isi_str_int_str, isi_tuple_tuple, isi_tuple_list, isi_tuple_int, isi_tuple_str, isi_tuple_bool, isi_tuple_int_str, isi_list_tuple, isi_list_list, isi_list_int, isi_list_str, isi_list_bool, isi_list_int_str, mDicF_eq, kDicF_eq, mDicM_eq, kDicM_eq, dicA_eq, dicB_eq, mDic0_eq, mGet1_eq, kGet1_eq, kGet1a_eq, mGet2_eq, kGet2_eq, kGet2a_eq, kGet2b_eq, kGet3_str, kGet3_int, kForB_eq, kForS_nx, kForS_ct, kForS_bk, kForS_rt, kWh_true, kWh_false, kWhS_nx, kWhS_ct, kWhS_bk, kWhS_rt, mLc_eq, kLc_eq, kLc1_eq, kLc2_true, kLc2_false, kLc3_eq, kLc4_eq, mYes_eq, wipeE_nil, wipeE_cons, mFun_0, mFun_1, mFun_2, mFun_3, mFun_4, mFun_5, mFun_6, mFun_7, mFun_8, mFunL_0, mFunL_1, mFunL_2, mFunL_3, mFunL_4, mFunL_5, mFunL_6, mFunL_7, mFunL_8, endW_rt, endW_nx, mRev_eq, kRev_eq, miTxt_eq, kTxt_eq, oIsB_bl, oIsNotB_bl, oIn_eq, oNotIn_eq, kIn_eq, kNIn_eq, inO_sign, inA_eq, inO_tup, inO_lst, inO_loc, inL_lst, inL_dics, inL_dici, inO_dics, inO_dici, flatD_non, flatD_bl, flatD_int, flatD_str, Nat.reduceSub, Nat.reduceAdd, Nat.reduceLeDiff, Nat.reduceLT, Nat.reduceEqDiff, Int.reduceLT, Int.reduceLE, Int.reduceAdd, Int.reduceSub, Int.reduceNeg, Int.reduceMul, Int.reduceToNat, Int.reduceBEq, fits_lit, List.getElem?_cons_zero, List.getElem?_cons_succ, List.getElem?_nil, List.set_cons_zero, List.set_cons_succ, List.set_nil, List.length_cons, List.length_nil, List.length_set, List.length_map, List.length_append, List.set_set, List.replicate_succ, List.replicate_zero, List.isEmpty_nil, List.isEmpty_cons, List.nil_append, List.cons_append, List.append_assoc, Bool.not_true, Bool.not_false, decide_true, decide_false, if_true, if_false, Bool.false_eq_true, st_app, st_app0, st_set, st_set0, List.getLast?_nil, getLast_snoc, dropLast_snoc, *])
/-! Euclid in few turns -/
theorem div_zero {st : Store} {x : D} {l : List D} {a : Int} {j : Option D} : forL (gN 2) L__law_divisor_1 (x :: l) [some (.int a), some (.int 0), j] st = some (.rt (.int (Int.gcd a 0)), st) := by
  rw [forL_cons]
  unfold L__law_divisor_1 R__law_divisor_1
  have e : ((0 : Int) == 0) = true := rfl
  l_intsC
  simp
theorem div_step {st : Store} {x : D} {l : List D} {a b : Int} {j : Option D} (hb : 0 < b) : forL (gN 2) L__law_divisor_1 (x :: l) [some (.int a), some (.int b), j] st = forL (gN 2) L__law_divisor_1 l [some (.int b), some (.int (a % b)), some x] st := by
  rw [forL_cons]
  unfold L__law_divisor_1 R__law_divisor_1
  have e : (b == 0) = false := by simp; omega
  l_intsC
theorem gcd_step (a b : Int) : Int.gcd b (a % b) = Int.gcd a b := by rw [Int.emod_def, Int.gcd_sub_mul_left_right, Int.gcd_comm]
theorem half_mod {b r : Int} (hr : 0 < r) (h : r < b) : 0 ≤ b % r ∧ 2 * (b % r) < b := by
  have h1 := Int.emod_nonneg b (show r ≠ 0 by omega)
  have h2 := Int.emod_lt_of_pos b hr
  have h3 := Int.mul_ediv_add_emod b r
  have h4 : 1 ≤ b / r := by
    have := Int.ediv_le_ediv hr (Int.le_of_lt h)
    rw [Int.ediv_self (by omega)] at this
    exact this
  have h5 : r * 1 ≤ r * (b / r) := Int.mul_le_mul_of_nonneg_left h4 (by omega)
  omega
theorem div_log {st : Store} : ∀ (k : Nat) (l : List D) (a b : Int) (j : Option D), 0 ≤ b → b < (2 : Int) ^ k → 2 * k < l.length → forL (gN 2) L__law_divisor_1 l [some (.int a), some (.int b), j] st = some (.rt (.int (Int.gcd a b)), st)
  | 0, [], a, b, j, h0, h1, h2 => by simp at h2
  | 0, x :: l, a, b, j, h0, h1, h2 => by
    have : b = 0 := by simp at h1; omega
    subst this
    exact div_zero
  | k + 1, [], a, b, j, h0, h1, h2 => by simp at h2
  | k + 1, [x], a, b, j, h0, h1, h2 => by simp at h2
  | k + 1, [x, y], a, b, j, h0, h1, h2 => by simp at h2; omega
  | k + 1, x :: y :: z :: l, a, b, j, h0, h1, h2 => by
    by_cases hb : b = 0
    · subst hb
      exact div_zero
    · rw [div_step (by omega)]
      have r0 := Int.emod_nonneg a hb
      have r1 := Int.emod_lt_of_pos a (show 0 < b by omega)
      by_cases hr : a % b = 0
      · rw [hr, div_zero, ← gcd_step a b, hr]
      · rw [div_step (by omega)]
        obtain ⟨m0, m1⟩ := half_mod (b := b) (r := a % b) (by omega) r1
        have hp : (2 : Int) ^ (k + 1) = 2 * 2 ^ k := by rw [Int.pow_succ]; omega
        rw [div_log k (z :: l) (a % b) (b % (a % b)) (some y) m0 (by omega) (by simp at h2 ⊢; omega), gcd_step, gcd_step]
theorem divisor_big (a b : Int) (st : Store) (h : 0 ≤ b) (h2 : b < (2 : Int) ^ 200) : F__law_divisor [.int a, .int b] st = some (.int (Int.gcd a b), st) := by
  have e := div_log (st := st) 200 (rngL 0 20000) a b none h h2 (by rw [rngL_length]; decide)
  unfold F__law_divisor B__law_divisor
  l_intsC
  rw [fin_same rfl]
/-! sums of fractions -/
theorem frac_bd {n d : Int} (hn : 0 ≤ n) (hd : 0 < d) : (0 ≤ (frac n d).1 ∧ (frac n d).1 ≤ n) ∧ 0 < (frac n d).2 ∧ (frac n d).2 ≤ d := by
  have g0 := gcd_pos n d hd
  have g1 := gcd_le n d hd
  unfold frac
  refine ⟨⟨Int.ediv_nonneg hn (by omega), Int.ediv_le_self _ hn⟩, ?_, Int.ediv_le_self _ (by omega)⟩
  exact Int.ediv_pos_of_pos_of_dvd hd (by omega) (Int.gcd_dvd_right ..)
theorem frac_one (n : Int) : frac n 1 = (n, 1) := by
  unfold frac
  rw [Int.gcd_one]
  simp
def Bd (M : Int) (a : Int × Int) : Prop := (0 ≤ a.1 ∧ a.1 ≤ M) ∧ 0 < a.2 ∧ a.2 ≤ M
theorem Bd.plus {M : Int} {a b : Int × Int} (ha : Bd M a) (hb : Bd 2000 b) : Bd (4000 * M) (fplus a b) ∧ (0 ≤ a.1 * b.2 + b.1 * a.2 ∧ a.1 * b.2 + b.1 * a.2 ≤ 4000 * M) ∧ 0 < a.2 * b.2 ∧ a.2 * b.2 ≤ 2000 * M := by
  obtain ⟨⟨a1, a2⟩, a3, a4⟩ := ha
  obtain ⟨⟨b1, b2⟩, b3, b4⟩ := hb
  have e1 : 0 ≤ a.1 * b.2 := Int.mul_nonneg a1 (by omega)
  have e2 : a.1 * b.2 ≤ M * 2000 := Int.mul_le_mul a2 b4 (by omega) (by omega)
  have e3 : 0 ≤ b.1 * a.2 := Int.mul_nonneg b1 (by omega)
  have e4 : b.1 * a.2 ≤ 2000 * M := Int.mul_le_mul b2 a4 (by omega) (by omega)
  have e5 : 0 < a.2 * b.2 := Int.mul_pos a3 b3
  have e6 : a.2 * b.2 ≤ M * 2000 := Int.mul_le_mul a4 b4 (by omega) (by omega)
  have f := frac_bd (n := a.1 * b.2 + b.1 * a.2) (d := a.2 * b.2) (by omega) e5
  exact ⟨⟨⟨f.1.1, by have := f.1.2; show (frac _ _).1 ≤ _; omega⟩, f.2.1, by have := f.2.2; show (frac _ _).2 ≤ _; omega⟩, ⟨by omega, by omega⟩, e5, by omega⟩
theorem two200 : (100000000000000000000000000000 : Int) < 2 ^ 200 := by decide +kernel
theorem lfrac_big (n d : Int) (st : Store) (h : 0 < d) (h2 : d < 100000000000000000000000000000) : F__law_fraction [.int n, .int d] st = some (eF (frac n d), st) := by
  have hd := divisor_big n d st (by omega) (Int.lt_trans h2 two200)
  have g0 := gcd_pos n d h
  have g1 := gcd_le n d h
  have f1 : Fits (Int.gcd n d : Int) = true := fits_ab (by omega) (by omega)
  unfold F__law_fraction B__law_fraction
  l_intsC
  rw [fin_same rfl]
  rfl
theorem lplus_big {M : Int} {a b : Int × Int} (st : Store) (hM : M < 10000000000000000000000000) (ha : Bd M a) (hb : Bd 2000 b) : F__law_plus [eF a, eF b] st = some (eF (fplus a b), st) := by
  obtain ⟨p1, p2, p3, p4⟩ := ha.plus hb
  have e := lfrac_big (a.1 * b.2 + b.1 * a.2) (a.2 * b.2) st p3 (by omega)
  obtain ⟨⟨a1, a2⟩, a3, a4⟩ := ha
  obtain ⟨⟨b1, b2⟩, b3, b4⟩ := hb
  have f1 : Fits a.1 = true := fits_ab (by omega) (by omega)
  have f2 : Fits a.2 = true := fits_ab (by omega) (by omega)
  have f3 : Fits b.1 = true := fits_ab (by omega) (by omega)
  have f4 : Fits b.2 = true := fits_ab (by omega) (by omega)
  clear p1 p2 p3 p4 a1 a2 a3 a4 b1 b2 b3 b4
  unfold F__law_plus B__law_plus
  unfold eF fplus at *
  l_intsC
  rw [fin_same rfl]
theorem ratio_eq (n d : Int) (st : Store) (h : 0 < d) (h2 : d < 100000000000000000000000000000) : F_ratio [.int n, .int d] st = some (eF (frac n d), st) := by
  have hd := common_divisor_eq n d st
  have g0 := gcd_pos n d h
  have g1 := gcd_le n d h
  have f1 : Fits (Int.gcd n d : Int) = true := fits_ab (by omega) (by omega)
  have nl : ¬ d < 0 := by omega
  unfold F_ratio B_ratio R_ratio_2 R_ratio_1
  by_cases c : d = 1
  · subst c
    rw [frac_one]
    have e : ((1 : Int) == 1) = true := rfl
    clear hd g0 g1 f1
    l_intsC
    rw [fin_same rfl]
    rfl
  · have e : (d == 1) = false := by simpa using c
    l_intsC
    rw [fin_same rfl]
    rfl
theorem plus_big {M : Int} {a b : Int × Int} (st : Store) (hM : M < 10000000000000000000000000) (ha : Bd M a) (hb : Bd 2000 b) : F_plus [eF a, eF b] st = some (eF (fplus a b), st) := by
  obtain ⟨p1, p2, p3, p4⟩ := ha.plus hb
  have e := ratio_eq (a.1 * b.2 + b.1 * a.2) (a.2 * b.2) st p3 (by omega)
  obtain ⟨⟨a1, a2⟩, a3, a4⟩ := ha
  obtain ⟨⟨b1, b2⟩, b3, b4⟩ := hb
  have f1 : Fits a.1 = true := fits_ab (by omega) (by omega)
  have f2 : Fits a.2 = true := fits_ab (by omega) (by omega)
  have f3 : Fits b.1 = true := fits_ab (by omega) (by omega)
  have f4 : Fits b.2 = true := fits_ab (by omega) (by omega)
  clear p1 p2 p3 p4 a1 a2 a3 a4 b1 b2 b3 b4
  unfold F_plus B_plus R_plus_1
  by_cases c : a.2 = b.2
  · by_cases c2 : b.2 = 1
    · have fe : fplus a b = (a.1 + b.1, 1) := by
        unfold fplus
        rw [c, c2, Int.mul_one, Int.mul_one, Int.mul_one, frac_one]
      rw [fe]
      have q1 : (a.2 == b.2) = true := by simpa using c
      have q2 : (b.2 == 1) = true := by simpa using c2
      clear e fe c c2
      unfold eF
      l_intsC
      rw [fin_same rfl]
    · have q1 : (a.2 == b.2) = true := by simpa using c
      have q2 : (b.2 == 1) = false := by simpa using c2
      clear c c2
      unfold eF fplus at *
      l_intsC
      rw [fin_same rfl]
  · have q1 : (a.2 == b.2) = false := by simpa using c
    clear c
    unfold eF fplus at *
    l_intsC
    rw [fin_same rfl]
theorem eq_pair (a b c d : Int) (st : Store) : oEq (.tup [.int a, .int b]) (.tup [.int c, .int d]) st = some (.bl (a == c && b == d)) := by
  have h : eqP (.tup [.int a, .int b]) (.tup [.int c, .int d]) = some (a == c && b == d) := by
    unfold eqP
    simp only [toPy, toPys]
    rw [if_pos ⟨rfl, rfl⟩]
    simp [PyData.eqv, PyData.eqvAll]
  unfold oEq eqD
  have : eqS (.tup [.int a, .int b]) (.tup [.int c, .int d]) = none := rfl
  simp only [this, h]
end K30
end
section
set_option Elab.async false
set_option autoImplicit false
set_option linter.all false
set_option maxRecDepth 100000
set_option maxHeartbeats 2000000
namespace K30
open PySem L2 Mn
local macro_rules | `(tactic| l_ints) => `(tactic| simp only [bnd_some', ret1_some', sSeq_eq, kThen_nx, kThen_rt, kThen_bk, kThen_ct, sNil_eq, sAsg_eq, kAsg_eq, sDrop_eq, kDrop_eq, sRet_eq, kRet_eq, sRetN_eq, sBreak_eq, sCont_eq, sIf_eq, kIf_true, kIf_false, sTgt_eq, kTgt1_eq, kTgt2_eq, sPar_eq, kPar2_eq, sPar3_eq, kPar3_eq, sFor_eq, kFor_eq, sAug_eq, kAug_eq, kAug1_eq, mV_eq, kGot_eq, mC_eq, mOp_eq, kOp1_eq, kOp2_eq, mTB_eq, kB_eq, mAnd_eq, kAnd_true, kAnd_false, mOr_eq, kOr_true, kOr_false, mNot_eq, kNot_eq, mIte_eq, kIte_true, kIte_false, mAndV_eq, kAndV_true, kAndV_false, mOrV_eq, kOrV_true, kOrV_false, mNotV_eq, kNotV_eq, mNil_eq, mCons_eq, kCons1_eq, kCons2_eq, mTup_eq, kTup_eq, mLst_eq, kLst_eq, mFrz_eq, kFrz_eq, mMut_eq, kMut_eq, mCall_eq, mCB_eq, kCB_eq, mCBL_eq, kCBL_eq, mTr_eq, kTr_eq, mNeg_eq, kNeg_eq, mChain_eq, kChn1_eq, kChn2_eq, kChn_true, kChn_false, gN_eq, gsN_eq, gsC_eq, kGs_eq, gT_eq, gTp_eq, gSet_eq, kSet1_eq, kSet2_eq, kSetE_eq, setO_eq, setL_nat, setL_lit, setL_str, mMt_eq, kMt1_eq, kMt1'_eq, kMt2_eq, kMt2'_eq, kMt3_eq, fApp_eq, fPop_eq, kPop_eq, getLast_snoc, dropLast_snoc, fExt_eq, kExt_eq, oAdd_int, oAdd_str, oAdd_tup, oAdd_lst, oAdd_loc, kCat_eq, lstD_lst, lstD_loc, isLst_eq, seqD_tup, seqD_lst, seqD_rol, seqD_loc, dicD_dic, dicD_loc, isDic_eq, oSub_int, oMul_int, oDiv_int, oMod_int, oI_plus, oI_minus, oLt_int, oLe_int, oGt_int, oGe_int, oEq_int, oEq_str, oEq_bl, oNe_int, oNe_str, oNe_bl, oIs_non, oIsNot_non, isN_non, isN_int, isN_bl, isN_str, isN_tup, isN_lst, isN_loc, atI_lit, atI_natc, atI_neg1, ixO_tup, ixO_lst, ixO_dics, ixO_dici, ixO_locs, ixO_loci, ixL_lst, ixL_dics, ixL_dici, cLen_tup, cLen_lst, cLen_dic, cLen_loc, lenL_lst, lenL_dic, cInt_int, cInt_bl, cAbs_int, cTup_tup, cTup_lst, cTup_loc, tupL_eq, cList_eq, cBls_lst, blsA_eq, fAll_eq, fAny_eq, truD_lst, truD_tup, truD_bl, truD_int, truD_non, truD_loc, truL_lst, truL_dic, itD_tup, itD_lst, miSeq_eq, kIt_eq, miR1_eq, kR1_eq, miR2_eq, kR2_eq, mSl_eq, kSl1_eq, kSl2_eq, kSl3_eq, mNoP_eq, mPart_eq, kPart_eq, slD_tup, slD_lst, slD_rol, slD_loc, slA_eq, mIsi_eq, kIsi_eq, tyD_non, tyD_bl, tyD_int, tyD_str, tyD_tup, tyD_lst, isi_NoneType_tuple, isi_NoneType_list, isi_NoneType_int, isi_NoneType_str, isi_NoneType_bool, isi_NoneType_int_str, isi_bool_tuple, isi_bool_list, isi_bool_int, isi_bool_str, isi_bool_bool, isi_bool_int_str, isi_int_tuple, isi_int_list, isi_int_int, isi_int_str, isi_int_bool, isi_int_int_str, isi_str_tuple, isi_str_list, isi_str_int, isi_str_str, isi_str_bool, isi_str_int_str, isi_tuple_tuple, isi_tuple_list, isi_tuple_int, isi_tuple_str, isi_tuple_bool, isi_tuple_int_str, isi_list_tuple, isi_list_list, isi_list_int, isi_list_str, isi_list_bool, isi_list_int_str, mDicF_eq, kDicF_eq, mDicM_eq, kDicM_eq, dicA_eq, dicB_eq, mDic0_eq, mGet1_eq, kGet1_eq, kGet1a_eq, mGet2_eq, kGet2_eq, kGet2a_eq, kGet2b_eq, kGet3_str, kGet3_int, kForB_eq, kForS_nx, kForS_ct, kForS_bk, kForS_rt, kWh_true, kWh_false, kWhS_nx, kWhS_ct, kWhS_bk, kWhS_rt, mLc_eq, kLc_eq, kLc1_eq, kLc2_true, kLc2_false, kLc3_eq, kLc4_eq, mYes_eq, wipeE_nil, wipeE_cons, mFun_0, mFun_1, mFun_2, mFun_3, mFun_4, mFun_5, mFun_6, mFun_7, mFun_8, mFunL_0, mFunL_1, mFunL_2, mFunL_3, mFunL_4, mFunL_5, mFunL_6, mFunL_7, mFunL_8, endW_rt, endW_nx, mRev_eq, kRev_eq, miTxt_eq, kTxt_eq, oIsB_bl, oIsNotB_bl, oIn_eq, oNotIn_eq, kIn_eq, kNIn_eq, inO_sign, inA_eq, inO_tup, inO_lst, inO_loc, inL_lst, inL_dics, inL_dici, inO_dics, inO_dici, flatD_non, flatD_bl, flatD_int, flatD_str, Nat.reduceSub, Nat.reduceAdd, Nat.reduceLeDiff, Nat.reduceLT, Nat.reduceEqDiff, Int.reduceLT, Int.reduceLE, Int.reduceAdd, Int.reduceSub, Int.reduceNeg, Int.reduceMul, Int.reduceToNat, Int.reduceBEq, fits_lit, List.getElem?_cons_zero, List.getElem?_cons_succ, List.getElem?_nil, List.set_cons_zero, List.set_cons_succ, List.set_nil, List.length_cons, List.length_nil, List.length_set, List.length_map, List.length_append, List.set_set, List.replicate_succ, List.replicate_zero, List.isEmpty_nil, List.isEmpty_cons, List.nil_append, List.cons_append, List.append_assoc, Bool.not_true, Bool.not_false, decide_true, decide_false, if_true, if_false, Bool.false_eq_true, st_app, st_app0, st_set, st_set0, List.getLast?_nil, getLast_snoc, dropLast_snoc])
local macro_rules | `(tactic| l_intsC) => `(tactic| simp only [bnd_some', ret1_some', sSeq_eq, kThen_nx, kThen_rt, kThen_bk, kThen_ct, sNil_eq, sAsg_eq, kAsg_eq, sDrop_eq, kDrop_eq, sRet_eq, kRet_eq, sRetN_eq, sBreak_eq, sCont_eq, sIf_eq, kIf_true, kIf_false, sTgt_eq, kTgt1_eq, kTgt2_eq, sPar_eq, kPar2_eq, sPar3_eq, kPar3_eq, sFor_eq, kFor_eq, sAug_eq, kAug_eq, kAug1_eq, mV_eq, kGot_eq, mC_eq, mOp_eq, kOp1_eq, kOp2_eq, mTB_eq, kB_eq, mAnd_eq, kAnd_true, kAnd_false, mOr_eq, kOr_true, kOr_false, mNot_eq, kNot_eq, mIte_eq, kIte_true, kIte_false, mAndV_eq, kAndV_true, kAndV_false, mOrV_eq, kOrV_true, kOrV_false, mNotV_eq, kNotV_eq, mNil_eq, mCons_eq, kCons1_eq, kCons2_eq, mTup_eq, kTup_eq, mLst_eq, kLst_eq, mFrz_eq, kFrz_eq, mMut_eq, kMut_eq, mCall_eq, mCB_eq, kCB_eq, mCBL_eq, kCBL_eq, mTr_eq, kTr_eq, mNeg_eq, kNeg_eq, mChain_eq, kChn1_eq, kChn2_eq, kChn_true, kChn_false, gN_eq, gsN_eq, gsC_eq, kGs_eq, gT_eq, gTp_eq, gSet_eq, kSet1_eq, kSet2_eq, kSetE_eq, setO_eq, setL_nat, setL_lit, setL_str, mMt_eq, kMt1_eq, kMt1'_eq, kMt2_eq, kMt2'_eq, kMt3_eq, fApp_eq, fPop_eq, kPop_eq, getLast_snoc, dropLast_snoc, fExt_eq, kExt_eq, oAdd_int, oAdd_str, oAdd_tup, oAdd_lst, oAdd_loc, kCat_eq, lstD_lst, lstD_loc, isLst_eq, seqD_tup, seqD_lst, seqD_rol, seqD_loc, dicD_dic, dicD_loc, isDic_eq, oSub_int, oMul_int, oDiv_int, oMod_int, oI_plus, oI_minus, oLt_int, oLe_int, oGt_int, oGe_int, oEq_int, oEq_str, oEq_bl, oNe_int, oNe_str, oNe_bl, oIs_non, oIsNot_non, isN_non, isN_int, isN_bl, isN_str, isN_tup, isN_lst, isN_loc, atI_lit, atI_natc, atI_neg1, ixO_tup, ixO_lst, ixO_dics, ixO_dici, ixO_locs, ixO_loci, ixL_lst, ixL_dics, ixL_dici, cLen_tup, cLen_lst, cLen_dic, cLen_loc, lenL_lst, lenL_dic, cInt_int, cInt_bl, cAbs_int, cTup_tup, cTup_lst, cTup_loc, tupL_eq, cList_eq, cBls_lst, blsA_eq, fAll_eq, fAny_eq, truD_lst, truD_tup, truD_bl, truD_int, truD_non, truD_loc, truL_lst, truL_dic, itD_tup, itD_lst, miSeq_eq, kIt_eq, miR1_eq, kR1_eq, miR2_eq, kR2_eq, mSl_eq, kSl1_eq, kSl2_eq, kSl3_eq, mNoP_eq, mPart_eq, kPart_eq, slD_tup, slD_lst, slD_rol, slD_loc, slA_eq, mIsi_eq, kIsi_eq, tyD_non, tyD_bl, tyD_int, tyD_str, tyD_tup, tyD_lst, isi_NoneType_tuple, isi_NoneType_list, isi_NoneType_int, isi_NoneType_str, isi_NoneType_bool, isi_NoneType_int_str, isi_bool_tuple, isi_bool_list, isi_bool_int, isi_bool_str, isi_bool_bool, isi_bool_int_str, isi_int_tuple, isi_int_list, isi_int_int, isi_int_str, isi_int_bool, isi_int_int_str, isi_str_tuple, isi_str_list, isi_str_int, isi_str_str, isi_str_bool, isi_str_int_str, isi_tuple_tuple, isi_tuple_list, isi_tuple_int, isi_tuple_str, isi_tuple_bool, isi_tuple_int_str, isi_list_tuple, isi_list_list, isi_list_int, isi_list_str, isi_list_bool, isi_list_int_str, mDicF_eq, kDicF_eq, mDicM_eq, kDicM_eq, dicA_eq, dicB_eq, mDic0_eq, mGet1_eq, kGet1_eq, kGet1a_eq, mGet2_eq, kGet2_eq, kGet2a_eq, kGet2b_eq, kGet3_str, kGet3_int, kForB_eq, kForS_nx, kForS_ct, kForS_bk, kForS_rt, kWh_true, kWh_false, kWhS_nx, kWhS_ct, kWhS_bk, kWhS_rt, mLc_eq, kLc_eq, kLc1_eq, kLc2_true, kLc2_false, kLc3_eq, kLc4_eq, mYes_eq, wipeE_nil, wipeE_cons, mFun_0, mFun_1, mFun_2, mFun_3, mFun_4, mFun_5, mFun_6, mFun_7, mFun_8, mFunL_0, mFunL_1, mFunL_2, mFunL_3, mFunL_4, mFunL_5, mFunL_6, mFunL_7, mFunL_8, endW_rt, endW_nx, mRev_eq, kRev_eq, miTxt_eq, kTxt_eq, oIsB_bl, oIsNotB_bl, oIn_eq, oNotIn_eq, kIn_eq, kNIn_eq, inO_sign, inA_eq, inO_tup, inO_lst, inO_loc, inL_lst, inL_dics, inL_dici, inO_dics, inO_dici, flatD_non, flatD_bl, flatD_int, flatD_str, Nat.reduceSub, Nat.reduceAdd, Nat.reduceLeDiff, Nat.reduceLT, Nat.reduceEqDiff, Int.reduceLT, Int.reduceLE, Int.reduceAdd, Int.reduceSub, Int.reduceNeg, Int.reduceMul, Int.reduceToNat, Int.reduceBEq, fits_lit, List.getElem?_cons_zero, List.getElem?_cons_succ, List.getElem?_nil, List.set_cons_zero, List.set_cons_succ, List.set_nil, List.length_cons, List.length_nil, List.length_set, List.length_map, List.length_append, List.set_set, List.replicate_succ, List.replicate_zero, List.isEmpty_nil, List.isEmpty_cons, List.nil_append, List.cons_append, List.append_assoc, Bool.not_true, Bool.not_false, decide_true, decide_false, if_true, if_false, Bool.false_eq_true, st_app, st_app0, st_set, st_set0, List.getLast?_nil, getLast_snoc, dropLast_snoc, *])
def hd2 (d : D) : Prop := hd1 d ∧ ∀ ds, d = .tup ds → ∀ x ∈ ds, hd1 x
theorem vok.hd2 {L : Nat} : ∀ {n : Nat} {d : D}, vok L n d → hd2 d
  | 0, d, h => ⟨h.hd, fun ds e => by subst e; exact (h : False).elim⟩
  | n + 1, d, h => ⟨h.hd, fun ds e => by subst e; exact fun x hx => (h.2 x hx).hd⟩
def ratB : D → Bool
  | .tup [.int n, .int m] => decide (0 < m) && ((Int.gcd n m : Int) == 1)
  | _ => false
def fracB : D → Bool
  | .tup [.int n, .int m] => decide (0 < m) && (decide (0 < n) && ((Int.gcd n m : Int) == 1))
  | _ => false
theorem intB_inv {x : D} (h : intB x = true) : ∃ n, x = .int n := by
  cases x <;> first | exact ⟨_, rfl⟩ | cases h
theorem rat_noint {x y : D} (h : intB x = false ∨ intB y = false) : ratB (.tup [x, y]) = false ∧ fracB (.tup [x, y]) = false := by
  cases x <;> cases y <;> first | exact ⟨rfl, rfl⟩ | (rcases h with h | h <;> cases h)
theorem rat_len3 {x y z : D} {r : List D} : ratB (.tup (x :: y :: z :: r)) = false ∧ fracB (.tup (x :: y :: z :: r)) = false := by
  cases x <;> cases y <;> exact ⟨rfl, rfl⟩
theorem rat_len1 {x : D} : ratB (.tup [x]) = false ∧ fracB (.tup [x]) = false := by
  cases x <;> exact ⟨rfl, rfl⟩
theorem is_ratio_eq {d : D} (h : hd2 d) (st : Store) : F_is_ratio [d] st = some (.bl (ratB d), st) := by
  obtain ⟨h1, h2⟩ := h
  unfold F_is_ratio B_is_ratio R_is_ratio_1
  cases d with
  | tup ds =>
    have h2 := h2 ds rfl
    match ds, h2 with
    | [], _ =>
      have e : (((0 : Nat) : Int) == 2) = false := by decide
      show _ = some (D.bl false, st)
      l_intsC
      rw [fin_same rfl]
    | [x], _ =>
      have e : (((0 + 1 : Nat) : Int) == 2) = false := by decide
      rw [rat_len1.1]
      l_intsC
      rw [fin_same rfl]
    | x :: y :: z :: r, _ =>
      have e : (((r.length + 1 + 1 + 1 : Nat) : Int) == 2) = false := by simp; omega
      rw [rat_len3.1]
      l_intsC
      rw [fin_same rfl]
    | [x, y], h2 =>
      have e : (((0 + 1 + 1 : Nat) : Int) == 2) = true := by decide
      have ex := is_integer_eq (h2 x (by simp)) st
      have ey := is_integer_eq (h2 y (by simp)) st
      clear h2 h1
      cases cx : intB x
      · rw [(rat_noint (.inl cx)).1]
        l_intsC
        rw [fin_same rfl]
      · cases cy : intB y
        · rw [(rat_noint (.inr cy)).1]
          l_intsC
          rw [fin_same rfl]
        · obtain ⟨n, rfl⟩ := intB_inv cx
          obtain ⟨m, rfl⟩ := intB_inv cy
          have ge := common_divisor_eq n m st
          show _ = some (D.bl (decide (0 < m) && ((Int.gcd n m : Int) == 1)), st)
          by_cases hm : 0 < m
          · l_intsC
            rw [fin_same rfl]
            rfl
          · l_intsC
            rw [fin_same rfl]
            rfl
  | _ =>
    first
    | exact (h1 : False).elim
    | (clear h2; l_ints; rw [fin_same rfl]; rfl)
theorem law_is_fraction_eq {d : D} (h : hd2 d) (st : Store) : F__law_is_fraction [d] st = some (.bl (fracB d), st) := by
  obtain ⟨h1, h2⟩ := h
  unfold F__law_is_fraction B__law_is_fraction R__law_is_fraction_1
  cases d with
  | tup ds =>
    have h2 := h2 ds rfl
    match ds, h2 with
    | [], _ =>
      have e : (((0 : Nat) : Int) == 2) = false := by decide
      show _ = some (D.bl false, st)
      l_intsC
      rw [fin_same rfl]
    | [x], _ =>
      have e : (((0 + 1 : Nat) : Int) == 2) = false := by decide
      rw [rat_len1.2]
      l_intsC
      rw [fin_same rfl]
    | x :: y :: z :: r, _ =>
      have e : (((r.length + 1 + 1 + 1 : Nat) : Int) == 2) = false := by simp; omega
      rw [rat_len3.2]
      l_intsC
      rw [fin_same rfl]
    | [x, y], h2 =>
      have e : (((0 + 1 + 1 : Nat) : Int) == 2) = true := by decide
      have ex := law_is_int_eq (h2 x (by simp)) st
      have ey := law_is_int_eq (h2 y (by simp)) st
      have hy := h2 y (by simp)
      clear h2 h1
      cases cx : intB x
      · rw [(rat_noint (.inl cx)).2]
        clear hy
        l_intsC
        rw [fin_same rfl]
      · cases cy : intB y
        · rw [(rat_noint (.inr cy)).2]
          clear hy
          l_intsC
          rw [fin_same rfl]
        · obtain ⟨n, rfl⟩ := intB_inv cx
          obtain ⟨m, rfl⟩ := intB_inv cy
          have hy : -2000 < m ∧ m < 2000 := hy
          show _ = some (D.bl (decide (0 < m) && (decide (0 < n) && ((Int.gcd n m : Int) == 1))), st)
          by_cases hm : 0 < m
          · have ge := divisor_big n m st (by omega) (Int.lt_trans (show m < 100000000000000000000000000000 by omega) two200)
            by_cases hn : 0 < n
            · clear hy
              l_intsC
              rw [fin_same rfl]
              rfl
            · clear hy
              l_intsC
              rw [fin_same rfl]
              rfl
          · clear hy
            l_intsC
            rw [fin_same rfl]
            rfl
  | _ =>
    first
    | exact (h1 : False).elim
    | (clear h2; l_ints; rw [fin_same rfl]; rfl)
end K30
end
section
set_option Elab.async false
set_option autoImplicit false
set_option linter.all false
set_option maxRecDepth 100000
set_option maxHeartbeats 2000000
namespace K30
open PySem L2 Mn
local macro_rules | `(tactic| l_ints) => `(tactic| simp only [bnd_some', ret1_some', sSeq_eq, kThen_nx, kThen_rt, kThen_bk, kThen_ct, sNil_eq, sAsg_eq, kAsg_eq, sDrop_eq, kDrop_eq, sRet_eq, kRet_eq, sRetN_eq, sBreak_eq, sCont_eq, sIf_eq, kIf_true, kIf_false, sTgt_eq, kTgt1_eq, kTgt2_eq, sPar_eq, kPar2_eq, sPar3_eq, kPar3_eq, sFor_eq, kFor_eq, sAug_eq, kAug_eq, kAug1_eq, mV_eq, kGot_eq, mC_eq, mOp_eq, kOp1_eq, kOp2_eq, mTB_eq, kB_eq, mAnd_eq, kAnd_true, kAnd_false, mOr_eq, kOr_true, kOr_false, mNot_eq, kNot_eq, mIte_eq, kIte_true, kIte_false, mAndV_eq, kAndV_true, kAndV_false, mOrV_eq, kOrV_true, kOrV_false, mNotV_eq, kNotV_eq, mNil_eq, mCons_eq, kCons1_eq, kCons2_eq, mTup_eq, kTup_eq, mLst_eq, kLst_eq, mFrz_eq, kFrz_eq, mMut_eq, kMut_eq, mCall_eq, mCB_eq, kCB_eq, mCBL_eq, kCBL_eq, mTr_eq, kTr_eq, mNeg_eq, kNeg_eq, mChain_eq, kChn1_eq, kChn2_eq, kChn_true, kChn_false, gN_eq, gsN_eq, gsC_eq, kGs_eq, gT_eq, gTp_eq, gSet_eq, kSet1_eq, kSet2_eq, kSetE_eq, setO_eq, setL_nat, setL_lit, setL_str, mMt_eq, kMt1_eq, kMt1'_eq, kMt2_eq, kMt2'_eq, kMt3_eq, fApp_eq, fPop_eq, kPop_eq, getLast_snoc, dropLast_snoc, fExt_eq, kExt_eq, oAdd_int, oAdd_str, oAdd_tup, oAdd_lst, oAdd_loc, kCat_eq, lstD_lst, lstD_loc, isLst_eq, seqD_tup, seqD_lst, seqD_rol, seqD_loc, dicD_dic, dicD_loc, isDic_eq, oSub_int, oMul_int, oDiv_int, oMod_int, oI_plus, oI_minus, oLt_int, oLe_int, oGt_int, oGe_int, oEq_int, oEq_str, oEq_bl, oNe_int, oNe_str, oNe_bl, oIs_non, oIsNot_non, isN_non, isN_int, isN_bl, isN_str, isN_tup, isN_lst, isN_loc, atI_lit, atI_natc, atI_neg1, ixO_tup, ixO_lst, ixO_dics, ixO_dici, ixO_locs, ixO_loci, ixL_lst, ixL_dics, ixL_dici, cLen_tup, cLen_lst, cLen_dic, cLen_loc, lenL_lst, lenL_dic, cInt_int, cInt_bl, cAbs_int, cTup_tup, cTup_lst, cTup_loc, tupL_eq, cList_eq, cBls_lst, blsA_eq, fAll_eq, fAny_eq, truD_lst, truD_tup, truD_bl, truD_int, truD_non, truD_loc, truL_lst, truL_dic, itD_tup, itD_lst, miSeq_eq, kIt_eq, miR1_eq, kR1_eq, miR2_eq, kR2_eq, mSl_eq, kSl1_eq, kSl2_eq, kSl3_eq, mNoP_eq, mPart_eq, kPart_eq, slD_tup, slD_lst, slD_rol, slD_loc, slA_eq, mIsi_eq, kIsi_eq, tyD_non, tyD_bl, tyD_int, tyD_str, tyD_tup, tyD_lst, isi_NoneType_tuple, isi_NoneType_list, isi_NoneType_int, isi_NoneType_str, isi_NoneType_bool, isi_NoneType_int_str, isi_bool_tuple, isi_bool_list, isi_bool_int, isi_bool_str, isi_bool_bool, isi_bool_int_str, isi_int_tuple, isi_int_list, isi_int_int, isi_int_str, isi_int_bool, isi_int_int_str, isi_str_tuple, isi_str_list, isi_str_int, isi_str_str, isi_str_bool, isi_str_int_str, isi_tuple_tuple, isi_tuple_list, isi_tuple_int, isi_tuple_str, isi_tuple_bool, isi_tuple_int_str, isi_list_tuple, isi_list_list, isi_list_int, isi_list_str, isi_list_bool, isi_list_int_str, mDicF_eq, kDicF_eq, mDicM_eq, kDicM_eq, dicA_eq, dicB_eq, mDic0_eq, mGet1_eq, kGet1_eq, kGet1a_eq, mGet2_eq, kGet2_eq, kGet2a_eq, kGet2b_eq, kGet3_str, kGet3_int, kForB_eq, kForS_nx, kForS_ct, kForS_bk, kForS_rt, kWh_true, kWh_false, kWhS_nx, kWhS_ct, kWhS_bk, kWhS_rt, mLc_eq, kLc_eq, kLc1_eq, kLc2_true, kLc2_false, kLc3_eq, kLc4_eq, mYes_eq, wipeE_nil, wipeE_cons, mFun_0, mFun_1, mFun_2, mFun_3, mFun_4, mFun_5, mFun_6, mFun_7, mFun_8, mFunL_0, mFunL_1, mFunL_2, mFunL_3, mFunL_4, mFunL_5, mFunL_6, mFunL_7, mFunL_8, endW_rt, endW_nx, mRev_eq, kRev_eq, miTxt_eq, kTxt_eq, oIsB_bl, oIsNotB_bl, oIn_eq, oNotIn_eq, kIn_eq, kNIn_eq, inO_sign, inA_eq, inO_tup, inO_lst, inO_loc, inL_lst, inL_dics, inL_dici, inO_dics, inO_dici, flatD_non, flatD_bl, flatD_int, flatD_str, Nat.reduceSub, Nat.reduceAdd, Nat.reduceLeDiff, Nat.reduceLT, Nat.reduceEqDiff, Int.reduceLT, Int.reduceLE, Int.reduceAdd, Int.reduceSub, Int.reduceNeg, Int.reduceMul, Int.reduceToNat, Int.reduceBEq, fits_lit, List.getElem?_cons_zero, List.getElem?_cons_succ, List.getElem?_nil, List.set_cons_zero, List.set_cons_succ, List.set_nil, List.length_cons, List.length_nil, List.length_set, List.length_map, List.length_append, List.set_set, List.replicate_succ, List.replicate_zero, List.isEmpty_nil, List.isEmpty_cons, List.nil_append, List.cons_append, List.append_assoc, Bool.not_true, Bool.not_false, decide_true, decide_false, if_true, if_false, Bool.false_eq_true, st_app, st_app0, st_set, st_set0, List.getLast?_nil, getLast_snoc, dropLast_snoc])
local macro_rules | `(tactic| l_intsC) => `(tactic| simp only [bnd_some', ret1_some', sSeq_eq, kThen_nx, kThen_rt, kThen_bk, kThen_ct, sNil_eq, sAsg_eq, kAsg_eq, sDrop_eq, kDrop_eq, sRet_eq, kRet_eq, sRetN_eq, sBreak_eq, sCont_eq, sIf_eq, kIf_true, kIf_false, sTgt_eq, kTgt1_eq, kTgt2_eq, sPar_eq, kPar2_eq, sPar3_eq, kPar3_eq, sFor_eq, kFor_eq, sAug_eq, kAug_eq, kAug1_eq, mV_eq, kGot_eq, mC_eq, mOp_eq, kOp1_eq, kOp2_eq, mTB_eq, kB_eq, mAnd_eq, kAnd_true, kAnd_false, mOr_eq, kOr_true, kOr_false, mNot_eq, kNot_eq, mIte_eq, kIte_true, kIte_false, mAndV_eq, kAndV_true, kAndV_false, mOrV_eq, kOrV_true, kOrV_false, mNotV_eq, kNotV_eq, mNil_eq, mCons_eq, kCons1_eq, kCons2_eq, mTup_eq, kTup_eq, mLst_eq, kLst_eq, mFrz_eq, kFrz_eq, mMut_eq, kMut_eq, mCall_eq, mCB_eq, kCB_eq, mCBL_eq, kCBL_eq, mTr_eq, kTr_eq, mNeg_eq, kNeg_eq, mChain_eq, kChn1_eq, kChn2_eq, kChn_true, kChn_false, gN_eq, gsN_eq, gsC_eq, kGs_eq, gT_eq, gTp_eq, gSet_eq, kSet1_eq, kSet2_eq, kSetE_eq, setO_eq, setL_nat, setL_lit, setL_str, mMt_eq, kMt1_eq, kMt1'_eq, kMt2_eq, kMt2'_eq, kMt3_eq, fApp_eq, fPop_eq, kPop_eq, getLast_snoc, dropLast_snoc, fExt_eq, kExt_eq, oAdd_int, oAdd_str, oAdd_tup, oAdd_lst, oAdd_loc, kCat_eq, lstD_lst, lstD_loc, isLst_eq, seqD_tup, seqD_lst, seqD_rol, seqD_loc, dicD_dic, dicD_loc, isDic_eq, oSub_int, oMul_int, oDiv_int, oMod_int, oI_plus, oI_minus, oLt_int, oLe_int, oGt_int, oGe_int, oEq_int, oEq_str, oEq_bl, oNe_int, oNe_str, oNe_bl, oIs_non, oIsNot_non, isN_non, isN_int, isN_bl, isN_str, isN_tup, isN_lst, isN_loc, atI_lit, atI_natc, atI_neg1, ixO_tup, ixO_lst, ixO_dics, ixO_dici, ixO_locs, ixO_loci, ixL_lst, ixL_dics, ixL_dici, cLen_tup, cLen_lst, cLen_dic, cLen_loc, lenL_lst, lenL_dic, cInt_int, cInt_bl, cAbs_int, cTup_tup, cTup_lst, cTup_loc, tupL_eq, cList_eq, cBls_lst, blsA_eq, fAll_eq, fAny_eq, truD_lst, truD_tup, truD_bl, truD_int, truD_non, truD_loc, truL_lst, truL_dic, itD_tup, itD_lst, miSeq_eq, kIt_eq, miR1_eq, kR1_eq, miR2_eq, kR2_eq, mSl_eq, kSl1_eq, kSl2_eq, kSl3_eq, mNoP_eq, mPart_eq, kPart_eq, slD_tup, slD_lst, slD_rol, slD_loc, slA_eq, mIsi_eq, kIsi_eq, tyD_non, tyD_bl, tyD_int, tyD_str, tyD_tup, tyD_lst, isi_NoneType_tuple, isi_NoneType_list, isi_NoneType_int, isi_NoneType_str, isi_NoneType_bool, isi_NoneType_int_str, isi_bool_tuple, isi_bool_list, isi_bool_int, isi_bool_str, isi_bool_bool, isi_bool_int_str, isi_int_tuple, isi_int_list, isi_int_int, isi_int_str, isi_int_bool, isi_int_int_str, isi_str_tuple, isi_str_list, isi_str_int, isi_str_str, isi_str_bool, isi_str_int_str, isi_tuple_tuple, isi_tuple_list, isi_tuple_int, isi_tuple_str, isi_tuple_bool, isi_tuple_int_str, isi_list_tuple, isi_list_list, isi_list_int, isi_list_str, isi_list_bool, isi_list_int_str, mDicF_eq, kDicF_eq, mDicM_eq, kDicM_eq, dicA_eq, dicB_eq, mDic0_eq, mGet1_eq, kGet1_eq, kGet1a_eq, mGet2_eq, kGet2_eq, kGet2a_eq, kGet2b_eq, kGet3_str, kGet3_int, kForB_eq, kForS_nx, kForS_ct, kForS_bk, kForS_rt, kWh_true, kWh_false, kWhS_nx, kWhS_ct, kWhS_bk, kWhS_rt, mLc_eq, kLc_eq, kLc1_eq, kLc2_true, kLc2_false, kLc3_eq, kLc4_eq, mYes_eq, wipeE_nil, wipeE_cons, mFun_0, mFun_1, mFun_2, mFun_3, mFun_4, mFun_5, mFun_6, mFun_7, mFun_8, mFunL_0, mFunL_1, mFunL_2, mFunL_3, mFunL_4, mFunL_5, mFunL_6, mFunL_7, mFunL_8, endW_rt, endW_nx, mRev_eq, kRev_eq, miTxt_eq, kTxt_eq, oIsB_bl, oIsNotB_bl, oIn_eq, oNotIn_eq, kIn_eq, kNIn_eq, inO_sign, inA_eq, inO_tup, inO_lst, inO_loc, inL_lst, inL_dics, inL_dici, inO_dics, inO_dici, flatD_non, flatD_bl, flatD_int, flatD_str, Nat.reduceSub, Nat.reduceAdd, Nat.reduceLeDiff, Nat.reduceLT, Nat.reduceEqDiff, Int.reduceLT, Int.reduceLE, Int.reduceAdd, Int.reduceSub, Int.reduceNeg, Int.reduceMul, Int.reduceToNat, Int.reduceBEq, fits_lit, List.getElem?_cons_zero, List.getElem?_cons_succ, List.getElem?_nil, List.set_cons_zero, List.set_cons_succ, List.set_nil, List.length_cons, List.length_nil, List.length_set, List.length_map, List.length_append, List.set_set, List.replicate_succ, List.replicate_zero, List.isEmpty_nil, List.isEmpty_cons, List.nil_append, List.cons_append, List.append_assoc, Bool.not_true, Bool.not_false, decide_true, decide_false, if_true, if_false, Bool.false_eq_true, st_app, st_app0, st_set, st_set0, List.getLast?_nil, getLast_snoc, dropLast_snoc, *])
def hd3 (d : D) : Prop := hd1 d ∧ ∀ ds, d = .tup ds → ∀ x ∈ ds, hd2 x
theorem vok.hd3 {L : Nat} : ∀ {n : Nat} {d : D}, vok L n d → hd3 d
  | 0, d, h => ⟨h.hd, fun ds e => by subst e; exact (h : False).elim⟩
  | n + 1, d, h => ⟨h.hd, fun ds e => by subst e; exact fun x hx => (h.2 x hx).hd2⟩
def rowB : D → Bool
  | .tup [f, _] => fracB f
  | _ => false
def fr : D → Int × Int
  | .tup [.tup [.int n, .int m], _] => (n, m)
  | _ => (0, 1)
theorem ratB_inv {f : D} (h : ratB f = true) : ∃ n m, f = .tup [.int n, .int m] ∧ 0 < m ∧ ((Int.gcd n m : Int) == 1) = true := by
  match f, h with
  | .tup [.int n, .int m], h =>
    simp only [ratB, Bool.and_eq_true, decide_eq_true_eq] at h
    exact ⟨n, m, rfl, h.1, h.2⟩
theorem fracB_inv {f : D} (h : fracB f = true) : ∃ n m, f = .tup [.int n, .int m] ∧ 0 < m ∧ 0 < n ∧ ((Int.gcd n m : Int) == 1) = true := by
  match f, h with
  | .tup [.int n, .int m], h =>
    simp only [fracB, Bool.and_eq_true, decide_eq_true_eq] at h
    exact ⟨n, m, rfl, h.1, h.2.1, h.2.2⟩
theorem rat_frac {f : D} (h : ratB f = false) : fracB f = false := by
  cases e : fracB f
  · rfl
  · obtain ⟨n, m, rfl, h1, h2, h3⟩ := fracB_inv e
    simp [ratB, h1, h3] at h
theorem is_less_eq {n m : Int} (h : -2000 < n ∧ n < 2000) (h2 : -2000 < m ∧ m < 2000) (st : Store) : F_is_less [.tup [.int 0, .int 1], .tup [.int n, .int m]] st = some (.bl (decide (0 < n)), st) := by
  have f1 : Fits n = true := fits_ab (by omega) (by omega)
  have f2 : Fits m = true := fits_ab (by omega) (by omega)
  have z : (0 : Int) * m = 0 := Int.zero_mul _
  have o : n * 1 = n := Int.mul_one _
  unfold F_is_less B_is_less
  l_intsC
  rw [fin_same rfl]
theorem row_len {r : D} : (∀ f b, r ≠ .tup [f, b]) → rowB r = false := fun h => by
  match r with
  | .tup [f, b] => exact absurd rfl (h f b)
  | .tup [] => rfl
  | .tup [_] => rfl
  | .tup (_ :: _ :: _ :: _) => rfl
  | .non => rfl
  | .bl _ => rfl
  | .int _ => rfl
  | .str _ => rfl
  | .lst _ => rfl
  | .rol _ => rfl
  | .dic _ => rfl
  | .loc _ => rfl
  | .ptl _ => rfl
/-- one row, as the program looks at it -/
theorem rows_step {r : D} {st : Store} {a0 : Option D} (h : hd3 r) :
    (rowB r = true → L_has_rows_1 [a0, some r] st = some (.nx [a0, some r], st)) ∧ (rowB r = false → L_has_rows_1 [a0, some r] st = some (.rt (.bl false), st)) := by
  obtain ⟨h1, h2⟩ := h
  unfold L_has_rows_1 R_has_rows_1 c_ZERO c_MOST_NUMBER
  match r, h1, h2 with
  | .tup [], _, _ =>
    refine ⟨fun e => (by cases e), fun _ => ?_⟩
    have e : (((0 : Nat) : Int) == 2) = false := by decide
    clear h2
    l_intsC
  | .tup [x], _, _ =>
    refine ⟨fun e => (by cases e), fun _ => ?_⟩
    have e : (((0 + 1 : Nat) : Int) == 2) = false := by decide
    clear h2
    l_intsC
  | .tup (x :: y :: z :: r), _, _ =>
    refine ⟨fun e => (by cases e), fun _ => ?_⟩
    have e : (((r.length + 1 + 1 + 1 : Nat) : Int) == 2) = false := by simp; omega
    clear h2
    l_intsC
  | .tup [f, b], _, h2 =>
    have e : (((0 + 1 + 1 : Nat) : Int) == 2) = true := by decide
    have hf := h2 _ rfl f (by simp)
    have hr := is_ratio_eq hf st
    show (fracB f = true → _) ∧ (fracB f = false → _)
    clear h2
    cases c : ratB f
    · rw [c] at hr
      rw [rat_frac c]
      refine ⟨fun e => (by cases e), fun _ => ?_⟩
      clear hf
      l_intsC
    · rw [c] at hr
      obtain ⟨n, m, rfl, hm, hg⟩ := ratB_inv c
      have hn : -2000 < n ∧ n < 2000 := hf.2 _ rfl (.int n) (by simp)
      have hm2 : -2000 < m ∧ m < 2000 := hf.2 _ rfl (.int m) (by simp)
      have hl := is_less_eq hn hm2 st
      have b1 : ¬ (10000000000000000000000000000000000000000 : Int) ≤ n := by omega
      have b2 : ¬ (10000000000000000000000000000000000000000 : Int) ≤ m := by omega
      have fe : fracB (.tup [.int n, .int m]) = decide (0 < n) := by
        simp only [fracB, hm, hg, decide_true, Bool.true_and, Bool.and_true]
      rw [fe]
      clear hf c fe hn hm2 hg
      by_cases n0 : 0 < n
      · refine ⟨fun _ => ?_, fun e => by simp [n0] at e⟩
        l_intsC
      · refine ⟨fun e => by simp [n0] at e, fun _ => ?_⟩
        l_intsC
  | .non, _, _ => exact ⟨fun e => (by cases e), fun _ => by l_ints⟩
  | .bl _, _, _ => exact ⟨fun e => (by cases e), fun _ => by l_ints⟩
  | .int _, _, _ => exact ⟨fun e => (by cases e), fun _ => by l_ints⟩
  | .str _, _, _ => exact ⟨fun e => (by cases e), fun _ => by l_ints⟩
  | .lst _, _, _ => exact ⟨fun e => (by cases e), fun _ => by l_ints⟩
theorem rows_loop {st : Store} {a0 : Option D} : ∀ (rs : List D) (j : Option D), (∀ r ∈ rs, hd3 r) →
    (rs.all rowB = true → ∃ k, forL (gN 1) L_has_rows_1 rs [a0, j] st = some (.nx [a0, k], st)) ∧ (rs.all rowB = false → forL (gN 1) L_has_rows_1 rs [a0, j] st = some (.rt (.bl false), st))
  | [], j, _ => ⟨fun _ => ⟨j, rfl⟩, fun e => by cases e⟩
  | r :: rs, j, h => by
    obtain ⟨s1, s2⟩ := rows_step (st := st) (a0 := a0) (h r (List.mem_cons_self ..))
    obtain ⟨i1, i2⟩ := rows_loop (st := st) (a0 := a0) rs (some r) fun q hq => h q (List.mem_cons_of_mem _ hq)
    rw [forL_cons, List.all_cons]
    cases c : rowB r
    · have s2 := s2 c
      refine ⟨fun e => (by cases e), fun _ => ?_⟩
      clear i1 i2 s1
      l_intsC
    · have s1 := s1 c
      refine ⟨fun e => ?_, fun e => ?_⟩
      · obtain ⟨k, i1⟩ := i1 e
        refine ⟨k, ?_⟩
        clear i2 s2
        l_intsC
      · have i2 := i2 e
        clear i1 s2
        l_intsC
theorem pow_nn : ∀ k : Nat, (1 : Int) ≤ 4000 ^ k
  | 0 => by decide
  | k + 1 => by
    have := pow_nn k
    rw [Int.pow_succ]
    omega
theorem total_loop {st : Store} {a0 : Option D} : ∀ (fs : List (Int × Int)) (acc : Int × Int) (M : Int) (j : Option D), 1 ≤ M → Bd M acc → (∀ f ∈ fs, Bd 2000 f) → M * 4000 ^ fs.length < 10000000000000000000000000 →
    ∃ k, forL (gN 2) L_total_1 (fs.map eF) [a0, some (eF acc), j] st = some (.nx [a0, some (eF (fs.foldl fplus acc)), k], st)
  | [], acc, M, j, _, _, _, _ => ⟨j, rfl⟩
  | f :: fs, acc, M, j, h0, ha, hf, hM => by
    have hp := pow_nn fs.length
    have e4 : M * 4000 ^ (f :: fs).length = 4000 * M * 4000 ^ fs.length := by
      rw [List.length_cons, Int.pow_succ, Int.mul_comm 4000 M, Int.mul_assoc, Int.mul_comm (4000 ^ fs.length) 4000]
    have le : 4000 * M * 1 ≤ 4000 * M * 4000 ^ fs.length := Int.mul_le_mul_of_nonneg_left hp (by omega)
    have hb := hf f (List.mem_cons_self ..)
    have e := plus_big (a := acc) (b := f) st (M := M) (by omega) ha hb
    obtain ⟨k, ih⟩ := total_loop (st := st) (a0 := a0) fs (fplus acc f) (4000 * M) (some (eF f)) (by omega) (ha.plus hb).1 (fun q hq => hf q (List.mem_cons_of_mem _ hq)) (by omega)
    refine ⟨k, ?_⟩
    rw [List.map_cons, forL_cons, List.foldl_cons]
    clear hM e4 le
    unfold L_total_1 at ih ⊢
    l_intsC
theorem bd01 : Bd 1 (0, 1) := ⟨⟨by decide, by decide⟩, by decide, by decide⟩
theorem pow6 {n : Nat} (h : n ≤ 6) : (1 : Int) * 4000 ^ n < 10000000000000000000000000 := by
  rcases Nat.lt_or_ge n 1 with h1 | h1
  · have : n = 0 := by omega
    subst this; decide
  · obtain ⟨k, rfl⟩ : ∃ k, n = k + 1 := ⟨n - 1, by omega⟩
    match k, h with
    | 0, _ => decide
    | 1, _ => decide
    | 2, _ => decide
    | 3, _ => decide
    | 4, _ => decide
    | 5, _ => decide
theorem total_eq (fs : List (Int × Int)) (st : Store) (h : fs.length ≤ 6) (hf : ∀ f ∈ fs, Bd 2000 f) (hlo : True) : F_total [.lst (fs.map eF)] st = some (eF (fs.foldl fplus (0, 1)), st) := by
  obtain ⟨k, e⟩ := total_loop (st := st) (a0 := some (.lst (fs.map eF))) fs (0, 1) 1 none (by decide) bd01 hf (pow6 h)
  have z : eF (0, 1) = .tup [.int 0, .int 1] := rfl
  rw [z] at e
  unfold F_total B_total R_total_1 c_ZERO
  clear z
  l_intsC
  rw [fin_same rfl]
def sumB (rs : List D) : Bool := ((rs.map fr).foldl fplus (0, 1)).1 == 1 && ((rs.map fr).foldl fplus (0, 1)).2 == 1
def hasB : D → Bool
  | .tup rs => !rs.isEmpty && (rs.all rowB && sumB rs)
  | _ => false
theorem row_fr {r : D} (h : hd3 r) (hr : rowB r = true) : ∃ f b, r = .tup [f, b] ∧ f = eF (fr r) ∧ Bd 2000 (fr r) := by
  match r, hr with
  | .tup [f, b], hr =>
    have hr : fracB f = true := hr
    obtain ⟨n, m, rfl, hm, hn, hg⟩ := fracB_inv hr
    have h2 := h.2 _ rfl _ (List.mem_cons_self ..)
    have b1 : -2000 < n ∧ n < 2000 := h2.2 _ rfl (.int n) (by simp)
    have b2 : -2000 < m ∧ m < 2000 := h2.2 _ rfl (.int m) (by simp)
    exact ⟨_, b, rfl, rfl, ⟨by show 0 ≤ n; omega, by show n ≤ 2000; omega⟩, by show 0 < m; omega, by show m ≤ 2000; omega⟩
theorem heads_lc {st : Store} {a0 : Option D} : ∀ rs : List D, (∀ r ∈ rs, hd3 r) → rs.all rowB = true → lcL (gN 1) mYes E_has_rows_1 [a0, none] rs st = some ((rs.map fr).map eF, st)
  | [], _, _ => rfl
  | r :: rs, h, hr => by
    rw [List.all_cons, Bool.and_eq_true] at hr
    have ih := heads_lc (st := st) (a0 := a0) rs (fun q hq => h q (List.mem_cons_of_mem _ hq)) hr.2
    obtain ⟨f, b, e1, e2, _⟩ := row_fr (h r (List.mem_cons_self ..)) hr.1
    have u : E_has_rows_1 [a0, some r] st = some (eF (fr r), st) := by
      rw [← e2, e1]
      unfold E_has_rows_1
      l_ints
    rw [lcL_cons, List.map_cons, List.map_cons]
    clear hr e1 e2
    l_intsC
theorem has_rows_eq {L n : Nat} {d : D} (hL : L ≤ 6) (h : vok L n d) (st : Store) : F_has_rows [d] st = some (.bl (hasB d), st) := by
  have h1 := h.hd
  match n, d, h, h1 with
  | n + 1, .tup [], _, _ =>
    have e : (((0 : Nat) : Int) == 0) = true := rfl
    show _ = some (D.bl false, st)
    unfold F_has_rows B_has_rows
    clear hL
    l_intsC
    rw [fin_same rfl]
  | n + 1, .tup (r :: rs), h, _ =>
    have e : (((rs.length + 1 : Nat) : Int) == 0) = false := by simp; omega
    have hk : ∀ q ∈ r :: rs, hd3 q := fun q hq => (h.2 q hq).hd3
    obtain ⟨l1, l2⟩ := rows_loop (st := st) (a0 := some (.tup (r :: rs))) (r :: rs) none hk
    show _ = some (D.bl ((r :: rs).all rowB && sumB (r :: rs)), st)
    have hlen := h.1
    clear h
    cases c : (r :: rs).all rowB
    · have l2 := l2 c
      unfold F_has_rows B_has_rows R_has_rows_3
      clear l1 c hk hL
      l_intsC
      rw [fin_same rfl]
      rfl
    · obtain ⟨k, l1⟩ := l1 c
      have hc := heads_lc (st := st) (a0 := some (.tup (r :: rs))) (r :: rs) hk c
      have hlen2 : (r :: rs).length ≤ 1000000 := by omega
      have k1 := (kLc_eq (g1 := gN 1) (t := mYes) (m := E_has_rows_1) (env := [some (.tup (r :: rs)), none]) (ds := r :: rs) (st := st) hlen2).trans hc
      have ht := total_eq ((r :: rs).map fr) st (by rw [List.length_map]; omega) (fun f hf => by
        obtain ⟨q, hq, rfl⟩ := List.mem_map.mp hf
        obtain ⟨_, _, _, _, b⟩ := row_fr (hk q hq) (List.all_eq_true.mp c q hq)
        exact b) trivial
      have hs : sumB (r :: rs) = ((((r :: rs).map fr).foldl fplus (0, 1)).1 == 1 && (((r :: rs).map fr).foldl fplus (0, 1)).2 == 1) := rfl
      rw [hs]
      generalize (((r :: rs).map fr).foldl fplus (0, 1)) = tt at ht
      generalize ((r :: rs).map fr).map eF = fs at ht k1
      have ep := eq_pair tt.1 tt.2 1 1 st
      unfold eF at ht
      clear l2 c hk hlen hlen2 hc hs hL
      unfold F_has_rows B_has_rows R_has_rows_3 R_has_rows_2 c_ONE
      l_intsC
      rw [fin_same rfl]
      rfl
  | _, .non, _, _ => unfold F_has_rows B_has_rows; l_ints; rw [fin_same rfl]; rfl
  | _, .bl _, _, _ => unfold F_has_rows B_has_rows; l_ints; rw [fin_same rfl]; rfl
  | _, .int _, _, _ => unfold F_has_rows B_has_rows; l_ints; rw [fin_same rfl]; rfl
  | _, .str _, _, _ => unfold F_has_rows B_has_rows; l_ints; rw [fin_same rfl]; rfl
  | _, .lst _, _, _ => unfold F_has_rows B_has_rows; l_ints; rw [fin_same rfl]; rfl
end K30
end
section
set_option Elab.async false
set_option autoImplicit false
set_option linter.all false
set_option maxRecDepth 100000
set_option maxHeartbeats 2000000
namespace K30
open PySem L2 Mn
local macro_rules | `(tactic| l_ints) => `(tactic| simp only [bnd_some', ret1_some', sSeq_eq, kThen_nx, kThen_rt, kThen_bk, kThen_ct, sNil_eq, sAsg_eq, kAsg_eq, sDrop_eq, kDrop_eq, sRet_eq, kRet_eq, sRetN_eq, sBreak_eq, sCont_eq, sIf_eq, kIf_true, kIf_false, sTgt_eq, kTgt1_eq, kTgt2_eq, sPar_eq, kPar2_eq, sPar3_eq, kPar3_eq, sFor_eq, kFor_eq, sAug_eq, kAug_eq, kAug1_eq, mV_eq, kGot_eq, mC_eq, mOp_eq, kOp1_eq, kOp2_eq, mTB_eq, kB_eq, mAnd_eq, kAnd_true, kAnd_false, mOr_eq, kOr_true, kOr_false, mNot_eq, kNot_eq, mIte_eq, kIte_true, kIte_false, mAndV_eq, kAndV_true, kAndV_false, mOrV_eq, kOrV_true, kOrV_false, mNotV_eq, kNotV_eq, mNil_eq, mCons_eq, kCons1_eq, kCons2_eq, mTup_eq, kTup_eq, mLst_eq, kLst_eq, mFrz_eq, kFrz_eq, mMut_eq, kMut_eq, mCall_eq, mCB_eq, kCB_eq, mCBL_eq, kCBL_eq, mTr_eq, kTr_eq, mNeg_eq, kNeg_eq, mChain_eq, kChn1_eq, kChn2_eq, kChn_true, kChn_false, gN_eq, gsN_eq, gsC_eq, kGs_eq, gT_eq, gTp_eq, gSet_eq, kSet1_eq, kSet2_eq, kSetE_eq, setO_eq, setL_nat, setL_lit, setL_str, mMt_eq, kMt1_eq, kMt1'_eq, kMt2_eq, kMt2'_eq, kMt3_eq, fApp_eq, fPop_eq, kPop_eq, getLast_snoc, dropLast_snoc, fExt_eq, kExt_eq, oAdd_int, oAdd_str, oAdd_tup, oAdd_lst, oAdd_loc, kCat_eq, lstD_lst, lstD_loc, isLst_eq, seqD_tup, seqD_lst, seqD_rol, seqD_loc, dicD_dic, dicD_loc, isDic_eq, oSub_int, oMul_int, oDiv_int, oMod_int, oI_plus, oI_minus, oLt_int, oLe_int, oGt_int, oGe_int, oEq_int, oEq_str, oEq_bl, oNe_int, oNe_str, oNe_bl, oIs_non, oIsNot_non, isN_non, isN_int, isN_bl, isN_str, isN_tup, isN_lst, isN_loc, atI_lit, atI_natc, atI_neg1, ixO_tup, ixO_lst, ixO_dics, ixO_dici, ixO_locs, ixO_loci, ixL_lst, ixL_dics, ixL_dici, cLen_tup, cLen_lst, cLen_dic, cLen_loc, lenL_lst, lenL_dic, cInt_int, cInt_bl, cAbs_int, cTup_tup, cTup_lst, cTup_loc, tupL_eq, cList_eq, cBls_lst, blsA_eq, fAll_eq, fAny_eq, truD_lst, truD_tup, truD_bl, truD_int, truD_non, truD_loc, truL_lst, truL_dic, itD_tup, itD_lst, miSeq_eq, kIt_eq, miR1_eq, kR1_eq, miR2_eq, kR2_eq, mSl_eq, kSl1_eq, kSl2_eq, kSl3_eq, mNoP_eq, mPart_eq, kPart_eq, slD_tup, slD_lst, slD_rol, slD_loc, slA_eq, mIsi_eq, kIsi_eq, tyD_non, tyD_bl, tyD_int, tyD_str, tyD_tup, tyD_lst, isi_NoneType_tuple, isi_NoneType_list, isi_NoneType_int, isi_NoneType_str, isi_NoneType_bool, isi_NoneType_int_str, isi_bool_tuple, isi_bool_list, isi_bool_int, isi_bool_str, isi_bool_bool, isi_bool_int_str, isi_int_tuple, isi_int_list, isi_int_int, isi_int_str, isi_int_bool, isi_int_int_str, isi_str_tuple, isi_str_list, isi_str_int, isi_str_str, isi_str_bool, isi_str_int_str, isi_tuple_tuple, isi_tuple_list, isi_tuple_int, isi_tuple_str, isi_tuple_bool, isi_tuple_int_str, isi_list_tuple, isi_list_list, isi_list_int, isi_list_str, isi_list_bool, isi_list_int_str, mDicF_eq, kDicF_eq, mDicM_eq, kDicM_eq, dicA_eq, dicB_eq, mDic0_eq, mGet1_eq, kGet1_eq, kGet1a_eq, mGet2_eq, kGet2_eq, kGet2a_eq, kGet2b_eq, kGet3_str, kGet3_int, kForB_eq, kForS_nx, kForS_ct, kForS_bk, kForS_rt, kWh_true, kWh_false, kWhS_nx, kWhS_ct, kWhS_bk, kWhS_rt, mLc_eq, kLc_eq, kLc1_eq, kLc2_true, kLc2_false, kLc3_eq, kLc4_eq, mYes_eq, wipeE_nil, wipeE_cons, mFun_0, mFun_1, mFun_2, mFun_3, mFun_4, mFun_5, mFun_6, mFun_7, mFun_8, mFunL_0, mFunL_1, mFunL_2, mFunL_3, mFunL_4, mFunL_5, mFunL_6, mFunL_7, mFunL_8, endW_rt, endW_nx, mRev_eq, kRev_eq, miTxt_eq, kTxt_eq, oIsB_bl, oIsNotB_bl, oIn_eq, oNotIn_eq, kIn_eq, kNIn_eq, inO_sign, inA_eq, inO_tup, inO_lst, inO_loc, inL_lst, inL_dics, inL_dici, inO_dics, inO_dici, flatD_non, flatD_bl, flatD_int, flatD_str, Nat.reduceSub, Nat.reduceAdd, Nat.reduceLeDiff, Nat.reduceLT, Nat.reduceEqDiff, Int.reduceLT, Int.reduceLE, Int.reduceAdd, Int.reduceSub, Int.reduceNeg, Int.reduceMul, Int.reduceToNat, Int.reduceBEq, fits_lit, List.getElem?_cons_zero, List.getElem?_cons_succ, List.getElem?_nil, List.set_cons_zero, List.set_cons_succ, List.set_nil, List.length_cons, List.length_nil, List.length_set, List.length_map, List.length_append, List.set_set, List.replicate_succ, List.replicate_zero, List.isEmpty_nil, List.isEmpty_cons, List.nil_append, List.cons_append, List.append_assoc, Bool.not_true, Bool.not_false, decide_true, decide_false, if_true, if_false, Bool.false_eq_true, st_app, st_app0, st_set, st_set0, List.getLast?_nil, getLast_snoc, dropLast_snoc])
local macro_rules | `(tactic| l_intsC) => `(tactic| simp only [bnd_some', ret1_some', sSeq_eq, kThen_nx, kThen_rt, kThen_bk, kThen_ct, sNil_eq, sAsg_eq, kAsg_eq, sDrop_eq, kDrop_eq, sRet_eq, kRet_eq, sRetN_eq, sBreak_eq, sCont_eq, sIf_eq, kIf_true, kIf_false, sTgt_eq, kTgt1_eq, kTgt2_eq, sPar_eq, kPar2_eq, sPar3_eq, kPar3_eq, sFor_eq, kFor_eq, sAug_eq, kAug_eq, kAug1_eq, mV_eq, kGot_eq, mC_eq, mOp_eq, kOp1_eq, kOp2_eq, mTB_eq, kB_eq, mAnd_eq, kAnd_true, kAnd_false, mOr_eq, kOr_true, kOr_false, mNot_eq, kNot_eq, mIte_eq, kIte_true, kIte_false, mAndV_eq, kAndV_true, kAndV_false, mOrV_eq, kOrV_true, kOrV_false, mNotV_eq, kNotV_eq, mNil_eq, mCons_eq, kCons1_eq, kCons2_eq, mTup_eq, kTup_eq, mLst_eq, kLst_eq, mFrz_eq, kFrz_eq, mMut_eq, kMut_eq, mCall_eq, mCB_eq, kCB_eq, mCBL_eq, kCBL_eq, mTr_eq, kTr_eq, mNeg_eq, kNeg_eq, mChain_eq, kChn1_eq, kChn2_eq, kChn_true, kChn_false, gN_eq, gsN_eq, gsC_eq, kGs_eq, gT_eq, gTp_eq, gSet_eq, kSet1_eq, kSet2_eq, kSetE_eq, setO_eq, setL_nat, setL_lit, setL_str, mMt_eq, kMt1_eq, kMt1'_eq, kMt2_eq, kMt2'_eq, kMt3_eq, fApp_eq, fPop_eq, kPop_eq, getLast_snoc, dropLast_snoc, fExt_eq, kExt_eq, oAdd_int, oAdd_str, oAdd_tup, oAdd_lst, oAdd_loc, kCat_eq, lstD_lst, lstD_loc, isLst_eq, seqD_tup, seqD_lst, seqD_rol, seqD_loc, dicD_dic, dicD_loc, isDic_eq, oSub_int, oMul_int, oDiv_int, oMod_int, oI_plus, oI_minus, oLt_int, oLe_int, oGt_int, oGe_int, oEq_int, oEq_str, oEq_bl, oNe_int, oNe_str, oNe_bl, oIs_non, oIsNot_non, isN_non, isN_int, isN_bl, isN_str, isN_tup, isN_lst, isN_loc, atI_lit, atI_natc, atI_neg1, ixO_tup, ixO_lst, ixO_dics, ixO_dici, ixO_locs, ixO_loci, ixL_lst, ixL_dics, ixL_dici, cLen_tup, cLen_lst, cLen_dic, cLen_loc, lenL_lst, lenL_dic, cInt_int, cInt_bl, cAbs_int, cTup_tup, cTup_lst, cTup_loc, tupL_eq, cList_eq, cBls_lst, blsA_eq, fAll_eq, fAny_eq, truD_lst, truD_tup, truD_bl, truD_int, truD_non, truD_loc, truL_lst, truL_dic, itD_tup, itD_lst, miSeq_eq, kIt_eq, miR1_eq, kR1_eq, miR2_eq, kR2_eq, mSl_eq, kSl1_eq, kSl2_eq, kSl3_eq, mNoP_eq, mPart_eq, kPart_eq, slD_tup, slD_lst, slD_rol, slD_loc, slA_eq, mIsi_eq, kIsi_eq, tyD_non, tyD_bl, tyD_int, tyD_str, tyD_tup, tyD_lst, isi_NoneType_tuple, isi_NoneType_list, isi_NoneType_int, isi_NoneType_str, isi_NoneType_bool, isi_NoneType_int_str, isi_bool_tuple, isi_bool_list, isi_bool_int, isi_bool_str, isi_bool_bool, isi_bool_int_str, isi_int_tuple, isi_int_list, isi_int_int, isi_int_str, isi_int_bool, isi_int_int_str, isi_str_tuple, isi_str_list, isi_str_int, isi_str_str, isi_str_bool, isi_str_int_str, isi_tuple_tuple, isi_tuple_list, isi_tuple_int, isi_tuple_str, isi_tuple_bool, isi_tuple_int_str, isi_list_tuple, isi_list_list, isi_list_int, isi_list_str, isi_list_bool, isi_list_int_str, mDicF_eq, kDicF_eq, mDicM_eq, kDicM_eq, dicA_eq, dicB_eq, mDic0_eq, mGet1_eq, kGet1_eq, kGet1a_eq, mGet2_eq, kGet2_eq, kGet2a_eq, kGet2b_eq, kGet3_str, kGet3_int, kForB_eq, kForS_nx, kForS_ct, kForS_bk, kForS_rt, kWh_true, kWh_false, kWhS_nx, kWhS_ct, kWhS_bk, kWhS_rt, mLc_eq, kLc_eq, kLc1_eq, kLc2_true, kLc2_false, kLc3_eq, kLc4_eq, mYes_eq, wipeE_nil, wipeE_cons, mFun_0, mFun_1, mFun_2, mFun_3, mFun_4, mFun_5, mFun_6, mFun_7, mFun_8, mFunL_0, mFunL_1, mFunL_2, mFunL_3, mFunL_4, mFunL_5, mFunL_6, mFunL_7, mFunL_8, endW_rt, endW_nx, mRev_eq, kRev_eq, miTxt_eq, kTxt_eq, oIsB_bl, oIsNotB_bl, oIn_eq, oNotIn_eq, kIn_eq, kNIn_eq, inO_sign, inA_eq, inO_tup, inO_lst, inO_loc, inL_lst, inL_dics, inL_dici, inO_dics, inO_dici, flatD_non, flatD_bl, flatD_int, flatD_str, Nat.reduceSub, Nat.reduceAdd, Nat.reduceLeDiff, Nat.reduceLT, Nat.reduceEqDiff, Int.reduceLT, Int.reduceLE, Int.reduceAdd, Int.reduceSub, Int.reduceNeg, Int.reduceMul, Int.reduceToNat, Int.reduceBEq, fits_lit, List.getElem?_cons_zero, List.getElem?_cons_succ, List.getElem?_nil, List.set_cons_zero, List.set_cons_succ, List.set_nil, List.length_cons, List.length_nil, List.length_set, List.length_map, List.length_append, List.set_set, List.replicate_succ, List.replicate_zero, List.isEmpty_nil, List.isEmpty_cons, List.nil_append, List.cons_append, List.append_assoc, Bool.not_true, Bool.not_false, decide_true, decide_false, if_true, if_false, Bool.false_eq_true, st_app, st_app0, st_set, st_set0, List.getLast?_nil, getLast_snoc, dropLast_snoc, *])
def nmIn (nm : List Str) : D → Bool
  | .str x => decide (x ∈ nm)
  | _ => false
def sndD : D → D
  | .tup [_, b] => b
  | _ => .non
def kidsD : D → List D
  | .tup rs => rs.map sndD
  | _ => []
/-- a body's command: none where it is wrong, or the bodies behind it -/
def headB (nm : List Str) : D → Option (List D)
  | .tup (.str t :: r) =>
    if (("end" : Str) == t || ("stop" : Str) == t) = true then (match r with | [] => some [] | _ => none)
    else if (("tell" : Str) == t || ("call" : Str) == t) = true then (match r with | [x, b] => if (nameB x && !((t == ("call" : Str)) && !nmIn nm x)) = true then some [b] else none | _ => none)
    else if (t == ("draw" : Str)) = true then (match r with | [rs] => if hasB rs = true then some (kidsD rs) else none | _ => none)
    else none
  | _ => none
def bodyB (nm : List Str) : Nat → D → Bool
  | 0, _ => false
  | n + 1, d => match headB nm d with
    | none => false
    | some ks => ks.all (bodyB nm n)
theorem nameB_inv {x : D} (h : nameB x = true) : ∃ y, x = .str y := by
  cases x <;> first | exact ⟨_, rfl⟩ | cases h
theorem hasB_inv {d : D} (h : hasB d = true) : ∃ rs, d = .tup rs ∧ rs.isEmpty = false ∧ rs.all rowB = true ∧ sumB rs = true := by
  cases d <;> first | (cases h; done) | skip
  rename_i rs
  simp only [hasB, Bool.and_eq_true, Bool.not_eq_true'] at h
  exact ⟨rs, rfl, h.1, h.2.1, h.2.2⟩
theorem snd_lc {a0 a1 a2 a3 : Option D} {st : Store} : ∀ rs : List D, rs.all rowB = true → lcL (gN 4) mYes E_is_body_1 [a0, a1, a2, a3, none] rs st = some (rs.map sndD, st)
  | [], _ => rfl
  | r :: rs, h => by
    rw [List.all_cons, Bool.and_eq_true] at h
    have ih := snd_lc (a0 := a0) (a1 := a1) (a2 := a2) (a3 := a3) (st := st) rs h.2
    have u : E_is_body_1 [a0, a1, a2, a3, some r] st = some (sndD r, st) := by
      match r, h.1 with
      | .tup [f, b], _ =>
        show _ = some (b, st)
        unfold E_is_body_1
        l_ints
    rw [lcL_cons, List.map_cons]
    clear h
    l_intsC
theorem snoc_ne (W : List D) (b : D) : (W ++ [b]).isEmpty = false := by cases W <;> rfl
theorem flat2 (t : Str) (a b : Str) : inA (.str t) (some [.str a, .str b]) = some (a == t || b == t) := by
  rw [inA_eq rfl rfl]
  congr 1
  show ((a == t) || ((b == t) || false)) = _
  rw [Bool.or_false]
section
variable {nm : List Str} {st : Store} {ln : Nat} {ks : List (Key × D)} {a0 j3 j4 : Option D} {W : List D} {d : D} {L n : Nat}
theorem lens : (((0 : Nat) : Int) == 0) = true ∧ (((1 : Nat) : Int) == 0) = false ∧ (((2 : Nat) : Int) == 0) = false ∧ (((3 : Nat) : Int) == 0) = false ∧ (∀ k : Nat, (((k + 1 : Nat) : Int) == 0) = false) ∧
    (((1 : Nat) : Int) == 2) = false ∧ (((2 : Nat) : Int) == 2) = true ∧ (∀ k : Nat, (((k + 1 + 1 + 1 : Nat) : Int) == 2) = false) ∧
    (((1 : Nat) : Int) == 3) = false ∧ (((2 : Nat) : Int) == 3) = false ∧ (((3 : Nat) : Int) == 3) = true ∧ (∀ k : Nat, (((k + 1 + 1 + 1 + 1 : Nat) : Int) == 3) = false) ∧
    (((1 : Nat) : Int) == 1) = true ∧ (∀ k : Nat, (((k + 1 + 1 : Nat) : Int) == 1) = false) := by
  refine ⟨rfl, by decide, by decide, by decide, fun k => ?_, by decide, by decide, fun k => ?_, by decide, by decide, by decide, fun k => ?_, by decide, fun k => ?_⟩ <;> · simp; omega
theorem body_step (hL : L ≤ 6) (hl : ∀ g, (st ++ g)[ln]? = some (.dic ks)) (hk : ∀ x : Str, (lkD ks (.inr x)).isSome = nmIn nm (.str x)) (hW : W.length < 900000) (h : vok L n d) :
    (headB nm d = none → L_is_body_1 [a0, some (.loc ln), some (.loc st.length), j3, j4] (st ++ [.lst (W ++ [d])]) = some (.rt (.bl false), st ++ [.lst W])) ∧
    (∀ cs, headB nm d = some cs → L_is_body_1 [a0, some (.loc ln), some (.loc st.length), j3, j4] (st ++ [.lst (W ++ [d])]) = some (.nx [a0, some (.loc ln), some (.loc st.length), some d, j4], st ++ [.lst (W ++ cs)])) := by
  have w1 : W.length < 1000000 := by omega
  obtain ⟨z1, z2, z3, z4, z5, z6, z7, z8, z9, z10, z11, z12, z13, z14⟩ := lens
  unfold L_is_body_1 R_is_body_2 R_is_body_1
  match n, d, h with
  | _, .rol _, h => exact (h.hd : False).elim
  | _, .dic _, h => exact (h.hd : False).elim
  | _, .loc _, h => exact (h.hd : False).elim
  | _, .ptl _, h => exact (h.hd : False).elim
  | _, .non, _ => exact ⟨fun _ => by clear hk hl; l_intsC, fun cs e => by cases e⟩
  | _, .bl _, _ => exact ⟨fun _ => by clear hk hl; l_intsC, fun cs e => by cases e⟩
  | _, .int _, _ => exact ⟨fun _ => by clear hk hl; l_intsC, fun cs e => by cases e⟩
  | _, .str _, _ => exact ⟨fun _ => by clear hk hl; l_intsC, fun cs e => by cases e⟩
  | n + 1, .lst _, _ => exact ⟨fun _ => by clear hk hl; l_intsC, fun cs e => by cases e⟩
  | n + 1, .tup [], _ =>
    exact ⟨fun _ => by clear hk hl; l_intsC, fun cs e => by cases e⟩
  | n + 1, .tup (y :: r), h =>
    have hr : ∀ x ∈ r, vok L n x := fun x hx => h.2 x (List.mem_cons_of_mem _ hx)
    have hy : hd1 y := (h.2 y (List.mem_cons_self ..)).hd
    clear h
    cases y with
    | str t =>
      have i1 := flat2 t "end" "stop"
      have i2 := flat2 t "tell" "call"
      clear hy
      cases b1 : (("end" : Str) == t || ("stop" : Str) == t)
      · rw [b1] at i1
        cases b2 : (("tell" : Str) == t || ("call" : Str) == t)
        · rw [b2] at i2
          cases b3 : (t == ("draw" : Str))
          · have hh : headB nm (.tup (.str t :: r)) = none := by
              unfold headB
              simp only [b1, b2, b3, Bool.false_eq_true, if_false]
            rw [hh]
            refine ⟨fun _ => ?_, fun cs e => (by cases e)⟩
            clear hh b1 b2 hk hl hr
            l_intsC
          · match r, hr with
            | [], _ =>
              have hh : headB nm (.tup [.str t]) = none := by
                unfold headB
                simp only [b1, b2, b3, Bool.false_eq_true, if_false, if_true]
              rw [hh]
              refine ⟨fun _ => ?_, fun cs e => (by cases e)⟩
              clear hh b1 b2 hk hl hr
              l_intsC
            | x :: z :: r, _ =>
              have hh : headB nm (.tup (.str t :: x :: z :: r)) = none := by
                unfold headB
                simp only [b1, b2, b3, Bool.false_eq_true, if_false, if_true]
              rw [hh]
              refine ⟨fun _ => ?_, fun cs e => (by cases e)⟩
              clear hh b1 b2 hk hl hr
              l_intsC
            | [x], hr =>
              have hv := hr x (List.mem_singleton.mpr rfl)
              have hs := fun st => has_rows_eq hL hv st
              have hh : headB nm (.tup [.str t, x]) = if hasB x = true then some (kidsD x) else none := by
                unfold headB
                simp only [b1, b2, b3, Bool.false_eq_true, if_false, if_true]
              rw [hh]
              cases hx : hasB x
              · rw [hx] at hs
                refine ⟨fun _ => ?_, fun cs e => (by cases e)⟩
                clear hh b1 b2 hk hl hr hv
                l_intsC
              · rw [hx] at hs
                refine ⟨fun e => (by cases e), fun cs e => ?_⟩
                obtain ⟨rs, rfl, e1, e2, e3⟩ := hasB_inv hx
                have e : some (rs.map sndD) = some cs := e
                cases e
                have lc := fun st => snd_lc (a0 := a0) (a1 := some (.loc ln)) (a2 := some (.loc st.length)) (a3 := some (.tup [.str t, .tup rs])) (st := st ++ [.lst W]) rs e2
                have lc := lc st
                have rl : rs.length ≤ 6 := by
                  cases n with
                  | zero => exact (hv : False).elim
                  | succ n => exact Nat.le_trans hv.1 hL
                have rl2 : rs.length ≤ 1000000 := by omega
                have k1 := (kLc_eq (g1 := gN 4) (t := mYes) (m := E_is_body_1) (env := [a0, some (.loc ln), some (.loc st.length), some (.tup [.str t, .tup rs]), none]) (ds := rs) (st := st ++ [.lst W]) rl2).trans lc
                have k2 : W.length + rs.length ≤ 1000000 := by omega
                clear hh b1 b2 hk hl hr hv e1 e2 e3 hx lc rl rl2
                l_intsC
        · rw [b2] at i2
          match r, hr with
          | [], _ =>
            have hh : headB nm (.tup [.str t]) = none := by
              unfold headB
              simp only [b1, b2, Bool.false_eq_true, if_false, if_true]
            rw [hh]
            refine ⟨fun _ => ?_, fun cs e => (by cases e)⟩
            clear hh b1 b2 hk hl hr
            l_intsC
          | [x], _ =>
            have hh : headB nm (.tup [.str t, x]) = none := by
              unfold headB
              simp only [b1, b2, Bool.false_eq_true, if_false, if_true]
            rw [hh]
            refine ⟨fun _ => ?_, fun cs e => (by cases e)⟩
            clear hh b1 b2 hk hl hr
            l_intsC
          | x :: z :: w :: r, _ =>
            have hh : headB nm (.tup (.str t :: x :: z :: w :: r)) = none := by
              unfold headB
              simp only [b1, b2, Bool.false_eq_true, if_false, if_true]
            rw [hh]
            refine ⟨fun _ => ?_, fun cs e => (by cases e)⟩
            clear hh b1 b2 hk hl hr
            l_intsC
          | [x, b], hr =>
            have hv := (hr x (by simp)).hd
            have hs := fun st => name_eq hv st
            have hh : headB nm (.tup [.str t, x, b]) = if (nameB x && !((t == ("call" : Str)) && !nmIn nm x)) = true then some [b] else none := by
              unfold headB
              simp only [b1, b2, Bool.false_eq_true, if_false, if_true]
            rw [hh]
            clear hh b1 b2 hr
            cases hx : nameB x
            · rw [hx] at hs
              refine ⟨fun _ => ?_, fun cs e => (by cases e)⟩
              clear hv hk hl
              l_intsC
            · rw [hx] at hs
              obtain ⟨y, rfl⟩ := nameB_inv hx
              have hk := hk y
              cases c : (t == ("call" : Str))
              · refine ⟨fun e => (by cases e), fun cs e => ?_⟩
                have e : some [b] = some cs := e
                cases e
                clear hv hk hx hl
                l_intsC
              · cases ni : nmIn nm (.str y)
                · rw [ni] at hk
                  refine ⟨fun _ => ?_, fun cs e => (by cases e)⟩
                  clear hv hx
                  l_intsC
                · rw [ni] at hk
                  refine ⟨fun e => (by cases e), fun cs e => ?_⟩
                  have e : some [b] = some cs := e
                  cases e
                  clear hv hx
                  l_intsC
      · rw [b1] at i1
        match r, hr with
        | [], _ =>
          have hh : headB nm (.tup [.str t]) = some [] := by
            unfold headB
            simp only [b1, if_true]
          rw [hh]
          refine ⟨fun e => (by cases e), fun cs e => ?_⟩
          cases e
          have z : W ++ [] = W := List.append_nil W
          clear hh b1 hk hl hr
          l_intsC
        | x :: r, _ =>
          have hh : headB nm (.tup (.str t :: x :: r)) = none := by
            unfold headB
            simp only [b1, if_true]
          rw [hh]
          refine ⟨fun _ => ?_, fun cs e => (by cases e)⟩
          clear hh b1 hk hl hr
          l_intsC
    | _ =>
      first
      | exact (hy : False).elim
      | exact ⟨fun _ => by clear hk hl hr hy; l_intsC, fun cs e => by cases e⟩
end
end K30
end
section
set_option Elab.async false
set_option autoImplicit false
set_option linter.all false
set_option maxRecDepth 100000
set_option maxHeartbeats 2000000
namespace K30
open PySem L2 Mn
local macro_rules | `(tactic| l_ints) => `(tactic| simp only [bnd_some', ret1_some', sSeq_eq, kThen_nx, kThen_rt, kThen_bk, kThen_ct, sNil_eq, sAsg_eq, kAsg_eq, sDrop_eq, kDrop_eq, sRet_eq, kRet_eq, sRetN_eq, sBreak_eq, sCont_eq, sIf_eq, kIf_true, kIf_false, sTgt_eq, kTgt1_eq, kTgt2_eq, sPar_eq, kPar2_eq, sPar3_eq, kPar3_eq, sFor_eq, kFor_eq, sAug_eq, kAug_eq, kAug1_eq, mV_eq, kGot_eq, mC_eq, mOp_eq, kOp1_eq, kOp2_eq, mTB_eq, kB_eq, mAnd_eq, kAnd_true, kAnd_false, mOr_eq, kOr_true, kOr_false, mNot_eq, kNot_eq, mIte_eq, kIte_true, kIte_false, mAndV_eq, kAndV_true, kAndV_false, mOrV_eq, kOrV_true, kOrV_false, mNotV_eq, kNotV_eq, mNil_eq, mCons_eq, kCons1_eq, kCons2_eq, mTup_eq, kTup_eq, mLst_eq, kLst_eq, mFrz_eq, kFrz_eq, mMut_eq, kMut_eq, mCall_eq, mCB_eq, kCB_eq, mCBL_eq, kCBL_eq, mTr_eq, kTr_eq, mNeg_eq, kNeg_eq, mChain_eq, kChn1_eq, kChn2_eq, kChn_true, kChn_false, gN_eq, gsN_eq, gsC_eq, kGs_eq, gT_eq, gTp_eq, gSet_eq, kSet1_eq, kSet2_eq, kSetE_eq, setO_eq, setL_nat, setL_lit, setL_str, mMt_eq, kMt1_eq, kMt1'_eq, kMt2_eq, kMt2'_eq, kMt3_eq, fApp_eq, fPop_eq, kPop_eq, getLast_snoc, dropLast_snoc, fExt_eq, kExt_eq, oAdd_int, oAdd_str, oAdd_tup, oAdd_lst, oAdd_loc, kCat_eq, lstD_lst, lstD_loc, isLst_eq, seqD_tup, seqD_lst, seqD_rol, seqD_loc, dicD_dic, dicD_loc, isDic_eq, oSub_int, oMul_int, oDiv_int, oMod_int, oI_plus, oI_minus, oLt_int, oLe_int, oGt_int, oGe_int, oEq_int, oEq_str, oEq_bl, oNe_int, oNe_str, oNe_bl, oIs_non, oIsNot_non, isN_non, isN_int, isN_bl, isN_str, isN_tup, isN_lst, isN_loc, atI_lit, atI_natc, atI_neg1, ixO_tup, ixO_lst, ixO_dics, ixO_dici, ixO_locs, ixO_loci, ixL_lst, ixL_dics, ixL_dici, cLen_tup, cLen_lst, cLen_dic, cLen_loc, lenL_lst, lenL_dic, cInt_int, cInt_bl, cAbs_int, cTup_tup, cTup_lst, cTup_loc, tupL_eq, cList_eq, cBls_lst, blsA_eq, fAll_eq, fAny_eq, truD_lst, truD_tup, truD_bl, truD_int, truD_non, truD_loc, truL_lst, truL_dic, itD_tup, itD_lst, miSeq_eq, kIt_eq, miR1_eq, kR1_eq, miR2_eq, kR2_eq, mSl_eq, kSl1_eq, kSl2_eq, kSl3_eq, mNoP_eq, mPart_eq, kPart_eq, slD_tup, slD_lst, slD_rol, slD_loc, slA_eq, mIsi_eq, kIsi_eq, tyD_non, tyD_bl, tyD_int, tyD_str, tyD_tup, tyD_lst, isi_NoneType_tuple, isi_NoneType_list, isi_NoneType_int, isi_NoneType_str, isi_NoneType_bool, isi_NoneType_int_str, isi_bool_tuple, isi_bool_list, isi_bool_int, isi_bool_str, isi_bool_bool, isi_bool_int_str, isi_int_tuple, isi_int_list, isi_int_int, isi_int_str, isi_int_bool, isi_int_int_str, isi_str_tuple, isi_str_list, isi_str_int, isi_str_str, isi_str_bool, isi_str_int_str, isi_tuple_tuple, isi_tuple_list, isi_tuple_int, isi_tuple_str, isi_tuple_bool, isi_tuple_int_str, isi_list_tuple, isi_list_list, isi_list_int, isi_list_str, isi_list_bool, isi_list_int_str, mDicF_eq, kDicF_eq, mDicM_eq, kDicM_eq, dicA_eq, dicB_eq, mDic0_eq, mGet1_eq, kGet1_eq, kGet1a_eq, mGet2_eq, kGet2_eq, kGet2a_eq, kGet2b_eq, kGet3_str, kGet3_int, kForB_eq, kForS_nx, kForS_ct, kForS_bk, kForS_rt, kWh_true, kWh_false, kWhS_nx, kWhS_ct, kWhS_bk, kWhS_rt, mLc_eq, kLc_eq, kLc1_eq, kLc2_true, kLc2_false, kLc3_eq, kLc4_eq, mYes_eq, wipeE_nil, wipeE_cons, mFun_0, mFun_1, mFun_2, mFun_3, mFun_4, mFun_5, mFun_6, mFun_7, mFun_8, mFunL_0, mFunL_1, mFunL_2, mFunL_3, mFunL_4, mFunL_5, mFunL_6, mFunL_7, mFunL_8, endW_rt, endW_nx, mRev_eq, kRev_eq, miTxt_eq, kTxt_eq, oIsB_bl, oIsNotB_bl, oIn_eq, oNotIn_eq, kIn_eq, kNIn_eq, inO_sign, inA_eq, inO_tup, inO_lst, inO_loc, inL_lst, inL_dics, inL_dici, inO_dics, inO_dici, flatD_non, flatD_bl, flatD_int, flatD_str, Nat.reduceSub, Nat.reduceAdd, Nat.reduceLeDiff, Nat.reduceLT, Nat.reduceEqDiff, Int.reduceLT, Int.reduceLE, Int.reduceAdd, Int.reduceSub, Int.reduceNeg, Int.reduceMul, Int.reduceToNat, Int.reduceBEq, fits_lit, List.getElem?_cons_zero, List.getElem?_cons_succ, List.getElem?_nil, List.set_cons_zero, List.set_cons_succ, List.set_nil, List.length_cons, List.length_nil, List.length_set, List.length_map, List.length_append, List.set_set, List.replicate_succ, List.replicate_zero, List.isEmpty_nil, List.isEmpty_cons, List.nil_append, List.cons_append, List.append_assoc, Bool.not_true, Bool.not_false, decide_true, decide_false, if_true, if_false, Bool.false_eq_true, st_app, st_app0, st_set, st_set0, List.getLast?_nil, getLast_snoc, dropLast_snoc])
local macro_rules | `(tactic| l_intsC) => `(tactic| simp only [bnd_some', ret1_some', sSeq_eq, kThen_nx, kThen_rt, kThen_bk, kThen_ct, sNil_eq, sAsg_eq, kAsg_eq, sDrop_eq, kDrop_eq, sRet_eq, kRet_eq, sRetN_eq, sBreak_eq, sCont_eq, sIf_eq, kIf_true, kIf_false, sTgt_eq, kTgt1_eq, kTgt2_eq, sPar_eq, kPar2_eq, sPar3_eq, kPar3_eq, sFor_eq, kFor_eq, sAug_eq, kAug_eq, kAug1_eq, mV_eq, kGot_eq, mC_eq, mOp_eq, kOp1_eq, kOp2_eq, mTB_eq, kB_eq, mAnd_eq, kAnd_true, kAnd_false, mOr_eq, kOr_true, kOr_false, mNot_eq, kNot_eq, mIte_eq, kIte_true, kIte_false, mAndV_eq, kAndV_true, kAndV_false, mOrV_eq, kOrV_true, kOrV_false, mNotV_eq, kNotV_eq, mNil_eq, mCons_eq, kCons1_eq, kCons2_eq, mTup_eq, kTup_eq, mLst_eq, kLst_eq, mFrz_eq, kFrz_eq, mMut_eq, kMut_eq, mCall_eq, mCB_eq, kCB_eq, mCBL_eq, kCBL_eq, mTr_eq, kTr_eq, mNeg_eq, kNeg_eq, mChain_eq, kChn1_eq, kChn2_eq, kChn_true, kChn_false, gN_eq, gsN_eq, gsC_eq, kGs_eq, gT_eq, gTp_eq, gSet_eq, kSet1_eq, kSet2_eq, kSetE_eq, setO_eq, setL_nat, setL_lit, setL_str, mMt_eq, kMt1_eq, kMt1'_eq, kMt2_eq, kMt2'_eq, kMt3_eq, fApp_eq, fPop_eq, kPop_eq, getLast_snoc, dropLast_snoc, fExt_eq, kExt_eq, oAdd_int, oAdd_str, oAdd_tup, oAdd_lst, oAdd_loc, kCat_eq, lstD_lst, lstD_loc, isLst_eq, seqD_tup, seqD_lst, seqD_rol, seqD_loc, dicD_dic, dicD_loc, isDic_eq, oSub_int, oMul_int, oDiv_int, oMod_int, oI_plus, oI_minus, oLt_int, oLe_int, oGt_int, oGe_int, oEq_int, oEq_str, oEq_bl, oNe_int, oNe_str, oNe_bl, oIs_non, oIsNot_non, isN_non, isN_int, isN_bl, isN_str, isN_tup, isN_lst, isN_loc, atI_lit, atI_natc, atI_neg1, ixO_tup, ixO_lst, ixO_dics, ixO_dici, ixO_locs, ixO_loci, ixL_lst, ixL_dics, ixL_dici, cLen_tup, cLen_lst, cLen_dic, cLen_loc, lenL_lst, lenL_dic, cInt_int, cInt_bl, cAbs_int, cTup_tup, cTup_lst, cTup_loc, tupL_eq, cList_eq, cBls_lst, blsA_eq, fAll_eq, fAny_eq, truD_lst, truD_tup, truD_bl, truD_int, truD_non, truD_loc, truL_lst, truL_dic, itD_tup, itD_lst, miSeq_eq, kIt_eq, miR1_eq, kR1_eq, miR2_eq, kR2_eq, mSl_eq, kSl1_eq, kSl2_eq, kSl3_eq, mNoP_eq, mPart_eq, kPart_eq, slD_tup, slD_lst, slD_rol, slD_loc, slA_eq, mIsi_eq, kIsi_eq, tyD_non, tyD_bl, tyD_int, tyD_str, tyD_tup, tyD_lst, isi_NoneType_tuple, isi_NoneType_list, isi_NoneType_int, isi_NoneType_str, isi_NoneType_bool, isi_NoneType_int_str, isi_bool_tuple, isi_bool_list, isi_bool_int, isi_bool_str, isi_bool_bool, isi_bool_int_str, isi_int_tuple, isi_int_list, isi_int_int, isi_int_str, isi_int_bool, isi_int_int_str, isi_str_tuple, isi_str_list, isi_str_int, isi_str_str, isi_str_bool, isi_str_int_str, isi_tuple_tuple, isi_tuple_list, isi_tuple_int, isi_tuple_str, isi_tuple_bool, isi_tuple_int_str, isi_list_tuple, isi_list_list, isi_list_int, isi_list_str, isi_list_bool, isi_list_int_str, mDicF_eq, kDicF_eq, mDicM_eq, kDicM_eq, dicA_eq, dicB_eq, mDic0_eq, mGet1_eq, kGet1_eq, kGet1a_eq, mGet2_eq, kGet2_eq, kGet2a_eq, kGet2b_eq, kGet3_str, kGet3_int, kForB_eq, kForS_nx, kForS_ct, kForS_bk, kForS_rt, kWh_true, kWh_false, kWhS_nx, kWhS_ct, kWhS_bk, kWhS_rt, mLc_eq, kLc_eq, kLc1_eq, kLc2_true, kLc2_false, kLc3_eq, kLc4_eq, mYes_eq, wipeE_nil, wipeE_cons, mFun_0, mFun_1, mFun_2, mFun_3, mFun_4, mFun_5, mFun_6, mFun_7, mFun_8, mFunL_0, mFunL_1, mFunL_2, mFunL_3, mFunL_4, mFunL_5, mFunL_6, mFunL_7, mFunL_8, endW_rt, endW_nx, mRev_eq, kRev_eq, miTxt_eq, kTxt_eq, oIsB_bl, oIsNotB_bl, oIn_eq, oNotIn_eq, kIn_eq, kNIn_eq, inO_sign, inA_eq, inO_tup, inO_lst, inO_loc, inL_lst, inL_dics, inL_dici, inO_dics, inO_dici, flatD_non, flatD_bl, flatD_int, flatD_str, Nat.reduceSub, Nat.reduceAdd, Nat.reduceLeDiff, Nat.reduceLT, Nat.reduceEqDiff, Int.reduceLT, Int.reduceLE, Int.reduceAdd, Int.reduceSub, Int.reduceNeg, Int.reduceMul, Int.reduceToNat, Int.reduceBEq, fits_lit, List.getElem?_cons_zero, List.getElem?_cons_succ, List.getElem?_nil, List.set_cons_zero, List.set_cons_succ, List.set_nil, List.length_cons, List.length_nil, List.length_set, List.length_map, List.length_append, List.set_set, List.replicate_succ, List.replicate_zero, List.isEmpty_nil, List.isEmpty_cons, List.nil_append, List.cons_append, List.append_assoc, Bool.not_true, Bool.not_false, decide_true, decide_false, if_true, if_false, Bool.false_eq_true, st_app, st_app0, st_set, st_set0, List.getLast?_nil, getLast_snoc, dropLast_snoc, *])
section
variable {nm : List Str} {st : Store} {ln : Nat} {ks : List (Key × D)} {a0 j3 j4 : Option D} {W : List D} {d : D} {L n : Nat}
/-- the loop over the stack W ends with b -/
def GoB (a0 : Option D) (ln : Nat) (st : Store) (W : List D) (b : Bool) : Prop := ∀ j3 j4 : Option D, ∃ m, if b = true then ∃ env, whN T_is_body_1 L_is_body_1 m [a0, some (.loc ln), some (.loc st.length), j3, j4] (st ++ [.lst W]) = some (.nx env, st ++ [.lst []])
  else ∃ W', whN T_is_body_1 L_is_body_1 m [a0, some (.loc ln), some (.loc st.length), j3, j4] (st ++ [.lst W]) = some (.rt (.bl false), st ++ [.lst W'])
theorem tb_nil : T_is_body_1 [a0, some (.loc ln), some (.loc st.length), j3, j4] (st ++ [.lst []]) = some (false, st ++ [.lst []]) := by
  unfold T_is_body_1
  l_ints
theorem tb_snoc : T_is_body_1 [a0, some (.loc ln), some (.loc st.length), j3, j4] (st ++ [.lst (W ++ [d])]) = some (true, st ++ [.lst (W ++ [d])]) := by
  have ne := snoc_ne W d
  unfold T_is_body_1
  l_intsC
theorem GoB.nil : GoB a0 ln st [] true := fun j3 j4 => ⟨1, by
  rw [if_pos rfl]
  refine ⟨[a0, some (.loc ln), some (.loc st.length), j3, j4], ?_⟩
  rw [whN_succ, tb_nil]
  l_ints⟩
theorem GoB.step {cs : List D} {b : Bool} (h : ∀ j3 j4, L_is_body_1 [a0, some (.loc ln), some (.loc st.length), j3, j4] (st ++ [.lst (W ++ [d])]) = some (.nx [a0, some (.loc ln), some (.loc st.length), some d, j4], st ++ [.lst (W ++ cs)])) (g : GoB a0 ln st (W ++ cs) b) : GoB a0 ln st (W ++ [d]) b := fun j3 j4 => by
  obtain ⟨m, hm⟩ := g (some d) j4
  refine ⟨m + 1, ?_⟩
  have h := h j3 j4
  cases b
  · rw [if_neg Bool.false_ne_true] at hm ⊢
    obtain ⟨W', e⟩ := hm
    refine ⟨W', ?_⟩
    rw [whN_succ, tb_snoc]
    l_intsC
  · rw [if_pos rfl] at hm ⊢
    obtain ⟨env, e⟩ := hm
    refine ⟨env, ?_⟩
    rw [whN_succ, tb_snoc]
    l_intsC
theorem GoB.bad (h : ∀ j3 j4, L_is_body_1 [a0, some (.loc ln), some (.loc st.length), j3, j4] (st ++ [.lst (W ++ [d])]) = some (.rt (.bl false), st ++ [.lst W])) : GoB a0 ln st (W ++ [d]) false := fun j3 j4 => by
  have h := h j3 j4
  refine ⟨1, ?_⟩
  rw [if_neg Bool.false_ne_true]
  refine ⟨W, ?_⟩
  rw [whN_succ, tb_snoc]
  l_intsC
def cmdB (nm : List Str) (t : Str) (r : List D) : Option (List D) :=
  if (("end" : Str) == t || ("stop" : Str) == t) = true then (match r with | [] => some [] | _ => none)
  else if (("tell" : Str) == t || ("call" : Str) == t) = true then (match r with | [x, b] => if (nameB x && !((t == ("call" : Str)) && !nmIn nm x)) = true then some [b] else none | _ => none)
  else if (t == ("draw" : Str)) = true then (match r with | [rs] => if hasB rs = true then some (kidsD rs) else none | _ => none)
  else none
theorem headB_cmd (t : Str) (r : List D) : headB nm (.tup (.str t :: r)) = cmdB nm t r := rfl
theorem headB_inv {cs : List D} (hh : headB nm d = some cs) : ∃ t r, d = .tup (.str t :: r) ∧ cmdB nm t r = some cs := by
  cases d with
  | tup ds =>
    cases ds with
    | nil => cases hh
    | cons x r => cases x <;> first | exact ⟨_, _, rfl, hh⟩ | cases hh
  | _ => cases hh
theorem kids_vok {cs : List D} (h : vok L (n + 1) d) (hh : headB nm d = some cs) : (cs.length ≤ max L 1 ∧ ∀ x ∈ cs, ∃ k, k ≤ n ∧ vok L k x) := by
  obtain ⟨t, r, rfl, hc⟩ := headB_inv hh
  clear hh
  have hh := hc
  clear hc
  unfold cmdB at hh
  by_cases b1 : (("end" : Str) == t || ("stop" : Str) == t) = true
  · rw [if_pos b1] at hh
    match r, hh with
    | [], hh =>
      cases hh
      exact ⟨by simp, fun x hx => (List.not_mem_nil hx).elim⟩
  · rw [if_neg b1] at hh
    by_cases b2 : (("tell" : Str) == t || ("call" : Str) == t) = true
    · rw [if_pos b2] at hh
      match r, hh, h with
      | [x, b], hh, h =>
        simp only at hh
        by_cases b3 : (nameB x && !((t == ("call" : Str)) && !nmIn nm x)) = true
        · rw [if_pos b3] at hh
          cases hh
          refine ⟨by simp; omega, fun y hy => ?_⟩
          rw [List.mem_singleton] at hy
          subst hy
          exact ⟨n, Nat.le_refl _, h.2 _ (by simp)⟩
        · rw [if_neg b3] at hh
          cases hh
    · rw [if_neg b2] at hh
      by_cases b4 : (t == ("draw" : Str)) = true
      · rw [if_pos b4] at hh
        match r, hh, h with
        | [rs], hh, h =>
          simp only at hh
          by_cases b5 : hasB rs = true
          · rw [if_pos b5] at hh
            cases hh
            obtain ⟨rows, rfl, _, e2, _⟩ := hasB_inv b5
            have hv := h.2 (.tup rows) (by simp)
            match n, hv with
            | n + 1, hv =>
              refine ⟨by show (rows.map sndD).length ≤ _; rw [List.length_map]; have := hv.1; omega, fun x hx => ?_⟩
              obtain ⟨q, hq, rfl⟩ := List.mem_map.mp hx
              have hq2 := hv.2 q hq
              have hr := List.all_eq_true.mp e2 q hq
              match q, hr, hq2 with
              | .tup [f, b], _, hq2 =>
                match n, hq2 with
                | n + 1, hq2 => exact ⟨n, by omega, hq2.2 b (by simp)⟩
          · rw [if_neg b5] at hh
            cases hh
      · rw [if_neg b4] at hh
        cases hh
end
section
variable {nm : List Str} {L : Nat}
theorem vok_mono : ∀ {n m : Nat} {d : D}, n ≤ m → vok L n d → vok L m d
  | 0, m, d, _, h => by
    cases d <;> first
      | exact (h : False).elim
      | (cases m <;> exact h)
  | n + 1, 0, d, hm, _ => absurd hm (by omega)
  | n + 1, m + 1, .tup ds, hm, h => ⟨h.1, fun x hx => vok_mono (Nat.le_of_succ_le_succ hm) (h.2 x hx)⟩
  | n + 1, m + 1, .lst ds, hm, h => ⟨h.1, fun x hx => vok_mono (Nat.le_of_succ_le_succ hm) (h.2 x hx)⟩
  | n + 1, m + 1, .non, hm, h => trivial
  | n + 1, m + 1, .bl _, hm, h => trivial
  | n + 1, m + 1, .int _, hm, h => h
  | n + 1, m + 1, .str _, hm, h => h
  | n + 1, m + 1, .rol _, hm, h => (h : False).elim
  | n + 1, m + 1, .dic _, hm, h => (h : False).elim
  | n + 1, m + 1, .loc _, hm, h => (h : False).elim
  | n + 1, m + 1, .ptl _, hm, h => (h : False).elim
end
section
variable {nm : List Str} {st : Store} {ln : Nat} {ks : List (Key × D)} {a0 : Option D} {L : Nat}
theorem body_run (hL : L ≤ 6) (hl : ∀ g, (st ++ g)[ln]? = some (.dic ks)) (hk : ∀ x : Str, (lkD ks (.inr x)).isSome = nmIn nm (.str x)) :
    ∀ (n : Nat) (d : D) (W : List D), vok L n d → W.length + 7 * n < 800000 →
      (bodyB nm n d = true → ∀ b, GoB a0 ln st W b → GoB a0 ln st (W ++ [d]) b) ∧ (bodyB nm n d = false → GoB a0 ln st (W ++ [d]) false)
  | 0, d, W, h, hW => by
    refine ⟨fun e => (by cases e), fun _ => GoB.bad fun j3 j4 => (body_step hL hl hk (by omega) h).1 ?_⟩
    cases d <;> first | rfl | exact (h : False).elim
  | n + 1, d, W, h, hW => by
    have hs := fun j3 j4 => body_step (a0 := a0) (j3 := j3) (j4 := j4) (W := W) hL hl hk (by omega) h
    cases hh : headB nm d with
    | none =>
      have e : bodyB nm (n + 1) d = false := by simp only [bodyB, hh]
      rw [e]
      exact ⟨fun e => (by cases e), fun _ => GoB.bad fun j3 j4 => (hs j3 j4).1 hh⟩
    | some cs =>
      have e : bodyB nm (n + 1) d = cs.all (bodyB nm n) := by simp only [bodyB, hh]
      obtain ⟨kl, kv⟩ := kids_vok h hh
      have kl : cs.length ≤ 7 := by omega
      have kv : ∀ x ∈ cs, vok L n x := fun x hx => by
        obtain ⟨k, hk, hv⟩ := kv x hx
        exact vok_mono hk hv
      rw [e]
      have all : ∀ (m : Nat) (cs : List D), cs.length = m → m ≤ 7 → (∀ x ∈ cs, vok L n x) → (cs.all (bodyB nm n) = true → ∀ b, GoB a0 ln st W b → GoB a0 ln st (W ++ cs) b) ∧ (cs.all (bodyB nm n) = false → GoB a0 ln st (W ++ cs) false) := by
        intro m
        induction m with
        | zero =>
          intro cs hm _ _
          have : cs = [] := List.length_eq_zero_iff.mp hm
          subst this
          exact ⟨fun _ b g => by rw [List.append_nil]; exact g, fun e => by cases e⟩
        | succ m ih =>
          intro cs hm h7 hv
          rcases List.eq_nil_or_concat cs with rfl | ⟨cs', c, rfl⟩
          · cases hm
          · rw [List.concat_eq_append] at hm hv ⊢
            rw [List.length_append, List.length_singleton] at hm
            obtain ⟨i1, i2⟩ := ih cs' (by omega) (by omega) fun x hx => hv x (by simp [hx])
            obtain ⟨r1, r2⟩ := body_run hL hl hk n c (W ++ cs') (hv c (by simp)) (by rw [List.length_append]; omega)
            rw [List.all_append, ← List.append_assoc]
            have e1 : [c].all (bodyB nm n) = bodyB nm n c := by simp
            rw [e1]
            cases q : bodyB nm n c
            · refine ⟨fun e => ?_, fun _ => r2 q⟩
              rw [Bool.and_false] at e
              cases e
            · rw [Bool.and_true]
              exact ⟨fun e b g => r1 q b (i1 e b g), fun e => r1 q false (i2 e)⟩
      obtain ⟨a1, a2⟩ := all cs.length cs rfl kl kv
      exact ⟨fun e b g => GoB.step (fun j3 j4 => (hs j3 j4).2 cs hh) (a1 e b g), fun e => GoB.step (fun j3 j4 => (hs j3 j4).2 cs hh) (a2 e)⟩
theorem is_body_eq {n : Nat} {d : D} (hL : L ≤ 6) (hn : n ≤ 1000) (hl : ∀ g, (st ++ g)[ln]? = some (.dic ks)) (hk : ∀ x : Str, (lkD ks (.inr x)).isSome = nmIn nm (.str x)) (h : vok L n d) :
    F_is_body [d, .loc ln] st = some (.bl (bodyB nm n d), st) := by
  obtain ⟨r1, r2⟩ := body_run (a0 := some d) hL hl hk n d [] h (by simp; omega)
  unfold F_is_body B_is_body R_is_body_3
  cases e : bodyB nm n d
  · obtain ⟨m, hm⟩ := r2 e none none
    rw [if_neg Bool.false_ne_true] at hm
    obtain ⟨W', hm⟩ := hm
    have hm := sWhile_of hm
    simp only [List.nil_append] at hm
    clear r1 r2 e hl hk
    l_intsC
    rw [fin_app rfl]
  · obtain ⟨m, hm⟩ := r1 e true GoB.nil none none
    rw [if_pos rfl] at hm
    obtain ⟨env, hm⟩ := hm
    have hm := sWhile_of hm
    simp only [List.nil_append] at hm
    clear r1 r2 e hl hk
    l_intsC
    rw [fin_app rfl]
end
end K30
end
section
set_option Elab.async false
set_option autoImplicit false
set_option linter.all false
set_option maxRecDepth 100000
set_option maxHeartbeats 2000000
namespace K30
open PySem L2 Mn
local macro_rules | `(tactic| l_ints) => `(tactic| simp only [bnd_some', ret1_some', sSeq_eq, kThen_nx, kThen_rt, kThen_bk, kThen_ct, sNil_eq, sAsg_eq, kAsg_eq, sDrop_eq, kDrop_eq, sRet_eq, kRet_eq, sRetN_eq, sBreak_eq, sCont_eq, sIf_eq, kIf_true, kIf_false, sTgt_eq, kTgt1_eq, kTgt2_eq, sPar_eq, kPar2_eq, sPar3_eq, kPar3_eq, sFor_eq, kFor_eq, sAug_eq, kAug_eq, kAug1_eq, mV_eq, kGot_eq, mC_eq, mOp_eq, kOp1_eq, kOp2_eq, mTB_eq, kB_eq, mAnd_eq, kAnd_true, kAnd_false, mOr_eq, kOr_true, kOr_false, mNot_eq, kNot_eq, mIte_eq, kIte_true, kIte_false, mAndV_eq, kAndV_true, kAndV_false, mOrV_eq, kOrV_true, kOrV_false, mNotV_eq, kNotV_eq, mNil_eq, mCons_eq, kCons1_eq, kCons2_eq, mTup_eq, kTup_eq, mLst_eq, kLst_eq, mFrz_eq, kFrz_eq, mMut_eq, kMut_eq, mCall_eq, mCB_eq, kCB_eq, mCBL_eq, kCBL_eq, mTr_eq, kTr_eq, mNeg_eq, kNeg_eq, mChain_eq, kChn1_eq, kChn2_eq, kChn_true, kChn_false, gN_eq, gsN_eq, gsC_eq, kGs_eq, gT_eq, gTp_eq, gSet_eq, kSet1_eq, kSet2_eq, kSetE_eq, setO_eq, setL_nat, setL_lit, setL_str, mMt_eq, kMt1_eq, kMt1'_eq, kMt2_eq, kMt2'_eq, kMt3_eq, fApp_eq, fPop_eq, kPop_eq, getLast_snoc, dropLast_snoc, fExt_eq, kExt_eq, oAdd_int, oAdd_str, oAdd_tup, oAdd_lst, oAdd_loc, kCat_eq, lstD_lst, lstD_loc, isLst_eq, seqD_tup, seqD_lst, seqD_rol, seqD_loc, dicD_dic, dicD_loc, isDic_eq, oSub_int, oMul_int, oDiv_int, oMod_int, oI_plus, oI_minus, oLt_int, oLe_int, oGt_int, oGe_int, oEq_int, oEq_str, oEq_bl, oNe_int, oNe_str, oNe_bl, oIs_non, oIsNot_non, isN_non, isN_int, isN_bl, isN_str, isN_tup, isN_lst, isN_loc, atI_lit, atI_natc, atI_neg1, ixO_tup, ixO_lst, ixO_dics, ixO_dici, ixO_locs, ixO_loci, ixL_lst, ixL_dics, ixL_dici, cLen_tup, cLen_lst, cLen_dic, cLen_loc, lenL_lst, lenL_dic, cInt_int, cInt_bl, cAbs_int, cTup_tup, cTup_lst, cTup_loc, tupL_eq, cList_eq, cBls_lst, blsA_eq, fAll_eq, fAny_eq, truD_lst, truD_tup, truD_bl, truD_int, truD_non, truD_loc, truL_lst, truL_dic, itD_tup, itD_lst, miSeq_eq, kIt_eq, miR1_eq, kR1_eq, miR2_eq, kR2_eq, mSl_eq, kSl1_eq, kSl2_eq, kSl3_eq, mNoP_eq, mPart_eq, kPart_eq, slD_tup, slD_lst, slD_rol, slD_loc, slA_eq, mIsi_eq, kIsi_eq, tyD_non, tyD_bl, tyD_int, tyD_str, tyD_tup, tyD_lst, isi_NoneType_tuple, isi_NoneType_list, isi_NoneType_int, isi_NoneType_str, isi_NoneType_bool, isi_NoneType_int_str, isi_bool_tuple, isi_bool_list, isi_bool_int, isi_bool_str, isi_bool_bool, isi_bool_int_str, isi_int_tuple, isi_int_list, isi_int_int, isi_int_str, isi_int_bool, isi_int_int_str, isi_str_tuple, isi_str_list, isi_str_int, isi_str_str, isi_str_bool, isi_str_int_str, isi_tuple_tuple, isi_tuple_list, isi_tuple_int, isi_tuple_str, isi_tuple_bool, isi_tuple_int_str, isi_list_tuple, isi_list_list, isi_list_int, isi_list_str, isi_list_bool, isi_list_int_str, mDicF_eq, kDicF_eq, mDicM_eq, kDicM_eq, dicA_eq, dicB_eq, mDic0_eq, mGet1_eq, kGet1_eq, kGet1a_eq, mGet2_eq, kGet2_eq, kGet2a_eq, kGet2b_eq, kGet3_str, kGet3_int, kForB_eq, kForS_nx, kForS_ct, kForS_bk, kForS_rt, kWh_true, kWh_false, kWhS_nx, kWhS_ct, kWhS_bk, kWhS_rt, mLc_eq, kLc_eq, kLc1_eq, kLc2_true, kLc2_false, kLc3_eq, kLc4_eq, mYes_eq, wipeE_nil, wipeE_cons, mFun_0, mFun_1, mFun_2, mFun_3, mFun_4, mFun_5, mFun_6, mFun_7, mFun_8, mFunL_0, mFunL_1, mFunL_2, mFunL_3, mFunL_4, mFunL_5, mFunL_6, mFunL_7, mFunL_8, endW_rt, endW_nx, mRev_eq, kRev_eq, miTxt_eq, kTxt_eq, oIsB_bl, oIsNotB_bl, oIn_eq, oNotIn_eq, kIn_eq, kNIn_eq, inO_sign, inA_eq, inO_tup, inO_lst, inO_loc, inL_lst, inL_dics, inL_dici, inO_dics, inO_dici, flatD_non, flatD_bl, flatD_int, flatD_str, Nat.reduceSub, Nat.reduceAdd, Nat.reduceLeDiff, Nat.reduceLT, Nat.reduceEqDiff, Int.reduceLT, Int.reduceLE, Int.reduceAdd, Int.reduceSub, Int.reduceNeg, Int.reduceMul, Int.reduceToNat, Int.reduceBEq, fits_lit, List.getElem?_cons_zero, List.getElem?_cons_succ, List.getElem?_nil, List.set_cons_zero, List.set_cons_succ, List.set_nil, List.length_cons, List.length_nil, List.length_set, List.length_map, List.length_append, List.set_set, List.replicate_succ, List.replicate_zero, List.isEmpty_nil, List.isEmpty_cons, List.nil_append, List.cons_append, List.append_assoc, Bool.not_true, Bool.not_false, decide_true, decide_false, if_true, if_false, Bool.false_eq_true, st_app, st_app0, st_set, st_set0, List.getLast?_nil, getLast_snoc, dropLast_snoc])
local macro_rules | `(tactic| l_intsC) => `(tactic| simp only [bnd_some', ret1_some', sSeq_eq, kThen_nx, kThen_rt, kThen_bk, kThen_ct, sNil_eq, sAsg_eq, kAsg_eq, sDrop_eq, kDrop_eq, sRet_eq, kRet_eq, sRetN_eq, sBreak_eq, sCont_eq, sIf_eq, kIf_true, kIf_false, sTgt_eq, kTgt1_eq, kTgt2_eq, sPar_eq, kPar2_eq, sPar3_eq, kPar3_eq, sFor_eq, kFor_eq, sAug_eq, kAug_eq, kAug1_eq, mV_eq, kGot_eq, mC_eq, mOp_eq, kOp1_eq, kOp2_eq, mTB_eq, kB_eq, mAnd_eq, kAnd_true, kAnd_false, mOr_eq, kOr_true, kOr_false, mNot_eq, kNot_eq, mIte_eq, kIte_true, kIte_false, mAndV_eq, kAndV_true, kAndV_false, mOrV_eq, kOrV_true, kOrV_false, mNotV_eq, kNotV_eq, mNil_eq, mCons_eq, kCons1_eq, kCons2_eq, mTup_eq, kTup_eq, mLst_eq, kLst_eq, mFrz_eq, kFrz_eq, mMut_eq, kMut_eq, mCall_eq, mCB_eq, kCB_eq, mCBL_eq, kCBL_eq, mTr_eq, kTr_eq, mNeg_eq, kNeg_eq, mChain_eq, kChn1_eq, kChn2_eq, kChn_true, kChn_false, gN_eq, gsN_eq, gsC_eq, kGs_eq, gT_eq, gTp_eq, gSet_eq, kSet1_eq, kSet2_eq, kSetE_eq, setO_eq, setL_nat, setL_lit, setL_str, mMt_eq, kMt1_eq, kMt1'_eq, kMt2_eq, kMt2'_eq, kMt3_eq, fApp_eq, fPop_eq, kPop_eq, getLast_snoc, dropLast_snoc, fExt_eq, kExt_eq, oAdd_int, oAdd_str, oAdd_tup, oAdd_lst, oAdd_loc, kCat_eq, lstD_lst, lstD_loc, isLst_eq, seqD_tup, seqD_lst, seqD_rol, seqD_loc, dicD_dic, dicD_loc, isDic_eq, oSub_int, oMul_int, oDiv_int, oMod_int, oI_plus, oI_minus, oLt_int, oLe_int, oGt_int, oGe_int, oEq_int, oEq_str, oEq_bl, oNe_int, oNe_str, oNe_bl, oIs_non, oIsNot_non, isN_non, isN_int, isN_bl, isN_str, isN_tup, isN_lst, isN_loc, atI_lit, atI_natc, atI_neg1, ixO_tup, ixO_lst, ixO_dics, ixO_dici, ixO_locs, ixO_loci, ixL_lst, ixL_dics, ixL_dici, cLen_tup, cLen_lst, cLen_dic, cLen_loc, lenL_lst, lenL_dic, cInt_int, cInt_bl, cAbs_int, cTup_tup, cTup_lst, cTup_loc, tupL_eq, cList_eq, cBls_lst, blsA_eq, fAll_eq, fAny_eq, truD_lst, truD_tup, truD_bl, truD_int, truD_non, truD_loc, truL_lst, truL_dic, itD_tup, itD_lst, miSeq_eq, kIt_eq, miR1_eq, kR1_eq, miR2_eq, kR2_eq, mSl_eq, kSl1_eq, kSl2_eq, kSl3_eq, mNoP_eq, mPart_eq, kPart_eq, slD_tup, slD_lst, slD_rol, slD_loc, slA_eq, mIsi_eq, kIsi_eq, tyD_non, tyD_bl, tyD_int, tyD_str, tyD_tup, tyD_lst, isi_NoneType_tuple, isi_NoneType_list, isi_NoneType_int, isi_NoneType_str, isi_NoneType_bool, isi_NoneType_int_str, isi_bool_tuple, isi_bool_list, isi_bool_int, isi_bool_str, isi_bool_bool, isi_bool_int_str, isi_int_tuple, isi_int_list, isi_int_int, isi_int_str, isi_int_bool, isi_int_int_str, isi_str_tuple, isi_str_list, isi_str_int, isi_str_str, isi_str_bool, isi_str_int_str, isi_tuple_tuple, isi_tuple_list, isi_tuple_int, isi_tuple_str, isi_tuple_bool, isi_tuple_int_str, isi_list_tuple, isi_list_list, isi_list_int, isi_list_str, isi_list_bool, isi_list_int_str, mDicF_eq, kDicF_eq, mDicM_eq, kDicM_eq, dicA_eq, dicB_eq, mDic0_eq, mGet1_eq, kGet1_eq, kGet1a_eq, mGet2_eq, kGet2_eq, kGet2a_eq, kGet2b_eq, kGet3_str, kGet3_int, kForB_eq, kForS_nx, kForS_ct, kForS_bk, kForS_rt, kWh_true, kWh_false, kWhS_nx, kWhS_ct, kWhS_bk, kWhS_rt, mLc_eq, kLc_eq, kLc1_eq, kLc2_true, kLc2_false, kLc3_eq, kLc4_eq, mYes_eq, wipeE_nil, wipeE_cons, mFun_0, mFun_1, mFun_2, mFun_3, mFun_4, mFun_5, mFun_6, mFun_7, mFun_8, mFunL_0, mFunL_1, mFunL_2, mFunL_3, mFunL_4, mFunL_5, mFunL_6, mFunL_7, mFunL_8, endW_rt, endW_nx, mRev_eq, kRev_eq, miTxt_eq, kTxt_eq, oIsB_bl, oIsNotB_bl, oIn_eq, oNotIn_eq, kIn_eq, kNIn_eq, inO_sign, inA_eq, inO_tup, inO_lst, inO_loc, inL_lst, inL_dics, inL_dici, inO_dics, inO_dici, flatD_non, flatD_bl, flatD_int, flatD_str, Nat.reduceSub, Nat.reduceAdd, Nat.reduceLeDiff, Nat.reduceLT, Nat.reduceEqDiff, Int.reduceLT, Int.reduceLE, Int.reduceAdd, Int.reduceSub, Int.reduceNeg, Int.reduceMul, Int.reduceToNat, Int.reduceBEq, fits_lit, List.getElem?_cons_zero, List.getElem?_cons_succ, List.getElem?_nil, List.set_cons_zero, List.set_cons_succ, List.set_nil, List.length_cons, List.length_nil, List.length_set, List.length_map, List.length_append, List.set_set, List.replicate_succ, List.replicate_zero, List.isEmpty_nil, List.isEmpty_cons, List.nil_append, List.cons_append, List.append_assoc, Bool.not_true, Bool.not_false, decide_true, decide_false, if_true, if_false, Bool.false_eq_true, st_app, st_app0, st_set, st_set0, List.getLast?_nil, getLast_snoc, dropLast_snoc, *])
theorem bcomm (a b : Str) : (a == b) = (b == a) := by
  cases e : (a == b) <;> cases q : (b == a)
  · rfl
  · have := eq_of_beq q
    subst this
    rw [e] at q
    cases q
  · have := eq_of_beq e
    subst this
    rw [e] at q
    cases q
  · rfl
theorem len02 : (((0 : Nat) : Int) == 2) = false := by decide
section
variable {nm : List Str} {st : Store} {ln : Nat} {L : Nat}
def rowAll (nm : List Str) (n : Nat) (r : D) : Bool := rowB r && bodyB nm n (sndD r)
theorem lrow_step {n : Nat} {F : Fn} {r : D} {acc : Int × Int} {M : Int} {a0 : Option D} (h : hd3 r) (ih : ∀ f b, r = .tup [f, b] → F [b, .loc ln] st = some (.bl (bodyB nm n b), st)) (hM : M < 10000000000000000000000000) (ha : Bd M acc) :
    (rowAll nm n r = true → L__law_is_body_1 n F [a0, some (.loc ln), some (eF acc), some r] st = some (.nx [a0, some (.loc ln), some (eF (fplus acc (fr r))), some r], st)) ∧
    (rowAll nm n r = false → L__law_is_body_1 n F [a0, some (.loc ln), some (eF acc), some r] st = some (.rt (.bl false), st)) := by
  obtain ⟨z1, z2, z3, z4, z5, z6, z7, z8, z9, z10, z11, z12, z13, z14⟩ := lens
  have h0 := h
  have z0 := len02
  obtain ⟨h1, h2⟩ := h
  have hq := fun b e3 => lplus_big (a := acc) (b := b) st hM ha e3
  clear hM ha
  unfold L__law_is_body_1 R__law_is_body_2
  match r, h1, h2, ih, h0 with
  | .tup [], _, _, _, _ => exact ⟨fun e => (by cases e), fun _ => by clear h2 h0 ih hq; l_intsC⟩
  | .tup [x], _, _, _, _ => exact ⟨fun e => (by cases e), fun _ => by clear h2 h0 ih hq; l_intsC⟩
  | .tup (x :: y :: z :: r), _, _, _, _ => exact ⟨fun e => (by cases e), fun _ => by clear h2 h0 ih hq; l_intsC⟩
  | .tup [f, b], _, h2, ih, h0 =>
    have hf := law_is_fraction_eq (h2 _ rfl f (by simp)) st
    have hi := ih f b rfl
    show ((fracB f && bodyB nm n b) = true → _) ∧ ((fracB f && bodyB nm n b) = false → _)
    cases c : fracB f
    · rw [c] at hf
      refine ⟨fun e => (by cases e), fun _ => ?_⟩
      clear h0 h2 hi ih hq
      l_intsC
    · rw [c] at hf
      cases c2 : bodyB nm n b
      · rw [c2] at hi
        refine ⟨fun e => (by cases e), fun _ => ?_⟩
        clear h0 h2 ih hq
        l_intsC
      · rw [c2] at hi
        refine ⟨fun _ => ?_, fun e => (by cases e)⟩
        obtain ⟨f', b', e1, e2, e3⟩ := row_fr h0 c
        cases e1
        have hp := hq _ e3
        rw [← e2] at hp
        clear h0 h2 ih e2 e3 c hq
        l_intsC
  | .non, _, _, _, _ => exact ⟨fun e => (by cases e), fun _ => by clear h2 h0 ih; l_ints⟩
  | .bl _, _, _, _, _ => exact ⟨fun e => (by cases e), fun _ => by clear h2 h0 ih; l_ints⟩
  | .int _, _, _, _, _ => exact ⟨fun e => (by cases e), fun _ => by clear h2 h0 ih; l_ints⟩
  | .str _, _, _, _, _ => exact ⟨fun e => (by cases e), fun _ => by clear h2 h0 ih; l_ints⟩
  | .lst _, _, _, _, _ => exact ⟨fun e => (by cases e), fun _ => by clear h2 h0 ih; l_ints⟩
theorem lrow_loop {n : Nat} {F : Fn} {a0 : Option D} : ∀ (rs : List D) (acc : Int × Int) (M : Int) (j : Option D), (∀ r ∈ rs, hd3 r) → (∀ r ∈ rs, ∀ f b, r = .tup [f, b] → F [b, .loc ln] st = some (.bl (bodyB nm n b), st)) → 1 ≤ M → Bd M acc → M * 4000 ^ rs.length < 10000000000000000000000000 →
    (rs.all (rowAll nm n) = true → ∃ k, forL (gN 3) (L__law_is_body_1 n F) rs [a0, some (.loc ln), some (eF acc), j] st = some (.nx [a0, some (.loc ln), some (eF ((rs.map fr).foldl fplus acc)), k], st)) ∧
    (rs.all (rowAll nm n) = false → forL (gN 3) (L__law_is_body_1 n F) rs [a0, some (.loc ln), some (eF acc), j] st = some (.rt (.bl false), st))
  | [], acc, M, j, _, _, _, _, _ => ⟨fun _ => ⟨j, rfl⟩, fun e => (by cases e)⟩
  | r :: rs, acc, M, j, h, ih, h0, ha, hM => by
    have hp := pow_nn rs.length
    have e4 : M * 4000 ^ (r :: rs).length = 4000 * M * 4000 ^ rs.length := by
      rw [List.length_cons, Int.pow_succ, Int.mul_comm 4000 M, Int.mul_assoc, Int.mul_comm (4000 ^ rs.length) 4000]
    have le : 4000 * M * 1 ≤ 4000 * M * 4000 ^ rs.length := Int.mul_le_mul_of_nonneg_left hp (by omega)
    have hr := h r (List.mem_cons_self ..)
    obtain ⟨s1, s2⟩ := lrow_step (a0 := a0) hr (ih r (List.mem_cons_self ..)) (M := M) (by omega) ha
    rw [List.all_cons, forL_cons]
    cases c : rowAll nm n r
    · have s2 := s2 c
      refine ⟨fun e => (by cases e), fun _ => ?_⟩
      clear s1 hM e4 le ih h ha hp hr
      l_intsC
    · have s1 := s1 c
      have rb : rowB r = true := by
        simp only [rowAll, Bool.and_eq_true] at c
        exact c.1
      obtain ⟨f, b, q1, q2, e3⟩ := row_fr hr rb
      clear q1 q2
      obtain ⟨i1, i2⟩ := lrow_loop (n := n) (F := F) (a0 := a0) rs (fplus acc (fr r)) (4000 * M) (some r) (fun q hq => h q (List.mem_cons_of_mem _ hq)) (fun q hq => ih q (List.mem_cons_of_mem _ hq)) (by omega) (ha.plus e3).1 (by omega)
      refine ⟨fun e => ?_, fun e => ?_⟩
      · obtain ⟨k, i1⟩ := i1 e
        refine ⟨k, ?_⟩
        rw [List.map_cons, List.foldl_cons]
        clear i2 s2 hM e4 le ih h ha hp hr e3 rb c
        l_intsC
      · have i2 := i2 e
        clear i1 s2 hM e4 le ih h ha hp hr e3 rb c
        l_intsC
theorem flatN (x : Str) (nm : List Str) : inA (.str x) (some (nm.map .str)) = some (nmIn nm (.str x)) := by
  rw [inA_eq rfl (by rw [List.all_map]; exact List.all_eq_true.mpr fun _ _ => rfl)]
  congr 1
  show (nm.map D.str).any (fun y => eqF y (.str x)) = decide (x ∈ nm)
  rw [List.any_map, Bool.eq_iff_iff]
  simp only [List.any_eq_true, decide_eq_true_eq, Function.comp]
  constructor
  · rintro ⟨y, hy, e⟩
    have e : (y == x) = true := e
    have := eq_of_beq e
    subst this
    exact hy
  · intro h
    exact ⟨x, h, by show (x == x) = true; simp⟩
theorem law_flat {n k : Nat} {d : D} (h : hd1 d) (ht : ∀ ds, d ≠ .tup ds) : F__law_is_body (k + 1) [d, .loc ln] st = some (.bl false, st) := by
  show mFun 4 2 (B__law_is_body k (F__law_is_body k)) _ _ = _
  unfold B__law_is_body
  cases d <;> first
    | exact (h : False).elim
    | exact absurd rfl (ht _)
    | (l_ints; rw [fin_same rfl])
theorem bodyB_cmd (n : Nat) (t : Str) (r : List D) : bodyB nm (n + 1) (.tup (.str t :: r)) = (match cmdB nm t r with | none => false | some cs => cs.all (bodyB nm n)) := rfl
theorem kids_all0 {n : Nat} : ∀ rs : List D, rs.all rowB = true → (rs.map sndD).all (bodyB nm n) = rs.all (rowAll nm n)
  | [], _ => rfl
  | r :: rs, h => by
    rw [List.all_cons, Bool.and_eq_true] at h
    rw [List.map_cons, List.all_cons, List.all_cons, kids_all0 rs h.2]
    congr 1
    simp [rowAll, h.1]
theorem kids_all {n : Nat} {rs : List D} (h : hasB (.tup rs) = true) : ((kidsD (.tup rs)).all (bodyB nm n)) = rs.all (rowAll nm n) := by
  obtain ⟨rs', e, _, e2, _⟩ := hasB_inv h
  cases e
  exact kids_all0 rs e2
theorem row_all_row {n : Nat} : ∀ rs : List D, rs.all (rowAll nm n) = true → rs.all rowB = true
  | [], _ => rfl
  | r :: rs, h => by
    rw [List.all_cons, Bool.and_eq_true] at h
    rw [List.all_cons, row_all_row rs h.2]
    have := h.1
    simp only [rowAll, Bool.and_eq_true] at this
    rw [this.1]
    rfl
def tellB (nm : List Str) (t : Str) (r : List D) : Option (List D) :=
  match r with | [x, b] => if (nameB x && !((t == ("call" : Str)) && !nmIn nm x)) = true then some [b] else none | _ => none
def drawB (r : List D) : Option (List D) :=
  match r with | [rs] => if hasB rs = true then some (kidsD rs) else none | _ => none
theorem cmd_rest {t : Str} {r : List D} (h : ¬ (("end" : Str) == t || ("stop" : Str) == t) = true) : cmdB nm t r = if (("tell" : Str) == t || ("call" : Str) == t) = true then tellB nm t r else if (t == ("draw" : Str)) = true then drawB r else none := by
  unfold cmdB
  rw [if_neg h]
  rfl
theorem draw_res {n : Nat} {q : D} {rs : List D} : (match drawB [.tup (q :: rs)] with | none => false | some cs => cs.all (bodyB nm n)) = ((q :: rs).all (rowAll nm n) && sumB (q :: rs)) := by
  show (match (if hasB (.tup (q :: rs)) = true then some (kidsD (.tup (q :: rs))) else none : Option (List D)) with | none => false | some cs => cs.all (bodyB nm n)) = _
  by_cases h : hasB (.tup (q :: rs)) = true
  · rw [if_pos h]
    show (kidsD (.tup (q :: rs))).all (bodyB nm n) = _
    rw [kids_all h]
    obtain ⟨rs', e, _, _, e3⟩ := hasB_inv h
    cases e
    rw [e3, Bool.and_true]
  · rw [if_neg h]
    show false = _
    cases c : (q :: rs).all (rowAll nm n)
    · rfl
    · have r := row_all_row _ c
      cases c2 : sumB (q :: rs)
      · rfl
      · exact absurd (show hasB (.tup (q :: rs)) = true by show (true && ((q :: rs).all rowB && sumB (q :: rs))) = true; rw [r, c2]; rfl) h
theorem law_body_eq (hL : L ≤ 6) (hl : st[ln]? = some (.lst (nm.map .str))) : ∀ (n k : Nat) (d : D), n < k → vok L n d → F__law_is_body k [d, .loc ln] st = some (.bl (bodyB nm n d), st)
  | _, 0, _, h, _ => absurd h (by omega)
  | 0, k + 1, d, _, h => by
    have ht : ∀ ds, d ≠ .tup ds := fun ds e => by subst e; exact h
    exact law_flat (n := 0) h.hd ht
  | n + 1, k + 1, .non, _, h => law_flat (n := 0) h.hd (fun ds e => by cases e)
  | n + 1, k + 1, .bl _, _, h => law_flat (n := 0) h.hd (fun ds e => by cases e)
  | n + 1, k + 1, .int _, _, h => law_flat (n := 0) h.hd (fun ds e => by cases e)
  | n + 1, k + 1, .str _, _, h => law_flat (n := 0) h.hd (fun ds e => by cases e)
  | n + 1, k + 1, .lst _, _, h => law_flat (n := 0) h.hd (fun ds e => by cases e)
  | n + 1, k + 1, .rol _, _, h => (h : False).elim
  | n + 1, k + 1, .dic _, _, h => (h : False).elim
  | n + 1, k + 1, .loc _, _, h => (h : False).elim
  | n + 1, k + 1, .ptl _, _, h => (h : False).elim
  | n + 1, k + 1, .tup [], _, h => by
    show mFun 4 2 (B__law_is_body k (F__law_is_body k)) _ _ = some (D.bl false, st)
    unfold B__law_is_body
    clear hl
    l_ints
    rw [fin_same rfl]
  | n + 1, k + 1, .tup (y :: r), hk, h => by
    obtain ⟨z1, z2, z3, z4, z5, z6, z7, z8, z9, z10, z11, z12, z13, z14⟩ := lens
    have ih : ∀ x, vok L n x → F__law_is_body k [x, .loc ln] st = some (.bl (bodyB nm n x), st) := fun x hx => law_body_eq hL hl n k x (by omega) hx
    have hr : ∀ x ∈ r, vok L n x := fun x hx => h.2 x (List.mem_cons_of_mem _ hx)
    have hy : hd1 y := (h.2 y (List.mem_cons_self ..)).hd
    have hA := fun x => flatN x nm
    clear h
    show mFun 4 2 (B__law_is_body k (F__law_is_body k)) _ _ = _
    unfold B__law_is_body R__law_is_body_7 R__law_is_body_6 R__law_is_body_5
    cases y with
    | str t =>
      rw [bodyB_cmd]
      have c1 := bcomm t "end"
      have c2 := bcomm t "stop"
      have c3 := bcomm t "tell"
      have c4 := bcomm t "call"
      clear hy
      by_cases b1 : (("end" : Str) == t || ("stop" : Str) == t) = true
      · have hres2 : (match cmdB nm t r with | none => false | some cs => cs.all (bodyB nm n)) = (((r.length + 1 : Nat) : Int) == (1 : Int)) := by
          unfold cmdB
          rw [if_pos b1]
          cases r with
          | nil => rfl
          | cons x r => exact (z14 r.length).symm
        rw [hres2]
        clear hres2 ih hr hA
        cases q1 : (("end" : Str) == t)
        · rw [q1] at c1 b1
          have q2 : (("stop" : Str) == t) = true := by simpa using b1
          rw [q2] at c2
          clear b1 c3 c4 z5
          l_intsC
          rw [fin_same rfl]
        · rw [q1] at c1
          clear b1 c3 c4 z5
          l_intsC
          rw [fin_same rfl]
      · have b1' : ((("end" : Str) == t) = false ∧ (("stop" : Str) == t) = false) := by simpa using b1
        rw [b1'.1] at c1
        rw [b1'.2] at c2
        rw [cmd_rest b1]
        clear b1 b1'
        by_cases b2 : (("tell" : Str) == t || ("call" : Str) == t) = true
        · rw [if_pos b2]
          have tq : ∀ (x b : D), r = [x, b] → (match tellB nm t r with | none => false | some cs => cs.all (bodyB nm n)) = (nameB x && !((t == ("call" : Str)) && !nmIn nm x) && bodyB nm n b) := fun x b e => by
            subst e
            show (match (if (nameB x && !((t == ("call" : Str)) && !nmIn nm x)) = true then some [b] else none : Option (List D)) with | none => false | some cs => cs.all (bodyB nm n)) = _
            cases (nameB x && !((t == ("call" : Str)) && !nmIn nm x)) <;> simp
          have T : ((t == ("tell" : Str)) = true ∨ ((t == ("tell" : Str)) = false ∧ (t == ("call" : Str)) = true)) := by
            rw [c3, c4]
            revert b2
            cases (("tell" : Str) == t) <;> cases (("call" : Str) == t) <;> simp
          clear b2 c3 c4
          match r, hr, tq with
          | [], _, _ =>
            show _ = some (D.bl false, st)
            clear ih hr hA hl tq
            rcases T with T | ⟨T, T2⟩
            · l_intsC
              rw [fin_same rfl]
            · l_intsC
              rw [fin_same rfl]
          | [x], _, _ =>
            show _ = some (D.bl false, st)
            clear ih hr hA hl tq
            rcases T with T | ⟨T, T2⟩
            · l_intsC
              rw [fin_same rfl]
            · l_intsC
              rw [fin_same rfl]
          | x :: z :: w :: r, _, _ =>
            show _ = some (D.bl false, st)
            clear ih hr hA hl tq
            rcases T with T | ⟨T, T2⟩
            · l_intsC
              rw [fin_same rfl]
            · l_intsC
              rw [fin_same rfl]
          | [x, b], hr, tq =>
            rw [tq x b rfl]
            have hx := lname_eq (hr x (by simp)).hd st
            have hb := ih b (hr b (by simp))
            clear tq ih hr
            cases nx : nameB x
            · rw [nx] at hx
              simp only [Bool.false_and]
              clear hb hA hl
              rcases T with T | ⟨T, T2⟩
              · l_intsC
                rw [fin_same rfl]
              · l_intsC
                rw [fin_same rfl]
            · rw [nx] at hx
              obtain ⟨y, rfl⟩ := nameB_inv nx
              have hA := hA y
              unfold R__law_is_body_1
              clear nx
              cases T2 : (t == ("call" : Str))
              · have T1 : (t == ("tell" : Str)) = true := by
                  rcases T with T | ⟨T, T3⟩
                  · exact T
                  · rw [T2] at T3
                    cases T3
                simp only [Bool.false_and, Bool.not_false, Bool.true_and]
                clear T hA hl
                l_intsC
                rw [fin_same rfl]
              · cases ni : nmIn nm (.str y)
                · rw [ni] at hA
                  simp only [Bool.not_false, Bool.true_and, Bool.not_true, Bool.false_and]
                  clear hb
                  rcases T with T | ⟨T, T3⟩
                  · l_intsC
                    rw [fin_same rfl]
                  · l_intsC
                    rw [fin_same rfl]
                · rw [ni] at hA
                  simp only [Bool.not_false, Bool.true_and, Bool.not_true, Bool.and_false]
                  rcases T with T | ⟨T, T3⟩
                  · l_intsC
                    rw [fin_same rfl]
                  · l_intsC
                    rw [fin_same rfl]
        · rw [if_neg b2]
          have b2' : ((("tell" : Str) == t) = false ∧ (("call" : Str) == t) = false) := by simpa using b2
          rw [b2'.1] at c3
          rw [b2'.2] at c4
          clear b2 b2'
          cases b3 : (t == ("draw" : Str))
          · show _ = some (D.bl false, st)
            clear ih hr hA hl
            l_intsC
            rw [fin_same rfl]
          · rw [if_pos rfl]
            match r, hr with
            | [], _ =>
              show _ = some (D.bl false, st)
              clear ih hr hA hl
              l_intsC
              rw [fin_same rfl]
            | x :: z :: r, _ =>
              show _ = some (D.bl false, st)
              clear ih hr hA hl
              l_intsC
              rw [fin_same rfl]
            | [x], hr =>
              have hx := hr x (by simp)
              clear hr
              cases x with
              | tup rs =>
                cases rs with
                | nil =>
                  show _ = some (D.bl false, st)
                  clear ih hA hl hx
                  l_intsC
                  rw [fin_same rfl]
                | cons q rs =>
                  match n, hx with
                  | n + 1, hx =>
                    rw [draw_res]
                    have h3 : ∀ r ∈ q :: rs, hd3 r := fun r hr => (hx.2 r hr).hd3
                    have hi : ∀ r ∈ q :: rs, ∀ f b, r = .tup [f, b] → F__law_is_body k [b, .loc ln] st = some (.bl (bodyB nm (n + 1) b), st) := fun r hr f b e => by
                      subst e
                      have h4 := hx.2 _ hr
                      match n, h4 with
                      | n + 1, h4 => exact ih b (vok_mono (by omega) (h4.2 b (by simp)))
                    have h6 : (q :: rs).length ≤ 6 := Nat.le_trans hx.1 hL
                    obtain ⟨l1, l2⟩ := lrow_loop (n := n + 1) (F := F__law_is_body k) (a0 := some (.tup [.str t, .tup (q :: rs)])) (q :: rs) (0, 1) 1 none h3 hi (by decide) bd01 (pow6 h6)
                    have l1' : (q :: rs).all (rowAll nm (n + 1)) = true → ∃ k', forL (gN 3) (L__law_is_body_1 (n + 1) (F__law_is_body k)) (q :: rs) [some (.tup [.str t, .tup (q :: rs)]), some (.loc ln), some (.tup [.int 0, .int 1]), none] st = some (.nx [some (.tup [.str t, .tup (q :: rs)]), some (.loc ln), some (eF (((q :: rs).map fr).foldl fplus (0, 1))), k'], st) := l1
                    have l2' : (q :: rs).all (rowAll nm (n + 1)) = false → forL (gN 3) (L__law_is_body_1 (n + 1) (F__law_is_body k)) (q :: rs) [some (.tup [.str t, .tup (q :: rs)]), some (.loc ln), some (.tup [.int 0, .int 1]), none] st = some (.rt (.bl false), st) := l2
                    have ln1 : L__law_is_body_1 (n + 1) (F__law_is_body k) = L__law_is_body_1 k (F__law_is_body k) := rfl
                    rw [ln1] at l1' l2'
                    clear l1 l2 ln1 h3 hi h6 ih hA hl hx
                    unfold R__law_is_body_4 R__law_is_body_3
                    cases c : (q :: rs).all (rowAll nm (n + 1))
                    · have l2' := l2' c
                      simp only [Bool.false_and]
                      clear l1' c
                      l_intsC
                      rw [fin_same rfl]
                    · obtain ⟨k', l1'⟩ := l1' c
                      simp only [Bool.true_and]
                      have hs : sumB (q :: rs) = ((((q :: rs).map fr).foldl fplus (0, 1)).1 == 1 && (((q :: rs).map fr).foldl fplus (0, 1)).2 == 1) := rfl
                      rw [hs]
                      generalize (((q :: rs).map fr).foldl fplus (0, 1)) = tt at l1'
                      have ep := eq_pair tt.1 tt.2 1 1 st
                      unfold eF at l1'
                      clear l2' c hs
                      l_intsC
                      rw [fin_same rfl]
              | _ =>
                first
                | exact (hx.hd : False).elim
                | (show _ = some (D.bl false, st); clear ih hA hl hx; l_intsC; rw [fin_same rfl])
    | _ =>
      first
      | exact (hy : False).elim
      | (show _ = some (D.bl false, st); clear hl ih hr hy hA; l_intsC; rw [fin_same rfl])
end
end K30
end
section
set_option Elab.async false
set_option autoImplicit false
set_option linter.all false
set_option maxRecDepth 100000
set_option maxHeartbeats 2000000
namespace K30
open PySem L2 Mn
local macro_rules | `(tactic| l_ints) => `(tactic| simp only [bnd_some', ret1_some', sSeq_eq, kThen_nx, kThen_rt, kThen_bk, kThen_ct, sNil_eq, sAsg_eq, kAsg_eq, sDrop_eq, kDrop_eq, sRet_eq, kRet_eq, sRetN_eq, sBreak_eq, sCont_eq, sIf_eq, kIf_true, kIf_false, sTgt_eq, kTgt1_eq, kTgt2_eq, sPar_eq, kPar2_eq, sPar3_eq, kPar3_eq, sFor_eq, kFor_eq, sAug_eq, kAug_eq, kAug1_eq, mV_eq, kGot_eq, mC_eq, mOp_eq, kOp1_eq, kOp2_eq, mTB_eq, kB_eq, mAnd_eq, kAnd_true, kAnd_false, mOr_eq, kOr_true, kOr_false, mNot_eq, kNot_eq, mIte_eq, kIte_true, kIte_false, mAndV_eq, kAndV_true, kAndV_false, mOrV_eq, kOrV_true, kOrV_false, mNotV_eq, kNotV_eq, mNil_eq, mCons_eq, kCons1_eq, kCons2_eq, mTup_eq, kTup_eq, mLst_eq, kLst_eq, mFrz_eq, kFrz_eq, mMut_eq, kMut_eq, mCall_eq, mCB_eq, kCB_eq, mCBL_eq, kCBL_eq, mTr_eq, kTr_eq, mNeg_eq, kNeg_eq, mChain_eq, kChn1_eq, kChn2_eq, kChn_true, kChn_false, gN_eq, gsN_eq, gsC_eq, kGs_eq, gT_eq, gTp_eq, gSet_eq, kSet1_eq, kSet2_eq, kSetE_eq, setO_eq, setL_nat, setL_lit, setL_str, mMt_eq, kMt1_eq, kMt1'_eq, kMt2_eq, kMt2'_eq, kMt3_eq, fApp_eq, fPop_eq, kPop_eq, getLast_snoc, dropLast_snoc, fExt_eq, kExt_eq, oAdd_int, oAdd_str, oAdd_tup, oAdd_lst, oAdd_loc, kCat_eq, lstD_lst, lstD_loc, isLst_eq, seqD_tup, seqD_lst, seqD_rol, seqD_loc, dicD_dic, dicD_loc, isDic_eq, oSub_int, oMul_int, oDiv_int, oMod_int, oI_plus, oI_minus, oLt_int, oLe_int, oGt_int, oGe_int, oEq_int, oEq_str, oEq_bl, oNe_int, oNe_str, oNe_bl, oIs_non, oIsNot_non, isN_non, isN_int, isN_bl, isN_str, isN_tup, isN_lst, isN_loc, atI_lit, atI_natc, atI_neg1, ixO_tup, ixO_lst, ixO_dics, ixO_dici, ixO_locs, ixO_loci, ixL_lst, ixL_dics, ixL_dici, cLen_tup, cLen_lst, cLen_dic, cLen_loc, lenL_lst, lenL_dic, cInt_int, cInt_bl, cAbs_int, cTup_tup, cTup_lst, cTup_loc, tupL_eq, cList_eq, cBls_lst, blsA_eq, fAll_eq, fAny_eq, truD_lst, truD_tup, truD_bl, truD_int, truD_non, truD_loc, truL_lst, truL_dic, itD_tup, itD_lst, miSeq_eq, kIt_eq, miR1_eq, kR1_eq, miR2_eq, kR2_eq, mSl_eq, kSl1_eq, kSl2_eq, kSl3_eq, mNoP_eq, mPart_eq, kPart_eq, slD_tup, slD_lst, slD_rol, slD_loc, slA_eq, mIsi_eq, kIsi_eq, tyD_non, tyD_bl, tyD_int, tyD_str, tyD_tup, tyD_lst, isi_NoneType_tuple, isi_NoneType_list, isi_NoneType_int, isi_NoneType_str, isi_NoneType_bool, isi_NoneType_int_str, isi_bool_tuple, isi_bool_list, isi_bool_int, isi_bool_str, isi_bool_bool, isi_bool_int_str, isi_int_tuple, isi_int_list, isi_int_int, isi_int_str, isi_int_bool, isi_int_int_str, isi_str_tuple, isi_str_list, isi_str_int, isi_str_str, isi_str_bool, isi_str_int_str, isi_tuple_tuple, isi_tuple_list, isi_tuple_int, isi_tuple_str, isi_tuple_bool, isi_tuple_int_str, isi_list_tuple, isi_list_list, isi_list_int, isi_list_str, isi_list_bool, isi_list_int_str, mDicF_eq, kDicF_eq, mDicM_eq, kDicM_eq, dicA_eq, dicB_eq, mDic0_eq, mGet1_eq, kGet1_eq, kGet1a_eq, mGet2_eq, kGet2_eq, kGet2a_eq, kGet2b_eq, kGet3_str, kGet3_int, kForB_eq, kForS_nx, kForS_ct, kForS_bk, kForS_rt, kWh_true, kWh_false, kWhS_nx, kWhS_ct, kWhS_bk, kWhS_rt, mLc_eq, kLc_eq, kLc1_eq, kLc2_true, kLc2_false, kLc3_eq, kLc4_eq, mYes_eq, wipeE_nil, wipeE_cons, mFun_0, mFun_1, mFun_2, mFun_3, mFun_4, mFun_5, mFun_6, mFun_7, mFun_8, mFunL_0, mFunL_1, mFunL_2, mFunL_3, mFunL_4, mFunL_5, mFunL_6, mFunL_7, mFunL_8, endW_rt, endW_nx, mRev_eq, kRev_eq, miTxt_eq, kTxt_eq, oIsB_bl, oIsNotB_bl, oIn_eq, oNotIn_eq, kIn_eq, kNIn_eq, inO_sign, inA_eq, inO_tup, inO_lst, inO_loc, inL_lst, inL_dics, inL_dici, inO_dics, inO_dici, flatD_non, flatD_bl, flatD_int, flatD_str, Nat.reduceSub, Nat.reduceAdd, Nat.reduceLeDiff, Nat.reduceLT, Nat.reduceEqDiff, Int.reduceLT, Int.reduceLE, Int.reduceAdd, Int.reduceSub, Int.reduceNeg, Int.reduceMul, Int.reduceToNat, Int.reduceBEq, fits_lit, List.getElem?_cons_zero, List.getElem?_cons_succ, List.getElem?_nil, List.set_cons_zero, List.set_cons_succ, List.set_nil, List.length_cons, List.length_nil, List.length_set, List.length_map, List.length_append, List.set_set, List.replicate_succ, List.replicate_zero, List.isEmpty_nil, List.isEmpty_cons, List.nil_append, List.cons_append, List.append_assoc, Bool.not_true, Bool.not_false, decide_true, decide_false, if_true, if_false, Bool.false_eq_true, st_app, st_app0, st_set, st_set0, List.getLast?_nil, getLast_snoc, dropLast_snoc])
local macro_rules | `(tactic| l_intsC) => `(tactic| simp only [bnd_some', ret1_some', sSeq_eq, kThen_nx, kThen_rt, kThen_bk, kThen_ct, sNil_eq, sAsg_eq, kAsg_eq, sDrop_eq, kDrop_eq, sRet_eq, kRet_eq, sRetN_eq, sBreak_eq, sCont_eq, sIf_eq, kIf_true, kIf_false, sTgt_eq, kTgt1_eq, kTgt2_eq, sPar_eq, kPar2_eq, sPar3_eq, kPar3_eq, sFor_eq, kFor_eq, sAug_eq, kAug_eq, kAug1_eq, mV_eq, kGot_eq, mC_eq, mOp_eq, kOp1_eq, kOp2_eq, mTB_eq, kB_eq, mAnd_eq, kAnd_true, kAnd_false, mOr_eq, kOr_true, kOr_false, mNot_eq, kNot_eq, mIte_eq, kIte_true, kIte_false, mAndV_eq, kAndV_true, kAndV_false, mOrV_eq, kOrV_true, kOrV_false, mNotV_eq, kNotV_eq, mNil_eq, mCons_eq, kCons1_eq, kCons2_eq, mTup_eq, kTup_eq, mLst_eq, kLst_eq, mFrz_eq, kFrz_eq, mMut_eq, kMut_eq, mCall_eq, mCB_eq, kCB_eq, mCBL_eq, kCBL_eq, mTr_eq, kTr_eq, mNeg_eq, kNeg_eq, mChain_eq, kChn1_eq, kChn2_eq, kChn_true, kChn_false, gN_eq, gsN_eq, gsC_eq, kGs_eq, gT_eq, gTp_eq, gSet_eq, kSet1_eq, kSet2_eq, kSetE_eq, setO_eq, setL_nat, setL_lit, setL_str, mMt_eq, kMt1_eq, kMt1'_eq, kMt2_eq, kMt2'_eq, kMt3_eq, fApp_eq, fPop_eq, kPop_eq, getLast_snoc, dropLast_snoc, fExt_eq, kExt_eq, oAdd_int, oAdd_str, oAdd_tup, oAdd_lst, oAdd_loc, kCat_eq, lstD_lst, lstD_loc, isLst_eq, seqD_tup, seqD_lst, seqD_rol, seqD_loc, dicD_dic, dicD_loc, isDic_eq, oSub_int, oMul_int, oDiv_int, oMod_int, oI_plus, oI_minus, oLt_int, oLe_int, oGt_int, oGe_int, oEq_int, oEq_str, oEq_bl, oNe_int, oNe_str, oNe_bl, oIs_non, oIsNot_non, isN_non, isN_int, isN_bl, isN_str, isN_tup, isN_lst, isN_loc, atI_lit, atI_natc, atI_neg1, ixO_tup, ixO_lst, ixO_dics, ixO_dici, ixO_locs, ixO_loci, ixL_lst, ixL_dics, ixL_dici, cLen_tup, cLen_lst, cLen_dic, cLen_loc, lenL_lst, lenL_dic, cInt_int, cInt_bl, cAbs_int, cTup_tup, cTup_lst, cTup_loc, tupL_eq, cList_eq, cBls_lst, blsA_eq, fAll_eq, fAny_eq, truD_lst, truD_tup, truD_bl, truD_int, truD_non, truD_loc, truL_lst, truL_dic, itD_tup, itD_lst, miSeq_eq, kIt_eq, miR1_eq, kR1_eq, miR2_eq, kR2_eq, mSl_eq, kSl1_eq, kSl2_eq, kSl3_eq, mNoP_eq, mPart_eq, kPart_eq, slD_tup, slD_lst, slD_rol, slD_loc, slA_eq, mIsi_eq, kIsi_eq, tyD_non, tyD_bl, tyD_int, tyD_str, tyD_tup, tyD_lst, isi_NoneType_tuple, isi_NoneType_list, isi_NoneType_int, isi_NoneType_str, isi_NoneType_bool, isi_NoneType_int_str, isi_bool_tuple, isi_bool_list, isi_bool_int, isi_bool_str, isi_bool_bool, isi_bool_int_str, isi_int_tuple, isi_int_list, isi_int_int, isi_int_str, isi_int_bool, isi_int_int_str, isi_str_tuple, isi_str_list, isi_str_int, isi_str_str, isi_str_bool, isi_str_int_str, isi_tuple_tuple, isi_tuple_list, isi_tuple_int, isi_tuple_str, isi_tuple_bool, isi_tuple_int_str, isi_list_tuple, isi_list_list, isi_list_int, isi_list_str, isi_list_bool, isi_list_int_str, mDicF_eq, kDicF_eq, mDicM_eq, kDicM_eq, dicA_eq, dicB_eq, mDic0_eq, mGet1_eq, kGet1_eq, kGet1a_eq, mGet2_eq, kGet2_eq, kGet2a_eq, kGet2b_eq, kGet3_str, kGet3_int, kForB_eq, kForS_nx, kForS_ct, kForS_bk, kForS_rt, kWh_true, kWh_false, kWhS_nx, kWhS_ct, kWhS_bk, kWhS_rt, mLc_eq, kLc_eq, kLc1_eq, kLc2_true, kLc2_false, kLc3_eq, kLc4_eq, mYes_eq, wipeE_nil, wipeE_cons, mFun_0, mFun_1, mFun_2, mFun_3, mFun_4, mFun_5, mFun_6, mFun_7, mFun_8, mFunL_0, mFunL_1, mFunL_2, mFunL_3, mFunL_4, mFunL_5, mFunL_6, mFunL_7, mFunL_8, endW_rt, endW_nx, mRev_eq, kRev_eq, miTxt_eq, kTxt_eq, oIsB_bl, oIsNotB_bl, oIn_eq, oNotIn_eq, kIn_eq, kNIn_eq, inO_sign, inA_eq, inO_tup, inO_lst, inO_loc, inL_lst, inL_dics, inL_dici, inO_dics, inO_dici, flatD_non, flatD_bl, flatD_int, flatD_str, Nat.reduceSub, Nat.reduceAdd, Nat.reduceLeDiff, Nat.reduceLT, Nat.reduceEqDiff, Int.reduceLT, Int.reduceLE, Int.reduceAdd, Int.reduceSub, Int.reduceNeg, Int.reduceMul, Int.reduceToNat, Int.reduceBEq, fits_lit, List.getElem?_cons_zero, List.getElem?_cons_succ, List.getElem?_nil, List.set_cons_zero, List.set_cons_succ, List.set_nil, List.length_cons, List.length_nil, List.length_set, List.length_map, List.length_append, List.set_set, List.replicate_succ, List.replicate_zero, List.isEmpty_nil, List.isEmpty_cons, List.nil_append, List.cons_append, List.append_assoc, Bool.not_true, Bool.not_false, decide_true, decide_false, if_true, if_false, Bool.false_eq_true, st_app, st_app0, st_set, st_set0, List.getLast?_nil, getLast_snoc, dropLast_snoc, *])
theorem lk_map_ne {k k' : Key} {d : D} (h : k ≠ k') : ∀ l : List (Key × D), lkD (l.map fun kv => if kv.1 = k then (kv.1, d) else kv) k' = lkD l k'
  | [] => rfl
  | (j, e) :: l => by
    have ih := lk_map_ne (d := d) h l
    rw [List.map_cons]
    by_cases c : j = k
    · rw [if_pos c]
      have cj : ¬ j = k' := fun z => h (c.symm.trans z)
      simp only [lkD, cj, if_false, ih]
    · rw [if_neg c]
      simp only [lkD, ih]
theorem lk_map_eq {k : Key} {d : D} : ∀ l : List (Key × D), (l.any fun kv => decide (kv.1 = k)) = true → lkD (l.map fun kv => if kv.1 = k then (kv.1, d) else kv) k = some d
  | [], h => by cases h
  | (j, e) :: l, h => by
    rw [List.map_cons]
    by_cases c : j = k
    · rw [if_pos c]
      simp only [lkD, c, if_true]
    · rw [if_neg c]
      simp only [List.any_cons, c, decide_false, Bool.false_or] at h
      simp only [lkD, c, if_false]
      exact lk_map_eq l h
theorem lk_snoc {k k' : Key} {d : D} : ∀ l : List (Key × D), ¬ (l.any fun kv => decide (kv.1 = k)) = true → lkD (l ++ [(k, d)]) k' = if k = k' then some d else lkD l k'
  | [], _ => rfl
  | (j, e) :: l, h => by
    simp only [List.any_cons, Bool.or_eq_true, decide_eq_true_eq, not_or] at h
    rw [List.cons_append]
    have ih := lk_snoc (k' := k') (d := d) l h.2
    by_cases c : j = k'
    · have ck : ¬ k = k' := fun z => h.1 (c.trans z.symm)
      simp only [lkD, c, if_true, ck, if_false]
    · simp only [lkD, c, if_false, ih]
theorem lk_put (l : List (Key × D)) (k k' : Key) (d : D) : lkD (putD l k d) k' = if k = k' then some d else lkD l k' := by
  unfold putD
  split
  · rename_i h
    by_cases c : k = k'
    · subst c
      rw [if_pos rfl]
      exact lk_map_eq l h
    · rw [if_neg c]
      exact lk_map_ne c l
  · rename_i h
    exact lk_snoc l h

/-! the whole program -/
def nextP (pre : List Str) : D → Option Str
  | .tup [.str x, _] => if nameZ x = true ∧ x ∉ pre then some x else none
  | _ => none
/-- the names of the rows, where they are in form -/
def namesP : List Str → List D → Option (List Str)
  | pre, [] => some pre
  | pre, r :: rs => match nextP pre r with
    | some x => namesP (pre ++ [x]) rs
    | none => none
def progB (n : Nat) : D → Bool
  | .tup rs => !rs.isEmpty && (match namesP [] rs with
    | none => false
    | some nm => rs.all fun r => bodyB nm n (sndD r))
  | _ => false
theorem lk_isSome_put {ks : List (Key × D)} {x y : Str} {d : D} : (lkD (putD ks (.inr x) d) (.inr y)).isSome = (decide (x = y) || (lkD ks (.inr y)).isSome) := by
  rw [lk_put]
  by_cases h : x = y
  · subst h
    simp
  · have : ¬ (Sum.inr x : Key) = Sum.inr y := fun e => h (Sum.inr.inj e)
    rw [if_neg this]
    simp [h]
theorem next_none {pre : List Str} {r : D} (h : ∀ x b, r = .tup [x, b] → nameB x = false) : nextP pre r = none := by
  match r, h with
  | .tup [x, b], h =>
    have h := h x b rfl
    cases x with
    | str y =>
      show (if nameZ y = true ∧ y ∉ pre then some y else none) = none
      have h : nameZ y = false := h
      rw [if_neg (by rw [h]; simp)]
    | _ => rfl
  | .tup [], _ => rfl
  | .tup [x], _ => cases x <;> rfl
  | .tup (x :: y :: z :: r), _ => cases x <;> rfl
  | .non, _ => rfl
  | .bl _, _ => rfl
  | .int _, _ => rfl
  | .str _, _ => rfl
  | .lst _, _ => rfl
  | .rol _, _ => rfl
  | .dic _, _ => rfl
  | .loc _, _ => rfl
  | .ptl _, _ => rfl
theorem next_inv {pre : List Str} {r : D} {x : Str} (h : nextP pre r = some x) : ∃ b, r = .tup [.str x, b] ∧ nameZ x = true ∧ x ∉ pre := by
  match r, h with
  | .tup [.str y, b], h =>
    have h : (if nameZ y = true ∧ y ∉ pre then some y else none) = some x := h
    by_cases c : nameZ y = true ∧ y ∉ pre
    · rw [if_pos c] at h
      cases h
      exact ⟨b, rfl, c.1, c.2⟩
    · rw [if_neg c] at h
      cases h
section
variable {st : Store} {L : Nat} {a0 j2 j3 j4 : Option D} {pre : List Str} {ks : List (Key × D)} {r : D}
theorem prow_step (h : hd2 r) (hk : ∀ y : Str, (lkD ks (.inr y)).isSome = nmIn pre (.str y)) (hl : ks.length < 1000000) :
    (∀ x, nextP pre r = some x → L_is_program_1 [a0, some (.loc st.length), some r, j3, j4] (st ++ [.dic ks]) = some (.nx [a0, some (.loc st.length), some r, j3, j4], st ++ [.dic (putD ks (.inr x) (.bl true))])) ∧
    (nextP pre r = none → L_is_program_1 [a0, some (.loc st.length), some r, j3, j4] (st ++ [.dic ks]) = some (.rt (.bl false), st ++ [.dic ks])) := by
  obtain ⟨z1, z2, z3, z4, z5, z6, z7, z8, z9, z10, z11, z12, z13, z14⟩ := lens
  have z0 := len02
  obtain ⟨h1, h2⟩ := h
  unfold L_is_program_1 R_is_program_1
  match r, h1, h2 with
  | .tup [], _, _ => exact ⟨fun x e => (by cases e), fun _ => by clear h2 hk; l_intsC⟩
  | .tup [x], _, _ => exact ⟨fun y e => (by rw [next_none (fun _ _ e => by cases e)] at e; cases e), fun _ => by clear h2 hk; l_intsC⟩
  | .tup (x :: y :: z :: r), _, _ => exact ⟨fun y e => (by rw [next_none (fun _ _ e => by cases e)] at e; cases e), fun _ => by clear h2 hk; l_intsC⟩
  | .non, _, _ => exact ⟨fun x e => (by cases e), fun _ => by clear h2 hk; l_ints⟩
  | .bl _, _, _ => exact ⟨fun x e => (by cases e), fun _ => by clear h2 hk; l_ints⟩
  | .int _, _, _ => exact ⟨fun x e => (by cases e), fun _ => by clear h2 hk; l_ints⟩
  | .str _, _, _ => exact ⟨fun x e => (by cases e), fun _ => by clear h2 hk; l_ints⟩
  | .lst _, _, _ => exact ⟨fun x e => (by cases e), fun _ => by clear h2 hk; l_ints⟩
  | .tup [x, b], _, h2 =>
    have hx := fun st => name_eq (h2 _ rfl x (by simp)) st
    clear h2
    cases nx : nameB x
    · rw [nx] at hx
      refine ⟨fun y e => (by rw [next_none (fun _ _ e => by cases e; exact nx)] at e; cases e), fun _ => ?_⟩
      clear hk nx
      l_intsC
    · rw [nx] at hx
      obtain ⟨y, rfl⟩ := nameB_inv nx
      have hk := hk y
      have ny : nameZ y = true := nx
      have np : nextP pre (.tup [.str y, b]) = if nameZ y = true ∧ y ∉ pre then some y else none := rfl
      rw [np]
      by_cases c : y ∈ pre
      · have e : nmIn pre (.str y) = true := decide_eq_true c
        rw [e] at hk
        rw [if_neg (fun z => z.2 c)]
        refine ⟨fun x e => (by cases e), fun _ => ?_⟩
        clear nx ny np c
        l_intsC
      · have e : nmIn pre (.str y) = false := decide_eq_false c
        rw [e] at hk
        rw [if_pos ⟨ny, c⟩]
        refine ⟨fun x e => ?_, fun e => (by cases e)⟩
        cases e
        clear nx ny np c
        l_intsC
theorem prow_loop : ∀ (rs : List D) (pre : List Str) (ks : List (Key × D)) (j2 : Option D), (∀ r ∈ rs, hd2 r) → (∀ y : Str, (lkD ks (.inr y)).isSome = nmIn pre (.str y)) → ks.length + rs.length < 1000000 →
    (∀ nm, namesP pre rs = some nm → ∃ ks' k2, forL (gN 2) L_is_program_1 rs [a0, some (.loc st.length), j2, j3, j4] (st ++ [.dic ks]) = some (.nx [a0, some (.loc st.length), k2, j3, j4], st ++ [.dic ks']) ∧ ∀ y : Str, (lkD ks' (.inr y)).isSome = nmIn nm (.str y)) ∧
    (namesP pre rs = none → ∃ ks', forL (gN 2) L_is_program_1 rs [a0, some (.loc st.length), j2, j3, j4] (st ++ [.dic ks]) = some (.rt (.bl false), st ++ [.dic ks']))
  | [], pre, ks, j2, _, hk, _ => ⟨fun nm e => by cases e; exact ⟨ks, j2, rfl, hk⟩, fun e => (by cases e)⟩
  | r :: rs, pre, ks, j2, h, hk, hl => by
    rw [List.length_cons] at hl
    obtain ⟨s1, s2⟩ := prow_step (st := st) (a0 := a0) (j3 := j3) (j4 := j4) (h r (List.mem_cons_self ..)) hk (by omega)
    rw [forL_cons]
    have np : namesP pre (r :: rs) = (match nextP pre r with | some x => namesP (pre ++ [x]) rs | none => none) := rfl
    rw [np]
    cases c : nextP pre r with
    | none =>
      have s2 := s2 c
      refine ⟨fun nm e => (by cases e), fun _ => ⟨ks, ?_⟩⟩
      clear s1 hk h np c hl
      l_intsC
    | some x =>
      have s1' := s1 x c
      clear s1 s2
      have hk2 : ∀ y : Str, (lkD (putD ks (.inr x) (.bl true)) (.inr y)).isSome = nmIn (pre ++ [x]) (.str y) := fun y => by
        rw [lk_isSome_put, hk]
        show (decide (x = y) || decide (y ∈ pre)) = decide (y ∈ pre ++ [x])
        rw [Bool.eq_iff_iff]
        simp only [Bool.or_eq_true, decide_eq_true_eq, List.mem_append, List.mem_singleton]
        exact ⟨fun z => z.elim (fun z => .inr z.symm) .inl, fun z => z.elim .inr fun z => .inl z.symm⟩
      have hlen := putD_len ks (.inr x) (.bl true)
      obtain ⟨i1, i2⟩ := prow_loop rs (pre ++ [x]) (putD ks (.inr x) (.bl true)) (some r) (fun q hq => h q (List.mem_cons_of_mem _ hq)) hk2 (by omega)
      refine ⟨fun nm e => ?_, fun e => ?_⟩
      · obtain ⟨ks', k2, i1', hk3⟩ := i1 nm e
        refine ⟨ks', k2, ?_, hk3⟩
        clear i1 i2 hk hk2 h np c hl hlen hk3 e
        l_intsC
      · obtain ⟨ks', i2'⟩ := i2 e
        refine ⟨ks', ?_⟩
        clear i1 i2 hk hk2 h np c hl hlen e
        l_intsC
theorem names_rows : ∀ (rs : List D) (pre nm : List Str), namesP pre rs = some nm → ∀ r ∈ rs, ∃ x b, r = .tup [.str x, b]
  | [], _, _, _, r, hr => (List.not_mem_nil hr).elim
  | r :: rs, pre, nm, h, q, hq => by
    have np : namesP pre (r :: rs) = (match nextP pre r with | some x => namesP (pre ++ [x]) rs | none => none) := rfl
    rw [np] at h
    cases c : nextP pre r with
    | none => rw [c] at h; cases h
    | some x =>
      rw [c] at h
      rcases List.mem_cons.mp hq with rfl | hq
      · obtain ⟨b, e, _⟩ := next_inv c
        exact ⟨x, b, e⟩
      · exact names_rows rs _ nm h q hq
theorem pbody_lc {n ln : Nat} {nm : List Str} {S : Store} (hb : ∀ b, vok L n b → F_is_body [b, .loc ln] S = some (.bl (bodyB nm n b), S)) {j2 : Option D} : ∀ rs : List D, (∀ r ∈ rs, ∃ x b, r = .tup [.str x, b] ∧ vok L n b) →
    lcL (gT 2 (gsC (gN 3) (gsC (gN 4) gsN))) mYes E_is_program_1 [a0, some (.loc ln), j2, none, none] rs S = some (rs.map fun r => .bl (bodyB nm n (sndD r)), S)
  | [], _ => rfl
  | r :: rs, h => by
    obtain ⟨x, b, rfl, hv⟩ := h r (List.mem_cons_self ..)
    have ih := pbody_lc hb (j2 := j2) rs fun q hq => h q (List.mem_cons_of_mem _ hq)
    have u : E_is_program_1 [a0, some (.loc ln), j2, some (.str x), some b] S = some (.bl (bodyB nm n b), S) := by
      have hb := hb b hv
      unfold E_is_program_1
      clear ih
      l_intsC
    rw [lcL_cons, List.map_cons]
    show _ = some (D.bl (bodyB nm n b) :: rs.map _, S)
    clear hb h
    l_intsC
theorem is_program_eq {n : Nat} {d : D} (hL : L ≤ 6) (hn : n ≤ 1000) (h : vok L (n + 2) d) (st : Store) : F_is_program [d] st = some (.bl (progB n d), st) := by
  obtain ⟨z1, z2, z3, z4, z5, z6, z7, z8, z9, z10, z11, z12, z13, z14⟩ := lens
  unfold F_is_program B_is_program
  cases d with
  | tup rs =>
    cases rs with
    | nil =>
      show _ = some (D.bl false, st)
      l_intsC
      rw [fin_same rfl]
    | cons r rs =>
      have h2 : ∀ q ∈ r :: rs, hd2 q := fun q hq => (h.2 q hq).hd2
      have h6 : (r :: rs).length ≤ 6 := Nat.le_trans h.1 hL
      obtain ⟨l1, l2⟩ := prow_loop (st := st) (a0 := some (.tup (r :: rs))) (j3 := none) (j4 := none) (r :: rs) [] [] none h2 (fun y => by simp [lkD, nmIn]) (by simp only [List.length_nil]; omega)
      have pb : progB n (.tup (r :: rs)) = (match namesP [] (r :: rs) with | none => false | some nm => (r :: rs).all fun r => bodyB nm n (sndD r)) := by
        simp only [progB, List.isEmpty_cons, Bool.not_false, Bool.true_and]
      rw [pb]
      unfold R_is_program_3 R_is_program_2
      cases c : namesP [] (r :: rs) with
      | none =>
        obtain ⟨ks', l2⟩ := l2 c
        clear l1 pb c h2 h6 h
        l_intsC
        rw [fin_app rfl]
      | some nm =>
        obtain ⟨ks', k2, l1, hk⟩ := l1 nm c
        have hv : ∀ q ∈ r :: rs, ∃ x b, q = .tup [.str x, b] ∧ vok L n b := fun q hq => by
          obtain ⟨x, b, e⟩ := names_rows _ _ _ c q hq
          subst e
          exact ⟨x, b, rfl, (h.2 _ hq).2 b (by simp)⟩
        have hb : ∀ b, vok L n b → F_is_body [b, .loc st.length] (st ++ [.dic ks']) = some (.bl (bodyB nm n b), st ++ [.dic ks']) := fun b hv => is_body_eq hL hn (fun g => by rw [List.append_assoc]; exact st_app0) hk hv
        have lc := pbody_lc (a0 := some (.tup (r :: rs))) hb (j2 := k2) (r :: rs) hv
        have k1 := (kLc_eq (g1 := gT 2 (gsC (gN 3) (gsC (gN 4) gsN))) (t := mYes) (m := E_is_program_1) (env := [some (.tup (r :: rs)), some (.loc st.length), k2, none, none]) (ds := r :: rs) (st := st ++ [.dic ks']) (by omega)).trans lc
        have bd : blsD ((r :: rs).map fun r => D.bl (bodyB nm n (sndD r))) = some ((r :: rs).map fun r => bodyB nm n (sndD r)) := blsD_map _ _
        have al : ((r :: rs).map fun r => bodyB nm n (sndD r)).all id = (r :: rs).all fun r => bodyB nm n (sndD r) := by rw [List.all_map]; rfl
        generalize ((r :: rs).map fun r => D.bl (bodyB nm n (sndD r))) = out at k1 bd
        generalize ((r :: rs).map fun r => bodyB nm n (sndD r)) = bs at bd al
        show _ = some (D.bl ((r :: rs).all fun r => bodyB nm n (sndD r)), st)
        rw [← al]
        clear l2 pb c h2 h6 h hv hb lc al hk
        l_intsC
        rw [fin_app rfl]
  | _ =>
    first
    | exact (h.hd : False).elim
    | (clear h; l_ints; rw [fin_same rfl]; rfl)
/-! .. by the law -/
theorem lprow_step (h : hd2 r) (hl : pre.length < 1000000) :
    (∀ x, nextP pre r = some x → L__law_is_program_1 [a0, some (.loc st.length), some r] (st ++ [.lst (pre.map .str)]) = some (.nx [a0, some (.loc st.length), some r], st ++ [.lst ((pre ++ [x]).map .str)])) ∧
    (nextP pre r = none → L__law_is_program_1 [a0, some (.loc st.length), some r] (st ++ [.lst (pre.map .str)]) = some (.rt (.bl false), st ++ [.lst (pre.map .str)])) := by
  obtain ⟨z1, z2, z3, z4, z5, z6, z7, z8, z9, z10, z11, z12, z13, z14⟩ := lens
  have z0 := len02
  obtain ⟨h1, h2⟩ := h
  unfold L__law_is_program_1 R__law_is_program_1
  match r, h1, h2 with
  | .tup [], _, _ => exact ⟨fun x e => (by cases e), fun _ => by clear h2; l_intsC⟩
  | .tup [x], _, _ => exact ⟨fun y e => (by rw [next_none (fun _ _ e => by cases e)] at e; cases e), fun _ => by clear h2; l_intsC⟩
  | .tup (x :: y :: z :: r), _, _ => exact ⟨fun y e => (by rw [next_none (fun _ _ e => by cases e)] at e; cases e), fun _ => by clear h2; l_intsC⟩
  | .non, _, _ => exact ⟨fun x e => (by cases e), fun _ => by clear h2; l_ints⟩
  | .bl _, _, _ => exact ⟨fun x e => (by cases e), fun _ => by clear h2; l_ints⟩
  | .int _, _, _ => exact ⟨fun x e => (by cases e), fun _ => by clear h2; l_ints⟩
  | .str _, _, _ => exact ⟨fun x e => (by cases e), fun _ => by clear h2; l_ints⟩
  | .lst _, _, _ => exact ⟨fun x e => (by cases e), fun _ => by clear h2; l_ints⟩
  | .tup [x, b], _, h2 =>
    have hx := fun st => lname_eq (h2 _ rfl x (by simp)) st
    clear h2
    cases nx : nameB x
    · rw [nx] at hx
      refine ⟨fun y e => (by rw [next_none (fun _ _ e => by cases e; exact nx)] at e; cases e), fun _ => ?_⟩
      clear nx
      l_intsC
    · rw [nx] at hx
      obtain ⟨y, rfl⟩ := nameB_inv nx
      have hk := flatN y pre
      have ny : nameZ y = true := nx
      have np : nextP pre (.tup [.str y, b]) = if nameZ y = true ∧ y ∉ pre then some y else none := rfl
      rw [np]
      by_cases c : y ∈ pre
      · have e : nmIn pre (.str y) = true := decide_eq_true c
        rw [e] at hk
        rw [if_neg (fun z => z.2 c)]
        refine ⟨fun x e => (by cases e), fun _ => ?_⟩
        clear nx ny np e c
        l_intsC
      · have e : nmIn pre (.str y) = false := decide_eq_false c
        rw [e] at hk
        rw [if_pos ⟨ny, c⟩]
        refine ⟨fun x e => ?_, fun e => (by cases e)⟩
        cases e
        rw [List.map_append]
        clear nx ny np e c
        l_intsC
        rfl
theorem lprow_loop : ∀ (rs : List D) (pre : List Str) (j2 : Option D), (∀ r ∈ rs, hd2 r) → pre.length + rs.length < 1000000 →
    (∀ nm, namesP pre rs = some nm → ∃ k2, forL (gN 2) L__law_is_program_1 rs [a0, some (.loc st.length), j2] (st ++ [.lst (pre.map .str)]) = some (.nx [a0, some (.loc st.length), k2], st ++ [.lst (nm.map .str)])) ∧
    (namesP pre rs = none → ∃ W, forL (gN 2) L__law_is_program_1 rs [a0, some (.loc st.length), j2] (st ++ [.lst (pre.map .str)]) = some (.rt (.bl false), st ++ [.lst W]))
  | [], pre, j2, _, _ => ⟨fun nm e => by cases e; exact ⟨j2, rfl⟩, fun e => (by cases e)⟩
  | r :: rs, pre, j2, h, hl => by
    rw [List.length_cons] at hl
    obtain ⟨s1, s2⟩ := lprow_step (st := st) (a0 := a0) (pre := pre) (h r (List.mem_cons_self ..)) (by omega)
    rw [forL_cons]
    have np : namesP pre (r :: rs) = (match nextP pre r with | some x => namesP (pre ++ [x]) rs | none => none) := rfl
    rw [np]
    cases c : nextP pre r with
    | none =>
      have s2 := s2 c
      refine ⟨fun nm e => (by cases e), fun _ => ⟨pre.map .str, ?_⟩⟩
      clear s1 h np c hl
      l_intsC
    | some x =>
      have s1' := s1 x c
      clear s1 s2
      obtain ⟨i1, i2⟩ := lprow_loop rs (pre ++ [x]) (some r) (fun q hq => h q (List.mem_cons_of_mem _ hq)) (by rw [List.length_append, List.length_singleton]; omega)
      refine ⟨fun nm e => ?_, fun e => ?_⟩
      · obtain ⟨k2, i1'⟩ := i1 nm e
        refine ⟨k2, ?_⟩
        clear i1 i2 h np c hl e
        l_intsC
      · obtain ⟨W, i2'⟩ := i2 e
        refine ⟨W, ?_⟩
        clear i1 i2 h np c hl e
        l_intsC
theorem lpbody_lc {n ln : Nat} {nm : List Str} {S : Store} (hb : ∀ b, vok L n b → F__law_is_body 60 [b, .loc ln] S = some (.bl (bodyB nm n b), S)) : ∀ rs : List D, (∀ r ∈ rs, ∃ x b, r = .tup [.str x, b] ∧ vok L n b) →
    lcL (gN 2) mYes E__law_is_program_1 [a0, some (.loc ln), none] rs S = some (rs.map fun r => .bl (bodyB nm n (sndD r)), S)
  | [], _ => rfl
  | r :: rs, h => by
    obtain ⟨x, b, rfl, hv⟩ := h r (List.mem_cons_self ..)
    have ih := lpbody_lc hb rs fun q hq => h q (List.mem_cons_of_mem _ hq)
    have u : E__law_is_program_1 [a0, some (.loc ln), some (.tup [.str x, b])] S = some (.bl (bodyB nm n b), S) := by
      have hb := hb b hv
      unfold E__law_is_program_1
      clear ih
      l_intsC
    rw [lcL_cons, List.map_cons]
    show _ = some (D.bl (bodyB nm n b) :: rs.map _, S)
    clear hb h
    l_intsC
theorem law_is_program_eq {n : Nat} {d : D} (hL : L ≤ 6) (hn : n < 60) (h : vok L (n + 2) d) (st : Store) : F__law_is_program [d] st = some (.bl (progB n d), st) := by
  unfold F__law_is_program B__law_is_program
  cases d with
  | tup rs =>
    cases rs with
    | nil =>
      show _ = some (D.bl false, st)
      l_ints
      rw [fin_same rfl]
    | cons r rs =>
      have h2 : ∀ q ∈ r :: rs, hd2 q := fun q hq => (h.2 q hq).hd2
      have h6 : (r :: rs).length ≤ 6 := Nat.le_trans h.1 hL
      obtain ⟨l1, l2⟩ := lprow_loop (st := st) (a0 := some (.tup (r :: rs))) (r :: rs) [] none h2 (by simp only [List.length_nil]; omega)
      simp only [List.map_nil] at l1 l2
      have pb : progB n (.tup (r :: rs)) = (match namesP [] (r :: rs) with | none => false | some nm => (r :: rs).all fun r => bodyB nm n (sndD r)) := by
        simp only [progB, List.isEmpty_cons, Bool.not_false, Bool.true_and]
      rw [pb]
      unfold R__law_is_program_3 R__law_is_program_2
      cases c : namesP [] (r :: rs) with
      | none =>
        obtain ⟨W, l2⟩ := l2 c
        clear l1 pb c h2 h6 h
        l_intsC
        rw [fin_app rfl]
      | some nm =>
        obtain ⟨k2, l1⟩ := l1 nm c
        have hv : ∀ q ∈ r :: rs, ∃ x b, q = .tup [.str x, b] ∧ vok L n b := fun q hq => by
          obtain ⟨x, b, e⟩ := names_rows _ _ _ c q hq
          subst e
          exact ⟨x, b, rfl, (h.2 _ hq).2 b (by simp)⟩
        have hb : ∀ b, vok L n b → F__law_is_body 60 [b, .loc st.length] (st ++ [.lst (nm.map .str)]) = some (.bl (bodyB nm n b), st ++ [.lst (nm.map .str)]) := fun b hv => law_body_eq hL st_app0 n 60 b hn hv
        have lc := lpbody_lc (a0 := some (.tup (r :: rs))) hb (r :: rs) hv
        have k1 := (kLc_eq (g1 := gN 2) (t := mYes) (m := E__law_is_program_1) (env := [some (.tup (r :: rs)), some (.loc st.length), none]) (ds := r :: rs) (st := st ++ [.lst (nm.map .str)]) (by omega)).trans lc
        have bd : blsD ((r :: rs).map fun r => D.bl (bodyB nm n (sndD r))) = some ((r :: rs).map fun r => bodyB nm n (sndD r)) := blsD_map _ _
        have al : ((r :: rs).map fun r => bodyB nm n (sndD r)).all id = (r :: rs).all fun r => bodyB nm n (sndD r) := by rw [List.all_map]; rfl
        generalize ((r :: rs).map fun r => D.bl (bodyB nm n (sndD r))) = out at k1 bd
        generalize ((r :: rs).map fun r => bodyB nm n (sndD r)) = bs at bd al
        show _ = some (D.bl ((r :: rs).all fun r => bodyB nm n (sndD r)), st)
        rw [← al]
        clear l2 pb c h2 h6 h hv hb lc al
        l_intsC
        rw [fin_app rfl]
  | _ =>
    first
    | exact (h.hd : False).elim
    | (clear h; l_ints; rw [fin_same rfl]; rfl)
end
end K30
end
section
set_option Elab.async false
set_option autoImplicit false
set_option linter.all false
set_option maxRecDepth 100000
set_option maxHeartbeats 2000000
namespace K30
open PySem L2 Mn
local macro_rules | `(tactic| l_ints) => `(tactic| simp only [bnd_some', ret1_some', sSeq_eq, kThen_nx, kThen_rt, kThen_bk, kThen_ct, sNil_eq, sAsg_eq, kAsg_eq, sDrop_eq, kDrop_eq, sRet_eq, kRet_eq, sRetN_eq, sBreak_eq, sCont_eq, sIf_eq, kIf_true, kIf_false, sTgt_eq, kTgt1_eq, kTgt2_eq, sPar_eq, kPar2_eq, sPar3_eq, kPar3_eq, sFor_eq, kFor_eq, sAug_eq, kAug_eq, kAug1_eq, mV_eq, kGot_eq, mC_eq, mOp_eq, kOp1_eq, kOp2_eq, mTB_eq, kB_eq, mAnd_eq, kAnd_true, kAnd_false, mOr_eq, kOr_true, kOr_false, mNot_eq, kNot_eq, mIte_eq, kIte_true, kIte_false, mAndV_eq, kAndV_true, kAndV_false, mOrV_eq, kOrV_true, kOrV_false, mNotV_eq, kNotV_eq, mNil_eq, mCons_eq, kCons1_eq, kCons2_eq, mTup_eq, kTup_eq, mLst_eq, kLst_eq, mFrz_eq, kFrz_eq, mMut_eq, kMut_eq, mCall_eq, mCB_eq, kCB_eq, mCBL_eq, kCBL_eq, mTr_eq, kTr_eq, mNeg_eq, kNeg_eq, mChain_eq, kChn1_eq, kChn2_eq, kChn_true, kChn_false, gN_eq, gsN_eq, gsC_eq, kGs_eq, gT_eq, gTp_eq, gSet_eq, kSet1_eq, kSet2_eq, kSetE_eq, setO_eq, setL_nat, setL_lit, setL_str, mMt_eq, kMt1_eq, kMt1'_eq, kMt2_eq, kMt2'_eq, kMt3_eq, fApp_eq, fPop_eq, kPop_eq, getLast_snoc, dropLast_snoc, fExt_eq, kExt_eq, oAdd_int, oAdd_str, oAdd_tup, oAdd_lst, oAdd_loc, kCat_eq, lstD_lst, lstD_loc, isLst_eq, seqD_tup, seqD_lst, seqD_rol, seqD_loc, dicD_dic, dicD_loc, isDic_eq, oSub_int, oMul_int, oDiv_int, oMod_int, oI_plus, oI_minus, oLt_int, oLe_int, oGt_int, oGe_int, oEq_int, oEq_str, oEq_bl, oNe_int, oNe_str, oNe_bl, oIs_non, oIsNot_non, isN_non, isN_int, isN_bl, isN_str, isN_tup, isN_lst, isN_loc, atI_lit, atI_natc, atI_neg1, ixO_tup, ixO_lst, ixO_dics, ixO_dici, ixO_locs, ixO_loci, ixL_lst, ixL_dics, ixL_dici, cLen_tup, cLen_lst, cLen_dic, cLen_loc, lenL_lst, lenL_dic, cInt_int, cInt_bl, cAbs_int, cTup_tup, cTup_lst, cTup_loc, tupL_eq, cList_eq, cBls_lst, blsA_eq, fAll_eq, fAny_eq, truD_lst, truD_tup, truD_bl, truD_int, truD_non, truD_loc, truL_lst, truL_dic, itD_tup, itD_lst, miSeq_eq, kIt_eq, miR1_eq, kR1_eq, miR2_eq, kR2_eq, mSl_eq, kSl1_eq, kSl2_eq, kSl3_eq, mNoP_eq, mPart_eq, kPart_eq, slD_tup, slD_lst, slD_rol, slD_loc, slA_eq, mIsi_eq, kIsi_eq, tyD_non, tyD_bl, tyD_int, tyD_str, tyD_tup, tyD_lst, isi_NoneType_tuple, isi_NoneType_list, isi_NoneType_int, isi_NoneType_str, isi_NoneType_bool, isi_NoneType_int_str, isi_bool_tuple, isi_bool_list, isi_bool_int, isi_bool_str, isi_bool_bool, isi_bool_int_str, isi_int_tuple, isi_int_list, isi_int_int, isi_int_str, isi_int_bool, isi_int_int_str, isi_str_tuple, isi_str_list, isi_str_int, isi_str_str, isi_str_bool, isi_str_int_str, isi_tuple_tuple, isi_tuple_list, isi_tuple_int, isi_tuple_str, isi_tuple_bool, isi_tuple_int_str, isi_list_tuple, isi_list_list, isi_list_int, isi_list_str, isi_list_bool, isi_list_int_str, mDicF_eq, kDicF_eq, mDicM_eq, kDicM_eq, dicA_eq, dicB_eq, mDic0_eq, mGet1_eq, kGet1_eq, kGet1a_eq, mGet2_eq, kGet2_eq, kGet2a_eq, kGet2b_eq, kGet3_str, kGet3_int, kForB_eq, kForS_nx, kForS_ct, kForS_bk, kForS_rt, kWh_true, kWh_false, kWhS_nx, kWhS_ct, kWhS_bk, kWhS_rt, mLc_eq, kLc_eq, kLc1_eq, kLc2_true, kLc2_false, kLc3_eq, kLc4_eq, mYes_eq, wipeE_nil, wipeE_cons, mFun_0, mFun_1, mFun_2, mFun_3, mFun_4, mFun_5, mFun_6, mFun_7, mFun_8, mFunL_0, mFunL_1, mFunL_2, mFunL_3, mFunL_4, mFunL_5, mFunL_6, mFunL_7, mFunL_8, endW_rt, endW_nx, mRev_eq, kRev_eq, miTxt_eq, kTxt_eq, oIsB_bl, oIsNotB_bl, oIn_eq, oNotIn_eq, kIn_eq, kNIn_eq, inO_sign, inA_eq, inO_tup, inO_lst, inO_loc, inL_lst, inL_dics, inL_dici, inO_dics, inO_dici, flatD_non, flatD_bl, flatD_int, flatD_str, Nat.reduceSub, Nat.reduceAdd, Nat.reduceLeDiff, Nat.reduceLT, Nat.reduceEqDiff, Int.reduceLT, Int.reduceLE, Int.reduceAdd, Int.reduceSub, Int.reduceNeg, Int.reduceMul, Int.reduceToNat, Int.reduceBEq, fits_lit, List.getElem?_cons_zero, List.getElem?_cons_succ, List.getElem?_nil, List.set_cons_zero, List.set_cons_succ, List.set_nil, List.length_cons, List.length_nil, List.length_set, List.length_map, List.length_append, List.set_set, List.replicate_succ, List.replicate_zero, List.isEmpty_nil, List.isEmpty_cons, List.nil_append, List.cons_append, List.append_assoc, Bool.not_true, Bool.not_false, decide_true, decide_false, if_true, if_false, Bool.false_eq_true, st_app, st_app0, st_set, st_set0, List.getLast?_nil, getLast_snoc, dropLast_snoc])
local macro_rules | `(tactic| l_intsC) => `(tactic| simp only [bnd_some', ret1_some', sSeq_eq, kThen_nx, kThen_rt, kThen_bk, kThen_ct, sNil_eq, sAsg_eq, kAsg_eq, sDrop_eq, kDrop_eq, sRet_eq, kRet_eq, sRetN_eq, sBreak_eq, sCont_eq, sIf_eq, kIf_true, kIf_false, sTgt_eq, kTgt1_eq, kTgt2_eq, sPar_eq, kPar2_eq, sPar3_eq, kPar3_eq, sFor_eq, kFor_eq, sAug_eq, kAug_eq, kAug1_eq, mV_eq, kGot_eq, mC_eq, mOp_eq, kOp1_eq, kOp2_eq, mTB_eq, kB_eq, mAnd_eq, kAnd_true, kAnd_false, mOr_eq, kOr_true, kOr_false, mNot_eq, kNot_eq, mIte_eq, kIte_true, kIte_false, mAndV_eq, kAndV_true, kAndV_false, mOrV_eq, kOrV_true, kOrV_false, mNotV_eq, kNotV_eq, mNil_eq, mCons_eq, kCons1_eq, kCons2_eq, mTup_eq, kTup_eq, mLst_eq, kLst_eq, mFrz_eq, kFrz_eq, mMut_eq, kMut_eq, mCall_eq, mCB_eq, kCB_eq, mCBL_eq, kCBL_eq, mTr_eq, kTr_eq, mNeg_eq, kNeg_eq, mChain_eq, kChn1_eq, kChn2_eq, kChn_true, kChn_false, gN_eq, gsN_eq, gsC_eq, kGs_eq, gT_eq, gTp_eq, gSet_eq, kSet1_eq, kSet2_eq, kSetE_eq, setO_eq, setL_nat, setL_lit, setL_str, mMt_eq, kMt1_eq, kMt1'_eq, kMt2_eq, kMt2'_eq, kMt3_eq, fApp_eq, fPop_eq, kPop_eq, getLast_snoc, dropLast_snoc, fExt_eq, kExt_eq, oAdd_int, oAdd_str, oAdd_tup, oAdd_lst, oAdd_loc, kCat_eq, lstD_lst, lstD_loc, isLst_eq, seqD_tup, seqD_lst, seqD_rol, seqD_loc, dicD_dic, dicD_loc, isDic_eq, oSub_int, oMul_int, oDiv_int, oMod_int, oI_plus, oI_minus, oLt_int, oLe_int, oGt_int, oGe_int, oEq_int, oEq_str, oEq_bl, oNe_int, oNe_str, oNe_bl, oIs_non, oIsNot_non, isN_non, isN_int, isN_bl, isN_str, isN_tup, isN_lst, isN_loc, atI_lit, atI_natc, atI_neg1, ixO_tup, ixO_lst, ixO_dics, ixO_dici, ixO_locs, ixO_loci, ixL_lst, ixL_dics, ixL_dici, cLen_tup, cLen_lst, cLen_dic, cLen_loc, lenL_lst, lenL_dic, cInt_int, cInt_bl, cAbs_int, cTup_tup, cTup_lst, cTup_loc, tupL_eq, cList_eq, cBls_lst, blsA_eq, fAll_eq, fAny_eq, truD_lst, truD_tup, truD_bl, truD_int, truD_non, truD_loc, truL_lst, truL_dic, itD_tup, itD_lst, miSeq_eq, kIt_eq, miR1_eq, kR1_eq, miR2_eq, kR2_eq, mSl_eq, kSl1_eq, kSl2_eq, kSl3_eq, mNoP_eq, mPart_eq, kPart_eq, slD_tup, slD_lst, slD_rol, slD_loc, slA_eq, mIsi_eq, kIsi_eq, tyD_non, tyD_bl, tyD_int, tyD_str, tyD_tup, tyD_lst, isi_NoneType_tuple, isi_NoneType_list, isi_NoneType_int, isi_NoneType_str, isi_NoneType_bool, isi_NoneType_int_str, isi_bool_tuple, isi_bool_list, isi_bool_int, isi_bool_str, isi_bool_bool, isi_bool_int_str, isi_int_tuple, isi_int_list, isi_int_int, isi_int_str, isi_int_bool, isi_int_int_str, isi_str_tuple, isi_str_list, isi_str_int, isi_str_str, isi_str_bool, isi_str_int_str, isi_tuple_tuple, isi_tuple_list, isi_tuple_int, isi_tuple_str, isi_tuple_bool, isi_tuple_int_str, isi_list_tuple, isi_list_list, isi_list_int, isi_list_str, isi_list_bool, isi_list_int_str, mDicF_eq, kDicF_eq, mDicM_eq, kDicM_eq, dicA_eq, dicB_eq, mDic0_eq, mGet1_eq, kGet1_eq, kGet1a_eq, mGet2_eq, kGet2_eq, kGet2a_eq, kGet2b_eq, kGet3_str, kGet3_int, kForB_eq, kForS_nx, kForS_ct, kForS_bk, kForS_rt, kWh_true, kWh_false, kWhS_nx, kWhS_ct, kWhS_bk, kWhS_rt, mLc_eq, kLc_eq, kLc1_eq, kLc2_true, kLc2_false, kLc3_eq, kLc4_eq, mYes_eq, wipeE_nil, wipeE_cons, mFun_0, mFun_1, mFun_2, mFun_3, mFun_4, mFun_5, mFun_6, mFun_7, mFun_8, mFunL_0, mFunL_1, mFunL_2, mFunL_3, mFunL_4, mFunL_5, mFunL_6, mFunL_7, mFunL_8, endW_rt, endW_nx, mRev_eq, kRev_eq, miTxt_eq, kTxt_eq, oIsB_bl, oIsNotB_bl, oIn_eq, oNotIn_eq, kIn_eq, kNIn_eq, inO_sign, inA_eq, inO_tup, inO_lst, inO_loc, inL_lst, inL_dics, inL_dici, inO_dics, inO_dici, flatD_non, flatD_bl, flatD_int, flatD_str, Nat.reduceSub, Nat.reduceAdd, Nat.reduceLeDiff, Nat.reduceLT, Nat.reduceEqDiff, Int.reduceLT, Int.reduceLE, Int.reduceAdd, Int.reduceSub, Int.reduceNeg, Int.reduceMul, Int.reduceToNat, Int.reduceBEq, fits_lit, List.getElem?_cons_zero, List.getElem?_cons_succ, List.getElem?_nil, List.set_cons_zero, List.set_cons_succ, List.set_nil, List.length_cons, List.length_nil, List.length_set, List.length_map, List.length_append, List.set_set, List.replicate_succ, List.replicate_zero, List.isEmpty_nil, List.isEmpty_cons, List.nil_append, List.cons_append, List.append_assoc, Bool.not_true, Bool.not_false, decide_true, decide_false, if_true, if_false, Bool.false_eq_true, st_app, st_app0, st_set, st_set0, List.getLast?_nil, getLast_snoc, dropLast_snoc, *])
/-! spoilt values -/
theorem vok_str {L : Nat} {z : Str} (h : z.length ≤ 1000) : ∀ n : Nat, vok L n (.str z)
  | 0 => h
  | _ + 1 => h
theorem vok_int {L : Nat} {i : Int} (h : -2000 < i ∧ i < 2000) : ∀ n : Nat, vok L n (.int i)
  | 0 => h
  | _ + 1 => h
theorem vok_bl {L : Nat} {b : Bool} : ∀ n : Nat, vok L n (.bl b)
  | 0 => trivial
  | _ + 1 => trivial
theorem vok_non {L : Nat} : ∀ n : Nat, vok L n .non
  | 0 => trivial
  | _ + 1 => trivial
theorem vok_monoL {L L' : Nat} (hL : L ≤ L') : ∀ {n : Nat} {d : D}, vok L n d → vok L' n d
  | 0, .non, h => trivial
  | 0, .bl _, h => trivial
  | 0, .int _, h => h
  | 0, .str _, h => h
  | 0, .tup _, h => (h : False).elim
  | 0, .lst _, h => (h : False).elim
  | 0, .rol _, h => (h : False).elim
  | 0, .dic _, h => (h : False).elim
  | 0, .loc _, h => (h : False).elim
  | 0, .ptl _, h => (h : False).elim
  | n + 1, .non, h => trivial
  | n + 1, .bl _, h => trivial
  | n + 1, .int _, h => h
  | n + 1, .str _, h => h
  | n + 1, .tup ds, h => ⟨Nat.le_trans h.1 hL, fun x hx => vok_monoL hL (h.2 x hx)⟩
  | n + 1, .lst ds, h => ⟨Nat.le_trans h.1 hL, fun x hx => vok_monoL hL (h.2 x hx)⟩
  | n + 1, .rol _, h => (h : False).elim
  | n + 1, .dic _, h => (h : False).elim
  | n + 1, .loc _, h => (h : False).elim
  | n + 1, .ptl _, h => (h : False).elim
theorem vok.lo {L m : Nat} : ∀ {n : Nat} {d : D}, vok L n d → Mn.lo m d = true
  | 0, .non, h => rfl
  | 0, .bl _, h => rfl
  | 0, .int _, h => rfl
  | 0, .str _, h => rfl
  | 0, .tup _, h => (h : False).elim
  | 0, .lst _, h => (h : False).elim
  | 0, .rol _, h => (h : False).elim
  | 0, .dic _, h => (h : False).elim
  | 0, .loc _, h => (h : False).elim
  | 0, .ptl _, h => (h : False).elim
  | n + 1, .non, h => rfl
  | n + 1, .bl _, h => rfl
  | n + 1, .int _, h => rfl
  | n + 1, .str _, h => rfl
  | n + 1, .tup ds, h => by
    have : los m (ds.map id) = true := los_mapm ds fun x hx => (h.2 x hx).lo
    rw [List.map_id] at this
    exact this
  | n + 1, .lst ds, h => by
    have : los m (ds.map id) = true := los_mapm ds fun x hx => (h.2 x hx).lo
    rw [List.map_id] at this
    exact this
  | n + 1, .rol _, h => (h : False).elim
  | n + 1, .dic _, h => (h : False).elim
  | n + 1, .loc _, h => (h : False).elim
  | n + 1, .ptl _, h => (h : False).elim
theorem atI_mem {l : List D} {a : Int} (h : 0 ≤ a) (h2 : a < l.length) : ∃ x, x ∈ l ∧ atI l a = some x := by
  obtain ⟨x, hx, e⟩ := atI_map (f := id) (l := l) h h2
  rw [List.map_id] at e
  exact ⟨x, hx, e⟩
theorem cutD_mem {l : List D} {a b : Option Int} {x : D} (h : x ∈ cutD l a b) : x ∈ l := List.mem_of_mem_drop (List.mem_of_mem_take h)
theorem cutD_len {l : List D} {a b : Option Int} : (cutD l a b).length ≤ l.length := by
  unfold cutD
  rw [List.length_take, List.length_drop]
  omega
theorem cutD_last {l : List D} : (cutD l (some (-1)) none).length ≤ 1 := by
  unfold cutD
  rw [List.length_take, List.length_drop]
  have : HT.sIx l.length 0 (some (-1)) = ((-1 : Int) + l.length).toNat := rfl
  rw [this]
  omega
theorem cutD_hi {l : List D} {v : Int} (h : 0 ≤ v) : cutD l none (some v) = l.take v.toNat := by
  have := cut_hi (f := id) (l := l) h
  simpa using this
theorem cutD_lo {l : List D} {v : Int} (h : 0 ≤ v) (h2 : v ≤ l.length) : cutD l (some v) none = l.drop v.toNat := by
  have := cut_lo (f := id) (l := l) h h2
  simpa using this
section
variable {st : Store} {lc : Nat} {ns : List Int} {L : Nat}
def strsL : List Str := ["end", "stop", "tell", "call", "draw", "p", "q", "", "2p", "abcdefgh", "abcdefghi", "P", "a_"]
theorem strs_short : ∀ x ∈ strsL, x.length ≤ 1000 := by decide +kernel
theorem spoil_spec (h : lc < st.length) (hL : L ≤ 5) : ∀ (n k : Nat) (d : D) (K : Int) (s : CSt), n < k → vok L n d → Good ns K s → K + 2 * n + 2 < 1000000000000000000 →
    ∃ d' s', F__law_spoilt k [.loc lc, d] (cst st lc ns s) = some (d', cst st lc ns s') ∧ vok (L + 1) (n + 1) d' ∧ Good ns (K + 2 * n + 2) s' := by
  intro n
  induction n with
  | zero => ?z
  | succ n ih => ?s
  all_goals intro k d K s hk hv hg hK
  all_goals obtain ⟨k, rfl⟩ : ∃ j, k = j + 1 := ⟨k - 1, by omega⟩
  -- what comes of a thing without parts
  all_goals
    have flat : (∀ n : Nat, (∃ x, d = .str x) → ∃ d' s', F__law_spoilt (k + 1) [.loc lc, d] (cst st lc ns s) = some (d', cst st lc ns s') ∧ vok (L + 1) (n + 1) d' ∧ Good ns (K + 1) s') := by
      rintro n ⟨x, rfl⟩
      obtain ⟨t, s1, e1, ht, g1⟩ := take_spec h hg (by omega) (m := 14) (by omega) (by omega)
      obtain ⟨y, hy, a1⟩ := atI_mem (l := strsL.map D.str ++ [D.int 0]) ht.1 (by have : (strsL.map D.str ++ [D.int 0]).length = 14 := rfl; omega)
      have hv' : vok (L + 1) (n + 1) y := by
        rcases List.mem_append.mp hy with hy | hy
        · obtain ⟨z, hz, rfl⟩ := List.mem_map.mp hy
          exact vok_str (strs_short z hz) _
        · rw [List.mem_singleton] at hy
          subst hy
          exact vok_int ⟨by decide, by decide⟩ _
      refine ⟨y, s1, ?_, hv', g1⟩
      have fe := fin_cst (st := st) (lc := lc) (ns := ns) (s := s) (s' := s1) h hv'.lo
      unfold strsL at a1
      simp only [List.map_cons, List.map_nil, List.cons_append, List.nil_append] at a1
      show mFun 5 2 (B__law_spoilt k (F__law_spoilt k)) _ _ = _
      unfold B__law_spoilt
      clear hv' hy hv hg hK hk hL
      l_intsC
    have odd : (∀ n : Nat, (hd1 d ∧ (∀ x, d ≠ .str x) ∧ (∀ y r, d ≠ .tup (y :: r))) → ∃ d' s', F__law_spoilt (k + 1) [.loc lc, d] (cst st lc ns s) = some (d', cst st lc ns s') ∧ vok (L + 1) (n + 1) d' ∧ Good ns (K + 1) s') := by
      rintro n ⟨o1, o2, o3⟩
      obtain ⟨t, s1, e1, ht, g1⟩ := take_spec h hg (by omega) (m := 10) (by omega) (by omega)
      obtain ⟨y, hy, a1⟩ := atI_mem (l := [.int 0, .int 1, .int 2, .int 3, .bl true, .int (-1), .non, .tup [], .str "end", .tup [.str "end"]]) ht.1 ht.2
      have hv' : vok (L + 1) (n + 1) y := by
        simp only [List.mem_cons, List.not_mem_nil, or_false] at hy
        rcases hy with rfl | rfl | rfl | rfl | rfl | rfl | rfl | rfl | rfl | rfl
        · exact vok_int ⟨by decide, by decide⟩ _
        · exact vok_int ⟨by decide, by decide⟩ _
        · exact vok_int ⟨by decide, by decide⟩ _
        · exact vok_int ⟨by decide, by decide⟩ _
        · exact vok_bl _
        · exact vok_int ⟨by decide, by decide⟩ _
        · exact vok_non _
        · exact ⟨by simp, fun x hx => (List.not_mem_nil hx).elim⟩
        · exact vok_str (by decide +kernel) _
        · exact ⟨by simp, fun x hx => by
            rw [List.mem_singleton] at hx
            subst hx
            exact vok_str (by decide +kernel) _⟩
      refine ⟨y, s1, ?_, hv', g1⟩
      have fe := fin_cst (st := st) (lc := lc) (ns := ns) (s := s) (s' := s1) h hv'.lo
      show mFun 5 2 (B__law_spoilt k (F__law_spoilt k)) _ _ = _
      unfold B__law_spoilt R__law_spoilt_3
      clear hv' hy hv hg hK hk hL
      cases d with
      | str x => exact absurd rfl (o2 x)
      | tup ds =>
        cases ds with
        | nil => clear o1 o2 o3; l_intsC
        | cons y r => exact absurd rfl (o3 y r)
      | _ => first | exact (o1 : False).elim | (clear o1 o2 o3; l_intsC)
  case z =>
    by_cases c : ∃ x, d = .str x
    · obtain ⟨d', s', e, v, g⟩ := flat 0 c
      exact ⟨d', s', e, v, g.mono (by omega)⟩
    · obtain ⟨d', s', e, v, g⟩ := odd 0 ⟨hv.hd, fun x e => c ⟨x, e⟩, fun y r e => by subst e; exact hv⟩
      exact ⟨d', s', e, v, g.mono (by omega)⟩
  case s =>
    push_cast at hK ⊢
    by_cases c : ∃ x, d = .str x
    · obtain ⟨d', s', e, v, g⟩ := flat (n + 1) c
      exact ⟨d', s', e, v, g.mono (by omega)⟩
    by_cases c2 : ∃ y r, d = .tup (y :: r)
    · obtain ⟨y, r, rfl⟩ := c2
      clear flat odd c
      obtain ⟨ds, hds⟩ : ∃ ds, ds = y :: r := ⟨_, rfl⟩
      have hne : ds.isEmpty = false := by rw [hds]; rfl
      have hpos : 0 < ds.length := by rw [hds]; simp
      rw [← hds] at hv ⊢
      clear hds
      have hlen : ds.length ≤ L := hv.1
      have hel : ∀ x ∈ ds, vok (L + 1) (n + 1) x := fun x hx => vok_monoL (by omega) (vok_mono (by omega) (hv.2 x hx))
      obtain ⟨t, s1, e1, ht, g1⟩ := take_spec h hg (by omega) (m := 6) (by omega) (by omega)
      show ∃ d' s', mFun 5 2 (B__law_spoilt k (F__law_spoilt k)) _ _ = _ ∧ _
      by_cases t0 : t = 0
      · subst t0
        obtain ⟨u, s2, e2, hu, g2⟩ := take_spec h g1 (by omega) (m := 10) (by omega) (by omega)
        obtain ⟨z, hz, a1⟩ := atI_mem (l := [.tup (cutD ds (some 1) none), .tup (cutD ds none (some (-1))), .tup (ds ++ cutD ds (some (-1)) none), .tup ds.reverse, .lst ds, .tup [.str "end"], .tup [.str "stop"], .tup [.tup ds], .tup [.int 1, .int 2], .tup [.int 2, .int 4]]) hu.1 hu.2
        have hcut : ∀ a b, vok (L + 1) (n + 1 + 1) (.tup (cutD ds a b)) := fun a b => ⟨Nat.le_trans cutD_len (by omega), fun x hx => hel x (cutD_mem hx)⟩
        have hl2 : ds.length + (cutD ds (some (-1)) none).length ≤ 1000000 := by have := cutD_last (l := ds); omega
        have hstr : ∀ x : Str, x.length ≤ 1000 → vok (L + 1) (n + 1 + 1) (.tup [.str x]) := fun x hx => ⟨by simp, fun q hq => by
          rw [List.mem_singleton] at hq
          subst hq
          exact vok_str hx _⟩
        have hv' : vok (L + 1) (n + 1 + 1) z := by
          simp only [List.mem_cons, List.not_mem_nil, or_false] at hz
          rcases hz with rfl | rfl | rfl | rfl | rfl | rfl | rfl | rfl | rfl | rfl
          · exact hcut _ _
          · exact hcut _ _
          · refine ⟨?_, fun x hx => ?_⟩
            · rw [List.length_append]
              have := cutD_last (l := ds)
              omega
            · rcases List.mem_append.mp hx with hx | hx
              · exact hel x hx
              · exact hel x (cutD_mem hx)
          · exact ⟨by rw [List.length_reverse]; omega, fun x hx => hel x (List.mem_reverse.mp hx)⟩
          · exact ⟨by omega, hel⟩
          · exact hstr _ (by decide +kernel)
          · exact hstr _ (by decide +kernel)
          · exact ⟨by simp, fun q hq => by
              rw [List.mem_singleton] at hq
              subst hq
              exact ⟨by omega, fun x hx => vok_monoL (by omega) (hv.2 x hx)⟩⟩
          · exact ⟨by simp; omega, fun q hq => by
              simp only [List.mem_cons, List.not_mem_nil, or_false] at hq
              rcases hq with rfl | rfl <;> exact vok_int ⟨by decide, by decide⟩ _⟩
          · exact ⟨by simp; omega, fun q hq => by
              simp only [List.mem_cons, List.not_mem_nil, or_false] at hq
              rcases hq with rfl | rfl <;> exact vok_int ⟨by decide, by decide⟩ _⟩
        refine ⟨z, s2, ?_, hv', g2.mono (by omega)⟩
        have fe := fin_cst (st := st) (lc := lc) (ns := ns) (s := s) (s' := s2) h hv'.lo
        unfold B__law_spoilt R__law_spoilt_3 R__law_spoilt_2
        have q0 : ((0 : Int) == 0) = true := rfl
        clear hv' hz hv hg hK hk hL hcut hstr hel hlen ih
        l_intsC
      · have q0 : (t == 0) = false := by simpa using t0
        obtain ⟨u, s2, e2, hu, g2⟩ := take_spec h g1 (by omega) (m := (ds.length : Int)) (by omega) (by omega)
        obtain ⟨z, hz, a1⟩ := atI_mem (l := ds) hu.1 hu.2
        obtain ⟨z', s3, e3, v3, g3⟩ := ih k z _ s2 (by omega) (hv.2 z hz) g2 (by omega)
        have c1 := cutD_hi (l := ds) hu.1
        have c2 := cutD_lo (l := ds) (v := u + 1) (by omega) (by omega)
        have l1 : (ds.take u.toNat).length + 1 ≤ 1000000 := by rw [List.length_take]; omega
        have l2 : (ds.take u.toNat).length + 1 + (ds.drop (u + 1).toNat).length ≤ 1000000 := by rw [List.length_take, List.length_drop]; omega
        have hv' : vok (L + 1) (n + 1 + 1) (.tup (ds.take u.toNat ++ z' :: ds.drop (u + 1).toNat)) := by
          refine ⟨?_, fun x hx => ?_⟩
          · rw [List.length_append, List.length_cons, List.length_take, List.length_drop]
            omega
          · rcases List.mem_append.mp hx with hx | hx
            · exact hel x (List.mem_of_mem_take hx)
            · rcases List.mem_cons.mp hx with rfl | hx
              · exact v3
              · exact hel x (List.mem_of_mem_drop hx)
        refine ⟨_, s3, ?_, hv', g3.mono (by omega)⟩
        have fe := fin_cst (st := st) (lc := lc) (ns := ns) (s := s) (s' := s3) h hv'.lo
        unfold B__law_spoilt R__law_spoilt_3 R__law_spoilt_2 R__law_spoilt_1
        clear hv' hz hv hg hK hk hL hel hlen ih v3 t0
        l_intsC
    · obtain ⟨d', s', e, v, g⟩ := odd (n + 1) ⟨hv.hd, fun x e => c ⟨x, e⟩, fun y r e => c2 ⟨y, r, e⟩⟩
      exact ⟨d', s', e, v, g.mono (by omega)⟩
end
end K30
end
section
set_option Elab.async false
set_option autoImplicit false
set_option linter.all false
set_option maxRecDepth 100000
set_option maxHeartbeats 2000000
namespace K30
open PySem L2 Mn
local macro_rules | `(tactic| l_ints) => `(tactic| simp only [bnd_some', ret1_some', sSeq_eq, kThen_nx, kThen_rt, kThen_bk, kThen_ct, sNil_eq, sAsg_eq, kAsg_eq, sDrop_eq, kDrop_eq, sRet_eq, kRet_eq, sRetN_eq, sBreak_eq, sCont_eq, sIf_eq, kIf_true, kIf_false, sTgt_eq, kTgt1_eq, kTgt2_eq, sPar_eq, kPar2_eq, sPar3_eq, kPar3_eq, sFor_eq, kFor_eq, sAug_eq, kAug_eq, kAug1_eq, mV_eq, kGot_eq, mC_eq, mOp_eq, kOp1_eq, kOp2_eq, mTB_eq, kB_eq, mAnd_eq, kAnd_true, kAnd_false, mOr_eq, kOr_true, kOr_false, mNot_eq, kNot_eq, mIte_eq, kIte_true, kIte_false, mAndV_eq, kAndV_true, kAndV_false, mOrV_eq, kOrV_true, kOrV_false, mNotV_eq, kNotV_eq, mNil_eq, mCons_eq, kCons1_eq, kCons2_eq, mTup_eq, kTup_eq, mLst_eq, kLst_eq, mFrz_eq, kFrz_eq, mMut_eq, kMut_eq, mCall_eq, mCB_eq, kCB_eq, mCBL_eq, kCBL_eq, mTr_eq, kTr_eq, mNeg_eq, kNeg_eq, mChain_eq, kChn1_eq, kChn2_eq, kChn_true, kChn_false, gN_eq, gsN_eq, gsC_eq, kGs_eq, gT_eq, gTp_eq, gSet_eq, kSet1_eq, kSet2_eq, kSetE_eq, setO_eq, setL_nat, setL_lit, setL_str, mMt_eq, kMt1_eq, kMt1'_eq, kMt2_eq, kMt2'_eq, kMt3_eq, fApp_eq, fPop_eq, kPop_eq, getLast_snoc, dropLast_snoc, fExt_eq, kExt_eq, oAdd_int, oAdd_str, oAdd_tup, oAdd_lst, oAdd_loc, kCat_eq, lstD_lst, lstD_loc, isLst_eq, seqD_tup, seqD_lst, seqD_rol, seqD_loc, dicD_dic, dicD_loc, isDic_eq, oSub_int, oMul_int, oDiv_int, oMod_int, oI_plus, oI_minus, oLt_int, oLe_int, oGt_int, oGe_int, oEq_int, oEq_str, oEq_bl, oNe_int, oNe_str, oNe_bl, oIs_non, oIsNot_non, isN_non, isN_int, isN_bl, isN_str, isN_tup, isN_lst, isN_loc, atI_lit, atI_natc, atI_neg1, ixO_tup, ixO_lst, ixO_dics, ixO_dici, ixO_locs, ixO_loci, ixL_lst, ixL_dics, ixL_dici, cLen_tup, cLen_lst, cLen_dic, cLen_loc, lenL_lst, lenL_dic, cInt_int, cInt_bl, cAbs_int, cTup_tup, cTup_lst, cTup_loc, tupL_eq, cList_eq, cBls_lst, blsA_eq, fAll_eq, fAny_eq, truD_lst, truD_tup, truD_bl, truD_int, truD_non, truD_loc, truL_lst, truL_dic, itD_tup, itD_lst, miSeq_eq, kIt_eq, miR1_eq, kR1_eq, miR2_eq, kR2_eq, mSl_eq, kSl1_eq, kSl2_eq, kSl3_eq, mNoP_eq, mPart_eq, kPart_eq, slD_tup, slD_lst, slD_rol, slD_loc, slA_eq, mIsi_eq, kIsi_eq, tyD_non, tyD_bl, tyD_int, tyD_str, tyD_tup, tyD_lst, isi_NoneType_tuple, isi_NoneType_list, isi_NoneType_int, isi_NoneType_str, isi_NoneType_bool, isi_NoneType_int_str, isi_bool_tuple, isi_bool_list, isi_bool_int, isi_bool_str, isi_bool_bool, isi_bool_int_str, isi_int_tuple, isi_int_list, isi_int_int, isi_int_str, isi_int_bool, isi_int_int_str, isi_str_tuple, isi_str_list, isi_str_int, isi_str_str, isi_str_bool, isi_str_int_str, isi_tuple_tuple, isi_tuple_list, isi_tuple_int, isi_tuple_str, isi_tuple_bool, isi_tuple_int_str, isi_list_tuple, isi_list_list, isi_list_int, isi_list_str, isi_list_bool, isi_list_int_str, mDicF_eq, kDicF_eq, mDicM_eq, kDicM_eq, dicA_eq, dicB_eq, mDic0_eq, mGet1_eq, kGet1_eq, kGet1a_eq, mGet2_eq, kGet2_eq, kGet2a_eq, kGet2b_eq, kGet3_str, kGet3_int, kForB_eq, kForS_nx, kForS_ct, kForS_bk, kForS_rt, kWh_true, kWh_false, kWhS_nx, kWhS_ct, kWhS_bk, kWhS_rt, mLc_eq, kLc_eq, kLc1_eq, kLc2_true, kLc2_false, kLc3_eq, kLc4_eq, mYes_eq, wipeE_nil, wipeE_cons, mFun_0, mFun_1, mFun_2, mFun_3, mFun_4, mFun_5, mFun_6, mFun_7, mFun_8, mFunL_0, mFunL_1, mFunL_2, mFunL_3, mFunL_4, mFunL_5, mFunL_6, mFunL_7, mFunL_8, endW_rt, endW_nx, mRev_eq, kRev_eq, miTxt_eq, kTxt_eq, oIsB_bl, oIsNotB_bl, oIn_eq, oNotIn_eq, kIn_eq, kNIn_eq, inO_sign, inA_eq, inO_tup, inO_lst, inO_loc, inL_lst, inL_dics, inL_dici, inO_dics, inO_dici, flatD_non, flatD_bl, flatD_int, flatD_str, Nat.reduceSub, Nat.reduceAdd, Nat.reduceLeDiff, Nat.reduceLT, Nat.reduceEqDiff, Int.reduceLT, Int.reduceLE, Int.reduceAdd, Int.reduceSub, Int.reduceNeg, Int.reduceMul, Int.reduceToNat, Int.reduceBEq, fits_lit, List.getElem?_cons_zero, List.getElem?_cons_succ, List.getElem?_nil, List.set_cons_zero, List.set_cons_succ, List.set_nil, List.length_cons, List.length_nil, List.length_set, List.length_map, List.length_append, List.set_set, List.replicate_succ, List.replicate_zero, List.isEmpty_nil, List.isEmpty_cons, List.nil_append, List.cons_append, List.append_assoc, Bool.not_true, Bool.not_false, decide_true, decide_false, if_true, if_false, Bool.false_eq_true, st_app, st_app0, st_set, st_set0, List.getLast?_nil, getLast_snoc, dropLast_snoc])
local macro_rules | `(tactic| l_intsC) => `(tactic| simp only [bnd_some', ret1_some', sSeq_eq, kThen_nx, kThen_rt, kThen_bk, kThen_ct, sNil_eq, sAsg_eq, kAsg_eq, sDrop_eq, kDrop_eq, sRet_eq, kRet_eq, sRetN_eq, sBreak_eq, sCont_eq, sIf_eq, kIf_true, kIf_false, sTgt_eq, kTgt1_eq, kTgt2_eq, sPar_eq, kPar2_eq, sPar3_eq, kPar3_eq, sFor_eq, kFor_eq, sAug_eq, kAug_eq, kAug1_eq, mV_eq, kGot_eq, mC_eq, mOp_eq, kOp1_eq, kOp2_eq, mTB_eq, kB_eq, mAnd_eq, kAnd_true, kAnd_false, mOr_eq, kOr_true, kOr_false, mNot_eq, kNot_eq, mIte_eq, kIte_true, kIte_false, mAndV_eq, kAndV_true, kAndV_false, mOrV_eq, kOrV_true, kOrV_false, mNotV_eq, kNotV_eq, mNil_eq, mCons_eq, kCons1_eq, kCons2_eq, mTup_eq, kTup_eq, mLst_eq, kLst_eq, mFrz_eq, kFrz_eq, mMut_eq, kMut_eq, mCall_eq, mCB_eq, kCB_eq, mCBL_eq, kCBL_eq, mTr_eq, kTr_eq, mNeg_eq, kNeg_eq, mChain_eq, kChn1_eq, kChn2_eq, kChn_true, kChn_false, gN_eq, gsN_eq, gsC_eq, kGs_eq, gT_eq, gTp_eq, gSet_eq, kSet1_eq, kSet2_eq, kSetE_eq, setO_eq, setL_nat, setL_lit, setL_str, mMt_eq, kMt1_eq, kMt1'_eq, kMt2_eq, kMt2'_eq, kMt3_eq, fApp_eq, fPop_eq, kPop_eq, getLast_snoc, dropLast_snoc, fExt_eq, kExt_eq, oAdd_int, oAdd_str, oAdd_tup, oAdd_lst, oAdd_loc, kCat_eq, lstD_lst, lstD_loc, isLst_eq, seqD_tup, seqD_lst, seqD_rol, seqD_loc, dicD_dic, dicD_loc, isDic_eq, oSub_int, oMul_int, oDiv_int, oMod_int, oI_plus, oI_minus, oLt_int, oLe_int, oGt_int, oGe_int, oEq_int, oEq_str, oEq_bl, oNe_int, oNe_str, oNe_bl, oIs_non, oIsNot_non, isN_non, isN_int, isN_bl, isN_str, isN_tup, isN_lst, isN_loc, atI_lit, atI_natc, atI_neg1, ixO_tup, ixO_lst, ixO_dics, ixO_dici, ixO_locs, ixO_loci, ixL_lst, ixL_dics, ixL_dici, cLen_tup, cLen_lst, cLen_dic, cLen_loc, lenL_lst, lenL_dic, cInt_int, cInt_bl, cAbs_int, cTup_tup, cTup_lst, cTup_loc, tupL_eq, cList_eq, cBls_lst, blsA_eq, fAll_eq, fAny_eq, truD_lst, truD_tup, truD_bl, truD_int, truD_non, truD_loc, truL_lst, truL_dic, itD_tup, itD_lst, miSeq_eq, kIt_eq, miR1_eq, kR1_eq, miR2_eq, kR2_eq, mSl_eq, kSl1_eq, kSl2_eq, kSl3_eq, mNoP_eq, mPart_eq, kPart_eq, slD_tup, slD_lst, slD_rol, slD_loc, slA_eq, mIsi_eq, kIsi_eq, tyD_non, tyD_bl, tyD_int, tyD_str, tyD_tup, tyD_lst, isi_NoneType_tuple, isi_NoneType_list, isi_NoneType_int, isi_NoneType_str, isi_NoneType_bool, isi_NoneType_int_str, isi_bool_tuple, isi_bool_list, isi_bool_int, isi_bool_str, isi_bool_bool, isi_bool_int_str, isi_int_tuple, isi_int_list, isi_int_int, isi_int_str, isi_int_bool, isi_int_int_str, isi_str_tuple, isi_str_list, isi_str_int, isi_str_str, isi_str_bool, isi_str_int_str, isi_tuple_tuple, isi_tuple_list, isi_tuple_int, isi_tuple_str, isi_tuple_bool, isi_tuple_int_str, isi_list_tuple, isi_list_list, isi_list_int, isi_list_str, isi_list_bool, isi_list_int_str, mDicF_eq, kDicF_eq, mDicM_eq, kDicM_eq, dicA_eq, dicB_eq, mDic0_eq, mGet1_eq, kGet1_eq, kGet1a_eq, mGet2_eq, kGet2_eq, kGet2a_eq, kGet2b_eq, kGet3_str, kGet3_int, kForB_eq, kForS_nx, kForS_ct, kForS_bk, kForS_rt, kWh_true, kWh_false, kWhS_nx, kWhS_ct, kWhS_bk, kWhS_rt, mLc_eq, kLc_eq, kLc1_eq, kLc2_true, kLc2_false, kLc3_eq, kLc4_eq, mYes_eq, wipeE_nil, wipeE_cons, mFun_0, mFun_1, mFun_2, mFun_3, mFun_4, mFun_5, mFun_6, mFun_7, mFun_8, mFunL_0, mFunL_1, mFunL_2, mFunL_3, mFunL_4, mFunL_5, mFunL_6, mFunL_7, mFunL_8, endW_rt, endW_nx, mRev_eq, kRev_eq, miTxt_eq, kTxt_eq, oIsB_bl, oIsNotB_bl, oIn_eq, oNotIn_eq, kIn_eq, kNIn_eq, inO_sign, inA_eq, inO_tup, inO_lst, inO_loc, inL_lst, inL_dics, inL_dici, inO_dics, inO_dici, flatD_non, flatD_bl, flatD_int, flatD_str, Nat.reduceSub, Nat.reduceAdd, Nat.reduceLeDiff, Nat.reduceLT, Nat.reduceEqDiff, Int.reduceLT, Int.reduceLE, Int.reduceAdd, Int.reduceSub, Int.reduceNeg, Int.reduceMul, Int.reduceToNat, Int.reduceBEq, fits_lit, List.getElem?_cons_zero, List.getElem?_cons_succ, List.getElem?_nil, List.set_cons_zero, List.set_cons_succ, List.set_nil, List.length_cons, List.length_nil, List.length_set, List.length_map, List.length_append, List.set_set, List.replicate_succ, List.replicate_zero, List.isEmpty_nil, List.isEmpty_cons, List.nil_append, List.cons_append, List.append_assoc, Bool.not_true, Bool.not_false, decide_true, decide_false, if_true, if_false, Bool.false_eq_true, st_app, st_app0, st_set, st_set0, List.getLast?_nil, getLast_snoc, dropLast_snoc, *])
/-! the program that is made is one -/
theorem ok_frac {r : Int × Int} (h : okF r = true) : fracB (eF r) = true ∧ (-2000 < r.1 ∧ r.1 < 2000) ∧ (-2000 < r.2 ∧ r.2 < 2000) := by
  simp only [okF, Bool.and_eq_true, decide_eq_true_eq] at h
  obtain ⟨⟨h1, h2, h3⟩, h4, h5⟩ := h
  refine ⟨?_, by omega, by omega⟩
  show (decide (0 < r.2) && (decide (0 < r.1) && ((Int.gcd r.1 r.2 : Int) == 1))) = true
  rw [h3]
  simp [h1, h2]
theorem cut_ok_inv {rs : List (Int × Int)} (h : CutOK rs = true) : (∀ r ∈ rs, okF r = true) ∧ ((rs.foldl fplus (0, 1)).1 == 1 && (rs.foldl fplus (0, 1)).2 == 1) = true ∧ rs.isEmpty = false ∧ rs.length ≤ 3 := by
  have hl : rs.length ≤ 3 := by
    simp only [CutOK, Bool.and_eq_true, decide_eq_true_eq] at h
    exact h.2
  simp only [CutOK, Bool.and_eq_true] at h
  obtain ⟨⟨⟨⟨⟨⟨⟨h1, s1, s2⟩, h3⟩, _⟩, _⟩, _⟩, _⟩, _⟩ := h
  exact ⟨fun r hr => List.all_eq_true.mp h1 r hr, by rw [s1, s2]; rfl, by simpa using h3, hl⟩
theorem fr_row (r : (Int × Int) × D) : fr (.tup [eF r.1, r.2]) = r.1 := rfl
theorem rows_has {rs : List ((Int × Int) × D)} (h : CutOK (rs.map (·.1)) = true) : hasB (.tup (rs.map fun r => .tup [eF r.1, r.2])) = true := by
  obtain ⟨h1, h2, h3, _⟩ := cut_ok_inv h
  have e : (rs.map fun r => D.tup [eF r.1, r.2]).map fr = rs.map (·.1) := by
    rw [List.map_map]
    rfl
  have a : (rs.map fun r => D.tup [eF r.1, r.2]).all rowB = true := by
    rw [List.all_map, List.all_eq_true]
    intro r hr
    exact (ok_frac (h1 r.1 (List.mem_map.mpr ⟨r, hr, rfl⟩))).1
  have em : (rs.map fun r => D.tup [eF r.1, r.2]).isEmpty = false := by
    cases rs
    · cases h3
    · rfl
  show (!(rs.map fun r => D.tup [eF r.1, r.2]).isEmpty && ((rs.map fun r => D.tup [eF r.1, r.2]).all rowB && sumB (rs.map fun r => D.tup [eF r.1, r.2]))) = true
  unfold sumB
  rw [em, a, e, h2]
  rfl
theorem tell_names : ∀ x ∈ tellS, nameZ x = true := by decide +kernel
theorem name_names : ∀ x ∈ nameS, nameZ x = true := by decide +kernel
theorem tg : (("end" : Str) == "end" || ("stop" : Str) == "end") = true ∧ (("end" : Str) == "stop" || ("stop" : Str) == "stop") = true ∧
    (("end" : Str) == "tell" || ("stop" : Str) == "tell") = false ∧ (("tell" : Str) == "tell" || ("call" : Str) == "tell") = true ∧ (("tell" : Str) == "call") = false ∧
    (("end" : Str) == "call" || ("stop" : Str) == "call") = false ∧ (("tell" : Str) == "call" || ("call" : Str) == "call") = true ∧ (("call" : Str) == "call") = true ∧
    (("end" : Str) == "draw" || ("stop" : Str) == "draw") = false ∧ (("tell" : Str) == "draw" || ("call" : Str) == "draw") = false ∧ (("draw" : Str) == "draw") = true := by decide +kernel
theorem isB_ok {nm : List Str} (hn : ∀ x ∈ nm, x ∈ nameS) : ∀ (m n : Nat) (d : D), m ≤ n → IsB nm m d → bodyB nm n d = true
  | 0, _, _, _, h => h.elim
  | m + 1, 0, _, h, _ => absurd h (by omega)
  | m + 1, n + 1, d, hm, h => by
    obtain ⟨t1, t2, t3, t4, t5, t6, t7, t8, t9, t10, t11⟩ := tg
    rcases h with rfl | rfl | ⟨x, b, hx, rfl, hb⟩ | ⟨x, b, hx, rfl, hb⟩ | ⟨rs, rfl, hc, hr⟩
    · rw [bodyB_cmd]
      simp only [cmdB, t1, if_true, List.all_nil]
    · rw [bodyB_cmd]
      simp only [cmdB, t2, if_true, List.all_nil]
    · rw [bodyB_cmd]
      have hz : nameB (.str x) = true := tell_names x hx
      have hb' := isB_ok hn m n b (by omega) hb
      simp only [cmdB, t3, t4, t5, hz, if_true, Bool.false_eq_true, if_false, Bool.false_and, Bool.not_false, Bool.true_and, List.all_cons, List.all_nil, hb', Bool.and_true]
    · rw [bodyB_cmd]
      have hz : nameB (.str x) = true := name_names x (hn x hx)
      have hi : nmIn nm (.str x) = true := decide_eq_true hx
      have hb' := isB_ok hn m n b (by omega) hb
      simp only [cmdB, t6, t7, t8, hz, hi, Bool.or_true, if_true, Bool.false_eq_true, if_false, Bool.not_true, Bool.and_false, Bool.not_false, Bool.true_and, List.all_cons, List.all_nil, hb', Bool.and_true]
    · rw [bodyB_cmd]
      have hh := rows_has hc
      simp only [cmdB, t9, t10, t11, hh, if_true, Bool.false_eq_true, if_false]
      show (((rs.map fun r => D.tup [eF r.1, r.2]).map sndD).all (bodyB nm n)) = true
      rw [List.map_map, List.all_map, List.all_eq_true]
      intro r hr2
      exact isB_ok hn m n r.2 (by omega) (hr r hr2)
theorem isB_vok {nm : List Str} (hn : ∀ x ∈ nm, x ∈ nameS) : ∀ (m : Nat) (d : D), IsB nm m d → vok 4 (3 * m + 1) d
  | 0, _, h => h.elim
  | m + 1, d, h => by
    have e3 : 3 * (m + 1) + 1 = 3 * m + 1 + 1 + 1 + 1 := by omega
    rw [e3]
    have ss : ∀ z : Str, z ∈ tellS ∨ z ∈ nameS ∨ z ∈ strsL → z.length ≤ 1000 := by
      rintro z (hz | hz | hz)
      · exact (by decide +kernel : ∀ z ∈ tellS, z.length ≤ 1000) z hz
      · exact (by decide +kernel : ∀ z ∈ nameS, z.length ≤ 1000) z hz
      · exact strs_short z hz
    rcases h with rfl | rfl | ⟨x, b, hx, rfl, hb⟩ | ⟨x, b, hx, rfl, hb⟩ | ⟨rs, rfl, hc, hr⟩
    · exact ⟨by simp, fun q hq => by
        rw [List.mem_singleton] at hq
        subst hq
        exact vok_str (by decide +kernel) _⟩
    · exact ⟨by simp, fun q hq => by
        rw [List.mem_singleton] at hq
        subst hq
        exact vok_str (by decide +kernel) _⟩
    · have hb' := isB_vok hn m b hb
      refine ⟨by simp, fun q hq => ?_⟩
      simp only [List.mem_cons, List.not_mem_nil, or_false] at hq
      rcases hq with rfl | rfl | rfl
      · exact vok_str (by decide +kernel) _
      · exact vok_str (ss x (.inl hx)) _
      · exact vok_mono (by omega) hb'
    · have hb' := isB_vok hn m b hb
      refine ⟨by simp, fun q hq => ?_⟩
      simp only [List.mem_cons, List.not_mem_nil, or_false] at hq
      rcases hq with rfl | rfl | rfl
      · exact vok_str (by decide +kernel) _
      · exact vok_str (ss x (.inr (.inl (hn x hx)))) _
      · exact vok_mono (by omega) hb'
    · obtain ⟨h1, _, _, h4⟩ := cut_ok_inv hc
      rw [List.length_map] at h4
      refine ⟨by simp, fun q hq => ?_⟩
      simp only [List.mem_cons, List.not_mem_nil, or_false] at hq
      rcases hq with rfl | rfl
      · exact vok_str (by decide +kernel) _
      · refine ⟨by rw [List.length_map]; omega, fun q hq => ?_⟩
        obtain ⟨r, hr2, rfl⟩ := List.mem_map.mp hq
        have ok := ok_frac (h1 r.1 (List.mem_map.mpr ⟨r, hr2, rfl⟩))
        refine ⟨by simp, fun q hq => ?_⟩
        simp only [List.mem_cons, List.not_mem_nil, or_false] at hq
        rcases hq with rfl | rfl
        · refine ⟨by simp, fun q hq => ?_⟩
          simp only [List.mem_cons, List.not_mem_nil, or_false] at hq
          rcases hq with rfl | rfl
          · exact vok_int ok.2.1 _
          · exact vok_int ok.2.2 _
        · exact isB_vok hn m r.2 (hr r hr2)
theorem names_prog : ∀ (pr : List (Str × D)) (pre : List Str), (∀ x ∈ pr.map (·.1), x ∈ nameS) → (pre ++ pr.map (·.1)).Nodup → namesP pre (pr.map fun r => .tup [.str r.1, r.2]) = some (pre ++ pr.map (·.1))
  | [], pre, _, _ => by simp [namesP]
  | r :: pr, pre, h, hd => by
    have hz := name_names r.1 (h r.1 (by simp))
    have hx : r.1 ∉ pre := fun hx => by
      rw [List.nodup_append] at hd
      exact hd.2.2 r.1 hx r.1 (by simp) rfl
    have e : nextP pre (.tup [.str r.1, r.2]) = some r.1 := by
      show (if nameZ r.1 = true ∧ r.1 ∉ pre then some r.1 else none) = some r.1
      rw [if_pos ⟨hz, hx⟩]
    rw [List.map_cons]
    show (match nextP pre (.tup [.str r.1, r.2]) with | some x => namesP (pre ++ [x]) (pr.map fun r : Str × D => D.tup [.str r.1, r.2]) | none => none) = _
    rw [e]
    show namesP (pre ++ [r.1]) (pr.map fun r : Str × D => D.tup [.str r.1, r.2]) = _
    rw [names_prog pr (pre ++ [r.1]) (fun x hx => h x (by simp at hx ⊢; exact .inr hx)) (by rw [List.append_assoc]; exact hd)]
    simp
theorem prog_ok {pr : List (Str × D)} (h0 : 0 < pr.length) (hn : ∀ x ∈ pr.map (·.1), x ∈ nameS) (hd : (pr.map (·.1)).Nodup) (hb : ∀ r ∈ pr, IsB (pr.map (·.1)) 8 r.2) : progB 27 (progD pr) = true := by
  have e := names_prog pr [] hn (by simpa using hd)
  have em : (pr.map fun r => D.tup [.str r.1, r.2]).isEmpty = false := by
    cases pr
    · cases h0
    · rfl
  unfold progB progD
  simp only [e, em, Bool.not_false, Bool.true_and, List.nil_append]
  rw [List.all_map, List.all_eq_true]
  intro r hr
  exact isB_ok hn 8 27 r.2 (by omega) (hb r hr)
theorem prog_vok {pr : List (Str × D)} (h0 : pr.length ≤ 4) (hn : ∀ x ∈ pr.map (·.1), x ∈ nameS) (hb : ∀ r ∈ pr, IsB (pr.map (·.1)) 8 r.2) : vok 4 27 (progD pr) := by
  refine ⟨by rw [List.length_map]; exact h0, fun q hq => ?_⟩
  obtain ⟨r, hr, rfl⟩ := List.mem_map.mp hq
  refine ⟨by simp, fun q hq => ?_⟩
  simp only [List.mem_cons, List.not_mem_nil, or_false] at hq
  rcases hq with rfl | rfl
  · exact vok_str ((by decide +kernel : ∀ z ∈ nameS, z.length ≤ 1000) r.1 (hn r.1 (List.mem_map.mpr ⟨r, hr, rfl⟩))) _
  · exact isB_vok hn 8 r.2 (hb r hr)
section
variable {ns : List Int} {st : Store} {lc : Nat} {j0 j3 j6 : Option D} {v : D}
theorem spoils (h : lc < st.length) : ∀ (xs : List D) (L n : Nat) (d : D) (K : Int) (s : CSt) (j5 : Option D), L + xs.length ≤ 6 → n + xs.length ≤ 50 → vok L n d → Good ns K s → K + 200 * xs.length < 1000000000000000000 →
    ∃ d' s' k5, forL (gN 5) L_law_1 xs [j0, some (.loc lc), some v, j3, some d, j5, j6] (cst st lc ns s) = some (.nx [j0, some (.loc lc), some v, j3, some d', k5, j6], cst st lc ns s') ∧ vok (L + xs.length) (n + xs.length) d' ∧ Good ns (K + 200 * xs.length) s'
  | [], L, n, d, K, s, j5, _, _, hv, hg, _ => ⟨d, s, j5, rfl, hv, hg.mono (by simp)⟩
  | x :: xs, L, n, d, K, s, j5, hL, hn, hv, hg, hK => by
    rw [List.length_cons] at hL hn hK
    push_cast at hK
    obtain ⟨d1, s1, e1, v1, g1⟩ := spoil_spec h (L := L) (by omega) n 60 d K s (by omega) hv hg (by omega)
    obtain ⟨d2, s2, k5, e2, v2, g2⟩ := spoils h xs (L + 1) (n + 1) d1 (K + 200) s1 (some x) (by omega) (by omega) v1 (g1.mono (by omega)) (by omega)
    refine ⟨d2, s2, k5, ?_, ?_, g2.mono (by rw [List.length_cons]; push_cast; omega)⟩
    · rw [forL_cons]
      clear hL hn hK hv hg v1 g1 v2 g2
      unfold L_law_1 at e2 ⊢
      l_intsC
    · have a1 : L + (x :: xs).length = L + 1 + xs.length := by rw [List.length_cons]; omega
      have a2 : n + (x :: xs).length = n + 1 + xs.length := by rw [List.length_cons]; omega
      rw [a1, a2]
      exact v2
theorem turn {K : Int} {s : CSt} {j4 j5 j6 : Option D} (h : lc < st.length) (hv : vok 4 27 v) (hg : Good ns K s) (hK : K + 1000 < 1000000000000000000) :
    ∃ k4 k5 k6 s', L_law_2 [j0, some (.loc lc), some v, j3, j4, j5, j6] (cst st lc ns s) = some (.nx [j0, some (.loc lc), some v, j3, k4, k5, k6], cst st lc ns s') ∧ Good ns (K + 1000) s' := by
  obtain ⟨t, s1, e1, ht, g1⟩ := take_spec h hg (by omega) (m := 2) (by omega) (by omega)
  have ln : (rngL 0 (1 + t).toNat).length = (1 + t).toNat := rngL_length _ _
  obtain ⟨d, s2, k5, e2, v2, g2⟩ := spoils (j0 := j0) (j3 := j3) (j6 := j6) (v := v) h (rngL 0 (1 + t).toNat) 4 27 v (K + 1) s1 j5 (by omega) (by omega) hv g1 (by omega)
  have v3 : vok 6 (27 + 2) d := vok_monoL (by omega) (vok_mono (by omega) v2)
  have p1 := is_program_eq (n := 27) (Nat.le_refl 6) (by omega) v3 (cst st lc ns s2)
  have p2 := law_is_program_eq (n := 27) (Nat.le_refl 6) (by omega) v3 (cst st lc ns s2)
  have b1 : 0 ≤ 1 + t := by omega
  have b2 : 1 + t < 4294967296 := by omega
  have q : (progB 27 d == progB 27 d) = true := by simp
  refine ⟨some d, k5, some (.bl (progB 27 d)), s2, ?_, g2.mono (by omega)⟩
  unfold L_law_2 R_law_1
  generalize progB 27 d = bb at p1 p2 q
  clear ln v2 v3 g2 hv hg hK g1 ht
  l_intsC
theorem turns (h : lc < st.length) (hv : vok 4 27 v) : ∀ (xs : List D) (K : Int) (s : CSt) (j3 j4 j5 j6 : Option D), Good ns K s → K + 1000 * xs.length < 1000000000000000000 →
    ∃ env s', forL (gN 3) L_law_2 xs [j0, some (.loc lc), some v, j3, j4, j5, j6] (cst st lc ns s) = some (.nx env, cst st lc ns s')
  | [], K, s, j3, j4, j5, j6, hg, hK => ⟨_, s, rfl⟩
  | x :: xs, K, s, j3, j4, j5, j6, hg, hK => by
    rw [List.length_cons] at hK
    push_cast at hK
    obtain ⟨k4, k5, k6, s1, e1, g1⟩ := turn (j0 := j0) (j3 := some x) (j4 := j4) (j5 := j5) (j6 := j6) h hv hg (by omega)
    obtain ⟨env, s2, e2⟩ := turns h hv xs _ s1 (some x) k4 k5 k6 g1 (by omega)
    refine ⟨env, s2, ?_⟩
    rw [forL_cons]
    clear hv hg hK g1
    l_intsC
end
end K30
end
section
set_option Elab.async false
set_option autoImplicit false
set_option linter.all false
set_option maxRecDepth 100000
set_option maxHeartbeats 2000000
namespace K30
open PySem L2 Mn
local macro_rules | `(tactic| l_ints) => `(tactic| simp only [bnd_some', ret1_some', sSeq_eq, kThen_nx, kThen_rt, kThen_bk, kThen_ct, sNil_eq, sAsg_eq, kAsg_eq, sDrop_eq, kDrop_eq, sRet_eq, kRet_eq, sRetN_eq, sBreak_eq, sCont_eq, sIf_eq, kIf_true, kIf_false, sTgt_eq, kTgt1_eq, kTgt2_eq, sPar_eq, kPar2_eq, sPar3_eq, kPar3_eq, sFor_eq, kFor_eq, sAug_eq, kAug_eq, kAug1_eq, mV_eq, kGot_eq, mC_eq, mOp_eq, kOp1_eq, kOp2_eq, mTB_eq, kB_eq, mAnd_eq, kAnd_true, kAnd_false, mOr_eq, kOr_true, kOr_false, mNot_eq, kNot_eq, mIte_eq, kIte_true, kIte_false, mAndV_eq, kAndV_true, kAndV_false, mOrV_eq, kOrV_true, kOrV_false, mNotV_eq, kNotV_eq, mNil_eq, mCons_eq, kCons1_eq, kCons2_eq, mTup_eq, kTup_eq, mLst_eq, kLst_eq, mFrz_eq, kFrz_eq, mMut_eq, kMut_eq, mCall_eq, mCB_eq, kCB_eq, mCBL_eq, kCBL_eq, mTr_eq, kTr_eq, mNeg_eq, kNeg_eq, mChain_eq, kChn1_eq, kChn2_eq, kChn_true, kChn_false, gN_eq, gsN_eq, gsC_eq, kGs_eq, gT_eq, gTp_eq, gSet_eq, kSet1_eq, kSet2_eq, kSetE_eq, setO_eq, setL_nat, setL_lit, setL_str, mMt_eq, kMt1_eq, kMt1'_eq, kMt2_eq, kMt2'_eq, kMt3_eq, fApp_eq, fPop_eq, kPop_eq, getLast_snoc, dropLast_snoc, fExt_eq, kExt_eq, oAdd_int, oAdd_str, oAdd_tup, oAdd_lst, oAdd_loc, kCat_eq, lstD_lst, lstD_loc, isLst_eq, seqD_tup, seqD_lst, seqD_rol, seqD_loc, dicD_dic, dicD_loc, isDic_eq, oSub_int, oMul_int, oDiv_int, oMod_int, oI_plus, oI_minus, oLt_int, oLe_int, oGt_int, oGe_int, oEq_int, oEq_str, oEq_bl, oNe_int, oNe_str, oNe_bl, oIs_non, oIsNot_non, isN_non, isN_int, isN_bl, isN_str, isN_tup, isN_lst, isN_loc, atI_lit, atI_natc, atI_neg1, ixO_tup, ixO_lst, ixO_dics, ixO_dici, ixO_locs, ixO_loci, ixL_lst, ixL_dics, ixL_dici, cLen_tup, cLen_lst, cLen_dic, cLen_loc, lenL_lst, lenL_dic, cInt_int, cInt_bl, cAbs_int, cTup_tup, cTup_lst, cTup_loc, tupL_eq, cList_eq, cBls_lst, blsA_eq, fAll_eq, fAny_eq, truD_lst, truD_tup, truD_bl, truD_int, truD_non, truD_loc, truL_lst, truL_dic, itD_tup, itD_lst, miSeq_eq, kIt_eq, miR1_eq, kR1_eq, miR2_eq, kR2_eq, mSl_eq, kSl1_eq, kSl2_eq, kSl3_eq, mNoP_eq, mPart_eq, kPart_eq, slD_tup, slD_lst, slD_rol, slD_loc, slA_eq, mIsi_eq, kIsi_eq, tyD_non, tyD_bl, tyD_int, tyD_str, tyD_tup, tyD_lst, isi_NoneType_tuple, isi_NoneType_list, isi_NoneType_int, isi_NoneType_str, isi_NoneType_bool, isi_NoneType_int_str, isi_bool_tuple, isi_bool_list, isi_bool_int, isi_bool_str, isi_bool_bool, isi_bool_int_str, isi_int_tuple, isi_int_list, isi_int_int, isi_int_str, isi_int_bool, isi_int_int_str, isi_str_tuple, isi_str_list, isi_str_int, isi_str_str, isi_str_bool, isi_str_int_str, isi_tuple_tuple, isi_tuple_list, isi_tuple_int, isi_tuple_str, isi_tuple_bool, isi_tuple_int_str, isi_list_tuple, isi_list_list, isi_list_int, isi_list_str, isi_list_bool, isi_list_int_str, mDicF_eq, kDicF_eq, mDicM_eq, kDicM_eq, dicA_eq, dicB_eq, mDic0_eq, mGet1_eq, kGet1_eq, kGet1a_eq, mGet2_eq, kGet2_eq, kGet2a_eq, kGet2b_eq, kGet3_str, kGet3_int, kForB_eq, kForS_nx, kForS_ct, kForS_bk, kForS_rt, kWh_true, kWh_false, kWhS_nx, kWhS_ct, kWhS_bk, kWhS_rt, mLc_eq, kLc_eq, kLc1_eq, kLc2_true, kLc2_false, kLc3_eq, kLc4_eq, mYes_eq, wipeE_nil, wipeE_cons, mFun_0, mFun_1, mFun_2, mFun_3, mFun_4, mFun_5, mFun_6, mFun_7, mFun_8, mFunL_0, mFunL_1, mFunL_2, mFunL_3, mFunL_4, mFunL_5, mFunL_6, mFunL_7, mFunL_8, endW_rt, endW_nx, mRev_eq, kRev_eq, miTxt_eq, kTxt_eq, oIsB_bl, oIsNotB_bl, oIn_eq, oNotIn_eq, kIn_eq, kNIn_eq, inO_sign, inA_eq, inO_tup, inO_lst, inO_loc, inL_lst, inL_dics, inL_dici, inO_dics, inO_dici, flatD_non, flatD_bl, flatD_int, flatD_str, Nat.reduceSub, Nat.reduceAdd, Nat.reduceLeDiff, Nat.reduceLT, Nat.reduceEqDiff, Int.reduceLT, Int.reduceLE, Int.reduceAdd, Int.reduceSub, Int.reduceNeg, Int.reduceMul, Int.reduceToNat, Int.reduceBEq, fits_lit, List.getElem?_cons_zero, List.getElem?_cons_succ, List.getElem?_nil, List.set_cons_zero, List.set_cons_succ, List.set_nil, List.length_cons, List.length_nil, List.length_set, List.length_map, List.length_append, List.set_set, List.replicate_succ, List.replicate_zero, List.isEmpty_nil, List.isEmpty_cons, List.nil_append, List.cons_append, List.append_assoc, Bool.not_true, Bool.not_false, decide_true, decide_false, if_true, if_false, Bool.false_eq_true, st_app, st_app0, st_set, st_set0, List.getLast?_nil, getLast_snoc, dropLast_snoc])
local macro_rules | `(tactic| l_intsC) => `(tactic| simp only [bnd_some', ret1_some', sSeq_eq, kThen_nx, kThen_rt, kThen_bk, kThen_ct, sNil_eq, sAsg_eq, kAsg_eq, sDrop_eq, kDrop_eq, sRet_eq, kRet_eq, sRetN_eq, sBreak_eq, sCont_eq, sIf_eq, kIf_true, kIf_false, sTgt_eq, kTgt1_eq, kTgt2_eq, sPar_eq, kPar2_eq, sPar3_eq, kPar3_eq, sFor_eq, kFor_eq, sAug_eq, kAug_eq, kAug1_eq, mV_eq, kGot_eq, mC_eq, mOp_eq, kOp1_eq, kOp2_eq, mTB_eq, kB_eq, mAnd_eq, kAnd_true, kAnd_false, mOr_eq, kOr_true, kOr_false, mNot_eq, kNot_eq, mIte_eq, kIte_true, kIte_false, mAndV_eq, kAndV_true, kAndV_false, mOrV_eq, kOrV_true, kOrV_false, mNotV_eq, kNotV_eq, mNil_eq, mCons_eq, kCons1_eq, kCons2_eq, mTup_eq, kTup_eq, mLst_eq, kLst_eq, mFrz_eq, kFrz_eq, mMut_eq, kMut_eq, mCall_eq, mCB_eq, kCB_eq, mCBL_eq, kCBL_eq, mTr_eq, kTr_eq, mNeg_eq, kNeg_eq, mChain_eq, kChn1_eq, kChn2_eq, kChn_true, kChn_false, gN_eq, gsN_eq, gsC_eq, kGs_eq, gT_eq, gTp_eq, gSet_eq, kSet1_eq, kSet2_eq, kSetE_eq, setO_eq, setL_nat, setL_lit, setL_str, mMt_eq, kMt1_eq, kMt1'_eq, kMt2_eq, kMt2'_eq, kMt3_eq, fApp_eq, fPop_eq, kPop_eq, getLast_snoc, dropLast_snoc, fExt_eq, kExt_eq, oAdd_int, oAdd_str, oAdd_tup, oAdd_lst, oAdd_loc, kCat_eq, lstD_lst, lstD_loc, isLst_eq, seqD_tup, seqD_lst, seqD_rol, seqD_loc, dicD_dic, dicD_loc, isDic_eq, oSub_int, oMul_int, oDiv_int, oMod_int, oI_plus, oI_minus, oLt_int, oLe_int, oGt_int, oGe_int, oEq_int, oEq_str, oEq_bl, oNe_int, oNe_str, oNe_bl, oIs_non, oIsNot_non, isN_non, isN_int, isN_bl, isN_str, isN_tup, isN_lst, isN_loc, atI_lit, atI_natc, atI_neg1, ixO_tup, ixO_lst, ixO_dics, ixO_dici, ixO_locs, ixO_loci, ixL_lst, ixL_dics, ixL_dici, cLen_tup, cLen_lst, cLen_dic, cLen_loc, lenL_lst, lenL_dic, cInt_int, cInt_bl, cAbs_int, cTup_tup, cTup_lst, cTup_loc, tupL_eq, cList_eq, cBls_lst, blsA_eq, fAll_eq, fAny_eq, truD_lst, truD_tup, truD_bl, truD_int, truD_non, truD_loc, truL_lst, truL_dic, itD_tup, itD_lst, miSeq_eq, kIt_eq, miR1_eq, kR1_eq, miR2_eq, kR2_eq, mSl_eq, kSl1_eq, kSl2_eq, kSl3_eq, mNoP_eq, mPart_eq, kPart_eq, slD_tup, slD_lst, slD_rol, slD_loc, slA_eq, mIsi_eq, kIsi_eq, tyD_non, tyD_bl, tyD_int, tyD_str, tyD_tup, tyD_lst, isi_NoneType_tuple, isi_NoneType_list, isi_NoneType_int, isi_NoneType_str, isi_NoneType_bool, isi_NoneType_int_str, isi_bool_tuple, isi_bool_list, isi_bool_int, isi_bool_str, isi_bool_bool, isi_bool_int_str, isi_int_tuple, isi_int_list, isi_int_int, isi_int_str, isi_int_bool, isi_int_int_str, isi_str_tuple, isi_str_list, isi_str_int, isi_str_str, isi_str_bool, isi_str_int_str, isi_tuple_tuple, isi_tuple_list, isi_tuple_int, isi_tuple_str, isi_tuple_bool, isi_tuple_int_str, isi_list_tuple, isi_list_list, isi_list_int, isi_list_str, isi_list_bool, isi_list_int_str, mDicF_eq, kDicF_eq, mDicM_eq, kDicM_eq, dicA_eq, dicB_eq, mDic0_eq, mGet1_eq, kGet1_eq, kGet1a_eq, mGet2_eq, kGet2_eq, kGet2a_eq, kGet2b_eq, kGet3_str, kGet3_int, kForB_eq, kForS_nx, kForS_ct, kForS_bk, kForS_rt, kWh_true, kWh_false, kWhS_nx, kWhS_ct, kWhS_bk, kWhS_rt, mLc_eq, kLc_eq, kLc1_eq, kLc2_true, kLc2_false, kLc3_eq, kLc4_eq, mYes_eq, wipeE_nil, wipeE_cons, mFun_0, mFun_1, mFun_2, mFun_3, mFun_4, mFun_5, mFun_6, mFun_7, mFun_8, mFunL_0, mFunL_1, mFunL_2, mFunL_3, mFunL_4, mFunL_5, mFunL_6, mFunL_7, mFunL_8, endW_rt, endW_nx, mRev_eq, kRev_eq, miTxt_eq, kTxt_eq, oIsB_bl, oIsNotB_bl, oIn_eq, oNotIn_eq, kIn_eq, kNIn_eq, inO_sign, inA_eq, inO_tup, inO_lst, inO_loc, inL_lst, inL_dics, inL_dici, inO_dics, inO_dici, flatD_non, flatD_bl, flatD_int, flatD_str, Nat.reduceSub, Nat.reduceAdd, Nat.reduceLeDiff, Nat.reduceLT, Nat.reduceEqDiff, Int.reduceLT, Int.reduceLE, Int.reduceAdd, Int.reduceSub, Int.reduceNeg, Int.reduceMul, Int.reduceToNat, Int.reduceBEq, fits_lit, List.getElem?_cons_zero, List.getElem?_cons_succ, List.getElem?_nil, List.set_cons_zero, List.set_cons_succ, List.set_nil, List.length_cons, List.length_nil, List.length_set, List.length_map, List.length_append, List.set_set, List.replicate_succ, List.replicate_zero, List.isEmpty_nil, List.isEmpty_cons, List.nil_append, List.cons_append, List.append_assoc, Bool.not_true, Bool.not_false, decide_true, decide_false, if_true, if_false, Bool.false_eq_true, st_app, st_app0, st_set, st_set0, List.getLast?_nil, getLast_snoc, dropLast_snoc, *])
theorem start_lc {st : Store} {a0 : Option D} : ∀ ns : List Int, lcL (gN 1) mYes E__law_start_1 [a0, none] (ns.map .int) st = some (ns.map .int, st)
  | [] => rfl
  | n :: ns => by
    have ih := start_lc (st := st) (a0 := a0) ns
    have u : E__law_start_1 [a0, some (.int n)] st = some (.int n, st) := by
      unfold E__law_start_1
      l_ints
    rw [List.map_cons, lcL_cons]
    l_intsC
theorem finL_new {ds : List D} (h : los 0 ds = true) : finL [] (.loc 0) [.lst ds] = some (.loc 0, [.lst ds]) := by
  have m : ∀ (l : List D), los 0 l = true → mapO (fz [.lst ds] 0 0 8) l = some l := by
    intro l
    induction l with
    | nil => intro _; rfl
    | cons x l ih =>
      intro h
      have h' : (lo 0 x && los 0 l) = true := h
      rw [Bool.and_eq_true] at h'
      simp only [mapO, fz_lo h'.1, ih h'.2]
  have ok : okOld [] [D.lst ds] := okOld_app [] [D.lst ds]
  unfold finL
  rw [if_pos ok]
  simp only [List.length_nil, Nat.le_refl, if_true, List.getElem?_cons_zero, m ds h]
  rfl
theorem start_spec (ns : List Int) (h : ns.length ≤ 63) : F__law_start [.rol (ns.map .int)] [] = some (.loc 0, cst [.non] 0 ns ⟨0, 0, 0⟩) := by
  have c := cut_hi (f := D.int) (l := ns) (v := 63) (by omega)
  have t : ns.take (63 : Int).toNat = ns := List.take_of_length_le h
  rw [t] at c
  have e := start_lc (st := []) (a0 := some (.rol (ns.map .int))) ns
  have l1 : ns.length ≤ 1000000 := by omega
  have fe : finL [] (.loc 0) [cobj ns 0 0 0] = some (.loc 0, cst [.non] 0 ns ⟨0, 0, 0⟩) := by
    have := lo_cobj 0 ns 0 0 0
    exact finL_new this
  unfold cobj at fe
  clear t
  unfold F__law_start B__law_start
  l_intsC
theorem keeps : Mn.Keeps F_law := fun ns hns => by
  have e1 := start_spec ns hns
  have h : 0 < ([D.non] : Store).length := by decide
  obtain ⟨pr, s1, e2, hp, ⟨hn, hd⟩, hb, g1⟩ := program_spec (s := ⟨0, 0, 0⟩) (K := 0) (ns := ns) h ⟨⟨by show (0 : Int) ≤ 0; omega, by show (0 : Int) ≤ ns.length; omega⟩, by show (0 : Int) ≤ 0; omega, by show (0 : Int) ≤ 0; omega⟩ (by omega)
  have v := prog_vok hp.2 hn hb
  have ok := prog_ok hp.1 hn hd hb
  have v2 : vok 6 (27 + 2) (progD pr) := vok_monoL (by omega) (vok_mono (by omega) v)
  have p1 := is_program_eq (n := 27) (Nat.le_refl 6) (by omega) v2 (cst [.non] 0 ns s1)
  rw [ok] at p1
  have v3 : vok 6 (27 + 2) (.tup []) := ⟨by simp, fun x hx => (List.not_mem_nil hx).elim⟩
  have p2 := is_program_eq (n := 27) (Nat.le_refl 6) (by omega) v3 (cst [.non] 0 ns s1)
  have n2 : progB 27 (.tup []) = false := rfl
  rw [n2] at p2
  obtain ⟨env, s2, e3⟩ := turns (j0 := some (.rol (ns.map .int))) h v (rngL 0 12) _ s1 none none none none g1 (by rw [rngL_length]; omega)
  refine ⟨[], ?_⟩
  have fe : fin [] (.bl true) (cst [.non] 0 ns s2) = some (.bl true, []) := fin_app (st := []) (g := cst [.non] 0 ns s2) rfl
  have d1 : (!decide ((true : Bool) = true)) = false := rfl
  have d2 : (!decide ((false : Bool) = false)) = false := rfl
  unfold F_law B_law R_law_3 R_law_2
  generalize progD pr = pv at e2 p1 e3
  clear v v2 v3 ok hn hd hb g1 n2 hp
  l_intsC
end K30
end
section
set_option Elab.async false
set_option maxRecDepth 100000
open PySem PySem.W PyProof.Rows
set_option maxHeartbeats 0 in
theorem PySem.Challenge.cw_longodds_k30_programs_in_form_holds : PySem.Challenge.rw_longodds_k30_programs_in_form.Holds := by
  w_on; o_law; k_head; (case hw => w_witness2)
  k_fill
  refine L2.walk_ofK (l := PySem.Challenge.rw_longodds_k30_programs_in_form) (n := 63) (k := 65) (x := "script") (CX := L2.CX0) (sp := fun K => Mn.spF K 1 K30.F_law) rfl (by decide) rfl ⟨rfl, by decide, by decide⟩ (fun w h Y => PySem.W.kIn_of Y) ?F (fun _ _ a ns hl _ hS => Mn.keeps_sp K30.keeps hl hS) (fun _ _ _ _ h => h)
  case F =>
    intro w mg fa h KX G hmg
    refine' K30.all_mk KX G hmg ?a0 ?l0 ?c0 ?k0 ?a1 ?l1 ?c1 ?k1 ?a2 ?l2 ?c2 ?k2 ?a3 ?l3 ?c3 ?k3 ?a4 ?l4 ?c4 ?k4 ?a5 ?l5 ?c5 ?k5 ?a6 ?l6 ?c6 ?k6 ?a7 ?l7 ?c7 ?k7 ?a8 ?l8 ?c8 ?k8 ?a9 ?l9 ?c9 ?k9 ?a10 ?l10 ?c10 ?k10 ?a11 ?l11 ?c11 ?k11 ?a12 ?l12 ?c12 ?k12 ?a13 ?l13 ?c13 ?k13 ?a14 ?l14 ?c14 ?k14 ?a15 ?l15 ?c15 ?k15 ?a16 ?l16 ?c16 ?k16 ?a17 ?l17 ?c17 ?k17 ?a18 ?l18 ?c18 ?k18 ?a19 ?l19 ?c19 ?k19 ?a20 ?l20 ?c20 ?k20 ?a21 ?l21 ?c21 ?k21 ?a22 ?l22 ?c22 ?k22 ?a23 ?l23 ?c23 ?k23 ?a24 ?l24 ?c24 ?k24 ?a25 ?l25 ?c25 ?k25 ?a26 ?l26 ?c26 ?k26 ?a27 ?l27 ?c27 ?k27 ?z0 ?z1 ?z2 ?z3 ?z4 ?z5 ?z6 ?z7 ?z8 ?z9 ?qa_MOST_SIGNS ?qa_LETTERS ?qa_DIGITS ?qa_ZERO ?qb_ZERO ?qa_MOST_NUMBER ?qa_ONE ?qb_ONE
    (case a0 => k_is); (case l0 => k_is); (case c0 => k_is); (case k0 => k_is)
    (case a1 => k_is); (case l1 => k_is); (case c1 => k_is); (case k1 => k_is)
    (case a2 => k_is); (case l2 => k_is); (case c2 => k_is); (case k2 => k_is)
    (case a3 => k_is); (case l3 => k_is); (case c3 => k_is); (case k3 => k_is)
    (case a4 => k_is); (case l4 => k_is); (case c4 => k_is); (case k4 => k_is)
    (case a5 => k_is); (case l5 => k_is); (case c5 => k_is); (case k5 => k_is)
    (case a6 => k_is); (case l6 => k_is); (case c6 => k_is); (case k6 => k_is)
    (case a7 => k_is); (case l7 => k_is); (case c7 => k_is); (case k7 => k_is)
    (case a8 => k_is); (case l8 => k_is); (case c8 => k_is); (case k8 => k_is)
    (case a9 => k_is); (case l9 => k_is); (case c9 => k_is); (case k9 => k_is)
    (case a10 => k_is); (case l10 => k_is); (case c10 => k_is); (case k10 => k_is)
    (case a11 => k_is); (case l11 => k_is); (case c11 => k_is); (case k11 => k_is)
    (case a12 => k_is); (case l12 => k_is); (case c12 => k_is); (case k12 => k_is)
    (case a13 => k_is); (case l13 => k_is); (case c13 => k_is); (case k13 => k_is)
    (case a14 => k_is); (case l14 => k_is); (case c14 => k_is); (case k14 => k_is)
    (case a15 => k_is); (case l15 => k_is); (case c15 => k_is); (case k15 => k_is)
    (case a16 => k_is); (case l16 => k_is); (case c16 => k_is); (case k16 => k_is)
    (case a17 => k_is); (case l17 => k_is); (case c17 => k_is); (case k17 => k_is)
    (case a18 => k_is); (case l18 => k_is); (case c18 => k_is); (case k18 => k_is)
    (case a19 => k_is); (case l19 => k_is); (case c19 => k_is); (case k19 => k_is)
    (case a20 => k_is); (case l20 => k_is); (case c20 => k_is); (case k20 => k_is)
    (case a21 => k_is); (case l21 => k_is); (case c21 => k_is); (case k21 => k_is)
    (case a22 => k_is); (case l22 => k_is); (case c22 => k_is); (case k22 => k_is)
    (case a23 => k_is); (case l23 => k_is); (case c23 => k_is); (case k23 => k_is)
    (case a24 => k_is); (case l24 => k_is); (case c24 => k_is); (case k24 => k_is)
    (case a25 => k_is); (case l25 => k_is); (case c25 => k_is); (case k25 => k_is)
    (case a26 => k_is); (case l26 => k_is); (case c26 => k_is); (case k26 => k_is)
    (case a27 => k_is); (case l27 => k_is); (case c27 => k_is); (case k27 => k_is)
    (case z0 => k_is)
    (case z1 => k_is)
    (case z2 => k_is)
    (case z3 => k_is)
    (case z4 => k_is)
    (case z5 => k_is)
    (case z6 => k_is)
    (case z7 => k_is)
    (case z8 => k_is)
    (case z9 => k_is)
    (case qa_MOST_SIGNS => k_is)
    (case qa_LETTERS => k_is)
    (case qa_DIGITS => k_is)
    (case qa_ZERO => k_is)
    (case qb_ZERO => k_is)
    (case qa_MOST_NUMBER => k_is)
    (case qa_ONE => k_is)
    (case qb_ONE => k_is)
end
