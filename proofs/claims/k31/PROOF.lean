import PyProof.Rows.All
import Wide.All
import OpenK.AllK
import Wide.FinOn
import HandS.ForMost
import KE.KDictKeyed
import HandS.TupAny
import HandS.Wide
import HandS.IsInst
import HandS.Style
import KE.KDictPairs
import HandS.TupLe
import KE.KRevSl
import PySem.Challenge.RW_longodds_k31_alternatives
section
set_option Elab.async false
set_option autoImplicit false
set_option linter.all false
set_option maxRecDepth 100000
set_option maxHeartbeats 2000000
/-! The mini layer, 1: values without the heap, a small store of what may change, and how both lie in the abstract heap. -/
namespace Mn
open PySem PySem.Spec PyProof.Rows L2

inductive D where
  | non | bl (b : Bool) | int (i : Int) | str (x : Str)
  | tup (l : List D) | lst (l : List D) | rol (l : List D) | dic (l : List (Key × D)) | loc (n : Nat) | ptl (l : List D) | dit (w : World) (ks : List (D × D)) | dkl (ks : List (Key × D))

abbrev Store := List D
/-- where the store's things are; l: in order; x: others that are being made -/
structure Rh where
  l : List Addr
  x : List Addr
def Rh.In (ρ : Rh) (a : Addr) : Prop := a ∈ ρ.l ∨ a ∈ ρ.x

/-- a tuple, a list, a dict that nobody changes any more (it is not in the store), or one of the module -/
def FzT (K : PySem.W.Frag) (ρ : Rh) (H : Hp) (a : Addr) (xs : List V) : Prop := (¬ ρ.In a ∧ ∃ o, H a = some (.frz o (.tup xs)) ∧ o.dict = none) ∨ (∃ o, K.lookup a = some o ∧ o.dict = none) ∧ ∀ H', SqT K H' a xs
/-- a tuple that is taken apart at once -/
def FzP (K : PySem.W.Frag) (ρ : Rh) (H : Hp) (a : Addr) (xs : List V) : Prop := (¬ ρ.In a ∧ SqT K H a xs) ∨ ∀ H', SqT K H' a xs
def FzL (K : PySem.W.Frag) (ρ : Rh) (H : Hp) (a : Addr) (xs : List V) : Prop := (¬ ρ.In a ∧ SqL K H a xs) ∨ ∀ H', SqL K H' a xs
def FzD (ρ : Rh) (H : Hp) (a : Addr) (xs : List (Key × V)) : Prop := ¬ ρ.In a ∧ H a = some (.dK xs)

mutual
def nkey : D → Option NestedKey
  | .non => some .none
  | .int i => some (.num i)
  | .str x => some (.text x)
  | .tup ds => (nkeys ds).map .tup
  | _ => none
def nkeys : List D → Option (List NestedKey)
  | [] => some []
  | d :: ds => match nkey d, nkeys ds with
    | some k, some ks => some (k :: ks)
    | _, _ => none
end
/-- a dict with tuples as keys: its one object -/
def rawN (a : Addr) (o : Obj) (h : Heap) : Prop := h.get? a = some o
def DictO (w : World) (o : Obj) (xs : List (NestedKey × Addr × Value)) : Prop := o.ExactDict ∧ ∃ es ep, o.data = .dict es ep ∧ es.toList = xs.map fun x => (⟨x.1.hash w, .ref x.2.1, x.2.2⟩ : DictEntry)
mutual
def RV (K : PySem.W.Frag) (ρ : Rh) (H : Hp) : D → V → Prop
  | .non, v => v = .non
  | .bl b, v => v = .bl b
  | .int i, v => v = .int i
  | .str x, v => v = .str x
  | .tup ds, v => ∃ a xs, v = .ref a ∧ FzT K ρ H a xs ∧ RVs K ρ H ds xs
  | .lst ds, v => ∃ a xs, v = .ref a ∧ (¬ ρ.In a ∧ H a = some (.lst xs)) ∧ RVs K ρ H ds xs
  | .rol ds, v => ∃ a xs, v = .ref a ∧ FzL K ρ H a xs ∧ RVs K ρ H ds xs
  | .dic ks, v => ∃ a xs, v = .ref a ∧ FzD ρ H a xs ∧ RVk K ρ H ks xs
  | .loc n, v => ∃ a, v = .ref a ∧ ρ.l[n]? = some a
  | .ptl ds, v => ∃ a xs, v = .ref a ∧ FzP K ρ H a xs ∧ RVs K ρ H ds xs
  | .dit w ks, v => ∃ a, ∃ q : Obj × List (NestedKey × Addr × Value), v = .ref a ∧ (¬ ρ.In a ∧ H a = some (.ext (rawN a q.1))) ∧ RVn K ρ H ks q.2 ∧ DictO w q.1 q.2 ∧ (q.2.map (·.1)).Nodup ∧ q.2.length ≤ 16777216 ∧ (a == sysModules) = false
  | .dkl ks, v => ∃ a xs, v = .ref a ∧ (¬ ρ.In a ∧ ∃ o, H a = some (.frz o (.dK xs))) ∧ RVk K ρ H ks xs
def RVs (K : PySem.W.Frag) (ρ : Rh) (H : Hp) : List D → List V → Prop
  | [], vs => vs = []
  | d :: ds, vs => ∃ v r, vs = v :: r ∧ RV K ρ H d v ∧ RVs K ρ H ds r
def RVk (K : PySem.W.Frag) (ρ : Rh) (H : Hp) : List (Key × D) → List (Key × V) → Prop
  | [], vs => vs = []
  | (k, d) :: ds, vs => ∃ v r, vs = (k, v) :: r ∧ RV K ρ H d v ∧ RVk K ρ H ds r
def RVn (K : PySem.W.Frag) (ρ : Rh) (H : Hp) : List (D × D) → List (NestedKey × Addr × Value) → Prop
  | [], xs => xs = []
  | (kd, d) :: ks, xs => ∃ k b u r v, xs = (k, b, u) :: r ∧ nkey kd = some k ∧ k.depth ≤ 8 ∧ RV K ρ H kd (.ref b) ∧ RelV v u ∧ RV K ρ H d v ∧ RVn K ρ H ks r
end

/-- from one state to a later one: what the store does not hold stays -/
structure Nx0 (ρ : Rh) (H : Hp) (ρ' : Rh) (H' : Hp) : Prop where
  pre : ∀ (i : Nat) (a : Addr), ρ.l[i]? = some a → ρ'.l[i]? = some a
  keep : ∀ a o, ¬ ρ.In a → H a = some o → H' a = some o
  new : ∀ a, ρ'.In a → ρ.In a ∨ H a = none
structure Nxt (ρ : Rh) (H : Hp) (ρ' : Rh) (H' : Hp) : Prop extends Nx0 ρ H ρ' H' where
  ex : ρ'.x = ρ.x
  hid : ∀ a, a ∈ ρ.x → H' a = H a
theorem Nx0.refl (ρ : Rh) (H : Hp) : Nx0 ρ H ρ H := ⟨fun _ _ h => h, fun _ _ _ h => h, fun _ h => .inl h⟩
theorem Nxt.refl (ρ : Rh) (H : Hp) : Nxt ρ H ρ H := ⟨Nx0.refl ρ H, rfl, fun _ _ => rfl⟩
theorem Nx0.out {ρ ρ' : Rh} {H H' : Hp} (n : Nx0 ρ H ρ' H') {a : Addr} {o : HO} (h : ¬ ρ.In a) (e : H a = some o) : ¬ ρ'.In a := fun z => by
  rcases n.new a z with q | q
  · exact h q
  · rw [e] at q; cases q
theorem Nx0.trans {ρ ρ1 ρ2 : Rh} {H H1 H2 : Hp} (n : Nx0 ρ H ρ1 H1) (m : Nx0 ρ1 H1 ρ2 H2) : Nx0 ρ H ρ2 H2 :=
  ⟨fun i a h => m.pre i a (n.pre i a h), fun a o h e => m.keep a o (n.out h e) (n.keep a o h e), fun a z => by
    rcases m.new a z with q | q
    · exact n.new a q
    · by_cases h : ρ.In a
      · exact .inl h
      · refine .inr ?_
        cases e : H a with
        | none => rfl
        | some o =>
          have := n.keep a o h e
          rw [q] at this; cases this⟩
theorem Nxt.trans {ρ ρ1 ρ2 : Rh} {H H1 H2 : Hp} (n : Nxt ρ H ρ1 H1) (m : Nxt ρ1 H1 ρ2 H2) : Nxt ρ H ρ2 H2 := ⟨n.toNx0.trans m.toNx0, m.ex.trans n.ex, fun a h => (m.hid a (by rw [n.ex]; exact h)).trans (n.hid a h)⟩

section
variable {K : PySem.W.Frag} {ρ ρ' : Rh} {H H' : Hp}
theorem Rd.nxt {a : Addr} {u : HO} (n : Nx0 ρ H ρ' H') (h : ¬ ρ.In a) (r : Rd H a u) : ¬ ρ'.In a ∧ Rd H' a u := by
  rcases r with r | ⟨o, r⟩
  · exact ⟨n.out h r, .inl (n.keep a _ h r)⟩
  · exact ⟨n.out h r, .inr ⟨o, n.keep a _ h r⟩⟩
theorem FzT.nxt {a : Addr} {xs : List V} (n : Nx0 ρ H ρ' H') (h : FzT K ρ H a xs) : FzT K ρ' H' a xs := by
  rcases h with ⟨h, o, q, z⟩ | h
  · exact .inl ⟨n.out h q, o, n.keep a _ h q, z⟩
  · exact .inr h
theorem FzP.nxt {a : Addr} {xs : List V} (n : Nx0 ρ H ρ' H') (h : FzP K ρ H a xs) : FzP K ρ' H' a xs := by
  rcases h with ⟨h, q | q⟩ | h
  · exact .inl ⟨(Rd.nxt n h q).1, .inl (Rd.nxt n h q).2⟩
  · exact .inr fun _ => .inr q
  · exact .inr h
theorem FzL.nxt {a : Addr} {xs : List V} (n : Nx0 ρ H ρ' H') (h : FzL K ρ H a xs) : FzL K ρ' H' a xs := by
  rcases h with ⟨h, q | q⟩ | h
  · exact .inl ⟨(Rd.nxt n h q).1, .inl (Rd.nxt n h q).2⟩
  · exact .inr fun _ => .inr q
  · exact .inr h
theorem FzD.nxt {a : Addr} {xs : List (Key × V)} (n : Nx0 ρ H ρ' H') (h : FzD ρ H a xs) : FzD ρ' H' a xs := ⟨n.out h.1 h.2, n.keep a _ h.1 h.2⟩
mutual
theorem RV.nx0 (n : Nx0 ρ H ρ' H') : ∀ (d : D) (v : V), RV K ρ H d v → RV K ρ' H' d v
  | .non, _, h => h
  | .bl _, _, h => h
  | .int _, _, h => h
  | .str _, _, h => h
  | .tup ds, _, ⟨a, xs, e, f, r⟩ => ⟨a, xs, e, f.nxt n, RVs.nx0 n ds xs r⟩
  | .lst ds, _, ⟨a, xs, e, f, r⟩ => ⟨a, xs, e, ⟨n.out f.1 f.2, n.keep a _ f.1 f.2⟩, RVs.nx0 n ds xs r⟩
  | .rol ds, _, ⟨a, xs, e, f, r⟩ => ⟨a, xs, e, f.nxt n, RVs.nx0 n ds xs r⟩
  | .dic ks, _, ⟨a, xs, e, f, r⟩ => ⟨a, xs, e, f.nxt n, RVk.nx0 n ks xs r⟩
  | .loc _, _, ⟨a, e, f⟩ => ⟨a, e, n.pre _ _ f⟩
  | .ptl ds, _, ⟨a, xs, e, f, r⟩ => ⟨a, xs, e, f.nxt n, RVs.nx0 n ds xs r⟩
  | .dit _ ks, _, ⟨a, xs, e, f, r, q⟩ => ⟨a, xs, e, ⟨n.out f.1 f.2, n.keep a _ f.1 f.2⟩, RVn.nx0 n ks _ r, q⟩
  | .dkl ks, _, ⟨a, xs, e, f, r⟩ => ⟨a, xs, e, ⟨f.2.elim fun _ h => n.out f.1 h, f.2.elim fun o h => ⟨o, n.keep a _ f.1 h⟩⟩, RVk.nx0 n ks xs r⟩
theorem RVs.nx0 (n : Nx0 ρ H ρ' H') : ∀ (ds : List D) (vs : List V), RVs K ρ H ds vs → RVs K ρ' H' ds vs
  | [], _, h => h
  | d :: ds, _, ⟨v, r, e, h, t⟩ => ⟨v, r, e, RV.nx0 n d v h, RVs.nx0 n ds r t⟩
theorem RVk.nx0 (n : Nx0 ρ H ρ' H') : ∀ (ds : List (Key × D)) (vs : List (Key × V)), RVk K ρ H ds vs → RVk K ρ' H' ds vs
  | [], _, h => h
  | (k, d) :: ds, _, ⟨v, r, e, h, t⟩ => ⟨v, r, e, RV.nx0 n d v h, RVk.nx0 n ds r t⟩
theorem RVn.nx0 (n : Nx0 ρ H ρ' H') : ∀ (ks : List (D × D)) (xs : List (NestedKey × Addr × Value)), RVn K ρ H ks xs → RVn K ρ' H' ks xs
  | [], _, h => h
  | (kd, d) :: ks, _, ⟨k, b, u, r, v, e, h1, h2, h3, h4, h5, t⟩ => ⟨k, b, u, r, v, e, h1, h2, RV.nx0 n _ _ h3, h4, RV.nx0 n _ _ h5, RVn.nx0 n ks r t⟩
end
theorem RV.nxt (n : Nxt ρ H ρ' H') (d : D) (v : V) (h : RV K ρ H d v) : RV K ρ' H' d v := RV.nx0 n.toNx0 d v h
theorem RVs.nxt (n : Nxt ρ H ρ' H') (d : List D) (v : List V) (h : RVs K ρ H d v) : RVs K ρ' H' d v := RVs.nx0 n.toNx0 d v h
theorem RVk.nxt (n : Nxt ρ H ρ' H') (d : List (Key × D)) (v : List (Key × V)) (h : RVk K ρ H d v) : RVk K ρ' H' d v := RVk.nx0 n.toNx0 d v h
theorem RVs.length : ∀ {ds : List D} {vs : List V}, RVs K ρ H ds vs → vs.length = ds.length
  | [], _, h => by subst h; rfl
  | d :: ds, _, ⟨v, r, e, _, t⟩ => by subst e; simp [RVs.length t]
theorem RVs.get : ∀ {ds : List D} {vs : List V} {i : Nat} {d : D}, RVs K ρ H ds vs → ds[i]? = some d → ∃ v, vs[i]? = some v ∧ RV K ρ H d v
  | [], _, _, _, _, e => by simp at e
  | d :: ds, _, 0, _, ⟨v, r, e, h, _⟩, q => by subst e; simp at q; subst q; exact ⟨v, rfl, h⟩
  | d :: ds, _, i + 1, _, ⟨v, r, e, _, t⟩, q => by
    subst e
    obtain ⟨w, h1, h2⟩ := RVs.get (i := i) t (by simpa using q)
    exact ⟨w, by simpa using h1, h2⟩
theorem RVs.append : ∀ {ds es : List D} {vs us : List V}, RVs K ρ H ds vs → RVs K ρ H es us → RVs K ρ H (ds ++ es) (vs ++ us)
  | [], _, _, _, h, t => by subst h; exact t
  | d :: ds, _, _, _, ⟨v, r, e, h, q⟩, t => by subst e; exact ⟨v, r ++ _, rfl, h, RVs.append q t⟩
theorem RVs.set {d : D} {v : V} (h : RV K ρ H d v) : ∀ {ds : List D} {vs : List V} (i : Nat), RVs K ρ H ds vs → RVs K ρ H (ds.set i d) (vs.set i v)
  | [], _, _, q => by subst q; rfl
  | _ :: _, _, 0, ⟨w, r, e, _, t⟩ => by subst e; exact ⟨v, r, rfl, h, t⟩
  | _ :: _, _, i + 1, ⟨w, r, e, q, t⟩ => by subst e; exact ⟨w, r.set i v, rfl, q, RVs.set h i t⟩
theorem RVs.take : ∀ {ds : List D} {vs : List V} (i : Nat), RVs K ρ H ds vs → RVs K ρ H (ds.take i) (vs.take i)
  | _, _, 0, _ => by simp [RVs]
  | [], _, _ + 1, q => by subst q; simp [RVs]
  | _ :: _, _, i + 1, ⟨w, r, e, q, t⟩ => by subst e; exact ⟨w, r.take i, rfl, q, RVs.take i t⟩
theorem RVs.drop : ∀ {ds : List D} {vs : List V} (i : Nat), RVs K ρ H ds vs → RVs K ρ H (ds.drop i) (vs.drop i)
  | _, _, 0, q => q
  | [], _, _ + 1, q => by subst q; simp [RVs]
  | _ :: _, _, i + 1, ⟨w, r, e, q, t⟩ => by subst e; exact RVs.drop i t
theorem RVs.nil : RVs K ρ H [] [] := rfl
theorem RVs.one {d : D} {v : V} (h : RV K ρ H d v) : RVs K ρ H [d] [v] := ⟨v, [], rfl, h, rfl⟩
theorem RVk.length : ∀ {ds : List (Key × D)} {vs : List (Key × V)}, RVk K ρ H ds vs → vs.length = ds.length
  | [], _, h => by subst h; rfl
  | (k, d) :: ds, _, ⟨v, r, e, _, t⟩ => by subst e; simp [RVk.length t]
end


/-- what stands in the store -/
def RO (K : PySem.W.Frag) (ρ : Rh) (H : Hp) (d : D) (a : Addr) : Prop :=
  match d with
  | .lst ds => ∃ xs, H a = some (.lst xs) ∧ RVs K ρ H ds xs
  | .dic ks => ∃ xs, H a = some (.dK xs) ∧ RVk K ρ H ks xs
  | .dit w ks => ∃ q : Obj × List (NestedKey × Addr × Value), H a = some (.ext (rawN a q.1)) ∧ (RVn K ρ H ks q.2 ∧ DictO w q.1 q.2 ∧ (q.2.map (·.1)).Nodup ∧ q.2.length ≤ 16777216 ∧ (a == sysModules) = false)
  | _ => False
structure RepSt (K : PySem.W.Frag) (ρ : Rh) (st : Store) (H : Hp) : Prop where
  nd : (ρ.l ++ ρ.x).Nodup
  len : ρ.l.length = st.length
  exo : ∀ a, a ∈ ρ.x → ∃ o, H a = some o
  ob : ∀ (i : Nat) (a : Addr) (d : D), ρ.l[i]? = some a → st[i]? = some d → RO K ρ H d a
section
variable {K : PySem.W.Frag} {ρ ρ' : Rh} {H H' : Hp} {st : Store}
theorem nodup_get {l : List Addr} (h : l.Nodup) {i j : Nat} {a : Addr} (e : l[i]? = some a) (f : l[j]? = some a) : i = j := by
  obtain ⟨h1, e1⟩ := List.getElem?_eq_some_iff.mp e
  obtain ⟨h2, e2⟩ := List.getElem?_eq_some_iff.mp f
  exact (List.getElem_inj h).mp (e1.trans e2.symm)
theorem RepSt.ndl (r : RepSt K ρ st H) : ρ.l.Nodup := (List.nodup_append.mp r.nd).1
theorem RepSt.apart (r : RepSt K ρ st H) {a : Addr} (h : a ∈ ρ.l) : a ∉ ρ.x := fun z => (List.nodup_append.mp r.nd).2.2 a h a z rfl
theorem RepSt.there (r : RepSt K ρ st H) {a : Addr} (h : ρ.In a) : ∃ o, H a = some o := by
  rcases h with h | h
  · obtain ⟨i, e⟩ := List.getElem?_of_mem h
    have hi : i < ρ.l.length := (List.getElem?_eq_some_iff.mp e).1
    rw [r.len] at hi
    have q := r.ob i a st[i] e (List.getElem?_eq_getElem hi)
    generalize st[i] = d at q
    cases d <;> first | exact False.elim q | (obtain ⟨xs, e, _⟩ := q; exact ⟨_, e⟩)
  · exact r.exo a h
theorem RO.nxt {d : D} {a : Addr} (n : Nx0 ρ H ρ' H') (same : H' a = H a) (h : RO K ρ H d a) : RO K ρ' H' d a := by
  cases d <;> first | exact False.elim h | (obtain ⟨xs, e, r⟩ := h; first | exact ⟨xs, same.trans e, RVs.nx0 n _ _ r⟩ | exact ⟨xs, same.trans e, RVk.nx0 n _ _ r⟩ | exact ⟨xs, same.trans e, RVn.nx0 n _ _ r.1, r.2⟩)
theorem RepSt.out {p : Addr} (r : RepSt K ρ st H) (h : H p = none) : ¬ ρ.In p := fun z => by
  obtain ⟨o, e⟩ := r.there z
  rw [h] at e; cases e
/-- a new object that is not in the store -/
theorem Nx0.laid {p : Addr} {o : HO} (h : H p = none) : Nx0 ρ H ρ (upd H p o) :=
  ⟨fun _ _ h => h, fun a u _ e => by rw [upd_ne (ne_of_none e h)]; exact e, fun _ h => .inl h⟩
theorem Nxt.laid {p : Addr} {o : HO} (r : RepSt K ρ st H) (h : H p = none) : Nxt ρ H ρ (upd H p o) := ⟨Nx0.laid h, rfl, fun a z => by
  obtain ⟨u, q⟩ := r.exo a z
  exact upd_ne (ne_of_none q h)⟩
theorem RepSt.laid {p : Addr} {o : HO} (r : RepSt K ρ st H) (h : H p = none) : RepSt K ρ st (upd H p o) :=
  ⟨r.nd, r.len, fun a z => by
    obtain ⟨u, q⟩ := r.exo a z
    exact ⟨u, by rw [upd_ne (ne_of_none q h)]; exact q⟩, fun i a d e f => by
    have hp : a ≠ p := by
      obtain ⟨u, q⟩ := r.there (.inl (List.mem_of_getElem? e))
      exact ne_of_none q h
    exact (r.ob i a d e f).nxt (Nx0.laid h) (upd_ne hp)⟩
/-- a new object in the store -/
def Rh.add (ρ : Rh) (p : Addr) : Rh := ⟨ρ.l ++ [p], ρ.x⟩
theorem Nx0.alloc {p : Addr} {o : HO} (h : H p = none) : Nx0 ρ H (ρ.add p) (upd H p o) :=
  ⟨fun i a e => by
    have hi := (List.getElem?_eq_some_iff.mp e).1
    show (ρ.l ++ [p])[i]? = some a
    rw [List.getElem?_append_left hi]; exact e, fun a u _ e => by rw [upd_ne (ne_of_none e h)]; exact e, fun a z => by
    rcases z with z | z
    · rcases List.mem_append.mp z with z | z
      · exact .inl (.inl z)
      · simp at z; subst z; exact .inr h
    · exact .inl (.inr z)⟩
theorem Nxt.alloc {p : Addr} {o : HO} (r : RepSt K ρ st H) (h : H p = none) : Nxt ρ H (ρ.add p) (upd H p o) := ⟨Nx0.alloc h, rfl, fun a z => by
  obtain ⟨u, q⟩ := r.exo a z
  exact upd_ne (ne_of_none q h)⟩
theorem RepSt.alloc {p : Addr} {o : HO} {d : D} (r : RepSt K ρ st H) (h : H p = none) (new : RO K (ρ.add p) (upd H p o) d p) : RepSt K (ρ.add p) (st ++ [d]) (upd H p o) := by
  have hout := r.out h
  refine ⟨?_, by simp [Rh.add, r.len], fun a z => ?_, fun i a d' e f => ?_⟩
  · show ((ρ.l ++ [p]) ++ ρ.x).Nodup
    rw [List.append_assoc, List.nodup_append]
    have nd := List.nodup_append.mp r.nd
    refine ⟨nd.1, ?_, fun a ha b hb => ?_⟩
    · rw [List.singleton_append, List.nodup_cons]
      exact ⟨fun z => hout (.inr z), nd.2.1⟩
    · rw [List.singleton_append, List.mem_cons] at hb
      rcases hb with rfl | hb
      · rintro rfl
        exact hout (.inl ha)
      · exact nd.2.2 a ha b hb
  · obtain ⟨u, q⟩ := r.exo a z
    exact ⟨u, by rw [upd_ne (ne_of_none q h)]; exact q⟩
  · have e : (ρ.l ++ [p])[i]? = some a := e
    by_cases hi : i < ρ.l.length
    · rw [List.getElem?_append_left hi] at e
      rw [List.getElem?_append_left (by rw [← r.len]; exact hi)] at f
      have hp : a ≠ p := by
        obtain ⟨u, q⟩ := r.there (.inl (List.mem_of_getElem? e))
        exact ne_of_none q h
      exact (r.ob i a d' e f).nxt (Nx0.alloc h) (upd_ne hp)
    · have h1 : i = ρ.l.length := by
        have := (List.getElem?_eq_some_iff.mp e).1
        simp at this
        omega
      subst h1
      rw [List.getElem?_append_right (Nat.le_refl _)] at e
      rw [List.getElem?_append_right (by rw [r.len]; exact Nat.le_refl _)] at f
      simp at e
      simp [r.len] at f
      subst e; subst f
      exact new
/-- an object of the store is changed -/
theorem Nx0.write {p : Addr} {o : HO} (h : ρ.In p) : Nx0 ρ H ρ (upd H p o) :=
  ⟨fun _ _ h => h, fun a u n e => by rw [upd_ne (show a ≠ p from fun z => n (by rw [z]; exact h))]; exact e, fun _ h => .inl h⟩
theorem Nxt.write {p : Addr} {o : HO} (r : RepSt K ρ st H) (h : p ∈ ρ.l) : Nxt ρ H ρ (upd H p o) := ⟨Nx0.write (.inl h), rfl, fun a z => upd_ne fun y => r.apart h (by rw [← y]; exact z)⟩
theorem RepSt.write {p : Addr} {o : HO} {d : D} {i : Nat} (r : RepSt K ρ st H) (h : ρ.l[i]? = some p) (new : RO K ρ (upd H p o) d p) : RepSt K ρ (st.set i d) (upd H p o) := by
  have hm : p ∈ ρ.l := List.mem_of_getElem? h
  refine ⟨r.nd, by simp [r.len], fun a z => ?_, fun j a d' e f => ?_⟩
  · obtain ⟨u, q⟩ := r.exo a z
    exact ⟨u, by rw [upd_ne (show a ≠ p from fun y => r.apart hm (by rw [← y]; exact z))]; exact q⟩
  · by_cases hj : j = i
    · subst hj
      rw [h] at e; cases e
      have hi : j < st.length := by rw [← r.len]; exact (List.getElem?_eq_some_iff.mp h).1
      rw [List.getElem?_set_self hi] at f
      cases f
      exact new
    · rw [List.getElem?_set_ne (Ne.symm hj)] at f
      have hp : a ≠ p := fun z => hj (nodup_get r.ndl (z ▸ e) h)
      exact (r.ob j a d' e f).nxt (Nx0.write (.inl hm)) (upd_ne hp)
theorem RepSt.at (r : RepSt K ρ st H) {i : Nat} {d : D} {v : V} (hv : RV K ρ H (.loc i) v) (hd : st[i]? = some d) : ∃ a, v = .ref a ∧ ρ.l[i]? = some a ∧ RO K ρ H d a := by
  obtain ⟨a, e, f⟩ := hv
  exact ⟨a, e, f, r.ob i a d f hd⟩

/-! ### a thing that is being made: it is kept apart until it is ready -/
def Rh.hid (ρ : Rh) (p : Addr) : Rh := ⟨ρ.l, p :: ρ.x⟩
theorem Nx0.hide {p : Addr} {o : HO} (h : H p = none) : Nx0 ρ H (ρ.hid p) (upd H p o) :=
  ⟨fun _ _ e => e, fun a u _ e => by rw [upd_ne (ne_of_none e h)]; exact e, fun a z => by
    rcases z with z | z
    · exact .inl (.inl z)
    · rcases List.mem_cons.mp z with rfl | z
      · exact .inr h
      · exact .inl (.inr z)⟩
theorem RepSt.hide {p : Addr} {o : HO} (r : RepSt K ρ st H) (h : H p = none) : RepSt K (ρ.hid p) st (upd H p o) := by
  have hout := r.out h
  have nd := List.nodup_append.mp r.nd
  refine ⟨?_, r.len, fun a z => ?_, fun i a d e f => ?_⟩
  · show (ρ.l ++ (p :: ρ.x)).Nodup
    rw [List.nodup_append]
    refine ⟨nd.1, List.nodup_cons.mpr ⟨fun z => hout (.inr z), nd.2.1⟩, fun a ha b hb => ?_⟩
    rcases List.mem_cons.mp hb with rfl | hb
    · rintro rfl
      exact hout (.inl ha)
    · exact nd.2.2 a ha b hb
  · have z : a ∈ p :: ρ.x := z
    rcases List.mem_cons.mp z with rfl | z
    · exact ⟨o, upd_same⟩
    · obtain ⟨u, q⟩ := r.exo a z
      exact ⟨u, by rw [upd_ne (ne_of_none q h)]; exact q⟩
  · have hp : a ≠ p := by
      obtain ⟨u, q⟩ := r.there (.inl (List.mem_of_getElem? e))
      exact ne_of_none q h
    exact (r.ob i a d e f).nxt (Nx0.hide h) (upd_ne hp)
/-- it is changed -/
theorem RepSt.rehid {p : Addr} {o : HO} (r : RepSt K ρ st H) (h : p ∈ ρ.x) : RepSt K ρ st (upd H p o) :=
  ⟨r.nd, r.len, fun a z => by
    by_cases hp : a = p
    · subst hp; exact ⟨o, upd_same⟩
    · obtain ⟨u, q⟩ := r.exo a z
      exact ⟨u, by rw [upd_ne hp]; exact q⟩, fun i a d e f => by
    have hp : a ≠ p := fun z => r.apart (List.mem_of_getElem? e) (by rw [z]; exact h)
    exact (r.ob i a d e f).nxt (Nx0.write (.inr h)) (upd_ne hp)⟩
/-- fewer are kept apart -/
theorem Nx0.less {x : List Addr} (h : ∀ a, a ∈ x → a ∈ ρ.x) : Nx0 ρ H ⟨ρ.l, x⟩ H := ⟨fun _ _ e => e, fun _ _ _ e => e, fun a z => .inl (z.elim .inl fun q => .inr (h a q))⟩
theorem RepSt.bare {p : Addr} {x : List Addr} (r : RepSt K ρ st H) (h : ρ.x = p :: x) : RepSt K ⟨ρ.l, x⟩ st H ∧ ¬ (Rh.mk ρ.l x).In p := by
  have nd := r.nd
  rw [h] at nd
  have nd := List.nodup_append.mp nd
  have n2 := List.nodup_cons.mp nd.2.1
  refine ⟨⟨?_, r.len, fun a z => r.exo a (by rw [h]; exact List.mem_cons_of_mem _ z), fun i a d e f => (r.ob i a d e f).nxt (Nx0.less fun a z => by rw [h]; exact List.mem_cons_of_mem _ z) rfl⟩, fun z => ?_⟩
  · show (ρ.l ++ x).Nodup
    rw [List.nodup_append]
    exact ⟨nd.1, n2.2, fun a ha b hb => nd.2.2 a ha b (List.mem_cons_of_mem _ hb)⟩
  · rcases z with z | z
    · exact nd.2.2 p z p List.mem_cons_self rfl
    · exact n2.1 z
end
end Mn
end
section
set_option Elab.async false
set_option autoImplicit false
set_option linter.all false
set_option maxRecDepth 100000
set_option maxHeartbeats 2000000
/-! The mini layer, 2: what code computes over the store, as plain functions; the rules. -/
namespace Mn
open PySem PySem.Spec PyProof.Rows L2

abbrev MEnv := List (Option D)
abbrev M (α : Type) := MEnv → Store → Option (α × Store)
def bnd {α β : Type} (m : Option (α × Store)) (f : α → Store → Option β) : Option β :=
  match m with
  | some p => f p.1 p.2
  | none => none
def ret1 {α : Type} (o : Option α) (st : Store) : Option (α × Store) :=
  match o with
  | some d => some (d, st)
  | none => none
theorem bnd_some {α β : Type} {a : α} {st : Store} {f : α → Store → Option β} : bnd (some (a, st)) f = f a st := rfl
theorem ret1_some {α : Type} {d : α} {st : Store} : ret1 (some d) st = some (d, st) := rfl
theorem bnd_inv {α β : Type} {m : Option (α × Store)} {f : α → Store → Option β} {b : β} (h : bnd m f = some b) : ∃ a st, m = some (a, st) ∧ f a st = some b := by
  cases m with
  | none => cases h
  | some p => exact ⟨p.1, p.2, rfl, h⟩
theorem ret1_inv {α : Type} {o : Option α} {st : Store} {p : α × Store} (h : ret1 o st = some p) : o = some p.1 ∧ st = p.2 := by
  cases o with
  | none => cases h
  | some d => cases h; exact ⟨rfl, rfl⟩

/-- the slots -/
def RVo (K : PySem.W.Frag) (ρ : Rh) (H : Hp) (env : MEnv) (σ : L2.St) : Prop :=
  env.length = σ.length ∧ ∀ (i : Nat) (d : D), env[i]? = some (some d) → ∃ v, σ[i]? = some (some v) ∧ RV K ρ H d v
def After (K : PySem.W.Frag) (ρ : Rh) (H : Hp) (d : D) (st' : Store) (Q : VK) : Prop := ∀ v H' ρ', Nxt ρ H ρ' H' → RepSt K ρ' st' H' → RV K ρ' H' d v → Q v H'
def tM (K : PySem.W.Frag) (m : M D) : TE := fun σ H Q => ∃ env st ρ d st', RVo K ρ H env σ ∧ RepSt K ρ st H ∧ m env st = some (d, st') ∧ After K ρ H d st' Q
def tMT (K : PySem.W.Frag) (m : M Bool) : TT := fun σ H Q => ∃ env st ρ d st', RVo K ρ H env σ ∧ RepSt K ρ st H ∧ m env st = some (d, st') ∧ ∀ H' ρ', Nxt ρ H ρ' H' → RepSt K ρ' st' H' → Q d H'
def tMA (K : PySem.W.Frag) (m : M (List D)) : TA := fun σ H Q => ∃ env st ρ d st', RVo K ρ H env σ ∧ RepSt K ρ st H ∧ m env st = some (d, st') ∧ ∀ vs H' ρ', Nxt ρ H ρ' H' → RepSt K ρ' st' H' → RVs K ρ' H' d vs → Q vs H'
/-- a new list -/
def tML (K : PySem.W.Frag) (m : M (List D)) : TE := fun σ H Q => ∃ env st ρ d st', RVo K ρ H env σ ∧ RepSt K ρ st H ∧ m env st = some (d, st') ∧
  ∀ p vs H' ρ', Nxt ρ H ρ' H' → RepSt K ρ' st' H' → H' p = none → RVs K ρ' H' d vs → Q (.ref p) (upd H' p (.lst vs))
inductive Out where
  | nx (env : MEnv) | bk (env : MEnv) | ct (env : MEnv) | rt (d : D)
abbrev S := MEnv → Store → Option (Out × Store)
def AfterS (K : PySem.W.Frag) (ρ : Rh) (H : Hp) (o : Out) (st' : Store) (E : Ends) : Prop :=
  match o with
  | .nx env' => ∀ σ' H' ρ', Nxt ρ H ρ' H' → RepSt K ρ' st' H' → RVo K ρ' H' env' σ' → E.nx σ' H'
  | .bk env' => ∀ σ' H' ρ', Nxt ρ H ρ' H' → RepSt K ρ' st' H' → RVo K ρ' H' env' σ' → E.bk σ' H'
  | .ct env' => ∀ σ' H' ρ', Nxt ρ H ρ' H' → RepSt K ρ' st' H' → RVo K ρ' H' env' σ' → E.ct σ' H'
  | .rt d => After K ρ H d st' E.rt
def tS (K : PySem.W.Frag) (m : S) : TS := fun E σ H => ∃ env st ρ o st', RVo K ρ H env σ ∧ RepSt K ρ st H ∧ m env st = some (o, st') ∧ AfterS K ρ H o st' E
abbrev PM (X : Cx) (e : Expr) (m : M D) : Prop := PE X e (tM X.K m)
abbrev PMT (X : Cx) (e : Expr) (m : M Bool) : Prop := PT X e (tMT X.K m)
abbrev PMW (X : Cx) (e : Expr) (m : M Bool) : Prop := PW X e (tMT X.K m)
abbrev PMA (X : Cx) (es : List Expr) (m : M (List D)) : Prop := PA X es (tMA X.K m)
abbrev PML (X : Cx) (e : Expr) (m : M (List D)) : Prop := PE X e (tML X.K m)
abbrev PMS (X : Cx) (st : Stmt) (m : S) : Prop := PS X st (tS X.K m)
abbrev PMSs (X : Cx) (st : List Stmt) (m : S) : Prop := PSs X st (tS X.K m)

section
variable {K : PySem.W.Frag} {ρ ρ' : Rh} {H H' : Hp} {env : MEnv} {σ : L2.St}
theorem RVo.nxt (r : RVo K ρ H env σ) (n : Nxt ρ H ρ' H') : RVo K ρ' H' env σ := ⟨r.1, fun i d e => by
  obtain ⟨v, h1, h2⟩ := r.2 i d e
  exact ⟨v, h1, RV.nxt n d v h2⟩⟩
theorem RVo.set (r : RVo K ρ H env σ) {d : D} {v : V} (h : RV K ρ H d v) (i : Nat) : RVo K ρ H (env.set i (some d)) (σ.set i (some v)) := by
  refine ⟨by simp [r.1], fun j d' e => ?_⟩
  by_cases hj : j = i
  · subst hj
    have hl : j < env.length := by
      have := (List.getElem?_eq_some_iff.mp e).1
      simpa using this
    rw [List.getElem?_set_self hl] at e
    cases e
    exact ⟨v, by rw [List.getElem?_set_self (by rw [← r.1]; exact hl)], h⟩
  · rw [List.getElem?_set_ne (Ne.symm hj)] at e ⊢
    exact r.2 j d' e
end
theorem imp_e {X : Cx} {e : Expr} {t t' : TE} (h : PE X e t) (f : ∀ σ H Q, t' σ H Q → t σ H Q) : PE X e t' := ⟨fun pins s σ H Q I q => h.run pins s σ H Q I (f σ H Q q)⟩
theorem imp_t {X : Cx} {e : Expr} {t t' : TT} (h : PT X e t) (f : ∀ σ H Q, t' σ H Q → t σ H Q) : PT X e t' := ⟨fun pins s σ H Q I q => h.run pins s σ H Q I (f σ H Q q)⟩
theorem imp_w {X : Cx} {e : Expr} {t t' : TT} (h : PW X e t) (f : ∀ σ H Q, t' σ H Q → t σ H Q) : PW X e t' := ⟨fun wh pins s σ H Q I q => h.run wh pins s σ H Q I (f σ H Q q)⟩
theorem imp_a {X : Cx} {e : List Expr} {t t' : TA} (h : PA X e t) (f : ∀ σ H Q, t' σ H Q → t σ H Q) : PA X e t' := ⟨fun p pins s σ H Q I q => h.run p pins s σ H Q I (f σ H Q q)⟩
theorem imp_s {X : Cx} {e : Stmt} {t t' : TS} (h : PS X e t) (f : ∀ D σ H, t' D σ H → t D σ H) : PS X e t' := ⟨fun pins s σ H D I q => h.run pins s σ H D I (f D σ H q)⟩
theorem imp_ss {X : Cx} {e : List Stmt} {t t' : TS} (h : PSs X e t) (f : ∀ D σ H, t' D σ H → t D σ H) : PSs X e t' := ⟨fun pins s σ H D I q => h.run pins s σ H D I (f D σ H q)⟩

/-! ### names, constants -/
def mV (i : Nat) : M D := fun env st =>
  match env[i]? with
  | some (some d) => some (d, st)
  | _ => none
def mC (d : D) : M D := fun _ st => some (d, st)
section
variable {X : Cx} {a b c : Expr} {ma mb mc : M D} {pos : Pos}
theorem pm_var {i : Nat} {x : Str} (hN : X.N[i]? = some x := by rfl) (hv : Vis X.env.scope x := by first | exact Or.inl rfl | exact Or.inr (Or.inl rfl) | exact Or.inr (Or.inr rfl)) (hd : (x == ("__debug__" : Str)) = false := by decide)
    (hcd : (x == ("__classdict__" : Str)) = false := by decide) : PM X (.Name x pos) (mV i) :=
  imp_e (pe_var hN hv hd hcd) fun σ H Q ⟨env, st, ρ, d, st', ro, rs, e, k⟩ => by
    unfold mV at e
    split at e
    · rename_i d' h
      cases e
      obtain ⟨v, h1, h2⟩ := ro.2 i d h
      exact ⟨v, h1, k v H ρ (Nxt.refl _ _) rs h2⟩
    · cases e
theorem pm_k {e : Expr} {d : D} {v : V} (h : PE X e (tC v)) (hv : ∀ ρ H, RV X.K ρ H d v) : PM X e (mC d) :=
  imp_e h fun σ H Q ⟨env, st, ρ, d', st', ro, rs, e, k⟩ => by
    cases e
    exact k v H ρ (Nxt.refl _ _) rs (hv ρ H)
theorem pm_int {i j} : PM X (.Constant (.int i) j pos) (mC (.int i)) := pm_k pe_int fun _ _ => rfl
theorem pm_bl {i j} : PM X (.Constant (.bool i) j pos) (mC (.bl i)) := pm_k pe_bl fun _ _ => rfl
theorem pm_non {j} : PM X (.Constant .none j pos) (mC .non) := pm_k pe_non fun _ _ => rfl
theorem pm_str {x j} : PM X (.Constant (.str x) j pos) (mC (.str x)) := pm_k pe_str fun _ _ => rfl
/-- a constant of the module -/
def GlobM (K : PySem.W.Frag) (mg : Str → Option Value) (x : Str) (d : D) : Prop := ∃ u v, mg x = some u ∧ RelV v u ∧ ∀ ρ H, RV K ρ H d v
theorem pm_glob {x : Str} {d : D} (g : GlobM X.K X.mg x d) (hg : Gl X x) (hd : (x == ("__debug__" : Str)) = false := by decide) : PM X (.Name x pos) (mC d) := by
  obtain ⟨u, v, h1, h2, h3⟩ := g
  exact pm_k (pe_glob hg h1 h2 hd) h3
end

/-! ### operators by values -/
abbrev O2 := D → D → Store → Option D
def RefO (K : PySem.W.Frag) (r : R2) (f : O2) : Prop := ∀ (ρ : Rh) (st : Store) (H : Hp) (dx dy d : D) (x y : V) (Q : VK), RepSt K ρ st H → RV K ρ H dx x → RV K ρ H dy y → f dx dy st = some d →
  (∀ v H', Nxt ρ H ρ H' → RepSt K ρ st H' → RV K ρ H' d v → Q v H') → r x y H Q
def mOp (f : O2) (ma mb : M D) : M D := fun env st => bnd (ma env st) fun x st1 => bnd (mb env st1) fun y st2 => ret1 (f x y st2) st2
theorem op_core {K : PySem.W.Frag} {r : R2} {f : O2} (hf : RefO K r f) {ma mb : M D} {σ : L2.St} {H : Hp} {Q : VK} (h : tM K (mOp f ma mb) σ H Q) : tOp r (tM K ma) (tM K mb) σ H Q := by
  obtain ⟨env, st, ρ, d, st', ro, rs, e, k⟩ := h
  obtain ⟨x, s1, e1, e⟩ := bnd_inv e
  obtain ⟨y, s2, e2, e⟩ := bnd_inv e
  obtain ⟨e3, e4⟩ := ret1_inv e
  cases e4
  refine ⟨env, st, ρ, x, s1, ro, rs, e1, fun vx H1 ρ1 n1 rs1 rx => ⟨env, s1, ρ1, y, _, ro.nxt n1, rs1, e2, fun vy H2 ρ2 n2 rs2 ry => ?_⟩⟩
  exact hf ρ2 _ H2 x y d vx vy Q rs2 (RV.nxt n2 _ _ rx) ry e3 fun v H3 n3 rs3 rv => k v H3 ρ2 ((n1.trans n2).trans n3) rs3 rv
section
variable {X : Cx} {a b c : Expr} {ma mb mc : M D} {pos : Pos}
theorem pm_op {op : Operator} {r : R2} {f : O2} (ho : OpR X (binaryOp op) r ∧ RefO X.K r f) (ha : PM X a ma) (hb : PM X b mb) : PM X (.BinOp a op b pos) (mOp f ma mb) :=
  imp_e (pe_op ho.1 ha hb) fun _ _ _ h => op_core ho.2 h
theorem pm_cmp {op : CmpOp} {r : R2} {f : O2} (ho : OpR X (compareOp op) r ∧ RefO X.K r f) (ha : PM X a ma) (hb : PM X b mb) (hm : behindInMarks op b = false := by first | exact nomark _ | rfl) : PM X (.Compare a [op] [b] pos) (mOp f ma mb) :=
  imp_e (pe_cmpR ho.1 ha hb hm) fun _ _ _ h => op_core ho.2 h
/-- a value that is True or False, as a test -/
def mTB (m : M D) : M Bool := fun env st => bnd (m env st) fun x st1 =>
  match x with
  | .bl b => some (b, st1)
  | _ => none
theorem tB_core {K : PySem.W.Frag} {m : M D} {σ : L2.St} {H : Hp} {Q : Bool → Hp → Prop} (h : tMT K (mTB m) σ H Q) : tM K m σ H fun x H1 => ∃ c, x = .bl c ∧ Q c H1 := by
  obtain ⟨env, st, ρ, d, st', ro, rs, e, k⟩ := h
  obtain ⟨x, s1, e1, e⟩ := bnd_inv e
  refine ⟨env, st, ρ, x, s1, ro, rs, e1, fun v H' ρ' n rs' rv => ?_⟩
  cases x with
  | bl b => cases e; exact ⟨_, rv, k H' ρ' n rs'⟩
  | _ => cases e
theorem pmt_cmp {op : CmpOp} {r : R2} {f : O2} (ho : OpR X (compareOp op) r ∧ RefO X.K r f) (ha : PM X a ma) (hb : PM X b mb) (hm : behindInMarks op b = false := by first | exact nomark _ | rfl) : PMT X (.Compare a [op] [b] pos) (mTB (mOp f ma mb)) :=
  imp_t (pt_cmpR ho.1 ha hb hm) fun σ H Q h => by
    obtain ⟨env, st, ρ, d, st', ro, rs, e, k⟩ := tB_core h
    exact op_core ho.2 ⟨env, st, ρ, d, st', ro, rs, e, k⟩
theorem pmt_val {e : Expr} {m : M D} (h : PM X e m) (he : ∀ whole, isTrue e X.env whole = (do let v ← whole; standAt e.pos; holding [v] (truthy v)) := by intro _; rfl) : PMT X e (mTB m) :=
  imp_t (pt_val h he) fun _ _ _ h => tB_core h

/-! ### and, or, not of tests; the conditional expression -/
def mAnd (t u : M Bool) : M Bool := fun env st => bnd (t env st) fun x st1 => if x = true then u env st1 else some (false, st1)
def mOr (t u : M Bool) : M Bool := fun env st => bnd (t env st) fun x st1 => if x = true then some (true, st1) else u env st1
def mNot (t : M Bool) : M Bool := fun env st => bnd (t env st) fun x st1 => some (!x, st1)
def mIte {α : Type} (t : M Bool) (a b : M α) : M α := fun env st => bnd (t env st) fun x st1 => if x = true then a env st1 else b env st1
/-- a test, then something -/
theorem test_core {K : PySem.W.Frag} {t : M Bool} {α : Type} {f : Bool → Store → Option (α × Store)} {env : MEnv} {st : Store} {ρ : Rh} {σ : L2.St} {H : Hp} {r : α × Store} {Q : Bool → Hp → Prop} (ro : RVo K ρ H env σ) (rs : RepSt K ρ st H)
    (e : bnd (t env st) f = some r) (k : ∀ b s1 H1 ρ1, f b s1 = some r → Nxt ρ H ρ1 H1 → RepSt K ρ1 s1 H1 → RVo K ρ1 H1 env σ → Q b H1) : tMT K t σ H Q := by
  obtain ⟨x, s1, e1, e⟩ := bnd_inv e
  exact ⟨env, st, ρ, x, s1, ro, rs, e1, fun H' ρ' n rs' => k x s1 H' ρ' e n rs' (ro.nxt n)⟩
variable {t u : M Bool} {rest : List Expr}
theorem pmw_and1 (ha : PMT X a t) : PMW X (.BoolOp .And [a] pos) t := pw_and1 ha
theorem pmw_or1 (ha : PMT X a t) : PMW X (.BoolOp .Or [a] pos) t := pw_or1 ha
theorem pmw_and (ha : PMT X a t) (hb : PMW X (.BoolOp .And (b :: rest) pos) u) : PMW X (.BoolOp .And (a :: b :: rest) pos) (mAnd t u) :=
  imp_w (pw_and ha hb) fun σ H Q ⟨env, st, ρ, d, st', ro, rs, e, k⟩ => test_core ro rs e fun x s1 H1 ρ1 e n rs1 ro1 => by
    cases x with
    | true => exact ⟨env, s1, ρ1, d, st', ro1, rs1, e, fun H' ρ' n' rs' => k H' ρ' (n.trans n') rs'⟩
    | false => cases e; exact k H1 ρ1 n rs1
theorem pmw_or (ha : PMT X a t) (hb : PMW X (.BoolOp .Or (b :: rest) pos) u) : PMW X (.BoolOp .Or (a :: b :: rest) pos) (mOr t u) :=
  imp_w (pw_or ha hb) fun σ H Q ⟨env, st, ρ, d, st', ro, rs, e, k⟩ => test_core ro rs e fun x s1 H1 ρ1 e n rs1 ro1 => by
    cases x with
    | false => exact ⟨env, s1, ρ1, d, st', ro1, rs1, e, fun H' ρ' n' rs' => k H' ρ' (n.trans n') rs'⟩
    | true => cases e; exact k H1 ρ1 n rs1
theorem pmt_w {e : Expr} (h : PMW X e t) : PMT X e t := h.pt
theorem pmt_not (ha : PMT X a t) : PMT X (.UnaryOp .Not a pos) (mNot t) :=
  imp_t (pt_not ha) fun σ H Q ⟨env, st, ρ, d, st', ro, rs, e, k⟩ => test_core ro rs e fun x s1 H1 ρ1 e n rs1 ro1 => by
    cases e; exact k H1 ρ1 n rs1
theorem pm_ife (hc : PMT X c t) (ha : PM X a ma) (hb : PM X b mb) : PM X (.IfExp c a b pos) (mIte t ma mb) :=
  imp_e (pe_ifExp hc ha hb) fun σ H Q ⟨env, st, ρ, d, st', ro, rs, e, k⟩ => test_core ro rs e fun x s1 H1 ρ1 e n rs1 ro1 => by
    cases x with
    | true => exact ⟨env, s1, ρ1, d, st', ro1, rs1, e, fun v H' ρ' n' rs' rv => k v H' ρ' (n.trans n') rs' rv⟩
    | false => exact ⟨env, s1, ρ1, d, st', ro1, rs1, e, fun v H' ρ' n' rs' rv => k v H' ρ' (n.trans n') rs' rv⟩
/-- as values (bools) -/
def mBl (t : M Bool) : M D := fun env st => bnd (t env st) fun x st1 => some (.bl x, st1)
def mAndV (ma mb : M D) : M D := fun env st => bnd (mTB ma env st) fun x st1 => if x = true then mb env st1 else some (.bl false, st1)
def mOrV (ma mb : M D) : M D := fun env st => bnd (mTB ma env st) fun x st1 => if x = true then some (.bl true, st1) else mb env st1
def mNotV (ma : M D) : M D := fun env st => bnd (mTB ma env st) fun x st1 => some (.bl (!x), st1)
theorem pm_one {op} (h : PM X a ma) : PM X (.BoolOp op [a] pos) ma := pe_one h
theorem pm_and (ha : PM X a ma) (hb : PM X (.BoolOp .And (b :: rest) pos) mb) : PM X (.BoolOp .And (a :: b :: rest) pos) (mAndV ma mb) :=
  imp_e (pe_and ha hb) fun σ H Q ⟨env, st, ρ, d, st', ro, rs, e, k⟩ => tB_core (test_core (Q := fun c H1 => if c = true then tM X.K mb σ H1 Q else Q (.bl false) H1) ro rs e fun x s1 H1 ρ1 e n rs1 ro1 => by
    cases x with
    | true => exact ⟨env, s1, ρ1, d, st', ro1, rs1, e, fun v H' ρ' n' rs' rv => k v H' ρ' (n.trans n') rs' rv⟩
    | false => cases e; exact k _ H1 ρ1 n rs1 rfl)
theorem pm_or (ha : PM X a ma) (hb : PM X (.BoolOp .Or (b :: rest) pos) mb) : PM X (.BoolOp .Or (a :: b :: rest) pos) (mOrV ma mb) :=
  imp_e (pe_or ha hb) fun σ H Q ⟨env, st, ρ, d, st', ro, rs, e, k⟩ => tB_core (test_core (Q := fun c H1 => if c = true then Q (.bl true) H1 else tM X.K mb σ H1 Q) ro rs e fun x s1 H1 ρ1 e n rs1 ro1 => by
    cases x with
    | false => exact ⟨env, s1, ρ1, d, st', ro1, rs1, e, fun v H' ρ' n' rs' rv => k v H' ρ' (n.trans n') rs' rv⟩
    | true => cases e; exact k _ H1 ρ1 n rs1 rfl)
theorem pm_not (ha : PM X a ma) : PM X (.UnaryOp .Not a pos) (mNotV ma) :=
  imp_e (pe_not ha) fun σ H Q ⟨env, st, ρ, d, st', ro, rs, e, k⟩ => tB_core (test_core (Q := fun c H1 => Q (.bl (!c)) H1) ro rs e fun x s1 H1 ρ1 e n rs1 ro1 => by
    cases e; exact k _ H1 ρ1 n rs1 rfl)

/-! ### argument lists, displays -/
def mNil : M (List D) := fun _ st => some ([], st)
def mCons (m : M D) (r : M (List D)) : M (List D) := fun env st => bnd (m env st) fun x st1 => bnd (r env st1) fun xs st2 => some (x :: xs, st2)
variable {e : Expr} {es : List Expr} {m : M D} {ms : M (List D)}
theorem pma_nil : PMA X [] mNil := imp_a pa_nil fun σ H Q ⟨env, st, ρ, d, st', ro, rs, e, k⟩ => by cases e; exact k [] H ρ (Nxt.refl _ _) rs rfl
theorem pma_cons (ha : PM X e m) (hr : PMA X es ms) (hs : starEach (e :: es) X.env = (false, eval e X.env) :: starEach es X.env := by rfl) : PMA X (e :: es) (mCons m ms) :=
  imp_a (pa_cons ha hr hs) fun σ H Q ⟨env, st, ρ, d, st', ro, rs, e, k⟩ => by
    obtain ⟨x, s1, e1, e⟩ := bnd_inv e
    obtain ⟨y, s2, e2, e⟩ := bnd_inv e
    cases e
    exact ⟨env, st, ρ, x, s1, ro, rs, e1, fun vx H1 ρ1 n1 rs1 rx => ⟨env, s1, ρ1, y, _, ro.nxt n1, rs1, e2, fun vy H2 ρ2 n2 rs2 ry => k _ H2 ρ2 (n1.trans n2) rs2 ⟨vx, vy, rfl, RV.nxt n2 _ _ rx, ry⟩⟩⟩
def mTup (ms : M (List D)) : M D := fun env st => bnd (ms env st) fun xs st1 => if xs.length ≤ 1000 then some (.tup xs, st1) else none
theorem sz1000 {n : Nat} (h : n ≤ 1000) : n ≤ sizeLine := Nat.le_trans h (by decide)
theorem pe_tupF {x1} {ta : TA} (h : PA X es ta) : PE X (.Tuple es x1 pos) (fun σ H Q => ta σ H fun xs H1 => xs.length ≤ sizeLine ∧ ∀ p o, H1 p = none → o.dict = none → Q (.ref p) (upd H1 p (.frz o (.tup xs)))) := by
  refine ⟨fun pins s σ H Q I hq => ?_⟩
  refine wpAny_Tuple_spliced (thn (h.run pos pins s σ H _ I hq) fun us s1 ⟨xs, H1, I1, r, z, q⟩ => ⟨by rw [← r.length]; exact z, ?_⟩)
  have hf : H1 s1.heap.objs.size = none := I1.hok.fresh (Nat.le_refl _)
  refine ⟨.ref s1.heap.objs.size, _, I1.laid (o := .frz { cls := .type "tuple", data := .seq us.toArray } (.tup xs)) (t' := s1.toks) (fun b u e => Heap.get?_push_of_some _ e) (Nat.le_refl _) ?_, rfl, q _ _ hf rfl⟩
  exact ⟨Heap.get?_push_size _ rfl, z, us, r, ⟨_, Heap.get?_push_size _ rfl, rfl, _, rfl⟩⟩
theorem pm_tup {x1} (h : PMA X es ms) : PM X (.Tuple es x1 pos) (mTup ms) :=
  imp_e (pe_tupF h) fun σ H Q ⟨env, st, ρ, d, st', ro, rs, e, k⟩ => by
    obtain ⟨x, s1, e1, e⟩ := bnd_inv e
    split at e
    · rename_i hl
      cases e
      refine ⟨env, st, ρ, x, _, ro, rs, e1, fun vx H1 ρ1 n1 rs1 rx => ⟨by rw [RVs.length rx]; exact sz1000 hl, fun p o hp ho => ?_⟩⟩
      exact k _ _ ρ1 (n1.trans (Nxt.laid rs1 hp)) (rs1.laid hp) ⟨p, vx, rfl, .inl ⟨rs1.out hp, o, upd_same, ho⟩, RVs.nxt (Nxt.laid rs1 hp) _ _ rx⟩
    · cases e
def mLst (ms : M (List D)) : M (List D) := fun env st => bnd (ms env st) fun xs st1 => if xs.length ≤ 1000 then some (xs, st1) else none
theorem pml_lst (h : PMA X es ms) : PML X (.List es pos) (mLst ms) :=
  imp_e (pe_lst h) fun σ H Q ⟨env, st, ρ, d, st', ro, rs, e, k⟩ => by
    obtain ⟨x, s1, e1, e⟩ := bnd_inv e
    split at e
    · rename_i hl
      cases e
      refine ⟨env, st, ρ, d, _, ro, rs, e1, fun vx H1 ρ1 n1 rs1 rx => ⟨by rw [RVs.length rx]; exact sz1000 hl, fun p hp => ?_⟩⟩
      exact k _ _ _ ρ1 n1 rs1 hp rx
    · cases e
/-- a new list that stays as it is; one that goes into the store -/
def mFrz (ms : M (List D)) : M D := fun env st => bnd (ms env st) fun xs st1 => some (.lst xs, st1)
def mMut (ms : M (List D)) : M D := fun env st => bnd (ms env st) fun xs st1 => some (.loc st1.length, st1 ++ [.lst xs])
theorem pm_frz (h : PML X e ms) : PM X e (mFrz ms) :=
  imp_e h fun σ H Q ⟨env, st, ρ, d, st', ro, rs, e, k⟩ => by
    obtain ⟨x, s1, e1, e⟩ := bnd_inv e
    cases e
    exact ⟨env, st, ρ, x, _, ro, rs, e1, fun p vs H1 ρ1 n1 rs1 hp rx => k _ _ ρ1 (n1.trans (Nxt.laid rs1 hp)) (rs1.laid hp) ⟨p, vs, rfl, ⟨rs1.out hp, upd_same⟩, RVs.nxt (Nxt.laid rs1 hp) _ _ rx⟩⟩
theorem pm_mut (h : PML X e ms) : PM X e (mMut ms) :=
  imp_e h fun σ H Q ⟨env, st, ρ, d, st', ro, rs, e, k⟩ => by
    obtain ⟨x, s1, e1, e⟩ := bnd_inv e
    cases e
    refine ⟨env, st, ρ, x, s1, ro, rs, e1, fun p vs H1 ρ1 n1 rs1 hp rx => ?_⟩
    refine k (.ref p) _ (ρ1.add p) (n1.trans (Nxt.alloc rs1 hp)) (rs1.alloc hp ⟨vs, upd_same, RVs.nxt (Nxt.alloc rs1 hp) _ _ rx⟩) ⟨p, rfl, ?_⟩
    rw [← rs1.len]
    simp [Rh.add]
/-- a new list, made a tuple at once: tuple([..]) -/
def mTupOf (ms : M (List D)) : M D := fun env st => bnd (ms env st) fun xs st1 => some (.tup xs, st1)
end
end Mn
end
section
set_option Elab.async false
set_option autoImplicit false
set_option linter.all false
set_option maxRecDepth 100000
set_option maxHeartbeats 2000000
/-! The mini layer, 3: statements, loops, defs and their calls. -/
namespace Mn
noncomputable section
open PySem PySem.Spec PyProof.Rows L2

/-! ### statements -/
def sNil : S := fun env st => some (.nx env, st)
def sSeq (a b : S) : S := fun env st => bnd (a env st) fun o st1 =>
  match o with
  | .nx env1 => b env1 st1
  | .bk env1 => some (.bk env1, st1)
  | .ct env1 => some (.ct env1, st1)
  | .rt d => some (.rt d, st1)
def sAsg (i : Nat) (m : M D) : S := fun env st => bnd (m env st) fun d st1 => some (.nx (env.set i (some d)), st1)
def sDrop (m : M D) : S := fun env st => bnd (m env st) fun _ st1 => some (.nx env, st1)
def sRet (m : M D) : S := fun env st => bnd (m env st) fun d st1 => some (.rt d, st1)
def sRetN : S := fun _ st => some (.rt .non, st)
def sIf (t : M Bool) (a b : S) : S := fun env st => bnd (t env st) fun x st1 => if x = true then a env st1 else b env st1
def sBreak : S := fun env st => some (.bk env, st)
def sCont : S := fun env st => some (.ct env, st)
def sNever : S := fun _ _ => none

/-- what is wanted of a state, from an earlier one -/
theorem AfterS.nxt {K : PySem.W.Frag} {ρ ρ' : Rh} {H H' : Hp} {o : Out} {st' : Store} {E : Ends} (n : Nxt ρ H ρ' H') (h : AfterS K ρ H o st' E) : AfterS K ρ' H' o st' E := by
  cases o with
  | nx env => exact fun σ2 H2 ρ2 n2 rs ro => h σ2 H2 ρ2 (n.trans n2) rs ro
  | bk env => exact fun σ2 H2 ρ2 n2 rs ro => h σ2 H2 ρ2 (n.trans n2) rs ro
  | ct env => exact fun σ2 H2 ρ2 n2 rs ro => h σ2 H2 ρ2 (n.trans n2) rs ro
  | rt d => exact fun v H2 ρ2 n2 rs rv => h v H2 ρ2 (n.trans n2) rs rv
section
variable {X : Cx} {st : Stmt} {rest : List Stmt} {m : M D} {t : M Bool} {a b : S} {e c : Expr} {es : List Expr} {pos : Pos}
theorem pms_nil : PMSs X [] sNil := imp_ss pss_nil fun E σ H ⟨env, st, ρ, o, st', ro, rs, e, k⟩ => by
  cases e
  exact k σ H ρ (Nxt.refl _ _) rs ro
theorem seq_core {K : PySem.W.Frag} {E : Ends} {σ : L2.St} {H : Hp} (h : tS K (sSeq a b) E σ H) : tSeq (tS K a) (tS K b) E σ H := by
  obtain ⟨env, st, ρ, o, st', ro, rs, e, k⟩ := h
  obtain ⟨o1, s1, e1, e⟩ := bnd_inv e
  refine ⟨env, st, ρ, o1, s1, ro, rs, e1, ?_⟩
  cases o1 with
  | nx env1 => exact fun σ' H' ρ' n rs' ro' => ⟨env1, s1, ρ', o, st', ro', rs', e, k.nxt n⟩
  | bk env1 => cases e; exact k
  | ct env1 => cases e; exact k
  | rt d => cases e; exact k
theorem pms_cons (h1 : PMS X st a) (h2 : PMSs X rest b) : PMSs X (st :: rest) (sSeq a b) := imp_ss (pss_cons h1 h2) fun _ _ _ h => seq_core h
theorem pms_one (h1 : PMS X st a) : PMSs X [st] a := pss_one h1
theorem pms_set {i : Nat} {x : Str} {pos' : Pos} (hN : X.N.Nodup) (he : PM X e m) (hi : X.N[i]? = some x := by rfl) (hx : Loc X.env.scope x := by first | exact .inl rfl | exact .inr rfl) (hs : swapsWith e (some (.Name x pos')) pos.line X.env = pure false := by rfl)
    (hf : X.fn x = true ∨ X.env.scope.names.lookup x = some .local := by first | exact .inl rfl | exact .inr rfl | assumption) :
    PMS X (.Assign [.Name x pos'] e pos) (sAsg i m) :=
  imp_s (ps_set hN hi hx he hs hf) fun E σ H ⟨env, st, ρ, o, st', ro, rs, e, k⟩ => by
    obtain ⟨d, s1, e1, e⟩ := bnd_inv e
    cases e
    exact ⟨env, st, ρ, d, _, ro, rs, e1, fun v H' ρ' n rs' rv => k _ H' ρ' n rs' ((ro.nxt n).set rv i)⟩
theorem pms_drop (he : PM X e m) (hs : swapsWith e none pos.line X.env = pure false := by rfl) : PMS X (.Expr e pos) (sDrop m) :=
  imp_s (ps_expr he hs) fun E σ H ⟨env, st, ρ, o, st', ro, rs, e, k⟩ => by
    obtain ⟨d, s1, e1, e⟩ := bnd_inv e
    cases e
    exact ⟨env, st, ρ, d, _, ro, rs, e1, fun v H' ρ' n rs' rv => k _ H' ρ' n rs' (ro.nxt n)⟩
theorem pms_ret (he : PM X e m) : PMS X (.Return (some e) pos) (sRet m) :=
  imp_s (ps_ret he) fun E σ H ⟨env, st, ρ, o, st', ro, rs, e, k⟩ => by
    obtain ⟨d, s1, e1, e⟩ := bnd_inv e
    cases e
    exact ⟨env, st, ρ, d, _, ro, rs, e1, k⟩
theorem pms_retN : PMS X (.Return none pos) sRetN :=
  imp_s ps_retN fun E σ H ⟨env, st, ρ, o, st', ro, rs, e, k⟩ => by
    cases e
    exact k _ H ρ (Nxt.refl _ _) rs rfl
theorem pms_if {A B : List Stmt} (hc : PMT X c t) (ha : PMSs X A a) (hb : PMSs X B b) : PMS X (.If c A B pos) (sIf t a b) :=
  imp_s (ps_if hc ha hb) fun E σ H ⟨env, st, ρ, o, st', ro, rs, e, k⟩ => test_core ro rs e fun x s1 H1 ρ1 e n rs1 ro1 => by
    cases x with
    | true => exact ⟨env, s1, ρ1, o, st', ro1, rs1, e, k.nxt n⟩
    | false => exact ⟨env, s1, ρ1, o, st', ro1, rs1, e, k.nxt n⟩
theorem pms_break : PMS X (.Break pos) sBreak := imp_s ps_break fun E σ H ⟨env, st, ρ, o, st', ro, rs, e, k⟩ => by
  cases e
  exact k σ H ρ (Nxt.refl _ _) rs ro
theorem pms_cont : PMS X (.Continue pos) sCont := imp_s ps_continue fun E σ H ⟨env, st, ρ, o, st', ro, rs, e, k⟩ => by
  cases e
  exact k σ H ρ (Nxt.refl _ _) rs ro
theorem pms_pass : PMS X (.Pass pos) sNil := imp_s ps_pass fun E σ H ⟨env, st, ρ, o, st', ro, rs, e, k⟩ => by
  cases e
  exact k σ H ρ (Nxt.refl _ _) rs ro
theorem pms_never : PMS X st sNever := imp_s ps_never fun E σ H ⟨env, st, ρ, o, st', ro, rs, e, k⟩ => by cases e

/-! ### while -/
def whN (t : M Bool) (a : S) : Nat → S
  | 0, _, _ => none
  | n + 1, env, st => bnd (t env st) fun x st1 => if x = true then bnd (a env st1) fun o st2 =>
      match o with
      | .nx env1 => whN t a n env1 st2
      | .ct env1 => whN t a n env1 st2
      | .bk env1 => some (.nx env1, st2)
      | .rt d => some (.rt d, st2)
    else some (.nx env, st1)
open Classical in
noncomputable def sWhile (t : M Bool) (a : S) : S := fun env st => if h : ∃ n r, whN t a n env st = some r then some (Classical.choose (Classical.choose_spec h)) else none
theorem whN_mono (t : M Bool) (a : S) : ∀ (n : Nat) (env : MEnv) (st : Store) (r : Out × Store), whN t a n env st = some r → ∀ m, n ≤ m → whN t a m env st = some r
  | 0, _, _, _, h, _, _ => by cases h
  | n + 1, env, st, r, h, m, hm => by
    obtain ⟨k, rfl⟩ : ∃ k, m = k + 1 := ⟨m - 1, by omega⟩
    unfold whN at h ⊢
    obtain ⟨x, s1, e1, h⟩ := bnd_inv h
    rw [e1, bnd_some]
    cases x with
    | false => exact h
    | true =>
      simp only [if_true] at h ⊢
      obtain ⟨o, s2, e2, h⟩ := bnd_inv h
      rw [e2, bnd_some]
      cases o with
      | nx env1 => exact whN_mono t a n env1 s2 r h k (by omega)
      | ct env1 => exact whN_mono t a n env1 s2 r h k (by omega)
      | bk env1 => exact h
      | rt d => exact h
theorem sWhile_of {env : MEnv} {st : Store} {n : Nat} {r : Out × Store} (h : whN t a n env st = some r) : sWhile t a env st = some r := by
  have hx : ∃ n r, whN t a n env st = some r := ⟨n, r, h⟩
  unfold sWhile
  rw [dif_pos hx]
  have h2 := Classical.choose_spec (Classical.choose_spec hx)
  have h3 := whN_mono t a _ _ _ _ h2 (n + Classical.choose hx) (by omega)
  have h4 := whN_mono t a _ _ _ _ h (n + Classical.choose hx) (by omega)
  rw [h3] at h4
  exact h4
theorem sWhile_inv {env : MEnv} {st : Store} {r : Out × Store} (h : sWhile t a env st = some r) : ∃ n, whN t a n env st = some r := by
  unfold sWhile at h
  split at h
  · rename_i hx
    cases h
    exact ⟨_, Classical.choose_spec (Classical.choose_spec hx)⟩
  · cases h
theorem while_core {K : PySem.W.Frag} {E : Ends} {σ : L2.St} {H : Hp} (h : tS K (sWhile t a) E σ H) : tWhile (tMT K t) (tS K a) E σ H := by
  obtain ⟨env0, st0, ρ0, o, st', ro0, rs0, e0, k0⟩ := h
  obtain ⟨n0, e0⟩ := sWhile_inv e0
  refine ⟨fun n σ H => ∃ env st ρ, RVo K ρ H env σ ∧ RepSt K ρ st H ∧ whN t a n env st = some (o, st') ∧ AfterS K ρ H o st' E, ⟨n0, env0, st0, ρ0, ro0, rs0, e0, k0⟩, ?_⟩
  rintro n σ1 H1 ⟨env, st, ρ, ro, rs, e, k⟩
  cases n with
  | zero => cases e
  | succ n =>
    unfold whN at e
    refine test_core ro rs e fun x s1 H2 ρ1 e n1 rs1 ro1 => ?_
    cases x with
    | false =>
      simp only [Bool.false_eq_true, if_false] at e ⊢
      cases e
      exact k σ1 H2 ρ1 n1 rs1 ro1
    | true =>
      simp only [if_true] at e ⊢
      refine ⟨fun σ H => ∃ env st ρ, RVo K ρ H env σ ∧ RepSt K ρ st H ∧ whN t a n env st = some (o, st') ∧ AfterS K ρ H o st' E, fun σ' H' h => ⟨n, by omega, h⟩, ?_⟩
      obtain ⟨o2, s2, e2, e⟩ := bnd_inv e
      refine ⟨env, s1, ρ1, o2, s2, ro1, rs1, e2, ?_⟩
      cases o2 with
      | nx env1 => exact fun σ' H' ρ' n' rs' ro' => ⟨env1, s2, ρ', ro', rs', e, (k.nxt n1).nxt n'⟩
      | ct env1 => exact fun σ' H' ρ' n' rs' ro' => ⟨env1, s2, ρ', ro', rs', e, (k.nxt n1).nxt n'⟩
      | bk env1 => cases e; exact fun σ' H' ρ' n' rs' ro' => k σ' H' ρ' (n1.trans n') rs' ro'
      | rt d => cases e; exact fun v H' ρ' n' rs' rv => k v H' ρ' (n1.trans n') rs' rv
theorem pms_while {B : List Stmt} (hp : PassesOwn (model X.prog X.w) X.A X.env X.xe) (hc : PMT X c t) (hb : PMSs X B a) : PMS X (.While c B [] pos) (sWhile t a) := imp_s (ps_while hp hc hb) fun _ _ _ h => while_core h
end

/-! ### targets -/
abbrev G := D → MEnv → Store → Option (MEnv × Store)
/-- only the slots vs change -/
def OnlyAt (vs : List Nat) (σ σ' : L2.St) : Prop := σ'.length = σ.length ∧ ∀ j, j ∉ vs → σ'[j]? = σ[j]?
theorem OnlyAt.refl (vs : List Nat) (σ : L2.St) : OnlyAt vs σ σ := ⟨rfl, fun _ _ => rfl⟩
theorem OnlyAt.trans {vs us : List Nat} {σ σ1 σ2 : L2.St} (a : OnlyAt vs σ σ1) (b : OnlyAt us σ1 σ2) : OnlyAt (vs ++ us) σ σ2 :=
  ⟨b.1.trans a.1, fun j h => (b.2 j fun z => h (List.mem_append_right _ z)).trans (a.2 j fun z => h (List.mem_append_left _ z))⟩
def tG (K : PySem.W.Frag) (vs : List Nat) (g : G) : TG := fun v σ H Q => ∃ d env st ρ env' st', RV K ρ H d v ∧ RVo K ρ H env σ ∧ RepSt K ρ st H ∧ g d env st = some (env', st') ∧
  ∀ σ' H' ρ', OnlyAt vs σ σ' → Nxt ρ H ρ' H' → RepSt K ρ' st' H' → RVo K ρ' H' env' σ' → Q σ' H'
abbrev PMG (X : Cx) (e : Expr) (vs : List Nat) (g : G) : Prop := PG X e (tG X.K vs g)
abbrev Gs := List D → MEnv → Store → Option (MEnv × Store)
def tGs (K : PySem.W.Frag) (vs : List Nat) (g : Gs) : TGs := fun xs σ H Q => ∃ ds env st ρ env' st', RVs K ρ H ds xs ∧ RVo K ρ H env σ ∧ RepSt K ρ st H ∧ g ds env st = some (env', st') ∧
  ∀ σ' H' ρ', OnlyAt vs σ σ' → Nxt ρ H ρ' H' → RepSt K ρ' st' H' → RVo K ρ' H' env' σ' → Q σ' H'
abbrev PMGs (X : Cx) (es : List Expr) (vs : List Nat) (g : Gs) : Prop := PGs X es (tGs X.K vs g)
theorem imp_g {X : Cx} {e : Expr} {t t' : TG} (h : PG X e t) (f : ∀ v σ H Q, t' v σ H Q → t v σ H Q) : PG X e t' := ⟨fun pins s σ H v u Q I r q => h.run pins s σ H v u Q I r (f v σ H Q q)⟩
theorem imp_gs {X : Cx} {e : List Expr} {t t' : TGs} (h : PGs X e t) (f : ∀ v σ H Q, t' v σ H Q → t v σ H Q) : PGs X e t' := ⟨fun pins s σ H v u Q I r q => h.run pins s σ H v u Q I r (f v σ H Q q)⟩
def gN (i : Nat) : G := fun d env st => some (env.set i (some d), st)
def gsN : Gs := fun ds env st => if ds.isEmpty then some (env, st) else none
def gsC (g : G) (r : Gs) : Gs := fun ds env st =>
  match ds with
  | [] => none
  | d :: ds => bnd (g d env st) fun env1 st1 => r ds env1 st1
/-- the items of a tuple or a list -/
def seqD (d : D) (st : Store) : Option (List D) :=
  match d with
  | .tup l => some l
  | .lst l => some l
  | .rol l => some l
  | .loc n => match st[n]? with
    | some (.lst l) => some l
    | _ => none
  | _ => none
def tupD (d : D) : Option (List D) :=
  match d with
  | .tup l => some l
  | .ptl l => some l
  | _ => none
def gT (n : Nat) (r : Gs) : G := fun d env st =>
  match tupD d with
  | some l => if l.length = n then r l env st else none
  | none => none
theorem FzT.seq {K : PySem.W.Frag} {ρ : Rh} {H : Hp} {a : Addr} {xs : List V} (h : FzT K ρ H a xs) : SqT K H a xs := by
  rcases h with ⟨_, o, h, _⟩ | h
  · exact .inl (.inr ⟨o, h⟩)
  · exact h.2 H
theorem FzP.seq {K : PySem.W.Frag} {ρ : Rh} {H : Hp} {a : Addr} {xs : List V} (h : FzP K ρ H a xs) : SqT K H a xs := by
  rcases h with h | h
  · exact h.2
  · exact h H
theorem FzL.seq {K : PySem.W.Frag} {ρ : Rh} {H : Hp} {a : Addr} {xs : List V} (h : FzL K ρ H a xs) : SqL K H a xs := by
  rcases h with h | h
  · exact h.2
  · exact h H
theorem seqD_ok {K : PySem.W.Frag} {ρ : Rh} {H : Hp} {st : Store} {d : D} {v : V} {l : List D} (rs : RepSt K ρ st H) (rv : RV K ρ H d v) (e : seqD d st = some l) : ∃ a xs, v = .ref a ∧ (SqL K H a xs ∨ SqT K H a xs) ∧ RVs K ρ H l xs := by
  cases d with
  | tup ds => cases e; obtain ⟨a, xs, e1, f, r⟩ := rv; exact ⟨a, xs, e1, .inr f.seq, r⟩
  | lst ds => cases e; obtain ⟨a, xs, e1, f, r⟩ := rv; exact ⟨a, xs, e1, .inl (SqL.of f.2), r⟩
  | rol ds => cases e; obtain ⟨a, xs, e1, f, r⟩ := rv; exact ⟨a, xs, e1, .inl f.seq, r⟩
  | loc n =>
    unfold seqD at e
    simp only at e
    split at e
    · rename_i l' h
      cases e
      obtain ⟨a, e1, e2, xs, e3, r⟩ := rs.at rv h
      exact ⟨a, xs, e1, .inl (SqL.of e3), r⟩
    · cases e
  | _ => cases e
section
variable {X : Cx} {st : Stmt} {m : M D} {e : Expr} {es : List Expr} {pos : Pos} {g : G} {gs : Gs} {vs us : List Nat}
theorem pmg_name {i : Nat} {x : Str} (hN : X.N.Nodup) (hi : X.N[i]? = some x := by rfl) (hx : Loc X.env.scope x := by first | exact .inl rfl | exact .inr rfl) (hf : X.fn x = true ∨ X.env.scope.names.lookup x = some .local := by first | exact .inl rfl | exact .inr rfl | assumption) : PMG X (.Name x pos) [i] (gN i) :=
  imp_g (pg_name hN hi hx hf) fun v σ H Q ⟨d, env, st, ρ, env', st', rv, ro, rs, e, k⟩ => by
    cases e
    refine k _ H ρ ⟨by simp, fun j hj => ?_⟩ (Nxt.refl _ _) rs (ro.set rv i)
    rw [List.getElem?_set_ne (fun z => hj (by simp [z]))]
theorem pmgs_nil : PMGs X [] [] gsN := imp_gs pgs_nil fun v σ H Q ⟨d, env, st, ρ, env', st', rv, ro, rs, e, k⟩ => by
  unfold gsN at e
  cases d with
  | nil => cases e; exact ⟨rv, k σ H ρ (OnlyAt.refl _ _) (Nxt.refl _ _) rs ro⟩
  | cons _ _ => cases e
theorem pmgs_cons (h1 : PMG X e vs g) (h2 : PMGs X es us gs) (hs : (assignEach (e :: es) X.env).map (·.2) = assign e X.env :: (assignEach es X.env).map (·.2) := by rfl) : PMGs X (e :: es) (vs ++ us) (gsC g gs) :=
  imp_gs (pgs_cons h1 h2 hs) fun v σ H Q ⟨ds, env, st, ρ, env', st', rv, ro, rs, e, k⟩ => by
    cases ds with
    | nil => cases e
    | cons d ds =>
      obtain ⟨v1, r1, e1, rv1, rv2⟩ := rv
      obtain ⟨env1, s1, e2, e⟩ := bnd_inv e
      exact ⟨v1, r1, e1, d, env, st, ρ, env1, s1, rv1, ro, rs, e2, fun σ' H' ρ' oa n rs' ro' => ⟨ds, env1, s1, ρ', env', st', RVs.nxt n _ _ rv2, ro', rs', e, fun σ2 H2 ρ2 ob n2 rs2 ro2 => k σ2 H2 ρ2 (oa.trans ob) (n.trans n2) rs2 ro2⟩⟩
theorem pmg_tup {k n : Nat} (hc : X.calm = true) (h : PMGs X es vs gs) (hn : (assignEach es X.env).length = n := by rfl) (hst : (assignEach es X.env).findIdx? (·.1) = none := by rfl) : PMG X (.Tuple es k pos) vs (gT n gs) :=
  imp_g (pg_tup hc h hn hst) fun v σ H Q ⟨d, env, st, ρ, env', st', rv, ro, rs, e, k⟩ => by
    unfold gT at e
    cases d with
    | tup ds =>
      simp only [tupD] at e
      split at e
      · rename_i hl
        obtain ⟨a, xs, e1, f, r⟩ := rv
        exact ⟨a, xs, e1, f.seq, by rw [RVs.length r]; exact hl, ds, env, st, ρ, env', st', r, ro, rs, e, k⟩
      · cases e
    | ptl ds =>
      simp only [tupD] at e
      split at e
      · rename_i hl
        obtain ⟨a, xs, e1, f, r⟩ := rv
        exact ⟨a, xs, e1, f.seq, by rw [RVs.length r]; exact hl, ds, env, st, ρ, env', st', r, ro, rs, e, k⟩
      · cases e
    | _ => cases e
/-- target = value -/
def sTgt (m : M D) (g : G) : S := fun env st => bnd (m env st) fun d st1 => bnd (g d env st1) fun env2 st2 => some (.nx env2, st2)
theorem pms_asg {tg : Expr} (he : PM X e m) (hg : PMG X tg vs g) (hs : swapsWithSole [tg] e pos.line X.env = pure false := by rfl) (hw : swappedStores [tg] e X.env = pure none := by rfl)
    (h1 : (assignEach [tg] X.env).map (·.2) = [assign tg X.env] := by rfl) : PMS X (.Assign [tg] e pos) (sTgt m g) :=
  imp_s (ps_asg he hg hs hw h1) fun E σ H ⟨env, st, ρ, o, st', ro, rs, e, k⟩ => by
    obtain ⟨d, s1, e1, e⟩ := bnd_inv e
    obtain ⟨env2, s2, e2, e⟩ := bnd_inv e
    cases e
    exact ⟨env, st, ρ, d, s1, ro, rs, e1, fun v H' ρ' n rs' rv => ⟨d, env, s1, ρ', env2, _, rv, ro.nxt n, rs', e2, fun σ2 H2 ρ2 _ n2 rs2 ro2 => k σ2 H2 ρ2 (n.trans n2) rs2 ro2⟩⟩
/-- a, b = x, y with plain local names -/
def sPar (i j : Nat) (ms : M (List D)) : S := fun env st => bnd (ms env st) fun ds st1 =>
  match ds with
  | [x, y] => some (.nx ((env.set i (some x)).set j (some y)), st1)
  | _ => none
theorem pms_par {i j : Nat} {x y : Str} {a b : Expr} {ms : M (List D)} {px py pt : Pos} {kt k2 pt2} (hN : X.N.Nodup) (ha : PMA X [a, b] ms) (hc : X.calm = true := by rfl) (hi : X.N[i]? = some x := by rfl) (hj : X.N[j]? = some y := by rfl) (hij : i ≠ j := by decide)
    (hx : X.env.scope.names.lookup x = some .local := by rfl) (hy : X.env.scope.names.lookup y = some .local := by rfl)
    (hw : swappedStores [.Tuple [.Name x px, .Name y py] kt pt] (.Tuple [a, b] k2 pt2) X.env = pure (some [x, y]) := by rfl)
    (hs : swapsWithSole [.Tuple [.Name x px, .Name y py] kt pt] (.Tuple [a, b] k2 pt2) pos.line X.env = pure false := by rfl) :
    PMS X (.Assign [.Tuple [.Name x px, .Name y py] kt pt] (.Tuple [a, b] k2 pt2) pos) (sPar i j ms) :=
  imp_s (ps_par hc hN hi hj hij hx hy ha hw hs) fun E σ H ⟨env, st, ρ, o, st', ro, rs, e, k⟩ => by
    obtain ⟨ds, s1, e1, e⟩ := bnd_inv e
    refine ⟨env, st, ρ, ds, s1, ro, rs, e1, fun vs H' ρ' n rs' rv => ?_⟩
    split at e
    · rename_i x y
      cases e
      obtain ⟨v1, r1, rfl, h1, v2, r2, rfl, h2, rfl⟩ := rv
      exact ⟨v1, v2, rfl, k _ H' ρ' n rs' (((ro.nxt n).set h1 i).set h2 j)⟩
    · cases e
end

/-! ### for -/
/-- over items that stand -/
def forL (g : G) (b : S) : List D → S
  | [], env, st => some (.nx env, st)
  | x :: xs, env, st => bnd (g x env st) fun env1 st1 => bnd (b env1 st1) fun o st2 =>
    match o with
    | .nx env2 => forL g b xs env2 st2
    | .ct env2 => forL g b xs env2 st2
    | .bk env2 => some (.nx env2, st2)
    | .rt d => some (.rt d, st2)
/-- what a loop's or a comprehension's items are: they stand while the loop runs -/
def itD (d : D) : Option (List D) :=
  match d with
  | .tup l => some l
  | .lst l => some l
  | .rol l => some l
  | _ => none
/-- an iterator over given items: how each comes -/
structure ItOk (K : PySem.W.Frag) (J : It) (ρ : Rh) (H : Hp) (n : Nat) (item : Nat → D → Prop) : Prop where
  go : ∀ i ρ' H' , Nx0 ρ H ρ' H' → i < n → J.go i H'
  stop : ∀ ρ' H', Nx0 ρ H ρ' H' → J.stop n H'
  yld : ∀ i ρ' H' x H2 st, Nx0 ρ H ρ' H' → RepSt K ρ' st H' → i < n → J.yld i H' x H2 → ∃ d, item i d ∧ RV K ρ' H2 d x ∧ Nxt ρ' H' ρ' H2 ∧ RepSt K ρ' st H2
abbrev Items (ds : List D) : Nat → D → Prop := fun i d => ds[i]? = some d
/-- iterating: the expression's value (or a range), then its items -/
def tMI (K : PySem.W.Frag) (mi : M (List D)) : TI := fun σ H R => ∃ env st ρ ds st', RVo K ρ H env σ ∧ RepSt K ρ st H ∧ mi env st = some (ds, st') ∧
  ∀ J H' ρ', Nxt ρ H ρ' H' → RepSt K ρ' st' H' → ItOk K J ρ' H' ds.length (Items ds) → R J H'
abbrev PMI (X : Cx) (tg e : Expr) (m : M (List D)) : Prop := PI X tg e (tMI X.K m)
theorem imp_i {X : Cx} {tg e : Expr} {t t' : TI} (h : PI X tg e t) (f : ∀ σ H Q, t' σ H Q → t σ H Q) : PI X tg e t' := ⟨fun pins s σ H R I q => h.run pins s σ H R I (f σ H R q)⟩
def sFor (mi : M (List D)) (g : G) (b : S) : S := fun env st => bnd (mi env st) fun ds st1 => forL g b ds env st1
theorem drop_cons {ds : List D} {i : Nat} (h : i < ds.length) : ds.drop i = ds[i] :: ds.drop (i + 1) := List.drop_eq_getElem_cons h
theorem for_core {K : PySem.W.Frag} {vs : List Nat} {mi : M (List D)} {g : G} {b : S} {E : Ends} {σ : L2.St} {H : Hp} (h : tS K (sFor mi g b) E σ H) : tFor (tMI K mi) (tG K vs g) (tS K b) E σ H := by
  obtain ⟨env0, st0, ρ0, o, st', ro0, rs0, e0, k0⟩ := h
  obtain ⟨ds, s1, e1, e0⟩ := bnd_inv e0
  refine ⟨env0, st0, ρ0, ds, s1, ro0, rs0, e1, fun J H1 ρ1 n1 rs1 ok => ?_⟩
  refine ⟨fun i m σ H => m + i = ds.length ∧ ∃ env st ρ, Nxt ρ1 H1 ρ H ∧ RVo K ρ H env σ ∧ RepSt K ρ st H ∧ forL g b (ds.drop i) env st = some (o, st') ∧ AfterS K ρ H o st' E,
    ⟨ds.length, rfl, env0, s1, ρ1, Nxt.refl _ _, ro0.nxt n1, rs1, e0, k0.nxt n1⟩, ?_⟩
  rintro i m σ2 H2 ⟨hm, env, st, ρ, n2, ro, rs, e, k⟩
  by_cases hi : i < ds.length
  · refine .inr ⟨ok.go i ρ H2 n2.toNx0 hi, fun σ H => ∃ env st ρ, Nxt ρ1 H1 ρ H ∧ RVo K ρ H env σ ∧ RepSt K ρ st H ∧ forL g b (ds.drop (i + 1)) env st = some (o, st') ∧ AfterS K ρ H o st' E, fun σ' H' h => ⟨m - 1, by omega, by omega, h⟩, fun x H3 hy => ?_⟩
    obtain ⟨d, hd, rx, n3, rs3⟩ := ok.yld i ρ H2 x H3 st n2.toNx0 rs hi hy
    have hd' : ds[i] = d := by
      have : ds[i]? = some d := hd
      rw [List.getElem?_eq_getElem hi] at this
      exact Option.some.inj this
    rw [drop_cons hi, hd'] at e
    unfold forL at e
    obtain ⟨env2, s2, e2, e⟩ := bnd_inv e
    refine ⟨d, env, st, ρ, env2, s2, rx, ro.nxt n3, rs3, e2, fun σ4 H4 ρ4 _ n4 rs4 ro4 => ?_⟩
    obtain ⟨o5, s5, e5, e⟩ := bnd_inv e
    refine ⟨env2, s2, ρ4, o5, s5, ro4, rs4, e5, ?_⟩
    have nn := n2.trans (n3.trans n4)
    have k4 := k.nxt (n3.trans n4)
    cases o5 with
    | nx env1 => exact fun σ' H' ρ' n' rs' ro' => ⟨env1, s5, ρ', nn.trans n', ro', rs', e, k4.nxt n'⟩
    | ct env1 => exact fun σ' H' ρ' n' rs' ro' => ⟨env1, s5, ρ', nn.trans n', ro', rs', e, k4.nxt n'⟩
    | bk env1 => cases e; exact k4
    | rt d => cases e; exact k4
  · have hi2 : i = ds.length := by omega
    subst hi2
    refine .inl ⟨ok.stop ρ H2 n2.toNx0, ?_⟩
    rw [List.drop_length] at e
    cases e
    exact k σ2 H2 ρ (Nxt.refl _ _) rs ro
section
variable {X : Cx} {m : M D} {e tg : Expr} {pos : Pos} {g : G} {vs : List Nat}
theorem pms_for {mi : M (List D)} {b : S} {B : List Stmt} (hp : PassesOwn (model X.prog X.w) X.A X.env X.xe) (hi : PMI X tg e mi) (hg : PMG X tg vs g) (hb : PMSs X B b) (hc : X.calm = true := by rfl) (hs : ∀ x, foldedSetIterable e X.env x = pure x := by intro _; rfl) :
    PMS X (.For tg e B [] pos) (sFor mi g b) := imp_s (ps_for hp hc hi hg hb hs) fun _ _ _ h => for_core h
/-- a tuple or a frozen list -/
def miSeq (m : M D) : M (List D) := fun env st => bnd (m env st) fun d st1 => ret1 (itD d) st1
theorem itD_ok {K : PySem.W.Frag} {ρ : Rh} {H : Hp} {d : D} {v : V} {l : List D} (rv : RV K ρ H d v) (e : itD d = some l) :
    ∃ a xs, v = .ref a ∧ RVs K ρ H l xs ∧ ((∀ ρ' H', Nx0 ρ H ρ' H' → SqL K H' a xs) ∨ (∀ ρ' H', Nx0 ρ H ρ' H' → SqT K H' a xs)) := by
  cases d with
  | tup ds => cases e; obtain ⟨a, xs, e1, f, r⟩ := rv; exact ⟨a, xs, e1, r, .inr fun ρ' H' n => (f.nxt n).seq⟩
  | lst ds => cases e; obtain ⟨a, xs, e1, f, r⟩ := rv; exact ⟨a, xs, e1, r, .inl fun ρ' H' n => SqL.of (n.keep _ _ f.1 f.2)⟩
  | rol ds => cases e; obtain ⟨a, xs, e1, f, r⟩ := rv; exact ⟨a, xs, e1, r, .inl fun ρ' H' n => (f.nxt n).seq⟩
  | _ => cases e
theorem yld_of {K : PySem.W.Frag} {ρ ρ' : Rh} {H H' : Hp} {ds : List D} {xs : List V} {i : Nat} {x : V} {st : Store} (r : RVs K ρ H ds xs) (n : Nx0 ρ H ρ' H') (rs : RepSt K ρ' st H') (hi : i < ds.length) (hx : xs[i]? = some x) :
    ∃ d, Items ds i d ∧ RV K ρ' H' d x ∧ Nxt ρ' H' ρ' H' ∧ RepSt K ρ' st H' := by
  obtain ⟨v, h1, h2⟩ := RVs.get r (List.getElem?_eq_getElem hi)
  rw [hx] at h1
  cases h1
  exact ⟨_, List.getElem?_eq_getElem hi, RV.nx0 n _ _ h2, Nxt.refl _ _, rs⟩
/-- both kinds of sequences, at the iterator -/
theorem pi_seq {l : Expr} {tl : TE} (hl : PE X l tl) : PI X tg l (fun σ H R => tl σ H fun x H1 => ∃ a, x = .ref a ∧ (((∃ xs, SqL X.K H1 a xs) ∧ R (Itl X.K a) H1) ∨ ((∃ xs, SqT X.K H1 a xs) ∧ R (Itt X.K a) H1))) := by
  refine ⟨fun pins s σ H R I h => ?_⟩
  refine thn (hl.run pins s σ H _ I h) fun v s1 ⟨x, H1, I1, r1, q1⟩ => ?_
  obtain ⟨a, e, q⟩ := q1
  subst e
  cases r1
  rcases q with ⟨⟨xs, hq⟩, q⟩ | ⟨⟨xs, hq⟩, q⟩
  · obtain ⟨its, rv, p, hz⟩ := I1.list hq
    refine wpAny_pyIter_list p.isList ?_
    refine ⟨s1.heap.objs.size, [s1.heap.objs.size], _, _, H1, rfl, I1.kept (t' := s1.toks) fun b o e => Heap.get?_push_of_some _ e, turn_list a _, ⟨_, Heap.get?_push_size _ rfl, rfl, rfl⟩, fun b hb => ?_, q⟩
    have e : b = s1.heap.objs.size := by simpa using hb
    subst e
    exact I1.fpOk (Nat.le_refl _) (I1.hok.fresh (Nat.le_refl _))
  · obtain ⟨its, rv, p, hz⟩ := I1.tuple hq
    refine wpAny_pyIter_tuple (show s1.heap.IsTuple a its.toArray from p) ?_
    refine ⟨s1.heap.objs.size, [s1.heap.objs.size], _, _, H1, rfl, I1.kept (t' := s1.toks) fun b o e => Heap.get?_push_of_some _ e, turn_tuple a _, ⟨_, Heap.get?_push_size _ rfl, rfl, rfl⟩, fun b hb => ?_, q⟩
    have e : b = s1.heap.objs.size := by simpa using hb
    subst e
    exact I1.fpOk (Nat.le_refl _) (I1.hok.fresh (Nat.le_refl _))
theorem pmi_seq (h : PM X e m) : PMI X tg e (miSeq m) :=
  imp_i (pi_seq h) fun σ H R ⟨env, st, ρ, ds, st', ro, rs, e, k⟩ => by
    obtain ⟨d, s1, e1, e⟩ := bnd_inv e
    obtain ⟨e2, e3⟩ := ret1_inv e
    cases e3
    refine ⟨env, st, ρ, d, _, ro, rs, e1, fun v H' ρ' n rs' rv => ?_⟩
    obtain ⟨a, xs, ev, r, hq⟩ := itD_ok rv e2
    have hl := RVs.length r
    refine ⟨a, ev, ?_⟩
    rcases hq with hq | hq
    · refine .inl ⟨⟨xs, hq _ _ (Nx0.refl _ _)⟩, k _ H' ρ' n rs' ⟨fun i ρ2 H2 n2 hi => ?_, fun ρ2 H2 n2 => ⟨xs, hq _ _ n2, by rw [hl]; exact Nat.le_refl _⟩, fun i ρ2 H2 x H3 st2 n2 rs2 hi hy => ?_⟩⟩
      · have h2 : i < xs.length := by rw [hl]; exact hi
        exact ⟨xs, xs[i], hq _ _ n2, List.getElem?_eq_getElem h2⟩
      · obtain ⟨e5, hy⟩ := hy
        subst e5
        exact yld_of r n2 rs2 hi (hy xs (hq _ _ n2))
    · refine .inr ⟨⟨xs, hq _ _ (Nx0.refl _ _)⟩, k _ H' ρ' n rs' ⟨fun i ρ2 H2 n2 hi => ?_, fun ρ2 H2 n2 => ⟨xs, hq _ _ n2, by rw [hl]; exact Nat.le_refl _⟩, fun i ρ2 H2 x H3 st2 n2 rs2 hi hy => ?_⟩⟩
      · have h2 : i < xs.length := by rw [hl]; exact hi
        exact ⟨xs, xs[i], hq _ _ n2, List.getElem?_eq_getElem h2⟩
      · obtain ⟨e5, hy⟩ := hy
        subst e5
        exact yld_of r n2 rs2 hi (hy xs (hq _ _ n2))
/-- range -/
def rngL (lo : Int) (n : Nat) : List D := (List.range n).map fun i => .int (lo + (i : Nat))
theorem rngL_length (lo : Int) (n : Nat) : (rngL lo n).length = n := by simp [rngL]
theorem rng_ok (K : PySem.W.Frag) (lo : Int) (n : Nat) (ρ : Rh) (H : Hp) : ItOk K (Itr lo n) ρ H (rngL lo n).length (Items (rngL lo n)) := by
  rw [rngL_length]
  refine ⟨fun i ρ' H' n' hi => hi, fun ρ' H' n' => Nat.le_refl _, fun i ρ' H' x H2 st n' rs hi hy => ?_⟩
  obtain ⟨e1, e2⟩ := hy
  subst e1; subst e2
  exact ⟨.int (lo + i), by simp [Items, rngL, hi], rfl, Nxt.refl _ _, rs⟩
def miR1 (ms : M (List D)) : M (List D) := fun env st => bnd (ms env st) fun ds st1 =>
  match ds with
  | [.int j] => @ite _ (-(2 ^ 32) < j ∧ j < 2 ^ 32) (Classical.propDecidable _) (some (rngL 0 j.toNat, st1)) none
  | _ => none
def miR2 (ms : M (List D)) : M (List D) := fun env st => bnd (ms env st) fun ds st1 =>
  match ds with
  | [.int i, .int j] => @ite _ ((-(2 ^ 32) < i ∧ i < 2 ^ 32) ∧ -(2 ^ 32) < j ∧ j < 2 ^ 32) (Classical.propDecidable _) (some (rngL i (j - i).toNat, st1)) none
  | _ => none
theorem pmi_r1 {a : Expr} {ms : M (List D)} {p : Pos} (hm : X.mg "range" = none) (ha : PMA X [a] ms) (hg : Gl X "range" := by rfl) (hs : starEach [a] X.env = [(false, eval a X.env)] := by rfl) : PMI X tg (.Call (.Name "range" p) [a] [] pos) (miR1 ms) :=
  imp_i (pi_range1 hg hm ha hs) fun σ H R ⟨env, st, ρ, ds, st', ro, rs, e, k⟩ => by
    obtain ⟨d, s1, e1, e⟩ := bnd_inv e
    refine ⟨env, st, ρ, d, s1, ro, rs, e1, fun vs H' ρ' n rs' rv => ?_⟩
    split at e
    · rename_i j
      split at e
      · rename_i h
        cases e
        obtain ⟨v, r, rfl, rfl, rfl⟩ := rv
        exact ⟨j, rfl, by omega, by omega, k _ H' ρ' n rs' (rng_ok X.K 0 j.toNat ρ' H')⟩
      · cases e
    · cases e
theorem pmi_r2 {a b : Expr} {ms : M (List D)} {p : Pos} (hm : X.mg "range" = none) (ha : PMA X [a, b] ms) (hg : Gl X "range" := by rfl) (hs : starEach [a, b] X.env = [(false, eval a X.env), (false, eval b X.env)] := by rfl) (hs2 : starEach [b] X.env = [(false, eval b X.env)] := by rfl) :
    PMI X tg (.Call (.Name "range" p) [a, b] [] pos) (miR2 ms) :=
  imp_i (pi_range2 hg hm ha hs hs2) fun σ H R ⟨env, st, ρ, ds, st', ro, rs, e, k⟩ => by
    obtain ⟨d, s1, e1, e⟩ := bnd_inv e
    refine ⟨env, st, ρ, d, s1, ro, rs, e1, fun vs H' ρ' n rs' rv => ?_⟩
    split at e
    · rename_i i j
      split at e
      · rename_i h
        cases e
        obtain ⟨v, r, rfl, rfl, v2, r2, rfl, rfl, rfl⟩ := rv
        exact ⟨i, j, rfl, ⟨by omega, by omega, by omega, by omega⟩, k _ H' ρ' n rs' (rng_ok X.K i (j - i).toNat ρ' H')⟩
      · cases e
    · cases e
end
end
end Mn
end
section
set_option Elab.async false
set_option autoImplicit false
set_option linter.all false
set_option maxRecDepth 100000
set_option maxHeartbeats 2000000
/-! The mini layer, 4: comprehensions; defs and their calls. -/
namespace Mn
noncomputable section
open PySem PySem.Spec PyProof.Rows L2

/-! ### comprehensions -/
def wipeE (env : MEnv) : List Nat → MEnv
  | [] => env
  | v :: vs => (wipeE env vs).set v none
theorem wipe_in {σ : L2.St} {i : Nat} : ∀ {vs : List Nat}, i ∈ vs → (wipe σ vs)[i]? = if i < σ.length then some none else none
  | v :: vs, h => by
    unfold wipe
    by_cases hv : v = i
    · subst hv
      by_cases hl : v < σ.length
      · rw [List.getElem?_set_self (by rw [wipe_length]; exact hl), if_pos hl]
      · rw [List.getElem?_eq_none (by rw [List.length_set, wipe_length]; omega), if_neg hl]
    · rw [List.getElem?_set_ne hv]
      rcases List.mem_cons.mp h with e | h
      · exact absurd e.symm hv
      · exact wipe_in h
theorem wipe_eq {σ σ' : L2.St} {vs : List Nat} (o : OnlyAt vs (wipe σ vs) σ') : wipe σ' vs = wipe σ vs := by
  apply List.ext_getElem?
  intro i
  by_cases h : i ∈ vs
  · rw [wipe_in h, wipe_in h, o.1, wipe_length]
  · rw [wipe_out h, o.2 i h]
theorem wipeE_length (env : MEnv) : ∀ vs : List Nat, (wipeE env vs).length = env.length
  | [] => rfl
  | v :: vs => by unfold wipeE; rw [List.length_set, wipeE_length env vs]
theorem RVo.wipe {K : PySem.W.Frag} {ρ : Rh} {H : Hp} {env : MEnv} {σ : L2.St} (r : RVo K ρ H env σ) : ∀ vs : List Nat, RVo K ρ H (wipeE env vs) (L2.wipe σ vs)
  | [] => r
  | v :: vs => by
    have q := r.wipe vs
    refine ⟨by rw [wipeE_length, L2.wipe_length]; exact r.1, fun i d e => ?_⟩
    unfold wipeE at e
    unfold L2.wipe
    by_cases hv : v = i
    · subst hv
      have hl := (List.getElem?_eq_some_iff.mp e).1
      rw [List.getElem?_set_self (by simpa using hl)] at e
      cases e
    · rw [List.getElem?_set_ne hv] at e ⊢
      exact q.2 i d e
/-- the items' turns -/
def lcL (g : G) (t : M Bool) (elt : M D) (env : MEnv) : List D → Store → Option (List D × Store)
  | [], st => some ([], st)
  | x :: xs, st => bnd (g x env st) fun env1 st1 => bnd (t env1 st1) fun b st2 =>
    if b = true then bnd (elt env1 st2) fun d st3 => bnd (lcL g t elt env xs st3) fun r st4 => some (d :: r, st4)
    else lcL g t elt env xs st2
def mLc (vs : List Nat) (mi : M (List D)) (g : G) (t : M Bool) (elt : M D) : M (List D) := fun env st => bnd (mi env st) fun ds st1 =>
  @ite _ (ds.length ≤ 16777216) (Classical.propDecidable _) (lcL g t elt (wipeE env vs) ds st1) none
theorem sz1m {n : Nat} (h : n < 16777216) : n < sizeLine := Nat.lt_of_lt_of_le h (by decide)
theorem sz1m' {n : Nat} (h : n ≤ 16777216) : n ≤ sizeLine := Nat.le_trans h (by decide)
theorem lc_mcore {K : PySem.W.Frag} {vs : List Nat} {mi : M (List D)} {g : G} {t : M Bool} {elt : M D} {σ : L2.St} {H : Hp} {Q : VK} (h : tML K (mLc vs mi g t elt) σ H Q) : tLc (tMI K mi) (tG K vs g) (tMT K t) (tM K elt) vs σ H Q := by
  obtain ⟨env0, st0, ρ0, out, st', ro0, rs0, e0, k0⟩ := h
  obtain ⟨ds, s1, e1, e0⟩ := bnd_inv e0
  refine ⟨env0, st0, ρ0, ds, s1, ro0, rs0, e1, fun J H1 ρ1 n1 rs1 ok => ?_⟩
  split at e0
  case isFalse => cases e0
  rename_i hsz
  intro D hD
  have ro1 : RVo K ρ1 H1 (wipeE env0 vs) (wipe σ vs) := (ro0.nxt n1).wipe vs
  have neD : ∀ a, a ∈ ρ1.x → a ≠ D := fun a z => by
    obtain ⟨u, q⟩ := rs1.exo a z
    exact ne_of_none q hD
  refine ⟨fun i m H => m + i = ds.length ∧ ∃ (acc r : List Mn.D) (vacc : List V) (st : Store) (ρ : Rh), out = acc ++ r ∧ Nx0 ρ1 H1 ρ H ∧ ρ.x = D :: ρ1.x ∧ RepSt K ρ st H ∧ H D = some (.lst vacc) ∧ (∀ a, a ∈ ρ1.x → H a = H1 a) ∧ RVs K ρ H acc vacc ∧ acc.length ≤ i ∧ lcL g t elt (wipeE env0 vs) (ds.drop i) st = some (r, st'),
    ⟨ds.length, rfl, [], out, [], s1, ρ1.hid D, rfl, Nx0.hide hD, rfl, rs1.hide hD, upd_same, fun a z => upd_ne (neD a z), rfl, Nat.le_refl _, e0⟩, ?_⟩
  rintro i m H2 ⟨hm, acc, r, vacc, st, ρ, eo, n2, hx, rs, hDv, hh, ra, hacc, e⟩
  have hDin : ρ.In D := .inr (by rw [hx]; exact List.mem_cons_self)
  have hDin : D ∈ ρ.x := by rw [hx]; exact List.mem_cons_self
  by_cases hi : i < ds.length
  · refine .inr ⟨ok.go i _ H2 n2 hi, fun H => ∃ (acc r : List Mn.D) (vacc : List V) (st : Store) (ρ : Rh), out = acc ++ r ∧ Nx0 ρ1 H1 ρ H ∧ ρ.x = D :: ρ1.x ∧ RepSt K ρ st H ∧ H D = some (.lst vacc) ∧ (∀ a, a ∈ ρ1.x → H a = H1 a) ∧ RVs K ρ H acc vacc ∧ acc.length ≤ i + 1 ∧ lcL g t elt (wipeE env0 vs) (ds.drop (i + 1)) st = some (r, st'),
      fun H' h => ⟨m - 1, by omega, by omega, h⟩, fun x H3 hy => ?_⟩
    obtain ⟨d, hd, rx, n3, rs3⟩ := ok.yld i ρ H2 x H3 st n2 rs hi hy
    have hd' : ds[i] = d := by
      have : ds[i]? = some d := hd
      rw [List.getElem?_eq_getElem hi] at this
      exact Option.some.inj this
    rw [drop_cons hi, hd'] at e
    unfold lcL at e
    obtain ⟨env2, s2, e2, e⟩ := bnd_inv e
    have n23 := n2.trans n3.toNx0
    have ro3 : RVo K ρ H3 (wipeE env0 vs) (wipe σ vs) := ⟨ro1.1, fun j d' ej => by
      obtain ⟨v, h1, h2⟩ := ro1.2 j d' ej
      exact ⟨v, h1, RV.nx0 n23 d' v h2⟩⟩
    refine ⟨d, wipeE env0 vs, st, ρ, env2, s2, rx, ro3, rs3, e2, fun σ4 H4 ρ4 oa n4 rs4 ro4 => ⟨wipe_eq oa, ?_⟩⟩
    obtain ⟨b, s5, e5, e⟩ := bnd_inv e
    refine ⟨env2, s2, ρ4, b, s5, ro4, rs4, e5, fun H5 ρ5 n5 rs5 => ?_⟩
    have nn5 : Nxt ρ H2 ρ5 H5 := n3.trans (n4.trans n5)
    have hx5 : ρ5.x = D :: ρ1.x := nn5.ex.trans hx
    cases b with
    | false =>
      simp only [Bool.false_eq_true, if_false] at e ⊢
      exact ⟨acc, r, vacc, s5, ρ5, eo, n2.trans nn5.toNx0, hx5, rs5, (nn5.hid D hDin).trans hDv, fun a z => (nn5.hid a (by rw [hx]; exact List.mem_cons_of_mem _ z)).trans (hh a z), RVs.nxt nn5 _ _ ra, by omega, e⟩
    | true =>
      simp only [if_true] at e ⊢
      obtain ⟨d6, s6, e6, e⟩ := bnd_inv e
      obtain ⟨r7, s7, e7, e⟩ := bnd_inv e
      cases e
      refine ⟨env2, s5, ρ5, d6, s6, ro4.nxt n5, rs5, e6, fun v6 H6 ρ6 n6 rs6 rv6 => ?_⟩
      have nn6 : Nxt ρ H2 ρ6 H6 := nn5.trans n6
      have hx6 : ρ6.x = D :: ρ1.x := nn6.ex.trans hx
      have hD6 : D ∈ ρ6.x := by rw [hx6]; exact List.mem_cons_self
      refine ⟨vacc, (nn6.hid D hDin).trans hDv, ?_, ?_⟩
      · rw [RVs.length ra]
        exact sz1m (by omega)
      · have w : Nx0 ρ6 H6 ρ6 (upd H6 D (.lst (vacc ++ [v6]))) := Nx0.write (.inr hD6)
        refine ⟨acc ++ [d6], r7, vacc ++ [v6], s6, ρ6, by rw [eo]; simp, (n2.trans nn6.toNx0).trans w, hx6, rs6.rehid hD6, upd_same, fun a z => (upd_ne (neD a z)).trans ((nn6.hid a (by rw [hx]; exact List.mem_cons_of_mem _ z)).trans (hh a z)), ?_, by simp; omega, e7⟩
        exact RVs.append (RVs.nx0 (nn6.toNx0.trans w) _ _ ra) (RVs.one (RV.nx0 w _ _ rv6))
  · have hi2 : i = ds.length := by omega
    subst hi2
    refine .inl ⟨ok.stop ρ H2 n2, ?_⟩
    rw [List.drop_length] at e
    cases e
    obtain ⟨rsb, hDo⟩ := rs.bare hx
    rw [List.append_nil] at eo
    subst eo
    have hDr : ρ.In D := .inr hDin
    -- the heap without D
    have ne : ∀ {a : Addr} {o : HO}, a ≠ D → (if a = D then none else H2 a) = H2 a := fun {a o} h => if_neg h
    have er : upd (fun a => if a = D then none else H2 a) D (.lst vacc) = H2 := by
      funext a
      by_cases h : a = D
      · subst h; rw [upd_same, hDv]
      · rw [upd_ne h, if_neg h]
    have less : Nx0 ρ H2 ⟨ρ.l, ρ1.x⟩ (fun a => if a = D then none else H2 a) :=
      ⟨fun _ _ z => z, fun a o z q => by
        have h : a ≠ D := fun y => z (by rw [y]; exact hDr)
        show (if a = D then none else H2 a) = some o
        rw [if_neg h]; exact q, fun a z => .inl (z.elim .inl fun q => .inr (by rw [hx]; exact List.mem_cons_of_mem _ q))⟩
    have nall : Nxt ρ1 H1 ⟨ρ.l, ρ1.x⟩ (fun a => if a = D then none else H2 a) :=
      ⟨⟨n2.pre, fun a o z q => by
        have h : a ≠ D := ne_of_none q hD
        show (if a = D then none else H2 a) = some o
        rw [if_neg h]; exact n2.keep a o z q, fun a z => n2.new a (z.elim .inl fun q => .inr (by rw [hx]; exact List.mem_cons_of_mem _ q))⟩, rfl, fun a z => by
        show (if a = D then none else H2 a) = H1 a
        rw [if_neg (neD a z)]; exact hh a z⟩
    have rse : RepSt K ⟨ρ.l, ρ1.x⟩ st' (fun a => if a = D then none else H2 a) :=
      ⟨rsb.nd, rsb.len, fun a z => by
        obtain ⟨u, q⟩ := rsb.exo a z
        exact ⟨u, by show (if a = D then none else H2 a) = some u; rw [if_neg (neD a z)]; exact q⟩, fun i a d ea f => by
        have h : a ≠ D := fun y => hDo (.inl (by rw [← y]; exact List.mem_of_getElem? ea))
        exact (rs.ob i a d ea f).nxt less (if_neg h)⟩
    have fin := k0 D vacc _ ⟨ρ.l, ρ1.x⟩ (n1.trans nall) rse (if_pos rfl) (RVs.nx0 less _ _ ra)
    rw [er] at fin
    exact fin
section
variable {X : Cx} {tg elt iter : Expr} {g : G} {vs : List Nat} {mi : M (List Mn.D)} {t : M Bool} {me : M Mn.D}
theorem pmts_nil : PTs X [] (tMT X.K fun _ st => some (true, st)) := ⟨fun pins s σ H Q I ⟨env, st, ρ, d, st', ro, rs, e, k⟩ => by
  cases e
  exact pts_nil.run pins s σ H Q I (k H ρ (Nxt.refl _ _) rs)⟩
def mYes : M Bool := fun _ st => some (true, st)
theorem pmts_no : PTs X [] (tMT X.K mYes) := pmts_nil
theorem pmts_one {c : Expr} (h : PMT X c t) : PTs X [c] (tMT X.K t) := pts_one h
theorem pml_lc {ifs : List Expr} {scope : Scope} {own : List (Str × Nat)} {pos : Pos} (hN : X.N.Nodup) (hi : PMI X tg iter mi) (ok : BlkOk X.N X.env.scope scope own)
    (hg : ∀ (s : Shared) (H : Hp) (C : Addr) (cl : List (Str × Addr)) (fp : List Addr), PMG (X.blk s H scope (compEnvC scope cl C X.env) fp) tg (own.map (·.2)) g) (ht : ∀ (s : Shared) (H : Hp) (C : Addr) (cl : List (Str × Addr)) (fp : List Addr), PTs (X.blk s H scope (compEnvC scope cl C X.env) fp) ifs (tMT X.K t))
    (he : ∀ (s : Shared) (H : Hp) (C : Addr) (cl : List (Str × Addr)) (fp : List Addr), PM (X.blk s H scope (compEnvC scope cl C X.env) fp) elt me) (hc : X.calm = true := by rfl) (hs : ∀ x, foldedSetIterable iter X.env x = pure x := by intro _; rfl) :
    PML X (.ListComp elt [⟨tg, iter, ifs, 0⟩] scope pos) (mLc (own.map (·.2)) mi g t me) :=
  imp_e (pe_lc hc hN hi ok hg ht he hs) fun _ _ _ h => lc_mcore h
/-- name = [..] : frozen, or into the store -/
theorem imp_slc {e : Stmt} {i : Nat} {tl : TE} {ms : M (List Mn.D)} (h : PS X e (tAsg tl (gName i))) (f : ∀ σ H Q, tML X.K ms σ H Q → tl σ H Q) : PMS X e (sAsg i (mFrz ms)) ∧ PMS X e (sAsg i (mMut ms)) := by
  refine ⟨imp_s h fun E σ H ⟨env, st, ρ, o, st', ro, rs, e, k⟩ => ?_, imp_s h fun E σ H ⟨env, st, ρ, o, st', ro, rs, e, k⟩ => ?_⟩
  · obtain ⟨d, s1, e1, e⟩ := bnd_inv e
    obtain ⟨d2, s2, e2, e1⟩ := bnd_inv e1
    cases e; cases e1
    refine f σ H _ ⟨env, st, ρ, d2, _, ro, rs, e2, fun p vs H1 ρ1 n1 rs1 hp rx => ?_⟩
    have n := n1.trans (Nxt.laid (o := .lst vs) rs1 hp)
    exact k _ _ ρ1 n (rs1.laid hp) ((ro.nxt n).set (d := .lst d2) (v := .ref p) ⟨p, vs, rfl, ⟨rs1.out hp, upd_same⟩, RVs.nxt (Nxt.laid rs1 hp) _ _ rx⟩ i)
  · obtain ⟨d, s1, e1, e⟩ := bnd_inv e
    obtain ⟨d2, s2, e2, e1⟩ := bnd_inv e1
    cases e; cases e1
    refine f σ H _ ⟨env, st, ρ, d2, s2, ro, rs, e2, fun p vs H1 ρ1 n1 rs1 hp rx => ?_⟩
    have n := n1.trans (Nxt.alloc (o := .lst vs) rs1 hp)
    refine k _ _ (ρ1.add p) n (rs1.alloc hp ⟨vs, upd_same, RVs.nxt (Nxt.alloc rs1 hp) _ _ rx⟩) ((ro.nxt n).set (d := .loc s2.length) (v := .ref p) ⟨p, rfl, ?_⟩ i)
    rw [← rs1.len]
    simp [Rh.add]
theorem pms_setLc {i : Nat} {y : Str} {py : Pos} {ifs : List Expr} {scope : Scope} {own : List (Str × Nat)} {pos spos : Pos} (hN : X.N.Nodup)
    (hi : PMI X tg iter mi) (ok : BlkOk X.N X.env.scope scope own)
    (hg : ∀ (s : Shared) (H : Hp) (C : Addr) (cl : List (Str × Addr)) (fp : List Addr), PMG (X.blk s H scope (compEnvC scope cl C X.env) fp) tg (own.map (·.2)) g) (ht : ∀ (s : Shared) (H : Hp) (C : Addr) (cl : List (Str × Addr)) (fp : List Addr), PTs (X.blk s H scope (compEnvC scope cl C X.env) fp) ifs (tMT X.K t))
    (he : ∀ (s : Shared) (H : Hp) (C : Addr) (cl : List (Str × Addr)) (fp : List Addr), PM (X.blk s H scope (compEnvC scope cl C X.env) fp) elt me) (hc : X.calm = true := by rfl) (hy : X.N[i]? = some y := by rfl) (hyl : X.env.scope.names.lookup y = some .local := by rfl)
    (hsw : swapsWith (.ListComp elt [⟨tg, iter, ifs, 0⟩] scope pos) (some (.Name y py)) spos.line X.env = pure true := by exact sw_true rfl rfl rfl (by decide +kernel)) (hs : ∀ x, foldedSetIterable iter X.env x = pure x := by intro _; rfl) :
    PMS X (.Assign [.Name y py] (.ListComp elt [⟨tg, iter, ifs, 0⟩] scope pos) spos) (sAsg i (mFrz (mLc (own.map (·.2)) mi g t me))) ∧
    PMS X (.Assign [.Name y py] (.ListComp elt [⟨tg, iter, ifs, 0⟩] scope pos) spos) (sAsg i (mMut (mLc (own.map (·.2)) mi g t me))) :=
  imp_slc (ps_setLc hc hN hy hyl hsw hi ok hg ht he hs) fun _ _ _ h => lc_mcore h
end

/-! ### the end of a def: what was new is frozen, the store is as long as before -/
mutual
def lo (n : Nat) : Mn.D → Bool
  | .non => true
  | .bl _ => true
  | .int _ => true
  | .str _ => true
  | .tup ds => los n ds
  | .lst ds => los n ds
  | .rol ds => los n ds
  | .dic ks => lok n ks
  | .loc k => decide (k < n)
  | .ptl ds => los n ds
  | .dit _ ks => lod n ks
  | .dkl ks => lok n ks
def los (n : Nat) : List Mn.D → Bool
  | [] => true
  | d :: ds => lo n d && los n ds
def lok (n : Nat) : List (Key × Mn.D) → Bool
  | [] => true
  | (_, d) :: ds => lo n d && lok n ds
def lod (n : Nat) : List (Mn.D × Mn.D) → Bool
  | [] => true
  | (k, d) :: ds => (lo n k && lo n d) && lod n ds
end
section
variable {K : PySem.W.Frag} {ρ ρ' : Rh} {H H' : Hp}
/-- from a longer store's places to a shorter one's -/
structure Cut (n : Nat) (ρ ρ' : Rh) : Prop where
  at' : ∀ (i : Nat) (a : Addr), i < n → ρ.l[i]? = some a → ρ'.l[i]? = some a
  less : ∀ a, ρ'.In a → ρ.In a
mutual
theorem RV.cut {n : Nat} (c : Cut n ρ ρ') : ∀ (d : Mn.D) (v : V), lo n d = true → RV K ρ H d v → RV K ρ' H d v
  | .non, _, _, h => h
  | .bl _, _, _, h => h
  | .int _, _, _, h => h
  | .str _, _, _, h => h
  | .tup ds, _, l, ⟨a, xs, e, f, r⟩ => ⟨a, xs, e, f.elim (fun q => .inl ⟨fun z => q.1 (c.less _ z), q.2⟩) .inr, RVs.cut c ds xs l r⟩
  | .lst ds, _, l, ⟨a, xs, e, f, r⟩ => ⟨a, xs, e, ⟨fun z => f.1 (c.less _ z), f.2⟩, RVs.cut c ds xs l r⟩
  | .rol ds, _, l, ⟨a, xs, e, f, r⟩ => ⟨a, xs, e, f.elim (fun q => .inl ⟨fun z => q.1 (c.less _ z), q.2⟩) .inr, RVs.cut c ds xs l r⟩
  | .dic ks, _, l, ⟨a, xs, e, f, r⟩ => ⟨a, xs, e, ⟨fun z => f.1 (c.less _ z), f.2⟩, RVk.cut c ks xs l r⟩
  | .loc _, _, l, ⟨a, e, f⟩ => ⟨a, e, c.at' _ _ (of_decide_eq_true l) f⟩
  | .ptl ds, _, l, ⟨a, xs, e, f, r⟩ => ⟨a, xs, e, f.elim (fun q => .inl ⟨fun z => q.1 (c.less _ z), q.2⟩) .inr, RVs.cut c ds xs l r⟩
  | .dit _ ks, _, l, ⟨a, xs, e, f, r, q⟩ => ⟨a, xs, e, ⟨fun z => f.1 (c.less _ z), f.2⟩, RVn.cut c ks _ l r, q⟩
  | .dkl ks, _, l, ⟨a, xs, e, f, r⟩ => ⟨a, xs, e, ⟨fun z => f.1 (c.less _ z), f.2⟩, RVk.cut c ks xs l r⟩
theorem RVs.cut {n : Nat} (c : Cut n ρ ρ') : ∀ (ds : List Mn.D) (vs : List V), los n ds = true → RVs K ρ H ds vs → RVs K ρ' H ds vs
  | [], _, _, h => h
  | d :: ds, _, l, ⟨v, r, e, h, t⟩ => ⟨v, r, e, RV.cut c d v (Bool.and_eq_true_iff.mp l).1 h, RVs.cut c ds r (Bool.and_eq_true_iff.mp l).2 t⟩
theorem RVk.cut {n : Nat} (c : Cut n ρ ρ') : ∀ (ds : List (Key × Mn.D)) (vs : List (Key × V)), lok n ds = true → RVk K ρ H ds vs → RVk K ρ' H ds vs
  | [], _, _, h => h
  | (k, d) :: ds, _, l, ⟨v, r, e, h, t⟩ => ⟨v, r, e, RV.cut c d v (Bool.and_eq_true_iff.mp l).1 h, RVk.cut c ds r (Bool.and_eq_true_iff.mp l).2 t⟩
theorem RVn.cut {n : Nat} (c : Cut n ρ ρ') : ∀ (ks : List (Mn.D × Mn.D)) (xs : List (NestedKey × Addr × Value)), lod n ks = true → RVn K ρ H ks xs → RVn K ρ' H ks xs
  | [], _, _, h => h
  | (kd, d) :: ks, _, l, ⟨k, b, u, r, v, e, h1, h2, h3, h4, h5, t⟩ =>
    have l1 := Bool.and_eq_true_iff.mp l
    have l2 := Bool.and_eq_true_iff.mp l1.1
    ⟨k, b, u, r, v, e, h1, h2, RV.cut c kd _ l2.1 h3, h4, RV.cut c d _ l2.2 h5, RVn.cut c ks r l1.2 t⟩
end
mutual
/-- what is represented speaks of places of the store alone -/
theorem RV.lo : ∀ (d : Mn.D) (v : V), RV K ρ H d v → Mn.lo ρ.l.length d = true
  | .non, _, _ => rfl
  | .bl _, _, _ => rfl
  | .int _, _, _ => rfl
  | .str _, _, _ => rfl
  | .tup ds, _, ⟨a, xs, e, f, r⟩ => RVs.lo ds xs r
  | .lst ds, _, ⟨a, xs, e, f, r⟩ => RVs.lo ds xs r
  | .rol ds, _, ⟨a, xs, e, f, r⟩ => RVs.lo ds xs r
  | .dic ks, _, ⟨a, xs, e, f, r⟩ => RVk.lo ks xs r
  | .loc _, _, ⟨a, e, f⟩ => decide_eq_true (List.getElem?_eq_some_iff.mp f).1
  | .ptl ds, _, ⟨a, xs, e, f, r⟩ => RVs.lo ds xs r
  | .dit _ ks, _, ⟨a, xs, e, f, r, q⟩ => RVn.lo ks _ r
  | .dkl ks, _, ⟨a, xs, e, f, r⟩ => RVk.lo ks xs r
theorem RVs.lo : ∀ (ds : List Mn.D) (vs : List V), RVs K ρ H ds vs → Mn.los ρ.l.length ds = true
  | [], _, _ => rfl
  | d :: ds, _, ⟨v, r, e, h, t⟩ => Bool.and_eq_true_iff.mpr ⟨RV.lo d v h, RVs.lo ds r t⟩
theorem RVk.lo : ∀ (ds : List (Key × Mn.D)) (vs : List (Key × V)), RVk K ρ H ds vs → Mn.lok ρ.l.length ds = true
  | [], _, _ => rfl
  | (k, d) :: ds, _, ⟨v, r, e, h, t⟩ => Bool.and_eq_true_iff.mpr ⟨RV.lo d v h, RVk.lo ds r t⟩
theorem RVn.lo : ∀ (ks : List (Mn.D × Mn.D)) (xs : List (NestedKey × Addr × Value)), RVn K ρ H ks xs → Mn.lod ρ.l.length ks = true
  | [], _, _ => rfl
  | (kd, d) :: ks, _, ⟨k, b, u, r, v, e, h1, h2, h3, h4, h5, t⟩ => Bool.and_eq_true_iff.mpr ⟨Bool.and_eq_true_iff.mpr ⟨RV.lo kd _ h3, RV.lo d _ h5⟩, RVn.lo ks r t⟩
end
end
def mapO {α β : Type} (f : α → Option β) : List α → Option (List β)
  | [] => some []
  | x :: xs => match f x, mapO f xs with
    | some y, some ys => some (y :: ys)
    | _, _ => none
/-- new things of the store (from n on) as frozen values; the one at ex is left out -/
def fz (st : Store) (n ex : Nat) : Nat → Mn.D → Option Mn.D
  | 0, d => if lo n d = true then some d else none
  | k + 1, d => if lo n d = true then some d else
    match d with
    | .tup ds => (mapO (fz st n ex k) ds).map .tup
    | .lst ds => (mapO (fz st n ex k) ds).map .lst
    | .loc l => if l = ex then none else match st[l]? with
      | some (.lst ds) => (mapO (fz st n ex k) ds).map .lst
      | some (.dic ks) => if lok n ks = true then some (.dic ks) else none
      | _ => none
    | _ => none
theorem mapO_ok {K : PySem.W.Frag} {ρ ρ' : Rh} {H : Hp} {f : Mn.D → Option Mn.D} (hf : ∀ d d' v, f d = some d' → RV K ρ H d v → RV K ρ' H d' v) : ∀ {ds ds' : List Mn.D} {vs : List V}, mapO f ds = some ds' → RVs K ρ H ds vs → RVs K ρ' H ds' vs
  | [], _, _, e, h => by cases e; exact h
  | d :: ds, ds', vs, e, ⟨v, r, ev, h, t⟩ => by
    unfold mapO at e
    split at e
    · rename_i y ys e1 e2
      cases e
      exact ⟨v, r, ev, hf _ _ _ e1 h, mapO_ok hf e2 t⟩
    · cases e
theorem fz_ok {K : PySem.W.Frag} {ρ ρ' : Rh} {H : Hp} {st : Store} {n ex : Nat} (c : Cut n ρ ρ') (rs : RepSt K ρ st H) (hn : ∀ (i : Nat) a, n ≤ i → i ≠ ex → ρ.l[i]? = some a → ¬ ρ'.In a) : ∀ (k : Nat) (d d' : Mn.D) (v : V), fz st n ex k d = some d' → RV K ρ H d v → RV K ρ' H d' v
  | 0, d, d', v, e, h => by
    unfold fz at e
    split at e
    · rename_i hl
      cases e
      exact RV.cut c d v hl h
    · cases e
  | k + 1, d, d', v, e, h => by
    unfold fz at e
    split at e
    · rename_i hl
      cases e
      exact RV.cut c d v hl h
    · rename_i hl
      have ih := fz_ok c rs hn k
      cases d with
      | tup ds =>
        obtain ⟨ds', e1, e2⟩ := Option.map_eq_some_iff.mp e
        subst e2
        obtain ⟨a, xs, ev, f, r⟩ := h
        exact ⟨a, xs, ev, f.elim (fun q => .inl ⟨fun z => q.1 (c.less _ z), q.2⟩) .inr, mapO_ok ih e1 r⟩
      | lst ds =>
        obtain ⟨ds', e1, e2⟩ := Option.map_eq_some_iff.mp e
        subst e2
        obtain ⟨a, xs, ev, f, r⟩ := h
        exact ⟨a, xs, ev, ⟨fun z => f.1 (c.less _ z), f.2⟩, mapO_ok ih e1 r⟩
      | loc l =>
        have hl2 : n ≤ l := by
          have : ¬ decide (l < n) = true := hl
          simp at this
          exact this
        simp only at e
        split at e
        · cases e
        · rename_i hex
          split at e
          · rename_i ds hs
            obtain ⟨ds', e1, e2⟩ := Option.map_eq_some_iff.mp e
            subst e2
            obtain ⟨a, ev, ea, xs, hx, r⟩ := rs.at h hs
            exact ⟨a, xs, ev, ⟨hn l a hl2 hex ea, hx⟩, mapO_ok ih e1 r⟩
          · rename_i ks hs
            split at e
            · rename_i hk
              cases e
              obtain ⟨a, ev, ea, xs, hx, r⟩ := rs.at h hs
              exact ⟨a, xs, ev, ⟨hn l a hl2 hex ea, hx⟩, RVk.cut c ks xs hk r⟩
            · cases e
          · cases e
      | _ => cases e
/-- the old things of the store know nothing of the new -/
def okOld (st st' : Store) : Prop := st.length ≤ st'.length ∧ ∀ i, i < st.length → st'[i]? = st[i]? ∨ ∃ d, st'[i]? = some d ∧ lo st.length d = true
open Classical in
noncomputable def fin (st : Store) (d : Mn.D) (st' : Store) : Option (Mn.D × Store) :=
  if okOld st st' then (fz st' st.length st'.length 8 d).map fun d' => (d', st'.take st.length) else none
open Classical in
/-- .. and the thing that is handed back goes on changing -/
noncomputable def finL (st : Store) (d : Mn.D) (st' : Store) : Option (Mn.D × Store) :=
  if okOld st st' then
    match d with
    | .loc l => if st.length ≤ l then match st'[l]? with
      | some (.lst ds) => (mapO (fz st' st.length l 8) ds).map fun ds' => (.loc st.length, st'.take st.length ++ [.lst ds'])
      | some (.dic ks) => if lok st.length ks = true then some (.loc st.length, st'.take st.length ++ [.dic ks]) else none
      | _ => none
      else none
    | _ => none
  else none
theorem take_at {ρ ρ' : Rh} {H H' : Hp} (n : Nxt ρ H ρ' H') : ρ'.l.take ρ.l.length = ρ.l := by
  apply List.ext_getElem?
  intro i
  by_cases hi : i < ρ.l.length
  · rw [List.getElem?_take_of_lt hi, List.getElem?_eq_getElem hi]
    exact n.pre i _ (List.getElem?_eq_getElem hi)
  · rw [List.getElem?_eq_none (by rw [List.length_take]; omega), List.getElem?_eq_none (by omega)]
section
variable {K : PySem.W.Frag} {ρ ρ' : Rh} {H H' : Hp} {st st' : Store}
theorem Nxt.cut (n : Nxt ρ H ρ' H') : Cut ρ.l.length ρ' ρ := ⟨fun i a hi e => by
  rw [← take_at n, List.getElem?_take_of_lt hi]; exact e, fun a z => by
  rcases z with z | z
  · obtain ⟨i, e⟩ := List.getElem?_of_mem z
    exact .inl (List.mem_of_getElem? (n.pre i a e))
  · exact .inr (by rw [n.ex]; exact z)⟩
theorem Nxt.back (n : Nxt ρ H ρ' H') : Nxt ρ H ρ H' := ⟨⟨fun _ _ e => e, n.keep, fun _ z => .inl z⟩, rfl, n.hid⟩
theorem RepSt.outer (rs' : RepSt K ρ' st' H') (n : Nxt ρ H ρ' H') (i : Nat) (a : Addr) (hi : ρ.l.length ≤ i) (e : ρ'.l[i]? = some a) : ¬ ρ.In a := fun z => by
  rcases z with z | z
  · obtain ⟨j, ej⟩ := List.getElem?_of_mem z
    have hj := (List.getElem?_eq_some_iff.mp ej).1
    have := nodup_get rs'.ndl e (n.pre j a ej)
    omega
  · exact rs'.apart (List.mem_of_getElem? e) (by rw [n.ex]; exact z)
theorem RepSt.cut (rs : RepSt K ρ st H) (rs' : RepSt K ρ' st' H') (n : Nxt ρ H ρ' H') (ok : okOld st st') : RepSt K ρ (st'.take st.length) H' := by
  have c := n.cut
  refine ⟨rs.nd, ?_, fun a z => rs'.exo a (by rw [n.ex]; exact z), fun i a d e f => ?_⟩
  · rw [List.length_take, rs.len]
    have := ok.1
    omega
  · have hi : i < st.length := by rw [← rs.len]; exact (List.getElem?_eq_some_iff.mp e).1
    rw [List.getElem?_take_of_lt hi] at f
    have q := rs'.ob i a d (n.pre i a e) f
    have hl : lo ρ.l.length d = true := by
      rw [rs.len]
      rcases ok.2 i hi with z | ⟨d', z, hl⟩
      · rw [f] at z
        have q0 := rs.ob i a d e z.symm
        rw [← rs.len]
        cases d with
        | lst ds => obtain ⟨xs, _, r⟩ := q0; exact RVs.lo ds xs r
        | dic ks => obtain ⟨xs, _, r⟩ := q0; exact RVk.lo ks xs r
        | dit w ks => obtain ⟨xs, _, r, _⟩ := q0; exact RVn.lo ks _ r
        | _ => exact q0.elim
      · rw [f] at z
        cases z
        exact hl
    cases d with
    | lst ds => obtain ⟨xs, h1, r⟩ := q; exact ⟨xs, h1, RVs.cut c ds xs hl r⟩
    | dic ks => obtain ⟨xs, h1, r⟩ := q; exact ⟨xs, h1, RVk.cut c ks xs hl r⟩
    | dit w ks => obtain ⟨xs, h1, r, r2⟩ := q; exact ⟨xs, h1, RVn.cut c ks _ hl r, r2⟩
    | _ => exact q.elim
theorem fin_ok {d d1 : Mn.D} {s1 : Store} {Q : VK} (rs : RepSt K ρ st H) (e : fin st d st' = some (d1, s1)) (k : After K ρ H d1 s1 Q) : After K ρ H d st' Q := fun v H' ρ' n rs' rv => by
  unfold fin at e
  split at e
  · rename_i ok
    obtain ⟨d2, e2, e3⟩ := Option.map_eq_some_iff.mp e
    cases e3
    refine k v H' ρ n.back (rs.cut rs' n ok) ?_
    rw [← rs.len] at e2
    refine fz_ok n.cut rs' (fun i a h1 h2 e => rs'.outer n i a h1 e) 8 d _ v e2 rv
  · cases e
theorem finL_ok {d d1 : Mn.D} {s1 : Store} {Q : VK} (rs : RepSt K ρ st H) (e : finL st d st' = some (d1, s1)) (k : After K ρ H d1 s1 Q) : After K ρ H d st' Q := fun v H' ρ' n rs' rv => by
  unfold finL at e
  split at e
  case isFalse => cases e
  rename_i ok
  split at e
  case h_2 => cases e
  rename_i l
  split at e
  case isFalse => cases e
  rename_i hl
  rw [← rs.len] at hl
  -- the new place
  have key : ∀ (dd d' : Mn.D) (a : Addr), st'[l]? = some dd → v = .ref a → ρ'.l[l]? = some a → (∀ ρ2 : Rh, ρ2 = ρ.add a → Cut ρ.l.length ρ' ρ2 → (∀ (i : Nat) b, ρ.l.length ≤ i → i ≠ l → ρ'.l[i]? = some b → ¬ ρ2.In b) → RO K ρ2 H' d' a) → After K ρ H (.loc st.length) (st'.take st.length ++ [d']) Q → Q v H' := by
    intro dd d' a hd hv ha ro kk
    have hao : ¬ ρ.In a := rs'.outer n l a hl ha
    have c0 := n.cut
    have c2 : Cut ρ.l.length ρ' (ρ.add a) := ⟨fun i b hi e => by
      show (ρ.l ++ [a])[i]? = some b
      rw [List.getElem?_append_left hi]; exact c0.at' i b hi e, fun b z => by
      rcases z with z | z
      · rcases List.mem_append.mp z with z | z
        · exact c0.less b (.inl z)
        · simp at z; subst z; exact .inl (List.mem_of_getElem? ha)
      · exact c0.less b (.inr z)⟩
    have o2 : ∀ (i : Nat) b, ρ.l.length ≤ i → i ≠ l → ρ'.l[i]? = some b → ¬ (ρ.add a).In b := fun i b hi hne e z => by
      rcases z with z | z
      · rcases List.mem_append.mp z with z | z
        · exact rs'.outer n i b hi e (.inl z)
        · simp at z; subst z
          exact hne (nodup_get rs'.ndl e ha)
      · exact rs'.outer n i b hi e (.inr z)
    have r0 := rs.cut rs' n ok
    have n2 : Nxt ρ H (ρ.add a) H' := ⟨⟨fun i b e => by
      show (ρ.l ++ [a])[i]? = some b
      rw [List.getElem?_append_left (List.getElem?_eq_some_iff.mp e).1]; exact e, n.keep, fun b z => n.new b (c2.less b z)⟩, rfl, n.hid⟩
    refine kk v H' (ρ.add a) n2 ⟨?_, ?_, r0.exo, fun i b d0 e f => ?_⟩ ⟨a, hv, ?_⟩
    · show ((ρ.l ++ [a]) ++ ρ.x).Nodup
      have nd := List.nodup_append.mp rs.nd
      rw [List.append_assoc, List.nodup_append]
      refine ⟨nd.1, ?_, fun b hb c hc => ?_⟩
      · rw [List.singleton_append, List.nodup_cons]
        exact ⟨fun z => hao (.inr z), nd.2.1⟩
      · rw [List.singleton_append, List.mem_cons] at hc
        rcases hc with rfl | hc
        · rintro rfl
          exact hao (.inl hb)
        · exact nd.2.2 b hb c hc
    · show (ρ.l ++ [a]).length = _
      rw [List.length_append, List.length_append, r0.len]
      rfl
    · have e : (ρ.l ++ [a])[i]? = some b := e
      by_cases hi : i < ρ.l.length
      · rw [List.getElem?_append_left hi] at e
        rw [List.getElem?_append_left (by rw [← r0.len]; exact hi)] at f
        have hf2 : st'[i]? = some d0 := by
          rw [List.getElem?_take_of_lt (by rw [← rs.len]; exact hi)] at f; exact f
        have q := rs'.ob i b d0 (n.pre i b e) hf2
        have q0 := r0.ob i b d0 e f
        cases d0 with
        | lst ds => obtain ⟨xs, h1, r⟩ := q; obtain ⟨xs0, h10, r00⟩ := q0; exact ⟨xs, h1, RVs.cut c2 ds xs (RVs.lo ds xs0 r00) r⟩
        | dic ks => obtain ⟨xs, h1, r⟩ := q; obtain ⟨xs0, h10, r00⟩ := q0; exact ⟨xs, h1, RVk.cut c2 ks xs (RVk.lo ks xs0 r00) r⟩
        | dit w ks => obtain ⟨xs, h1, r, r2⟩ := q; obtain ⟨xs0, h10, r00, _⟩ := q0; exact ⟨xs, h1, RVn.cut c2 ks _ (RVn.lo ks _ r00) r, r2⟩
        | _ => exact q.elim
      · have h1 : i = ρ.l.length := by
          have := (List.getElem?_eq_some_iff.mp e).1
          simp at this
          omega
        subst h1
        rw [List.getElem?_append_right (Nat.le_refl _)] at e
        rw [List.getElem?_append_right (by rw [r0.len]; exact Nat.le_refl _)] at f
        simp at e
        rw [r0.len, Nat.sub_self] at f
        simp at f
        subst e; subst f
        exact ro _ rfl c2 o2
    · show (ρ.l ++ [a])[st.length]? = some a
      rw [← rs.len]
      simp
  split at e
  · rename_i ds hs
    obtain ⟨ds', e2, e3⟩ := Option.map_eq_some_iff.mp e
    cases e3
    obtain ⟨a, ev, ea, xs, hx, r⟩ := rs'.at rv hs
    refine key _ (.lst ds') a hs ev ea (fun ρ2 h2 c2 o2 => ⟨xs, hx, ?_⟩) k
    rw [← rs.len] at e2
    exact mapO_ok (fun d d' v h1 h2 => fz_ok c2 rs' o2 8 d d' v h1 h2) e2 r
  · rename_i ks hs
    split at e
    · rename_i hk
      cases e
      obtain ⟨a, ev, ea, xs, hx, r⟩ := rs'.at rv hs
      refine key _ (.dic ks) a hs ev ea (fun ρ2 h2 c2 o2 => ⟨xs, hx, ?_⟩) k
      rw [← rs.len] at hk
      exact RVk.cut c2 ks xs hk r
    · cases e
  · cases e
end
end
end Mn
end
section
set_option Elab.async false
set_option autoImplicit false
set_option linter.all false
set_option maxRecDepth 100000
set_option maxHeartbeats 2000000
/-! The mini layer, 5: defs and calls; operators and built-ins. -/
namespace Mn
noncomputable section
open PySem PySem.Spec PyProof.Rows L2

/-! ### defs and their calls -/
abbrev Fn := List Mn.D → Store → Option (Mn.D × Store)
def spF (K : PySem.W.Frag) (n : Nat) (F : Fn) : Sp := fun vs H Q _ => vs.length = n ∧ ∃ ds st ρ d st', RVs K ρ H ds vs ∧ RepSt K ρ st H ∧ F ds st = some (d, st') ∧ After K ρ H d st' Q
structure FnM (P : Program) (w : World) (K : PySem.W.Frag) (mg : Str → Option Value) (base : Heap) (k : Nat) (x : Str) (n : Nat) (F : Fn) : Prop where
  ln : ∀ ds st r, F ds st = some r → ds.length = n
  ex : ∃ (f : Addr) (fd : FuncData) (ps : List Str), ps.length = n ∧ FnOk P w K mg base CX0 k f fd ps (spF K n F) ∧ Binds K fd ps [] ∧ PySem.W.keepIn K (.ref f) = true ∧ mg x = some (.ref f)
theorem FnM.mono {P : Program} {w : World} {K : PySem.W.Frag} {mg : Str → Option Value} {base : Heap} {j k : Nat} {x : Str} {n : Nat} {F : Fn} (G : FnM P w K mg base j x n F) (h : j ≤ k) : FnM P w K mg base k x n F := by
  obtain ⟨f, fd, ps, h1, h2, h3⟩ := G.ex
  exact ⟨G.ln, f, fd, ps, h1, h2.mono h, h3⟩
def mCall (F : Fn) (ms : M (List Mn.D)) : M Mn.D := fun env st => bnd (ms env st) fun ds st1 => F ds st1
theorem call_core {K : PySem.W.Frag} {n : Nat} {F : Fn} (ln : ∀ ds st r, F ds st = some r → ds.length = n) {ms : M (List Mn.D)} {σ : L2.St} {H : Hp} {Q : VK} {E : XK} (h : tM K (mCall F ms) σ H Q) : tCall (spF K n F) [] E (tMA K ms) σ H Q := by
  obtain ⟨env, st, ρ, d, st', ro, rs, e, k⟩ := h
  obtain ⟨ds, s1, e1, e⟩ := bnd_inv e
  refine ⟨env, st, ρ, ds, s1, ro, rs, e1, fun vs H' ρ' n1 rs' rv => ?_⟩
  show spF K n F (vs ++ []) H' Q E
  rw [List.append_nil]
  refine ⟨by rw [RVs.length rv]; exact ln _ _ _ e, ds, s1, ρ', d, st', rv, rs', e, fun v H2 ρ2 n2 rs2 rv2 => k v H2 ρ2 (n1.trans n2) rs2 rv2⟩
section
variable {X : Cx} {e : Expr} {es : List Expr} {ms : M (List Mn.D)} {pos p : Pos}
theorem pm_call {k n : Nat} {x : Str} {F : Fn} (G : FnM X.prog X.w X.K X.mg X.base k x n F) (hr : Room k X.A) (ha : PMA X (e :: es) ms) (hg : Gl X x := by rfl) (hdb : (x == ("__debug__" : Str)) = false := by decide)
    (he : starEach (e :: es) X.env = (false, eval e X.env) :: starEach es X.env := by rfl) (hpl : (backTo pos (starEach es X.env)).any (·.1) = false := by rfl) : PM X (.Call (.Name x p) (e :: es) [] pos) (mCall F ms) := by
  obtain ⟨f, fd, ps, h1, h2, h3, h4, h5⟩ := G.ex
  exact imp_e (pe_call h2 hr hg h5 h4 h3 .nil pass0 ha hdb he hpl) fun _ _ _ h => call_core G.ln h
theorem pm_call0 {k : Nat} {x : Str} {F : Fn} (G : FnM X.prog X.w X.K X.mg X.base k x 0 F) (hr : Room k X.A) (hg : Gl X x := by rfl) (hdb : (x == ("__debug__" : Str)) = false := by decide) : PM X (.Call (.Name x p) [] [] pos) (mCall F mNil) := by
  obtain ⟨f, fd, ps, h1, h2, h3, h4, h5⟩ := G.ex
  refine imp_e (pe_call0 h2 hr hg h5 h4 h3 .nil pass0 hdb) fun σ H Q h => ?_
  obtain ⟨env, st, ρ, ds, st', ro, rs, e, q⟩ := call_core (E := E0) G.ln h
  cases e
  exact q [] H ρ (Nxt.refl _ _) rs rfl
end
/-- a def's end: as it should be, or None at the body's end -/
def endW (f : Mn.D → Store → Option (Mn.D × Store)) (r : Option (Out × Store)) : Option (Mn.D × Store) := bnd r fun o st' =>
  match o with
  | .rt d => f d st'
  | .nx _ => f .non st'
  | _ => none
noncomputable def mFun (N n : Nat) (b : S) : Fn := fun ds st => if ds.length = n then endW (fin st) (b (ds.map some ++ List.replicate (N - n) none) st) else none
noncomputable def mFunL (N n : Nat) (b : S) : Fn := fun ds st => if ds.length = n then endW (finL st) (b (ds.map some ++ List.replicate (N - n) none) st) else none
theorem mFun_ln {N n : Nat} {b : S} : ∀ ds st r, mFun N n b ds st = some r → ds.length = n := fun ds st r e => by
  unfold mFun at e
  split at e
  · assumption
  · cases e
theorem mFunL_ln {N n : Nat} {b : S} : ∀ ds st r, mFunL N n b ds st = some r → ds.length = n := fun ds st r e => by
  unfold mFunL at e
  split at e
  · assumption
  · cases e
theorem RVo.start {K : PySem.W.Frag} {ρ : Rh} {H : Hp} {ds : List Mn.D} {vs : List V} (N : List Str) (r : RVs K ρ H ds vs) : RVo K ρ H (ds.map some ++ List.replicate (N.length - ds.length) none) (L2.start N vs) := by
  have hl := RVs.length r
  refine ⟨by unfold L2.start; simp [hl], fun i d e => ?_⟩
  have hi : i < ds.length := by
    by_cases hi : i < ds.length
    · exact hi
    · rw [List.getElem?_append_right (by simpa using hi), List.getElem?_replicate] at e
      split at e <;> cases e
  rw [List.getElem?_append_left (by simpa using hi), List.getElem?_map] at e
  cases e2 : ds[i]? with
  | none => rw [e2] at e; cases e
  | some d' =>
    rw [e2] at e
    cases e
    obtain ⟨v, h1, h2⟩ := RVs.get r e2
    exact ⟨v, by unfold L2.start; rw [List.getElem?_append_left (by simp; omega), List.getElem?_map, h1]; rfl, h2⟩
section
variable {P : Program} {w : World} {K : PySem.W.Frag} {mg : Str → Option Value} {base : Heap} {k : Nat} {x qual : Str} {st : Stmt} {f : Addr} {fd : FuncData} {N ps : List Str} {b : S}
theorem body_core {ff : Store → Mn.D → Store → Option (Mn.D × Store)} (hff : ∀ {K : PySem.W.Frag} {ρ : Rh} {H : Hp} {st st' : Store} {d d1 : Mn.D} {s1 : Store} {Q : VK}, RepSt K ρ st H → ff st d st' = some (d1, s1) → After K ρ H d1 s1 Q → After K ρ H d st' Q)
    {F : Fn} (hF : ∀ ds st r, F ds st = some r → ds.length = ps.length ∧ endW (ff st) (b (ds.map some ++ List.replicate (N.length - ps.length) none) st) = some r)
    (F0 : Fun K x qual st f fd) (S0 : FnScope N ps (defScope st)) (hb : Binds K fd ps []) (hm : mg x = some (.ref f))
    (body : ∀ (cdv : Value) (A : Around) (outer : List Env) (s : Shared) (H : Hp) (E : XK), Room k (A.deeper (envOfC qual (defScope st) s.heap.objs.size f cdv)) →
      PMSs (cxOf CX0 P w K mg base N qual (defScope st) f cdv A outer s H E).nox (defBody st) b) : FnOk P w K mg base CX0 (k + 1) f fd ps (spF K ps.length F) := by
  refine F0.ok S0 (fun vs H Q E h => h.1) (fun cdv A outer s H vs Q E hr h => ⟨_, body cdv A outer s H E hr, ?_⟩)
  obtain ⟨hv, ds, s0, ρ, d, s1, rv, rs, e, kk⟩ := h
  obtain ⟨hl, e⟩ := hF ds s0 _ e
  obtain ⟨o, s2, e2, e⟩ := bnd_inv e
  refine ⟨_, s0, ρ, o, s2, ?_, rs, e2, ?_⟩
  · rw [← hl]
    exact RVo.start N rv
  · cases o with
    | rt d0 => exact hff rs e kk
    | nx env' => exact fun σ' H' ρ' n rs' ro' => hff rs e kk .non H' ρ' n rs' rfl
    | bk env' => cases e
    | ct env' => cases e
theorem fn_mk (F0 : Fun K x qual st f fd) (S0 : FnScope N ps (defScope st)) (hb : Binds K fd ps []) (hm : mg x = some (.ref f))
    (body : ∀ (cdv : Value) (A : Around) (outer : List Env) (s : Shared) (H : Hp) (E : XK), Room k (A.deeper (envOfC qual (defScope st) s.heap.objs.size f cdv)) →
      PMSs (cxOf CX0 P w K mg base N qual (defScope st) f cdv A outer s H E).nox (defBody st) b) : FnM P w K mg base (k + 1) x ps.length (mFun N.length ps.length b) := ⟨mFun_ln, f, fd, ps, rfl,
  body_core (ff := fin) (fun {K ρ H st st' d d1 s1 Q} a b c => fin_ok a b c) (fun ds st r e => ⟨mFun_ln ds st r e, by
    have h := mFun_ln ds st r e
    unfold mFun at e
    rw [if_pos h] at e
    exact e⟩) F0 S0 hb hm body, hb, F0.kp, hm⟩
theorem fn_mkL (F0 : Fun K x qual st f fd) (S0 : FnScope N ps (defScope st)) (hb : Binds K fd ps []) (hm : mg x = some (.ref f))
    (body : ∀ (cdv : Value) (A : Around) (outer : List Env) (s : Shared) (H : Hp) (E : XK), Room k (A.deeper (envOfC qual (defScope st) s.heap.objs.size f cdv)) →
      PMSs (cxOf CX0 P w K mg base N qual (defScope st) f cdv A outer s H E).nox (defBody st) b) : FnM P w K mg base (k + 1) x ps.length (mFunL N.length ps.length b) := ⟨mFunL_ln, f, fd, ps, rfl,
  body_core (ff := finL) (fun {K ρ H st st' d d1 s1 Q} a b c => finL_ok a b c) (fun ds st r e => ⟨mFunL_ln ds st r e, by
    have h := mFunL_ln ds st r e
    unfold mFunL at e
    rw [if_pos h] at e
    exact e⟩) F0 S0 hb hm body, hb, F0.kp, hm⟩
/-- the same, of the law itself: at the def's own place -/
theorem fn_law (F0 : Fun K x qual st f fd) (S0 : FnScope N ps (defScope st)) (hb : Binds K fd ps []) (hm : mg x = some (.ref f))
    (body : ∀ (cdv : Value) (A : Around) (outer : List Env) (s : Shared) (H : Hp) (E : XK), Room k (A.deeper (envOfC qual (defScope st) s.heap.objs.size f cdv)) →
      PMSs (cxOf CX0 P w K mg base N qual (defScope st) f cdv A outer s H E).nox (defBody st) b) : FnOk P w K mg base CX0 (k + 1) f fd ps (spF K ps.length (mFun N.length ps.length b)) :=
  body_core (ff := fin) (fun {K ρ H st st' d d1 s1 Q} a b c => fin_ok a b c) (fun ds st r e => ⟨mFun_ln ds st r e, by
    have h := mFun_ln ds st r e
    unfold mFun at e
    rw [if_pos h] at e
    exact e⟩) F0 S0 hb hm body
/-- a def that calls itself: no turn is left -/
theorem fn_none (F0 : Fun K x qual st f fd) (hb : Binds K fd ps []) (hm : mg x = some (.ref f)) : FnM P w K mg base k x ps.length (fun _ _ => none) :=
  ⟨fun _ _ _ e => (by cases e), f, fd, ps, rfl, ⟨fun vs H Q E h => h.1, fun A outer s H args us vs Q E hr e0 hbt hv h => by
    obtain ⟨_, _, _, _, _, _, _, _, e, _⟩ := h
    cases e⟩, hb, F0.kp, hm⟩
end

/-! ### operators -/
def lstD (d : Mn.D) (st : Store) : Option (List Mn.D) :=
  match d with
  | .lst l => some l
  | .loc n => match st[n]? with
    | some (.lst l) => some l
    | _ => none
  | _ => none
theorem lstD_ok {K : PySem.W.Frag} {ρ : Rh} {H : Hp} {st : Store} {d : Mn.D} {v : V} {l : List Mn.D} (rs : RepSt K ρ st H) (rv : RV K ρ H d v) (e : lstD d st = some l) : ∃ a xs, v = .ref a ∧ H a = some (.lst xs) ∧ RVs K ρ H l xs := by
  cases d with
  | lst ds => cases e; obtain ⟨a, xs, e1, f, r⟩ := rv; exact ⟨a, xs, e1, f.2, r⟩
  | loc n =>
    unfold lstD at e
    simp only at e
    split at e
    · rename_i l' h
      cases e
      obtain ⟨a, e1, e2, xs, e3, r⟩ := rs.at rv h
      exact ⟨a, xs, e1, e3, r⟩
    · cases e
  | _ => cases e
def dicD (d : Mn.D) (st : Store) : Option (List (Key × Mn.D)) :=
  match d with
  | .dic l => some l
  | .dkl l => some l
  | .loc n => match st[n]? with
    | some (.dic l) => some l
    | _ => none
  | _ => none
theorem dicD_ok {K : PySem.W.Frag} {ρ : Rh} {H : Hp} {st : Store} {d : Mn.D} {v : V} {l : List (Key × Mn.D)} (rs : RepSt K ρ st H) (rv : RV K ρ H d v) (e : dicD d st = some l) : ∃ a xs, v = .ref a ∧ Rd H a (.dK xs) ∧ RVk K ρ H l xs := by
  cases d with
  | dic ds => cases e; obtain ⟨a, xs, e1, f, r⟩ := rv; exact ⟨a, xs, e1, .inl f.2, r⟩
  | dkl ds => cases e; obtain ⟨a, xs, e1, f, r⟩ := rv; exact ⟨a, xs, e1, .inr f.2, r⟩
  | loc n =>
    unfold dicD at e
    simp only at e
    split at e
    · rename_i l' h
      cases e
      obtain ⟨a, e1, e2, xs, e3, r⟩ := rs.at rv h
      exact ⟨a, xs, e1, .inl e3, r⟩
    · cases e
  | _ => cases e

/-- t + u of tuples: the answer a plain tuple -/
def rCatF (K : PySem.W.Frag) : R2 := fun x y H Q => ∃ a b xs ys, x = .ref a ∧ y = .ref b ∧ SqT K H a xs ∧ SqT K H b ys ∧ xs.length + ys.length ≤ sizeLine ∧
  (xs = [] → Q (.ref b) H) ∧ (xs ≠ [] → ys = [] → Q (.ref a) H) ∧ (xs ≠ [] → ys ≠ [] → ∀ p o, H p = none → o.dict = none → Q (.ref p) (upd H p (.frz o (.tup (xs ++ ys)))))
theorem op_catF {X : Cx} : OpR X (binaryOp .Add) (rCatF X.K) := by
  intro pins s σ H x y v u Q I rx ry h
  obtain ⟨a, b, xs, ys, rfl, rfl, ha, hb, hz, q0, q1, q2⟩ := h
  cases rx
  cases ry
  obtain ⟨its, r1, p1, _⟩ := I.tuple ha
  obtain ⟨its2, r2, p2, _⟩ := I.tuple hb
  by_cases hx : xs = []
  · subst hx
    cases r1
    exact cat_tup0 p1 p2 ⟨.ref b, H, I, rfl, q0 rfl⟩
  · refine HT.cat_tup p1 p2 (fun z => hx (r1.nil_iff.mp z)) (fun z => ⟨.ref a, H, I, rfl, q1 hx (r2.nil_iff.mp z)⟩) (fun z => ?_) (by rw [← r1.length, ← r2.length]; exact hz)
    refine ⟨.ref s.heap.objs.size, _, I.laid (t' := s.toks) (o := .frz { cls := .type "tuple", data := .seq (its ++ its2).toArray } (.tup (xs ++ ys))) (fun b ob q => Heap.get?_push_of_some _ q) (Nat.le_refl _) ?_, rfl, q2 hx (fun w => z (r2.nil_iff.mpr w)) _ _ (I.hok.fresh (Nat.le_refl _)) rfl⟩
    exact ⟨Heap.get?_push_size _ rfl, by rw [List.length_append]; exact hz, _, r1.append r2, IsTup.new _ _⟩
def oAdd : O2 := fun x y st =>
  match x, y with
  | .int i, .int j => some (.int (i + j))
  | .int i, .bl k => some (.int (i + b2i k))
  | .str a, .str b => @ite _ (a.length + b.length ≤ 16777216) (Classical.propDecidable _) (some (.str (a ++ b))) none
  | .tup a, .tup b => @ite _ (a.length + b.length ≤ 16777216) (Classical.propDecidable _) (some (.tup (a ++ b))) none
  | x, y => match lstD x st, lstD y st with
    | some a, some b => @ite _ (a.length + b.length ≤ 16777216) (Classical.propDecidable _) (some (.lst (a ++ b))) none
    | _, _ => none
def rAddAll (K : PySem.W.Frag) : R2 := fun x y H Q => rI0 (fun i j => .int (i + j)) x y H Q ∨ (∃ i k, x = .int i ∧ y = .bl k ∧ Q (.int (i + b2i k)) H) ∨ (∃ i j, x = .str i ∧ y = .str j ∧ i.length + j.length ≤ sizeLine ∧ Q (.str (i ++ j)) H) ∨ rCatF K x y H Q ∨ rCat x y H Q
theorem RVs.nilD {K : PySem.W.Frag} {ρ : Rh} {H : Hp} {ds : List Mn.D} {vs : List V} (r : RVs K ρ H ds vs) : vs = [] ↔ ds = [] := by
  have h := RVs.length r
  constructor
  · intro e; subst e; exact List.length_eq_zero_iff.mp h.symm
  · intro e; subst e; exact List.length_eq_zero_iff.mp h
theorem o_add {X : Cx} : OpR X (binaryOp .Add) (rAddAll X.K) ∧ RefO X.K (rAddAll X.K) oAdd := by
  refine ⟨op_add.or (op_add_ib.or (op_add_str.or (op_catF.or op_cat))), fun ρ st H dx dy d x y Q rs rx ry e k => ?_⟩
  unfold oAdd at e
  split at e
  · rename_i i j
    cases e
    exact .inl ⟨i, j, rx, ry, k _ H (Nxt.refl _ _) rs rfl⟩
  · rename_i i j
    cases e
    exact .inr (.inl ⟨i, j, rx, ry, k _ H (Nxt.refl _ _) rs rfl⟩)
  · rename_i a b
    split at e
    · rename_i h
      cases e
      exact .inr (.inr (.inl ⟨a, b, rx, ry, sz1m' h, k _ H (Nxt.refl _ _) rs rfl⟩))
    · cases e
  · rename_i a b
    split at e
    · rename_i h
      cases e
      obtain ⟨p, xs, e1, f1, r1⟩ := rx
      obtain ⟨q, ys, e2, f2, r2⟩ := ry
      refine .inr (.inr (.inr (.inl ⟨p, q, xs, ys, e1, e2, f1.seq, f2.seq, by rw [RVs.length r1, RVs.length r2]; exact sz1m' h, fun z => ?_, fun _ z => ?_, fun z1 z2 np o hp ho => ?_⟩)))
      · have : a = [] := (RVs.nilD r1).mp z
        subst this
        exact k _ H (Nxt.refl _ _) rs ⟨q, ys, rfl, f2, r2⟩
      · have : b = [] := (RVs.nilD r2).mp z
        subst this
        rw [List.append_nil] at k
        exact k _ H (Nxt.refl _ _) rs ⟨p, xs, rfl, f1, r1⟩
      · have n := Nxt.laid (o := .frz o (.tup (xs ++ ys))) rs hp
        exact k _ _ n (rs.laid hp) ⟨np, xs ++ ys, rfl, .inl ⟨rs.out hp, o, upd_same, ho⟩, RVs.append (RVs.nxt n _ _ r1) (RVs.nxt n _ _ r2)⟩
    · cases e
  · split at e
    · rename_i a b h1 h2
      split at e
      · rename_i h
        cases e
        obtain ⟨p, xs, e1, f1, r1⟩ := lstD_ok rs rx h1
        obtain ⟨q, ys, e2, f2, r2⟩ := lstD_ok rs ry h2
        refine .inr (.inr (.inr (.inr ⟨p, q, xs, ys, e1, e2, f1, f2, by rw [RVs.length r1, RVs.length r2]; exact sz1m' h, fun np hp => ?_⟩)))
        have n := Nxt.laid (o := .lst (xs ++ ys)) rs hp
        exact k _ _ n (rs.laid hp) ⟨np, xs ++ ys, rfl, ⟨rs.out hp, upd_same⟩, RVs.append (RVs.nxt n _ _ r1) (RVs.nxt n _ _ r2)⟩
      · cases e
    · cases e
/-- xs + ys as a new list -/
def mCat (ma mb : M Mn.D) : M (List Mn.D) := fun env st => bnd (ma env st) fun x st1 => bnd (mb env st1) fun y st2 =>
  match lstD x st2, lstD y st2 with
  | some a, some b => @ite _ (a.length + b.length ≤ 16777216) (Classical.propDecidable _) (some (a ++ b, st2)) none
  | _, _ => none
theorem pml_cat {X : Cx} {a b : Expr} {ma mb : M Mn.D} {pos : Pos} (ha : PM X a ma) (hb : PM X b mb) : PML X (.BinOp a .Add b pos) (mCat ma mb) :=
  imp_e (pe_op op_cat ha hb) fun σ H Q ⟨env, st, ρ, d, st', ro, rs, e, k⟩ => by
    obtain ⟨x, s1, e1, e⟩ := bnd_inv e
    obtain ⟨y, s2, e2, e⟩ := bnd_inv e
    refine ⟨env, st, ρ, x, s1, ro, rs, e1, fun vx H1 ρ1 n1 rs1 rx => ⟨env, s1, ρ1, y, _, ro.nxt n1, rs1, e2, fun vy H2 ρ2 n2 rs2 ry => ?_⟩⟩
    split at e
    · rename_i a b h1 h2
      split at e
      · rename_i h
        cases e
        obtain ⟨p, xs, e1, f1, r1⟩ := lstD_ok rs2 (RV.nxt n2 _ _ rx) h1
        obtain ⟨q, ys, e2, f2, r2⟩ := lstD_ok rs2 ry h2
        exact ⟨p, q, xs, ys, e1, e2, f1, f2, by rw [RVs.length r1, RVs.length r2]; exact sz1m' h, fun np hp => k _ _ _ ρ2 (n1.trans n2) rs2 hp (RVs.append r1 r2)⟩
      · cases e
    · cases e

/-! ### ints -/
def BIGN : Nat := 2 ^ 8000
noncomputable def Fits (i : Int) : Bool := @decide (i.natAbs < BIGN) (Classical.propDecidable _)
theorem Fits.log {i : Int} (h : Fits i = true) : i.natAbs.log2 < 8000 := PySem.Flt.log2_lt_of (by decide) (@of_decide_eq_true _ (Classical.propDecidable _) h)
theorem fits_of {i : Int} {k : Nat} (hk : k ≤ 8000) (h : i.natAbs < 2 ^ k) : Fits i = true := @decide_eq_true _ (Classical.propDecidable _) (Nat.lt_of_lt_of_le h (Nat.pow_le_pow_right (by decide) hk))
def oI (f : Int → Int → Option Int) : O2 := fun x y _ =>
  match x, y with
  | .int i, .int j => match f i j with
    | some k => some (.int k)
    | none => none
  | _, _ => none
theorem oI_ok {K : PySem.W.Frag} {C : Int → Int → Prop} {g : Int → Int → Int} {f : Int → Int → Option Int} (h : ∀ i j k, f i j = some k → C i j ∧ k = g i j) : RefO K (rI C fun i j => .int (g i j)) (oI f) := fun ρ st H dx dy d x y Q rs rx ry e k => by
  unfold oI at e
  split at e
  · rename_i i j
    split at e
    · rename_i m hm
      cases e
      obtain ⟨h1, h2⟩ := h i j m hm
      subst h2
      exact ⟨i, j, rx, ry, h1, k _ H (Nxt.refl _ _) rs rfl⟩
    · cases e
  · cases e
def fSub (i j : Int) : Option Int := some (i - j)
def fMul (i j : Int) : Option Int := if Fits i = true ∧ Fits j = true then some (i * j) else none
def fDiv (i j : Int) : Option Int := if j ≠ 0 ∧ Fits j = true then some (i.fdiv j) else none
def fMod (i j : Int) : Option Int := if j ≠ 0 then some (i.fmod j) else none
def fPow (i j : Int) : Option Int := if 0 ≤ j ∧ j ≤ 1000000 ∧ i.natAbs < 2 ^ 64 then some (i ^ j.toNat) else none
section
variable {X : Cx}
theorem op_sub' : OpR X (binaryOp .Sub) (rI (fun _ _ => True) fun i j => .int (i - j)) := opI fun _ _ _ _ _ _ _ _ q => sub_int q
theorem o_sub : OpR X (binaryOp .Sub) (rI (fun _ _ => True) fun i j => .int (i - j)) ∧ RefO X.K (rI (fun _ _ => True) fun i j => .int (i - j)) (oI fSub) := ⟨op_sub', oI_ok fun i j k e => by cases e; exact ⟨trivial, rfl⟩⟩
theorem o_mul : OpR X (binaryOp .Mult) (rI CMulW fun i j => .int (i * j)) ∧ RefO X.K (rI CMulW fun i j => .int (i * j)) (oI fMul) := ⟨op_mulW, oI_ok fun i j k e => by
  unfold fMul at e
  split at e
  · rename_i h
    cases e
    have h1 := Fits.log h.1
    have h2 := Fits.log h.2
    exact ⟨by unfold CMulW; omega, rfl⟩
  · cases e⟩
def CDivA (_ j : Int) : Prop := j ≠ 0 ∧ j.natAbs.log2 < 9000
theorem op_fdivA : OpR X (binaryOp .FloorDiv) (rI CDivA fun i j => .int (i.fdiv j)) := opI fun i j _ _ _ _ _ hc q => floordiv_int hc.1 q (.inl (PyProof.noPylong_of_log2 hc.2))
theorem o_div : OpR X (binaryOp .FloorDiv) (rI CDivA fun i j => .int (i.fdiv j)) ∧ RefO X.K (rI CDivA fun i j => .int (i.fdiv j)) (oI fDiv) := ⟨op_fdivA, oI_ok fun i j k e => by
  unfold fDiv at e
  split at e
  · rename_i h
    cases e
    exact ⟨⟨h.1, by have := Fits.log h.2; omega⟩, rfl⟩
  · cases e⟩
theorem o_mod : OpR X (binaryOp .Mod) (rI (fun _ j => j ≠ 0) fun i j => .int (i.fmod j)) ∧ RefO X.K (rI (fun _ j => j ≠ 0) fun i j => .int (i.fmod j)) (oI fMod) := ⟨op_modN, oI_ok fun i j k e => by
  unfold fMod at e
  split at e
  · rename_i h
    cases e
    exact ⟨h, rfl⟩
  · cases e⟩
theorem o_pow : OpR X (binaryOp .Pow) (rI CPow fun i j => .int (i ^ j.toNat)) ∧ RefO X.K (rI CPow fun i j => .int (i ^ j.toNat)) (oI fPow) := ⟨op_pow, oI_ok fun i j k e => by
  unfold fPow at e
  split at e
  · rename_i h
    cases e
    exact ⟨h, rfl⟩
  · cases e⟩
def mNeg (m : M Mn.D) : M Mn.D := fun env st => bnd (m env st) fun x st1 =>
  match x with
  | .int i => some (.int (-i), st1)
  | _ => none
theorem pm_neg {a : Expr} {m : M Mn.D} {pos : Pos} (h : PM X a m) : PM X (.UnaryOp .USub a pos) (mNeg m) :=
  imp_e (pe_un un_neg h) fun σ H Q ⟨env, st, ρ, d, st', ro, rs, e, k⟩ => by
    obtain ⟨x, s1, e1, e⟩ := bnd_inv e
    refine ⟨env, st, ρ, x, s1, ro, rs, e1, fun vx H1 ρ1 n1 rs1 rx => ?_⟩
    cases x with
    | int i => cases e; exact ⟨i, rx, k _ H1 ρ1 n1 rs1 rfl⟩
    | _ => cases e
/-- comparisons of ints -/
def oC (f : Int → Int → Bool) : O2 := fun x y _ =>
  match x, y with
  | .int i, .int j => some (.bl (f i j))
  | _, _ => none
theorem oC_ok {K : PySem.W.Frag} {f : Int → Int → Bool} : RefO K (rI0 fun i j => .bl (f i j)) (oC f) := fun ρ st H dx dy d x y Q rs rx ry e k => by
  unfold oC at e
  split at e
  · rename_i i j
    cases e
    exact ⟨i, j, rx, ry, k _ H (Nxt.refl _ _) rs rfl⟩
  · cases e
def cLt (i j : Int) : Bool := decide (i < j)
def cLe (i j : Int) : Bool := decide (i ≤ j)
def cGt (i j : Int) : Bool := decide (j < i)
def cGe (i j : Int) : Bool := decide (j ≤ i)
theorem o_lt : OpR X (compareOp .Lt) (rI0 fun i j => .bl (decide (i < j))) ∧ RefO X.K (rI0 fun i j => .bl (decide (i < j))) (oC cLt) := ⟨op_lt, oC_ok⟩
theorem o_le : OpR X (compareOp .LtE) (rI0 fun i j => .bl (decide (i ≤ j))) ∧ RefO X.K (rI0 fun i j => .bl (decide (i ≤ j))) (oC cLe) := ⟨op_le, oC_ok⟩
theorem o_gt : OpR X (compareOp .Gt) (rI0 fun i j => .bl (decide (j < i))) ∧ RefO X.K (rI0 fun i j => .bl (decide (j < i))) (oC cGt) := ⟨op_gt, oC_ok⟩
theorem o_ge : OpR X (compareOp .GtE) (rI0 fun i j => .bl (decide (j ≤ i))) ∧ RefO X.K (rI0 fun i j => .bl (decide (j ≤ i))) (oC cGe) := ⟨op_ge, oC_ok⟩
/-- a < b < c -/
def mChain (f g : O2) (ma mb mc : M Mn.D) : M Mn.D := fun env st => bnd (ma env st) fun x st1 => bnd (mb env st1) fun y st2 =>
  match f x y st2 with
  | some (.bl true) => bnd (mc env st2) fun z st3 => ret1 (g y z st3) st3
  | some (.bl false) => some (.bl false, st2)
  | _ => none
/-- is None -/
def isN : Mn.D → Bool
  | .non => true
  | _ => false
theorem RV.isN {K : PySem.W.Frag} {ρ : Rh} {H : Hp} {d : Mn.D} {v : V} (r : RV K ρ H d v) : decide (v = .non) = Mn.isN d := by
  cases d <;> first
    | exact (r : False).elim
    | (cases r; rfl)
    | (obtain ⟨a, e, _⟩ := r; subst e; rfl)
    | (obtain ⟨a, xs, e, _⟩ := r; subst e; rfl)
def oIs : O2 := fun x y _ =>
  match y with
  | .non => some (.bl (isN x))
  | _ => none
def oIsNot : O2 := fun x y _ =>
  match y with
  | .non => some (.bl (!isN x))
  | _ => none
theorem o_is : OpR X (compareOp .Is) (fun x y H Q => y = .non ∧ Q (.bl (decide (x = .non))) H) ∧ RefO X.K (fun x y H Q => y = .non ∧ Q (.bl (decide (x = .non))) H) oIs := ⟨op_isN, fun ρ st H dx dy d x y Q rs rx ry e k => by
  cases dy with
  | non => cases e; exact ⟨ry, by rw [rx.isN]; exact k _ H (Nxt.refl _ _) rs rfl⟩
  | _ => cases e⟩
theorem o_isnot : OpR X (compareOp .IsNot) (fun x y H Q => y = .non ∧ Q (.bl (!decide (x = .non))) H) ∧ RefO X.K (fun x y H Q => y = .non ∧ Q (.bl (!decide (x = .non))) H) oIsNot := ⟨op_notN, fun ρ st H dx dy d x y Q rs rx ry e k => by
  cases dy with
  | non => cases e; exact ⟨ry, by rw [rx.isN]; exact k _ H (Nxt.refl _ _) rs rfl⟩
  | _ => cases e⟩
end

/-! ### == of data -/
mutual
def toPy : Mn.D → Option PyData
  | .non => some .none
  | .bl b => some (.bool b)
  | .int i => some (.int i)
  | .str x => some (.str x)
  | .tup ds => match toPys ds with
    | some l => some (.tuple l)
    | none => none
  | .lst ds => match toPys ds with
    | some l => some (.list l)
    | none => none
  | .rol _ => none
  | .dic _ => none
  | .loc _ => none
  | .ptl _ => none
  | .dit _ _ => none
  | .dkl _ => none
def toPys : List Mn.D → Option (List PyData)
  | [] => some []
  | d :: ds => match toPy d, toPys ds with
    | some p, some l => some (p :: l)
    | _, _ => none
end
section
variable {K : PySem.W.Frag} {ρ : Rh} {H : Hp}
mutual
theorem toPy_ok : ∀ (d : Mn.D) (v : V) (p : PyData), toPy d = some p → RV K ρ H d v → Dp K H v p
  | .non, _, _, e, h => by cases e; cases h; exact .non
  | .bl b, _, _, e, h => by cases e; cases h; exact .bl b
  | .int i, _, _, e, h => by cases e; cases h; exact .int i
  | .str x, _, _, e, h => by cases e; cases h; exact .str x
  | .tup ds, _, _, e, ⟨a, xs, ev, f, r⟩ => by
    unfold toPy at e
    split at e
    · rename_i l hl
      cases e; subst ev
      exact .tup f.seq (toPys_ok ds xs l hl r)
    · cases e
  | .lst ds, _, _, e, ⟨a, xs, ev, f, r⟩ => by
    unfold toPy at e
    split at e
    · rename_i l hl
      cases e; subst ev
      exact .lst (SqL.of f.2) (toPys_ok ds xs l hl r)
    · cases e
  | .rol _, _, _, e, _ => by cases e
  | .dic _, _, _, e, _ => by cases e
  | .loc _, _, _, e, _ => by cases e
  | .ptl _, _, _, e, _ => by cases e
  | .dit _ _, _, _, e, _ => by cases e
  | .dkl _, _, _, e, _ => by cases e
theorem toPys_ok : ∀ (ds : List Mn.D) (vs : List V) (ps : List PyData), toPys ds = some ps → RVs K ρ H ds vs → DpAll K H vs ps
  | [], _, _, e, h => by cases e; cases h; exact .nil
  | d :: ds, _, _, e, ⟨v, r, ev, h, t⟩ => by
    unfold toPys at e
    split at e
    · rename_i p l h1 h2
      cases e; subst ev
      exact .cons (toPy_ok d v p h1 h) (toPys_ok ds r l h2 t)
    · cases e
end
end
/-- scalars -/
def eqS (x y : Mn.D) : Option Bool :=
  match x, y with
  | .int i, .int j => some (i == j)
  | .str i, .str j => some (i == j)
  | .bl i, .bl j => some (i == j)
  | .int _, .str _ => some false
  | .str _, .int _ => some false
  | .non, .non => some true
  | .non, .int _ => some false
  | .int _, .non => some false
  | .non, .str _ => some false
  | .str _, .non => some false
  | .bl _, .str _ => some false
  | .str _, .bl _ => some false
  | _, _ => none
theorem eqS_ok {K : PySem.W.Frag} {ρ : Rh} {H : Hp} {dx dy : Mn.D} {x y : V} {b : Bool} (rx : RV K ρ H dx x) (ry : RV K ρ H dy y) (e : eqS dx dy = some b) : scal x y = true ∧ decide (x = y) = b := by
  unfold eqS at e
  split at e <;> first
    | (cases e; cases rx; cases ry; first | exact ⟨rfl, dec_int⟩ | exact ⟨rfl, dec_str⟩ | exact ⟨rfl, dec_bl⟩ | exact ⟨rfl, by simp⟩)
    | cases e
def eqP (x y : Mn.D) : Option Bool :=
  match toPy x, toPy y with
    | some p, some q => if SeqAt.shaped p = true ∧ SeqAt.shaped q = true then some (PyData.eqv p q) else none
    | _, _ => none
theorem eqP_ok {K : PySem.W.Frag} {ρ : Rh} {H : Hp} {dx dy : Mn.D} {x y : V} {b : Bool} (rx : RV K ρ H dx x) (ry : RV K ρ H dy y) (e : eqP dx dy = some b) : ∃ d e, Dp K H x d ∧ Dp K H y e ∧ SeqAt.shaped d = true ∧ SeqAt.shaped e = true ∧ PyData.eqv d e = b := by
  unfold eqP at e
  split at e
  · rename_i p q h1 h2
    split at e
    · rename_i h
      cases e
      exact ⟨p, q, toPy_ok _ _ _ h1 rx, toPy_ok _ _ _ h2 ry, h.1, h.2, rfl⟩
    · cases e
  · cases e
def eqD (x y : Mn.D) : Option Bool := match eqS x y with
  | some b => some b
  | none => eqP x y
def oEq : O2 := fun x y _ => match eqD x y with
  | some b => some (.bl b)
  | none => none
def oNe : O2 := fun x y _ => match eqD x y with
  | some b => some (.bl (!b))
  | none => none
section
variable {X : Cx}
def rEqA (K : PySem.W.Frag) : R2 := fun x y H Q => rEq x y H Q ∨ rEqD K x y H Q
def rNeA (K : PySem.W.Frag) : R2 := fun x y H Q => rNe x y H Q ∨ rNeD K x y H Q
theorem o_eq (hu : X.A.units + 64 < cLine) : OpR X (compareOp .Eq) (rEqA X.K) ∧ RefO X.K (rEqA X.K) oEq := ⟨op_eq.or (op_eqD hu), fun ρ st H dx dy d x y Q rs rx ry e k => by
  unfold oEq eqD at e
  cases h : eqS dx dy with
  | some b =>
    rw [h] at e
    cases e
    obtain ⟨h1, h2⟩ := eqS_ok rx ry h
    exact .inl ⟨h1, by rw [h2]; exact k _ H (Nxt.refl _ _) rs rfl⟩
  | none =>
    rw [h] at e
    simp only at e
    split at e
    · rename_i b hb
      cases e
      obtain ⟨p, q, h1, h2, h3, h4, h5⟩ := eqP_ok rx ry hb
      exact .inr ⟨p, q, h1, h2, h3, h4, by rw [h5]; exact k _ H (Nxt.refl _ _) rs rfl⟩
    · cases e⟩
theorem o_ne (hu : X.A.units + 64 < cLine) : OpR X (compareOp .NotEq) (rNeA X.K) ∧ RefO X.K (rNeA X.K) oNe := ⟨op_ne.or (op_neD hu), fun ρ st H dx dy d x y Q rs rx ry e k => by
  unfold oNe eqD at e
  cases h : eqS dx dy with
  | some b =>
    rw [h] at e
    cases e
    obtain ⟨h1, h2⟩ := eqS_ok rx ry h
    exact .inl ⟨h1, by rw [h2]; exact k _ H (Nxt.refl _ _) rs rfl⟩
  | none =>
    rw [h] at e
    simp only at e
    split at e
    · rename_i b hb
      cases e
      obtain ⟨p, q, h1, h2, h3, h4, h5⟩ := eqP_ok rx ry hb
      exact .inr ⟨p, q, h1, h2, h3, h4, by rw [h5]; exact k _ H (Nxt.refl _ _) rs rfl⟩
    · cases e⟩
end
end
end Mn
end
section
set_option Elab.async false
set_option autoImplicit false
set_option linter.all false
set_option maxRecDepth 100000
set_option maxHeartbeats 2000000
/-! The mini layer, 6: chains, places, slices, truth, in, built-ins, methods. -/
namespace Mn
noncomputable section
open PySem PySem.Spec PyProof.Rows L2

/-! ### chains -/
theorem chain_core {K : PySem.W.Frag} {r r' : R2} {f g : O2} (hf : RefO K r f) (hg : RefO K r' g) {ma mb mc : M Mn.D} {σ : L2.St} {H : Hp} {Q : VK} (h : tM K (mChain f g ma mb mc) σ H Q) : tChain r r' (tM K ma) (tM K mb) (tM K mc) σ H Q := by
  obtain ⟨env, st, ρ, d, st', ro, rs, e, k⟩ := h
  obtain ⟨x, s1, e1, e⟩ := bnd_inv e
  obtain ⟨y, s2, e2, e⟩ := bnd_inv e
  refine ⟨env, st, ρ, x, s1, ro, rs, e1, fun vx H1 ρ1 n1 rs1 rx => ⟨env, s1, ρ1, y, s2, ro.nxt n1, rs1, e2, fun vy H2 ρ2 n2 rs2 ry => ?_⟩⟩
  split at e
  · rename_i hb
    obtain ⟨z, s3, e3, e⟩ := bnd_inv e
    obtain ⟨e4, e5⟩ := ret1_inv e
    cases e5
    refine hf ρ2 s2 H2 x y (.bl true) vx vy _ rs2 (RV.nxt n2 _ _ rx) ry hb fun v H3 n3 rs3 rv => ⟨true, rv, ?_⟩
    simp only [if_true]
    refine ⟨env, s2, ρ2, z, _, (ro.nxt n1).nxt (n2.trans n3), rs3, e3, fun vz H4 ρ4 n4 rs4 rz => ?_⟩
    exact hg ρ4 _ H4 y z d vy vz Q rs4 (RV.nxt (n3.trans n4) _ _ ry) rz e4 fun v H5 n5 rs5 rv => k v H5 ρ4 (n1.trans (n2.trans (n3.trans (n4.trans n5)))) rs5 rv
  · rename_i hb
    cases e
    refine hf ρ2 _ H2 x y (.bl false) vx vy _ rs2 (RV.nxt n2 _ _ rx) ry hb fun v H3 n3 rs3 rv => ⟨false, rv, ?_⟩
    simp only [Bool.false_eq_true, if_false]
    exact k _ H3 ρ2 (n1.trans (n2.trans n3)) rs3 rfl
  · cases e
section
variable {X : Cx} {a b c : Expr} {ma mb mc : M Mn.D} {pos : Pos}
theorem pm_chain {op op' : CmpOp} {r r' : R2} {f g : O2} (ho : OpR X (compareOp op) r ∧ RefO X.K r f) (ho' : OpR X (compareOp op') r' ∧ RefO X.K r' g) (ha : PM X a ma) (hb : PM X b mb) (hc : PM X c mc)
    (hm : lastMarks [op, op'] [b, c] = false := by with_unfolding_all rfl) : PM X (.Compare a [op, op'] [b, c] pos) (mChain f g ma mb mc) := imp_e (pe_chain ho.1 ho'.1 ha hb hc hm) fun _ _ _ h => chain_core ho.2 ho'.2 h
theorem pmt_chain {op op' : CmpOp} {r r' : R2} {f g : O2} (ho : OpR X (compareOp op) r ∧ RefO X.K r f) (ho' : OpR X (compareOp op') r' ∧ RefO X.K r' g) (ha : PM X a ma) (hb : PM X b mb) (hc : PM X c mc)
    (hm : lastMarks [op, op'] [b, c] = false := by with_unfolding_all rfl) : PMT X (.Compare a [op, op'] [b, c] pos) (mTB (mChain f g ma mb mc)) := imp_t (pt_chain ho.1 ho'.1 ha hb hc hm) fun σ H Q h => chain_core ho.2 ho'.2 (tB_core h)
end

/-! ### dicts as tables -/
def keyD : Mn.D → Option Key
  | .int i => some (.inl i)
  | .str x => some (.inr x)
  | _ => none
theorem keyD_ok {K : PySem.W.Frag} {ρ : Rh} {H : Hp} {d : Mn.D} {v : V} {k : Key} (r : RV K ρ H d v) (e : keyD d = some k) : v = kV k := by
  cases d <;> cases e <;> exact r
def lkD : List (Key × Mn.D) → Key → Option Mn.D
  | [], _ => none
  | (j, d) :: r, k => if j = k then some d else lkD r k
def putD (l : List (Key × Mn.D)) (k : Key) (d : Mn.D) : List (Key × Mn.D) :=
  if (l.any fun kv => decide (kv.1 = k)) = true then l.map (fun kv => if kv.1 = k then (kv.1, d) else kv) else l ++ [(k, d)]
section
variable {K : PySem.W.Frag} {ρ : Rh} {H : Hp}
theorem lkD_ok : ∀ {l : List (Key × Mn.D)} {xs : List (Key × V)} {k : Key}, RVk K ρ H l xs → (lkD l k).isSome = (valV xs k).isSome ∧ ∀ d, lkD l k = some d → ∃ v, valV xs k = some v ∧ RV K ρ H d v
  | [], _, _, h => by subst h; exact ⟨rfl, fun d e => by cases e⟩
  | (j, d) :: l, _, k, ⟨v, r, e, h, t⟩ => by
    subst e
    unfold lkD
    by_cases hj : j = k
    · rw [if_pos hj, valV_pos hj]
      exact ⟨rfl, fun d' e => by cases e; exact ⟨v, rfl, h⟩⟩
    · rw [if_neg hj, valV_neg hj]
      exact lkD_ok t
theorem RVk.any : ∀ {l : List (Key × Mn.D)} {xs : List (Key × V)} (k : Key), RVk K ρ H l xs → (l.any fun kv => decide (kv.1 = k)) = (xs.any fun kv => decide (kv.1 = k))
  | [], _, _, h => by subst h; rfl
  | (j, d) :: l, _, k, ⟨v, r, e, h, t⟩ => by subst e; simp only [List.any_cons]; rw [RVk.any k t]
theorem RVk.repl {d : Mn.D} {v : V} (k : Key) (hv : RV K ρ H d v) : ∀ {l : List (Key × Mn.D)} {xs : List (Key × V)}, RVk K ρ H l xs → RVk K ρ H (l.map (fun kv => if kv.1 = k then (kv.1, d) else kv)) (xs.map (fun kv => if kv.1 = k then (kv.1, v) else kv))
  | [], _, h => by subst h; rfl
  | (j, e) :: l, _, ⟨w, r, ew, h, t⟩ => by
    subst ew
    simp only [List.map_cons]
    by_cases hj : j = k
    · simp only [hj, if_true]
      exact ⟨v, _, rfl, hv, RVk.repl k hv t⟩
    · simp only [hj, if_false]
      exact ⟨w, _, rfl, h, RVk.repl k hv t⟩
theorem RVk.append : ∀ {l m : List (Key × Mn.D)} {xs ys : List (Key × V)}, RVk K ρ H l xs → RVk K ρ H m ys → RVk K ρ H (l ++ m) (xs ++ ys)
  | [], _, _, _, h, t => by subst h; exact t
  | (j, e) :: l, _, _, _, ⟨w, r, ew, h, q⟩, t => by subst ew; exact ⟨w, r ++ _, rfl, h, RVk.append q t⟩
theorem RVk.put {d : Mn.D} {v : V} (k : Key) (hv : RV K ρ H d v) {l : List (Key × Mn.D)} {xs : List (Key × V)} (h : RVk K ρ H l xs) : RVk K ρ H (putD l k d) (putK xs k v) := by
  unfold putD putK
  rw [RVk.any k h]
  split
  · exact RVk.repl k hv h
  · exact RVk.append h ⟨v, [], rfl, hv, rfl⟩
end
theorem putD_len (l : List (Key × Mn.D)) (k : Key) (d : Mn.D) : (putD l k d).length ≤ l.length + 1 := by
  unfold putD
  split <;> simp

/-! ### a[b]: a list, a tuple, a text, a dict -/
def ixO : O2 := fun x y st =>
  match y with
  | .int i => match seqD x st with
    | some l => atI l i
    | none => match x with
      | .str z => @ite _ (z.length ≤ 16777216) (Classical.propDecidable _) ((atI z.cps.toList i).map fun c => .str ⟨#[c]⟩) none
      | _ => match dicD x st with
        | some ks => lkD ks (.inl i)
        | none => none
  | .str z => match dicD x st with
    | some ks => lkD ks (.inr z)
    | none => none
  | _ => none
theorem atI_ok {K : PySem.W.Frag} {ρ : Rh} {H : Hp} {l : List Mn.D} {xs : List V} {i : Int} {d : Mn.D} (r : RVs K ρ H l xs) (e : atI l i = some d) : ∃ v, atI xs i = some v ∧ RV K ρ H d v := by
  unfold atI at e ⊢
  rw [RVs.length r]
  cases h : ixN l.length i with
  | none => rw [h] at e; cases e
  | some j =>
    rw [h] at e
    exact RVs.get r e
def rIxD : R2 := fun x y H Q => ∃ a v, x = .ref a ∧ DGet H a y (some v) ∧ Q v H
theorem ix_dict {X : Cx} (hu : X.A.units + 1 < cLine) : IxR X rIxD := by
  intro value slice pins s σ H x y v u Q I rx ry h hs
  obtain ⟨a, w, rfl, g, q⟩ := h
  cases rx
  exact tail_any (dict_typeIs I g) PySem.F.slot_dict_getitem.lookup (d_getItem hu I g ry fun w' s' I' rw' => ⟨w, H, I', rw', q⟩) hs
def rIxA (K : PySem.W.Frag) : R2 := fun x y H Q => rIx K x y H Q ∨ rIxD x y H Q
theorem ix_ref {K : PySem.W.Frag} : RefO K (rIxA K) ixO := fun ρ st H dx dy d x y Q rs rx ry e k => by
  have dict : ∀ {ks : List (Key × Mn.D)} {kk : Key}, dicD dx st = some ks → lkD ks kk = some d → y = kV kk → rIxA K x y H Q := fun {ks kk} h1 h2 h3 => by
    obtain ⟨a, xs, e1, f, r⟩ := dicD_ok rs rx h1
    obtain ⟨v, h4, h5⟩ := (lkD_ok r).2 d h2
    exact .inr ⟨a, v, e1, .inl ⟨xs, kk, f, h3, h4.symm⟩, k v H (Nxt.refl _ _) rs h5⟩
  unfold ixO at e
  split at e
  · rename_i i
    split at e
    · rename_i l hl
      obtain ⟨a, xs, e1, f, r⟩ := seqD_ok rs rx hl
      obtain ⟨v, h1, h2⟩ := atI_ok r e
      rcases f with f | f
      · exact .inl (.inl ⟨a, xs, i, v, e1, ry, f, h1, k v H (Nxt.refl _ _) rs h2⟩)
      · exact .inl (.inr (.inl ⟨a, xs, i, v, e1, ry, f, h1, k v H (Nxt.refl _ _) rs h2⟩))
    · split at e
      · rename_i z hq
        split at e
        · rename_i hz
          obtain ⟨c, h1, h2⟩ := Option.map_eq_some_iff.mp e
          subst h2
          exact .inl (.inr (.inr ⟨z, i, c, rx, ry, sz1m' hz, h1, k _ H (Nxt.refl _ _) rs rfl⟩))
        · cases e
      · split at e
        · rename_i ks hk
          exact dict hk e ry
        · cases e
  · rename_i z
    split at e
    · rename_i ks hk
      exact dict hk e ry
    · cases e
  · cases e
section
variable {X : Cx} {a b c : Expr} {ma mb mc : M Mn.D} {pos : Pos}
theorem pm_ix (hu : X.A.units + 1 < cLine) (ha : PM X a ma) (hb : PM X b mb) (hs : PlainIx b := by exact fun _ _ => rfl) : PM X (.Subscript a b pos) (mOp ixO ma mb) :=
  imp_e (pe_ix (ix_seq.or (ix_dict hu)) ha hb hs) fun _ _ _ h => op_core ix_ref h

/-! ### slices -/
def cutD (l : List Mn.D) (lo hi : Option Int) : List Mn.D := (l.drop (HT.sIx l.length 0 lo)).take (HT.sIx l.length l.length hi - HT.sIx l.length 0 lo)
theorem cutD_ok {K : PySem.W.Frag} {ρ : Rh} {H : Hp} {l : List Mn.D} {xs : List V} (lo hi : Option Int) (r : RVs K ρ H l xs) : RVs K ρ H (cutD l lo hi) (cutV xs lo hi) := by
  unfold cutD cutV
  rw [RVs.length r]
  exact RVs.take _ (RVs.drop _ r)
abbrev MO := M (Option Int)
def tMO (K : PySem.W.Frag) (m : MO) : TO := fun σ H Q => ∃ env st ρ d st', RVo K ρ H env σ ∧ RepSt K ρ st H ∧ m env st = some (d, st') ∧ ∀ H' ρ', Nxt ρ H ρ' H' → RepSt K ρ' st' H' → Q d H'
abbrev PMO (X : Cx) (e : Option Expr) (m : MO) : Prop := PO X e (tMO X.K m)
def mNoP : MO := fun _ st => some (none, st)
def mPart (m : M Mn.D) : MO := fun env st => bnd (m env st) fun x st1 =>
  match x with
  | .int i => some (some i, st1)
  | _ => none
theorem imp_o {e : Option Expr} {t t' : TO} (h : PO X e t) (f : ∀ σ H Q, t' σ H Q → t σ H Q) : PO X e t' := ⟨fun pins s σ H Q I q => h.run pins s σ H Q I (f σ H Q q)⟩
theorem pmo_none : PMO X none mNoP := imp_o po_none fun σ H Q ⟨env, st, ρ, d, st', ro, rs, e, k⟩ => by
  cases e
  exact k H ρ (Nxt.refl _ _) rs
theorem pmo_some (h : PM X a ma) : PMO X (some a) (mPart ma) := imp_o (po_some h) fun σ H Q ⟨env, st, ρ, d, st', ro, rs, e, k⟩ => by
  obtain ⟨x, s1, e1, e⟩ := bnd_inv e
  refine ⟨env, st, ρ, x, s1, ro, rs, e1, fun v H' ρ' n rs' rv => ?_⟩
  cases x with
  | int i => cases e; exact ⟨i, rv, k H' ρ' n rs'⟩
  | _ => cases e
/-- a slice of a list: a new list -/
def mSlL (ma : M Mn.D) (ml mh : MO) : M (List Mn.D) := fun env st => bnd (ma env st) fun x st1 => bnd (ml env st1) fun lo st2 => bnd (mh env st2) fun hi st3 =>
  match x with
  | .tup _ => none
  | x => match seqD x st3 with
    | some l => some (cutD l lo hi, st3)
    | none => none
theorem seqD_list {K : PySem.W.Frag} {ρ : Rh} {H : Hp} {st : Store} {d : Mn.D} {v : V} {l : List Mn.D} (rs : RepSt K ρ st H) (rv : RV K ρ H d v) (e : seqD d st = some l) (h : ∀ l, d ≠ .tup l) : ∃ a xs, v = .ref a ∧ SqL K H a xs ∧ RVs K ρ H l xs := by
  cases d with
  | tup ds => exact absurd rfl (h ds)
  | lst ds => cases e; obtain ⟨a, xs, e1, f, r⟩ := rv; exact ⟨a, xs, e1, SqL.of f.2, r⟩
  | rol ds => cases e; obtain ⟨a, xs, e1, f, r⟩ := rv; exact ⟨a, xs, e1, f.seq, r⟩
  | loc n =>
    unfold seqD at e
    simp only at e
    split at e
    · rename_i l' h
      cases e
      obtain ⟨a, e1, e2, xs, e3, r⟩ := rs.at rv h
      exact ⟨a, xs, e1, SqL.of e3, r⟩
    · cases e
  | _ => cases e
theorem pml_sl {lo hi : Option Expr} {ml mh : MO} {p2 : Pos} (ha : PM X a ma) (hl : PMO X lo ml) (hh : PMO X hi mh) : PML X (.Subscript a (.Slice lo hi none p2) pos) (mSlL ma ml mh) :=
  imp_e (pe_slice sl_list ha hl hh) fun σ H Q ⟨env, st, ρ, d, st', ro, rs, e, k⟩ => by
    obtain ⟨x, s1, e1, e⟩ := bnd_inv e
    obtain ⟨l, s2, e2, e⟩ := bnd_inv e
    obtain ⟨h, s3, e3, e⟩ := bnd_inv e
    refine ⟨env, st, ρ, x, s1, ro, rs, e1, fun vx H1 ρ1 n1 rs1 rx => ⟨env, s1, ρ1, l, s2, ro.nxt n1, rs1, e2, fun H2 ρ2 n2 rs2 => ⟨env, s2, ρ2, h, s3, ro.nxt (n1.trans n2), rs2, e3, fun H3 ρ3 n3 rs3 => ?_⟩⟩⟩
    split at e
    · cases e
    · rename_i hx
      split at e
      · rename_i l' hs
        cases e
        obtain ⟨p, xs, ev, f, r⟩ := seqD_list rs3 (RV.nxt (n2.trans n3) _ _ rx) hs (fun l z => hx l z)
        exact ⟨p, xs, ev, f, fun q hq => k q _ H3 ρ3 (n1.trans (n2.trans n3)) rs3 hq (cutD_ok _ _ r)⟩
      · cases e
/-- of a tuple: a plain tuple, itself if it is the whole -/
def rSlF (K : PySem.W.Frag) : V → Option Int → Option Int → Hp → VK → Prop := fun x lo hi H Q => ∃ a xs, x = .ref a ∧ SqT K H a xs ∧
  (HT.sIx xs.length 0 lo = 0 ∧ HT.sIx xs.length xs.length hi = xs.length → Q (.ref a) H) ∧ (¬ (HT.sIx xs.length 0 lo = 0 ∧ HT.sIx xs.length xs.length hi = xs.length) → ∀ p o, H p = none → o.dict = none → Q (.ref p) (upd H p (.frz o (.tup (cutV xs lo hi)))))
theorem sl_tupF : SlR X (rSlF X.K) := by
  intro pins s σ H x v vl vu lo hi sl Q I rx hs pl pu h
  obtain ⟨a, xs, rfl, hx, q1, q2⟩ := h
  by_cases hw : HT.sIx xs.length 0 lo = 0 ∧ HT.sIx xs.length xs.length hi = xs.length
  · cases rx
    obtain ⟨its, r, ht, hz⟩ := I.tuple hx
    have hlen := r.length
    refine ⟨"tuple", _, PyProof.Rows.slot_tuple_getitem.lookup, ht.typeIs, ?_⟩
    refine getItem_tuple_whole ht hs pl pu ?_ ⟨.ref a, H, I, rfl, q1 hw⟩
    rw [List.size_toArray, ← hlen]
    exact hw
  · cases rx
    obtain ⟨its, r, ht, hz⟩ := I.tuple hx
    have hlen : its.toArray.size = xs.length := by rw [List.size_toArray]; exact r.length.symm
    refine ⟨"tuple", _, PyProof.Rows.slot_tuple_getitem.lookup, ht.typeIs, ?_⟩
    refine HT.getItem_tuple_cut ht hs pl pu (by rw [hlen]; exact hw) ?_ (by rw [hlen]; exact hz)
    rw [hlen]
    refine ⟨.ref s.heap.objs.size, _, I.laid (t' := s.toks) (o := .frz { cls := .type "tuple", data := .seq ((its.toArray.toList.drop (HT.sIx xs.length 0 lo)).take (HT.sIx xs.length xs.length hi - HT.sIx xs.length 0 lo)).toArray } (.tup (cutV xs lo hi))) (fun b ob q => Heap.get?_push_of_some _ q) (Nat.le_refl _) ?_, rfl, q2 hw _ _ (I.hok.fresh (Nat.le_refl _)) rfl⟩
    exact ⟨Heap.get?_push_size _ rfl, Nat.le_trans (cutV_length xs lo hi) hz, _, (r.drop (HT.sIx xs.length 0 lo)).take (HT.sIx xs.length xs.length hi - HT.sIx xs.length 0 lo), IsTup.new _ _⟩
/-- .. -/
def mSlT (ma : M Mn.D) (ml mh : MO) : M Mn.D := fun env st => bnd (ma env st) fun x st1 => bnd (ml env st1) fun lo st2 => bnd (mh env st2) fun hi st3 =>
  match x with
  | .tup l => some (.tup (cutD l lo hi), st3)
  | _ => none
theorem cutV_whole {xs : List V} {lo hi : Option Int} (h : HT.sIx xs.length 0 lo = 0 ∧ HT.sIx xs.length xs.length hi = xs.length) : cutV xs lo hi = xs := by
  unfold cutV
  rw [h.1, h.2, List.drop_zero, Nat.sub_zero, List.take_length]
theorem cutD_whole {xs : List Mn.D} {lo hi : Option Int} (h : HT.sIx xs.length 0 lo = 0 ∧ HT.sIx xs.length xs.length hi = xs.length) : cutD xs lo hi = xs := by
  unfold cutD
  rw [h.1, h.2, List.drop_zero, Nat.sub_zero, List.take_length]
theorem pm_slT {lo hi : Option Expr} {ml mh : MO} {p2 : Pos} (ha : PM X a ma) (hl : PMO X lo ml) (hh : PMO X hi mh) : PM X (.Subscript a (.Slice lo hi none p2) pos) (mSlT ma ml mh) :=
  imp_e (pe_slice sl_tupF ha hl hh) fun σ H Q ⟨env, st, ρ, d, st', ro, rs, e, k⟩ => by
    obtain ⟨x, s1, e1, e⟩ := bnd_inv e
    obtain ⟨l, s2, e2, e⟩ := bnd_inv e
    obtain ⟨h, s3, e3, e⟩ := bnd_inv e
    refine ⟨env, st, ρ, x, s1, ro, rs, e1, fun vx H1 ρ1 n1 rs1 rx => ⟨env, s1, ρ1, l, s2, ro.nxt n1, rs1, e2, fun H2 ρ2 n2 rs2 => ⟨env, s2, ρ2, h, s3, ro.nxt (n1.trans n2), rs2, e3, fun H3 ρ3 n3 rs3 => ?_⟩⟩⟩
    cases x with
    | tup ds =>
      cases e
      obtain ⟨p, xs, ev, f, r⟩ := RV.nxt (n2.trans n3) _ _ rx
      have hl := RVs.length r
      have nn := n1.trans (n2.trans n3)
      refine ⟨p, xs, ev, f.seq, fun hw => ?_, fun hw q o hq ho => ?_⟩
      · rw [hl] at hw
        rw [cutD_whole hw] at k
        exact k _ H3 ρ3 nn rs3 ⟨p, xs, rfl, f, r⟩
      · have n := Nxt.laid (o := .frz o (.tup (cutV xs l h))) rs3 hq
        exact k _ _ ρ3 (nn.trans n) (rs3.laid hq) ⟨q, _, rfl, .inl ⟨rs3.out hq, o, upd_same, ho⟩, RVs.nxt n _ _ (cutD_ok _ _ r)⟩
    | _ => cases e

/-! ### truth -/
def truD (d : Mn.D) (st : Store) : Option Bool :=
  match d with
  | .non => some false
  | .bl b => some b
  | .int i => some (i != 0)
  | .str x => @ite _ (x.length ≤ 16777216) (Classical.propDecidable _) (some ((x.length : Int) != 0)) none
  | .dic ks => some (!ks.isEmpty)
  | .ptl _ => none
  | .dit _ _ => none
  | .dkl _ => none
  | .loc n => match st[n]? with
    | some (.lst l) => some (!l.isEmpty)
    | some (.dic l) => some (!l.isEmpty)
    | _ => none
  | d => (seqD d st).map fun l => !l.isEmpty
def mTr (m : M Mn.D) : M Bool := fun env st => bnd (m env st) fun x st1 => ret1 (truD x st1) st1
theorem tru_dic : TruR X (fun x H Q => ∃ a kvs, x = .ref a ∧ Rd H a (.dK kvs) ∧ Q (!kvs.isEmpty) H) := by
  intro pins s σ H x v Q I rx h
  obtain ⟨a, kvs, rfl, hd, q⟩ := h
  cases rx
  exact d_truth I hd fun s' I' => ⟨H, I', q⟩
theorem RVs.empty {K : PySem.W.Frag} {ρ : Rh} {H : Hp} {l : List Mn.D} {xs : List V} (r : RVs K ρ H l xs) : xs.isEmpty = l.isEmpty := by
  cases l with
  | nil => cases r; rfl
  | cons d l => obtain ⟨v, r, e, _⟩ := r; subst e; rfl
theorem RVk.empty {K : PySem.W.Frag} {ρ : Rh} {H : Hp} {l : List (Key × Mn.D)} {xs : List (Key × V)} (r : RVk K ρ H l xs) : xs.isEmpty = l.isEmpty := by
  cases l with
  | nil => cases r; rfl
  | cons d l => obtain ⟨k, d⟩ := d; obtain ⟨v, r, e, _⟩ := r; subst e; rfl
theorem truD_ok {K : PySem.W.Frag} {ρ : Rh} {H : Hp} {st : Store} {d : Mn.D} {v : V} {b : Bool} (rs : RepSt K ρ st H) (rv : RV K ρ H d v) (e : truD d st = some b) : (TruV K v H b) ∨ ∃ a kvs, v = .ref a ∧ Rd H a (.dK kvs) ∧ b = !kvs.isEmpty := by
  have seq : ∀ l, seqD d st = some l → b = !l.isEmpty → TruV K v H b := fun l h1 h2 => by
    obtain ⟨a, xs, e1, f, r⟩ := seqD_ok rs rv h1
    subst e1
    rw [h2, ← RVs.empty r]
    exact f.elim (fun f => .inl ⟨xs, f, rfl⟩) (fun f => .inr (.inl ⟨xs, f, rfl⟩))
  have dic : ∀ l, dicD d st = some l → b = !l.isEmpty → ∃ a kvs, v = .ref a ∧ Rd H a (.dK kvs) ∧ b = !kvs.isEmpty := fun l h1 h2 => by
    obtain ⟨a, xs, e1, f, r⟩ := dicD_ok rs rv h1
    exact ⟨a, xs, e1, f, by rw [h2, RVk.empty r]⟩
  cases d with
  | non => cases e; cases rv; exact .inl rfl
  | bl b => cases e; cases rv; exact .inl rfl
  | int i => cases e; cases rv; exact .inl rfl
  | str x =>
    cases rv
    unfold truD at e
    simp only at e
    split at e
    · rename_i h
      cases e
      exact .inl ⟨sz1m' h, rfl⟩
    · cases e
  | tup l => cases e; exact .inl (seq l rfl rfl)
  | lst l => cases e; exact .inl (seq l rfl rfl)
  | rol l => cases e; exact .inl (seq l rfl rfl)
  | dic l => cases e; exact .inr (dic l rfl rfl)
  | ptl l => cases e
  | dit w l => cases e
  | dkl l => cases e
  | loc n =>
    unfold truD at e
    simp only at e
    split at e
    · rename_i l h
      cases e
      exact .inl (seq l (by unfold seqD; simp only [h]) rfl)
    · rename_i l h
      cases e
      exact .inr (dic l (by unfold dicD; simp only [h]) rfl)
    · cases e
theorem pmt_tr (ha : PM X a ma) (he : ∀ whole, isTrue a X.env whole = (do let v ← whole; standAt a.pos; holding [v] (truthy v)) := by intro _; rfl) : PMT X a (mTr ma) := by
  have h : PT X a (fun σ H Q => tM X.K ma σ H fun x H' => (∃ k, TruV X.K x H' k ∧ Q k H') ∨ ∃ a kvs, x = .ref a ∧ Rd H' a (.dK kvs) ∧ Q (!kvs.isEmpty) H') := by
    refine ⟨fun pins s σ H Q I h => ?_⟩
    refine isTrue_plain (thn (ha.run pins s σ H _ I h) fun v s1 ⟨x, H1, I1, r1, q1⟩ => ?_) (he _)
    rcases q1 with q1 | q1
    · exact tru_ok pins s1 σ H1 x v Q I1 r1 q1
    · exact tru_dic pins s1 σ H1 x v Q I1 r1 q1
  refine imp_t h fun σ H Q ⟨env, st, ρ, d, st', ro, rs, e, k⟩ => ?_
  obtain ⟨x, s1, e1, e⟩ := bnd_inv e
  obtain ⟨e2, e3⟩ := ret1_inv e
  cases e3
  refine ⟨env, st, ρ, x, _, ro, rs, e1, fun v H' ρ' n rs' rv => ?_⟩
  rcases truD_ok rs' rv e2 with h | ⟨a, kvs, h1, h2, h3⟩
  · exact .inl ⟨_, h, k H' ρ' n rs'⟩
  · exact .inr ⟨a, kvs, h1, h2, by rw [← h3]; exact k H' ρ' n rs'⟩

/-! ### in -/
def flatD : Mn.D → Bool
  | .non => true
  | .bl _ => true
  | .int _ => true
  | .str _ => true
  | _ => false
def eqF : Mn.D → Mn.D → Bool
  | .non, .non => true
  | .bl a, .bl b => a == b
  | .bl a, .int b => (if a then 1 else 0) == b
  | .int a, .bl b => a == (if b then 1 else 0)
  | .int a, .int b => a == b
  | .str a, .str b => a == b
  | _, _ => false
def inD (x : Mn.D) (l : List Mn.D) : Bool := l.any fun y => eqF y x
section
variable {K : PySem.W.Frag} {ρ : Rh} {H : Hp}
theorem flat_ok {d : Mn.D} {v : V} (r : RV K ρ H d v) (h : flatD d = true) : flatV v = true := by
  cases d <;> first
    | (cases r; rfl)
    | cases h
theorem eqF_ok {d e : Mn.D} {v u : V} (r : RV K ρ H d v) (q : RV K ρ H e u) (h : flatD d = true) (h2 : flatD e = true) : eqV v u = eqF d e := by
  cases d <;> cases e <;> first
    | (cases h; done)
    | (cases h2; done)
    | (cases r; cases q; rfl)
theorem inD_ok {d : Mn.D} {v : V} (r : RV K ρ H d v) (h : flatD d = true) : ∀ {l : List Mn.D} {xs : List V}, RVs K ρ H l xs → l.all flatD = true → xs.all flatV = true ∧ inV v xs = inD d l
  | [], _, q, _ => by subst q; exact ⟨rfl, rfl⟩
  | e :: l, _, ⟨u, t, eu, q, rest⟩, f => by
    subst eu
    simp only [List.all_cons, Bool.and_eq_true] at f
    obtain ⟨h1, h2⟩ := inD_ok r h rest f.2
    refine ⟨by simp only [List.all_cons, Bool.and_eq_true]; exact ⟨flat_ok q f.1, h1⟩, ?_⟩
    show (eqV u v || t.any fun y => eqV y v) = (eqF e d || l.any fun y => eqF y d)
    rw [eqF_ok q r f.1 h]
    exact congrArg _ h2
end
def inO (x y : Mn.D) (st : Store) : Option Bool :=
  match y with
  | .str z => match x with
    | .str c => if c.cps.size = 1 then some (decide (c.cps.getD 0 0 ∈ z.cps.toList)) else none
    | _ => none
  | y => match seqD y st with
    | some l => if flatD x = true ∧ l.all flatD = true then some (inD x l) else none
    | none => match dicD y st, keyD x with
      | some ks, some k => some (lkD ks k).isSome
      | _, _ => none
def oIn : O2 := fun x y st => match inO x y st with
  | some b => some (.bl b)
  | none => none
def oNotIn : O2 := fun x y st => match inO x y st with
  | some b => some (.bl (!b))
  | none => none
def rInA (K : PySem.W.Frag) (neg : Bool) : R2 := fun x y H Q => (∃ (c : Nat) (z : Str), x = .str ⟨#[c]⟩ ∧ y = .str z ∧ Q (.bl (if neg then !decide (c ∈ z.cps.toList) else decide (c ∈ z.cps.toList))) H) ∨ rIn K neg x y H Q ∨ ∃ a o, y = .ref a ∧ DGet H a x o ∧ Q (.bl (if neg then !o.isSome else o.isSome)) H
theorem op_inA (hu : X.A.units + 1 < cLine) : OpR X (compareOp .In) (rInA X.K false) :=
  op_in_sign.or (op_in_seq.or fun pins s σ H x y v u Q I rx ry h => by
    obtain ⟨a, o, rfl, g, q⟩ := h
    cases ry
    exact d_in hu I g rx fun s' I' => ⟨.bl o.isSome, H, I', rfl, q⟩)
theorem op_notInA (hu : X.A.units + 1 < cLine) : OpR X (compareOp .NotIn) (rInA X.K true) :=
  op_notIn_sign.or (op_notIn_seq.or fun pins s σ H x y v u Q I rx ry h => by
    obtain ⟨a, o, rfl, g, q⟩ := h
    cases ry
    exact d_notIn hu I g rx fun s' I' => ⟨.bl (!o.isSome), H, I', rfl, q⟩)
theorem inO_ok {K : PySem.W.Frag} {ρ : Rh} {H : Hp} {st : Store} {dx dy : Mn.D} {x y : V} {b neg : Bool} {Q : VK} (rs : RepSt K ρ st H) (rx : RV K ρ H dx x) (ry : RV K ρ H dy y) (e : inO dx dy st = some b) (q : Q (.bl (if neg then !b else b)) H) : rInA K neg x y H Q := by
  unfold inO at e
  split at e
  · rename_i z
    split at e
    · rename_i c
      split at e
      · rename_i hc
        cases e
        refine .inl ⟨c.cps.getD 0 0, z, ?_, ry, q⟩
        have ec : c = ⟨#[c.cps.getD 0 0]⟩ := by
          obtain ⟨cps⟩ := c
          have hc : cps.size = 1 := hc
          congr 1
          apply Array.ext
          · simp [hc]
          · intro i h1 h2
            have : i = 0 := by simp at h2; omega
            subst this
            simp [Array.getD, hc]
        rw [ec] at rx
        exact rx
      · cases e
    · cases e
  · rename_i hns
    split at e
    · rename_i l hl
      split at e
      · rename_i hf
        cases e
        obtain ⟨a, xs, e1, f, r⟩ := seqD_ok rs ry hl
        obtain ⟨h1, h2⟩ := inD_ok rx hf.1 r hf.2
        exact .inr (.inl ⟨a, xs, e1, f, flat_ok rx hf.1, h1, by rw [h2]; exact q⟩)
      · cases e
    · split at e
      · rename_i ks k h1 h2
        cases e
        obtain ⟨a, xs, e1, f, r⟩ := dicD_ok rs ry h1
        refine .inr (.inr ⟨a, valV xs k, e1, .inl ⟨xs, k, f, keyD_ok rx h2, rfl⟩, ?_⟩)
        rw [← (lkD_ok r).1]
        exact q
      · cases e
theorem o_in (hu : X.A.units + 1 < cLine) : OpR X (compareOp .In) (rInA X.K false) ∧ RefO X.K (rInA X.K false) oIn := ⟨op_inA hu, fun ρ st H dx dy d x y Q rs rx ry e k => by
  unfold oIn at e
  split at e
  · rename_i b hb
    cases e
    exact inO_ok (neg := false) rs rx ry hb (k _ H (Nxt.refl _ _) rs rfl)
  · cases e⟩
theorem o_notin (hu : X.A.units + 1 < cLine) : OpR X (compareOp .NotIn) (rInA X.K true) ∧ RefO X.K (rInA X.K true) oNotIn := ⟨op_notInA hu, fun ρ st H dx dy d x y Q rs rx ry e k => by
  unfold oNotIn at e
  split at e
  · rename_i b hb
    cases e
    exact inO_ok (neg := true) rs rx ry hb (k _ H (Nxt.refl _ _) rs rfl)
  · cases e⟩
end
end
end Mn
end
section
set_option Elab.async false
set_option autoImplicit false
set_option linter.all false
set_option maxRecDepth 100000
set_option maxHeartbeats 2000000
/-! The mini layer, 7: built-in functions and classes by name, methods, stores. -/
namespace Mn
noncomputable section
open PySem PySem.Spec PyProof.Rows L2

/-! ### built-ins by values -/
abbrev OC := List Mn.D → Store → Option Mn.D
def RefC (K : PySem.W.Frag) (r : List V → Hp → VK → Prop) (f : OC) : Prop := ∀ (ρ : Rh) (st : Store) (H : Hp) (ds : List Mn.D) (d : Mn.D) (vs : List V) (Q : VK), RepSt K ρ st H → RVs K ρ H ds vs → f ds st = some d →
  (∀ v H', Nxt ρ H ρ H' → RepSt K ρ st H' → RV K ρ H' d v → Q v H') → r vs H Q
def mCB (f : OC) (ms : M (List Mn.D)) : M Mn.D := fun env st => bnd (ms env st) fun xs st1 => ret1 (f xs st1) st1
theorem cb_core {K : PySem.W.Frag} {r : List V → Hp → VK → Prop} {f : OC} (hf : RefC K r f) {ms : M (List Mn.D)} {σ : L2.St} {H : Hp} {Q : VK} (h : tM K (mCB f ms) σ H Q) : tCB r (tMA K ms) σ H Q := by
  obtain ⟨env, st, ρ, d, st', ro, rs, e, k⟩ := h
  obtain ⟨xs, s1, e1, e⟩ := bnd_inv e
  obtain ⟨e2, e3⟩ := ret1_inv e
  cases e3
  exact ⟨env, st, ρ, xs, _, ro, rs, e1, fun vs H' ρ' n rs' rv => hf ρ' _ H' xs d vs Q rs' rv e2 fun v H2 n2 rs2 rv2 => k v H2 ρ' (n.trans n2) rs2 rv2⟩
/-- a new list out of values -/
abbrev OL := List Mn.D → Store → Option (List Mn.D)
def RefCL (K : PySem.W.Frag) (r : List V → Hp → VK → Prop) (f : OL) : Prop := ∀ (ρ : Rh) (st : Store) (H : Hp) (ds d : List Mn.D) (vs : List V) (Q : VK), RepSt K ρ st H → RVs K ρ H ds vs → f ds st = some d →
  (∀ p us, H p = none → RVs K ρ H d us → Q (.ref p) (upd H p (.lst us))) → r vs H Q
def mCBL (f : OL) (ms : M (List Mn.D)) : M (List Mn.D) := fun env st => bnd (ms env st) fun xs st1 => ret1 (f xs st1) st1
theorem cbl_core {K : PySem.W.Frag} {r : List V → Hp → VK → Prop} {f : OL} (hf : RefCL K r f) {ms : M (List Mn.D)} {σ : L2.St} {H : Hp} {Q : VK} (h : tML K (mCBL f ms) σ H Q) : tCB r (tMA K ms) σ H Q := by
  obtain ⟨env, st, ρ, d, st', ro, rs, e, k⟩ := h
  obtain ⟨xs, s1, e1, e⟩ := bnd_inv e
  obtain ⟨e2, e3⟩ := ret1_inv e
  cases e3
  exact ⟨env, st, ρ, xs, _, ro, rs, e1, fun vs H' ρ' n rs' rv => hf ρ' _ H' xs d vs Q rs' rv e2 fun p us hp ru => k p us H' ρ' n rs' hp ru⟩
section
variable {X : Cx} {e : Expr} {es : List Expr} {ms : M (List Mn.D)} {pos p : Pos} {x : Str} {id T : String} {r : List V → Hp → VK → Prop}
theorem pm_callB {f : OC} (hc : CallR X (.builtin id) r ∧ RefC X.K r f) (hm : X.mg x = none) (hv : bootBuiltins x = some (.builtin id)) (ha : PMA X (e :: es) ms) (hg : Gl X x := by rfl) (hn : x ≠ "__name__" := by decide) (hdb : (x == ("__debug__" : Str)) = false := by decide)
    (he : starEach (e :: es) X.env = (false, eval e X.env) :: starEach es X.env := by rfl) (hpl : (backTo pos (starEach es X.env)).any (·.1) = false := by rfl) : PM X (.Call (.Name x p) (e :: es) [] pos) (mCB f ms) :=
  imp_e (pe_callB hc.1 hg hm hv ha hn hdb he hpl) fun _ _ _ h => cb_core hc.2 h
theorem pm_callTy {f : OC} (hc : CallR X (.type T) r ∧ RefC X.K r f) (hm : X.mg x = none) (hv : bootBuiltins x = some (.type T)) (ha : PMA X (e :: es) ms) (hg : Gl X x := by rfl) (hn : x ≠ "__name__" := by decide) (hdb : (x == ("__debug__" : Str)) = false := by decide)
    (he : starEach (e :: es) X.env = (false, eval e X.env) :: starEach es X.env := by rfl) (hpl : (backTo pos (starEach es X.env)).any (·.1) = false := by rfl) : PM X (.Call (.Name x p) (e :: es) [] pos) (mCB f ms) :=
  imp_e (pe_callTy hc.1 hg hm hv ha hn hdb he hpl) fun _ _ _ h => cb_core hc.2 h
theorem pml_callTy {f : OL} (hc : CallR X (.type T) r ∧ RefCL X.K r f) (hm : X.mg x = none) (hv : bootBuiltins x = some (.type T)) (ha : PMA X (e :: es) ms) (hg : Gl X x := by rfl) (hn : x ≠ "__name__" := by decide) (hdb : (x == ("__debug__" : Str)) = false := by decide)
    (he : starEach (e :: es) X.env = (false, eval e X.env) :: starEach es X.env := by rfl) (hpl : (backTo pos (starEach es X.env)).any (·.1) = false := by rfl) : PML X (.Call (.Name x p) (e :: es) [] pos) (mCBL f ms) :=
  imp_e (pe_callTy hc.1 hg hm hv ha hn hdb he hpl) fun _ _ _ h => cbl_core hc.2 h
theorem pml_callB {f : OL} (hc : CallR X (.builtin id) r ∧ RefCL X.K r f) (hm : X.mg x = none) (hv : bootBuiltins x = some (.builtin id)) (ha : PMA X (e :: es) ms) (hg : Gl X x := by rfl) (hn : x ≠ "__name__" := by decide) (hdb : (x == ("__debug__" : Str)) = false := by decide)
    (he : starEach (e :: es) X.env = (false, eval e X.env) :: starEach es X.env := by rfl) (hpl : (backTo pos (starEach es X.env)).any (·.1) = false := by rfl) : PML X (.Call (.Name x p) (e :: es) [] pos) (mCBL f ms) :=
  imp_e (pe_callB hc.1 hg hm hv ha hn hdb he hpl) fun _ _ _ h => cbl_core hc.2 h
end
theorem CallR.imp {X : Cx} {f : Value} {r r' : List V → Hp → VK → Prop} (h : CallR X f r) (i : ∀ vs H Q, r' vs H Q → r vs H Q) : CallR X f r' := fun pins s σ H xs us Q I rv q => h pins s σ H xs us Q I rv (i xs H Q q)
section
variable {X : Cx}
/-! ### len, abs, int, bool, sum, all, any, max, min -/
def cLen : OC := fun xs st =>
  match xs with
  | [x] => match seqD x st with
    | some l => some (.int l.length)
    | none => match x with
      | .str z => @ite _ (z.length ≤ 16777216) (Classical.propDecidable _) (some (.int z.length)) none
      | _ => match dicD x st with
        | some l => some (.int l.length)
        | none => none
  | _ => none
def rLenA (K : PySem.W.Frag) : List V → Hp → VK → Prop := fun xs H Q => (∃ x n, xs = [x] ∧ LenV K x H n ∧ Q (.int n) H) ∨ ∃ a kvs, xs = [.ref a] ∧ Rd H a (.dK kvs) ∧ Q (.int kvs.length) H
theorem c_len : CallR X (.builtin "len") (rLenA X.K) ∧ RefC X.K (rLenA X.K) cLen := by
  refine ⟨CallR.or call_len fun pins s σ H xs us Q I r h => ?_, fun ρ st H ds d vs Q rs rv e k => ?_⟩
  · obtain ⟨a, kvs, rfl, hd, q⟩ := h
    rw [Vals.ref1 r]
    exact d_len I hd fun t s' I' => ⟨.int _, H, I', ⟨_, rfl⟩, q⟩
  · unfold cLen at e
    split at e
    · rename_i x
      obtain ⟨v, r, rfl, rx, rfl⟩ := rv
      split at e
      · rename_i l hl
        cases e
        obtain ⟨a, xs, e1, f, r⟩ := seqD_ok rs rx hl
        subst e1
        rw [← RVs.length r] at k
        exact .inl ⟨_, _, rfl, f.elim (fun f => .inl ⟨xs, f, rfl⟩) (fun f => .inr ⟨xs, f, rfl⟩), k _ H (Nxt.refl _ _) rs rfl⟩
      · split at e
        · rename_i z hz
          split at e
          · rename_i h
            cases e; cases rx
            exact .inl ⟨_, _, rfl, ⟨sz1m' h, rfl⟩, k _ H (Nxt.refl _ _) rs rfl⟩
          · cases e
        · split at e
          · rename_i l hl
            cases e
            obtain ⟨a, xs, e1, f, r⟩ := dicD_ok rs rx hl
            subst e1
            rw [← RVk.length r] at k
            exact .inr ⟨a, xs, rfl, f, k _ H (Nxt.refl _ _) rs rfl⟩
          · cases e
    · cases e
def cInt1 (f : Int → Int) : OC := fun xs _ =>
  match xs with
  | [.int i] => some (.int (f i))
  | _ => none
def fAbs (i : Int) : Int := if i < 0 then -i else i
theorem c_abs : CallR X (.builtin "abs") (fun xs H Q => ∃ i, xs = [.int i] ∧ Q (.int (if i < 0 then -i else i)) H) ∧ RefC X.K (fun xs H Q => ∃ i, xs = [.int i] ∧ Q (.int (if i < 0 then -i else i)) H) (cInt1 fAbs) := ⟨call_abs, fun ρ st H ds d vs Q rs rv e k => by
  unfold cInt1 at e
  split at e
  · rename_i i
    cases e
    obtain ⟨v, r, rfl, rfl, rfl⟩ := rv
    exact ⟨i, rfl, k _ H (Nxt.refl _ _) rs rfl⟩
  · cases e⟩
def cInt : OC := fun xs _ =>
  match xs with
  | [.int i] => some (.int i)
  | [.bl b] => some (.int (if b then 1 else 0))
  | _ => none
theorem c_int : CallR X (.type "int") (fun xs H Q => (∃ i, xs = [.int i] ∧ Q (.int i) H) ∨ ∃ k, xs = [.bl k] ∧ Q (.int (if k then 1 else 0)) H) ∧ RefC X.K (fun xs H Q => (∃ i, xs = [.int i] ∧ Q (.int i) H) ∨ ∃ k, xs = [.bl k] ∧ Q (.int (if k then 1 else 0)) H) cInt := ⟨call_int1, fun ρ st H ds d vs Q rs rv e k => by
  unfold cInt at e
  split at e
  · rename_i i
    cases e
    obtain ⟨v, r, rfl, rfl, rfl⟩ := rv
    exact .inl ⟨i, rfl, k _ H (Nxt.refl _ _) rs rfl⟩
  · rename_i i
    cases e
    obtain ⟨v, r, rfl, rfl, rfl⟩ := rv
    exact .inr ⟨i, rfl, k _ H (Nxt.refl _ _) rs rfl⟩
  · cases e⟩
def cInt2 (f : Int → Int → Int) : OC := fun xs _ =>
  match xs with
  | [.int i, .int j] => some (.int (f i j))
  | _ => none
def fMax (i j : Int) : Int := if j > i then j else i
def fMin (i j : Int) : Int := if j < i then j else i
theorem c_max2 (hc : X.calm = true) : CallR X (.builtin "max") (fun xs H Q => ∃ i j, xs = [.int i, .int j] ∧ Q (.int (if j > i then j else i)) H) ∧ RefC X.K (fun xs H Q => ∃ i j, xs = [.int i, .int j] ∧ Q (.int (if j > i then j else i)) H) (cInt2 fMax) := ⟨call_max2 hc, fun ρ st H ds d vs Q rs rv e k => by
  unfold cInt2 at e
  split at e
  · rename_i i j
    cases e
    obtain ⟨v, r, rfl, rfl, v2, r2, rfl, rfl, rfl⟩ := rv
    exact ⟨i, j, rfl, k _ H (Nxt.refl _ _) rs rfl⟩
  · cases e⟩
theorem c_min2 (hc : X.calm = true) : CallR X (.builtin "min") (fun xs H Q => ∃ i j, xs = [.int i, .int j] ∧ Q (.int (if j < i then j else i)) H) ∧ RefC X.K (fun xs H Q => ∃ i j, xs = [.int i, .int j] ∧ Q (.int (if j < i then j else i)) H) (cInt2 fMin) := ⟨call_min2 hc, fun ρ st H ds d vs Q rs rv e k => by
  unfold cInt2 at e
  split at e
  · rename_i i j
    cases e
    obtain ⟨v, r, rfl, rfl, v2, r2, rfl, rfl, rfl⟩ := rv
    exact ⟨i, j, rfl, k _ H (Nxt.refl _ _) rs rfl⟩
  · cases e⟩
/-- lists of bools, of ints -/
def blsD : List Mn.D → Option (List Bool)
  | [] => some []
  | .bl b :: r => match blsD r with
    | some l => some (b :: l)
    | none => none
  | _ => none
def intsD : List Mn.D → Option (List Int)
  | [] => some []
  | .int b :: r => match intsD r with
    | some l => some (b :: l)
    | none => none
  | _ => none
theorem blsD_ok {K : PySem.W.Frag} {ρ : Rh} {H : Hp} : ∀ {ds : List Mn.D} {bs : List Bool} {vs : List V}, blsD ds = some bs → RVs K ρ H ds vs → vs = bs.map V.bl
  | [], _, _, e, r => by cases e; exact r
  | d :: ds, bs, vs, e, ⟨v, t, ev, h, r⟩ => by
    unfold blsD at e
    split at e
    · cases e; exact absurd ‹_› (by simp)
    · rename_i b r' heq
      cases heq
      split at e
      · rename_i l hl
        cases e
        subst ev
        rw [blsD_ok hl r]
        cases h
        rfl
      · cases e
    · cases e
theorem intsD_ok {K : PySem.W.Frag} {ρ : Rh} {H : Hp} : ∀ {ds : List Mn.D} {bs : List Int} {vs : List V}, intsD ds = some bs → RVs K ρ H ds vs → vs = bs.map V.int
  | [], _, _, e, r => by cases e; exact r
  | d :: ds, bs, vs, e, ⟨v, t, ev, h, r⟩ => by
    unfold intsD at e
    split at e
    · cases e; exact absurd ‹_› (by simp)
    · rename_i b r' heq
      cases heq
      split at e
      · rename_i l hl
        cases e
        subst ev
        rw [intsD_ok hl r]
        cases h
        rfl
      · cases e
    · cases e
def listD (d : Mn.D) (st : Store) : Option (List Mn.D) :=
  match d with
  | .tup _ => none
  | d => seqD d st
theorem listD_ok {K : PySem.W.Frag} {ρ : Rh} {H : Hp} {st : Store} {d : Mn.D} {v : V} {l : List Mn.D} (rs : RepSt K ρ st H) (rv : RV K ρ H d v) (e : listD d st = some l) : ∃ a xs, v = .ref a ∧ SqL K H a xs ∧ RVs K ρ H l xs := by
  cases d with
  | tup _ => cases e
  | _ => exact seqD_list rs rv e (fun l z => by cases z)
def cBls (f : List Bool → Mn.D) : OC := fun xs st =>
  match xs with
  | [x] => match listD x st with
    | some l => match blsD l with
      | some bs => some (f bs)
      | none => none
    | none => none
  | _ => none
def cInts (f : List Int → Mn.D) : OC := fun xs st =>
  match xs with
  | [x] => match listD x st with
    | some l => match intsD l with
      | some bs => some (f bs)
      | none => none
    | none => none
  | _ => none
def fAll (bs : List Bool) : Mn.D := .bl (bs.all id)
def fAny (bs : List Bool) : Mn.D := .bl (bs.any id)
def fSum (ns : List Int) : Mn.D := .int ns.sum
theorem cBls_inv {K : PySem.W.Frag} {ρ : Rh} {st : Store} {H : Hp} {ds : List Mn.D} {d : Mn.D} {vs : List V} {f : List Bool → Mn.D} (rs : RepSt K ρ st H) (rv : RVs K ρ H ds vs) (e : cBls f ds st = some d) : ∃ (a : Addr) (bs : List Bool), vs = [V.ref a] ∧ SqL K H a (bs.map V.bl) ∧ d = f bs := by
  unfold cBls at e
  split at e
  · rename_i x
    obtain ⟨v, r, rfl, rx, rfl⟩ := rv
    split at e
    · rename_i l hl
      split at e
      · rename_i bs hb
        cases e
        obtain ⟨a, xs, e1, f, r⟩ := listD_ok rs rx hl
        subst e1
        rw [blsD_ok hb r] at f
        exact ⟨a, bs, rfl, f, rfl⟩
      · cases e
    · cases e
  · cases e
theorem cInts_inv {K : PySem.W.Frag} {ρ : Rh} {st : Store} {H : Hp} {ds : List Mn.D} {d : Mn.D} {vs : List V} {f : List Int → Mn.D} (rs : RepSt K ρ st H) (rv : RVs K ρ H ds vs) (e : cInts f ds st = some d) : ∃ (a : Addr) (bs : List Int), vs = [V.ref a] ∧ SqL K H a (bs.map V.int) ∧ d = f bs := by
  unfold cInts at e
  split at e
  · rename_i x
    obtain ⟨v, r, rfl, rx, rfl⟩ := rv
    split at e
    · rename_i l hl
      split at e
      · rename_i bs hb
        cases e
        obtain ⟨a, xs, e1, f, r⟩ := listD_ok rs rx hl
        subst e1
        rw [intsD_ok hb r] at f
        exact ⟨a, bs, rfl, f, rfl⟩
      · cases e
    · cases e
  · cases e
theorem c_all (hc : X.calm = true) : CallR X (.builtin "all") (rAll X.K) ∧ RefC X.K (rAll X.K) (cBls fAll) := ⟨cr_all hc, fun ρ st H ds d vs Q rs rv e k => by
  obtain ⟨a, bs, h1, h2, rfl⟩ := cBls_inv rs rv e
  exact ⟨a, bs, h1, h2, k _ H (Nxt.refl _ _) rs rfl⟩⟩
theorem c_any (hc : X.calm = true) : CallR X (.builtin "any") (rAny X.K) ∧ RefC X.K (rAny X.K) (cBls fAny) := ⟨cr_any hc, fun ρ st H ds d vs Q rs rv e k => by
  obtain ⟨a, bs, h1, h2, rfl⟩ := cBls_inv rs rv e
  exact ⟨a, bs, h1, h2, k _ H (Nxt.refl _ _) rs rfl⟩⟩
theorem c_sum (hc : X.calm = true) : CallR X (.builtin "sum") (rSum X.K) ∧ RefC X.K (rSum X.K) (cInts fSum) := ⟨cr_sum hc, fun ρ st H ds d vs Q rs rv e k => by
  obtain ⟨a, bs, h1, h2, rfl⟩ := cInts_inv rs rv e
  exact ⟨a, bs, h1, h2, k _ H (Nxt.refl _ _) rs rfl⟩⟩

/-! ### tuple(x), list(x) -/
def rTupF (K : PySem.W.Frag) : List V → Hp → VK → Prop := fun xs H Q => ∃ p ys, xs = [.ref p] ∧ ((SqL K H p ys ∧ ∀ l o, H l = none → o.dict = none → Q (.ref l) (upd H l (.frz o (.tup ys)))) ∨ (SqT K H p ys ∧ Q (.ref p) H))
theorem call_tupF : CallR X (.type "tuple") (rTupF X.K) := by
  intro pins s σ H xs us Q I r h
  obtain ⟨p, ys, rfl, h⟩ := h
  obtain ⟨u, rfl, rx⟩ := vals1 r
  cases rx
  rcases h with ⟨hq, q⟩ | ⟨hq, q⟩
  · obtain ⟨its, r', pl, hz⟩ := I.list hq
    have hlen := r'.length
    refine call_tuple_list pl.isList (fun h' kp => ?_) (by simp only [List.size_toArray] <;> omega)
    have I1 : Inv X pins σ H { s with heap := h' } := I.kept (t' := s.toks) kp
    have I2 : Inv X pins σ (upd H h'.objs.size (.frz { cls := .type "tuple", data := .seq its.toArray } (.tup ys))) { s with heap := h'.push { cls := .type "tuple", data := .seq its.toArray } } :=
      I1.laid (t' := s.toks) (fun b o e => Heap.get?_push_of_some _ e) (Nat.le_refl _) (show ObjOk X.prog X.w _ _ _ (.frz { cls := .type "tuple", data := .seq its.toArray } (.tup ys)) from ⟨Heap.get?_push_size _ rfl, hz, its, r', IsTup.new _ _⟩)
    exact ⟨.ref h'.objs.size, _, I2, rfl, q _ _ (I1.hok.fresh (Nat.le_refl _)) rfl⟩
  · obtain ⟨its, r', pl, hz⟩ := I.tuple hq
    exact call_tuple_same pl ⟨.ref p, H, I, rfl, q⟩
def cTup : OC := fun xs st =>
  match xs with
  | [x] => match seqD x st with
    | some l => some (.tup l)
    | none => none
  | _ => none
theorem c_tup : CallR X (.type "tuple") (rTupF X.K) ∧ RefC X.K (rTupF X.K) cTup := ⟨call_tupF, fun ρ st H ds d vs Q rs rv e k => by
  unfold cTup at e
  split at e
  · rename_i x
    obtain ⟨v, r, rfl, rx, rfl⟩ := rv
    cases x with
    | tup l =>
      cases e
      obtain ⟨a, xs, e1, f, r⟩ := rx
      subst e1
      exact ⟨a, xs, rfl, .inr ⟨f.seq, k _ H (Nxt.refl _ _) rs ⟨a, xs, rfl, f, r⟩⟩⟩
    | _ =>
      split at e
      · rename_i l hl
        cases e
        obtain ⟨a, xs, e1, f, r⟩ := seqD_list rs rx hl (fun l z => by cases z)
        subst e1
        refine ⟨a, xs, rfl, .inl ⟨f, fun p o hp ho => ?_⟩⟩
        have n := Nxt.laid (o := .frz o (.tup xs)) rs hp
        exact k _ _ n (rs.laid hp) ⟨p, xs, rfl, .inl ⟨rs.out hp, o, upd_same, ho⟩, RVs.nxt n _ _ r⟩
      · cases e
  · cases e⟩
def cList : OL := fun xs st =>
  match xs with
  | [x] => seqD x st
  | _ => none
theorem c_list : CallR X (.type "list") (fun xs H Q => ∃ p ys, xs = [.ref p] ∧ (SqL X.K H p ys ∨ SqT X.K H p ys) ∧ ∀ l, H l = none → Q (.ref l) (upd H l (.lst ys))) ∧
    RefCL X.K (fun xs H Q => ∃ p ys, xs = [.ref p] ∧ (SqL X.K H p ys ∨ SqT X.K H p ys) ∧ ∀ l, H l = none → Q (.ref l) (upd H l (.lst ys))) cList := ⟨call_list_of, fun ρ st H ds d vs Q rs rv e k => by
  unfold cList at e
  split at e
  · rename_i x
    obtain ⟨v, r, rfl, rx, rfl⟩ := rv
    obtain ⟨a, xs, e1, f, r⟩ := seqD_ok rs rx e
    subst e1
    exact ⟨a, xs, rfl, f, fun p hp => k p xs hp r⟩
  · cases e⟩

/-! ### isinstance -/
def tyD (d : Mn.D) (st : Store) : Option String :=
  match d with
  | .non => some "NoneType"
  | .bl _ => some "bool"
  | .int _ => some "int"
  | .str _ => some "str"
  | .tup _ => some "tuple"
  | .lst _ => some "list"
  | .rol _ => none
  | .dic _ => some "dict"
  | .ptl _ => none
  | .dit _ _ => none
  | .dkl _ => none
  | .loc n => match st[n]? with
    | some (.lst _) => some "list"
    | some (.dic _) => some "dict"
    | _ => none
theorem tyD_ok {K : PySem.W.Frag} {ρ : Rh} {H : Hp} {st : Store} {d : Mn.D} {v : V} {t : String} (rs : RepSt K ρ st H) (rv : RV K ρ H d v) (e : tyD d st = some t) : TyX K H v (.type t) := by
  cases d with
  | non => cases e; cases rv; exact .base .non
  | bl b => cases e; cases rv; exact .base (.bl b)
  | int i => cases e; cases rv; exact .base (.int i)
  | str x => cases e; cases rv; exact .base (.str x)
  | tup l =>
    cases e
    obtain ⟨a, xs, e1, f, r⟩ := rv
    subst e1
    rcases f with ⟨_, o, h, _⟩ | ⟨_, h⟩
    · exact .fTuple h
    · rcases h (fun _ => none) with h | ⟨o, its, n, h1, h2, _⟩
      · rcases h with h | ⟨_, h⟩ <;> cases h
      · exact .kTuple h1 h2
  | lst l => cases e; obtain ⟨a, xs, e1, f, r⟩ := rv; subst e1; exact .base (.lst f.2)
  | rol l => cases e
  | dic l =>
    cases e
    obtain ⟨a, xs, e1, f, r⟩ := rv
    subst e1
    exact .base (.dK f.2)
  | ptl l => cases e
  | dit w l => cases e
  | dkl l => cases e
  | loc n =>
    unfold tyD at e
    simp only at e
    split at e
    · rename_i l h
      cases e
      obtain ⟨a, e1, e2, xs, e3, r⟩ := rs.at rv h
      subst e1
      exact .base (.lst e3)
    · rename_i l h
      cases e
      obtain ⟨a, e1, e2, xs, e3, r⟩ := rs.at rv h
      subst e1
      exact .base (.dK e3)
    · cases e
def isiL (t : String) : List String → Option Bool
  | [] => some false
  | c :: cs => match kitB t c with
    | some true => some true
    | some false => isiL t cs
    | none => none
theorem isiL_ok {K : PySem.W.Frag} {t : String} : ∀ {cs : List String} {b : Bool}, isiL t cs = some b → PySem.W.kitAny K (.type t) (cs.map Value.type) = some b
  | [], b, e => by cases e; exact kitAny_nil
  | c :: cs, b, e => by
    unfold isiL at e
    split at e
    · rename_i h
      cases e
      exact kitAny_cons (kit_ty h) (fun z => by cases z) fun _ => rfl
    · rename_i h
      exact kitAny_cons (kit_ty h) (fun _ => isiL_ok e) fun z => by cases z
    · cases e
/-- isinstance(x, c) | isinstance(x, (c, ..)) -/
def mIsi (cs : List String) (m : M Mn.D) : M Mn.D := fun env st => bnd (m env st) fun x st1 =>
  match tyD x st1 with
  | some t => match isiL t cs with
    | some b => some (.bl b, st1)
    | none => none
  | none => none
variable {a : Expr} {m : M Mn.D} {pos p p1 p2 p3 : Pos}
theorem pe_ty {x : Str} {T : String} {pos : Pos} (hm : X.mg x = none) (hv : bootBuiltins x = some (.type T)) (hg : Gl X x := by rfl) (hn : x ≠ "__name__" := by decide) (hdb : (x == ("__debug__" : Str)) = false := by decide) : PE X (.Name x pos) (tC (.ty T)) := pe_bltn hg hm hv rfl hn hdb
theorem pm_isi {c : Str} {T : String} (hi : X.mg "isinstance" = none) (h : PM X a m) (hc : PE X (.Name c p1) (tC (.ty T))) (hv : bootBuiltins "isinstance" = some (.builtin "isinstance") := by decide +kernel) (hg : Gl X "isinstance" := by rfl)
    (hs1 : starEach [.Name c p1] X.env = [(false, eval (.Name c p1) X.env)] := by rfl) (he : starEach [a, .Name c p1] X.env = (false, eval a X.env) :: starEach [.Name c p1] X.env := by rfl) (hpl : (backTo pos (starEach [.Name c p1] X.env)).any (·.1) = false := by rfl) : PM X (.Call (.Name "isinstance" p) [a, .Name c p1] [] pos) (mIsi [T] m) :=
  imp_e (pe_callB call_isi hg hi hv (pa_cons h (pa_cons hc pa_nil hs1) he) (he := he) (hpl := hpl)) fun σ H Q ⟨env, st, ρ, d, st', ro, rs, e, k⟩ => by
    obtain ⟨x, s1, e1, e⟩ := bnd_inv e
    split at e
    · rename_i t ht
      split at e
      · rename_i b hb
        cases e
        refine ⟨env, st, ρ, x, _, ro, rs, e1, fun v H' ρ' n rs' rv => ⟨v, .ty T, .type t, .type T, b, rfl, .ty T, tyD_ok rs' rv ht, ?_, k _ H' ρ' n rs' rfl⟩⟩
        unfold isiL isiL at hb
        apply kit_ty
        split at hb
        · rename_i h2; cases hb; exact h2
        · rename_i h2; cases hb; exact h2
        · cases hb
      · cases e
    · cases e
theorem pm_isi2 {c c2 : Str} {T T2 : String} {x1} (hi : X.mg "isinstance" = none) (h : PM X a m) (hc : PE X (.Name c p1) (tC (.ty T))) (hc2 : PE X (.Name c2 p2) (tC (.ty T2))) (hv : bootBuiltins "isinstance" = some (.builtin "isinstance") := by decide +kernel) (hg : Gl X "isinstance" := by rfl)
    (hs1 : starEach [.Name c p1, .Name c2 p2] X.env = [(false, eval (.Name c p1) X.env), (false, eval (.Name c2 p2) X.env)] := by rfl) (hs2 : starEach [.Name c2 p2] X.env = [(false, eval (.Name c2 p2) X.env)] := by rfl)
    (he2 : starEach [.Tuple [.Name c p1, .Name c2 p2] x1 p3] X.env = [(false, eval (.Tuple [.Name c p1, .Name c2 p2] x1 p3) X.env)] := by rfl)
    (he : starEach [a, .Tuple [.Name c p1, .Name c2 p2] x1 p3] X.env = (false, eval a X.env) :: starEach [.Tuple [.Name c p1, .Name c2 p2] x1 p3] X.env := by rfl) (hpl : (backTo pos (starEach [.Tuple [.Name c p1, .Name c2 p2] x1 p3] X.env)).any (·.1) = false := by rfl) :
    PM X (.Call (.Name "isinstance" p) [a, .Tuple [.Name c p1, .Name c2 p2] x1 p3] [] pos) (mIsi [T, T2] m) :=
  imp_e (pe_callB call_isiT hg hi hv (pa_cons h (pa_cons (pe_tup (pa_cons hc (pa_cons hc2 pa_nil hs2) (by rw [hs1, hs2]))) pa_nil he2) he) (he := he) (hpl := hpl)) fun σ H Q ⟨env, st, ρ, d, st', ro, rs, e, k⟩ => by
    obtain ⟨x, s1, e1, e⟩ := bnd_inv e
    split at e
    · rename_i t ht
      split at e
      · rename_i b hb
        cases e
        refine ⟨env, st, ρ, x, _, ro, rs, e1, fun v H' ρ' n rs' rv => ⟨by show 2 ≤ sizeLine; decide, fun tp hp => ?_⟩⟩
        have n2 := Nxt.laid (o := .tup [.ty T, .ty T2]) rs' hp
        exact ⟨v, tp, [.ty T, .ty T2], .type t, [.type T, .type T2], b, rfl, upd_same, .cons (.ty T) (.cons (.ty T2) .nil), tyD_ok (rs'.laid hp) (RV.nxt n2 _ _ rv) ht, isiL_ok hb, k _ _ ρ' (n.trans n2) (rs'.laid hp) rfl⟩
      · cases e
    · cases e
end

/-! ### methods of a list that stands in the store -/
abbrev OM := List Mn.D → List Mn.D → Store → Option (Mn.D × List Mn.D)
def RefMt (K : PySem.W.Frag) (r : V → List V → Hp → VK → Prop) (f : OM) : Prop := ∀ (ρ : Rh) (st : Store) (H : Hp) (a : Addr) (ds xs : List Mn.D) (dr : Mn.D) (ds' : List Mn.D) (us vs : List V) (Q : VK), RepSt K ρ st H → H a = some (.lst us) → RVs K ρ H ds us → RVs K ρ H xs vs → f ds xs st = some (dr, ds') →
  (∀ v us', RVs K ρ H ds' us' → RV K ρ H dr v → Q v (upd H a (.lst us'))) → r (.ref a) vs H Q
def isLoc (d : Mn.D) (st : Store) : Option Nat :=
  match d with
  | .loc n => match st[n]? with
    | some (.lst _) => some n
    | _ => none
  | _ => none
def mMt (f : OM) (mo : M Mn.D) (ms : M (List Mn.D)) : M Mn.D := fun env st => bnd (mo env st) fun x st1 =>
  match isLoc x st1 with
  | some n => bnd (ms env st1) fun xs st2 => match st2[n]? with
    | some (.lst ds) => match f ds xs st2 with
      | some (dr, ds') => some (dr, st2.set n (.lst ds'))
      | none => none
    | _ => none
  | none => none
theorem isLoc_inv {d : Mn.D} {st : Store} {n : Nat} (e : isLoc d st = some n) : d = .loc n ∧ ∃ l, st[n]? = some (.lst l) := by
  unfold isLoc at e
  split at e
  · split at e
    · rename_i l h
      cases e
      exact ⟨rfl, l, h⟩
    · cases e
  · cases e
theorem mt_core {K : PySem.W.Frag} {r : V → List V → Hp → VK → Prop} {f : OM} (hf : RefMt K r f) {mo : M Mn.D} {ms : M (List Mn.D)} {σ : L2.St} {H : Hp} {Q : VK} (h : tM K (mMt f mo ms) σ H Q) :
    tM K mo σ H fun x H1 => tyV K "list" x H1 ∧ tMA K ms σ H1 fun xs H2 => r x xs H2 Q := by
  obtain ⟨env, st, ρ, d, st', ro, rs, e, k⟩ := h
  obtain ⟨x, s1, e1, e⟩ := bnd_inv e
  refine ⟨env, st, ρ, x, s1, ro, rs, e1, fun v H1 ρ1 n1 rs1 rv => ?_⟩
  split at e
  · rename_i n hn
    obtain ⟨rfl, l, hl⟩ := isLoc_inv hn
    obtain ⟨xs, s2, e2, e⟩ := bnd_inv e
    obtain ⟨a, ev, ea, us, hu, ru⟩ := rs1.at rv hl
    subst ev
    refine ⟨.inl ⟨rfl, us, SqL.of hu⟩, env, s1, ρ1, xs, s2, ro.nxt n1, rs1, e2, fun vs H2 ρ2 n2 rs2 rvs => ?_⟩
    split at e
    · rename_i ds hds
      split at e
      · rename_i dr ds' hf'
        cases e
        have ea2 := n2.pre n a ea
        obtain ⟨us2, hu2, ru2⟩ := rs2.ob n a _ ea2 hds
        refine hf ρ2 s2 H2 a ds xs d ds' us2 vs Q rs2 hu2 ru2 rvs hf' fun v us' ru' rv' => ?_
        have w := Nxt.write (o := .lst us') rs2 (List.mem_of_getElem? ea2)
        exact k v _ ρ2 (n1.trans (n2.trans w)) (rs2.write ea2 ⟨us', upd_same, RVs.nxt w _ _ ru'⟩) (RV.nxt w _ _ rv')
      · cases e
    · cases e
  · cases e
section
variable {X : Cx} {o e : Expr} {es : List Expr} {mo : M Mn.D} {ms : M (List Mn.D)} {apos cpos : Pos} {name : Str} {id : String} {r : V → List V → Hp → VK → Prop} {f : OM}
theorem pm_mt (slot : Slot "list" name id) (hty : typeOf (.builtin id) = pure (.type "method_descriptor")) (hm : MtR X id r ∧ RefMt X.K r f) (ho : PM X o mo) (ha : PMA X (e :: es) ms)
    (hbase : attributeBase o name X.env (eval o X.env) = eval o X.env := by rfl)
    (hfew : ((backTo cpos (starEach (e :: es) X.env)).all (fun x => !x.1) && (backToKw cpos (keywordEach [] X.env)).all (fun x => x.1.isSome)
      && decide ((e :: es).length + ([] : List Keyword).length + (if ([] : List Keyword).isEmpty then 0 else 1) < 30)) = true := by rfl)
    (hline : (apos.endLine == cpos.line) = true := by rfl) (hs : starEach (e :: es) X.env = (false, eval e X.env) :: starEach es X.env := by rfl) (hplain : (backTo cpos (starEach es X.env)).any (·.1) = false := by rfl) :
    PM X (.Call (.Attribute o name apos) (e :: es) [] cpos) (mMt f mo ms) := imp_e (pe_bm PySem.F.plainAttrs_list slot hty hm.1 ho ha hbase hfew hline hs hplain) fun _ _ _ h => mt_core hm.2 h
theorem pm_mt0 (slot : Slot "list" name id) (hty : typeOf (.builtin id) = pure (.type "method_descriptor")) (hm : MtR X id r ∧ RefMt X.K r f) (ho : PM X o mo)
    (hbase : attributeBase o name X.env (eval o X.env) = eval o X.env := by rfl) (hline : (apos.endLine == cpos.line) = true := by rfl) : PM X (.Call (.Attribute o name apos) [] [] cpos) (mMt f mo mNil) :=
  imp_e (pe_bm0 PySem.F.plainAttrs_list slot hty hm.1 ho hbase hline) fun σ H Q h => by
    obtain ⟨env, st, ρ, d, st', ro, rs, e, k⟩ := mt_core hm.2 h
    refine ⟨env, st, ρ, d, st', ro, rs, e, fun v H' ρ' n rs' rv => ?_⟩
    obtain ⟨h1, env2, st2, ρ2, ds, st3, ro2, rs2, e2, k2⟩ := k v H' ρ' n rs' rv
    cases e2
    exact ⟨h1, k2 [] H' ρ2 (Nxt.refl _ _) rs2 rfl⟩
def fApp : OM := fun ds xs _ =>
  match xs with
  | [x] => @ite _ (ds.length < 16777216) (Classical.propDecidable _) (some (.non, ds ++ [x])) none
  | _ => none
theorem m_app : MtR X "list.append" rAppend ∧ RefMt X.K rAppend fApp := ⟨mt_append, fun ρ st H a ds xs dr ds' us vs Q rs hu ru rx e k => by
  unfold fApp at e
  split at e
  · rename_i x
    split at e
    · rename_i h
      cases e
      obtain ⟨v, r, rfl, rv, rfl⟩ := rx
      exact ⟨a, us, v, rfl, rfl, hu, by rw [RVs.length ru]; exact sz1m h, k _ _ (RVs.append ru (RVs.one rv)) rfl⟩
    · cases e
  · cases e⟩
def fPop : OM := fun ds xs _ =>
  match xs with
  | [] => match ds[ds.length - 1]? with
    | some d => some (d, ds.dropLast)
    | none => none
  | _ => none
theorem RVs.dropLast {K : PySem.W.Frag} {ρ : Rh} {H : Hp} {ds : List Mn.D} {vs : List V} (r : RVs K ρ H ds vs) : RVs K ρ H ds.dropLast vs.dropLast := by
  rw [List.dropLast_eq_take, List.dropLast_eq_take, RVs.length r]
  exact RVs.take _ r
theorem m_pop : MtR X "list.pop" rPop ∧ RefMt X.K rPop fPop := ⟨mt_pop, fun ρ st H a ds xs dr ds' us vs Q rs hu ru rx e k => by
  unfold fPop at e
  split at e
  · split at e
    · rename_i d hd
      cases e
      cases rx
      obtain ⟨v, h1, h2⟩ := RVs.get ru hd
      exact ⟨a, us, v, rfl, rfl, hu, by rw [RVs.length ru]; exact h1, k _ _ (RVs.dropLast ru) h2⟩
    · cases e
  · cases e⟩
def fExt : OM := fun ds xs st =>
  match xs with
  | [x] => match lstD x st with
    | some l => @ite _ (ds.length + l.length ≤ 16777216) (Classical.propDecidable _) (some (.non, ds ++ l)) none
    | none => none
  | _ => none
theorem m_ext : MtR X "list.extend" rExtend ∧ RefMt X.K rExtend fExt := ⟨mt_extend, fun ρ st H a ds xs dr ds' us vs Q rs hu ru rx e k => by
  unfold fExt at e
  split at e
  · rename_i x
    split at e
    · rename_i l hl
      split at e
      · rename_i h
        cases e
        obtain ⟨v, r, rfl, rv, rfl⟩ := rx
        obtain ⟨b, ys, e1, f, r⟩ := lstD_ok rs rv hl
        subst e1
        exact ⟨a, b, us, ys, rfl, rfl, hu, f, by rw [RVs.length ru, RVs.length r]; exact sz1m' h, k _ _ (RVs.append ru r) rfl⟩
      · cases e
    · cases e
  · cases e⟩

/-! ### o[i] = v -/
def rSetD : V → V → V → Hp → (Hp → Prop) → Prop := fun o i v H Q => ∃ a H4, o = .ref a ∧ DPut H a i v H4 ∧ Q H4
def rSetA : V → V → V → Hp → (Hp → Prop) → Prop := fun o i v H Q => rSetL o i v H Q ∨ rSetD o i v H Q
theorem set_any (hu : X.A.units + 1 < cLine) : PSet X rSetA := by
  intro pins s σ H o i v ov iv u Q I ro ri rv h
  rcases h with h | ⟨a, H4, rfl, hp, q⟩
  · exact set_list pins s σ H o i v ov iv u Q I ro ri rv h
  · cases ro
    exact d_setItem hu I hp ri rv fun s' I' => ⟨H4, I', q⟩
def setO (o i v : Mn.D) (st : Store) : Option Store :=
  match o with
  | .loc n => match st[n]? with
    | some (.lst l) => match i with
      | .int k => match ixN l.length k with
        | some j => some (st.set n (.lst (l.set j v)))
        | none => none
      | _ => none
    | some (.dic l) => match keyD i with
      | some k => @ite _ (l.length < 16777216) (Classical.propDecidable _) (some (st.set n (.dic (putD l k v)))) none
      | none => none
    | _ => none
  | _ => none
theorem setO_ok {K : PySem.W.Frag} {ρ : Rh} {H : Hp} {st st' : Store} {dO dI dV : Mn.D} {o i v : V} {Q : Hp → Prop} (rs : RepSt K ρ st H) (ro : RV K ρ H dO o) (ri : RV K ρ H dI i) (rv : RV K ρ H dV v) (e : setO dO dI dV st = some st')
    (k : ∀ H', Nxt ρ H ρ H' → RepSt K ρ st' H' → Q H') : rSetA o i v H Q := by
  unfold setO at e
  split at e
  · rename_i n
    split at e
    · rename_i l hl
      split at e
      · rename_i kk
        split at e
        · rename_i j hj
          cases e
          obtain ⟨a, e1, e2, us, hu, ru⟩ := rs.at ro hl
          have w := Nxt.write (o := .lst (us.set j v)) rs (List.mem_of_getElem? e2)
          exact .inl ⟨a, us, kk, j, e1, ri, hu, by rw [RVs.length ru]; exact hj, k _ w (rs.write e2 ⟨_, upd_same, RVs.nxt w _ _ (RVs.set rv j ru)⟩)⟩
        · cases e
      · cases e
    · rename_i l hl
      split at e
      · rename_i kk hk
        split at e
        · rename_i h
          cases e
          obtain ⟨a, e1, e2, us, hu, ru⟩ := rs.at ro hl
          have w := Nxt.write (o := .dK (putK us kk v)) rs (List.mem_of_getElem? e2)
          refine .inr ⟨a, _, e1, .inl ⟨us, kk, hu, keyD_ok ri hk, by rw [RVk.length ru]; exact sz1m h, rfl⟩, k _ w (rs.write e2 ⟨_, upd_same, RVk.nxt w _ _ (RVk.put kk rv ru)⟩)⟩
        · cases e
      · cases e
    · cases e
  · cases e
def gSet (mo mi : M Mn.D) : G := fun v env st => bnd (mo env st) fun o st1 => bnd (mi env st1) fun i st2 => match setO o i v st2 with
  | some st3 => some (env, st3)
  | none => none
theorem pmg_sub {i : Expr} {mi : M Mn.D} {pos : Pos} (hu : X.A.units + 1 < cLine) (ho : PM X o mo) (hi : PM X i mi)
    (ha : ∀ v, assign (.Subscript o i pos) X.env v = (do
      let ov ← holding [v] (eval o X.env)
      let iv ← holding [v, ov] (eval i X.env)
      standAt pos
      holding [v, ov, iv] (setItem ov iv v)
      release [v, ov, iv] []) := by intro _; rfl) : PMG X (.Subscript o i pos) [] (gSet mo mi) :=
  imp_g (pg_sub ho hi (set_any hu) ha) fun v σ H Q ⟨d, env, st, ρ, env', st', rv, ro, rs, e, k⟩ => by
    obtain ⟨x, s1, e1, e⟩ := bnd_inv e
    obtain ⟨y, s2, e2, e⟩ := bnd_inv e
    refine ⟨env, st, ρ, x, s1, ro, rs, e1, fun vx H1 ρ1 n1 rs1 rx => ⟨env, s1, ρ1, y, s2, ro.nxt n1, rs1, e2, fun vy H2 ρ2 n2 rs2 ry => ?_⟩⟩
    split at e
    · rename_i s3 h3
      cases e
      exact setO_ok rs2 (RV.nxt n2 _ _ rx) ry (RV.nxt (n1.trans n2) _ _ rv) h3 fun H3 n3 rs3 => k σ H3 ρ2 (OnlyAt.refl _ _) ((n1.trans n2).trans n3) rs3 (ro.nxt ((n1.trans n2).trans n3))
    · cases e
/-- name op= e -/
def sAug (i : Nat) (f : O2) (m : M Mn.D) : S := fun env st => match env[i]? with
  | some (some x) => bnd (m env st) fun y st1 => match f x y st1 with
    | some z => some (.nx (env.set i (some z)), st1)
    | none => none
  | _ => none
theorem pms_aug {i : Nat} {x : Str} {op : Operator} {rr : R2} {f : O2} {m : M Mn.D} {pos pos' : Pos} (hN : X.N.Nodup) (he : PM X e m) (hop : OpR X (inplaceOp op) rr ∧ RefO X.K rr f) (hi : X.N[i]? = some x := by rfl) (hx : Loc X.env.scope x := by first | exact .inl rfl | exact .inr rfl)
    (hf : X.fn x = true ∨ X.env.scope.names.lookup x = some .local := by first | exact .inl rfl | exact .inr rfl | assumption) : PMS X (.AugAssign (.Name x pos') op e pos) (sAug i f m) :=
  imp_s (ps_aug (ti := fun x y H Q => rr x y H Q) hN hi hx he hop.1 hf) fun E σ H ⟨env, st, ρ, o, st', ro, rs, e, k⟩ => by
    unfold sAug at e
    split at e
    · rename_i dx hdx
      obtain ⟨y, s1, e1, e⟩ := bnd_inv e
      obtain ⟨vx, h1, h2⟩ := ro.2 i dx hdx
      refine ⟨vx, h1, env, st, ρ, y, s1, ro, rs, e1, fun vy H1 ρ1 n1 rs1 ry => ?_⟩
      split at e
      · rename_i z hz
        cases e
        exact hop.2 ρ1 _ H1 dx y z vx vy _ rs1 (RV.nxt n1 _ _ h2) ry hz fun v H2 n2 rs2 rv => k _ H2 ρ1 (n1.trans n2) rs2 ((ro.nxt (n1.trans n2)).set rv i)
      · cases e
    · cases e
theorem io_add : OpR X (inplaceOp .Add) (rI0 fun i j => .int (i + j)) ∧ RefO X.K (rI0 fun i j => .int (i + j)) (oI fun i j => some (i + j)) := ⟨iop_add, fun ρ st H dx dy d x y Q rs rx ry e k => by
  unfold oI at e
  split at e
  · rename_i i j
    cases e
    exact ⟨i, j, rx, ry, k _ H (Nxt.refl _ _) rs rfl⟩
  · cases e⟩
theorem io_sub : OpR X (inplaceOp .Sub) (rI0 fun i j => .int (i - j)) ∧ RefO X.K (rI0 fun i j => .int (i - j)) (oI fun i j => some (i - j)) := ⟨iop_sub, fun ρ st H dx dy d x y Q rs rx ry e k => by
  unfold oI at e
  split at e
  · rename_i i j
    cases e
    exact ⟨i, j, rx, ry, k _ H (Nxt.refl _ _) rs rfl⟩
  · cases e⟩

/-! ### dicts -/
def mDic0 : M Mn.D := fun _ st => some (.loc st.length, st ++ [.dic []])
theorem pm_dic0 {pos : Pos} : PM X (.Dict [] [] pos) mDic0 := imp_e pe_dnewK fun σ H Q ⟨env, st, ρ, d, st', ro, rs, e, k⟩ p hp => by
  cases e
  refine k _ _ (ρ.add p) (Nxt.alloc rs hp) (rs.alloc hp ⟨[], upd_same, rfl⟩) ⟨p, rfl, ?_⟩
  rw [← rs.len]
  simp [Rh.add]
/-- d.get(k) | d.get(k, x) -/
def mGet1 (mo mk : M Mn.D) : M Mn.D := fun env st => bnd (mo env st) fun x st1 => bnd (mk env st1) fun k st2 => match dicD x st1, dicD x st2, keyD k with
  | some _, some l, some k => some ((lkD l k).getD .non, st2)
  | _, _, _ => none
def mGet2 (mo mk mx : M Mn.D) : M Mn.D := fun env st => bnd (mo env st) fun x st1 => bnd (mk env st1) fun k st2 => bnd (mx env st2) fun z st3 => match dicD x st1, dicD x st3, keyD k with
  | some _, some l, some k => some ((lkD l k).getD z, st3)
  | _, _, _ => none
theorem lk_getD {K : PySem.W.Frag} {ρ : Rh} {H : Hp} {l : List (Key × Mn.D)} {xs : List (Key × V)} {k : Key} {z : Mn.D} {vz : V} (r : RVk K ρ H l xs) (rz : RV K ρ H z vz) : RV K ρ H ((lkD l k).getD z) ((valV xs k).getD vz) := by
  obtain ⟨h1, h2⟩ := lkD_ok (k := k) r
  cases e : lkD l k with
  | none =>
    rw [e] at h1
    have : valV xs k = none := by
      cases q : valV xs k with
      | none => rfl
      | some v => rw [q] at h1; cases h1
    rw [this]
    exact rz
  | some d =>
    obtain ⟨v, h3, h4⟩ := h2 d e
    rw [h3]
    exact h4
theorem pm_get1 {e : Expr} {mk : M Mn.D} (hu : X.A.units + 1 < cLine) (ho : PM X o mo) (he : PM X e mk) (m : M1 X o "get" apos e cpos := by exact ⟨rfl, rfl, rfl, rfl⟩) : PM X (.Call (.Attribute o "get" apos) [e] [] cpos) (mGet1 mo mk) :=
  imp_e (pe_dget1 hu ho he m) fun σ H Q ⟨env, st, ρ, d, st', ro, rs, e, k⟩ => by
    obtain ⟨x, s1, e1, e⟩ := bnd_inv e
    obtain ⟨y, s2, e2, e⟩ := bnd_inv e
    refine ⟨env, st, ρ, x, s1, ro, rs, e1, fun vx H1 ρ1 n1 rs1 rx => ?_⟩
    split at e
    · rename_i l1 l kk h1 h2 h3
      cases e
      obtain ⟨a, xs1, ev, f1, r1⟩ := dicD_ok rs1 rx h1
      refine ⟨a, ev, .inl ⟨xs1, f1⟩, env, s1, ρ1, y, _, ro.nxt n1, rs1, e2, fun vy H2 ρ2 n2 rs2 ry => ?_⟩
      obtain ⟨b, xs2, ev2, f2, r2⟩ := dicD_ok rs2 (RV.nxt n2 _ _ rx) h2
      rw [ev] at ev2
      cases ev2
      exact ⟨valV xs2 kk, .inl ⟨xs2, kk, f2, keyD_ok ry h3, rfl⟩, k _ H2 ρ2 (n1.trans n2) rs2 (lk_getD r2 rfl)⟩
    · cases e
theorem pm_get2 {e f : Expr} {mk mx : M Mn.D} (hu : X.A.units + 1 < cLine) (ho : PM X o mo) (he : PM X e mk) (hf : PM X f mx) (m : M2 X o "get" apos e f cpos := by exact ⟨rfl, rfl, rfl, rfl⟩) : PM X (.Call (.Attribute o "get" apos) [e, f] [] cpos) (mGet2 mo mk mx) :=
  imp_e (pe_dget2 hu ho he hf m) fun σ H Q ⟨env, st, ρ, d, st', ro, rs, e, k⟩ => by
    obtain ⟨x, s1, e1, e⟩ := bnd_inv e
    obtain ⟨y, s2, e2, e⟩ := bnd_inv e
    obtain ⟨z, s3, e3, e⟩ := bnd_inv e
    refine ⟨env, st, ρ, x, s1, ro, rs, e1, fun vx H1 ρ1 n1 rs1 rx => ?_⟩
    split at e
    · rename_i l1 l kk h1 h2 h3
      cases e
      obtain ⟨a, xs1, ev, f1, r1⟩ := dicD_ok rs1 rx h1
      refine ⟨a, ev, .inl ⟨xs1, f1⟩, env, s1, ρ1, y, _, ro.nxt n1, rs1, e2, fun vy H2 ρ2 n2 rs2 ry => ⟨env, s2, ρ2, z, _, ro.nxt (n1.trans n2), rs2, e3, fun vz H3 ρ3 n3 rs3 rz => ?_⟩⟩
      obtain ⟨b, xs2, ev2, f2, r2⟩ := dicD_ok rs3 (RV.nxt (n2.trans n3) _ _ rx) h2
      rw [ev] at ev2
      cases ev2
      exact ⟨valV xs2 kk, .inl ⟨xs2, kk, f2, keyD_ok (RV.nxt n3 _ _ ry) h3, rfl⟩, k _ H3 ρ3 (n1.trans (n2.trans n3)) rs3 (lk_getD r2 rz)⟩
    · cases e
end
end
end Mn
end
section
set_option Elab.async false
set_option autoImplicit false
set_option linter.all false
set_option maxRecDepth 100000
set_option maxHeartbeats 2000000
/-! The mini layer, 8: dict(..) of pairs. -/
namespace Mn
noncomputable section
open PySem PySem.Spec PyProof.Rows L2

def pairD (d : Mn.D) : Option (Key × Mn.D) :=
  match tupD d with
  | some [k, v] => match keyD k with
    | some k => some (k, v)
    | none => none
  | _ => none
def pairsD : List Mn.D → Option (List (Key × Mn.D))
  | [] => some []
  | d :: ds => match pairD d, pairsD ds with
    | some p, some l => some (p :: l)
    | _, _ => none
def mergeD (more : List (Key × Mn.D)) (l : List (Key × Mn.D)) : List (Key × Mn.D) := more.foldl (fun acc kv => putD acc kv.1 kv.2) l
theorem mergeD_ok {K : PySem.W.Frag} {ρ : Rh} {H : Hp} : ∀ {more : List (Key × Mn.D)} {ms : List (Key × V)} {l : List (Key × Mn.D)} {xs : List (Key × V)}, RVk K ρ H more ms → RVk K ρ H l xs → RVk K ρ H (mergeD more l) (mergeK xs ms)
  | [], _, _, _, h, r => by subst h; exact r
  | (k, d) :: more, _, l, xs, ⟨v, t, e, h, q⟩, r => by
    subst e
    show RVk K ρ H (mergeD more (putD l k d)) (mergeK (putK xs k v) t)
    exact mergeD_ok q (RVk.put k h r)
theorem pairD_ok {K : PySem.W.Frag} {ρ : Rh} {H : Hp} {d : Mn.D} {v : V} {k : Key} {e : Mn.D} (r : RV K ρ H d v) (h : pairD d = some (k, e)) : ∃ a ve, v = .ref a ∧ SqT K H a [kV k, ve] ∧ RV K ρ H e ve := by
  unfold pairD at h
  split at h
  · rename_i k' v' ht
    split at h
    · rename_i kk hk
      cases h
      have go : ∀ a xs, v = .ref a → SqT K H a xs → RVs K ρ H [k', e] xs → ∃ a ve, v = .ref a ∧ SqT K H a [kV k, ve] ∧ RV K ρ H e ve := fun a xs e1 f r => by
        obtain ⟨v1, r1, rfl, h1, v2, r2, rfl, h2, rfl⟩ := r
        rw [keyD_ok h1 hk] at f
        exact ⟨a, v2, e1, f, h2⟩
      cases d with
      | tup l => cases ht; obtain ⟨a, xs, e1, f, r⟩ := r; exact go a xs e1 f.seq r
      | ptl l => cases ht; obtain ⟨a, xs, e1, f, r⟩ := r; exact go a xs e1 f.seq r
      | _ => cases ht
    · cases h
  · cases h
theorem pairsD_ok {K : PySem.W.Frag} {ρ : Rh} {H : Hp} : ∀ {ds : List Mn.D} {vs : List V} {l : List (Key × Mn.D)}, RVs K ρ H ds vs → pairsD ds = some l → ∃ (ps : List Addr) (kvs : List (Key × V)), vs = ps.map V.ref ∧ Paired (fun p kv => SqT K H p [kV kv.1, kv.2]) ps kvs ∧ RVk K ρ H l kvs
  | [], _, _, r, e => by cases e; cases r; exact ⟨[], [], rfl, .nil, rfl⟩
  | d :: ds, _, l, ⟨v, t, ev, h, r⟩, e => by
    unfold pairsD at e
    split at e
    · rename_i p l' h1 h2
      cases e
      obtain ⟨a, ve, e1, f, q⟩ := pairD_ok (k := p.1) (e := p.2) h h1
      obtain ⟨ps, kvs, e2, pp, q2⟩ := pairsD_ok r h2
      subst ev; subst e1; subst e2
      exact ⟨a :: ps, (p.1, ve) :: kvs, rfl, .cons f pp, ve, kvs, rfl, q, q2⟩
    · cases e
def cDic (xs : List Mn.D) (st : Store) : Option (List (Key × Mn.D)) :=
  match xs with
  | [x] => match seqD x st with
    | some l => match pairsD l with
      | some ps => some (mergeD ps [])
      | none => none
    | none => none
  | _ => none
section
variable {X : Cx}
/-- dict(t), t a plain tuple of pairs -/
theorem call_dictT (hcalm : X.calm = true) : CallR X (.type "dict") (fun xs H Q => ∃ (ρ : Rh) (a : Addr) (ps : List Addr) (kvs : List (Key × V)), xs = [.ref a] ∧ FzT X.K ρ H a (ps.map V.ref) ∧ Paired (fun p kv => SqT X.K H p [kV kv.1, kv.2]) ps kvs ∧
    ∀ p, H p = none → Q (.ref p) (upd H p (.dK (mergeK [] kvs)))) := by
  intro pins s σ H xs us Q I r q
  obtain ⟨ρ, a, ps, kvs, ex, hq, hp, q⟩ := q
  subst ex
  obtain ⟨u, eu, rx⟩ := vals1 r
  subst eu
  cases rx
  obtain ⟨o, ho, hod⟩ : ∃ o, s.heap.get? a = some o ∧ o.dict = none := by
    rcases hq with ⟨_, o, h, hod⟩ | ⟨⟨o, h, hod⟩, _⟩
    · exact ⟨o, (show ObjOk X.prog X.w H s.heap a (.frz o (.tup (ps.map V.ref))) from I.hok a _ h).1, hod⟩
    · exact ⟨o, I.kIn a o h, hod⟩
  obtain ⟨its, rv, ⟨o', ho', hc, n, hdat⟩, hz⟩ := I.tuple hq.seq
  rw [ho] at ho'
  cases ho'
  have ei := refs_at rv
  subst ei
  rw [List.length_map] at hz
  obtain ⟨prs, rel, hl, hpr⟩ := pairs_of I hp
  have hgk : ∀ j : Nat, j < prs.length → ∃ b u q, prs[j]? = some q ∧ ps[j]? = some b ∧ IsTup s.heap b #[u, q.2] ∧ keyIs q.1 u = true := fun j hj => by
    obtain ⟨b, u, h1, h2, h3⟩ := hpr j prs[j] (List.getElem?_eq_getElem hj)
    exact ⟨b, u, _, List.getElem?_eq_getElem hj, h1, h2, h3⟩
  -- the pairs as the library takes them
  let us : Nat → Value := fun j => if h : j < prs.length then Classical.choose (Classical.choose_spec (hgk j h)) else .none
  let vp : List (Value × Value) := (List.range prs.length).map fun j => (us j, (prs.getD j (Sum.inl 0, .none)).2)
  have vl : vp.length = prs.length := by simp [vp]
  have vat : ∀ (j : Nat) (hj : j < prs.length), vp[j]? = some (us j, prs[j].2) := fun j hj => by
    simp [vp, hj]
  have uat : ∀ (j : Nat) (hj : j < prs.length), IsTup s.heap (ps.getD j 0) #[us j, prs[j].2] ∧ keyIs prs[j].1 (us j) = true ∧ ps[j]? = some (ps.getD j 0) := fun j hj => by
    obtain ⟨q, h1, h2, h3, h4⟩ := Classical.choose_spec (Classical.choose_spec (hgk j hj))
    have e1 : us j = Classical.choose (Classical.choose_spec (hgk j hj)) := dif_pos hj
    rw [List.getElem?_eq_getElem hj] at h1
    cases h1
    rw [e1]
    have e2 : ps.getD j 0 = Classical.choose (hgk j hj) := by rw [List.getD_eq_getElem?_getD]; exact congrArg (fun z => z.getD 0) h2
    rw [e2]
    exact ⟨h3, h4, h2⟩
  have items : PairItems s.heap (ps.map Value.ref).toArray (fun j => ps.getD j 0) vp := by
    refine ⟨by simp [vl, hl], fun j k v hj => ?_⟩
    have hjl : j < prs.length := by
      have := (List.getElem?_eq_some_iff.mp hj).1
      rw [vl] at this
      exact this
    rw [vat j hjl] at hj
    cases hj
    obtain ⟨h1, h2, h3⟩ := uat j hjl
    refine ⟨by rw [List.getElem?_toArray, List.getElem?_map, h3]; rfl, .inl h1⟩
  have have_ : PairsHave (mixKind X.prog X.w) vp.length (PairRel vp) prs := by
    refine ⟨vl.symm, fun i key v h => ?_⟩
    have hjl : i < prs.length := by
      have := (List.getElem?_eq_some_iff.mp (show vp[i]? = some (key, v) from h)).1
      rw [vl] at this
      exact this
    have h : vp[i]? = some (key, v) := h
    rw [vat i hjl] at h
    cases h
    exact ⟨prs[i].1, by rw [List.getElem?_eq_getElem hjl], (uat i hjl).2.1⟩
  refine PySem.call_dict_pairs (PairArg.tuple a (ps.map Value.ref).toArray (fun j => ps.getD j 0) vp) (I.ok.hd hcalm) ⟨⟨o, n, ho, hc, hod, hdat⟩, items⟩ have_ (by rw [vl, hl]; exact hz) fun h' tk hd' k => ?_
  have hm : (s.heap.objs.size == sysModules) = false := beq_eq_false_iff_ne.mpr (Nat.ne_of_gt I.big)
  have hlen : (mergeK [] kvs).length ≤ sizeLine := by
    refine Nat.le_trans (length_mergeK kvs []) ?_
    rw [List.length_nil, Nat.zero_add, rel.length, hl]
    exact hz
  exact ⟨.ref s.heap.objs.size, upd H s.heap.objs.size (.dK (mergeK [] kvs)), I.laid (t' := tk) (fun b o e => k b o (by simp) e) (Nat.le_refl _) (show ObjOk X.prog X.w _ _ _ (.dK (mergeK [] kvs)) from ⟨hlen, hm, merged [] prs, KV.merge rel .nil, hd'⟩), rfl, q _ (I.hok.fresh (Nat.le_refl _))⟩
/-- a new dict: frozen, or into the store -/
def mDicF (ms : M (List Mn.D)) : M Mn.D := fun env st => bnd (ms env st) fun xs st1 => match cDic xs st1 with
  | some l => some (.dic l, st1)
  | none => none
def mDicM (ms : M (List Mn.D)) : M Mn.D := fun env st => bnd (ms env st) fun xs st1 => match cDic xs st1 with
  | some l => some (.loc st1.length, st1 ++ [.dic l])
  | none => none
def rDicA (K : PySem.W.Frag) : List V → Hp → VK → Prop := fun xs H Q => (∃ (a : Addr) (ps : List Addr) (kvs : List (Key × V)), xs = [.ref a] ∧ SqL K H a (ps.map V.ref) ∧ Paired (fun p kv => SqT K H p [kV kv.1, kv.2]) ps kvs ∧
    ∀ p, H p = none → Q (.ref p) (upd H p (.dK (mergeK [] kvs)))) ∨ ∃ (ρ : Rh) (a : Addr) (ps : List Addr) (kvs : List (Key × V)), xs = [.ref a] ∧ FzT K ρ H a (ps.map V.ref) ∧ Paired (fun p kv => SqT K H p [kV kv.1, kv.2]) ps kvs ∧
    ∀ p, H p = none → Q (.ref p) (upd H p (.dK (mergeK [] kvs)))
theorem rDicA_of {K : PySem.W.Frag} {ρ : Rh} {H : Hp} {st : Store} {xs : List Mn.D} {vs : List V} {l : List (Key × Mn.D)} {Q : VK} (rs : RepSt K ρ st H) (rv : RVs K ρ H xs vs) (e : cDic xs st = some l)
    (k : ∀ p kvs, H p = none → RVk K ρ H l kvs → Q (.ref p) (upd H p (.dK kvs))) : rDicA K vs H Q := by
  unfold cDic at e
  split at e
  · rename_i x
    obtain ⟨v, r, rfl, rx, rfl⟩ := rv
    split at e
    · rename_i ds hds
      split at e
      · rename_i ps hps
        cases e
        cases hx : x with
        | tup ds' =>
          subst hx
          cases hds
          obtain ⟨a, ys, e1, f, ry⟩ := rx
          obtain ⟨qs, kvs, e2, pp, rk⟩ := pairsD_ok ry hps
          subst e1; subst e2
          exact .inr ⟨ρ, a, qs, kvs, rfl, f, pp, fun p hp => k p _ hp (mergeD_ok rk rfl)⟩
        | _ =>
          obtain ⟨a, ys, e1, f, ry⟩ := seqD_list rs rx hds (fun l z => by rw [hx] at z; cases z)
          obtain ⟨qs, kvs, e2, pp, rk⟩ := pairsD_ok ry hps
          subst e1; subst e2
          exact .inl ⟨a, qs, kvs, rfl, f, pp, fun p hp => k p _ hp (mergeD_ok rk rfl)⟩
      · cases e
    · cases e
  · cases e
variable {e : Expr} {es : List Expr} {ms : M (List Mn.D)} {pos p : Pos}
theorem pe_dicA {t : TA} (hc : X.calm = true) (hm : X.mg "dict" = none) (ha : PA X (e :: es) t) (hv : bootBuiltins "dict" = some (.type "dict") := by decide +kernel) (hg : Gl X "dict" := by rfl)
    (he : starEach (e :: es) X.env = (false, eval e X.env) :: starEach es X.env := by rfl) (hpl : (backTo pos (starEach es X.env)).any (·.1) = false := by rfl) : PE X (.Call (.Name "dict" p) (e :: es) [] pos) (tCB (rDicA X.K) t) :=
  pe_callTy (CallR.or (call_dictP hc) (call_dictT hc)) hg hm hv ha (he := he) (hpl := hpl)
theorem pm_dicF (hm : X.mg "dict" = none) (ha : PMA X (e :: es) ms) (hc : X.calm = true := by rfl) (hv : bootBuiltins "dict" = some (.type "dict") := by decide +kernel) (hg : Gl X "dict" := by rfl)
    (he : starEach (e :: es) X.env = (false, eval e X.env) :: starEach es X.env := by rfl) (hpl : (backTo pos (starEach es X.env)).any (·.1) = false := by rfl) : PM X (.Call (.Name "dict" p) (e :: es) [] pos) (mDicF ms) :=
  imp_e (pe_dicA hc hm ha hv hg he hpl) fun σ H Q ⟨env, st, ρ, d, st', ro, rs, e, k⟩ => by
    obtain ⟨xs, s1, e1, e⟩ := bnd_inv e
    split at e
    · rename_i l hl
      cases e
      refine ⟨env, st, ρ, xs, _, ro, rs, e1, fun vs H' ρ' n rs' rv => rDicA_of rs' rv hl fun p kvs hp rk => ?_⟩
      have n2 := Nxt.laid (o := .dK kvs) rs' hp
      exact k _ _ ρ' (n.trans n2) (rs'.laid hp) ⟨p, kvs, rfl, ⟨rs'.out hp, upd_same⟩, RVk.nxt n2 _ _ rk⟩
    · cases e
theorem pm_dicM (hm : X.mg "dict" = none) (ha : PMA X (e :: es) ms) (hc : X.calm = true := by rfl) (hv : bootBuiltins "dict" = some (.type "dict") := by decide +kernel) (hg : Gl X "dict" := by rfl)
    (he : starEach (e :: es) X.env = (false, eval e X.env) :: starEach es X.env := by rfl) (hpl : (backTo pos (starEach es X.env)).any (·.1) = false := by rfl) : PM X (.Call (.Name "dict" p) (e :: es) [] pos) (mDicM ms) :=
  imp_e (pe_dicA hc hm ha hv hg he hpl) fun σ H Q ⟨env, st, ρ, d, st', ro, rs, e, k⟩ => by
    obtain ⟨xs, s1, e1, e⟩ := bnd_inv e
    split at e
    · rename_i l hl
      cases e
      refine ⟨env, st, ρ, xs, s1, ro, rs, e1, fun vs H' ρ' n rs' rv => rDicA_of rs' rv hl fun p kvs hp rk => ?_⟩
      have n2 := Nxt.alloc (o := .dK kvs) rs' hp
      refine k _ _ (ρ'.add p) (n.trans n2) (rs'.alloc hp ⟨kvs, upd_same, RVk.nxt n2 _ _ rk⟩) ⟨p, rfl, ?_⟩
      rw [← rs'.len]
      simp [Rh.add]
    · cases e
end
end
end Mn
end
section
set_option Elab.async false
set_option autoImplicit false
set_option linter.all false
set_option maxRecDepth 100000
set_option maxHeartbeats 2000000
/-! The mini layer, 9: any slice; three names at once; the law's end. -/
namespace Mn
noncomputable section
open PySem PySem.Spec PyProof.Rows L2
section
variable {X : Cx} {a b c : Expr} {ma mb mc : M Mn.D} {pos : Pos}
/-- x[lo:hi] of a tuple or a list (a new one, frozen) -/
def slD (x : Mn.D) (lo hi : Option Int) (st : Store) : Option Mn.D :=
  match x with
  | .tup l => some (.tup (cutD l lo hi))
  | x => match seqD x st with
    | some l => some (.lst (cutD l lo hi))
    | none => none
def mSl (ma : M Mn.D) (ml mh : MO) : M Mn.D := fun env st => bnd (ma env st) fun x st1 => bnd (ml env st1) fun lo st2 => bnd (mh env st2) fun hi st3 => ret1 (slD x lo hi st3) st3
theorem pm_sl {lo hi : Option Expr} {ml mh : MO} {p2 : Pos} (ha : PM X a ma) (hl : PMO X lo ml) (hh : PMO X hi mh) : PM X (.Subscript a (.Slice lo hi none p2) pos) (mSl ma ml mh) :=
  imp_e (pe_slice (sl_list.or sl_tupF) ha hl hh) fun σ H Q ⟨env, st, ρ, d, st', ro, rs, e, k⟩ => by
    obtain ⟨x, s1, e1, e⟩ := bnd_inv e
    obtain ⟨l, s2, e2, e⟩ := bnd_inv e
    obtain ⟨h, s3, e3, e⟩ := bnd_inv e
    obtain ⟨e4, e5⟩ := ret1_inv e
    cases e5
    refine ⟨env, st, ρ, x, s1, ro, rs, e1, fun vx H1 ρ1 n1 rs1 rx => ⟨env, s1, ρ1, l, s2, ro.nxt n1, rs1, e2, fun H2 ρ2 n2 rs2 => ⟨env, s2, ρ2, h, _, ro.nxt (n1.trans n2), rs2, e3, fun H3 ρ3 n3 rs3 => ?_⟩⟩⟩
    have nn := n1.trans (n2.trans n3)
    have rx3 := RV.nxt (n2.trans n3) _ _ rx
    cases hx : x with
    | tup ds =>
      subst hx
      cases e4
      obtain ⟨p, xs, ev, f, r⟩ := rx3
      have hl := RVs.length r
      refine .inr ⟨p, xs, ev, f.seq, fun hw => ?_, fun hw q o hq ho => ?_⟩
      · rw [hl] at hw
        rw [cutD_whole hw] at k
        exact k _ H3 ρ3 nn rs3 ⟨p, xs, rfl, f, r⟩
      · have n := Nxt.laid (o := .frz o (.tup (cutV xs l h))) rs3 hq
        exact k _ _ ρ3 (nn.trans n) (rs3.laid hq) ⟨q, _, rfl, .inl ⟨rs3.out hq, o, upd_same, ho⟩, RVs.nxt n _ _ (cutD_ok _ _ r)⟩
    | _ =>
      have e4 : slD x l h _ = some d := e4
      unfold slD at e4
      rw [hx] at e4
      simp only at e4
      split at e4
      · rename_i l' hs
        cases e4
        obtain ⟨p, xs, ev, f, r⟩ := seqD_list rs3 (hx ▸ rx3) hs (fun l z => by cases z)
        refine .inl ⟨p, xs, ev, f, fun q hq => ?_⟩
        have n := Nxt.laid (o := .lst (cutV xs l h)) rs3 hq
        exact k _ _ ρ3 (nn.trans n) (rs3.laid hq) ⟨q, _, rfl, ⟨rs3.out hq, upd_same⟩, RVs.nxt n _ _ (cutD_ok _ _ r)⟩
      · cases e4
/-- a, b, c = x, y, z with plain local names -/
def sPar3 (i j l : Nat) (ms : M (List Mn.D)) : S := fun env st => bnd (ms env st) fun ds st1 =>
  match ds with
  | [x, y, z] => some (.nx (((env.set i (some x)).set j (some y)).set l (some z)), st1)
  | _ => none
theorem pms_par3 {i j l : Nat} {x y z : Str} {ms : M (List Mn.D)} {px py pz pt : Pos} {kt k2 pt2} (hN : X.N.Nodup) (ha : PMA X [a, b, c] ms) (hc : X.calm = true := by rfl) (hi : X.N[i]? = some x := by rfl) (hj : X.N[j]? = some y := by rfl) (hl : X.N[l]? = some z := by rfl)
    (hij : i ≠ j := by decide) (hil : i ≠ l := by decide) (hjl : j ≠ l := by decide) (hx : X.env.scope.names.lookup x = some .local := by rfl) (hy : X.env.scope.names.lookup y = some .local := by rfl) (hz : X.env.scope.names.lookup z = some .local := by rfl)
    (hw : swappedStores [.Tuple [.Name x px, .Name y py, .Name z pz] kt pt] (.Tuple [a, b, c] k2 pt2) X.env = pure (some [x, y, z]) := by rfl)
    (hs : swapsWithSole [.Tuple [.Name x px, .Name y py, .Name z pz] kt pt] (.Tuple [a, b, c] k2 pt2) pos.line X.env = pure false := by rfl) :
    PMS X (.Assign [.Tuple [.Name x px, .Name y py, .Name z pz] kt pt] (.Tuple [a, b, c] k2 pt2) pos) (sPar3 i j l ms) :=
  imp_s (ps_par3 hc hN hi hj hl hij hil hjl hx hy hz ha hw hs) fun E σ H ⟨env, st, ρ, o, st', ro, rs, e, k⟩ => by
    obtain ⟨ds, s1, e1, e⟩ := bnd_inv e
    refine ⟨env, st, ρ, ds, s1, ro, rs, e1, fun vs H' ρ' n rs' rv => ?_⟩
    split at e
    · rename_i x y z
      cases e
      obtain ⟨v1, r1, rfl, h1, v2, r2, rfl, h2, v3, r3, rfl, h3, rfl⟩ := rv
      exact ⟨v1, v2, v3, rfl, k _ H' ρ' n rs' ((((ro.nxt n).set h1 i).set h2 j).set h3 l)⟩
    · cases e
end
/-! ### the law's end -/
/-- what is to be shown of the law's own function, in plain Lean -/
def Keeps (F : Fn) : Prop := ∀ ns : List Int, ns.length ≤ 63 → ∃ st', F [.rol (ns.map Mn.D.int)] [] = some (.bl true, st')
theorem ints_rv {K : PySem.W.Frag} {ρ : Rh} {H : Hp} : ∀ ns : List Int, RVs K ρ H (ns.map Mn.D.int) (ns.map V.int)
  | [] => rfl
  | n :: ns => ⟨.int n, ns.map V.int, rfl, rfl, ints_rv ns⟩
theorem keeps_sp {K : PySem.W.Frag} {F : Fn} (h : Keeps F) {H : Hp} {a : Addr} {ns : List Int} (hl : ns.length ≤ 63) (hS : SqL K H a (ns.map V.int)) : spF K 1 F [.ref a] H (fun v _ => v = .bl true) fun _ _ _ => False := by
  obtain ⟨st', e⟩ := h ns hl
  refine ⟨rfl, [.rol (ns.map Mn.D.int)], [], ⟨[], []⟩, .bl true, st', ⟨.ref a, [], rfl, ⟨a, ns.map V.int, rfl, .inl ⟨fun z => ?_, hS⟩, ints_rv ns⟩, rfl⟩, ⟨by simp, rfl, fun a z => (by cases z), fun i a d z => (by simp at z)⟩, e, fun v H' ρ' n rs rv => rv⟩
  rcases z with z | z <;> cases z
end
end Mn
end
section
set_option Elab.async false
set_option autoImplicit false
set_option linter.all false
set_option maxRecDepth 100000
set_option maxHeartbeats 2000000
/-! The mini layer, 10: a tuple turned about; the signs of a text; is True, is False; constants of the module that are tuples. -/
namespace Mn
noncomputable section
open PySem PySem.Spec PyProof.Rows L2
section
variable {prog : Program} {w : World} {A : Around} {E : Value → Shared → Prop} {s : Shared}
theorem adjust_back (n : Nat) : Builtin.Slice.sliceAdjust none none (-1) (n : Int) = ((n : Int) - 1, -1) := by
  unfold Builtin.Slice.sliceAdjust
  rfl
theorem places_back (n : Nat) : Builtin.Slice.slicePlaces ((n : Int) - 1) (-1) (-1) = n := by
  unfold Builtin.Slice.slicePlaces
  have h1 : ¬ ((-1 : Int) > 0) := by omega
  have h2 : (- -1 : Int) = 1 := by decide
  simp only [h1, if_false, h2, Int.ediv_one]
  split <;> omega
theorem fm_congr {α β : Type} {f g : α → Option β} : ∀ l : List α, (∀ x ∈ l, f x = g x) → l.filterMap f = l.filterMap g
  | [], _ => rfl
  | x :: l, h => by
    rw [List.filterMap_cons, List.filterMap_cons, h x (List.mem_cons_self ..), fm_congr l fun y hy => h y (List.mem_cons_of_mem _ hy)]
theorem pick_back (xs : Array Value) : ((List.range xs.size).filterMap fun (m : Nat) => xs[(((xs.size : Int) - 1) + (m : Int) * (-1)).toNat]?).toArray = xs.toList.reverse.toArray := by
  congr 1
  have e : ((List.range xs.size).filterMap fun (m : Nat) => xs[(((xs.size : Int) - 1) + (m : Int) * (-1)).toNat]?) = ((List.range xs.size).map fun k => xs.size - 1 - k).filterMap (xs[·]?) := by
    rw [List.filterMap_map]
    refine fm_congr _ fun m hm => ?_
    have := List.mem_range.mp hm
    have e2 : (((xs.size : Int) - 1) + (m : Int) * (-1)).toNat = xs.size - 1 - m := by omega
    show xs[_]? = xs[_]?
    rw [e2]
  rw [e, PySem.W.krv_range, List.filterMap_reverse, PySem.W.krv_all]
theorem getItem_tuple_back {t sl : Addr} {its : Array Value} {vl vu vs : Value} {Q : Value → Shared → Prop} (ht : IsTup s.heap t its) (hs : s.heap.IsSliceOf sl vl vu vs) (pl : IsPart vl none) (pu : IsPart vu none) (ps : IsPart vs (some (-1)))
    (q : Q (.ref s.heap.objs.size) { s with heap := s.heap.push { cls := .type "tuple", data := .seq its.toList.reverse.toArray } }) (hz : its.size ≤ sizeLine) :
    wpAny (model prog w) A (getItem (.ref t) (.ref sl)) Q E s := by
  have hfit : sizeOk (.seq its.toList.reverse.toArray) := by
    show its.toList.reverse.toArray.size ≤ sizeLine
    simpa using hz
  obtain ⟨ob, h1, h2, h3⟩ := id hs
  have hT : s.TypeIs (.ref sl) "slice" := ⟨ob, h1, h2⟩
  unfold getItem
  try with_reducible refine wpAny_holding ?_
  first | refine wpAny_bind (wpAny_pure ?_) | skip
  refine wpAny_bind (wpAny_sequenceKey ht.typeIs (by decide) ?_)
  refine wpAny_bind ?_
  refine wpAny_callSpecial?_slot (name := Str.ofString "__getitem__") ht.typeIs PyProof.Rows.slot_tuple_getitem ?_
  refine wpAny_call_entry PyProof.Rows.slot_tuple_getitem ht.typeIs entry_tuple_getitem ?_ (args_tuple_getitem _ _)
  show wpAny _ _ (Builtin.Tuple.tupleItemsOf (.ref t) >>= _) _ _ s
  refine wpAny_bind (tupleItemsOf_ ht (wpAny_bind (wpAny_typeOf hT ?_)))
  rw [if_pos (by decide)]
  refine wpAny_bind ?_
  unfold Builtin.Slice.sliceApplied Builtin.Slice.sliceFields
  refine wpAny_bind (wpAny_bind (wpAny_field h1 h3 (x := vl) rfl ?_))
  refine wpAny_bind (wpAny_field h1 h3 (x := vu) rfl ?_)
  refine wpAny_bind (wpAny_field h1 h3 (x := vs) rfl (wpAny_pure ?_))
  refine wpAny_bind (HT.slicePart_ ps ?_)
  show wpAny _ _ (if ((-1 : Int) == 0) = true then _ else _) _ _ s
  rw [if_neg (by decide)]
  refine wpAny_bind (HT.slicePart_ pl ?_)
  refine wpAny_bind (HT.slicePart_ pu ?_)
  refine wpAny_bind (wpAny_pure ?_)
  show wpAny _ _ (match Builtin.Slice.sliceAdjust none none (-1) (its.size : Int) with | (b, e) => pure (b, (-1 : Int), Builtin.Slice.slicePlaces b e (-1))) _ _ s
  rw [adjust_back]
  show wpAny _ _ (pure ((its.size : Int) - 1, (-1 : Int), Builtin.Slice.slicePlaces ((its.size : Int) - 1) (-1) (-1))) _ _ s
  rw [places_back]
  refine wpAny_pure ?_
  have no : ¬ (((its.size : Int) - 1 == 0 && (-1 : Int) == 1 && its.size == its.size) = true) := by
    have : ((-1 : Int) == 1) = false := by decide
    rw [this]
    simp
  show wpAny _ _ (if ((its.size : Int) - 1 == 0 && (-1 : Int) == 1 && its.size == its.size) = true then _ else _) _ _ s
  rw [if_neg no, pick_back]
  first
    | exact wpAny_bind (m := Builtin.Tuple.tupleExact _) (wpAny_newObj_type (wpAny_pure ⟨_, rfl, wpAny_pure q⟩) hfit)
    | exact wpAny_bind (m := Builtin.Tuple.tupleExact _) (wpAny_newObj_type (wpAny_bind (wpAny_pure (wpAny_pure ⟨_, rfl, wpAny_pure q⟩))) hfit)
    | exact wpAny_bind (wpAny_bind (m := Builtin.Tuple.tupleExact _) (wpAny_newObj_type (wpAny_pure (wpAny_pure ⟨_, rfl, wpAny_pure q⟩)) hfit))
    | exact wpAny_bind (wpAny_bind (m := Builtin.Tuple.tupleExact _) (wpAny_newObj_type (wpAny_pure ⟨_, rfl, wpAny_pure q⟩) hfit))
end
section
variable {X : Cx}
/-- t[::-1] -/
def tRevT (K : PySem.W.Frag) (te : TE) : TE := fun σ H Q => te σ H fun x H1 => ∃ a xs, x = .ref a ∧ SqT K H1 a xs ∧ ∀ p o, H1 p = none → o.dict = none → Q (.ref p) (upd H1 p (.frz o (.tup xs.reverse)))
theorem pe_revT {e : Expr} {te : TE} {k : Nat} {p1 p2 p3 pos : Pos} (he : PE X e te) : PE X (.Subscript e (.Slice none none (some (.UnaryOp .USub (.Constant (.int 1) k p1) p2)) p3) pos) (tRevT X.K te) := by
  refine ⟨fun pins s σ H Q I h => ?_⟩
  refine Subscript_ (thn (he.run pins s σ H _ I h) fun v s1 ⟨x, H1, I1, r1, q1⟩ => ?_)
  obtain ⟨a, xs, ex, hx, q⟩ := q1
  subst ex
  cases r1
  have hst : PO X (some (.UnaryOp .USub (.Constant (.int 1) k p1) p2)) (tPart (tUn (rU fun i => .int (-i)) (tC (.int 1)))) := po_some (pe_un un_neg pe_int)
  refine wpAny_Slice (thn (po_none.run pins s1 σ H1 (fun o J => o = none ∧ J = H1) I1 ⟨rfl, rfl⟩) fun vl s2 ⟨l, H2, I2, pl, el, e2⟩ => ?_)
  subst el e2
  refine thn (po_none.run pins s2 σ H2 (fun o J => o = none ∧ J = H2) I2 ⟨rfl, rfl⟩) fun vu s3 ⟨u, H3, I3, pu, eu, e3⟩ => ?_
  subst eu e3
  refine thn (hst.run pins s3 σ H3 (fun o J => o = some (-1) ∧ J = H3) I3 ⟨1, rfl, -1, rfl, rfl, rfl⟩) fun vs s4 ⟨o, H4, I4, ps, eo, e4⟩ => ?_
  subst eo e4
  have I5 : Inv X pins σ H4 { s4 with heap := s4.heap.push { cls := .type "slice", data := .fields #[vl, vu, vs] } } := I4.kept (t' := s4.toks) fun b ob q => Heap.get?_push_of_some _ q
  obtain ⟨its, r, ht, hz⟩ := I5.tuple hx
  have hlen := r.length
  show wpAny (model X.prog X.w) X.A (subscriptTail e (.Slice none none (some (.UnaryOp .USub (.Constant (.int 1) k p1) p2)) p3) (.ref a) (.ref s4.heap.objs.size)) (EP X pins σ Q) X.xe { s4 with heap := s4.heap.push { cls := .type "slice", data := .fields #[vl, vu, vs] } }
  refine tail_any (ops := [.ref a, .ref s4.heap.objs.size]) ht.typeIs (PyProof.Rows.slot_tuple_getitem.lookup) ?_ (by with_unfolding_all rfl)
  refine getItem_tuple_back ht (Heap.IsSliceOf.new _ vl vu vs) pl pu ps ?_ (by rw [List.size_toArray]; omega)
  refine ⟨.ref _, _, I5.laid (t' := s4.toks) (o := .frz { cls := .type "tuple", data := .seq its.toArray.toList.reverse.toArray } (.tup xs.reverse)) (fun b ob q => Heap.get?_push_of_some _ q) (Nat.le_refl _) ?_, rfl, q _ _ (I5.hok.fresh (Nat.le_refl _)) rfl⟩
  exact ⟨Heap.get?_push_size _ rfl, by rw [List.length_reverse]; exact hz, _, r.reverse, IsTup.new _ _⟩
def mRev (m : M Mn.D) : M Mn.D := fun env st => bnd (m env st) fun x st1 =>
  match x with
  | .tup l => some (.tup l.reverse, st1)
  | _ => none
theorem RVs.reverse {K : PySem.W.Frag} {ρ : Rh} {H : Hp} : ∀ {ds : List Mn.D} {vs : List V}, RVs K ρ H ds vs → RVs K ρ H ds.reverse vs.reverse
  | [], _, h => by subst h; rfl
  | d :: ds, _, ⟨v, r, e, h, t⟩ => by
    subst e
    rw [List.reverse_cons, List.reverse_cons]
    exact RVs.append (RVs.reverse t) (RVs.one h)
theorem pm_rev {a : Expr} {ma : M Mn.D} {k : Nat} {p1 p2 p3 pos : Pos} (ha : PM X a ma) : PM X (.Subscript a (.Slice none none (some (.UnaryOp .USub (.Constant (.int 1) k p1) p2)) p3) pos) (mRev ma) :=
  imp_e (pe_revT ha) fun σ H Q ⟨env, st, ρ, d, st', ro, rs, e, q⟩ => by
    obtain ⟨x, s1, e1, e⟩ := bnd_inv e
    cases x with
    | tup ds =>
      cases e
      refine ⟨env, st, ρ, _, _, ro, rs, e1, fun vx H1 ρ1 n1 rs1 rx => ?_⟩
      obtain ⟨p, xs, ev, f, r⟩ := rx
      refine ⟨p, xs, ev, f.seq, fun z o hz ho => ?_⟩
      have n := Nxt.laid (o := .frz o (.tup xs.reverse)) rs1 hz
      exact q _ _ ρ1 (n1.trans n) (rs1.laid hz) ⟨z, _, rfl, .inl ⟨rs1.out hz, o, upd_same, ho⟩, RVs.nxt n _ _ (RVs.reverse r)⟩
    | _ => cases e
/-- the signs of a text -/
def signsD (x : Str) : List Mn.D := x.cps.toList.map fun c => .str ⟨#[c]⟩
def miTxt (m : M Mn.D) : M (List Mn.D) := fun env st => bnd (m env st) fun x st1 =>
  match x with
  | .str z => some (signsD z, st1)
  | _ => none
theorem txt_ok (K : PySem.W.Frag) (x : Str) (ρ : Rh) (H : Hp) : ItOk K (Its x) ρ H (signsD x).length (Items (signsD x)) := by
  have hl : (signsD x).length = x.cps.size := by simp [signsD]
  rw [hl]
  refine ⟨fun i ρ' H' n' hi => hi, fun ρ' H' n' => Nat.le_refl _, fun i ρ' H' v H2 st n' rs hi hy => ?_⟩
  obtain ⟨e1, c, e2, e3⟩ := hy
  subst e1; subst e3
  refine ⟨.str ⟨#[c]⟩, ?_, rfl, Nxt.refl _ _, rs⟩
  show (signsD x)[i]? = _
  unfold signsD
  rw [List.getElem?_map, Array.getElem?_toList, e2]
  rfl
theorem pmi_txt {tg e : Expr} {m : M Mn.D} (h : PM X e m) : PMI X tg e (miTxt m) :=
  imp_i (pi_str h) fun σ H R ⟨env, st, ρ, ds, st', ro, rs, e, k⟩ => by
    obtain ⟨d, s1, e1, e⟩ := bnd_inv e
    cases d with
    | str x =>
      cases e
      exact ⟨env, st, ρ, _, _, ro, rs, e1, fun v H' ρ' n rs' rv => ⟨x, rv, k _ H' ρ' n rs' (txt_ok X.K x ρ' H')⟩⟩
    | _ => cases e
/-- is True, is False -/
def oIsB : O2 := fun x y _ =>
  match x, y with
  | .bl a, .bl b => some (.bl (decide (a = b)))
  | _, _ => none
def oIsNotB : O2 := fun x y _ =>
  match x, y with
  | .bl a, .bl b => some (.bl (!decide (a = b)))
  | _, _ => none
theorem o_isB : OpR X (compareOp .Is) (fun x y H Q => ∃ a b, x = .bl a ∧ y = .bl b ∧ Q (.bl (decide (a = b))) H) ∧ RefO X.K (fun x y H Q => ∃ a b, x = .bl a ∧ y = .bl b ∧ Q (.bl (decide (a = b))) H) oIsB := ⟨op_is_bl, fun ρ st H dx dy d x y Q rs rx ry e k => by
  cases dx with
  | bl a =>
    cases dy with
    | bl b => cases e; exact ⟨a, b, rx, ry, k _ H (Nxt.refl _ _) rs rfl⟩
    | _ => cases e
  | _ => cases e⟩
theorem o_isNotB : OpR X (compareOp .IsNot) (fun x y H Q => ∃ a b, x = .bl a ∧ y = .bl b ∧ Q (.bl (!decide (a = b))) H) ∧ RefO X.K (fun x y H Q => ∃ a b, x = .bl a ∧ y = .bl b ∧ Q (.bl (!decide (a = b))) H) oIsNotB := ⟨op_isnot_bl, fun ρ st H dx dy d x y Q rs rx ry e k => by
  cases dx with
  | bl a =>
    cases dy with
    | bl b => cases e; exact ⟨a, b, rx, ry, k _ H (Nxt.refl _ _) rs rfl⟩
    | _ => cases e
  | _ => cases e⟩
end
/-! constants of the module -/
section
variable {K : PySem.W.Frag} {mg : Str → Option Value} {x : Str}
theorem glob_int {i : Int} {t : Tok} (h : mg x = some (.int i t)) : GlobM K mg x (.int i) := ⟨_, .int i, h, ⟨_, rfl⟩, fun _ _ => rfl⟩
theorem glob_str {y : Str} {t : Tok} (h : mg x = some (.str y t)) : GlobM K mg x (.str y) := ⟨_, .str y, h, ⟨_, rfl⟩, fun _ _ => rfl⟩
theorem glob_pair {g : Addr} {i j : Int} {t u : Tok} {n : Nat} {sl : Array (Option Value)} (h : mg x = some (.ref g)) (l : K.lookup g = some ⟨.type "tuple", none, .seq #[.int i t, .int j u] n, sl⟩) : GlobM K mg x (.tup [.int i, .int j]) :=
  ⟨_, .ref g, h, rfl, fun ρ H => ⟨g, [.int i, .int j], rfl, .inr ⟨⟨_, l, rfl⟩, fun H' => .inr ⟨_, _, _, l, rfl, rfl, by show 2 ≤ sizeLine; decide, .cons ⟨_, rfl⟩ (.cons ⟨_, rfl⟩ .nil)⟩⟩, ⟨_, _, rfl, rfl, _, _, rfl, rfl, rfl⟩⟩⟩
end
end
end Mn
end
section
set_option Elab.async false
set_option autoImplicit false
set_option linter.all false
set_option maxRecDepth 100000
set_option maxHeartbeats 2000000
/-! The mini layer, 11: dicts with tuples (of tuples) as keys. -/
namespace Mn
noncomputable section
open PySem PySem.Spec PyProof.Rows L2
section
variable {X : Cx} {pins : List (Addr × Obj)} {σ : L2.St} {H : Hp} {s : Shared} {ρ : Rh}
mutual
theorem nested_is (I : Inv X pins σ H s) : ∀ (d : Mn.D) (v : V) (u : Value) (k : NestedKey), nkey d = some k → RV X.K ρ H d v → RelV v u → NestedIs s.heap k u
  | .non, _, _, _, e, h, r => by cases e; cases h; cases (show _ = Value.none from r); exact .none
  | .int i, _, _, _, e, h, r => by cases e; cases h; obtain ⟨t, rfl⟩ := r; exact .int i t
  | .str x, _, _, _, e, h, r => by cases e; cases h; obtain ⟨t, rfl⟩ := r; exact .text x t
  | .tup ds, _, _, k, e, ⟨a, xs, ev, f, q⟩, r => by
    subst ev
    cases (show _ = Value.ref a from r)
    obtain ⟨its, ri, ht, hz⟩ := I.tuple f.seq
    have e : (nkeys ds).map NestedKey.tup = some k := by rw [← e]; rfl
    obtain ⟨ks, hk, rfl⟩ := Option.map_eq_some_iff.mp e
    obtain ⟨o, h1, h2, n, h3⟩ := ht
    exact .tup h1 h2 h3 (nested_all I ds xs its ks hk q ri)
  | .bl _, _, _, _, e, _, _ => by cases e
  | .lst _, _, _, _, e, _, _ => by cases e
  | .rol _, _, _, _, e, _, _ => by cases e
  | .dic _, _, _, _, e, _, _ => by cases e
  | .loc _, _, _, _, e, _, _ => by cases e
  | .ptl _, _, _, _, e, _, _ => by cases e
  | .dit _ _, _, _, _, e, _, _ => by cases e
  | .dkl _, _, _, _, e, _, _ => by cases e
theorem nested_all (I : Inv X pins σ H s) : ∀ (ds : List Mn.D) (vs : List V) (us : List Value) (ks : List NestedKey), nkeys ds = some ks → RVs X.K ρ H ds vs → Vals vs us → NestedAll s.heap ks us
  | [], _, _, _, e, h, r => by
    have e : some [] = some _ := e
    cases e
    cases h
    cases r
    exact .nil
  | d :: ds, _, _, ks, e, ⟨v, vr, ev, h, t⟩, r => by
    subst ev
    cases r with
    | cons r1 r2 =>
      unfold nkeys at e
      split at e
      · rename_i k1 ks1 e1 e2
        cases e
        exact .cons (nested_is I d v _ k1 e1 h r1) (nested_all I ds vr _ ks1 e2 t r2)
      · cases e
end
end
/-! ### looking up and storing -/
def lkN : List (Mn.D × Mn.D) → NestedKey → Option Mn.D
  | [], _ => none
  | (j, d) :: r, k => if nkey j = some k then some d else lkN r k
/-- the value of the key k is replaced -/
def repN (k : NestedKey) (d : Mn.D) : List (Mn.D × Mn.D) → List (Mn.D × Mn.D)
  | [] => []
  | (j, e) :: r => (j, if nkey j = some k then d else e) :: repN k d r
def putN (l : List (Mn.D × Mn.D)) (kd : Mn.D) (k : NestedKey) (d : Mn.D) : List (Mn.D × Mn.D) := if (lkN l k).isSome = true then repN k d l else l ++ [(kd, d)]
section
variable {K : PySem.W.Frag} {ρ : Rh} {H : Hp}
theorem rvn_lk {k : NestedKey} : ∀ {ks : List (Mn.D × Mn.D)} {xs : List (NestedKey × Addr × Value)}, RVn K ρ H ks xs → (lkN ks k).isSome = (atKey xs k).isSome ∧ ∀ d, lkN ks k = some d → ∃ p v, atKey xs k = some p ∧ RelV v p.2 ∧ RV K ρ H d v
  | [], _, h => by subst h; exact ⟨rfl, fun d e => by cases e⟩
  | (j, d) :: ks, _, ⟨k', b, u, r, v, e, h1, h2, h3, h4, h5, t⟩ => by
    subst e
    obtain ⟨i1, i2⟩ := rvn_lk (k := k) t
    unfold lkN
    by_cases c : k' = k
    · subst c
      rw [if_pos h1]
      have ea : atKey ((k', b, u) :: r) k' = some (b, u) := by simp [atKey]
      rw [ea]
      exact ⟨rfl, fun d' e => by cases e; exact ⟨_, v, rfl, h4, h5⟩⟩
    · have c2 : ¬ nkey j = some k := fun z => c (Option.some.inj (h1.symm.trans z))
      rw [if_neg c2]
      have ea : atKey ((k', b, u) :: r) k = atKey r k := by simp [atKey, List.find?_cons, c]
      rw [ea]
      exact ⟨i1, i2⟩
theorem rvn_rep {k : NestedKey} {d : Mn.D} {v : V} {u : Value} (hu : RelV v u) (hd : RV K ρ H d v) : ∀ {ks : List (Mn.D × Mn.D)} {xs : List (NestedKey × Addr × Value)}, RVn K ρ H ks xs → RVn K ρ H (repN k d ks) (xs.map (putAt k u))
  | [], _, h => by subst h; rfl
  | (j, e) :: ks, _, ⟨k', b, u', r, v', ee, h1, h2, h3, h4, h5, t⟩ => by
    subst ee
    rw [List.map_cons]
    by_cases c : k' = k
    · subst c
      have e1 : putAt k' u (k', b, u') = (k', b, u) := by simp [putAt]
      have e2 : repN k' d ((j, e) :: ks) = (j, d) :: repN k' d ks := by
        show (j, if nkey j = some k' then d else e) :: _ = _
        rw [if_pos h1]
      rw [e1, e2]
      exact ⟨k', b, u, _, v, rfl, h1, h2, h3, hu, hd, rvn_rep hu hd t⟩
    · have c2 : ¬ nkey j = some k := fun z => c (Option.some.inj (h1.symm.trans z))
      have e1 : putAt k u (k', b, u') = (k', b, u') := by simp [putAt, c]
      have e2 : repN k d ((j, e) :: ks) = (j, e) :: repN k d ks := by
        show (j, if nkey j = some k then d else e) :: _ = _
        rw [if_neg c2]
      rw [e1, e2]
      exact ⟨k', b, u', _, v', rfl, h1, h2, h3, h4, h5, rvn_rep hu hd t⟩
theorem rvn_snoc {k : NestedKey} {kd d : Mn.D} {b : Addr} {v : V} {u : Value} (hk : nkey kd = some k) (h8 : k.depth ≤ 8) (hkd : RV K ρ H kd (.ref b)) (hu : RelV v u) (hd : RV K ρ H d v) : ∀ {ks : List (Mn.D × Mn.D)} {xs : List (NestedKey × Addr × Value)}, RVn K ρ H ks xs → RVn K ρ H (ks ++ [(kd, d)]) (xs ++ [(k, b, u)])
  | [], _, h => by subst h; exact ⟨k, b, u, [], v, rfl, hk, h8, hkd, hu, hd, rfl⟩
  | (j, e) :: ks, _, ⟨k', b', u', r, v', ee, h1, h2, h3, h4, h5, t⟩ => by
    subst ee
    exact ⟨k', b', u', _, v', rfl, h1, h2, h3, h4, h5, rvn_snoc hk h8 hkd hu hd t⟩
theorem rvn_put {k : NestedKey} {kd d : Mn.D} {b : Addr} {v : V} {u : Value} (hk : nkey kd = some k) (h8 : k.depth ≤ 8) (hkd : RV K ρ H kd (.ref b)) (hu : RelV v u) (hd : RV K ρ H d v) {ks : List (Mn.D × Mn.D)} {xs : List (NestedKey × Addr × Value)} (h : RVn K ρ H ks xs) : RVn K ρ H (putN ks kd k d) (storedH xs k b u) := by
  unfold putN storedH
  rw [(rvn_lk (k := k) h).1]
  split
  · exact rvn_rep hu hd h
  · exact rvn_snoc hk h8 hkd hu hd h
theorem RVn.length : ∀ {ks : List (Mn.D × Mn.D)} {xs : List (NestedKey × Addr × Value)}, RVn K ρ H ks xs → xs.length = ks.length
  | [], _, h => by subst h; rfl
  | (j, e) :: ks, _, ⟨k', b', u', r, v', ee, h1, h2, h3, h4, h5, t⟩ => by
    subst ee
    simp [RVn.length t]
theorem storedH_len (xs : List (NestedKey × Addr × Value)) (k : NestedKey) (b : Addr) (u : Value) : (storedH xs k b u).length ≤ xs.length + 1 := by
  unfold storedH
  split <;> simp
end
section
variable {X : Cx} {pins : List (Addr × Obj)} {σ : L2.St} {H : Hp} {s : Shared} {ρ : Rh} {st : Store}
theorem rvn_keys (I : Inv X pins σ H s) : ∀ {ks : List (Mn.D × Mn.D)} {xs : List (NestedKey × Addr × Value)}, RVn X.K ρ H ks xs → ∀ x ∈ xs, NestedIs s.heap x.1 (.ref x.2.1) ∧ x.1.depth ≤ 8
  | [], _, h => by subst h; exact fun x hx => (List.not_mem_nil hx).elim
  | (kd, d) :: ks, _, ⟨k, b, u, r', v, ee, q1, q2, q3, q4, q5, t⟩ => by
    subst ee
    intro x hx
    rcases List.mem_cons.mp hx with rfl | hx
    · exact ⟨nested_is I kd _ _ k q1 q3 rfl, q2⟩
    · exact rvn_keys I t x hx
/-- a dict of the store, in the heap -/
theorem dit_of (I : Inv X pins σ H s) {a : Addr} {ks : List (Mn.D × Mn.D)} {o : Obj} {xs : List (NestedKey × Addr × Value)} (e : H a = some (.ext (rawN a o))) (r : RVn X.K ρ H ks xs) (q : DictO X.w o xs) (nd : (xs.map (·.1)).Nodup) : s.heap.DictOfH (nestedKind X.prog X.w) a xs := by
  obtain ⟨h1, _, _⟩ := I.hok a _ e
  obtain ⟨h2, es, ep, h3, h4⟩ := q
  exact ⟨o, es, ep, h1, h2, h3, h4, rvn_keys I r, nd⟩
end
section
variable {X : Cx}
/-- a key that stands in the heap -/
def KeyN (K : PySem.W.Frag) (H : Hp) (b : Addr) (k : NestedKey) : Prop := ∃ (ρ : Rh) (kd : Mn.D), nkey kd = some k ∧ k.depth ≤ 8 ∧ RV K ρ H kd (.ref b)
/-- the dict at a -/
def DitN (w : World) (K : PySem.W.Frag) (H : Hp) (a : Addr) (xs : List (NestedKey × Addr × Value)) : Prop := ∃ (ρ : Rh) (ks : List (Mn.D × Mn.D)) (o : Obj), H a = some (.ext (rawN a o)) ∧ RVn K ρ H ks xs ∧ DictO w o xs ∧ (xs.map (·.1)).Nodup ∧ xs.length ≤ 16777216 ∧ (a == sysModules) = false
theorem KeyN.is {pins : List (Addr × Obj)} {σ : L2.St} {H : Hp} {s : Shared} {b : Addr} {k : NestedKey} (I : Inv X pins σ H s) (h : KeyN X.K H b k) : (nestedKind X.prog X.w).is s.heap k b := by
  obtain ⟨ρ, kd, h1, h2, h3⟩ := h
  exact ⟨nested_is I kd _ _ k h1 h3 rfl, h2⟩
theorem DitN.of {pins : List (Addr × Obj)} {σ : L2.St} {H : Hp} {s : Shared} {a : Addr} {xs : List (NestedKey × Addr × Value)} (I : Inv X pins σ H s) (h : DitN X.w X.K H a xs) : s.heap.DictOfH (nestedKind X.prog X.w) a xs := by
  obtain ⟨ρ, ks, o, h1, h2, h3, h4, _⟩ := h
  exact dit_of I h1 h2 h3 h4
theorem room_nest {A : Around} (hu : A.units + 64 < cLine) : (nestedKind X.prog X.w).room A.in1 := by
  show A.in1.units + 8 < cLine
  have : A.in1.units ≤ A.units + 1 := Nat.le_refl _
  omega
def rIxN (w : World) (K : PySem.W.Frag) : R2 := fun x y H Q => ∃ (a b : Addr) (xs : List (NestedKey × Addr × Value)) (k : NestedKey) (p : Addr × Value) (v : V), x = .ref a ∧ y = .ref b ∧ DitN w K H a xs ∧ KeyN K H b k ∧ atKey xs k = some p ∧ RelV v p.2 ∧ Q v H
theorem ix_nest (hu : X.A.units + 64 < cLine) : IxR X (rIxN X.w X.K) := by
  intro value slice pins s σ H x y v u Q I rx ry h hs
  obtain ⟨a, b, xs, k, p, r, rfl, rfl, hd, hk, hp, hr, q⟩ := h
  cases rx
  cases ry
  have dd := hd.of I
  exact tail_any dd.typeIs PySem.F.slot_dict_getitem.lookup (wpAny_getItem_heap (room_nest hu) (hk.is I) dd hp ⟨r, H, I.tok _, hr, q⟩) hs
def rSetN (w : World) (K : PySem.W.Frag) : V → V → V → Hp → (Hp → Prop) → Prop := fun o i v H Q => ∃ (a b : Addr) (xs : List (NestedKey × Addr × Value)) (k : NestedKey), o = .ref a ∧ i = .ref b ∧ DitN w K H a xs ∧ KeyN K H b k ∧ xs.length < 16777216 ∧
  ∀ u o', RelV v u → DictO w o' (storedH xs k b u) → Q (upd H a (.ext (rawN a o')))
theorem set_nest (hu : X.A.units + 64 < cLine) : PSet X (rSetN X.w X.K) := by
  intro pins s σ H o i v ov iv u Q I ro ri rv h
  obtain ⟨a, b, xs, k, rfl, rfl, hd, hk, hl, q⟩ := h
  cases ro
  cases ri
  have dd := hd.of I
  refine wpAny_setItem_heap (hsz := sz1m' (Nat.le_of_lt hl)) (room_nest hu) (hk.is I) dd fun h' dd' hs => ?_
  obtain ⟨ob, es, ep, h1, h2, h3, h4, h5, h6⟩ := dd'
  obtain ⟨ρ, ks, o0, e1, _⟩ := hd
  exact ⟨_, d_write (ob := .ext (rawN a ob)) I (by rw [e1]; exact True.intro) hs ⟨ob, h1⟩ ⟨h1, ⟨ob, h1⟩, fun g1 g2 p hh => hh _ p⟩, q u ob rv ⟨h2, es, ep, h3, h4⟩⟩
end
/-! ### as functions over the store -/
/-- the place of a dict of the world w, and the key -/
def ditA (w : World) (x y : Mn.D) (st : Store) : Option (Nat × List (Mn.D × Mn.D) × NestedKey) :=
  match x, y with
  | .loc n, .tup ds => (match st[n]? with
    | some (.dit w' ks) => (match nkey (.tup ds) with
      | some k => @ite _ (w' = w ∧ k.depth ≤ 8) (Classical.propDecidable _) (some (n, ks, k)) none
      | none => none)
    | _ => none)
  | _, _ => none
theorem ditA_inv {w : World} {x y : Mn.D} {st : Store} {n : Nat} {ks : List (Mn.D × Mn.D)} {k : NestedKey} (e : ditA w x y st = some (n, ks, k)) : x = .loc n ∧ st[n]? = some (.dit w ks) ∧ (∃ ds, y = .tup ds) ∧ nkey y = some k ∧ k.depth ≤ 8 := by
  unfold ditA at e
  split at e
  · rename_i n' ds
    split at e
    · rename_i w' ks' h1
      split at e
      · rename_i k' h2
        split at e
        · rename_i h3
          cases e
          obtain ⟨rfl, h4⟩ := h3
          exact ⟨rfl, h1, ⟨ds, rfl⟩, h2, h4⟩
        · cases e
      · cases e
    · cases e
  · cases e
section
variable {K : PySem.W.Frag} {w : World}
theorem ditA_ok {ρ : Rh} {st : Store} {H : Hp} {dx dy : Mn.D} {x y : V} {n : Nat} {ks : List (Mn.D × Mn.D)} {k : NestedKey} (rs : RepSt K ρ st H) (rx : RV K ρ H dx x) (ry : RV K ρ H dy y) (e : ditA w dx dy st = some (n, ks, k)) :
    ∃ a b xs, x = .ref a ∧ y = .ref b ∧ ρ.l[n]? = some a ∧ DitN w K H a xs ∧ RVn K ρ H ks xs ∧ KeyN K H b k ∧ RV K ρ H dy (.ref b) := by
  obtain ⟨rfl, h1, ⟨ds, rfl⟩, h2, h3⟩ := ditA_inv e
  obtain ⟨a, ex, hl, ro⟩ := rs.at rx h1
  obtain ⟨⟨o, xs⟩, q1, q2, q3, q4, q5, q6⟩ := ro
  obtain ⟨b, vs, ey, f, r⟩ := ry
  subst ey
  exact ⟨a, b, xs, ex, rfl, hl, ⟨ρ, ks, o, q1, q2, q3, q4, q5, q6⟩, q2, ⟨ρ, .tup ds, h2, h3, ⟨b, vs, rfl, f, r⟩⟩, ⟨b, vs, rfl, f, r⟩⟩
def ixDN (w : World) : O2 := fun x y st => match ditA w x y st with
  | some (_, ks, k) => lkN ks k
  | none => none
theorem ixDN_ref : RefO K (rIxN w K) (ixDN w) := fun ρ st H dx dy d x y Q rs rx ry e k => by
  unfold ixDN at e
  split at e
  · rename_i n ks q h
    obtain ⟨a, b, xs, e1, e2, hl, hd, hr, hk, _⟩ := ditA_ok rs rx ry h
    obtain ⟨p, v, h1, h2, h3⟩ := (rvn_lk hr).2 d e
    exact ⟨a, b, xs, q, p, v, e1, e2, hd, hk, h1, h2, k v H (Nxt.refl _ _) rs h3⟩
  · cases e
def setN (w : World) (o i v : Mn.D) (st : Store) : Option Store := match ditA w o i st with
  | some (n, ks, k) => @ite _ (ks.length < 16777216) (Classical.propDecidable _) (some (st.set n (.dit w (putN ks i k v)))) none
  | none => none
theorem storedH_nodup {xs : List (NestedKey × Addr × Value)} {k : NestedKey} {b : Addr} {u : Value} (h : (xs.map (·.1)).Nodup) : ((storedH xs k b u).map (·.1)).Nodup := by
  unfold storedH
  split
  · have : (xs.map (putAt k u)).map (·.1) = xs.map (·.1) := by
      rw [List.map_map]
      refine List.map_congr_left fun x _ => ?_
      by_cases h : x.1 = k <;> simp [putAt, h]
    rw [this]
    exact h
  · rename_i hn
    rw [List.map_append, List.nodup_append]
    refine ⟨h, by simp, fun c hc d hd => ?_⟩
    simp at hd
    subst hd
    intro ec
    subst ec
    obtain ⟨x, hx, rfl⟩ := List.mem_map.mp hc
    refine hn ?_
    unfold atKey
    rw [Option.isSome_map, List.find?_isSome]
    exact ⟨x, hx, by simp⟩
theorem setN_ok {ρ : Rh} {H : Hp} {st st' : Store} {dO dI dV : Mn.D} {o i v : V} {Q : Hp → Prop} (rs : RepSt K ρ st H) (ro : RV K ρ H dO o) (ri : RV K ρ H dI i) (rv : RV K ρ H dV v) (e : setN w dO dI dV st = some st')
    (k : ∀ H', Nxt ρ H ρ H' → RepSt K ρ st' H' → Q H') : rSetN w K o i v H Q := by
  unfold setN at e
  split at e
  · rename_i n ks q h
    split at e
    · rename_i hz
      cases e
      obtain ⟨a, b, xs, e1, e2, hl, hd, hr, hk, hkd⟩ := ditA_ok rs ro ri h
      obtain ⟨_, h1, _, h2, h3⟩ := ditA_inv h
      have len := RVn.length hr
      obtain ⟨ρ0, ks0, o0, p1, p2, pd, p3, p4, p5⟩ := hd
      refine ⟨a, b, xs, q, e1, e2, ⟨ρ0, ks0, o0, p1, p2, pd, p3, p4, p5⟩, hk, by omega, fun u o' hu ho' => ?_⟩
      have hm : a ∈ ρ.l := List.mem_of_getElem? hl
      have nx : Nxt ρ H ρ (upd H a (.ext (rawN a o'))) := Nxt.write rs hm
      refine k _ nx (rs.write hl ⟨(o', storedH xs q b u), upd_same, rvn_put h2 h3 (RV.nxt nx _ _ hkd) hu (RV.nxt nx _ _ rv) (RVn.nx0 nx.toNx0 _ _ hr), ho', storedH_nodup p3, ?_, p5⟩)
      have := storedH_len xs q b u
      show (storedH xs q b u).length ≤ 16777216
      omega
    · cases e
  · cases e
end
/-! ### the rules -/
section
variable {X : Cx} {a b o i : Expr} {ma mb mo mi : M Mn.D} {pos : Pos}
theorem pm_ixDN (hu : X.A.units + 64 < cLine) (ha : PM X a ma) (hb : PM X b mb) (hs : PlainIx b := by exact fun _ _ => rfl) : PM X (.Subscript a b pos) (mOp (ixDN X.w) ma mb) :=
  imp_e (pe_ix (ix_nest hu) ha hb hs) fun _ _ _ h => op_core ixDN_ref h
def gSetN (w : World) (mo mi : M Mn.D) : G := fun v env st => bnd (mo env st) fun o st1 => bnd (mi env st1) fun i st2 => match setN w o i v st2 with
  | some st3 => some (env, st3)
  | none => none
theorem pmg_subN (hu : X.A.units + 64 < cLine) (ho : PM X o mo) (hi : PM X i mi)
    (ha : ∀ v, assign (.Subscript o i pos) X.env v = (do
      let x ← holding [v] (eval o X.env)
      let y ← holding [v, x] (eval i X.env)
      standAt pos
      holding [v, x, y] (setItem x y v)
      release [v, x, y] []) := by intro _; rfl) : PMG X (.Subscript o i pos) [] (gSetN X.w mo mi) :=
  imp_g (pg_sub ho hi (set_nest hu) ha) fun v σ H Q ⟨d, env, st, ρ, env', st', rv, ro, rs, e, k⟩ => by
    obtain ⟨x, s1, e1, e⟩ := bnd_inv e
    obtain ⟨y, s2, e2, e⟩ := bnd_inv e
    refine ⟨env, st, ρ, x, s1, ro, rs, e1, fun vx H1 ρ1 n1 rs1 rx => ⟨env, s1, ρ1, y, s2, ro.nxt n1, rs1, e2, fun vy H2 ρ2 n2 rs2 ry => ?_⟩⟩
    split at e
    · rename_i s3 h3
      cases e
      exact setN_ok rs2 (RV.nxt n2 _ _ rx) ry (RV.nxt (n1.trans n2) _ _ rv) h3 fun H3 n3 rs3 => k σ H3 ρ2 (OnlyAt.refl _ _) ((n1.trans n2).trans n3) rs3 (ro.nxt ((n1.trans n2).trans n3))
    · cases e
end
/-! {} and d.get(k, z) -/
section
variable {X : Cx} {o e f : Expr} {apos cpos pos : Pos} {td ty tx : TE} {mo mk mx : M Mn.D}
def tNewN (w : World) : TE := fun _ H Q => ∀ p o, H p = none → (p == sysModules) = false → DictO w o [] → Q (.ref p) (upd H p (.ext (rawN p o)))
theorem pe_newN : PE X (.Dict [] [] pos) (tNewN X.w) := ⟨fun pins s σ H Q I h => by
  have hb : (s.heap.objs.size == sysModules) = false := beq_eq_false_iff_ne.mpr (Ne.symm (Nat.ne_of_lt I.big))
  exact wpAny_Dict_empty ⟨.ref s.heap.objs.size, _, I.laid (a := s.heap.objs.size) (o := .ext (rawN s.heap.objs.size { cls := .type "dict", data := .dict #[] })) (t' := s.toks) (fun _ _ q => Heap.get?_push_of_some _ q) (Nat.le_refl _) ⟨Heap.get?_push_size _ rfl, ⟨_, Heap.get?_push_size _ rfl⟩, fun g1 g2 p hh => hh _ p⟩, rfl, h _ _ (I.hok.fresh (Nat.le_refl _)) hb ⟨⟨rfl, rfl, rfl⟩, #[], 0, rfl, rfl⟩⟩⟩
def mDitN (w : World) : M Mn.D := fun _ st => some (.loc st.length, st ++ [.dit w []])
theorem pm_ditN : PM X (.Dict [] [] pos) (mDitN X.w) := imp_e pe_newN fun σ H Q ⟨env, st, ρ, d, st', ro, rs, e, k⟩ p o hp hs ho => by
  cases e
  refine k _ _ (ρ.add p) (Nxt.alloc rs hp) (rs.alloc hp ⟨(o, []), upd_same, rfl, ho, List.nodup_nil, Nat.zero_le _, hs⟩) ⟨p, rfl, ?_⟩
  rw [← rs.len]
  simp [Rh.add]
theorem DitN.at {pins : List (Addr × Obj)} {σ : L2.St} {H : Hp} {s : Shared} {a : Addr} {xs : List (NestedKey × Addr × Value)} (I : Inv X pins σ H s) (h : DitN X.w X.K H a xs) :
    s.TypeIs (.ref a) "dict" ∧ (∀ b, Value.ref a = .ref b → ∃ ob, s.heap.get? b = some ob ∧ ob.dict = none) ∧ (a == sysModules) = false := by
  have dd := h.of I
  obtain ⟨ρ, ks, _, _, _, _, _, _, hs⟩ := h
  refine ⟨dd.typeIs, fun b q => ?_, hs⟩
  cases q
  obtain ⟨ob, _, _, h1, h2, _⟩ := dd
  exact ⟨ob, h1, h2.2.1⟩
def tGet2N (w : World) (K : PySem.W.Frag) (td ty tx : TE) : TE := fun σ H Q => td σ H fun x H1 => ∃ a, x = .ref a ∧ (∃ xs, DitN w K H1 a xs) ∧ ty σ H1 fun y H2 => tx σ H2 fun z H3 =>
  ∃ (b : Addr) (xs : List (NestedKey × Addr × Value)) (k : NestedKey) (v : V), y = .ref b ∧ DitN w K H3 a xs ∧ KeyN K H3 b k ∧ (∀ p, atKey xs k = some p → RelV v p.2) ∧ (atKey xs k = none → v = z) ∧ Q v H3
theorem pe_get2N (hu : X.A.units + 64 < cLine) (ho : PE X o td) (he : PE X e ty) (hf : PE X f tx) (m : M2 X o "get" apos e f cpos) : PE X (.Call (.Attribute o "get" apos) [e, f] [] cpos) (tGet2N X.w X.K td ty tx) := by
  refine ⟨fun pins s σ H Q I h => ?_⟩
  refine wpAny_Call_method m.base m.few m.line PySem.F.plainAttrs_dict PySem.F.slot_dict_get PySem.F.type_dict_get (thn (ho.run pins s σ H _ I h) fun u s1 ⟨x, H1, I1, rx, a, ex, ⟨xs1, d⟩, q1⟩ => ?_)
  subst ex
  obtain rfl : u = Value.ref a := rx
  obtain ⟨t1, t2, _⟩ := d.at I1
  refine ⟨t1, t2, ?_⟩
  rw [m.trees]
  refine Calls.callWith_builtin rfl (Calls.evalArgs_plain (Calls.spliced_cons (thn (he.run pins s1 σ H1 _ I1 q1) fun iv s2 ⟨y, H2, I2, ry, q2⟩ =>
    Calls.spliced_cons (thn (hf.run pins s2 σ H2 _ I2 q2) fun fv s3 ⟨z, H3, I3, rz, b, xs, k, v, ey, dn, kn, g1, g2, q3⟩ => Calls.spliced_nil ?_))))
  subst ey
  obtain rfl : iv = Value.ref b := ry
  have dd := dn.of I3
  refine call_meetsIn PySem.F.slot_dict_get dd.typeIs PySem.F.entry_dict_get (PySem.F.args_dict_get_3 _ _ _) (meetsH_dict_get_default (nestedKind X.prog X.w) a b (dn.at I3).2.2 fv) ⟨room_nest hu, k, xs, kn.is I3, dd, ?_⟩
  refine ⟨v, H3, I3.tok _, ?_, q3⟩
  cases c : atKey xs k with
  | none =>
    rw [g2 c]
    exact rz
  | some p => exact g1 p c
def mGet2N (w : World) (mo mk mx : M Mn.D) : M Mn.D := fun env st => bnd (mo env st) fun x st1 => bnd (mk env st1) fun k st2 => bnd (mx env st2) fun z st3 => match ditA w x k st1, ditA w x k st3 with
  | some _, some (_, ks, q) => some ((lkN ks q).getD z, st3)
  | _, _ => none
theorem pm_get2N (hu : X.A.units + 64 < cLine) (ho : PM X o mo) (he : PM X e mk) (hf : PM X f mx) (m : M2 X o "get" apos e f cpos := by exact ⟨rfl, rfl, rfl, rfl⟩) : PM X (.Call (.Attribute o "get" apos) [e, f] [] cpos) (mGet2N X.w mo mk mx) :=
  imp_e (pe_get2N hu ho he hf m) fun σ H Q ⟨env, st, ρ, d, st', ro, rs, e, k⟩ => by
    obtain ⟨x, s1, e1, e⟩ := bnd_inv e
    obtain ⟨y, s2, e2, e⟩ := bnd_inv e
    obtain ⟨z, s3, e3, e⟩ := bnd_inv e
    split at e
    · rename_i q1 n ks q h1 h2
      cases e
      refine ⟨env, st, ρ, x, s1, ro, rs, e1, fun vx H1 ρ1 n1 rs1 rx => ?_⟩
      obtain ⟨rfl, d1, _, _, _⟩ := ditA_inv (n := q1.1) (ks := q1.2.1) (k := q1.2.2) h1
      obtain ⟨a, ex, hl, ⟨⟨o1, xs1⟩, r1, r2, r3, r4, r5, r6⟩⟩ := rs1.at rx d1
      refine ⟨a, ex, ⟨xs1, ρ1, _, o1, r1, r2, r3, r4, r5, r6⟩, env, s1, ρ1, y, s2, ro.nxt n1, rs1, e2, fun vy H2 ρ2 n2 rs2 ry => ⟨env, s2, ρ2, z, _, ro.nxt (n1.trans n2), rs2, e3, fun vz H3 ρ3 n3 rs3 rz => ?_⟩⟩
      obtain ⟨a', b, xs, ea, eb, hl', hd, hr, hk, _⟩ := ditA_ok rs3 (RV.nxt (n2.trans n3) _ _ rx) (RV.nxt n3 _ _ ry) h2
      rw [ex] at ea
      cases ea
      have nn := n1.trans (n2.trans n3)
      obtain ⟨l1, l2⟩ := rvn_lk (k := q) hr
      cases c : lkN ks q with
      | none =>
        rw [c] at l1 k
        have c2 : atKey xs q = none := by
          cases c3 : atKey xs q with
          | none => rfl
          | some p => rw [c3] at l1; cases l1
        exact ⟨b, xs, q, vz, eb, hd, hk, fun p hp => (by rw [c2] at hp; cases hp), fun _ => rfl, k vz H3 ρ3 nn rs3 rz⟩
      | some dd =>
        rw [c] at k
        obtain ⟨p, v, h3, h4, h5⟩ := l2 dd c
        exact ⟨b, xs, q, v, eb, hd, hk, fun p' hp => (by rw [h3] at hp; cases hp; exact h4), fun hn => (by rw [h3] at hn; cases hn), k v H3 ρ3 nn rs3 h5⟩
    · cases e
end
end
end Mn
end
section
set_option Elab.async false
set_option autoImplicit false
set_option linter.all false
set_option maxRecDepth 100000
set_option maxHeartbeats 2000000
/-! The mini layer, 12: walks over frozen dicts with nested keys. -/
namespace Mn
noncomputable section
open PySem PySem.Spec PyProof.Rows L2
def ItN (d : Addr) (o : Obj) (xs : List (NestedKey × Addr × Value)) : It :=
  ⟨fun i H => H d = some (.ext (rawN d o)) ∧ i < xs.length, fun i H x H' => H' = H ∧ ∃ q, xs[i]? = some q ∧ x = .ref q.2.1, fun i H => H d = some (.ext (rawN d o)) ∧ xs.length ≤ i⟩
theorem turn_N {P : Program} {w w0 : World} {K : PySem.W.Frag} {tg : Expr} {d : Addr} {o : Obj} {xs : List (NestedKey × Addr × Value)} {es : Array DictEntry} {ep : Nat} (it : Addr) (hod : o.data = .dict es ep)
    (hes : es.toList = xs.map fun x => (⟨x.1.hash w0, .ref x.2.1, x.2.2⟩ : DictEntry)) : Turn P w K tg (ItN d o xs) [it] it (fun i h => h.IsKeyIter it d i xs.length ep) where
  mem := by simp
  obj := fun i h st b hb => by
    have e : b = it := by simpa using hb
    subst e
    obtain ⟨oi, e, c, dd⟩ := st
    exact ⟨oi, e, fun v z => by rw [dd] at z; cases z⟩
  keep := fun i h h' st k => st.at fun oi e => k it (by simp) oi e
  item := by
    intro X hP hw hK hc i pins s σ H E I hf st hg
    subst hP hw hK
    obtain ⟨hd, hi⟩ := hg
    obtain ⟨f0, f1, f2, f3, f4, f5⟩ := hf it (by simp)
    have hgd : s.heap.get? d = some o := (I.hok d _ hd).1
    have hsz : es.size = xs.length := by
      have := congrArg List.length hes
      simpa using this
    have hq : xs[i]? = some xs[i] := List.getElem?_eq_getElem hi
    have hen : es[i]? = some ⟨xs[i].1.hash w0, .ref xs[i].2.1, xs[i].2.2⟩ := by
      rw [← Array.getElem?_toList, hes, List.getElem?_map, hq]
      rfl
    refine next_key_item st hgd hod hsz hen fun h' st' sb => ?_
    have J : Inv X pins σ H { s with heap := h' } := I.turned (t' := s.toks) (fun b ob hb e => (sb.2 b hb).trans e) f0 f1 f3 f4 f5
    obtain ⟨oi, e, c, dd⟩ := id st'
    exact ⟨_, rfl, go_of (s := { s with heap := h' }) e c dd (by decide) ⟨.ref xs[i].2.1, H, J, rfl, ⟨rfl, xs[i], hq, rfl⟩, st', fun b hb => (hf b hb).1⟩⟩
  done := by
    intro X hP hw hK hc i pins s σ H E I hf st hg
    subst hP hw hK
    obtain ⟨hd, hi⟩ := hg
    obtain ⟨f0, f1, f2, f3, f4, f5⟩ := hf it (by simp)
    have hgd : s.heap.get? d = some o := (I.hok d _ hd).1
    have hsz : es.size = xs.length := by
      have := congrArg List.length hes
      simpa using this
    exact next_key_end (I.ok.hd hc) st hgd hod hsz hi fun h' eb => ⟨rfl, I.turned (t' := s.toks) (fun b ob hb e => eb b ob hb e) f0 f1 f3 f4 f5⟩
  self := fun A i s Q E st h => by
    refine wpAny_pyIter_slot st.typeIs F.slot_dict_keyiterator_iter (wpAny_call_entry F.slot_dict_keyiterator_iter st.typeIs F.entry_dict_keyiterator_iter ?_ (F.args_dict_keyiterator_iter_1 _))
    show wpAny _ _ (ret (.ref it)) _ _ s
    exact wpAny_pure ⟨_, rfl, "dict_keyiterator", _, st.typeIs, F.slot_dict_keyiterator_next.lookup, h⟩
section
variable {X : Cx} {tg e : Expr} {te : TE} {m : M Mn.D}
def iKeysN (w : World) (te : TE) : TI := fun σ H R => te σ H fun v H1 => ∃ (d : Addr) (o : Obj) (xs : List (NestedKey × Addr × Value)), v = .ref d ∧ H1 d = some (.ext (rawN d o)) ∧ DictO w o xs ∧ xs.length ≤ 16777216 ∧ (d == sysModules) = false ∧ R (ItN d o xs) H1
theorem pi_keysN (he : PE X e te) : PI X tg e (iKeysN X.w te) := by
  refine ⟨fun pins s σ H R I h => ?_⟩
  refine thn (he.run pins s σ H _ I h) fun v s1 ⟨y, H1, I1, r1, d, o, xs, ex, hd, hD, hl, hs, q⟩ => ?_
  subst ex
  cases r1
  obtain ⟨hx, es, ep, hod, hes⟩ := hD
  have hgd : s1.heap.get? d = some o := (I1.hok d _ hd).1
  have hsz : es.size = xs.length := by
    have := congrArg List.length hes
    simpa using this
  refine iter_keys hs hgd hx hod (pi_one (tk := s1.toks) I1 _ (turn_N _ hod hes) ⟨_, Heap.get?_push_size _ rfl, rfl, ?_⟩ q)
  rw [hsz] <;> rfl
/-- the keys of a frozen dict -/
def miKeysN (w : World) (m : M Mn.D) : M (List Mn.D) := fun env st => bnd (m env st) fun x st1 =>
  match x with
  | .dit w' ks => @ite _ (w' = w) (Classical.propDecidable _) (some (ks.map (·.1), st1)) none
  | _ => none
theorem rvn_at {K : PySem.W.Frag} {ρ : Rh} {H : Hp} : ∀ {ks : List (Mn.D × Mn.D)} {xs : List (NestedKey × Addr × Value)} {i : Nat} {q : NestedKey × Addr × Value}, RVn K ρ H ks xs → xs[i]? = some q → ∃ kd d, ks[i]? = some (kd, d) ∧ RV K ρ H kd (.ref q.2.1)
  | [], _, _, _, h, e => by subst h; simp at e
  | (kd, d) :: ks, _, 0, q, ⟨k, b, u, r, v, ee, h1, h2, h3, h4, h5, t⟩, e => by
    subst ee
    simp at e
    subst e
    exact ⟨kd, d, rfl, h3⟩
  | (kd, d) :: ks, _, i + 1, q, ⟨k, b, u, r, v, ee, h1, h2, h3, h4, h5, t⟩, e => by
    subst ee
    simp at e
    obtain ⟨kd', d', e1, e2⟩ := rvn_at t e
    exact ⟨kd', d', by simpa using e1, e2⟩
theorem pmi_keysN (h : PM X e m) : PMI X tg e (miKeysN X.w m) :=
  imp_i (pi_keysN h) fun σ H R ⟨env, st, ρ, ds, st', ro, rs, e, k⟩ => by
    obtain ⟨x, s1, e1, e⟩ := bnd_inv e
    split at e
    · rename_i w' ks
      split at e
      · rename_i hw
        cases e
        subst hw
        refine ⟨env, st, ρ, _, _, ro, rs, e1, fun v H' ρ' n rs' rv => ?_⟩
        obtain ⟨a, ⟨o, xs⟩, ev, ⟨f1, f2⟩, r, hD, hnd, hl, hs⟩ := rv
        have len := RVn.length r
        refine ⟨a, o, xs, ev, f2, hD, hl, hs, k _ H' ρ' n rs' ?_⟩
        have hlen : (ks.map (·.1)).length = xs.length := by rw [List.length_map]; exact len.symm
        rw [hlen]
        refine ⟨fun i ρ2 H2 n2 hi => ⟨n2.keep a _ f1 f2, hi⟩, fun ρ2 H2 n2 => ⟨n2.keep a _ f1 f2, Nat.le_refl _⟩, fun i ρ2 H2 y H3 st2 n2 rs2 hi hy => ?_⟩
        obtain ⟨e5, q, hq, ey⟩ := hy
        subst e5; subst ey
        obtain ⟨kd, d, h1, h2⟩ := rvn_at (RVn.nx0 n2 _ _ r) hq
        exact ⟨kd, by show (ks.map (·.1))[i]? = _; rw [List.getElem?_map, h1]; rfl, h2, Nxt.refl _ _, rs2⟩
      · cases e
    · cases e
end
/-- d[k], d frozen -/
def ixF (w : World) : O2 := fun x y _ =>
  match x, y with
  | .dit w' ks, .tup ds => (match nkey (.tup ds) with
    | some k => @ite _ (w' = w ∧ k.depth ≤ 8) (Classical.propDecidable _) (lkN ks k) none
    | none => none)
  | _, _ => none
theorem ixF_ref {K : PySem.W.Frag} {w : World} : RefO K (rIxN w K) (ixF w) := fun ρ st H dx dy d x y Q rs rx ry e k => by
  unfold ixF at e
  split at e
  · rename_i w' ks ds
    split at e
    · rename_i q hq
      split at e
      · rename_i h
        obtain ⟨rfl, h8⟩ := h
        obtain ⟨a, ⟨o, xs⟩, ev, ⟨f1, f2⟩, r, hD, hnd, hl, hs⟩ := rx
        obtain ⟨b, vs, ey, f, rr⟩ := ry
        subst ey
        obtain ⟨p, v, h1, h2, h3⟩ := (rvn_lk (k := q) r).2 d e
        exact ⟨a, b, xs, q, p, v, ev, rfl, ⟨ρ, ks, o, f2, r, hD, hnd, hl, hs⟩, ⟨ρ, .tup ds, hq, h8, ⟨b, vs, rfl, f, rr⟩⟩, h1, h2, k v H (Nxt.refl _ _) rs h3⟩
      · cases e
    · cases e
  · cases e
theorem pm_ixF {X : Cx} {a b : Expr} {ma mb : M Mn.D} {pos : Pos} (hu : X.A.units + 64 < cLine) (ha : PM X a ma) (hb : PM X b mb) (hs : PlainIx b := by exact fun _ _ => rfl) : PM X (.Subscript a b pos) (mOp (ixF X.w) ma mb) :=
  imp_e (pe_ix (ix_nest hu) ha hb hs) fun _ _ _ h => op_core ixF_ref h
end
end Mn
end
section
set_option Elab.async false
set_option autoImplicit false
set_option linter.all false
set_option maxRecDepth 100000
set_option maxHeartbeats 2000000
/-! The mini layer, 13: the last thing of the store is lent; calls that look at no store. -/
namespace Mn
noncomputable section
open PySem PySem.Spec PyProof.Rows L2
mutual
/-- values that are no lent dict -/
def pl : Mn.D → Bool
  | .non => true
  | .bl _ => true
  | .int _ => true
  | .str _ => true
  | .tup ds => pls ds
  | .lst ds => pls ds
  | .rol ds => pls ds
  | .dic ks => plk ks
  | .loc _ => true
  | .ptl ds => pls ds
  | .dit _ _ => false
  | .dkl _ => false
def pls : List Mn.D → Bool
  | [] => true
  | d :: ds => pl d && pls ds
def plk : List (Key × Mn.D) → Bool
  | [] => true
  | (_, d) :: ds => pl d && plk ds
end
section
variable {K : PySem.W.Frag} {ρ ρ' : Rh} {H H' : Hp} {a : Addr}
theorem SqT.congr {b : Addr} {xs : List V} (e : H' b = H b) (h : SqT K H b xs) : SqT K H' b xs := by
  rcases h with (h | ⟨o, h⟩) | h
  · exact .inl (.inl (e.trans h))
  · exact .inl (.inr ⟨o, e.trans h⟩)
  · exact .inr h
theorem SqL.congr {b : Addr} {xs : List V} (e : H' b = H b) (h : SqL K H b xs) : SqL K H' b xs := by
  rcases h with (h | ⟨o, h⟩) | h
  · exact .inl (.inl (e.trans h))
  · exact .inl (.inr ⟨o, e.trans h⟩)
  · exact .inr h
/-- values go from one heap and places to others: what a frozen value may stand at -/
structure Tf (n : Nat) (ok : HO → Prop) (ρ : Rh) (H : Hp) (ρ' : Rh) (H' : Hp) : Prop where
  at' : ∀ (i : Nat) a, i < n → ρ.l[i]? = some a → ρ'.l[i]? = some a
  go : ∀ b o, ¬ ρ.In b → H b = some o → ok o → ¬ ρ'.In b ∧ H' b = some o
/-- what frozen values of plain kinds stand on -/
def OkP : HO → Prop
  | .frz _ (.tup _) => True
  | .frz _ (.lst _) => True
  | .lst _ => True
  | .tup _ => True
  | .dK _ => True
  | _ => False
mutual
theorem RV.tf {n : Nat} (c : Tf n OkP ρ H ρ' H') : ∀ (d : Mn.D) (v : V), lo n d = true → pl d = true → RV K ρ H d v → RV K ρ' H' d v
  | .non, _, _, _, h => h
  | .bl _, _, _, _, h => h
  | .int _, _, _, _, h => h
  | .str _, _, _, _, h => h
  | .tup ds, _, l, p, ⟨a, xs, e, f, r⟩ => ⟨a, xs, e, f.elim (fun q => q.2.elim fun o w => .inl ⟨(c.go _ _ q.1 w.1 trivial).1, o, (c.go _ _ q.1 w.1 trivial).2, w.2⟩) .inr, RVs.tf c ds xs l p r⟩
  | .lst ds, _, l, p, ⟨a, xs, e, f, r⟩ => ⟨a, xs, e, c.go _ _ f.1 f.2 trivial, RVs.tf c ds xs l p r⟩
  | .rol ds, _, l, p, ⟨a, xs, e, f, r⟩ => ⟨a, xs, e, f.elim (fun q => q.2.elim (fun w => w.elim (fun w => .inl ⟨(c.go _ _ q.1 w trivial).1, .inl (.inl (c.go _ _ q.1 w trivial).2)⟩) fun w => w.elim fun o w => .inl ⟨(c.go _ _ q.1 w trivial).1, .inl (.inr ⟨o, (c.go _ _ q.1 w trivial).2⟩)⟩) fun w => .inr fun _ => .inr w) .inr, RVs.tf c ds xs l p r⟩
  | .dic ks, _, l, p, ⟨a, xs, e, f, r⟩ => ⟨a, xs, e, c.go _ _ f.1 f.2 trivial, RVk.tf c ks xs l p r⟩
  | .loc _, _, l, _, ⟨a, e, f⟩ => ⟨a, e, c.at' _ _ (of_decide_eq_true l) f⟩
  | .ptl ds, _, l, p, ⟨a, xs, e, f, r⟩ => ⟨a, xs, e, f.elim (fun q => q.2.elim (fun w => w.elim (fun w => .inl ⟨(c.go _ _ q.1 w trivial).1, .inl (.inl (c.go _ _ q.1 w trivial).2)⟩) fun w => w.elim fun o w => .inl ⟨(c.go _ _ q.1 w trivial).1, .inl (.inr ⟨o, (c.go _ _ q.1 w trivial).2⟩)⟩) fun w => .inr fun _ => .inr w) .inr, RVs.tf c ds xs l p r⟩
  | .dit _ _, _, _, p, _ => by cases p
  | .dkl _, _, _, p, _ => by cases p
theorem RVs.tf {n : Nat} (c : Tf n OkP ρ H ρ' H') : ∀ (ds : List Mn.D) (vs : List V), los n ds = true → pls ds = true → RVs K ρ H ds vs → RVs K ρ' H' ds vs
  | [], _, _, _, h => h
  | d :: ds, _, l, p, ⟨v, r, e, h, t⟩ => ⟨v, r, e, RV.tf c d v (Bool.and_eq_true_iff.mp l).1 (Bool.and_eq_true_iff.mp p).1 h, RVs.tf c ds r (Bool.and_eq_true_iff.mp l).2 (Bool.and_eq_true_iff.mp p).2 t⟩
theorem RVk.tf {n : Nat} (c : Tf n OkP ρ H ρ' H') : ∀ (ds : List (Key × Mn.D)) (vs : List (Key × V)), lok n ds = true → plk ds = true → RVk K ρ H ds vs → RVk K ρ' H' ds vs
  | [], _, _, _, h => h
  | (k, d) :: ds, _, l, p, ⟨v, r, e, h, t⟩ => ⟨v, r, e, RV.tf c d v (Bool.and_eq_true_iff.mp l).1 (Bool.and_eq_true_iff.mp p).1 h, RVk.tf c ds r (Bool.and_eq_true_iff.mp l).2 (Bool.and_eq_true_iff.mp p).2 t⟩
end
mutual
/-- .. of all kinds, where a frozen value stands elsewhere -/
theorem RV.ta {n : Nat} (c : Tf n (fun _ => True) ρ H ρ' H') : ∀ (d : Mn.D) (v : V), lo n d = true → RV K ρ H d v → RV K ρ' H' d v
  | .non, _, _, h => h
  | .bl _, _, _, h => h
  | .int _, _, _, h => h
  | .str _, _, _, h => h
  | .tup ds, _, l, ⟨a, xs, e, f, r⟩ => ⟨a, xs, e, f.elim (fun q => q.2.elim fun o w => .inl ⟨(c.go _ _ q.1 w.1 trivial).1, o, (c.go _ _ q.1 w.1 trivial).2, w.2⟩) .inr, RVs.ta c ds xs l r⟩
  | .lst ds, _, l, ⟨a, xs, e, f, r⟩ => ⟨a, xs, e, c.go _ _ f.1 f.2 trivial, RVs.ta c ds xs l r⟩
  | .rol ds, _, l, ⟨a, xs, e, f, r⟩ => ⟨a, xs, e, f.elim (fun q => q.2.elim (fun w => w.elim (fun w => .inl ⟨(c.go _ _ q.1 w trivial).1, .inl (.inl (c.go _ _ q.1 w trivial).2)⟩) fun w => w.elim fun o w => .inl ⟨(c.go _ _ q.1 w trivial).1, .inl (.inr ⟨o, (c.go _ _ q.1 w trivial).2⟩)⟩) fun w => .inr fun _ => .inr w) .inr, RVs.ta c ds xs l r⟩
  | .dic ks, _, l, ⟨a, xs, e, f, r⟩ => ⟨a, xs, e, c.go _ _ f.1 f.2 trivial, RVk.ta c ks xs l r⟩
  | .loc _, _, l, ⟨a, e, f⟩ => ⟨a, e, c.at' _ _ (of_decide_eq_true l) f⟩
  | .ptl ds, _, l, ⟨a, xs, e, f, r⟩ => ⟨a, xs, e, f.elim (fun q => q.2.elim (fun w => w.elim (fun w => .inl ⟨(c.go _ _ q.1 w trivial).1, .inl (.inl (c.go _ _ q.1 w trivial).2)⟩) fun w => w.elim fun o w => .inl ⟨(c.go _ _ q.1 w trivial).1, .inl (.inr ⟨o, (c.go _ _ q.1 w trivial).2⟩)⟩) fun w => .inr fun _ => .inr w) .inr, RVs.ta c ds xs l r⟩
  | .dit _ ks, _, l, ⟨a, xs, e, f, r, q⟩ => ⟨a, xs, e, c.go _ _ f.1 f.2 trivial, RVn.ta c ks _ l r, q⟩
  | .dkl ks, _, l, ⟨a, xs, e, f, r⟩ => ⟨a, xs, e, f.2.elim fun o w => ⟨(c.go _ _ f.1 w trivial).1, o, (c.go _ _ f.1 w trivial).2⟩, RVk.ta c ks xs l r⟩
theorem RVs.ta {n : Nat} (c : Tf n (fun _ => True) ρ H ρ' H') : ∀ (ds : List Mn.D) (vs : List V), los n ds = true → RVs K ρ H ds vs → RVs K ρ' H' ds vs
  | [], _, _, h => h
  | d :: ds, _, l, ⟨v, r, e, h, t⟩ => ⟨v, r, e, RV.ta c d v (Bool.and_eq_true_iff.mp l).1 h, RVs.ta c ds r (Bool.and_eq_true_iff.mp l).2 t⟩
theorem RVk.ta {n : Nat} (c : Tf n (fun _ => True) ρ H ρ' H') : ∀ (ds : List (Key × Mn.D)) (vs : List (Key × V)), lok n ds = true → RVk K ρ H ds vs → RVk K ρ' H' ds vs
  | [], _, _, h => h
  | (k, d) :: ds, _, l, ⟨v, r, e, h, t⟩ => ⟨v, r, e, RV.ta c d v (Bool.and_eq_true_iff.mp l).1 h, RVk.ta c ds r (Bool.and_eq_true_iff.mp l).2 t⟩
theorem RVn.ta {n : Nat} (c : Tf n (fun _ => True) ρ H ρ' H') : ∀ (ks : List (Mn.D × Mn.D)) (xs : List (NestedKey × Addr × Value)), lod n ks = true → RVn K ρ H ks xs → RVn K ρ' H' ks xs
  | [], _, _, h => h
  | (kd, d) :: ks, _, l, ⟨k, b, u, r, v, e, h1, h2, h3, h4, h5, t⟩ =>
    have l1 := Bool.and_eq_true_iff.mp l
    have l2 := Bool.and_eq_true_iff.mp l1.1
    ⟨k, b, u, r, v, e, h1, h2, RV.ta c kd _ l2.1 h3, h4, RV.ta c d _ l2.2 h5, RVn.ta c ks r l1.2 t⟩
end
end
/-! ### lending -/
/-- a dict, lent -/
def lendX : Mn.D → Option Mn.D
  | .dic ks => some (.dkl ks)
  | .dit w ks => some (.dit w ks)
  | _ => none
def lendV (n : Nat) (y : Mn.D) : Option Mn.D → Option Mn.D
  | some (.loc k) => if k = n then some y else some (.loc k)
  | v => v
/-- the slots that speak of other things speak of places below n -/
def lendOk (n : Nat) : MEnv → Bool
  | [] => true
  | some (.loc k) :: r => decide (k ≤ n) && lendOk n r
  | some d :: r => lo n d && lendOk n r
  | none :: r => lendOk n r
def mBorrow1 (m : M Mn.D) (env : MEnv) (st0 : Store) (x : Mn.D) : Option (Mn.D × Store) :=
  match lendX x with
  | some y => if (los st0.length st0 && lo st0.length x && lendOk st0.length env) = true then
      bnd (m (env.map (lendV st0.length y)) st0) fun d st1 => if st1.length = st0.length ∧ (pl d && pls st1) = true then some (d, st1 ++ [x]) else none
    else none
  | none => none
def mBorrow (m : M Mn.D) : M Mn.D := fun env st =>
  match st.getLast? with
  | some x => mBorrow1 m env st.dropLast x
  | none => none
section
variable {K : PySem.W.Frag} {ρ : Rh} {H Hq : Hp} {st0 : Store} {x y : Mn.D} {a : Addr}
theorem lendOk_at {n : Nat} : ∀ {env : MEnv} {i : Nat} {d : Mn.D}, lendOk n env = true → env[i]? = some (some d) → (∃ k, d = .loc k ∧ k ≤ n) ∨ lo n d = true
  | [], _, _, _, e => by simp at e
  | v :: r, 0, d, h, e => by
    simp at e
    subst e
    cases d <;> first
      | exact .inl ⟨_, rfl, of_decide_eq_true (Bool.and_eq_true_iff.mp h).1⟩
      | exact .inr (Bool.and_eq_true_iff.mp h).1
  | v :: r, i + 1, d, h, e => by
    simp at e
    refine lendOk_at (i := i) ?_ e
    cases v with
    | none => exact h
    | some d0 => cases d0 <;> exact (Bool.and_eq_true_iff.mp h).2
theorem los_at {n : Nat} : ∀ {ds : List Mn.D} {i : Nat} {d : Mn.D}, los n ds = true → ds[i]? = some d → lo n d = true
  | [], _, _, _, e => by simp at e
  | d0 :: ds, 0, d, h, e => by simp at e; subst e; exact (Bool.and_eq_true_iff.mp h).1
  | d0 :: ds, i + 1, d, h, e => by simp at e; exact los_at (Bool.and_eq_true_iff.mp h).2 e
theorem pls_at : ∀ {ds : List Mn.D} {i : Nat} {d : Mn.D}, pls ds = true → ds[i]? = some d → pl d = true
  | [], _, _, _, e => by simp at e
  | d0 :: ds, 0, d, h, e => by simp at e; subst e; exact (Bool.and_eq_true_iff.mp h).1
  | d0 :: ds, i + 1, d, h, e => by simp at e; exact pls_at (Bool.and_eq_true_iff.mp h).2 e
theorem RO.ta {ρ' : Rh} {H' : Hp} {n : Nat} {d : Mn.D} {b : Addr} (c : Tf n (fun _ => True) ρ H ρ' H') (e : H' b = H b) (l : lo n d = true) (r : RO K ρ H d b) : RO K ρ' H' d b := by
  cases d with
  | lst ds => obtain ⟨xs, h1, r⟩ := r; exact ⟨xs, e.trans h1, RVs.ta c ds xs l r⟩
  | dic ks => obtain ⟨xs, h1, r⟩ := r; exact ⟨xs, e.trans h1, RVk.ta c ks xs l r⟩
  | dit w ks => obtain ⟨xs, h1, r, r2⟩ := r; exact ⟨xs, e.trans h1, RVn.ta c ks _ l r, r2⟩
  | _ => exact r.elim
theorem RO.tf {ρ' : Rh} {H' : Hp} {n : Nat} {d : Mn.D} {b : Addr} (c : Tf n OkP ρ H ρ' H') (e : H' b = H b) (l : lo n d = true) (p : pl d = true) (r : RO K ρ H d b) : RO K ρ' H' d b := by
  cases d with
  | lst ds => obtain ⟨xs, h1, r⟩ := r; exact ⟨xs, e.trans h1, RVs.tf c ds xs l p r⟩
  | dic ks => obtain ⟨xs, h1, r⟩ := r; exact ⟨xs, e.trans h1, RVk.tf c ks xs l p r⟩
  | dit w ks => cases p
  | _ => exact r.elim
/-- the places without the last one -/
def Rh.cutL (ρ : Rh) (n : Nat) : Rh := ⟨ρ.l.take n, ρ.x⟩
/-- while the last thing of the store is lent: what is run over the rest -/
theorem lend_core {m : M Mn.D} {env : MEnv} {σ : L2.St} {d : Mn.D} {st1 : Store} {back : Hp → Hp} {Q : VK} (ro : RVo K ρ H env σ) (rs : RepSt K ρ (st0 ++ [x]) H) (ha : ρ.l[st0.length]? = some a)
    (hq : ∀ b, b ≠ a → Hq b = H b) (hy : lo st0.length x = true → RV K (ρ.cutL st0.length) Hq y (.ref a)) (hform : ∀ o, Hq a = some o → ¬ OkP o) (hsome : ∃ o, Hq a = some o)
    (b1 : ∀ H1 b, b ≠ a → back H1 b = H1 b) (b2 : ∀ H1, H1 a = Hq a → back H1 a = H a)
    (c1 : (los st0.length st0 && lo st0.length x && lendOk st0.length env) = true) (e : m (env.map (lendV st0.length y)) st0 = some (d, st1)) (c2 : st1.length = st0.length) (c3 : (pl d && pls st1) = true)
    (k : After K ρ H d (st1 ++ [x]) Q) : tM K m σ Hq fun v H1 => H1 a = Hq a ∧ Q v (back H1) := by
  have l1 := Bool.and_eq_true_iff.mp c1
  have l2 := Bool.and_eq_true_iff.mp l1.1
  have l3 := Bool.and_eq_true_iff.mp c3
  have len : ρ.l.length = st0.length + 1 := by rw [rs.len]; simp
  have hn : st0.length < ρ.l.length := by omega
  have hl : ρ.l = ρ.l.take st0.length ++ [a] := by
    have h1 := (List.take_append_drop st0.length ρ.l).symm
    have h2 : ρ.l.drop st0.length = [a] := by
      rw [List.drop_eq_getElem_cons hn]
      have h3 : ρ.l[st0.length] = a := by
        rw [List.getElem?_eq_getElem hn] at ha
        exact Option.some.inj ha
      rw [h3, List.drop_of_length_le (by omega)]
    rw [h2] at h1
    exact h1
  have lt : (ρ.l.take st0.length).length = st0.length := by rw [List.length_take]; omega
  have nd := rs.nd
  rw [hl] at nd
  have nda := List.nodup_append.mp nd
  have ain : ρ.In a := .inl (List.mem_of_getElem? ha)
  have a0 : ¬ (ρ.cutL st0.length).In a := by
    rintro (z | z)
    · exact (List.nodup_append.mp nda.1).2.2 a z a (by simp) rfl
    · exact nda.2.2 a (by simp) a z rfl
  have sub : ∀ b, (ρ.cutL st0.length).In b → ρ.In b := fun b z => z.elim (fun q => .inl (List.mem_of_mem_take q)) .inr
  have sup : ∀ b, ρ.In b → b = a ∨ (ρ.cutL st0.length).In b := fun b z => by
    rcases z with z | z
    · rw [hl] at z
      rcases List.mem_append.mp z with z | z
      · exact .inr (.inl z)
      · simp at z; exact .inl z
    · exact .inr (.inr z)
  have nx : ∀ b, b ∈ ρ.x → b ≠ a := fun b z y => a0 (.inr (y ▸ z))
  have ne0 : ∀ b, (ρ.cutL st0.length).In b → b ≠ a := fun b z y => a0 (y ▸ z)
  -- into the lent state
  have c0 : Tf st0.length (fun _ => True) ρ H (ρ.cutL st0.length) Hq := ⟨fun i b hi e => by show (ρ.l.take st0.length)[i]? = _; rw [List.getElem?_take_of_lt hi]; exact e, fun b o hb e _ => ⟨fun z => hb (sub b z), by
    rw [hq b (fun z => hb (z ▸ ain))]; exact e⟩⟩
  have rs0 : RepSt K (ρ.cutL st0.length) st0 Hq := by
    refine ⟨?_, lt, fun b z => ?_, fun i b d' e f => ?_⟩
    · show (ρ.l.take st0.length ++ ρ.x).Nodup
      refine List.nodup_append.mpr ⟨(List.nodup_append.mp nda.1).1, nda.2.1, fun p hp q hq => nda.2.2 p (List.mem_append_left _ hp) q hq⟩
    · obtain ⟨o, q⟩ := rs.exo b z
      exact ⟨o, by rw [hq b (nx b z)]; exact q⟩
    · have hi : i < st0.length := (List.getElem?_eq_some_iff.mp f).1
      have e : (ρ.l.take st0.length)[i]? = some b := e
      have hb : b ≠ a := ne0 b (.inl (List.mem_of_getElem? e))
      rw [List.getElem?_take_of_lt hi] at e
      exact (rs.ob i b d' e (by rw [List.getElem?_append_left hi]; exact f)).ta c0 (hq b hb) (los_at l2.1 f)
  have ro0 : RVo K (ρ.cutL st0.length) Hq (env.map (lendV st0.length y)) σ := by
    refine ⟨by rw [List.length_map]; exact ro.1, fun i d e => ?_⟩
    rw [List.getElem?_map] at e
    obtain ⟨v0, e1, e2⟩ := Option.map_eq_some_iff.mp e
    cases v0 with
    | none => cases e2
    | some d0 =>
      obtain ⟨v, s1, r⟩ := ro.2 i d0 e1
      refine ⟨v, s1, ?_⟩
      by_cases hk : d0 = .loc st0.length
      · subst hk
        have e2 : (if st0.length = st0.length then some y else some (.loc st0.length)) = some d := e2
        rw [if_pos rfl] at e2
        cases e2
        obtain ⟨b, hv, hb⟩ := r
        rw [ha] at hb
        cases hb
        subst hv
        exact hy l2.2
      · have hd : d = d0 := by
          cases d0 with
          | loc k =>
            have e2 : (if k = st0.length then some y else some (.loc k)) = some d := e2
            rw [if_neg (fun z => hk (by rw [z]))] at e2
            exact (Option.some.inj e2).symm
          | _ => exact (Option.some.inj e2).symm
        subst hd
        refine RV.ta c0 d v ?_ r
        rcases lendOk_at l1.2 e1 with ⟨k, rfl, hk2⟩ | h
        · have h3 : k ≠ st0.length := fun z => hk (by rw [z])
          exact decide_eq_true (by omega)
        · exact h
  refine ⟨_, st0, _, d, st1, ro0, rs0, e, fun v H1 ρ1 n1 rs1 rv1 => ?_⟩
  obtain ⟨oa, hoa⟩ := hsome
  have ea : H1 a = Hq a := by rw [hoa]; exact n1.keep a oa a0 hoa
  refine ⟨ea, ?_⟩
  -- back
  have hl1 : ρ1.l = ρ.l.take st0.length := by
    have h1 := take_at n1
    have h2 : ρ1.l.length = st0.length := by rw [rs1.len, c2]
    have h3 : (ρ.cutL st0.length).l.length = st0.length := lt
    rw [h3, List.take_of_length_le (by omega)] at h1
    exact h1
  have hx1 : ρ1.x = ρ.x := n1.ex
  have in1 : ∀ b, ρ1.In b ↔ (ρ.cutL st0.length).In b := fun b => by
    show b ∈ ρ1.l ∨ b ∈ ρ1.x ↔ _
    rw [hl1, hx1]; exact Iff.rfl
  have tfb : Tf st0.length OkP ρ1 H1 ρ (back H1) := ⟨fun i b hi e => by
    rw [hl1, List.getElem?_take_of_lt hi] at e; exact e, fun b o hb e ho => by
    have hba : b ≠ a := fun z => by
      subst z
      rw [ea] at e
      exact hform o e ho
    exact ⟨fun z => (sup b z).elim hba fun q => hb ((in1 b).mpr q), by rw [b1 H1 b hba]; exact e⟩⟩
  have l0 : lo st0.length d = true := by
    have := RV.lo d v rv1
    rw [hl1, lt] at this
    exact this
  refine k v (back H1) ρ ⟨⟨fun _ _ e => e, fun b o hb e => ?_, fun b z => .inl z⟩, rfl, fun b z => ?_⟩ ⟨rs.nd, ?_, fun b z => ?_, fun i b d' e f => ?_⟩ (RV.tf tfb d v l0 l3.1 rv1)
  · have hba : b ≠ a := fun z => hb (z ▸ ain)
    rw [b1 H1 b hba]
    exact n1.keep b o (fun z => hb (sub b z)) (by rw [hq b hba]; exact e)
  · rw [b1 H1 b (nx b z), n1.hid b z, hq b (nx b z)]
  · rw [List.length_append, c2, rs.len, List.length_append]
  · obtain ⟨o, q⟩ := rs1.exo b (by rw [hx1]; exact z)
    exact ⟨o, by rw [b1 H1 b (nx b z)]; exact q⟩
  · by_cases hi : i < st1.length
    · rw [List.getElem?_append_left hi] at f
      have hi0 : i < st0.length := by omega
      have e1 : ρ1.l[i]? = some b := by rw [hl1, List.getElem?_take_of_lt hi0]; exact e
      have hb : b ≠ a := ne0 b ((in1 b).mp (.inl (List.mem_of_getElem? e1)))
      have ro1 := rs1.ob i b d' e1 f
      refine ro1.tf tfb (b1 H1 b hb) ?_ (pls_at l3.2 f)
      have hlen : ρ1.l.length = st0.length := by rw [hl1]; exact lt
      cases d' with
      | lst ds => obtain ⟨xs, h1, r⟩ := ro1; have := RVs.lo ds xs r; rw [hlen] at this; exact this
      | dic ks => obtain ⟨xs, h1, r⟩ := ro1; have := RVk.lo ks xs r; rw [hlen] at this; exact this
      | dit w ks => obtain ⟨xs, h1, r, r2⟩ := ro1; have := RVn.lo ks _ r; rw [hlen] at this; exact this
      | _ => exact ro1.elim
    · have hi2 : i = st0.length := by
        have := (List.getElem?_eq_some_iff.mp e).1
        omega
      subst hi2
      rw [ha] at e
      cases e
      rw [← c2, List.getElem?_append_right (Nat.le_refl _)] at f
      simp at f
      subst f
      -- the thing itself, as it stood
      have r0 := rs.ob st0.length a x ha (by rw [List.getElem?_append_right (Nat.le_refl _)]; simp)
      have back' : Tf st0.length (fun _ => True) ρ H ρ (back H1) := ⟨fun _ _ _ e => e, fun b o hb e _ => ⟨hb, by
        have hba : b ≠ a := fun z => hb (z ▸ ain)
        rw [b1 H1 b hba]
        exact n1.keep b o (fun z => hb (sub b z)) (by rw [hq b hba]; exact e)⟩⟩
      exact r0.ta back' (b2 H1 ea) l2.2
end
section
variable {X : Cx} {e : Expr} {m : M Mn.D}
theorem pm_borrow (h : PM X e m) : PM X e (mBorrow m) := ⟨fun pins s σ H Q I ⟨env, st, ρ, d, st', ro, rs, e1, k⟩ => by
  unfold mBorrow at e1
  split at e1
  case h_2 => cases e1
  rename_i x hx
  have hst : st = st.dropLast ++ [x] := by
    have hne : st ≠ [] := fun z => by subst z; cases hx
    rw [List.getLast?_eq_some_getLast hne] at hx
    have := List.dropLast_concat_getLast hne
    rw [Option.some.inj hx] at this
    exact this.symm
  generalize st.dropLast = st0 at e1 hst
  subst hst
  unfold mBorrow1 at e1
  split at e1
  case h_2 => cases e1
  rename_i y hy
  split at e1
  case isFalse => cases e1
  rename_i c1
  obtain ⟨d1, st1, e2, e1⟩ := bnd_inv e1
  split at e1
  case isFalse => cases e1
  rename_i c2
  cases e1
  have hlt : st0.length < ρ.l.length := by rw [rs.len]; simp
  have ha : ρ.l[st0.length]? = some ρ.l[st0.length] := List.getElem?_eq_getElem hlt
  generalize ρ.l[st0.length] = a at ha
  have r0 := rs.ob st0.length a x ha (by simp)
  have ain : ρ.In a := .inl (List.mem_of_getElem? ha)
  have cutc : Cut st0.length ρ (ρ.cutL st0.length) := ⟨fun i b hi e => by show (ρ.l.take st0.length)[i]? = _; rw [List.getElem?_take_of_lt hi]; exact e, fun b z => z.elim (fun q => .inl (List.mem_of_mem_take q)) .inr⟩
  have a0 : ¬ (ρ.cutL st0.length).In a := by
    rintro (z | z)
    · obtain ⟨j, ej⟩ := List.getElem?_of_mem z
      have hj : j < st0.length := by
        have := (List.getElem?_eq_some_iff.mp ej).1
        rw [show (ρ.cutL st0.length).l = ρ.l.take st0.length from rfl, List.length_take] at this
        omega
      have ej : (ρ.l.take st0.length)[j]? = some a := ej
      rw [List.getElem?_take_of_lt hj] at ej
      have := nodup_get rs.ndl ej ha
      omega
    · exact rs.apart (List.mem_of_getElem? ha) z
  cases x with
  | dic ks =>
    cases hy
    obtain ⟨xs, hx1, r⟩ := r0
    refine (pe_lock h).run pins s σ H Q I ⟨a, .dK xs, hx1, trivial, fun od => ?_⟩
    have := lend_core (m := m) (y := .dkl ks) (Hq := upd H a (.frz od (.dK xs))) (back := fun H1 => upd H1 a (.dK xs)) (Q := Q) ro rs ha (fun b hb => upd_ne hb) (fun hl => ⟨a, xs, rfl, ⟨a0, od, upd_same⟩, ?_⟩) (fun o ho => by
      rw [upd_same] at ho; cases ho; exact id) ⟨_, upd_same⟩ (fun H1 b hb => upd_ne hb) (fun H1 _ => by show upd H1 a _ a = _; rw [upd_same, hx1]) c1 e2 c2.1 c2.2 k
    · have e2 : tM X.K m σ (upd H a (.frz od (.dK xs))) fun v H1 => H1 a = some (.frz od (.dK xs)) ∧ Q v (upd H1 a (.dK xs)) := by
        rw [upd_same] at this
        exact this
      exact e2
    · have tf : Tf st0.length (fun _ => True) ρ H (ρ.cutL st0.length) (upd H a (.frz od (.dK xs))) := ⟨cutc.at', fun b o hb e _ => ⟨fun z => hb (cutc.less b z), by rw [upd_ne (fun z => hb (by rw [z]; exact ain))]; exact e⟩⟩
      exact RVk.ta tf ks xs hl r
  | dit w ks =>
    cases hy
    obtain ⟨q, hx1, r, r2⟩ := r0
    have := lend_core (m := m) (y := .dit w ks) (Hq := H) (back := fun H1 => H1) (Q := Q) ro rs ha (fun b hb => rfl) (fun hl => ⟨a, q, rfl, ⟨a0, hx1⟩, RVn.cut cutc ks _ hl r, r2⟩) (fun o ho => by
      rw [hx1] at ho; cases ho; exact id) ⟨_, hx1⟩ (fun H1 b hb => rfl) (fun H1 h => h) c1 e2 c2.1 c2.2 k
    exact thn (h.run pins s σ H _ I this) fun v s' ⟨xv, H1, I1, rl, _, q⟩ => ⟨xv, H1, I1, rl, q⟩
  | _ => cases hy⟩
end
end
end Mn
end
section
set_option Elab.async false
set_option autoImplicit false
set_option linter.all false
set_option maxRecDepth 100000
set_option maxHeartbeats 2000000
/-! The mini layer, 14: calls that see no store; walks over lists of the store and over lent dicts; two fors. -/
namespace Mn
noncomputable section
open PySem PySem.Spec PyProof.Rows L2
/-! ### a call that is given no thing of the store runs as over an empty one -/
def pureF (F : Fn) : Fn := fun ds st => if los 0 ds = true then bnd (F ds []) fun d s1 => match s1 with
    | [] => some (d, st)
    | _ => none
  else none
section
variable {P : Program} {w : World} {K : PySem.W.Frag} {mg : Str → Option Value} {base : Heap} {k n : Nat} {x : Str} {F : Fn}
theorem pureF_inv {ds : List Mn.D} {st : Store} {r : Mn.D × Store} (h : pureF F ds st = some r) : los 0 ds = true ∧ F ds [] = some (r.1, []) ∧ r.2 = st := by
  unfold pureF at h
  split at h
  · rename_i hl
    obtain ⟨d, s1, e1, h⟩ := bnd_inv h
    split at h
    · cases h
      exact ⟨hl, e1, rfl⟩
    · cases h
  · cases h
theorem pureF_of {ds : List Mn.D} {st : Store} {d : Mn.D} (hl : los 0 ds = true) (h : F ds [] = some (d, [])) : pureF F ds st = some (d, st) := by
  unfold pureF
  rw [if_pos hl, h]
  rfl
theorem spF_pure {vs : List V} {H : Hp} {Q : VK} {E : XK} (h : spF K n (pureF F) vs H Q E) : spF K n F vs H Q E := by
  obtain ⟨hv, ds, st, ρ, d, st', rv, rs, e, k⟩ := h
  obtain ⟨hl, e1, e2⟩ := pureF_inv e
  cases e2
  have c : Cut 0 ρ ⟨[], ρ.l ++ ρ.x⟩ := ⟨fun i a hi _ => absurd hi (Nat.not_lt_zero _), fun a z => by
    rcases z with z | z
    · cases z
    · exact List.mem_append.mp z⟩
  refine ⟨hv, ds, [], ⟨[], ρ.l ++ ρ.x⟩, d, [], RVs.cut c ds vs hl rv, ⟨rs.nd, rfl, fun a z => rs.there (List.mem_append.mp z), fun i a d e _ => by simp at e⟩, e1, fun v H' ρ' n rs' rv' => ?_⟩
  have hx : ρ'.x = ρ.l ++ ρ.x := n.ex
  have hl' : ρ'.l = [] := List.eq_nil_of_length_eq_zero rs'.len
  have hid : ∀ a, ρ.In a → H' a = H a := fun a z => n.hid a (List.mem_append.mpr z)
  have nx : Nxt ρ H ρ H' := ⟨⟨fun _ _ e => e, fun a o z e => n.keep a o (fun q => z (c.less a q)) e, fun a z => .inl z⟩, rfl, fun a z => hid a (.inr z)⟩
  refine k v H' ρ nx ⟨rs.nd, rs.len, fun a z => ?_, fun i a d e f => ?_⟩ ?_
  · obtain ⟨o, q⟩ := rs.exo a z
    exact ⟨o, (hid a (.inr z)).trans q⟩
  · exact (rs.ob i a d e f).nxt nx.toNx0 (hid a (.inl (List.mem_of_getElem? e)))
  · have l0 : lo 0 d = true := by
      have := RV.lo d v rv'
      rw [hl'] at this
      exact this
    exact RV.cut (n := 0) ⟨fun i a hi _ => absurd hi (Nat.not_lt_zero _), fun a z => .inr (by rw [hx]; exact List.mem_append.mpr z)⟩ d v l0 rv'
theorem FnM.pure (G : FnM P w K mg base k x n F) : FnM P w K mg base k x n (pureF F) := by
  obtain ⟨f, fd, ps, h1, h2, h3⟩ := G.ex
  exact ⟨fun ds st r e => G.ln ds [] _ (pureF_inv e).2.1, f, fd, ps, h1, h2.imp fun vs H Q E h => spF_pure h, h3⟩
end
/-! ### for over a list of the store, which stays as it is -/
def keepM {α : Type} (n : Nat) (ds : List Mn.D) (b : M α) : M α := fun env st => bnd (b env st) fun o st' => @ite _ (st'[n]? = some (.lst ds)) (Classical.propDecidable _) (some (o, st')) none
theorem keepM_inv {α : Type} {n : Nat} {ds : List Mn.D} {b : M α} {env : MEnv} {st : Store} {r : α × Store} (h : keepM n ds b env st = some r) : b env st = some r ∧ r.2[n]? = some (.lst ds) := by
  obtain ⟨o, s, e, h⟩ := bnd_inv h
  split at h
  · cases h; exact ⟨e, by assumption⟩
  · cases h
def sForP (m : M Mn.D) (g : G) (b : S) : S := fun env st => bnd (m env st) fun d st1 =>
  match d with
  | .loc n => match st1[n]? with
    | some (.lst ds) => forL g (keepM n ds b) ds env st1
    | _ => none
  | _ => none
def tIP (K : PySem.W.Frag) (m : M Mn.D) : TI := fun σ H R => tM K m σ H fun x H1 => ∃ a, x = .ref a ∧ (((∃ xs, SqL K H1 a xs) ∧ R (Itl K a) H1) ∨ ((∃ xs, SqT K H1 a xs) ∧ R (Itt K a) H1))
theorem SqL.one {K : PySem.W.Frag} {H : Hp} {a : Addr} {xs ys : List V} (h : H a = some (.lst xs)) (hk : K.lookup a = none) (r : SqL K H a ys) : ys = xs := by
  rcases r with (r | ⟨o, r⟩) | ⟨o, _, _, r, _⟩
  · rw [h] at r; cases r; rfl
  · rw [h] at r; cases r
  · rw [hk] at r; cases r
theorem forP_core {K : PySem.W.Frag} {vs : List Nat} {m : M Mn.D} {g : G} {b : S} {E : Ends} {σ : L2.St} {H : Hp} (h : tS K (sForP m g b) E σ H) : tFor (tIP K m) (tG K vs g) (tS K b) E σ H := by
  obtain ⟨env0, st0, ρ0, o, st', ro0, rs0, e0, k0⟩ := h
  obtain ⟨d, s1, e1, e0⟩ := bnd_inv e0
  split at e0
  case h_2 => cases e0
  rename_i nn
  split at e0
  case h_2 => cases e0
  rename_i ds hds
  refine ⟨env0, st0, ρ0, _, s1, ro0, rs0, e1, fun v H1 ρ1 n1 rs1 rv1 => ?_⟩
  obtain ⟨a, ev, ea, xs1, hx1, rx1⟩ := rs1.at rv1 hds
  refine ⟨a, ev, .inl ⟨⟨xs1, SqL.of hx1⟩, ?_⟩⟩
  refine ⟨fun i m σ H => m + i = ds.length ∧ ∃ env st ρ, Nxt ρ1 H1 ρ H ∧ RVo K ρ H env σ ∧ RepSt K ρ st H ∧ st[nn]? = some (.lst ds) ∧ forL g (keepM nn ds b) (ds.drop i) env st = some (o, st') ∧ AfterS K ρ H o st' E,
    ⟨ds.length, rfl, env0, s1, ρ1, Nxt.refl _ _, ro0.nxt n1, rs1, hds, e0, k0.nxt n1⟩, ?_⟩
  rintro i m σ2 H2 ⟨hm, env, st, ρ, n2, ro, rs, hst, e, k⟩
  have ea2 : ρ.l[nn]? = some a := n2.pre _ _ ea
  obtain ⟨xs, hx, rx⟩ := rs.ob nn a _ ea2 hst
  have hlen := RVs.length rx
  by_cases hi : i < ds.length
  · obtain ⟨vi, hvi, rvi⟩ := RVs.get rx (List.getElem?_eq_getElem hi)
    refine .inr ⟨⟨xs, vi, SqL.of hx, hvi⟩, fun σ H => ∃ env st ρ, Nxt ρ1 H1 ρ H ∧ RVo K ρ H env σ ∧ RepSt K ρ st H ∧ st[nn]? = some (.lst ds) ∧ forL g (keepM nn ds b) (ds.drop (i + 1)) env st = some (o, st') ∧ AfterS K ρ H o st' E, fun σ' H' h => ⟨m - 1, by omega, by omega, h⟩, fun x H3 hy => ?_⟩
    obtain ⟨eH, hy⟩ := hy
    subst eH
    have hxi := hy xs (SqL.of hx)
    rw [hvi] at hxi
    cases hxi
    rw [drop_cons hi] at e
    unfold forL at e
    obtain ⟨env2, s2, e2, e⟩ := bnd_inv e
    refine ⟨ds[i], env, st, ρ, env2, s2, rvi, ro, rs, e2, fun σ4 H4 ρ4 _ n4 rs4 ro4 => ?_⟩
    obtain ⟨o5, s5, e5, e⟩ := bnd_inv e
    obtain ⟨e5, hs5⟩ := keepM_inv e5
    refine ⟨env2, s2, ρ4, o5, s5, ro4, rs4, e5, ?_⟩
    have nn4 := n2.trans n4
    have k4 := k.nxt n4
    cases o5 with
    | nx env1 => exact fun σ' H' ρ' n' rs' ro' => ⟨env1, s5, ρ', nn4.trans n', ro', rs', hs5, e, k4.nxt n'⟩
    | ct env1 => exact fun σ' H' ρ' n' rs' ro' => ⟨env1, s5, ρ', nn4.trans n', ro', rs', hs5, e, k4.nxt n'⟩
    | bk env1 => cases e; exact k4
    | rt d => cases e; exact k4
  · have hi2 : i = ds.length := by omega
    subst hi2
    refine .inl ⟨⟨xs, SqL.of hx, by rw [hlen]; exact Nat.le_refl _⟩, ?_⟩
    rw [List.drop_length] at e
    cases e
    exact k σ2 H2 ρ (Nxt.refl _ _) rs ro
section
variable {X : Cx} {m : M Mn.D} {e tg : Expr} {pos : Pos} {g : G} {vs : List Nat}
theorem pms_forP {b : S} {B : List Stmt} (hp : PassesOwn (model X.prog X.w) X.A X.env X.xe) (hi : PM X e m) (hg : PMG X tg vs g) (hb : PMSs X B b) (hc : X.calm = true := by rfl) (hs : ∀ x, foldedSetIterable e X.env x = pure x := by intro _; rfl) :
    PMS X (.For tg e B [] pos) (sForP m g b) := imp_s (ps_for hp hc (pi_seq hi) hg hb hs) fun _ _ _ h => forP_core h
/-! ### the keys of a lent dict -/
theorem pi_keysL (he : PE X e (tM X.K m)) : PI X tg e (fun σ H R => tM X.K m σ H fun x H1 => ∃ d o kvs, x = .ref d ∧ H1 d = some (.frz o (.dK kvs)) ∧ R (Itk d o kvs) H1) :=
  imp_i (pi_keys he) fun σ H R ⟨env, st, ρ, d, st', ro, rs, e, k⟩ => ⟨env, st, ρ, d, st', ro, rs, e, fun v H' ρ' n rs' rv => by
    obtain ⟨d, o, kvs, h1, h2, h3⟩ := k v H' ρ' n rs' rv
    exact ⟨d, o, h1, .inl ⟨kvs, h2, h3⟩⟩⟩
def kD : Key → Mn.D
  | .inl i => .int i
  | .inr x => .str x
theorem kD_rv {K : PySem.W.Frag} {ρ : Rh} {H : Hp} (k : Key) : RV K ρ H (kD k) (kV k) := by cases k <;> rfl
theorem RVk.at {K : PySem.W.Frag} {ρ : Rh} {H : Hp} : ∀ {ds : List (Key × Mn.D)} {xs : List (Key × V)} {i : Nat} {k : Key} {v : V}, RVk K ρ H ds xs → xs[i]? = some (k, v) → ∃ d, ds[i]? = some (k, d) ∧ RV K ρ H d v
  | [], _, _, _, _, h, e => by subst h; simp at e
  | (k0, d0) :: ds, _, 0, _, _, ⟨v, r, e, h, t⟩, q => by subst e; simp at q; obtain ⟨rfl, rfl⟩ := q; exact ⟨d0, rfl, h⟩
  | (k0, d0) :: ds, _, i + 1, _, _, ⟨v, r, e, h, t⟩, q => by
    subst e
    simp at q
    obtain ⟨d, h1, h2⟩ := RVk.at t q
    exact ⟨d, by simpa using h1, h2⟩
def miKeysL (m : M Mn.D) : M (List Mn.D) := fun env st => bnd (m env st) fun x st1 =>
  match x with
  | .dkl ks => some (ks.map fun p => kD p.1, st1)
  | _ => none
theorem pmi_keysL (h : PM X e m) : PMI X tg e (miKeysL m) :=
  imp_i (pi_keysL h) fun σ H R ⟨env, st, ρ, ds, st', ro, rs, e, k⟩ => by
    obtain ⟨x, s1, e1, e⟩ := bnd_inv e
    split at e
    · rename_i ks
      cases e
      refine ⟨env, st, ρ, _, _, ro, rs, e1, fun v H' ρ' n rs' rv => ?_⟩
      obtain ⟨a, xs, ev, ⟨f1, o, f2⟩, r⟩ := rv
      have len := RVk.length r
      refine ⟨a, o, xs, ev, f2, k _ H' ρ' n rs' ?_⟩
      have hlen : (ks.map fun p => kD p.1).length = xs.length := by rw [List.length_map]; exact len.symm
      rw [hlen]
      refine ⟨fun i ρ2 H2 n2 hi => ⟨n2.keep a _ f1 f2, hi⟩, fun ρ2 H2 n2 => ⟨n2.keep a _ f1 f2, Nat.le_refl _⟩, fun i ρ2 H2 y H3 st2 n2 rs2 hi hy => ?_⟩
      obtain ⟨e5, kk, vv, hq, ey⟩ := hy
      subst e5; subst ey
      obtain ⟨d, h1, h2⟩ := RVk.at (RVk.nx0 n2 _ _ r) hq
      exact ⟨kD kk, by show (ks.map fun p => kD p.1)[i]? = _; rw [List.getElem?_map, h1]; rfl, kD_rv kk, Nxt.refl _ _, rs2⟩
    · cases e
end
theorem hu64_of {A : Around} {k : Nat} (hr : Room k A) : A.units + 64 < cLine := hr.units
theorem pmg_more {X : Cx} {e : Expr} {vs us : List Nat} {g : G} (h : PMG X e vs g) (hs : ∀ i ∈ vs, i ∈ us) : PMG X e us g :=
  imp_g h fun v σ H Q ⟨d, env, st, ρ, env', st', rv, ro, rs, e, k⟩ => ⟨d, env, st, ρ, env', st', rv, ro, rs, e, fun σ' H' ρ' oa n rs' ro' => k σ' H' ρ' ⟨oa.1, fun j hj => oa.2 j fun z => hj (hs j z)⟩ n rs' ro'⟩
/-! ### two fors -/
def lc2L (vs1 : List Nat) (g : G) (t : M Bool) (mi1 : M (List Mn.D)) (g1 : G) (t1 : M Bool) (elt : M Mn.D) (env : MEnv) : List Mn.D → Store → Option (List Mn.D × Store)
  | [], st => some ([], st)
  | x :: xs, st => bnd (g x env st) fun env1 st1 => bnd (t env1 st1) fun b st2 =>
    if b = true then bnd (mi1 env1 st2) fun ds1 st3 => bnd (lcL g1 t1 elt (wipeE env1 vs1) ds1 st3) fun r1 st4 => bnd (lc2L vs1 g t mi1 g1 t1 elt env xs st4) fun r st5 => some (r1 ++ r, st5)
    else lc2L vs1 g t mi1 g1 t1 elt env xs st2
def mLc2 (vs vs1 : List Nat) (mi : M (List Mn.D)) (g : G) (t : M Bool) (mi1 : M (List Mn.D)) (g1 : G) (t1 : M Bool) (elt : M Mn.D) : M (List Mn.D) := fun env st => bnd (mi env st) fun ds st1 =>
  bnd (lc2L vs1 g t mi1 g1 t1 elt (wipeE env vs) ds st1) fun out st2 => @ite _ (out.length ≤ 16777216) (Classical.propDecidable _) (some (out, st2)) none
theorem lc2_mcore {K : PySem.W.Frag} {vs vs1 : List Nat} {mi mi1 : M (List Mn.D)} {g g1 : G} {t t1 : M Bool} {elt : M Mn.D} {σ : L2.St} {H : Hp} {Q : VK} (h : tML K (mLc2 vs vs1 mi g t mi1 g1 t1 elt) σ H Q) : tLc2 (tMI K mi) (tG K vs g) (tMT K t) (tMI K mi1) (tG K vs1 g1) (tMT K t1) (tM K elt) vs vs1 σ H Q := by
  obtain ⟨env0, st0, ρ0, out, st', ro0, rs0, e0, k0⟩ := h
  obtain ⟨ds, s1, e1, e0⟩ := bnd_inv e0
  refine ⟨env0, st0, ρ0, ds, s1, ro0, rs0, e1, fun J H1 ρ1 n1 rs1 ok => ?_⟩
  obtain ⟨out', s2, e2, e0⟩ := bnd_inv e0
  split at e0
  case isFalse => cases e0
  rename_i hsz
  cases e0
  have e0 := e2
  intro D hD
  have ro1 : RVo K ρ1 H1 (wipeE env0 vs) (wipe σ vs) := (ro0.nxt n1).wipe vs
  have neD : ∀ a, a ∈ ρ1.x → a ≠ D := fun a z => by
    obtain ⟨u, q⟩ := rs1.exo a z
    exact ne_of_none q hD
  refine ⟨fun i m H => m + i = ds.length ∧ ∃ (acc r : List Mn.D) (vacc : List V) (st : Store) (ρ : Rh), out = acc ++ r ∧ Nx0 ρ1 H1 ρ H ∧ ρ.x = D :: ρ1.x ∧ RepSt K ρ st H ∧ H D = some (.lst vacc) ∧ (∀ a, a ∈ ρ1.x → H a = H1 a) ∧ RVs K ρ H acc vacc ∧ lc2L vs1 g t mi1 g1 t1 elt (wipeE env0 vs) (ds.drop i) st = some (r, st'),
    ⟨ds.length, rfl, [], out, [], s1, ρ1.hid D, rfl, Nx0.hide hD, rfl, rs1.hide hD, upd_same, fun a z => upd_ne (neD a z), rfl, e0⟩, ?_⟩
  rintro i m H2 ⟨hm, acc, r, vacc, st, ρ, eo, n2, hx, rs, hDv, hh, ra, e⟩
  have hDin : D ∈ ρ.x := by rw [hx]; exact List.mem_cons_self
  by_cases hi : i < ds.length
  · refine .inr ⟨ok.go i _ H2 n2 hi, fun H => ∃ (acc r : List Mn.D) (vacc : List V) (st : Store) (ρ : Rh), out = acc ++ r ∧ Nx0 ρ1 H1 ρ H ∧ ρ.x = D :: ρ1.x ∧ RepSt K ρ st H ∧ H D = some (.lst vacc) ∧ (∀ a, a ∈ ρ1.x → H a = H1 a) ∧ RVs K ρ H acc vacc ∧ lc2L vs1 g t mi1 g1 t1 elt (wipeE env0 vs) (ds.drop (i + 1)) st = some (r, st'),
      fun H' h => ⟨m - 1, by omega, by omega, h⟩, fun x H3 hy => ?_⟩
    obtain ⟨d, hd, rx, n3, rs3⟩ := ok.yld i ρ H2 x H3 st n2 rs hi hy
    have hd' : ds[i] = d := by
      have : ds[i]? = some d := hd
      rw [List.getElem?_eq_getElem hi] at this
      exact Option.some.inj this
    rw [drop_cons hi, hd'] at e
    unfold lc2L at e
    obtain ⟨env2, s2, e2, e⟩ := bnd_inv e
    have n23 := n2.trans n3.toNx0
    have ro3 : RVo K ρ H3 (wipeE env0 vs) (wipe σ vs) := ⟨ro1.1, fun j d' ej => by
      obtain ⟨v, h1, h2⟩ := ro1.2 j d' ej
      exact ⟨v, h1, RV.nx0 n23 d' v h2⟩⟩
    refine ⟨d, wipeE env0 vs, st, ρ, env2, s2, rx, ro3, rs3, e2, fun σ4 H4 ρ4 oa n4 rs4 ro4 => ⟨wipe_eq oa, ?_⟩⟩
    obtain ⟨b, s5, e5, e⟩ := bnd_inv e
    refine ⟨env2, s2, ρ4, b, s5, ro4, rs4, e5, fun H5 ρ5 n5 rs5 => ?_⟩
    have nn5 : Nxt ρ H2 ρ5 H5 := n3.trans (n4.trans n5)
    have hx5 : ρ5.x = D :: ρ1.x := nn5.ex.trans hx
    have hD5 : D ∈ ρ5.x := by rw [hx5]; exact List.mem_cons_self
    cases b with
    | false =>
      simp only [Bool.false_eq_true, if_false] at e ⊢
      exact ⟨acc, r, vacc, s5, ρ5, eo, n2.trans nn5.toNx0, hx5, rs5, (nn5.hid D hDin).trans hDv, fun a z => (nn5.hid a (by rw [hx]; exact List.mem_cons_of_mem _ z)).trans (hh a z), RVs.nxt nn5 _ _ ra, e⟩
    | true =>
      simp only [if_true] at e ⊢
      obtain ⟨ds1, s6, e6, e⟩ := bnd_inv e
      obtain ⟨r1, s7, e7, e⟩ := bnd_inv e
      obtain ⟨r2, s8, e8, e⟩ := bnd_inv e
      cases e
      refine ⟨env2, s5, ρ5, ds1, s6, ro4.nxt n5, rs5, e6, fun J1 H6 ρ6 n6 rs6 ok1 => ?_⟩
      have nn6 : Nxt ρ H2 ρ6 H6 := nn5.trans n6
      have hx6 : ρ6.x = D :: ρ1.x := nn6.ex.trans hx
      have ro6 : RVo K ρ6 H6 (wipeE env2 vs1) (wipe σ4 vs1) := ((ro4.nxt n5).nxt n6).wipe vs1
      have hDv6 := (nn6.hid D hDin).trans hDv
      have hh6 : ∀ a, a ∈ ρ1.x → H6 a = H1 a := fun a z => (nn6.hid a (by rw [hx]; exact List.mem_cons_of_mem _ z)).trans (hh a z)
      refine ⟨fun j m H => m + j = ds1.length ∧ ∃ (acc ra : List Mn.D) (vacc : List V) (st : Store) (ρ : Rh), out = acc ++ ra ++ r2 ∧ Nx0 ρ6 H6 ρ H ∧ ρ.x = D :: ρ1.x ∧ RepSt K ρ st H ∧ H D = some (.lst vacc) ∧ (∀ a, a ∈ ρ1.x → H a = H1 a) ∧ RVs K ρ H acc vacc ∧ lcL g1 t1 elt (wipeE env2 vs1) (ds1.drop j) st = some (ra, s7),
        ⟨ds1.length, rfl, acc, r1, vacc, s6, ρ6, by rw [eo, List.append_assoc], Nx0.refl _ _, hx6, rs6, hDv6, hh6, RVs.nxt nn6 _ _ ra, e7⟩, ?_⟩
      rintro j m1 H7 ⟨hm1, acc1, ra1, vacc1, st7, ρ7, eo7, n7, hx7, rs7, hDv7, hh7, rr7, ee⟩
      have hD7 : D ∈ ρ7.x := by rw [hx7]; exact List.mem_cons_self
      by_cases hj : j < ds1.length
      · refine .inr ⟨ok1.go j _ H7 n7 hj, fun H => ∃ (acc ra : List Mn.D) (vacc : List V) (st : Store) (ρ : Rh), out = acc ++ ra ++ r2 ∧ Nx0 ρ6 H6 ρ H ∧ ρ.x = D :: ρ1.x ∧ RepSt K ρ st H ∧ H D = some (.lst vacc) ∧ (∀ a, a ∈ ρ1.x → H a = H1 a) ∧ RVs K ρ H acc vacc ∧ lcL g1 t1 elt (wipeE env2 vs1) (ds1.drop (j + 1)) st = some (ra, s7),
          fun H' h => ⟨m1 - 1, by omega, by omega, h⟩, fun x H8 hy => ?_⟩
        obtain ⟨d8, hd8, rx8, n8, rs8⟩ := ok1.yld j ρ7 H7 x H8 st7 n7 rs7 hj hy
        have hd8' : ds1[j] = d8 := by
          have : ds1[j]? = some d8 := hd8
          rw [List.getElem?_eq_getElem hj] at this
          exact Option.some.inj this
        rw [drop_cons hj, hd8'] at ee
        unfold lcL at ee
        obtain ⟨env9, s9, e9, ee⟩ := bnd_inv ee
        have n78 := n7.trans n8.toNx0
        have ro8 : RVo K ρ7 H8 (wipeE env2 vs1) (wipe σ4 vs1) := ⟨ro6.1, fun j d' ej => by
          obtain ⟨v, h1, h2⟩ := ro6.2 j d' ej
          exact ⟨v, h1, RV.nx0 n78 d' v h2⟩⟩
        refine ⟨d8, wipeE env2 vs1, st7, ρ7, env9, s9, rx8, ro8, rs8, e9, fun σ10 H10 ρ10 oa1 n10 rs10 ro10 => ⟨wipe_eq oa1, ?_⟩⟩
        obtain ⟨b1, s11, e11, ee⟩ := bnd_inv ee
        refine ⟨env9, s9, ρ10, b1, s11, ro10, rs10, e11, fun H11 ρ11 n11 rs11 => ?_⟩
        have nn11 : Nxt ρ7 H7 ρ11 H11 := n8.trans (n10.trans n11)
        have hx11 : ρ11.x = D :: ρ1.x := nn11.ex.trans hx7
        cases b1 with
        | false =>
          simp only [Bool.false_eq_true, if_false] at ee ⊢
          exact ⟨acc1, ra1, vacc1, s11, ρ11, eo7, n7.trans nn11.toNx0, hx11, rs11, (nn11.hid D hD7).trans hDv7, fun a z => (nn11.hid a (by rw [hx7]; exact List.mem_cons_of_mem _ z)).trans (hh7 a z), RVs.nxt nn11 _ _ rr7, ee⟩
        | true =>
          simp only [if_true] at ee ⊢
          obtain ⟨d12, s12, e12, ee⟩ := bnd_inv ee
          obtain ⟨r13, s13, e13, ee⟩ := bnd_inv ee
          cases ee
          refine ⟨env9, s11, ρ11, d12, s12, ro10.nxt n11, rs11, e12, fun v12 H12 ρ12 n12 rs12 rv12 => ?_⟩
          have nn12 : Nxt ρ7 H7 ρ12 H12 := nn11.trans n12
          have hx12 : ρ12.x = D :: ρ1.x := nn12.ex.trans hx7
          have hD12 : D ∈ ρ12.x := by rw [hx12]; exact List.mem_cons_self
          refine ⟨vacc1, (nn12.hid D hD7).trans hDv7, ?_, ?_⟩
          · rw [RVs.length rr7]
            refine sz1m ?_
            have : out.length = (acc1 ++ (d12 :: r13) ++ r2).length := congrArg List.length eo7
            simp at this
            omega
          · have w : Nx0 ρ12 H12 ρ12 (upd H12 D (.lst (vacc1 ++ [v12]))) := Nx0.write (.inr hD12)
            refine ⟨acc1 ++ [d12], r13, vacc1 ++ [v12], s12, ρ12, by rw [eo7]; simp, (n7.trans nn12.toNx0).trans w, hx12, rs12.rehid hD12, upd_same, fun a z => (upd_ne (neD a z)).trans ((nn12.hid a (by rw [hx7]; exact List.mem_cons_of_mem _ z)).trans (hh7 a z)), ?_, e13⟩
            exact RVs.append (RVs.nx0 (nn12.toNx0.trans w) _ _ rr7) (RVs.one (RV.nx0 w _ _ rv12))
      · have hj2 : j = ds1.length := by omega
        subst hj2
        refine .inl ⟨ok1.stop ρ7 H7 n7, ?_⟩
        rw [List.drop_length] at ee
        cases ee
        rw [List.append_nil] at eo7
        exact ⟨acc1, r2, vacc1, _, ρ7, eo7, n2.trans (nn6.toNx0.trans n7), hx7, rs7, hDv7, hh7, rr7, e8⟩
  · have hi2 : i = ds.length := by omega
    subst hi2
    refine .inl ⟨ok.stop ρ H2 n2, ?_⟩
    rw [List.drop_length] at e
    cases e
    obtain ⟨rsb, hDo⟩ := rs.bare hx
    rw [List.append_nil] at eo
    subst eo
    have hDr : ρ.In D := .inr hDin
    have er : upd (fun a => if a = D then none else H2 a) D (.lst vacc) = H2 := by
      funext a
      by_cases h : a = D
      · subst h; rw [upd_same, hDv]
      · rw [upd_ne h, if_neg h]
    have less : Nx0 ρ H2 ⟨ρ.l, ρ1.x⟩ (fun a => if a = D then none else H2 a) :=
      ⟨fun _ _ z => z, fun a o z q => by
        have h : a ≠ D := fun y => z (by rw [y]; exact hDr)
        show (if a = D then none else H2 a) = some o
        rw [if_neg h]; exact q, fun a z => .inl (z.elim .inl fun q => .inr (by rw [hx]; exact List.mem_cons_of_mem _ q))⟩
    have nall : Nxt ρ1 H1 ⟨ρ.l, ρ1.x⟩ (fun a => if a = D then none else H2 a) :=
      ⟨⟨n2.pre, fun a o z q => by
        have h : a ≠ D := ne_of_none q hD
        show (if a = D then none else H2 a) = some o
        rw [if_neg h]; exact n2.keep a o z q, fun a z => n2.new a (z.elim .inl fun q => .inr (by rw [hx]; exact List.mem_cons_of_mem _ q))⟩, rfl, fun a z => by
        show (if a = D then none else H2 a) = H1 a
        rw [if_neg (neD a z)]; exact hh a z⟩
    have rse : RepSt K ⟨ρ.l, ρ1.x⟩ st' (fun a => if a = D then none else H2 a) :=
      ⟨rsb.nd, rsb.len, fun a z => by
        obtain ⟨u, q⟩ := rsb.exo a z
        exact ⟨u, by show (if a = D then none else H2 a) = some u; rw [if_neg (neD a z)]; exact q⟩, fun i a d ea f => by
        have h : a ≠ D := fun y => hDo (.inl (by rw [← y]; exact List.mem_of_getElem? ea))
        exact (rs.ob i a d ea f).nxt less (if_neg h)⟩
    have fin := k0 D vacc _ ⟨ρ.l, ρ1.x⟩ (n1.trans nall) rse (if_pos rfl) (RVs.nx0 less _ _ ra)
    rw [er] at fin
    exact fin
section
variable {X : Cx} {tg elt iter tg1 iter1 : Expr} {g g1 : G} {vs : List Nat} {mi mi1 : M (List Mn.D)} {t t1 : M Bool} {me : M Mn.D}
theorem pml_lc2 {ifs ifs1 : List Expr} {scope : Scope} {own : List (Str × Nat)} {vs1 : List Nat} {pos : Pos} (hN : X.N.Nodup) (hi : PMI X tg iter mi) (ok : BlkOk X.N X.env.scope scope own) (hv : ∀ i ∈ vs1, i ∈ own.map (·.2))
    (hg : ∀ (s : Shared) (H : Hp) (C : Addr) (cl : List (Str × Addr)) (fp : List Addr), PMG (X.blk s H scope (compEnvC scope cl C X.env) fp) tg (own.map (·.2)) g) (ht : ∀ (s : Shared) (H : Hp) (C : Addr) (cl : List (Str × Addr)) (fp : List Addr), PTs (X.blk s H scope (compEnvC scope cl C X.env) fp) ifs (tMT X.K t))
    (hi1 : ∀ (s : Shared) (H : Hp) (C : Addr) (cl : List (Str × Addr)) (fp : List Addr), PMI (X.blk s H scope (compEnvC scope cl C X.env) fp) tg1 iter1 mi1)
    (hg1 : ∀ (s : Shared) (H : Hp) (C : Addr) (cl : List (Str × Addr)) (fp : List Addr), PMG (X.blk s H scope (compEnvC scope cl C X.env) fp) tg1 vs1 g1) (ht1 : ∀ (s : Shared) (H : Hp) (C : Addr) (cl : List (Str × Addr)) (fp : List Addr), PTs (X.blk s H scope (compEnvC scope cl C X.env) fp) ifs1 (tMT X.K t1))
    (he : ∀ (s : Shared) (H : Hp) (C : Addr) (cl : List (Str × Addr)) (fp : List Addr), PM (X.blk s H scope (compEnvC scope cl C X.env) fp) elt me) (hc : X.calm = true := by rfl) (hs : ∀ x, foldedSetIterable iter X.env x = pure x := by intro _; rfl) (hs1 : ∀ env x, foldedSetIterable iter1 env x = pure x := by intro _ _; rfl) :
    PML X (.ListComp elt [⟨tg, iter, ifs, 0⟩, ⟨tg1, iter1, ifs1, 0⟩] scope pos) (mLc2 (own.map (·.2)) vs1 mi g t mi1 g1 t1 me) :=
  imp_e (pe_lc2 hc hN hi ok hv hg ht hi1 hg1 ht1 he hs hs1) fun _ _ _ h => lc2_mcore h
end
end
end Mn
end
section
set_option Elab.async false
set_option autoImplicit false
set_option linter.all false
set_option maxRecDepth 100000
set_option maxHeartbeats 2000000
/-! The mini layer, S: its equations, step by step; what comes next has a name, so that nothing is looked at ahead of its turn. -/
namespace Mn
noncomputable section
open PySem PySem.Spec PyProof.Rows L2
section
variable {a b : S} {env : MEnv} {st : Store} {m ma mb mc mo mi mk mx : M D} {t u : M Bool} {ms : M (List D)} {i j k n N : Nat} {d x y z : D} {f g : O2} {g1 : G} {gs : Gs} {c : OC} {ds xs l : List D} {v w : Int} {p : Bool} {r s : Str}
theorem bnd_some' {α β : Type} {a : α} {f : α → Store → Option β} : bnd (some (a, st)) f = f a st := rfl
theorem ret1_some' {α : Type} {d : α} : ret1 (some d) st = some (d, st) := rfl
def kThen (b : S) (o : Out) (st1 : Store) : Option (Out × Store) :=
  match o with
  | .nx env1 => b env1 st1
  | .bk env1 => some (.bk env1, st1)
  | .ct env1 => some (.ct env1, st1)
  | .rt d => some (.rt d, st1)
theorem sSeq_eq  : sSeq a b env st = bnd (a env st) (kThen b) := rfl
theorem kThen_nx  : kThen b (.nx env) st = b env st := rfl
theorem kThen_rt  : kThen b (.rt d) st = some (.rt d, st) := rfl
theorem kThen_bk  : kThen b (.bk env) st = some (.bk env, st) := rfl
theorem kThen_ct  : kThen b (.ct env) st = some (.ct env, st) := rfl
theorem sNil_eq  : sNil env st = some (.nx env, st) := rfl
def kAsg (i : Nat) (env : MEnv) (d : D) (st1 : Store) : Option (Out × Store) := some (.nx (env.set i (some d)), st1)
theorem sAsg_eq  : sAsg i m env st = bnd (m env st) (kAsg i env) := rfl
theorem kAsg_eq  : kAsg i env d st = some (.nx (env.set i (some d)), st) := rfl
def kDrop (env : MEnv) (_ : D) (st1 : Store) : Option (Out × Store) := some (.nx env, st1)
theorem sDrop_eq  : sDrop m env st = bnd (m env st) (kDrop env) := rfl
theorem kDrop_eq  : kDrop env d st = some (.nx env, st) := rfl
def kRet (d : D) (st1 : Store) : Option (Out × Store) := some (.rt d, st1)
theorem sRet_eq  : sRet m env st = bnd (m env st) kRet := rfl
theorem kRet_eq  : kRet d st = some (.rt d, st) := rfl
theorem sRetN_eq  : sRetN env st = some (.rt .non, st) := rfl
theorem sBreak_eq  : sBreak env st = some (.bk env, st) := rfl
theorem sCont_eq  : sCont env st = some (.ct env, st) := rfl
def kIf (a b : S) (env : MEnv) (p : Bool) (st1 : Store) : Option (Out × Store) := if p = true then a env st1 else b env st1
theorem sIf_eq  : sIf t a b env st = bnd (t env st) (kIf a b env) := rfl
theorem kIf_true  : kIf a b env true st = a env st := rfl
theorem kIf_false  : kIf a b env false st = b env st := rfl
def kTgt2 (env2 : MEnv) (st2 : Store) : Option (Out × Store) := some (.nx env2, st2)
def kTgt1 (g : G) (env : MEnv) (d : D) (st1 : Store) : Option (Out × Store) := bnd (g d env st1) kTgt2
theorem sTgt_eq  : sTgt m g1 env st = bnd (m env st) (kTgt1 g1 env) := rfl
theorem kTgt1_eq  : kTgt1 g1 env d st = bnd (g1 d env st) kTgt2 := rfl
theorem kTgt2_eq  : kTgt2 env st = some (.nx env, st) := rfl
def kPar2 (i j : Nat) (env : MEnv) (ds : List D) (st1 : Store) : Option (Out × Store) :=
  match ds with
  | [x, y] => some (.nx ((env.set i (some x)).set j (some y)), st1)
  | _ => none
theorem sPar_eq  : sPar i j ms env st = bnd (ms env st) (kPar2 i j env) := rfl
theorem kPar2_eq  : kPar2 i j env [x, y] st = some (.nx ((env.set i (some x)).set j (some y)), st) := rfl
def kPar3 (i j l : Nat) (env : MEnv) (ds : List D) (st1 : Store) : Option (Out × Store) :=
  match ds with
  | [x, y, z] => some (.nx (((env.set i (some x)).set j (some y)).set l (some z)), st1)
  | _ => none
theorem sPar3_eq  : sPar3 i j k ms env st = bnd (ms env st) (kPar3 i j k env) := rfl
theorem kPar3_eq  : kPar3 i j k env [x, y, z] st = some (.nx (((env.set i (some x)).set j (some y)).set k (some z)), st) := rfl
def kFor (g : G) (b : S) (env : MEnv) (ds : List D) (st1 : Store) : Option (Out × Store) := forL g b ds env st1
theorem sFor_eq {mi : M (List D)} : sFor mi g1 b env st = bnd (mi env st) (kFor g1 b env) := rfl
theorem kFor_eq  : kFor g1 b env ds st = forL g1 b ds env st := rfl
def kAug1 (i : Nat) (f : O2) (x : D) (env : MEnv) (y : D) (st1 : Store) : Option (Out × Store) := bnd (ret1 (f x y st1) st1) (kAsg i env)
def kAug (i : Nat) (f : O2) (m : M D) (env : MEnv) (st : Store) (o : Option (Option D)) : Option (Out × Store) :=
  match o with
  | some (some x) => bnd (m env st) (kAug1 i f x env)
  | _ => none
theorem sAug_eq  : sAug i f m env st = kAug i f m env st env[i]? := by
  unfold sAug kAug
  cases env[i]? with
  | none => rfl
  | some o =>
    cases o with
    | none => rfl
    | some x =>
      show bnd (m env st) _ = bnd (m env st) _
      congr 1
      funext y st1
      unfold kAug1
      cases f x y st1 <;> rfl
theorem kAug_eq  : kAug i f m env st (some (some x)) = bnd (m env st) (kAug1 i f x env) := rfl
theorem kAug1_eq  : kAug1 i f x env y st = bnd (ret1 (f x y st) st) (kAsg i env) := rfl
def kGot (st : Store) (o : Option (Option D)) : Option (D × Store) :=
  match o with
  | some (some d) => some (d, st)
  | _ => none
theorem mV_eq  : mV i env st = kGot st env[i]? := rfl
theorem kGot_eq  : kGot st (some (some d)) = some (d, st) := rfl
theorem mC_eq  : mC d env st = some (d, st) := rfl
def kOp2 (f : O2) (x y : D) (st2 : Store) : Option (D × Store) := ret1 (f x y st2) st2
def kOp1 (f : O2) (mb : M D) (env : MEnv) (x : D) (st1 : Store) : Option (D × Store) := bnd (mb env st1) (kOp2 f x)
theorem mOp_eq  : mOp f ma mb env st = bnd (ma env st) (kOp1 f mb env) := rfl
theorem kOp1_eq  : kOp1 f mb env x st = bnd (mb env st) (kOp2 f x) := rfl
theorem kOp2_eq  : kOp2 f x y st = ret1 (f x y st) st := rfl
def kB (d : D) (st1 : Store) : Option (Bool × Store) :=
  match d with
  | .bl b => some (b, st1)
  | _ => none
theorem mTB_eq  : mTB m env st = bnd (m env st) kB := rfl
theorem kB_eq  : kB (.bl p) st = some (p, st) := rfl
def kAnd (u : M Bool) (env : MEnv) (p : Bool) (st1 : Store) : Option (Bool × Store) := if p = true then u env st1 else some (false, st1)
def kOr (u : M Bool) (env : MEnv) (p : Bool) (st1 : Store) : Option (Bool × Store) := if p = true then some (true, st1) else u env st1
def kNot (p : Bool) (st1 : Store) : Option (Bool × Store) := some (!p, st1)
theorem mAnd_eq  : mAnd t u env st = bnd (t env st) (kAnd u env) := rfl
theorem kAnd_true  : kAnd u env true st = u env st := rfl
theorem kAnd_false  : kAnd u env false st = some (false, st) := rfl
theorem mOr_eq  : mOr t u env st = bnd (t env st) (kOr u env) := rfl
theorem kOr_true  : kOr u env true st = some (true, st) := rfl
theorem kOr_false  : kOr u env false st = u env st := rfl
theorem mNot_eq  : mNot t env st = bnd (t env st) kNot := rfl
theorem kNot_eq  : kNot p st = some (!p, st) := rfl
def kIte {α : Type} (a b : M α) (env : MEnv) (p : Bool) (st1 : Store) : Option (α × Store) := if p = true then a env st1 else b env st1
theorem mIte_eq {α : Type} {x y : M α} : mIte t x y env st = bnd (t env st) (kIte x y env) := rfl
theorem kIte_true {α : Type} {x y : M α} : kIte x y env true st = x env st := rfl
theorem kIte_false {α : Type} {x y : M α} : kIte x y env false st = y env st := rfl
def kAndV (mb : M D) (env : MEnv) (p : Bool) (st1 : Store) : Option (D × Store) := if p = true then mb env st1 else some (.bl false, st1)
def kOrV (mb : M D) (env : MEnv) (p : Bool) (st1 : Store) : Option (D × Store) := if p = true then some (.bl true, st1) else mb env st1
def kNotV (p : Bool) (st1 : Store) : Option (D × Store) := some (.bl (!p), st1)
theorem mAndV_eq  : mAndV ma mb env st = bnd (mTB ma env st) (kAndV mb env) := rfl
theorem kAndV_true  : kAndV mb env true st = mb env st := rfl
theorem kAndV_false  : kAndV mb env false st = some (.bl false, st) := rfl
theorem mOrV_eq  : mOrV ma mb env st = bnd (mTB ma env st) (kOrV mb env) := rfl
theorem kOrV_true  : kOrV mb env true st = some (.bl true, st) := rfl
theorem kOrV_false  : kOrV mb env false st = mb env st := rfl
theorem mNotV_eq  : mNotV ma env st = bnd (mTB ma env st) kNotV := rfl
theorem kNotV_eq  : kNotV p st = some (.bl (!p), st) := rfl
theorem mNil_eq  : mNil env st = some ([], st) := rfl
def kCons2 (x : D) (xs : List D) (st2 : Store) : Option (List D × Store) := some (x :: xs, st2)
def kCons1 (r : M (List D)) (env : MEnv) (x : D) (st1 : Store) : Option (List D × Store) := bnd (r env st1) (kCons2 x)
theorem mCons_eq  : mCons m ms env st = bnd (m env st) (kCons1 ms env) := rfl
theorem kCons1_eq  : kCons1 ms env x st = bnd (ms env st) (kCons2 x) := rfl
theorem kCons2_eq  : kCons2 x xs st = some (x :: xs, st) := rfl
def kTup (xs : List D) (st1 : Store) : Option (D × Store) := if xs.length ≤ 1000 then some (.tup xs, st1) else none
def kLst (xs : List D) (st1 : Store) : Option (List D × Store) := if xs.length ≤ 1000 then some (xs, st1) else none
theorem mTup_eq  : mTup ms env st = bnd (ms env st) kTup := rfl
theorem kTup_eq (h : xs.length ≤ 1000) : kTup xs st = some (.tup xs, st) := if_pos h
theorem mLst_eq  : mLst ms env st = bnd (ms env st) kLst := rfl
theorem kLst_eq (h : xs.length ≤ 1000) : kLst xs st = some (xs, st) := if_pos h
def kFrz (xs : List D) (st1 : Store) : Option (D × Store) := some (.lst xs, st1)
def kMut (xs : List D) (st1 : Store) : Option (D × Store) := some (.loc st1.length, st1 ++ [.lst xs])
theorem mFrz_eq  : mFrz ms env st = bnd (ms env st) kFrz := rfl
theorem kFrz_eq  : kFrz xs st = some (.lst xs, st) := rfl
theorem mMut_eq  : mMut ms env st = bnd (ms env st) kMut := rfl
theorem kMut_eq  : kMut xs st = some (.loc st.length, st ++ [.lst xs]) := rfl
theorem mCall_eq {F : Fn} : mCall F ms env st = bnd (ms env st) F := rfl
def kCB (c : OC) (xs : List D) (st1 : Store) : Option (D × Store) := ret1 (c xs st1) st1
def kCBL (c : OL) (xs : List D) (st1 : Store) : Option (List D × Store) := ret1 (c xs st1) st1
theorem mCB_eq  : mCB c ms env st = bnd (ms env st) (kCB c) := rfl
theorem kCB_eq  : kCB c xs st = ret1 (c xs st) st := rfl
theorem mCBL_eq {c : OL} : mCBL c ms env st = bnd (ms env st) (kCBL c) := rfl
theorem kCBL_eq {c : OL} : kCBL c xs st = ret1 (c xs st) st := rfl
def kTr (x : D) (st1 : Store) : Option (Bool × Store) := ret1 (truD x st1) st1
theorem mTr_eq  : mTr m env st = bnd (m env st) kTr := rfl
theorem kTr_eq  : kTr x st = ret1 (truD x st) st := rfl
def kNeg (x : D) (st1 : Store) : Option (D × Store) :=
  match x with
  | .int i => some (.int (-i), st1)
  | _ => none
theorem mNeg_eq  : mNeg m env st = bnd (m env st) kNeg := rfl
theorem kNeg_eq  : kNeg (.int v) st = some (.int (-v), st) := rfl
def kChn (g : O2) (mc : M D) (env : MEnv) (y : D) (st2 : Store) (o : Option D) : Option (D × Store) :=
  match o with
  | some (.bl true) => bnd (mc env st2) (kOp2 g y)
  | some (.bl false) => some (.bl false, st2)
  | _ => none
def kChn2 (f g : O2) (mc : M D) (env : MEnv) (x y : D) (st2 : Store) : Option (D × Store) := kChn g mc env y st2 (f x y st2)
def kChn1 (f g : O2) (mb mc : M D) (env : MEnv) (x : D) (st1 : Store) : Option (D × Store) := bnd (mb env st1) (kChn2 f g mc env x)
theorem mChain_eq  : mChain f g ma mb mc env st = bnd (ma env st) (kChn1 f g mb mc env) := rfl
theorem kChn1_eq  : kChn1 f g mb mc env x st = bnd (mb env st) (kChn2 f g mc env x) := rfl
theorem kChn2_eq  : kChn2 f g mc env x y st = kChn g mc env y st (f x y st) := rfl
theorem kChn_true  : kChn g mc env y st (some (.bl true)) = bnd (mc env st) (kOp2 g y) := rfl
theorem kChn_false  : kChn g mc env y st (some (.bl false)) = some (.bl false, st) := rfl
theorem gN_eq  : gN i d env st = some (env.set i (some d), st) := rfl
theorem gsN_eq  : gsN [] env st = some (env, st) := rfl
def kGs (gs : Gs) (ds : List D) (env1 : MEnv) (st1 : Store) : Option (MEnv × Store) := gs ds env1 st1
theorem gsC_eq  : gsC g1 gs (d :: ds) env st = bnd (g1 d env st) (kGs gs ds) := rfl
theorem kGs_eq  : kGs gs ds env st = gs ds env st := rfl
theorem gT_eq (h : ds.length = n) : gT n gs (.tup ds) env st = gs ds env st := if_pos h
theorem gTp_eq (h : ds.length = n) : gT n gs (.ptl ds) env st = gs ds env st := if_pos h
def kSetE (env : MEnv) (o : Option Store) : Option (MEnv × Store) :=
  match o with
  | some st3 => some (env, st3)
  | none => none
def kSet2 (env : MEnv) (d o i : D) (st2 : Store) : Option (MEnv × Store) := kSetE env (setO o i d st2)
def kSet1 (mi : M D) (env : MEnv) (d o : D) (st1 : Store) : Option (MEnv × Store) := bnd (mi env st1) (kSet2 env d o)
theorem gSet_eq  : gSet mo mi d env st = bnd (mo env st) (kSet1 mi env d) := rfl
theorem kSet1_eq  : kSet1 mi env d x st = bnd (mi env st) (kSet2 env d x) := rfl
theorem kSet2_eq  : kSet2 env d x y st = kSetE env (setO x y d st) := rfl
theorem kSetE_eq {st3 : Store} : kSetE env (some st3) = some (env, st3) := rfl
def setL (n : Nat) (i v : D) (st : Store) (o : Option D) : Option Store :=
  match o with
  | some (.lst l) => match i with
      | .int k => match ixN l.length k with
        | some j => some (st.set n (.lst (l.set j v)))
        | none => none
      | _ => none
  | some (.dic l) => match keyD i with
      | some k => @ite _ (l.length < 16777216) (Classical.propDecidable _) (some (st.set n (.dic (putD l k v)))) none
      | none => none
  | _ => none
theorem setO_eq  : setO (.loc n) x d st = setL n x d st st[n]? := rfl
theorem ixN_nat {n k : Nat} (h : k < n) : ixN n (k : Int) = some k := by
  unfold ixN
  rw [if_pos (by omega), if_pos (by omega)]
  simp
theorem setL_nat (h : k < l.length) : setL n (.int (k : Int)) d st (some (.lst l)) = some (st.set n (.lst (l.set k d))) := by
  unfold setL
  simp only [ixN_nat h]
theorem setL_lit (h : k < l.length) : setL n (.int (no_index (OfNat.ofNat k))) d st (some (.lst l)) = some (st.set n (.lst (l.set k d))) := setL_nat h
theorem setL_str {l : List (Key × D)} (h : l.length < 16777216) : setL n (.str r) d st (some (.dic l)) = some (st.set n (.dic (putD l (.inr r) d))) := if_pos h
def kMt3 (n : Nat) (st2 : Store) (o : Option (D × List D)) : Option (D × Store) :=
  match o with
  | some (dr, ds') => some (dr, st2.set n (.lst ds'))
  | none => none
def kMt2' (f : OM) (n : Nat) (xs : List D) (st2 : Store) (o : Option D) : Option (D × Store) :=
  match o with
  | some (.lst ds) => kMt3 n st2 (f ds xs st2)
  | _ => none
def kMt2 (f : OM) (n : Nat) (xs : List D) (st2 : Store) : Option (D × Store) := kMt2' f n xs st2 st2[n]?
def kMt1' (f : OM) (ms : M (List D)) (env : MEnv) (n : Nat) (st1 : Store) (o : Option D) : Option (D × Store) :=
  match o with
  | some (.lst _) => bnd (ms env st1) (kMt2 f n)
  | _ => none
def kMt1 (f : OM) (ms : M (List D)) (env : MEnv) (x : D) (st1 : Store) : Option (D × Store) :=
  match x with
  | .loc n => kMt1' f ms env n st1 st1[n]?
  | _ => none
theorem mMt_eq {f : OM} : mMt f mo ms env st = bnd (mo env st) (kMt1 f ms env) := by
  unfold mMt
  congr 1
  funext x st1
  unfold kMt1 isLoc
  cases x <;> try rfl
  rename_i n
  simp only
  unfold kMt1'
  cases h : st1[n]? with
  | none => rfl
  | some d =>
    cases d <;> first
      | rfl
      | (simp only
         congr 1
         funext xs st2
         unfold kMt2 kMt2' kMt3
         cases h2 : st2[n]? with
         | none => rfl
         | some d2 =>
           cases d2 <;> try rfl
           rename_i ds
           simp only
           cases f ds xs st2 <;> rfl)
theorem kMt1_eq {f : OM} : kMt1 f ms env (.loc n) st = kMt1' f ms env n st st[n]? := rfl
theorem kMt1'_eq {f : OM} : kMt1' f ms env n st (some (.lst l)) = bnd (ms env st) (kMt2 f n) := rfl
theorem kMt2_eq {f : OM} : kMt2 f n xs st = kMt2' f n xs st st[n]? := rfl
theorem kMt2'_eq {f : OM} : kMt2' f n xs st (some (.lst ds)) = kMt3 n st (f ds xs st) := rfl
theorem kMt3_eq  : kMt3 n st (some (d, ds)) = some (d, st.set n (.lst ds)) := rfl
theorem fApp_eq (h : ds.length < 16777216) : fApp ds [x] st = some (.non, ds ++ [x]) := if_pos h
def kPop (ds : List D) (o : Option D) : Option (D × List D) :=
  match o with
  | some d => some (d, ds.dropLast)
  | none => none
theorem fPop_eq  : fPop ds [] st = kPop ds ds.getLast? := by
  unfold fPop kPop
  rw [List.getLast?_eq_getElem?]
  all_goals (cases ds[ds.length - 1]? <;> rfl)
theorem kPop_eq  : kPop ds (some d) = some (d, ds.dropLast) := rfl
theorem getLast_snoc  : (ds ++ [d]).getLast? = some d := by simp
theorem dropLast_snoc  : (ds ++ [d]).dropLast = ds := by simp
def kExt (ds : List D) (o : Option (List D)) : Option (D × List D) :=
  match o with
  | some l => @ite _ (ds.length + l.length ≤ 16777216) (Classical.propDecidable _) (some (.non, ds ++ l)) none
  | none => none
theorem fExt_eq  : fExt ds [x] st = kExt ds (lstD x st) := rfl
theorem kExt_eq (h : ds.length + l.length ≤ 16777216) : kExt ds (some l) = some (.non, ds ++ l) := if_pos h
theorem oAdd_int  : oAdd (.int v) (.int w) st = some (.int (v + w)) := rfl
theorem oAdd_str (h : r.length + s.length ≤ 16777216) : oAdd (.str r) (.str s) st = some (.str (r ++ s)) := if_pos h
theorem oAdd_tup (h : ds.length + l.length ≤ 16777216) : oAdd (.tup ds) (.tup l) st = some (.tup (ds ++ l)) := if_pos h
def kCat (o p : Option (List D)) : Option D :=
  match o, p with
  | some a, some b => @ite _ (a.length + b.length ≤ 16777216) (Classical.propDecidable _) (some (.lst (a ++ b))) none
  | _, _ => none
theorem oAdd_lst  : oAdd (.lst ds) y st = kCat (some ds) (lstD y st) := rfl
theorem oAdd_loc  : oAdd (.loc n) y st = kCat (lstD (.loc n) st) (lstD y st) := rfl
theorem kCat_eq (h : ds.length + l.length ≤ 16777216) : kCat (some ds) (some l) = some (.lst (ds ++ l)) := if_pos h
def isLst (o : Option D) : Option (List D) :=
  match o with
  | some (.lst l) => some l
  | _ => none
theorem lstD_lst  : lstD (.lst l) st = some l := rfl
theorem lstD_loc  : lstD (.loc n) st = isLst st[n]? := rfl
theorem isLst_eq  : isLst (some (.lst l)) = some l := rfl
theorem seqD_tup  : seqD (.tup l) st = some l := rfl
theorem seqD_lst  : seqD (.lst l) st = some l := rfl
theorem seqD_rol  : seqD (.rol l) st = some l := rfl
theorem seqD_loc  : seqD (.loc n) st = isLst st[n]? := rfl
def isDic (o : Option D) : Option (List (Key × D)) :=
  match o with
  | some (.dic l) => some l
  | _ => none
theorem dicD_dic {l : List (Key × D)} : dicD (.dic l) st = some l := rfl
theorem dicD_loc  : dicD (.loc n) st = isDic st[n]? := rfl
theorem isDic_eq {l : List (Key × D)} : isDic (some (.dic l)) = some l := rfl
theorem oSub_int  : oI fSub (.int v) (.int w) st = some (.int (v - w)) := rfl
theorem oMul_int (h1 : Fits v = true) (h2 : Fits w = true) : oI fMul (.int v) (.int w) st = some (.int (v * w)) := by
  unfold oI fMul
  simp only [h1, h2, and_self, if_true]
theorem oDiv_int (h1 : 0 < w) (h2 : Fits w = true) : oI fDiv (.int v) (.int w) st = some (.int (v / w)) := by
  unfold oI fDiv
  have : w ≠ 0 := by omega
  simp only [h2, this, ne_eq, not_false_eq_true, and_self, if_true]
  rw [Int.fdiv_eq_ediv_of_nonneg _ (by omega)]
theorem oDiv_any (h1 : w ≠ 0) (h2 : Fits w = true) : oI fDiv (.int v) (.int w) st = some (.int (v.fdiv w)) := by
  unfold oI fDiv
  simp only [h2, h1, ne_eq, not_false_eq_true, and_self, if_true]
theorem oMod_int (h1 : 0 < w) : oI fMod (.int v) (.int w) st = some (.int (v % w)) := by
  unfold oI fMod
  have : w ≠ 0 := by omega
  simp only [this, ne_eq, not_false_eq_true, if_true]
  rw [Int.fmod_eq_emod_of_nonneg _ (by omega)]
theorem oPow_lit (h : 0 ≤ w ∧ w ≤ 1000000 ∧ v.natAbs < 18446744073709551616) : oI fPow (.int v) (.int w) st = some (.int (v ^ w.toNat)) := by
  unfold oI fPow
  have h2 : v.natAbs < 2 ^ 64 := h.2.2
  simp only [h.1, h.2.1, h2, and_self, if_true]
theorem oI_plus  : oI (fun i j => some (i + j)) (.int v) (.int w) st = some (.int (v + w)) := rfl
theorem oI_minus  : oI (fun i j => some (i - j)) (.int v) (.int w) st = some (.int (v - w)) := rfl
theorem oLt_int  : oC cLt (.int v) (.int w) st = some (.bl (decide (v < w))) := rfl
theorem oLe_int  : oC cLe (.int v) (.int w) st = some (.bl (decide (v ≤ w))) := rfl
theorem oGt_int  : oC cGt (.int v) (.int w) st = some (.bl (decide (w < v))) := rfl
theorem oGe_int  : oC cGe (.int v) (.int w) st = some (.bl (decide (w ≤ v))) := rfl
theorem oEq_int  : oEq (.int v) (.int w) st = some (.bl ((v == w))) := rfl
theorem oEq_str  : oEq (.str r) (.str s) st = some (.bl ((r == s))) := rfl
theorem oEq_bl {q : Bool} : oEq (.bl p) (.bl q) st = some (.bl ((p == q))) := rfl
theorem oNe_int  : oNe (.int v) (.int w) st = some (.bl (!(v == w))) := rfl
theorem oNe_str  : oNe (.str r) (.str s) st = some (.bl (!(r == s))) := rfl
theorem oNe_bl {q : Bool} : oNe (.bl p) (.bl q) st = some (.bl (!(p == q))) := rfl
theorem oIs_non  : oIs x .non st = some (.bl (isN x)) := rfl
theorem oIsNot_non  : oIsNot x .non st = some (.bl (!isN x)) := rfl
theorem isN_non  : isN .non = true := rfl
theorem isN_int  : isN (.int v) = false := rfl
theorem isN_bl  : isN (.bl p) = false := rfl
theorem isN_str  : isN (.str r) = false := rfl
theorem isN_tup  : isN (.tup l) = false := rfl
theorem isN_lst  : isN (.lst l) = false := rfl
theorem isN_loc  : isN (.loc n) = false := rfl
theorem atI_nat' {l : List D} {k : Nat} : atI l (k : Int) = l[k]? := by
  unfold atI ixN
  by_cases h : k < l.length
  · rw [if_pos (by omega), if_pos (by omega)]
    simp
  · rw [if_pos (by omega), if_neg (by omega)]
    simp
    omega
theorem atI_lit  : atI l (no_index (OfNat.ofNat k)) = l[k]? := atI_nat'
theorem atI_natc  : atI l (k : Int) = l[k]? := atI_nat'
theorem atI_neg1  : atI l (-1) = l.getLast? := by
  cases l with
  | nil => rfl
  | cons x r =>
    have h := atI_last ((x :: r).dropLast) ((x :: r).getLast (List.cons_ne_nil x r))
    rw [List.dropLast_concat_getLast] at h
    rw [h, List.getLast?_eq_some_getLast (List.cons_ne_nil x r)]
def ixL (y : D) (o : Option D) : Option D :=
  match o, y with
  | some (.lst l), .int i => atI l i
  | some (.dic l), .int i => lkD l (.inl i)
  | some (.dic l), .str s => lkD l (.inr s)
  | _, _ => none
theorem ixO_tup  : ixO (.tup l) (.int v) st = atI l v := rfl
theorem ixO_lst  : ixO (.lst l) (.int v) st = atI l v := rfl
theorem ixO_dics {l : List (Key × D)} : ixO (.dic l) (.str r) st = lkD l (.inr r) := rfl
theorem ixO_dici {l : List (Key × D)} : ixO (.dic l) (.int v) st = lkD l (.inl v) := rfl
theorem ixO_locs  : ixO (.loc n) (.str r) st = ixL (.str r) st[n]? := by
  unfold ixO dicD ixL
  cases h : st[n]? with
  | none => simp only [h]
  | some d => cases d <;> simp only [h]
theorem ixO_loci  : ixO (.loc n) (.int v) st = ixL (.int v) st[n]? := by
  unfold ixO seqD dicD ixL
  cases h : st[n]? with
  | none => simp only [h]
  | some d => cases d <;> simp only [h]
theorem ixL_lst  : ixL (.int v) (some (.lst l)) = atI l v := rfl
theorem ixL_dics {l : List (Key × D)} : ixL (.str r) (some (.dic l)) = lkD l (.inr r) := rfl
theorem ixL_dici {l : List (Key × D)} : ixL (.int v) (some (.dic l)) = lkD l (.inl v) := rfl
def lenL (o : Option D) : Option D :=
  match o with
  | some (.lst l) => some (.int l.length)
  | some (.dic l) => some (.int l.length)
  | _ => none
theorem cLen_tup  : cLen [.tup l] st = some (.int l.length) := rfl
theorem cLen_lst  : cLen [.lst l] st = some (.int l.length) := rfl
theorem cLen_dic {l : List (Key × D)} : cLen [.dic l] st = some (.int l.length) := rfl
theorem cLen_loc  : cLen [.loc n] st = lenL st[n]? := by
  unfold cLen seqD dicD lenL
  cases h : st[n]? with
  | none => simp only [h]
  | some d => cases d <;> simp only [h]
theorem lenL_lst  : lenL (some (.lst l)) = some (.int l.length) := rfl
theorem lenL_dic {l : List (Key × D)} : lenL (some (.dic l)) = some (.int l.length) := rfl
theorem cInt_int  : cInt [.int v] st = some (.int v) := rfl
theorem cInt_bl  : cInt [.bl p] st = some (.int (if p then 1 else 0)) := rfl
theorem fAbs_eq (i : Int) : fAbs i = (i.natAbs : Int) := by unfold fAbs; split <;> omega
theorem cAbs_int  : cInt1 fAbs [.int v] st = some (.int v.natAbs) := by
  show some (D.int (fAbs v)) = _
  rw [fAbs_eq]
theorem cTup_tup  : cTup [.tup l] st = some (.tup l) := rfl
theorem cTup_lst  : cTup [.lst l] st = some (.tup l) := rfl
def tupL (o : Option (List D)) : Option D :=
  match o with
  | some l => some (.tup l)
  | none => none
theorem cTup_loc  : cTup [.loc n] st = tupL (isLst st[n]?) := rfl
theorem tupL_eq  : tupL (some l) = some (.tup l) := rfl
theorem cList_eq  : cList [x] st = seqD x st := rfl
def blsA (f : List Bool → D) (o : Option (List Bool)) : Option D :=
  match o with
  | some bs => some (f bs)
  | none => none
theorem cBls_lst {f : List Bool → D} : cBls f [.lst l] st = blsA f (blsD l) := rfl
theorem blsA_eq {f : List Bool → D} {bs : List Bool} : blsA f (some bs) = some (f bs) := rfl
theorem fAll_eq {bs : List Bool} : fAll bs = .bl (bs.all id) := rfl
theorem fAny_eq {bs : List Bool} : fAny bs = .bl (bs.any id) := rfl
theorem blsD_map {α : Type} (h : α → Bool) : ∀ l : List α, blsD (l.map fun x => .bl (h x)) = some (l.map h)
  | [] => rfl
  | x :: l => by
    show (match blsD (l.map fun x => .bl (h x)) with | some r => some (h x :: r) | none => none) = _
    rw [blsD_map h l]
    rfl
def truL (o : Option D) : Option Bool :=
  match o with
  | some (.lst l) => some (!l.isEmpty)
  | some (.dic l) => some (!l.isEmpty)
  | _ => none
theorem truD_lst  : truD (.lst l) st = some (!l.isEmpty) := rfl
theorem truD_tup  : truD (.tup l) st = some (!l.isEmpty) := rfl
theorem truD_bl  : truD (.bl p) st = some p := rfl
theorem truD_int  : truD (.int v) st = some (v != 0) := rfl
theorem truD_non  : truD .non st = some false := rfl
theorem truD_loc  : truD (.loc n) st = truL st[n]? := rfl
theorem truL_lst  : truL (some (.lst l)) = some (!l.isEmpty) := rfl
theorem truL_dic {l : List (Key × D)} : truL (some (.dic l)) = some (!l.isEmpty) := rfl
theorem itD_tup  : itD (.tup l) = some l := rfl
theorem itD_lst  : itD (.lst l) = some l := rfl
def kIt (d : D) (st1 : Store) : Option (List D × Store) := ret1 (itD d) st1
theorem miSeq_eq  : miSeq m env st = bnd (m env st) kIt := rfl
theorem kIt_eq  : kIt d st = ret1 (itD d) st := rfl
def kR1 (ds : List D) (st1 : Store) : Option (List D × Store) :=
  match ds with
  | [.int j] => @ite _ (-(2 ^ 32) < j ∧ j < 2 ^ 32) (Classical.propDecidable _) (some (rngL 0 j.toNat, st1)) none
  | _ => none
def kR2 (ds : List D) (st1 : Store) : Option (List D × Store) :=
  match ds with
  | [.int i, .int j] => @ite _ ((-(2 ^ 32) < i ∧ i < 2 ^ 32) ∧ -(2 ^ 32) < j ∧ j < 2 ^ 32) (Classical.propDecidable _) (some (rngL i (j - i).toNat, st1)) none
  | _ => none
theorem miR1_eq  : miR1 ms env st = bnd (ms env st) kR1 := rfl
theorem kR1_eq (h : 0 ≤ v) (h2 : v < 4294967296) : kR1 [.int v] st = some (rngL 0 v.toNat, st) := by
  unfold kR1
  simp only
  rw [if_pos (by omega)]
theorem miR2_eq  : miR2 ms env st = bnd (ms env st) kR2 := rfl
theorem kR2_eq (h : -4294967296 < v) (h1 : v < 4294967296) (h2 : -4294967296 < w) (h3 : w < 4294967296) : kR2 [.int v, .int w] st = some (rngL v (w - v).toNat, st) := by
  unfold kR2
  simp only
  rw [if_pos (by omega)]
def kSl3 (x : D) (lo hi : Option Int) (st3 : Store) : Option (D × Store) := ret1 (slD x lo hi st3) st3
def kSl2 (mh : MO) (env : MEnv) (x : D) (lo : Option Int) (st2 : Store) : Option (D × Store) := bnd (mh env st2) (kSl3 x lo)
def kSl1 (ml mh : MO) (env : MEnv) (x : D) (st1 : Store) : Option (D × Store) := bnd (ml env st1) (kSl2 mh env x)
def kPart (x : D) (st1 : Store) : Option (Option Int × Store) :=
  match x with
  | .int i => some (some i, st1)
  | _ => none
def slA (lo hi : Option Int) (o : Option (List D)) : Option D :=
  match o with
  | some l => some (.lst (cutD l lo hi))
  | none => none
theorem mSl_eq {ml mh : MO} : mSl ma ml mh env st = bnd (ma env st) (kSl1 ml mh env) := rfl
theorem kSl1_eq {ml mh : MO} : kSl1 ml mh env x st = bnd (ml env st) (kSl2 mh env x) := rfl
theorem kSl2_eq {mh : MO} {lo : Option Int} : kSl2 mh env x lo st = bnd (mh env st) (kSl3 x lo) := rfl
theorem kSl3_eq {lo hi : Option Int} : kSl3 x lo hi st = ret1 (slD x lo hi st) st := rfl
theorem mNoP_eq  : mNoP env st = some (none, st) := rfl
theorem mPart_eq  : mPart m env st = bnd (m env st) kPart := rfl
theorem kPart_eq  : kPart (.int v) st = some (some v, st) := rfl
theorem slD_tup {lo hi : Option Int} : slD (.tup l) lo hi st = some (.tup (cutD l lo hi)) := rfl
theorem slD_lst {lo hi : Option Int} : slD (.lst l) lo hi st = some (.lst (cutD l lo hi)) := rfl
theorem slD_rol {lo hi : Option Int} : slD (.rol l) lo hi st = some (.lst (cutD l lo hi)) := rfl
theorem slD_loc {lo hi : Option Int} : slD (.loc n) lo hi st = slA lo hi (isLst st[n]?) := rfl
theorem slA_eq {lo hi : Option Int} : slA lo hi (some l) = some (.lst (cutD l lo hi)) := rfl
def kIsi2 (cs : List String) (st1 : Store) (o : Option String) : Option (D × Store) :=
  match o with
  | some t => match isiL t cs with
    | some b => some (.bl b, st1)
    | none => none
  | none => none
def kIsi (cs : List String) (x : D) (st1 : Store) : Option (D × Store) := kIsi2 cs st1 (tyD x st1)
theorem mIsi_eq {cs : List String} : mIsi cs m env st = bnd (m env st) (kIsi cs) := rfl
theorem kIsi_eq {cs : List String} : kIsi cs x st = kIsi2 cs st (tyD x st) := rfl
theorem kIsi2_of {cs : List String} {t : String} {b : Bool} (h : isiL t cs = some b) : kIsi2 cs st (some t) = some (.bl b, st) := by
  unfold kIsi2
  simp only [h]
theorem tyD_non  : tyD (.non ) st = some "NoneType" := rfl
theorem tyD_bl  : tyD (.bl p) st = some "bool" := rfl
theorem tyD_int  : tyD (.int v) st = some "int" := rfl
theorem tyD_str  : tyD (.str r) st = some "str" := rfl
theorem tyD_tup  : tyD (.tup l) st = some "tuple" := rfl
theorem tyD_lst  : tyD (.lst l) st = some "list" := rfl
theorem isi_NoneType_tuple  : kIsi2 ["tuple"] st (some "NoneType") = some (.bl false, st) := kIsi2_of (by decide +kernel)
theorem isi_NoneType_list  : kIsi2 ["list"] st (some "NoneType") = some (.bl false, st) := kIsi2_of (by decide +kernel)
theorem isi_NoneType_int  : kIsi2 ["int"] st (some "NoneType") = some (.bl false, st) := kIsi2_of (by decide +kernel)
theorem isi_NoneType_str  : kIsi2 ["str"] st (some "NoneType") = some (.bl false, st) := kIsi2_of (by decide +kernel)
theorem isi_NoneType_bool  : kIsi2 ["bool"] st (some "NoneType") = some (.bl false, st) := kIsi2_of (by decide +kernel)
theorem isi_NoneType_int_str  : kIsi2 ["int", "str"] st (some "NoneType") = some (.bl false, st) := kIsi2_of (by decide +kernel)
theorem isi_bool_tuple  : kIsi2 ["tuple"] st (some "bool") = some (.bl false, st) := kIsi2_of (by decide +kernel)
theorem isi_bool_list  : kIsi2 ["list"] st (some "bool") = some (.bl false, st) := kIsi2_of (by decide +kernel)
theorem isi_bool_int  : kIsi2 ["int"] st (some "bool") = some (.bl true, st) := kIsi2_of (by decide +kernel)
theorem isi_bool_str  : kIsi2 ["str"] st (some "bool") = some (.bl false, st) := kIsi2_of (by decide +kernel)
theorem isi_bool_bool  : kIsi2 ["bool"] st (some "bool") = some (.bl true, st) := kIsi2_of (by decide +kernel)
theorem isi_bool_int_str  : kIsi2 ["int", "str"] st (some "bool") = some (.bl true, st) := kIsi2_of (by decide +kernel)
theorem isi_int_tuple  : kIsi2 ["tuple"] st (some "int") = some (.bl false, st) := kIsi2_of (by decide +kernel)
theorem isi_int_list  : kIsi2 ["list"] st (some "int") = some (.bl false, st) := kIsi2_of (by decide +kernel)
theorem isi_int_int  : kIsi2 ["int"] st (some "int") = some (.bl true, st) := kIsi2_of (by decide +kernel)
theorem isi_int_str  : kIsi2 ["str"] st (some "int") = some (.bl false, st) := kIsi2_of (by decide +kernel)
theorem isi_int_bool  : kIsi2 ["bool"] st (some "int") = some (.bl false, st) := kIsi2_of (by decide +kernel)
theorem isi_int_int_str  : kIsi2 ["int", "str"] st (some "int") = some (.bl true, st) := kIsi2_of (by decide +kernel)
theorem isi_str_tuple  : kIsi2 ["tuple"] st (some "str") = some (.bl false, st) := kIsi2_of (by decide +kernel)
theorem isi_str_list  : kIsi2 ["list"] st (some "str") = some (.bl false, st) := kIsi2_of (by decide +kernel)
theorem isi_str_int  : kIsi2 ["int"] st (some "str") = some (.bl false, st) := kIsi2_of (by decide +kernel)
theorem isi_str_str  : kIsi2 ["str"] st (some "str") = some (.bl true, st) := kIsi2_of (by decide +kernel)
theorem isi_str_bool  : kIsi2 ["bool"] st (some "str") = some (.bl false, st) := kIsi2_of (by decide +kernel)
theorem isi_str_int_str  : kIsi2 ["int", "str"] st (some "str") = some (.bl true, st) := kIsi2_of (by decide +kernel)
theorem isi_tuple_tuple  : kIsi2 ["tuple"] st (some "tuple") = some (.bl true, st) := kIsi2_of (by decide +kernel)
theorem isi_tuple_list  : kIsi2 ["list"] st (some "tuple") = some (.bl false, st) := kIsi2_of (by decide +kernel)
theorem isi_tuple_int  : kIsi2 ["int"] st (some "tuple") = some (.bl false, st) := kIsi2_of (by decide +kernel)
theorem isi_tuple_str  : kIsi2 ["str"] st (some "tuple") = some (.bl false, st) := kIsi2_of (by decide +kernel)
theorem isi_tuple_bool  : kIsi2 ["bool"] st (some "tuple") = some (.bl false, st) := kIsi2_of (by decide +kernel)
theorem isi_tuple_int_str  : kIsi2 ["int", "str"] st (some "tuple") = some (.bl false, st) := kIsi2_of (by decide +kernel)
theorem isi_list_tuple  : kIsi2 ["tuple"] st (some "list") = some (.bl false, st) := kIsi2_of (by decide +kernel)
theorem isi_list_list  : kIsi2 ["list"] st (some "list") = some (.bl true, st) := kIsi2_of (by decide +kernel)
theorem isi_list_int  : kIsi2 ["int"] st (some "list") = some (.bl false, st) := kIsi2_of (by decide +kernel)
theorem isi_list_str  : kIsi2 ["str"] st (some "list") = some (.bl false, st) := kIsi2_of (by decide +kernel)
theorem isi_list_bool  : kIsi2 ["bool"] st (some "list") = some (.bl false, st) := kIsi2_of (by decide +kernel)
theorem isi_list_int_str  : kIsi2 ["int", "str"] st (some "list") = some (.bl false, st) := kIsi2_of (by decide +kernel)
def dicA (o : Option (List (Key × D))) (st1 : Store) : Option (D × Store) :=
  match o with
  | some l => some (.dic l, st1)
  | none => none
def dicB (o : Option (List (Key × D))) (st1 : Store) : Option (D × Store) :=
  match o with
  | some l => some (.loc st1.length, st1 ++ [.dic l])
  | none => none
def kDicF (xs : List D) (st1 : Store) : Option (D × Store) := dicA (cDic xs st1) st1
def kDicM (xs : List D) (st1 : Store) : Option (D × Store) := dicB (cDic xs st1) st1
theorem mDicF_eq  : mDicF ms env st = bnd (ms env st) kDicF := rfl
theorem kDicF_eq  : kDicF xs st = dicA (cDic xs st) st := rfl
theorem mDicM_eq  : mDicM ms env st = bnd (ms env st) kDicM := rfl
theorem kDicM_eq  : kDicM xs st = dicB (cDic xs st) st := rfl
theorem dicA_eq {l : List (Key × D)} : dicA (some l) st = some (.dic l, st) := rfl
theorem dicB_eq {l : List (Key × D)} : dicB (some l) st = some (.loc st.length, st ++ [.dic l]) := rfl
theorem mDic0_eq  : mDic0 env st = some (.loc st.length, st ++ [.dic []]) := rfl
def kGet3 (z : D) (k : D) (o p : Option (List (Key × D))) (st3 : Store) : Option (D × Store) :=
  match o, p, keyD k with
  | some _, some l, some k => some ((lkD l k).getD z, st3)
  | _, _, _ => none
def kGet2b (x k : D) (st1 : Store) (z : D) (st3 : Store) : Option (D × Store) := kGet3 z k (dicD x st1) (dicD x st3) st3
def kGet2a (mx : M D) (env : MEnv) (x : D) (st1 : Store) (k : D) (st2 : Store) : Option (D × Store) := bnd (mx env st2) (kGet2b x k st1)
def kGet2 (mk mx : M D) (env : MEnv) (x : D) (st1 : Store) : Option (D × Store) := bnd (mk env st1) (kGet2a mx env x st1)
def kGet1a (x : D) (st1 : Store) (k : D) (st2 : Store) : Option (D × Store) := kGet3 .non k (dicD x st1) (dicD x st2) st2
def kGet1 (mk : M D) (env : MEnv) (x : D) (st1 : Store) : Option (D × Store) := bnd (mk env st1) (kGet1a x st1)
theorem mGet1_eq  : mGet1 mo mk env st = bnd (mo env st) (kGet1 mk env) := rfl
theorem kGet1_eq  : kGet1 mk env x st = bnd (mk env st) (kGet1a x st) := rfl
theorem kGet1a_eq {st1 : Store} : kGet1a x st1 y st = kGet3 .non y (dicD x st1) (dicD x st) st := rfl
theorem mGet2_eq  : mGet2 mo mk mx env st = bnd (mo env st) (kGet2 mk mx env) := rfl
theorem kGet2_eq  : kGet2 mk mx env x st = bnd (mk env st) (kGet2a mx env x st) := rfl
theorem kGet2a_eq {st1 : Store} : kGet2a mx env x st1 y st = bnd (mx env st) (kGet2b x y st1) := rfl
theorem kGet2b_eq {st1 : Store} : kGet2b x y st1 z st = kGet3 z y (dicD x st1) (dicD x st) st := rfl
theorem kGet3_str {l l' : List (Key × D)} : kGet3 z (.str r) (some l') (some l) st = some ((lkD l (.inr r)).getD z, st) := rfl
theorem kGet3_int {l l' : List (Key × D)} : kGet3 z (.int v) (some l') (some l) st = some ((lkD l (.inl v)).getD z, st) := rfl
def kForS (g : G) (b : S) (xs : List D) (o : Out) (st2 : Store) : Option (Out × Store) :=
  match o with
  | .nx env2 => forL g b xs env2 st2
  | .ct env2 => forL g b xs env2 st2
  | .bk env2 => some (.nx env2, st2)
  | .rt d => some (.rt d, st2)
def kForB (g : G) (b : S) (xs : List D) (env1 : MEnv) (st1 : Store) : Option (Out × Store) := bnd (b env1 st1) (kForS g b xs)
theorem forL_nil  : forL g1 b [] env st = some (.nx env, st) := rfl
theorem forL_cons  : forL g1 b (x :: xs) env st = bnd (g1 x env st) (kForB g1 b xs) := by
  rw [forL]
  rfl
theorem kForB_eq  : kForB g1 b xs env st = bnd (b env st) (kForS g1 b xs) := rfl
theorem kForS_nx  : kForS g1 b xs (.nx env) st = forL g1 b xs env st := rfl
theorem kForS_ct  : kForS g1 b xs (.ct env) st = forL g1 b xs env st := rfl
theorem kForS_bk  : kForS g1 b xs (.bk env) st = some (.nx env, st) := rfl
theorem kForS_rt  : kForS g1 b xs (.rt d) st = some (.rt d, st) := rfl
def kWhS (t : M Bool) (a : S) (n : Nat) (o : Out) (st2 : Store) : Option (Out × Store) :=
  match o with
  | .nx env1 => whN t a n env1 st2
  | .ct env1 => whN t a n env1 st2
  | .bk env1 => some (.nx env1, st2)
  | .rt d => some (.rt d, st2)
def kWh (t : M Bool) (a : S) (n : Nat) (env : MEnv) (p : Bool) (st1 : Store) : Option (Out × Store) := if p = true then bnd (a env st1) (kWhS t a n) else some (.nx env, st1)
theorem whN_succ  : whN t a (n + 1) env st = bnd (t env st) (kWh t a n env) := by
  rw [whN]
  rfl
theorem kWh_true  : kWh t a n env true st = bnd (a env st) (kWhS t a n) := rfl
theorem kWh_false  : kWh t a n env false st = some (.nx env, st) := rfl
theorem kWhS_nx  : kWhS t a n (.nx env) st = whN t a n env st := rfl
theorem kWhS_ct  : kWhS t a n (.ct env) st = whN t a n env st := rfl
theorem kWhS_bk  : kWhS t a n (.bk env) st = some (.nx env, st) := rfl
theorem kWhS_rt  : kWhS t a n (.rt d) st = some (.rt d, st) := rfl
def kLc4 (d : D) (r : List D) (st4 : Store) : Option (List D × Store) := some (d :: r, st4)
def kLc3 (g : G) (t : M Bool) (e : M D) (env : MEnv) (xs : List D) (d : D) (st3 : Store) : Option (List D × Store) := bnd (lcL g t e env xs st3) (kLc4 d)
def kLc2 (g : G) (t : M Bool) (e : M D) (env : MEnv) (xs : List D) (env1 : MEnv) (p : Bool) (st2 : Store) : Option (List D × Store) := if p = true then bnd (e env1 st2) (kLc3 g t e env xs) else lcL g t e env xs st2
def kLc1 (g : G) (t : M Bool) (e : M D) (env : MEnv) (xs : List D) (env1 : MEnv) (st1 : Store) : Option (List D × Store) := bnd (t env1 st1) (kLc2 g t e env xs env1)
def kLc (g : G) (t : M Bool) (e : M D) (env : MEnv) (ds : List D) (st1 : Store) : Option (List D × Store) := @ite _ (ds.length ≤ 16777216) (Classical.propDecidable _) (lcL g t e env ds st1) none
theorem mLc_eq {vs : List Nat} {mi : M (List D)} : mLc vs mi g1 t m env st = bnd (mi env st) (kLc g1 t m (wipeE env vs)) := rfl
theorem kLc_eq (h : ds.length ≤ 16777216) : kLc g1 t m env ds st = lcL g1 t m env ds st := if_pos h
theorem lcL_nil  : lcL g1 t m env [] st = some ([], st) := rfl
theorem lcL_cons  : lcL g1 t m env (x :: xs) st = bnd (g1 x env st) (kLc1 g1 t m env xs) := by
  rw [lcL]
  rfl
theorem kLc1_eq {env1 : MEnv} : kLc1 g1 t m env xs env1 st = bnd (t env1 st) (kLc2 g1 t m env xs env1) := rfl
theorem kLc2_true {env1 : MEnv} : kLc2 g1 t m env xs env1 true st = bnd (m env1 st) (kLc3 g1 t m env xs) := rfl
theorem kLc2_false {env1 : MEnv} : kLc2 g1 t m env xs env1 false st = lcL g1 t m env xs st := rfl
theorem kLc3_eq  : kLc3 g1 t m env xs d st = bnd (lcL g1 t m env xs st) (kLc4 d) := rfl
theorem kLc4_eq  : kLc4 d xs st = some (d :: xs, st) := rfl
theorem mYes_eq  : mYes env st = some (true, st) := rfl
theorem wipeE_nil  : wipeE env [] = env := rfl
theorem wipeE_cons {vs : List Nat} : wipeE env (i :: vs) = (wipeE env vs).set i none := rfl
theorem mFun_0  : mFun N 0 b [] st = endW (fin st) (b (List.replicate (N - 0) none) st) := rfl
theorem mFun_1 {x0 : D} : mFun N 1 b [x0] st = endW (fin st) (b (some x0 :: List.replicate (N - 1) none) st) := rfl
theorem mFun_2 {x0 x1 : D} : mFun N 2 b [x0, x1] st = endW (fin st) (b (some x0 :: some x1 :: List.replicate (N - 2) none) st) := rfl
theorem mFun_3 {x0 x1 x2 : D} : mFun N 3 b [x0, x1, x2] st = endW (fin st) (b (some x0 :: some x1 :: some x2 :: List.replicate (N - 3) none) st) := rfl
theorem mFun_4 {x0 x1 x2 x3 : D} : mFun N 4 b [x0, x1, x2, x3] st = endW (fin st) (b (some x0 :: some x1 :: some x2 :: some x3 :: List.replicate (N - 4) none) st) := rfl
theorem mFun_5 {x0 x1 x2 x3 x4 : D} : mFun N 5 b [x0, x1, x2, x3, x4] st = endW (fin st) (b (some x0 :: some x1 :: some x2 :: some x3 :: some x4 :: List.replicate (N - 5) none) st) := rfl
theorem mFun_6 {x0 x1 x2 x3 x4 x5 : D} : mFun N 6 b [x0, x1, x2, x3, x4, x5] st = endW (fin st) (b (some x0 :: some x1 :: some x2 :: some x3 :: some x4 :: some x5 :: List.replicate (N - 6) none) st) := rfl
theorem mFun_7 {x0 x1 x2 x3 x4 x5 x6 : D} : mFun N 7 b [x0, x1, x2, x3, x4, x5, x6] st = endW (fin st) (b (some x0 :: some x1 :: some x2 :: some x3 :: some x4 :: some x5 :: some x6 :: List.replicate (N - 7) none) st) := rfl
theorem mFun_8 {x0 x1 x2 x3 x4 x5 x6 x7 : D} : mFun N 8 b [x0, x1, x2, x3, x4, x5, x6, x7] st = endW (fin st) (b (some x0 :: some x1 :: some x2 :: some x3 :: some x4 :: some x5 :: some x6 :: some x7 :: List.replicate (N - 8) none) st) := rfl
theorem mFunL_0  : mFunL N 0 b [] st = endW (finL st) (b (List.replicate (N - 0) none) st) := rfl
theorem mFunL_1 {x0 : D} : mFunL N 1 b [x0] st = endW (finL st) (b (some x0 :: List.replicate (N - 1) none) st) := rfl
theorem mFunL_2 {x0 x1 : D} : mFunL N 2 b [x0, x1] st = endW (finL st) (b (some x0 :: some x1 :: List.replicate (N - 2) none) st) := rfl
theorem mFunL_3 {x0 x1 x2 : D} : mFunL N 3 b [x0, x1, x2] st = endW (finL st) (b (some x0 :: some x1 :: some x2 :: List.replicate (N - 3) none) st) := rfl
theorem mFunL_4 {x0 x1 x2 x3 : D} : mFunL N 4 b [x0, x1, x2, x3] st = endW (finL st) (b (some x0 :: some x1 :: some x2 :: some x3 :: List.replicate (N - 4) none) st) := rfl
theorem mFunL_5 {x0 x1 x2 x3 x4 : D} : mFunL N 5 b [x0, x1, x2, x3, x4] st = endW (finL st) (b (some x0 :: some x1 :: some x2 :: some x3 :: some x4 :: List.replicate (N - 5) none) st) := rfl
theorem mFunL_6 {x0 x1 x2 x3 x4 x5 : D} : mFunL N 6 b [x0, x1, x2, x3, x4, x5] st = endW (finL st) (b (some x0 :: some x1 :: some x2 :: some x3 :: some x4 :: some x5 :: List.replicate (N - 6) none) st) := rfl
theorem mFunL_7 {x0 x1 x2 x3 x4 x5 x6 : D} : mFunL N 7 b [x0, x1, x2, x3, x4, x5, x6] st = endW (finL st) (b (some x0 :: some x1 :: some x2 :: some x3 :: some x4 :: some x5 :: some x6 :: List.replicate (N - 7) none) st) := rfl
theorem mFunL_8 {x0 x1 x2 x3 x4 x5 x6 x7 : D} : mFunL N 8 b [x0, x1, x2, x3, x4, x5, x6, x7] st = endW (finL st) (b (some x0 :: some x1 :: some x2 :: some x3 :: some x4 :: some x5 :: some x6 :: some x7 :: List.replicate (N - 8) none) st) := rfl
theorem endW_rt {f : D → Store → Option (D × Store)} : endW f (some (.rt d, st)) = f d st := rfl
theorem endW_nx {f : D → Store → Option (D × Store)} : endW f (some (.nx env, st)) = f .non st := rfl
def kRev (d : D) (st1 : Store) : Option (D × Store) :=
  match d with
  | .tup l => some (.tup l.reverse, st1)
  | _ => none
theorem mRev_eq  : mRev m env st = bnd (m env st) kRev := rfl
theorem kRev_eq  : kRev (.tup l) st = some (.tup l.reverse, st) := rfl
def kTxt (d : D) (st1 : Store) : Option (List D × Store) :=
  match d with
  | .str z => some (signsD z, st1)
  | _ => none
theorem miTxt_eq  : miTxt m env st = bnd (m env st) kTxt := rfl
theorem kTxt_eq  : kTxt (.str r) st = some (signsD r, st) := rfl
theorem oIsB_bl {q : Bool} : oIsB (.bl p) (.bl q) st = some (.bl (decide (p = q))) := rfl
theorem oIsNotB_bl {q : Bool} : oIsNotB (.bl p) (.bl q) st = some (.bl (!decide (p = q))) := rfl
def kIn (o : Option Bool) : Option D :=
  match o with
  | some b => some (.bl b)
  | none => none
def kNIn (o : Option Bool) : Option D :=
  match o with
  | some b => some (.bl (!b))
  | none => none
theorem oIn_eq  : oIn x y st = kIn (inO x y st) := rfl
theorem oNotIn_eq  : oNotIn x y st = kNIn (inO x y st) := rfl
theorem kIn_eq  : kIn (some p) = some (.bl p) := rfl
theorem kNIn_eq  : kNIn (some p) = some (.bl (!p)) := rfl
theorem inO_sign {c : Nat} : inO (.str ⟨#[c]⟩) (.str r) st = some (decide (c ∈ r.cps.toList)) := rfl
def inA (x : D) (o : Option (List D)) : Option Bool :=
  match o with
  | some l => if flatD x = true ∧ l.all flatD = true then some (inD x l) else none
  | none => none
theorem inA_eq (h : flatD x = true) (h2 : l.all flatD = true) : inA x (some l) = some (inD x l) := if_pos ⟨h, h2⟩
theorem inO_tup  : inO x (.tup l) st = inA x (some l) := rfl
theorem inO_lst  : inO x (.lst l) st = inA x (some l) := rfl
def inL (x : D) (o : Option D) : Option Bool :=
  match o with
  | some (.lst l) => inA x (some l)
  | some (.dic ks) => (match keyD x with
    | some k => some (lkD ks k).isSome
    | none => none)
  | _ => none
theorem inO_loc  : inO x (.loc n) st = inL x st[n]? := by
  unfold inO inL inA seqD dicD
  cases h : st[n]? with
  | none => simp only [h]
  | some e => cases e <;> simp only [h] <;> cases keyD x <;> rfl
theorem inL_lst  : inL x (some (.lst l)) = inA x (some l) := rfl
theorem inL_dics {l : List (Key × D)} : inL (.str r) (some (.dic l)) = some (lkD l (.inr r)).isSome := rfl
theorem inL_dici {l : List (Key × D)} : inL (.int v) (some (.dic l)) = some (lkD l (.inl v)).isSome := rfl
theorem inO_dics {l : List (Key × D)} : inO (.str r) (.dic l) st = some (lkD l (.inr r)).isSome := rfl
theorem inO_dici {l : List (Key × D)} : inO (.int v) (.dic l) st = some (lkD l (.inl v)).isSome := rfl
theorem flatD_non  : flatD (.non) = true := rfl
theorem flatD_bl  : flatD (.bl p) = true := rfl
theorem flatD_int  : flatD (.int v) = true := rfl
theorem flatD_str  : flatD (.str r) = true := rfl
theorem ixO_str (h : r.length ≤ 16777216) : ixO (.str r) (.int v) st = (atI r.cps.toList v).map fun c => .str ⟨#[c]⟩ := if_pos h
theorem cLen_str (h : r.length ≤ 16777216) : cLen [.str r] st = some (.int r.length) := if_pos h
theorem ixO_dkls {l : List (Key × D)} : ixO (.dkl l) (.str r) st = lkD l (.inr r) := rfl
theorem ixO_dkli {l : List (Key × D)} : ixO (.dkl l) (.int v) st = lkD l (.inl v) := rfl
theorem inO_dkls {l : List (Key × D)} : inO (.str r) (.dkl l) st = some (lkD l (.inr r)).isSome := rfl
theorem inO_dkli {l : List (Key × D)} : inO (.int v) (.dkl l) st = some (lkD l (.inl v)).isSome := rfl
theorem dicD_dkl {l : List (Key × D)} : dicD (.dkl l) st = some l := rfl
theorem mDitN_eq {W : World} : mDitN W env st = some (.loc st.length, st ++ [.dit W []]) := rfl
def kDitI (q : NestedKey) (o : Option D) : Option (List (D × D)) :=
  match o with
  | some (.dit _ ks) => some ks
  | _ => none
def kIxN (o : Option (Nat × List (D × D) × NestedKey)) : Option D := match o with
  | some (_, ks, k) => lkN ks k
  | none => none
def kSetN (W : World) (i v : D) (st : Store) (o : Option (Nat × List (D × D) × NestedKey)) : Option Store := match o with
  | some (n, ks, k) => @ite _ (ks.length < 16777216) (Classical.propDecidable _) (some (st.set n (.dit W (putN ks i k v)))) none
  | none => none
theorem ixDN_eq {W : World} : ixDN W x y st = kIxN (ditA W x y st) := rfl
theorem kIxN_eq {ks : List (D × D)} {q : NestedKey} : kIxN (some (n, ks, q)) = lkN ks q := rfl
theorem setN_eq {W : World} : setN W x y z st = kSetN W y z st (ditA W x y st) := rfl
theorem kSetN_of {W : World} {ks : List (D × D)} {q : NestedKey} (h : ks.length < 16777216) : kSetN W y z st (some (n, ks, q)) = some (st.set n (.dit W (putN ks y q z))) := if_pos h
theorem ditA_of {W : World} {ks : List (D × D)} {q : NestedKey} (h : st[n]? = some (.dit W ks)) (h2 : nkey (.tup l) = some q) (h3 : q.depth ≤ 8) : ditA W (.loc n) (.tup l) st = some (n, ks, q) := by
  unfold ditA
  simp only [h, h2]
  exact if_pos ⟨trivial, h3⟩
theorem ixF_of {W : World} {ks : List (D × D)} {q : NestedKey} (h2 : nkey (.tup l) = some q) (h3 : q.depth ≤ 8) : ixF W (.dit W ks) (.tup l) st = lkN ks q := by
  unfold ixF
  simp only [h2]
  exact if_pos ⟨trivial, h3⟩
def kSetN3 (env : MEnv) (o : Option Store) : Option (MEnv × Store) := match o with
  | some st3 => some (env, st3)
  | none => none
def kSetN2 (W : World) (v : D) (env : MEnv) (o : D) (i : D) (st2 : Store) : Option (MEnv × Store) := kSetN3 env (setN W o i v st2)
def kSetN1 (W : World) (mi : M D) (v : D) (env : MEnv) (o : D) (st1 : Store) : Option (MEnv × Store) := bnd (mi env st1) (kSetN2 W v env o)
theorem gSetN_eq {W : World} : gSetN W mo mi d env st = bnd (mo env st) (kSetN1 W mi d env) := rfl
theorem kSetN1_eq {W : World} : kSetN1 W mi d env x st = bnd (mi env st) (kSetN2 W d env x) := rfl
theorem kSetN2_eq {W : World} : kSetN2 W d env x y st = kSetN3 env (setN W x y d st) := rfl
theorem kSetN3_eq  : kSetN3 env (some st) = some (env, st) := rfl
def kGetN4 (z : D) (st3 : Store) (o p : Option (Nat × List (D × D) × NestedKey)) : Option (D × Store) := match o, p with
  | some _, some (_, ks, q) => some ((lkN ks q).getD z, st3)
  | _, _ => none
def kGetN3 (W : World) (x : D) (st1 : Store) (k : D) (z : D) (st3 : Store) : Option (D × Store) := kGetN4 z st3 (ditA W x k st1) (ditA W x k st3)
def kGetN2 (W : World) (mx : M D) (env : MEnv) (x : D) (st1 : Store) (k : D) (st2 : Store) : Option (D × Store) := bnd (mx env st2) (kGetN3 W x st1 k)
def kGetN1 (W : World) (mk mx : M D) (env : MEnv) (x : D) (st1 : Store) : Option (D × Store) := bnd (mk env st1) (kGetN2 W mx env x st1)
theorem mGet2N_eq {W : World} : mGet2N W mo mk mx env st = bnd (mo env st) (kGetN1 W mk mx env) := rfl
theorem kGetN1_eq {W : World} : kGetN1 W mk mx env x st = bnd (mk env st) (kGetN2 W mx env x st) := rfl
theorem kGetN2_eq {W : World} {st1 : Store} : kGetN2 W mx env x st1 y st = bnd (mx env st) (kGetN3 W x st1 y) := rfl
theorem kGetN3_eq {W : World} {st1 : Store} : kGetN3 W x st1 y z st = kGetN4 z st (ditA W x y st1) (ditA W x y st) := rfl
theorem kGetN4_eq {ks : List (D × D)} {q : NestedKey} {o : Nat × List (D × D) × NestedKey} : kGetN4 z st (some o) (some (n, ks, q)) = some ((lkN ks q).getD z, st) := rfl
def kKeysN (W : World) (d : D) (st1 : Store) : Option (List D × Store) :=
  match d with
  | .dit w' ks => @ite _ (w' = W) (Classical.propDecidable _) (some (ks.map (·.1), st1)) none
  | _ => none
def kKeysL (d : D) (st1 : Store) : Option (List D × Store) :=
  match d with
  | .dkl ks => some (ks.map fun p => kD p.1, st1)
  | _ => none
theorem miKeysN_eq {W : World} : miKeysN W m env st = bnd (m env st) (kKeysN W) := rfl
theorem kKeysN_eq {W : World} {ks : List (D × D)} : kKeysN W (.dit W ks) st = some (ks.map (·.1), st) := if_pos rfl
theorem miKeysL_eq  : miKeysL m env st = bnd (m env st) kKeysL := rfl
theorem kKeysL_eq {ks : List (Key × D)} : kKeysL (.dkl ks) st = some (ks.map fun p => kD p.1, st) := rfl
def kForP2 (n : Nat) (g : G) (b : S) (env : MEnv) (st1 : Store) (o : Option D) : Option (Out × Store) := match o with
  | some (.lst ds) => forL g (keepM n ds b) ds env st1
  | _ => none
def kForP (g : G) (b : S) (env : MEnv) (d : D) (st1 : Store) : Option (Out × Store) := match d with
  | .loc n => kForP2 n g b env st1 st1[n]?
  | _ => none
def kKeep {α : Type} (n : Nat) (ds : List D) (o : α) (st' : Store) : Option (α × Store) := @ite _ (st'[n]? = some (.lst ds)) (Classical.propDecidable _) (some (o, st')) none
theorem sForP_eq  : sForP m g1 a env st = bnd (m env st) (kForP g1 a env) := rfl
theorem kForP_eq  : kForP g1 a env (.loc n) st = kForP2 n g1 a env st st[n]? := rfl
theorem kForP2_eq  : kForP2 n g1 a env st (some (.lst ds)) = forL g1 (keepM n ds a) ds env st := rfl
theorem keepM_eq {α : Type} {b : M α} : keepM n ds b env st = bnd (b env st) (kKeep n ds) := rfl
theorem kKeep_of {α : Type} {o : α} (h : st[n]? = some (.lst ds)) : kKeep n ds o st = some (o, st) := if_pos h
def kLd4 (r1 r : List D) (st5 : Store) : Option (List D × Store) := some (r1 ++ r, st5)
def kLd3 (vs1 : List Nat) (g : G) (t : M Bool) (mi1 : M (List D)) (g1 : G) (t1 : M Bool) (e : M D) (env : MEnv) (xs r1 : List D) (st4 : Store) : Option (List D × Store) := bnd (lc2L vs1 g t mi1 g1 t1 e env xs st4) (kLd4 r1)
def kLd2b (vs1 : List Nat) (g : G) (t : M Bool) (mi1 : M (List D)) (g1 : G) (t1 : M Bool) (e : M D) (env : MEnv) (xs : List D) (env1 : MEnv) (ds1 : List D) (st3 : Store) : Option (List D × Store) := bnd (lcL g1 t1 e (wipeE env1 vs1) ds1 st3) (kLd3 vs1 g t mi1 g1 t1 e env xs)
def kLd2 (vs1 : List Nat) (g : G) (t : M Bool) (mi1 : M (List D)) (g1 : G) (t1 : M Bool) (e : M D) (env : MEnv) (xs : List D) (env1 : MEnv) (p : Bool) (st2 : Store) : Option (List D × Store) := if p = true then bnd (mi1 env1 st2) (kLd2b vs1 g t mi1 g1 t1 e env xs env1) else lc2L vs1 g t mi1 g1 t1 e env xs st2
def kLd1 (vs1 : List Nat) (g : G) (t : M Bool) (mi1 : M (List D)) (g1 : G) (t1 : M Bool) (e : M D) (env : MEnv) (xs : List D) (env1 : MEnv) (st1 : Store) : Option (List D × Store) := bnd (t env1 st1) (kLd2 vs1 g t mi1 g1 t1 e env xs env1)
def kLdE (out : List D) (st2 : Store) : Option (List D × Store) := @ite _ (out.length ≤ 16777216) (Classical.propDecidable _) (some (out, st2)) none
def kLd (vs1 : List Nat) (g : G) (t : M Bool) (mi1 : M (List D)) (g1 : G) (t1 : M Bool) (e : M D) (env : MEnv) (ds : List D) (st1 : Store) : Option (List D × Store) := bnd (lc2L vs1 g t mi1 g1 t1 e env ds st1) kLdE
theorem mLc2_eq {vs vs1 : List Nat} {mi mi1 : M (List D)} {g2 : G} {t1 : M Bool} : mLc2 vs vs1 mi g1 t mi1 g2 t1 m env st = bnd (mi env st) (kLd vs1 g1 t mi1 g2 t1 m (wipeE env vs)) := rfl
theorem kLd_eq {vs1 : List Nat} {mi1 : M (List D)} {g2 : G} {t1 : M Bool} : kLd vs1 g1 t mi1 g2 t1 m env ds st = bnd (lc2L vs1 g1 t mi1 g2 t1 m env ds st) kLdE := rfl
theorem kLdE_of (h : ds.length ≤ 16777216) : kLdE ds st = some (ds, st) := if_pos h
theorem lc2L_nil {vs1 : List Nat} {mi1 : M (List D)} {g2 : G} {t1 : M Bool} : lc2L vs1 g1 t mi1 g2 t1 m env [] st = some ([], st) := rfl
theorem lc2L_cons {vs1 : List Nat} {mi1 : M (List D)} {g2 : G} {t1 : M Bool} : lc2L vs1 g1 t mi1 g2 t1 m env (x :: xs) st = bnd (g1 x env st) (kLd1 vs1 g1 t mi1 g2 t1 m env xs) := by
  rw [lc2L]
  rfl
theorem kLd1_eq {vs1 : List Nat} {mi1 : M (List D)} {g2 : G} {t1 : M Bool} {env1 : MEnv} : kLd1 vs1 g1 t mi1 g2 t1 m env xs env1 st = bnd (t env1 st) (kLd2 vs1 g1 t mi1 g2 t1 m env xs env1) := rfl
theorem kLd2_true {vs1 : List Nat} {mi1 : M (List D)} {g2 : G} {t1 : M Bool} {env1 : MEnv} : kLd2 vs1 g1 t mi1 g2 t1 m env xs env1 true st = bnd (mi1 env1 st) (kLd2b vs1 g1 t mi1 g2 t1 m env xs env1) := rfl
theorem kLd2_false {vs1 : List Nat} {mi1 : M (List D)} {g2 : G} {t1 : M Bool} {env1 : MEnv} : kLd2 vs1 g1 t mi1 g2 t1 m env xs env1 false st = lc2L vs1 g1 t mi1 g2 t1 m env xs st := rfl
theorem kLd2b_eq {vs1 : List Nat} {mi1 : M (List D)} {g2 : G} {t1 : M Bool} {env1 : MEnv} : kLd2b vs1 g1 t mi1 g2 t1 m env xs env1 ds st = bnd (lcL g2 t1 m (wipeE env1 vs1) ds st) (kLd3 vs1 g1 t mi1 g2 t1 m env xs) := rfl
theorem kLd3_eq {vs1 : List Nat} {mi1 : M (List D)} {g2 : G} {t1 : M Bool} : kLd3 vs1 g1 t mi1 g2 t1 m env xs ds st = bnd (lc2L vs1 g1 t mi1 g2 t1 m env xs st) (kLd4 ds) := rfl
theorem kLd4_eq  : kLd4 l ds st = some (l ++ ds, st) := rfl
end

/-! ### the store -/
theorem st_app {st g : Store} {k : Nat} : (st ++ g)[st.length + k]? = g[k]? := by
  rw [List.getElem?_append_right (by omega)]
  congr 1
  omega
theorem st_app0 {st g : Store} : (st ++ g)[st.length]? = g[0]? := st_app (k := 0)
theorem st_set {st g : Store} {k : Nat} {d : D} : (st ++ g).set (st.length + k) d = st ++ g.set k d := by
  rw [List.set_append_right _ _ (by omega)]
  congr 2
  omega
theorem st_set0 {st g : Store} {d : D} : (st ++ g).set st.length d = st ++ g.set 0 d := st_set (k := 0)
theorem st_low {st g : Store} {i : Nat} {d : D} (h : st[i]? = some d) : (st ++ g)[i]? = some d := by
  rw [List.getElem?_append_left (List.getElem?_eq_some_iff.mp h).1]; exact h
theorem st_lows {st g : Store} {i : Nat} {d : D} (h : i < st.length) : (st ++ g).set i d = st.set i d ++ g := List.set_append_left _ _ h
theorem st_put {st : Store} {i : Nat} {d x : D} (h : st[i]? = some x) : (st.set i d)[i]? = some d := List.getElem?_set_self (List.getElem?_eq_some_iff.mp h).1
theorem okOld_app (st g : Store) : okOld st (st ++ g) := ⟨by simp, fun i h => .inl (List.getElem?_append_left h)⟩
theorem okOld_set (st g : Store) {i : Nat} {d : D} (h : lo st.length d = true) : okOld st ((st ++ g).set i d) := by
  refine ⟨by simp, fun j hj => ?_⟩
  by_cases e : j = i
  · subst e
    exact .inr ⟨d, by rw [List.getElem?_set_self (by simp; omega)], h⟩
  · exact .inl (by rw [List.getElem?_set_ne (Ne.symm e)]; exact List.getElem?_append_left hj)
theorem fz_lo {st : Store} {n ex k : Nat} {d : D} (h : lo n d = true) : fz st n ex k d = some d := by
  cases k with
  | zero => unfold fz; rw [if_pos h]
  | succ k => unfold fz; rw [if_pos h]
/-- a def's end where the store has grown, or is as it was -/
theorem fin_app {st g : Store} {d : D} (h : lo st.length d = true) : fin st d (st ++ g) = some (d, st) := by
  unfold fin
  rw [if_pos (okOld_app st g), fz_lo h]
  simp
theorem fin_same {st : Store} {d : D} (h : lo st.length d = true) : fin st d st = some (d, st) := by
  have := fin_app (st := st) (g := []) h
  rwa [List.append_nil] at this
theorem fin_set {st g : Store} {i : Nat} {d e : D} (hi : i < st.length) (he : lo st.length e = true) (h : lo st.length d = true) : fin st d (st.set i e ++ g) = some (d, st.set i e) := by
  unfold fin
  rw [← st_lows hi, if_pos (okOld_set st g he), fz_lo h]
  simp only [Option.map_some, Option.some.injEq, Prod.mk.injEq, true_and]
  rw [List.set_append_left _ _ hi, List.take_left' (by simp)]
theorem fin_set0 {st : Store} {i : Nat} {d e : D} (hi : i < st.length) (he : lo st.length e = true) (h : lo st.length d = true) : fin st d (st.set i e) = some (d, st.set i e) := by
  have := fin_set (g := []) hi he h
  rwa [List.append_nil] at this
/-! ### calls over no store, lending -/
theorem pure_eq {F : Fn} {ds : List D} {st : Store} {d : D} (h : F ds [] = some (d, [])) (hl : los 0 ds = true) : pureF F ds st = some (d, st) := pureF_of hl h
theorem borrow_of {m : M D} {env : MEnv} {st0 st1 : Store} {x y d : D} (h1 : lendX x = some y) (h2 : (los st0.length st0 && lo st0.length x && lendOk st0.length env) = true) (h3 : m (env.map (lendV st0.length y)) st0 = some (d, st1)) (h4 : st1.length = st0.length) (h5 : (pl d && pls st1) = true) :
    mBorrow m env (st0 ++ [x]) = some (d, st1 ++ [x]) := by
  unfold mBorrow
  rw [List.getLast?_concat, List.dropLast_concat]
  show mBorrow1 m env st0 x = _
  unfold mBorrow1
  simp only [h1]
  rw [if_pos h2, h3, bnd_some, if_pos ⟨h4, h5⟩]
/-! ### sizes -/
theorem fits_small {i : Int} (h : i.natAbs < 2 ^ 256) : Fits i = true := fits_of (k := 256) (by decide) h
theorem fits_lit {n : Nat} (h : n < 1000000000000000000000000000000) : Fits (no_index (OfNat.ofNat n)) = true := fits_small (Nat.lt_trans h (by decide))
theorem fits_ab {i : Int} (h : -1000000000000000000000000000000 < i) (h2 : i < 1000000000000000000000000000000) : Fits i = true := fits_small (by
  have : i.natAbs < 1000000000000000000000000000000 := by omega
  exact Nat.lt_trans this (by decide))
end
end Mn
end
section
set_option Elab.async false
set_option autoImplicit false
set_option linter.all false
set_option maxRecDepth 100000
set_option maxHeartbeats 2000000
/-! The mini layer, 15: turns of a while, put together. -/
namespace Mn
noncomputable section
open PySem PySem.Spec PyProof.Rows L2
/-- a while that stands at e, s ends as one that stands at e', s' -/
def Rch (t : M Bool) (a : S) (e : MEnv) (s : Store) (e' : MEnv) (s' : Store) : Prop := ∀ n r, whN t a n e' s' = some r → ∃ m, whN t a m e s = some r
section
variable {t : M Bool} {a : S} {e e1 e2 : MEnv} {s s0 s1 s2 : Store}
theorem Rch.refl : Rch t a e s e s := fun n r h => ⟨n, h⟩
theorem Rch.trans (h : Rch t a e s e1 s1) (k : Rch t a e1 s1 e2 s2) : Rch t a e s e2 s2 := fun n r q => by
  obtain ⟨m, q⟩ := k n r q
  exact h m r q
theorem Rch.step (ht : t e s = some (true, s0)) (ha : a e s0 = some (.nx e1, s1)) : Rch t a e s e1 s1 := fun n r q => ⟨n + 1, by
  rw [whN_succ, ht, bnd_some', kWh_true, ha, bnd_some', kWhS_nx]
  exact q⟩
theorem Rch.stepC (ht : t e s = some (true, s0)) (ha : a e s0 = some (.ct e1, s1)) : Rch t a e s e1 s1 := fun n r q => ⟨n + 1, by
  rw [whN_succ, ht, bnd_some', kWh_true, ha, bnd_some', kWhS_ct]
  exact q⟩
theorem Rch.done (h : Rch t a e s e1 s1) (ht : t e1 s1 = some (false, s2)) : sWhile t a e s = some (.nx e1, s2) := by
  obtain ⟨m, q⟩ := h 1 (.nx e1, s2) (by rw [whN_succ, ht, bnd_some', kWh_false])
  exact sWhile_of q
theorem Rch.brk {e2 : MEnv} (h : Rch t a e s e1 s1) (ht : t e1 s1 = some (true, s0)) (ha : a e1 s0 = some (.bk e2, s2)) : sWhile t a e s = some (.nx e2, s2) := by
  obtain ⟨m, q⟩ := h 1 (.nx e2, s2) (by rw [whN_succ, ht, bnd_some', kWh_true, ha, bnd_some', kWhS_bk])
  exact sWhile_of q
theorem Rch.ret {d : D} (h : Rch t a e s e1 s1) (ht : t e1 s1 = some (true, s0)) (ha : a e1 s0 = some (.rt d, s2)) : sWhile t a e s = some (.rt d, s2) := by
  obtain ⟨m, q⟩ := h 1 (.rt d, s2) (by rw [whN_succ, ht, bnd_some', kWh_true, ha, bnd_some', kWhS_rt])
  exact sWhile_of q
end
/-- all turns of a for go on to the next -/
inductive ForN (g : G) (b : S) : List D → MEnv → Store → MEnv → Store → Prop where
  | nil {e s} : ForN g b [] e s e s
  | nx {x xs e s e1 s1 e2 s2 e3 s3} : g x e s = some (e1, s1) → b e1 s1 = some (.nx e2, s2) → ForN g b xs e2 s2 e3 s3 → ForN g b (x :: xs) e s e3 s3
  | ct {x xs e s e1 s1 e2 s2 e3 s3} : g x e s = some (e1, s1) → b e1 s1 = some (.ct e2, s2) → ForN g b xs e2 s2 e3 s3 → ForN g b (x :: xs) e s e3 s3
theorem ForN.app {g : G} {b : S} {xs ys : List D} {e e1 e2 : MEnv} {s s1 s2 : Store} (h : ForN g b xs e s e1 s1) (k : ForN g b ys e1 s1 e2 s2) : ForN g b (xs ++ ys) e s e2 s2 := by
  induction h with
  | nil => exact k
  | nx h1 h2 _ ih => exact .nx h1 h2 (ih k)
  | ct h1 h2 _ ih => exact .ct h1 h2 (ih k)
theorem ForN.go {g : G} {b : S} {xs ys : List D} {e e1 : MEnv} {s s1 : Store} (h : ForN g b xs e s e1 s1) : forL g b (xs ++ ys) e s = forL g b ys e1 s1 := by
  induction h with
  | nil => rfl
  | nx h1 h2 _ ih => rw [List.cons_append, forL_cons, h1, bnd_some', kForB_eq, h2, bnd_some', kForS_nx, ih]
  | ct h1 h2 _ ih => rw [List.cons_append, forL_cons, h1, bnd_some', kForB_eq, h2, bnd_some', kForS_ct, ih]
theorem ForN.end {g : G} {b : S} {xs : List D} {e e1 : MEnv} {s s1 : Store} (h : ForN g b xs e s e1 s1) : forL g b xs e s = some (.nx e1, s1) := by
  have := h.go (ys := [])
  rw [List.append_nil] at this
  exact this
theorem ForN.one {g : G} {b : S} {x : D} {e e1 e2 : MEnv} {s s1 s2 : Store} (h1 : g x e s = some (e1, s1)) (h2 : b e1 s1 = some (.nx e2, s2)) : ForN g b [x] e s e2 s2 := .nx h1 h2 .nil
theorem snoc_ne {W : List D} {b : D} : (W ++ [b]).isEmpty = false := by cases W <;> rfl
theorem los_mapm {α : Type} {n : Nat} {f : α → D} : ∀ l : List α, (∀ x ∈ l, lo n (f x) = true) → los n (l.map f) = true
  | [], _ => rfl
  | x :: l, h => by
    show (lo n (f x) && los n (l.map f)) = true
    rw [h x (List.mem_cons_self ..), los_mapm l fun y hy => h y (List.mem_cons_of_mem _ hy)]
    rfl
/-- a list that was made is handed back -/
theorem fin_lst0 {ds : List D} {g : Store} (h : los 0 ds = true) : fin [] (.loc 0) (.lst ds :: g) = some (.lst ds, []) := by
  have m : ∀ (ex k : Nat) (l : List D), los 0 l = true → mapO (fz (.lst ds :: g) 0 ex k) l = some l := by
    intro ex k l
    induction l with
    | nil => intro _; rfl
    | cons x l ih =>
      intro h
      have h' : (lo 0 x && los 0 l) = true := h
      rw [Bool.and_eq_true] at h'
      simp only [mapO, fz_lo h'.1, ih h'.2]
  have ok : okOld [] (D.lst ds :: g) := okOld_app [] (D.lst ds :: g)
  unfold fin
  rw [if_pos ok]
  have hl : ¬ lo 0 (.loc 0) = true := by decide
  have hne : ¬ (0 : Nat) = (D.lst ds :: g).length := by simp
  show (fz (.lst ds :: g) 0 (D.lst ds :: g).length (7 + 1) (.loc 0)).map _ = _
  unfold fz
  rw [if_neg hl]
  simp only [if_neg hne, List.getElem?_cons_zero, m _ 7 ds h]
  rfl
theorem los_append {n : Nat} : ∀ a b : List D, los n (a ++ b) = (los n a && los n b)
  | [], b => rfl
  | x :: a, b => by
    show (lo n x && los n (a ++ b)) = ((lo n x && los n a) && los n b)
    rw [los_append a b, Bool.and_assoc]
end
end Mn
end
section
set_option Elab.async false
set_option linter.all false
set_option maxRecDepth 100000
set_option maxHeartbeats 4000000
namespace K31
open PySem L2 Mn
noncomputable section
def c_ONE : Mn.D := .tup [.int 1, .int 1]
def c_ZERO : Mn.D := .tup [.int 0, .int 1]
def L_common_divisor_1 : S :=
    sPar 0 1 (mCons (mV 1) (mCons (mOp (oI fMod) (mV 0) (mV 1)) mNil))

def T_common_divisor_1 : M Bool :=
    mTB (mOp oNe (mV 1) (mC (.int 0)))

def R_common_divisor_1 : S :=
    sRet (mV 0)

def B_common_divisor : S :=
    sSeq (sPar 0 1 (mCons (mCB (cInt1 fAbs) (mCons (mV 0) (mNil))) (mCons (mCB (cInt1 fAbs) (mCons (mV 1) (mNil))) mNil)))
    (sSeq (sWhile (T_common_divisor_1)
      (L_common_divisor_1))
    (R_common_divisor_1))

def F_common_divisor : Fn := mFun 2 2 (B_common_divisor)

def R_ratio_1 : S :=
    sRet (mTup (mCons (mV 0) (mCons (mV 1) (mNil))))

def R_ratio_2 : S :=
    sSeq (sIf (mTB (mOp oNe (mV 1) (mC (.int 1))))
      (sSeq (sAsg 2 (mCall (pureF F_common_divisor) (mCons (mV 0) (mCons (mV 1) (mNil)))))
      (sPar 0 1 (mCons (mOp (oI fDiv) (mV 0) (mV 2)) (mCons (mOp (oI fDiv) (mV 1) (mV 2)) mNil))))
      (sNil))
    (R_ratio_1)

def B_ratio : S :=
    sSeq (sIf (mTB (mOp (oC cLt) (mV 1) (mC (.int 0))))
      (sPar 0 1 (mCons (mNeg (mV 0)) (mCons (mNeg (mV 1)) mNil)))
      (sNil))
    (R_ratio_2)

def F_ratio : Fn := mFun 3 2 (B_ratio)

def R_plus_1 : S :=
    sRet (mCall (pureF F_ratio) (mCons (mOp oAdd (mOp (oI fMul) (mOp ixO (mV 0) (mC (.int 0))) (mOp ixO (mV 1) (mC (.int 1)))) (mOp (oI fMul) (mOp ixO (mV 1) (mC (.int 0))) (mOp ixO (mV 0) (mC (.int 1))))) (mCons (mOp (oI fMul) (mOp ixO (mV 0) (mC (.int 1))) (mOp ixO (mV 1) (mC (.int 1)))) (mNil))))

def B_plus : S :=
    sSeq (sIf (mTB (mChain oEq oEq (mOp ixO (mV 0) (mC (.int 1))) (mOp ixO (mV 1) (mC (.int 1))) (mC (.int 1))))
      (sRet (mTup (mCons (mOp oAdd (mOp ixO (mV 0) (mC (.int 0))) (mOp ixO (mV 1) (mC (.int 0)))) (mCons (mC (.int 1)) (mNil)))))
      (sNil))
    (R_plus_1)

def F_plus : Fn := mFun 2 2 (B_plus)

def B_times : S :=
    sRet (mCall (pureF F_ratio) (mCons (mOp (oI fMul) (mOp ixO (mV 0) (mC (.int 0))) (mOp ixO (mV 1) (mC (.int 0)))) (mCons (mOp (oI fMul) (mOp ixO (mV 0) (mC (.int 1))) (mOp ixO (mV 1) (mC (.int 1)))) (mNil))))

def F_times : Fn := mFun 2 2 (B_times)

def L_ways_1 : S :=
    sDrop (mMt fApp (mV 2) (mCons (mTup (mCons (mV 8) (mCons (mCall (pureF F_times) (mCons (mV 4) (mCons (mV 7) (mNil)))) (mCons (mV 5) (mCons (mV 6) (mNil)))))) (mNil)))

def L_ways_2 : S :=
    sSeq (sTgt (mMt fPop (mV 2) mNil) (gT 4 (gsC (gN 3) (gsC (gN 4) (gsC (gN 5) (gsC (gN 6) (gsN)))))))
      (sIf (mTB (mOp oEq (mOp ixO (mV 3) (mC (.int 0))) (mC (.str "end"))))
        (sDrop (mMt fApp (mV 1) (mCons (mTup (mCons (mV 4) (mCons (mV 5) (mCons (mV 6) (mNil))))) (mNil))))
        (sIf (mTB (mOp oEq (mOp ixO (mV 3) (mC (.int 0))) (mC (.str "tell"))))
          (sDrop (mMt fApp (mV 2) (mCons (mTup (mCons (mOp ixO (mV 3) (mC (.int 2))) (mCons (mV 4) (mCons (mV 5) (mCons (mOp oAdd (mV 6) (mTup (mCons (mOp ixO (mV 3) (mC (.int 1))) (mNil)))) (mNil)))))) (mNil))))
          (sIf (mTB (mOp oEq (mOp ixO (mV 3) (mC (.int 0))) (mC (.str "call"))))
            (sDrop (mMt fApp (mV 2) (mCons (mTup (mCons (mOp ixO (mV 3) (mC (.int 2))) (mCons (mV 4) (mCons (mOp oAdd (mV 5) (mTup (mCons (mOp ixO (mV 3) (mC (.int 1))) (mNil)))) (mCons (mV 6) (mNil)))))) (mNil))))
            (sIf (mTB (mOp oEq (mOp ixO (mV 3) (mC (.int 0))) (mC (.str "draw"))))
              (sFor (miSeq (mRev (mOp ixO (mV 3) (mC (.int 1))))) (gT 2 (gsC (gN 7) (gsC (gN 8) (gsN))))
                (L_ways_1))
              (sNil)))))

def T_ways_1 : M Bool :=
    mTr (mV 2)

def R_ways_1 : S :=
    sRet (mV 1)

def B_ways : S :=
    sSeq (sAsg 1 (mMut (mLst (mNil))))
    (sSeq (sAsg 2 (mMut (mLst (mCons (mTup (mCons (mV 0) (mCons (mC c_ONE) (mCons (mTup (mNil)) (mCons (mTup (mNil)) (mNil)))))) (mNil)))))
    (sSeq (sWhile (T_ways_1)
      (L_ways_2))
    (R_ways_1)))

def F_ways : Fn := mFun 9 1 (B_ways)

def L_alternatives_of_1 (w : World) : S :=
    sTgt (mCall (pureF F_plus) (mCons (mGet2N w (mV 1) (mTup (mCons (mV 3) (mCons (mV 4) (mNil)))) (mC c_ZERO)) (mCons (mV 2) (mNil)))) (gSetN w (mV 1) (mTup (mCons (mV 3) (mCons (mV 4) (mNil)))))

def E_alternatives_of_1 (w : World) : M Mn.D :=
    mOp oAdd (mTup (mCons (mOp (ixF w) (mV 1) (mV 5)) (mNil))) (mV 5)

def R_alternatives_of_1 (w : World) : S :=
    sRet (mCB cTup (mCons (mBorrow (mFrz (mLc [5] (miKeysN w (mV 1)) (gN 5) (mYes) (E_alternatives_of_1 w)))) (mNil)))

def B_alternatives_of (w : World) : S :=
    sSeq (sAsg 1 (mDitN w))
    (sSeq (sFor (miSeq (mCall (pureF F_ways) (mCons (mV 0) (mNil)))) (gT 3 (gsC (gN 2) (gsC (gN 3) (gsC (gN 4) (gsN)))))
      (L_alternatives_of_1 w))
    (R_alternatives_of_1 w))

def F_alternatives_of (w : World) : Fn := mFun 6 1 (B_alternatives_of w)

def E_alternatives_1 (w : World) : M Mn.D :=
    mTup (mCons (mV 1) (mCons (mCall (pureF (F_alternatives_of w)) (mCons (mV 2) (mNil))) (mNil)))

def B_alternatives (w : World) : S :=
    sRet (mCB cTup (mCons (mFrz (mLc [1, 2] (miSeq (mV 0)) (gT 2 (gsC (gN 1) (gsC (gN 2) (gsN)))) (mYes) (E_alternatives_1 w))) (mNil)))

def F_alternatives (w : World) : Fn := mFun 3 1 (B_alternatives w)

def E_called_by_1 (w : World) : M Mn.D :=
    mV 12

def L_called_by_1 (w : World) : S :=
    sTgt (mFrz (mLc2 [9, 10, 11, 12] [12] (miSeq (mV 3)) (gT 3 (gsC (gN 9) (gsC (gN 10) (gsC (gN 11) (gsN))))) (mYes) (miSeq (mV 10)) (gN 12) (mYes) (E_called_by_1 w))) (gSet (mV 1) (mV 2))

def L_called_by_2 (w : World) : S :=
    sSeq (sAsg 8 (mMt fPop (mV 7) mNil))
        (sIf (mTB (mOp oNotIn (mV 8) (mV 6)))
          (sSeq (sTgt (mC (.bl true)) (gSet (mV 6) (mV 8)))
          (sDrop (mMt fExt (mV 7) (mCons (mOp ixO (mV 1) (mV 8)) (mNil)))))
          (sNil))

def T_called_by_1 (w : World) : M Bool :=
    mTr (mV 7)

def E_called_by_2 (w : World) : M Mn.D :=
    mV 13

def R_called_by_1 (w : World) : S :=
    sDrop (mMt fApp (mV 4) (mCons (mTup (mCons (mV 2) (mCons (mCB cTup (mCons (mFrz (mLc [13, 5] (miSeq (mV 0)) (gT 2 (gsC (gN 13) (gsC (gN 5) (gsN)))) (mTB (mOp oIn (mV 13) (mV 6))) (E_called_by_2 w))) (mNil))) (mNil)))) (mNil)))

def L_called_by_3 (w : World) : S :=
    sSeq (sAsg 6 (mDic0))
      (sSeq (sAsg 7 (mMut (mCBL cList (mCons (mOp ixO (mV 1) (mV 2)) (mNil)))))
      (sSeq (sWhile (T_called_by_1 w)
        (L_called_by_2 w))
      (R_called_by_1 w)))

def R_called_by_2 (w : World) : S :=
    sRet (mCB cTup (mCons (mV 4) (mNil)))

def R_called_by_3 (w : World) : S :=
    sSeq (sAsg 4 (mMut (mLst (mNil))))
    (sSeq (sFor (miSeq (mV 0)) (gT 2 (gsC (gN 2) (gsC (gN 5) (gsN))))
      (L_called_by_3 w))
    (R_called_by_2 w))

def B_called_by (w : World) : S :=
    sSeq (sAsg 1 (mDic0))
    (sSeq (sFor (miSeq (mCall (pureF (F_alternatives w)) (mCons (mV 0) (mNil)))) (gT 2 (gsC (gN 2) (gsC (gN 3) (gsN))))
      (L_called_by_1 w))
    (R_called_by_3 w))

def F_called_by (w : World) : Fn := mFun 14 1 (B_called_by w)

def E__law_start_1 : M Mn.D :=
    mCB cInt (mCons (mV 1) (mNil))

def B__law_start : S :=
    sRet (mMut (mLst (mCons (mFrz (mLc [1] (miSeq (mSl (mV 0) (mNoP) (mPart (mC (.int 63))))) (gN 1) (mYes) (E__law_start_1))) (mCons (mC (.int 0)) (mCons (mC (.int 0)) (mCons (mC (.int 0)) (mCons (mC (.int 20)) (mNil))))))))

def F__law_start : Fn := mFunL 2 1 (B__law_start)

def R__law_fill_1 : S :=
    sIf (mTB (mOp (oC cGe) (mV 1) (mOp (oI fPow) (mC (.int 10)) (mC (.int 18)))))
        (sRet (mV 1))
        (sNil)

def R__law_fill_2 : S :=
    sSeq (sAsg 1 (mOp (oI fMod) (mCB cInt (mCons (mOp oAdd (mOp (oI fMul) (mV 1) (mC (.int 48271))) (mOp (oI fMul) (mOp ixO (mV 0) (mC (.int 3))) (mC (.int 69621)))) (mNil))) (mC (.int 2147483647))))
    (sRet (mOp oAdd (mOp (oI fDiv) (mCB cInt (mCons (mOp oAdd (mOp oAdd (mOp (oI fMul) (mV 1) (mV 1)) (mOp (oI fMul) (mOp ixO (mV 0) (mC (.int 3))) (mC (.int 7919)))) (mC (.int 11))) (mNil))) (mC (.int 64))) (mC (.int 36028797018963968))))

def R__law_fill_3 : S :=
    sSeq (sIf (mAnd (mTr (mOp ixO (mV 0) (mC (.int 0)))) (mTB (mOp (oC cGe) (mOp ixO (mV 0) (mC (.int 1))) (mCB cLen (mCons (mOp ixO (mV 0) (mC (.int 0))) (mNil))))))
      (sAsg 1 (mOp oAdd (mV 1) (mOp (oI fMod) (mCB cInt (mCons (mOp ixO (mOp ixO (mV 0) (mC (.int 0))) (mNeg (mC (.int 1)))) (mNil))) (mC (.int 1000003)))))
      (sNil))
    (R__law_fill_2)

def B__law_fill : S :=
    sSeq (sTgt (mOp oAdd (mOp ixO (mV 0) (mC (.int 3))) (mC (.int 1))) (gSet (mV 0) (mC (.int 3))))
    (sSeq (sAsg 1 (mOp oAdd (mOp (oI fMul) (mOp ixO (mV 0) (mC (.int 3))) (mC (.int 69621))) (mC (.int 12345))))
    (sSeq (sIf (mTB (mOp (oC cLt) (mOp ixO (mV 0) (mC (.int 1))) (mCB cLen (mCons (mOp ixO (mV 0) (mC (.int 0))) (mNil)))))
      (sSeq (sAsg 1 (mOp ixO (mOp ixO (mV 0) (mC (.int 0))) (mOp ixO (mV 0) (mC (.int 1)))))
      (sSeq (sTgt (mOp oAdd (mOp ixO (mV 0) (mC (.int 1))) (mC (.int 1))) (gSet (mV 0) (mC (.int 1))))
      (sSeq (sIf (mTB (mOp (oC cLt) (mV 1) (mC (.int 0))))
        (sAsg 1 (mOp (oI fSub) (mOp (oI fSub) (mC (.int 0)) (mC (.int 1))) (mV 1)))
        (sNil))
      (R__law_fill_1))))
      (sNil))
    (R__law_fill_3)))

def F__law_fill : Fn := mFun 2 1 (B__law_fill)

def R__law_take_1 : S :=
    sSeq (sAsg 2 (mOp (oI fMod) (mCB cInt (mCons (mOp ixO (mV 0) (mC (.int 2))) (mNil))) (mV 1)))
    (sSeq (sTgt (mOp (oI fDiv) (mOp ixO (mV 0) (mC (.int 2))) (mV 1)) (gSet (mV 0) (mC (.int 2))))
    (sRet (mV 2)))

def B__law_take : S :=
    sSeq (sIf (mTB (mOp (oC cLt) (mOp ixO (mV 0) (mC (.int 2))) (mV 1)))
      (sTgt (mCall F__law_fill (mCons (mV 0) (mNil))) (gSet (mV 0) (mC (.int 2))))
      (sNil))
    (R__law_take_1)

def F__law_take : Fn := mFun 3 2 (B__law_take)

def R__law_divisor_1 : S :=
    sPar 0 1 (mCons (mV 1) (mCons (mOp (oI fMod) (mV 0) (mV 1)) mNil))

def L__law_divisor_1 : S :=
    sSeq (sIf (mTB (mOp oEq (mV 1) (mC (.int 0))))
        (sRet (mCB (cInt1 fAbs) (mCons (mV 0) (mNil))))
        (sNil))
      (R__law_divisor_1)

def R__law_divisor_2 : S :=
    sRet (mC (.int 1))

def B__law_divisor : S :=
    sSeq (sFor (miR1 (mCons (mC (.int 20000)) (mNil))) (gN 2)
      (L__law_divisor_1))
    (R__law_divisor_2)

def F__law_divisor : Fn := mFun 3 2 (B__law_divisor)

def B__law_fraction : S :=
    sSeq (sAsg 2 (mCall F__law_divisor (mCons (mV 0) (mCons (mV 1) (mNil)))))
    (sSeq (sAsg 2 (mIte (mTB (mOp (oC cGt) (mV 1) (mC (.int 0)))) (mV 2) (mOp (oI fSub) (mC (.int 0)) (mV 2))))
    (sRet (mTup (mCons (mOp (oI fDiv) (mV 0) (mV 2)) (mCons (mOp (oI fDiv) (mV 1) (mV 2)) (mNil))))))

def F__law_fraction : Fn := mFun 3 2 (B__law_fraction)

def B__law_plus : S :=
    sRet (mCall F__law_fraction (mCons (mOp oAdd (mOp (oI fMul) (mOp ixO (mV 0) (mC (.int 0))) (mOp ixO (mV 1) (mC (.int 1)))) (mOp (oI fMul) (mOp ixO (mV 1) (mC (.int 0))) (mOp ixO (mV 0) (mC (.int 1))))) (mCons (mOp (oI fMul) (mOp ixO (mV 0) (mC (.int 1))) (mOp ixO (mV 1) (mC (.int 1)))) (mNil))))

def F__law_plus : Fn := mFun 2 2 (B__law_plus)

def B__law_times : S :=
    sRet (mCall F__law_fraction (mCons (mOp (oI fMul) (mOp ixO (mV 0) (mC (.int 0))) (mOp ixO (mV 1) (mC (.int 0)))) (mCons (mOp (oI fMul) (mOp ixO (mV 0) (mC (.int 1))) (mOp ixO (mV 1) (mC (.int 1)))) (mNil))))

def F__law_times : Fn := mFun 2 2 (B__law_times)

def R__law_cut_1 : S :=
    sRet (mOp oAdd (mV 4) (mFrz (mLst (mCons (mV 5) (mNil)))))

def R__law_cut_2 : S :=
    sSeq (sAsg 4 (mMut (mLst (mCons (mTup (mCons (mV 2) (mCons (mV 3) (mNil)))) (mNil)))))
    (sSeq (sAsg 5 (mCall F__law_fraction (mCons (mOp (oI fSub) (mV 3) (mV 2)) (mCons (mV 3) (mNil)))))
    (sSeq (sIf (mTB (mOp oEq (mCall F__law_take (mCons (mV 0) (mCons (mC (.int 3)) (mNil)))) (mC (.int 0))))
      (sSeq (sTgt (mOp ixO (mV 1) (mOp oAdd (mC (.int 1)) (mCall F__law_take (mCons (mV 0) (mCons (mC (.int 8)) (mNil)))))) (gT 2 (gsC (gN 2) (gsC (gN 3) (gsN)))))
      (sSeq (sAsg 6 (mCall F__law_times (mCons (mV 5) (mCons (mTup (mCons (mV 2) (mCons (mV 3) (mNil)))) (mNil)))))
      (sSeq (sDrop (mMt fApp (mV 4) (mCons (mV 6) (mNil))))
      (sAsg 5 (mCall F__law_plus (mCons (mV 5) (mCons (mTup (mCons (mOp (oI fSub) (mC (.int 0)) (mOp ixO (mV 6) (mC (.int 0)))) (mCons (mOp ixO (mV 6) (mC (.int 1))) (mNil)))) (mNil))))))))
      (sNil))
    (R__law_cut_1)))

def B__law_cut : S :=
    sSeq (sAsg 1 (mFrz (mLst (mCons (mTup (mCons (mC (.int 1)) (mCons (mC (.int 1)) (mNil)))) (mCons (mTup (mCons (mC (.int 1)) (mCons (mC (.int 2)) (mNil)))) (mCons (mTup (mCons (mC (.int 1)) (mCons (mC (.int 3)) (mNil)))) (mCons (mTup (mCons (mC (.int 2)) (mCons (mC (.int 3)) (mNil)))) (mCons (mTup (mCons (mC (.int 1)) (mCons (mC (.int 4)) (mNil)))) (mCons (mTup (mCons (mC (.int 3)) (mCons (mC (.int 4)) (mNil)))) (mCons (mTup (mCons (mC (.int 1)) (mCons (mC (.int 5)) (mNil)))) (mCons (mTup (mCons (mC (.int 2)) (mCons (mC (.int 7)) (mNil)))) (mCons (mTup (mCons (mC (.int 1)) (mCons (mC (.int 10)) (mNil)))) (mNil)))))))))))))
    (sSeq (sTgt (mOp ixO (mV 1) (mCall F__law_take (mCons (mV 0) (mCons (mC (.int 9)) (mNil))))) (gT 2 (gsC (gN 2) (gsC (gN 3) (gsN)))))
    (sSeq (sIf (mTB (mOp oEq (mV 3) (mC (.int 1))))
      (sRet (mFrz (mLst (mCons (mTup (mCons (mC (.int 1)) (mCons (mC (.int 1)) (mNil)))) (mNil)))))
      (sNil))
    (R__law_cut_2)))

def F__law_cut : Fn := mFun 7 1 (B__law_cut)

def E__law_body_1 (n : Nat) (F : Fn) : M Mn.D :=
    mTup (mCons (mV 5) (mCons (mCall F (mCons (mV 0) (mCons (mV 1) (mCons (mV 2) (mCons (mOp (oI fSub) (mV 3) (mC (.int 1))) (mNil)))))) (mNil)))

def R__law_body_1 (n : Nat) (F : Fn) : S :=
    sRet (mTup (mCons (mC (.str "draw")) (mCons (mCB cTup (mCons (mFrz (mLc [5] (miSeq (mCall F__law_cut (mCons (mV 0) (mNil)))) (gN 5) (mYes) (E__law_body_1 n F))) (mNil))) (mNil))))

def R__law_body_2 (n : Nat) (F : Fn) : S :=
    sSeq (sIf (mTB (mOp (oC cLt) (mV 4) (mC (.int 6))))
      (sRet (mTup (mCons (mC (.str "call")) (mCons (mOp ixO (mV 1) (mCall F__law_take (mCons (mV 0) (mCons (mCB cLen (mCons (mV 1) (mNil))) (mNil))))) (mCons (mCall F (mCons (mV 0) (mCons (mV 1) (mCons (mV 2) (mCons (mOp (oI fSub) (mV 3) (mC (.int 1))) (mNil)))))) (mNil))))))
      (sNil))
    (R__law_body_1 n F)

def R__law_body_3 (n : Nat) (F : Fn) : S :=
    sSeq (sIf (mAnd (mTB (mOp (oC cLt) (mV 4) (mC (.int 3)))) (mTr (mV 2)))
      (sRet (mTup (mCons (mC (.str "tell")) (mCons (mOp ixO (mV 2) (mCall F__law_take (mCons (mV 0) (mCons (mCB cLen (mCons (mV 2) (mNil))) (mNil))))) (mCons (mCall F (mCons (mV 0) (mCons (mV 1) (mCons (mV 2) (mCons (mOp (oI fSub) (mV 3) (mC (.int 1))) (mNil)))))) (mNil))))))
      (sNil))
    (R__law_body_2 n F)

def B__law_body (n : Nat) (F : Fn) : S :=
    sSeq (sAsg 4 (mCall F__law_take (mCons (mV 0) (mCons (mC (.int 9)) (mNil)))))
    (sSeq (sIf (mOr (mTB (mOp (oC cLt) (mV 3) (mC (.int 1)))) (mTB (mOp oEq (mV 4) (mC (.int 0)))))
      (sRet (mOp ixO (mFrz (mLst (mCons (mTup (mCons (mC (.str "end")) (mNil))) (mCons (mTup (mCons (mC (.str "end")) (mNil))) (mCons (mTup (mCons (mC (.str "end")) (mNil))) (mCons (mTup (mCons (mC (.str "end")) (mNil))) (mCons (mTup (mCons (mC (.str "stop")) (mNil))) (mNil)))))))) (mCall F__law_take (mCons (mV 0) (mCons (mC (.int 5)) (mNil))))))
      (sNil))
    (R__law_body_3 n F))

def F__law_body : Nat → Fn
  | 0 => fun _ _ => none
  | n + 1 => mFun 6 4 (B__law_body n (F__law_body n))

def E__law_program_1 : M Mn.D :=
    mTup (mCons (mV 4) (mCons (mCall (F__law_body 8) (mCons (mV 0) (mCons (mV 1) (mCons (mV 3) (mCons (mOp oAdd (mC (.int 1)) (mCall F__law_take (mCons (mV 0) (mCons (mC (.int 5)) (mNil))))) (mNil)))))) (mNil)))

def B__law_program : S :=
    sSeq (sAsg 1 (mSl (mFrz (mLst (mCons (mC (.str "p")) (mCons (mC (.str "q")) (mCons (mC (.str "r2")) (mCons (mC (.str "s")) (mNil))))))) (mNoP) (mPart (mOp oAdd (mC (.int 1)) (mCall F__law_take (mCons (mV 0) (mCons (mC (.int 4)) (mNil))))))))
    (sSeq (sAsg 2 (mCall F__law_take (mCons (mV 0) (mCons (mCB cLen (mCons (mV 1) (mNil))) (mNil)))))
    (sSeq (sAsg 1 (mOp oAdd (mSl (mV 1) (mPart (mV 2)) (mNoP)) (mSl (mV 1) (mNoP) (mPart (mV 2)))))
    (sSeq (sAsg 3 (mSl (mFrz (mLst (mCons (mC (.str "a")) (mCons (mC (.str "b")) (mCons (mC (.str "p")) (mNil)))))) (mNoP) (mPart (mCall F__law_take (mCons (mV 0) (mCons (mC (.int 4)) (mNil)))))))
    (sRet (mCB cTup (mCons (mFrz (mLc [4] (miSeq (mV 1)) (gN 4) (mYes) (E__law_program_1))) (mNil)))))))

def F__law_program : Fn := mFun 5 1 (B__law_program)

def E__law_alike_1 (n : Nat) (F : Fn) : M Mn.D :=
    mCall F (mCons (mOp ixO (mV 0) (mV 2)) (mCons (mOp ixO (mV 1) (mV 2)) (mNil)))

def R__law_alike_1 (n : Nat) (F : Fn) : S :=
    sRet (mAndV (mIsi ["int", "str"] (mV 0)) (mOp oEq (mV 0) (mV 1)))

def R__law_alike_2 (n : Nat) (F : Fn) : S :=
    sSeq (sIf (mOr (mTr (mIsi ["bool"] (mV 0))) (mTB (mOp oNe (mIsi ["str"] (mV 0)) (mIsi ["str"] (mV 1)))))
      (sRet (mC (.bl false)))
      (sNil))
    (R__law_alike_1 n F)

def B__law_alike (n : Nat) (F : Fn) : S :=
    sSeq (sIf (mTr (mIsi ["tuple"] (mV 1)))
      (sRet (mAndV (mIsi ["tuple"] (mV 0)) (mAndV (mOp oEq (mCB cLen (mCons (mV 0) (mNil))) (mCB cLen (mCons (mV 1) (mNil)))) (mCB (cBls fAll) (mCons (mFrz (mLc [2] (miR1 (mCons (mCB cLen (mCons (mV 1) (mNil))) (mNil))) (gN 2) (mYes) (E__law_alike_1 n F))) (mNil))))))
      (sNil))
    (R__law_alike_2 n F)

def F__law_alike : Nat → Fn
  | 0 => fun _ _ => none
  | n + 1 => mFun 3 2 (B__law_alike n (F__law_alike n))

def L__law_ways_1 (n : Nat) (F : Fn) : S :=
    sDrop (mCall F (mCons (mV 6) (mCons (mCall F__law_times (mCons (mV 1) (mCons (mV 5) (mNil)))) (mCons (mV 2) (mCons (mV 3) (mCons (mV 4) (mNil)))))))

def B__law_ways (n : Nat) (F : Fn) : S :=
    sIf (mTB (mOp oEq (mOp ixO (mV 0) (mC (.int 0))) (mC (.str "end"))))
      (sDrop (mMt fApp (mV 4) (mCons (mTup (mCons (mV 1) (mCons (mV 2) (mCons (mV 3) (mNil))))) (mNil))))
      (sIf (mTB (mOp oEq (mOp ixO (mV 0) (mC (.int 0))) (mC (.str "tell"))))
        (sDrop (mCall F (mCons (mOp ixO (mV 0) (mC (.int 2))) (mCons (mV 1) (mCons (mV 2) (mCons (mOp oAdd (mV 3) (mTup (mCons (mOp ixO (mV 0) (mC (.int 1))) (mNil)))) (mCons (mV 4) (mNil))))))))
        (sIf (mTB (mOp oEq (mOp ixO (mV 0) (mC (.int 0))) (mC (.str "call"))))
          (sDrop (mCall F (mCons (mOp ixO (mV 0) (mC (.int 2))) (mCons (mV 1) (mCons (mOp oAdd (mV 2) (mTup (mCons (mOp ixO (mV 0) (mC (.int 1))) (mNil)))) (mCons (mV 3) (mCons (mV 4) (mNil))))))))
          (sIf (mTB (mOp oEq (mOp ixO (mV 0) (mC (.int 0))) (mC (.str "draw"))))
            (sFor (miSeq (mOp ixO (mV 0) (mC (.int 1)))) (gT 2 (gsC (gN 5) (gsC (gN 6) (gsN))))
              (L__law_ways_1 n F))
            (sNil))))

def F__law_ways : Nat → Fn
  | 0 => fun _ _ => none
  | n + 1 => mFun 7 5 (B__law_ways n (F__law_ways n))

def E__law_alternatives_1 : M Mn.D :=
    mV 10

def L__law_alternatives_1 : S :=
    sSeq (sAsg 9 (mFrz (mLc [10] (miR1 (mCons (mCB cLen (mCons (mV 5) (mNil))) (mNil))) (gN 10) (mTB (mOp oEq (mSl (mOp ixO (mV 5) (mV 10)) (mPart (mC (.int 1))) (mNoP)) (mTup (mCons (mV 7) (mCons (mV 8) (mNil)))))) (E__law_alternatives_1))))
        (sIf (mTr (mV 9))
          (sSeq (sAsg 10 (mOp ixO (mV 9) (mC (.int 0))))
          (sTgt (mTup (mCons (mCall F__law_plus (mCons (mOp ixO (mOp ixO (mV 5) (mV 10)) (mC (.int 0))) (mCons (mV 6) (mNil)))) (mCons (mV 7) (mCons (mV 8) (mNil))))) (gSet (mV 5) (mV 10))))
          (sDrop (mMt fApp (mV 5) (mCons (mTup (mCons (mV 6) (mCons (mV 7) (mCons (mV 8) (mNil))))) (mNil)))))

def R__law_alternatives_1 : S :=
    sDrop (mMt fApp (mV 1) (mCons (mTup (mCons (mV 2) (mCons (mCB cTup (mCons (mV 5) (mNil))) (mNil)))) (mNil)))

def L__law_alternatives_2 : S :=
    sSeq (sAsg 4 (mMut (mLst (mNil))))
      (sSeq (sDrop (mCall (F__law_ways 10) (mCons (mV 3) (mCons (mTup (mCons (mC (.int 1)) (mCons (mC (.int 1)) (mNil)))) (mCons (mTup (mNil)) (mCons (mTup (mNil)) (mCons (mV 4) (mNil))))))))
      (sSeq (sAsg 5 (mMut (mLst (mNil))))
      (sSeq (sForP (mV 4) (gT 3 (gsC (gN 6) (gsC (gN 7) (gsC (gN 8) (gsN)))))
        (L__law_alternatives_1))
      (R__law_alternatives_1))))

def R__law_alternatives_2 : S :=
    sRet (mCB cTup (mCons (mV 1) (mNil)))

def B__law_alternatives : S :=
    sSeq (sAsg 1 (mMut (mLst (mNil))))
    (sSeq (sFor (miSeq (mV 0)) (gT 2 (gsC (gN 2) (gsC (gN 3) (gsN))))
      (L__law_alternatives_2))
    (R__law_alternatives_2))

def F__law_alternatives : Fn := mFun 11 1 (B__law_alternatives)

def L_law_1 (w : World) : S :=
    sTgt (mOp oAdd (mOp ixO (mV 5) (mV 6)) (mFrz (mCBL cList (mCons (mOp ixO (mV 8) (mC (.int 1))) (mNil))))) (gSet (mV 5) (mV 6))

def L_law_2 (w : World) : S :=
    sSeq (sTgt (mFrz (mLst (mNil))) (gSet (mV 5) (mV 6)))
        (sFor (miSeq (mV 7)) (gN 8)
          (L_law_1 w))

def E_law_1 (w : World) : M Mn.D :=
    mTup (mCons (mV 6) (mCons (mFrz (mCBL cList (mCons (mOp ixO (mV 5) (mV 6)) (mNil)))) (mNil)))

def L_law_3 (w : World) : S :=
    sAsg 12 (mOp oAdd (mV 12) (mOp ixO (mV 5) (mV 13)))

def E_law_2 (w : World) : M Mn.D :=
    mV 15

def R_law_1 (w : World) : S :=
    sTgt (mOp oAdd (mOp ixO (mV 9) (mV 6)) (mFrz (mLc [15] (miSeq (mV 12)) (gN 15) (mTB (mOp oNotIn (mV 15) (mOp ixO (mV 9) (mV 6)))) (E_law_2 w)))) (gSet (mV 9) (mV 6))

def L_law_4 (w : World) : S :=
    sSeq (sAsg 12 (mFrz (mLst (mNil))))
          (sSeq (sFor (miSeq (mOp ixO (mV 9) (mV 6))) (gN 13)
            (L_law_3 w))
          (R_law_1 w))

def L_law_5 (w : World) : S :=
    sFor (miSeq (mV 3)) (gT 2 (gsC (gN 6) (gsC (gN 11) (gsN))))
          (L_law_4 w)

def E_law_3 (w : World) : M Mn.D :=
    mV 15

def E_law_4 (w : World) : M Mn.D :=
    mTup (mCons (mV 6) (mCons (mCB cTup (mCons (mFrz (mLc [15, 11] (miSeq (mV 3)) (gT 2 (gsC (gN 15) (gsC (gN 11) (gsN)))) (mTB (mOp oIn (mV 15) (mOp ixO (mV 9) (mV 6)))) (E_law_3 w))) (mNil))) (mNil)))

def R_law_2 (w : World) : S :=
    sSeq (sAsg 14 (mCB cTup (mCons (mFrz (mLc [6, 11] (miSeq (mV 3)) (gT 2 (gsC (gN 6) (gsC (gN 11) (gsN)))) (mYes) (E_law_4 w))) (mNil))))
      (sIf (mNot (mTr (mCall (F__law_alike 10) (mCons (mCall (pureF (F_called_by w)) (mCons (mV 3) (mNil))) (mCons (mV 14) (mNil))))))
        (sRet (mC (.bl false)))
        (sNil))

def R_law_3 (w : World) : S :=
    sSeq (sAsg 9 (mDicM (mCons (mBorrow (mFrz (mLc [6] (miKeysL (mV 5)) (gN 6) (mYes) (E_law_1 w)))) (mNil))))
      (sSeq (sFor (miR1 (mCons (mCB cLen (mCons (mV 3) (mNil))) (mNil))) (gN 10)
        (L_law_5 w))
      (R_law_2 w))

def R_law_4 (w : World) : S :=
    sSeq (sAsg 5 (mDic0))
      (sSeq (sFor (miSeq (mV 4)) (gT 2 (gsC (gN 6) (gsC (gN 7) (gsN))))
        (L_law_2 w))
      (R_law_3 w))

def L_law_6 (w : World) : S :=
    sSeq (sAsg 3 (mCall F__law_program (mCons (mV 1) (mNil))))
      (sSeq (sAsg 4 (mCall (pureF F__law_alternatives) (mCons (mV 3) (mNil))))
      (sSeq (sIf (mNot (mTr (mCall (F__law_alike 10) (mCons (mCall (pureF (F_alternatives w)) (mCons (mV 3) (mNil))) (mCons (mV 4) (mNil))))))
        (sRet (mC (.bl false)))
        (sNil))
      (R_law_4 w)))

def R_law_5 (w : World) : S :=
    sRet (mC (.bl true))

def B_law (w : World) : S :=
    sSeq (sAsg 1 (mCall F__law_start (mCons (mV 0) (mNil))))
    (sSeq (sFor (miR1 (mCons (mC (.int 4)) (mNil))) (gN 2)
      (L_law_6 w))
    (R_law_5 w))

def F_law (w : World) : Fn := mFun 16 1 (B_law w)

end
end K31
end
section
set_option Elab.async false
set_option linter.all false
set_option maxRecDepth 100000
set_option maxHeartbeats 4000000
namespace K31
open PySem PySem.Spec PyProof.Rows L2 Mn
def topS (i : Nat) : Stmt := PySem.Challenge.pw_longodds_k31_alternatives.main.body.getD i (.Pass ⟨0, 0, 0, 0⟩)
abbrev s_common_divisor : Stmt := topS 3
abbrev N_common_divisor : List Str := ["first", "second"]
theorem sc_common_divisor : FnScope N_common_divisor ["first", "second"] (defScope s_common_divisor) := ⟨rfl, rfl, rfl, by decide +kernel, rfl, by decide +kernel, by decide +kernel⟩
abbrev s_ratio : Stmt := topS 4
abbrev N_ratio : List Str := ["above", "below", "both"]
theorem sc_ratio : FnScope N_ratio ["above", "below"] (defScope s_ratio) := ⟨rfl, rfl, rfl, by decide +kernel, rfl, by decide +kernel, by decide +kernel⟩
abbrev s_plus : Stmt := topS 5
abbrev N_plus : List Str := ["first", "second"]
theorem sc_plus : FnScope N_plus ["first", "second"] (defScope s_plus) := ⟨rfl, rfl, rfl, by decide +kernel, rfl, by decide +kernel, by decide +kernel⟩
abbrev s_times : Stmt := topS 6
abbrev N_times : List Str := ["first", "second"]
theorem sc_times : FnScope N_times ["first", "second"] (defScope s_times) := ⟨rfl, rfl, rfl, by decide +kernel, rfl, by decide +kernel, by decide +kernel⟩
abbrev s_ways : Stmt := topS 8
abbrev N_ways : List Str := ["body", "found", "left", "one", "chance", "calls", "letters", "fraction", "inner"]
theorem sc_ways : FnScope N_ways ["body"] (defScope s_ways) := ⟨rfl, rfl, rfl, by decide +kernel, rfl, by decide +kernel, by decide +kernel⟩
abbrev s_alternatives_of : Stmt := topS 9
abbrev N_alternatives_of : List Str := ["body", "chances", "chance", "calls", "letters", "key"]
theorem sc_alternatives_of : FnScope N_alternatives_of ["body"] (defScope s_alternatives_of) := ⟨rfl, rfl, rfl, by decide +kernel, rfl, by decide +kernel, by decide +kernel⟩
abbrev s_alternatives : Stmt := topS 10
abbrev N_alternatives : List Str := ["program", "name", "body"]
theorem sc_alternatives : FnScope N_alternatives ["program"] (defScope s_alternatives) := ⟨rfl, rfl, rfl, by decide +kernel, rfl, by decide +kernel, by decide +kernel⟩
abbrev s_called_by : Stmt := topS 11
abbrev N_called_by : List Str := ["program", "direct", "name", "rows", "found", "body", "reached", "left", "one", "chance", "calls", "letters", "called", "other"]
theorem sc_called_by : FnScope N_called_by ["program"] (defScope s_called_by) := ⟨rfl, rfl, rfl, by decide +kernel, rfl, by decide +kernel, by decide +kernel⟩
abbrev s__law_start : Stmt := topS 13
abbrev N__law_start : List Str := ["script", "cell"]
theorem sc__law_start : FnScope N__law_start ["script"] (defScope s__law_start) := ⟨rfl, rfl, rfl, by decide +kernel, rfl, by decide +kernel, by decide +kernel⟩
abbrev s__law_fill : Stmt := topS 14
abbrev N__law_fill : List Str := ["c", "number"]
theorem sc__law_fill : FnScope N__law_fill ["c"] (defScope s__law_fill) := ⟨rfl, rfl, rfl, by decide +kernel, rfl, by decide +kernel, by decide +kernel⟩
abbrev s__law_take : Stmt := topS 15
abbrev N__law_take : List Str := ["c", "many", "digit"]
theorem sc__law_take : FnScope N__law_take ["c", "many"] (defScope s__law_take) := ⟨rfl, rfl, rfl, by decide +kernel, rfl, by decide +kernel, by decide +kernel⟩
abbrev s__law_divisor : Stmt := topS 16
abbrev N__law_divisor : List Str := ["a", "b", "turn"]
theorem sc__law_divisor : FnScope N__law_divisor ["a", "b"] (defScope s__law_divisor) := ⟨rfl, rfl, rfl, by decide +kernel, rfl, by decide +kernel, by decide +kernel⟩
abbrev s__law_fraction : Stmt := topS 17
abbrev N__law_fraction : List Str := ["n", "d", "many"]
theorem sc__law_fraction : FnScope N__law_fraction ["n", "d"] (defScope s__law_fraction) := ⟨rfl, rfl, rfl, by decide +kernel, rfl, by decide +kernel, by decide +kernel⟩
abbrev s__law_plus : Stmt := topS 18
abbrev N__law_plus : List Str := ["a", "b"]
theorem sc__law_plus : FnScope N__law_plus ["a", "b"] (defScope s__law_plus) := ⟨rfl, rfl, rfl, by decide +kernel, rfl, by decide +kernel, by decide +kernel⟩
abbrev s__law_times : Stmt := topS 19
abbrev N__law_times : List Str := ["a", "b"]
theorem sc__law_times : FnScope N__law_times ["a", "b"] (defScope s__law_times) := ⟨rfl, rfl, rfl, by decide +kernel, rfl, by decide +kernel, by decide +kernel⟩
abbrev s__law_cut : Stmt := topS 20
abbrev N__law_cut : List Str := ["c", "menu", "n", "d", "found", "rest", "part"]
theorem sc__law_cut : FnScope N__law_cut ["c"] (defScope s__law_cut) := ⟨rfl, rfl, rfl, by decide +kernel, rfl, by decide +kernel, by decide +kernel⟩
abbrev s__law_body : Stmt := topS 21
abbrev N__law_body : List Str := ["c", "names", "letters", "deep", "way", "one"]
theorem sc__law_body : FnScope N__law_body ["c", "names", "letters", "deep"] (defScope s__law_body) := ⟨rfl, rfl, rfl, by decide +kernel, rfl, by decide +kernel, by decide +kernel⟩
abbrev s__law_program : Stmt := topS 22
abbrev N__law_program : List Str := ["c", "names", "k", "letters", "name"]
theorem sc__law_program : FnScope N__law_program ["c"] (defScope s__law_program) := ⟨rfl, rfl, rfl, by decide +kernel, rfl, by decide +kernel, by decide +kernel⟩
abbrev s__law_alike : Stmt := topS 23
abbrev N__law_alike : List Str := ["value", "due", "k"]
theorem sc__law_alike : FnScope N__law_alike ["value", "due"] (defScope s__law_alike) := ⟨rfl, rfl, rfl, by decide +kernel, rfl, by decide +kernel, by decide +kernel⟩
abbrev s__law_ways : Stmt := topS 24
abbrev N__law_ways : List Str := ["body", "chance", "calls", "letters", "found", "one", "inner"]
theorem sc__law_ways : FnScope N__law_ways ["body", "chance", "calls", "letters", "found"] (defScope s__law_ways) := ⟨rfl, rfl, rfl, by decide +kernel, rfl, by decide +kernel, by decide +kernel⟩
abbrev s__law_alternatives : Stmt := topS 25
abbrev N__law_alternatives : List Str := ["program", "found", "name", "body", "ways_v", "rows", "chance", "calls", "letters", "same", "k"]
theorem sc__law_alternatives : FnScope N__law_alternatives ["program"] (defScope s__law_alternatives) := ⟨rfl, rfl, rfl, by decide +kernel, rfl, by decide +kernel, by decide +kernel⟩
abbrev s_law : Stmt := topS 26
abbrev N_law : List Str := ["script", "c", "turn", "program", "due", "calls", "name", "rows", "row", "found", "again", "body", "more", "one", "told", "other"]
theorem sc_law : FnScope N_law ["script"] (defScope s_law) := ⟨rfl, rfl, rfl, by decide +kernel, rfl, by decide +kernel, by decide +kernel⟩
structure Txt (K : PySem.W.Frag) (mg : Str → Option Value) : Prop where
  n_abs : mg "abs" = none
  n_all : mg "all" = none
  n_bool : mg "bool" = none
  n_dict : mg "dict" = none
  n_int : mg "int" = none
  n_isinstance : mg "isinstance" = none
  n_len : mg "len" = none
  n_list : mg "list" = none
  n_range : mg "range" = none
  n_str : mg "str" = none
  n_tuple : mg "tuple" = none
  g_ONE : GlobM K mg "ONE" c_ONE
  g_ZERO : GlobM K mg "ZERO" c_ZERO
section
variable {P : Program} {w : World} {K : PySem.W.Frag} {mg : Str → Option Value} {base : Heap}
theorem ok_common_divisor (T : Txt K mg) {f : Addr} {fd : FuncData} (F0 : Fun K "common_divisor" "common_divisor" s_common_divisor f fd) (hb : Binds K fd ["first", "second"] []) (hm : mg "common_divisor" = some (.ref f)) : FnM P w K mg base 1 "common_divisor" 2 (F_common_divisor) :=
  fn_mk (k := 0) F0 sc_common_divisor hb hm fun cdv A outer s H E hr =>
    pms_cons (pms_par (i := 0) (j := 1) sc_common_divisor.nd (pma_cons (pm_callB c_abs T.n_abs (by decide +kernel) (pma_cons (pm_var (i := 0)) (pma_nil))) (pma_cons (pm_callB c_abs T.n_abs (by decide +kernel) (pma_cons (pm_var (i := 1)) (pma_nil))) pma_nil)))
    (pms_cons (pms_while PassesOwn.never (pmt_cmp (o_ne hr.units) (pm_var (i := 1)) (pm_int))
      (pms_one (pms_par (i := 0) (j := 1) sc_common_divisor.nd (pma_cons (pm_var (i := 1)) (pma_cons (pm_op o_mod (pm_var (i := 0)) (pm_var (i := 1))) pma_nil)))))
    (pms_one (pms_ret (pm_var (i := 0)))))
theorem ok_ratio (T : Txt K mg) {f : Addr} {fd : FuncData} (F0 : Fun K "ratio" "ratio" s_ratio f fd) (hb : Binds K fd ["above", "below"] []) (hm : mg "ratio" = some (.ref f)) (G_common_divisor : FnM P w K mg base 1 "common_divisor" 2 F_common_divisor) : FnM P w K mg base 2 "ratio" 2 (F_ratio) :=
  fn_mk (k := 1) F0 sc_ratio hb hm fun cdv A outer s H E hr =>
    pms_cons (pms_if (pmt_cmp o_lt (pm_var (i := 1)) (pm_int))
      (pms_one (pms_par (i := 0) (j := 1) sc_ratio.nd (pma_cons (pm_neg (pm_var (i := 0))) (pma_cons (pm_neg (pm_var (i := 1))) pma_nil))))
      (pms_nil))
    (pms_cons (pms_if (pmt_cmp (o_ne hr.units) (pm_var (i := 1)) (pm_int))
      (pms_cons (pms_set (i := 2) sc_ratio.nd (pm_call (G_common_divisor).pure (hr.mono (by decide)) (pma_cons (pm_var (i := 0)) (pma_cons (pm_var (i := 1)) (pma_nil)))))
      (pms_one (pms_par (i := 0) (j := 1) sc_ratio.nd (pma_cons (pm_op o_div (pm_var (i := 0)) (pm_var (i := 2))) (pma_cons (pm_op o_div (pm_var (i := 1)) (pm_var (i := 2))) pma_nil)))))
      (pms_nil))
    (pms_one (pms_ret (pm_tup (pma_cons (pm_var (i := 0)) (pma_cons (pm_var (i := 1)) (pma_nil)))))))
theorem ok_plus (T : Txt K mg) {f : Addr} {fd : FuncData} (F0 : Fun K "plus" "plus" s_plus f fd) (hb : Binds K fd ["first", "second"] []) (hm : mg "plus" = some (.ref f)) (G_ratio : FnM P w K mg base 2 "ratio" 2 F_ratio) : FnM P w K mg base 3 "plus" 2 (F_plus) :=
  fn_mk (k := 2) F0 sc_plus hb hm fun cdv A outer s H E hr =>
    pms_cons (pms_if (pmt_chain (o_eq hr.units) (o_eq hr.units) (pm_ix (hu_of hr) (pm_var (i := 0)) (pm_int)) (pm_ix (hu_of hr) (pm_var (i := 1)) (pm_int)) (pm_int))
      (pms_one (pms_ret (pm_tup (pma_cons (pm_op o_add (pm_ix (hu_of hr) (pm_var (i := 0)) (pm_int)) (pm_ix (hu_of hr) (pm_var (i := 1)) (pm_int))) (pma_cons (pm_int) (pma_nil))))))
      (pms_nil))
    (pms_one (pms_ret (pm_call (G_ratio).pure (hr.mono (by decide)) (pma_cons (pm_op o_add (pm_op o_mul (pm_ix (hu_of hr) (pm_var (i := 0)) (pm_int)) (pm_ix (hu_of hr) (pm_var (i := 1)) (pm_int))) (pm_op o_mul (pm_ix (hu_of hr) (pm_var (i := 1)) (pm_int)) (pm_ix (hu_of hr) (pm_var (i := 0)) (pm_int)))) (pma_cons (pm_op o_mul (pm_ix (hu_of hr) (pm_var (i := 0)) (pm_int)) (pm_ix (hu_of hr) (pm_var (i := 1)) (pm_int))) (pma_nil))))))
theorem ok_times (T : Txt K mg) {f : Addr} {fd : FuncData} (F0 : Fun K "times" "times" s_times f fd) (hb : Binds K fd ["first", "second"] []) (hm : mg "times" = some (.ref f)) (G_ratio : FnM P w K mg base 2 "ratio" 2 F_ratio) : FnM P w K mg base 3 "times" 2 (F_times) :=
  fn_mk (k := 2) F0 sc_times hb hm fun cdv A outer s H E hr =>
    pms_one (pms_ret (pm_call (G_ratio).pure (hr.mono (by decide)) (pma_cons (pm_op o_mul (pm_ix (hu_of hr) (pm_var (i := 0)) (pm_int)) (pm_ix (hu_of hr) (pm_var (i := 1)) (pm_int))) (pma_cons (pm_op o_mul (pm_ix (hu_of hr) (pm_var (i := 0)) (pm_int)) (pm_ix (hu_of hr) (pm_var (i := 1)) (pm_int))) (pma_nil)))))
theorem ok_ways (T : Txt K mg) {f : Addr} {fd : FuncData} (F0 : Fun K "ways" "ways" s_ways f fd) (hb : Binds K fd ["body"] []) (hm : mg "ways" = some (.ref f)) (G_times : FnM P w K mg base 3 "times" 2 F_times) : FnM P w K mg base 4 "ways" 1 (F_ways) :=
  fn_mk (k := 3) F0 sc_ways hb hm fun cdv A outer s H E hr =>
    pms_cons (pms_set (i := 1) sc_ways.nd (pm_mut (pml_lst (pma_nil))))
    (pms_cons (pms_set (i := 2) sc_ways.nd (pm_mut (pml_lst (pma_cons (pm_tup (pma_cons (pm_var (i := 0)) (pma_cons (pm_glob T.g_ONE (by rfl)) (pma_cons (pm_tup (pma_nil)) (pma_cons (pm_tup (pma_nil)) (pma_nil)))))) (pma_nil)))))
    (pms_cons (pms_while PassesOwn.never (pmt_tr (pm_var (i := 2)))
      (pms_cons (pms_asg (pm_mt0 PySem.F.slot_list_pop PySem.F.type_list_pop m_pop (pm_var (i := 2))) (pmg_tup rfl (pmgs_cons (pmg_name sc_ways.nd (i := 3)) (pmgs_cons (pmg_name sc_ways.nd (i := 4)) (pmgs_cons (pmg_name sc_ways.nd (i := 5)) (pmgs_cons (pmg_name sc_ways.nd (i := 6)) (pmgs_nil)))))))
      (pms_one (pms_if (pmt_cmp (o_eq hr.units) (pm_ix (hu_of hr) (pm_var (i := 3)) (pm_int)) (pm_str))
        (pms_one (pms_drop (pm_mt PySem.F.slot_list_append PySem.F.type_list_append m_app (pm_var (i := 1)) (pma_cons (pm_tup (pma_cons (pm_var (i := 4)) (pma_cons (pm_var (i := 5)) (pma_cons (pm_var (i := 6)) (pma_nil))))) (pma_nil)))))
        (pms_one (pms_if (pmt_cmp (o_eq hr.units) (pm_ix (hu_of hr) (pm_var (i := 3)) (pm_int)) (pm_str))
          (pms_one (pms_drop (pm_mt PySem.F.slot_list_append PySem.F.type_list_append m_app (pm_var (i := 2)) (pma_cons (pm_tup (pma_cons (pm_ix (hu_of hr) (pm_var (i := 3)) (pm_int)) (pma_cons (pm_var (i := 4)) (pma_cons (pm_var (i := 5)) (pma_cons (pm_op o_add (pm_var (i := 6)) (pm_tup (pma_cons (pm_ix (hu_of hr) (pm_var (i := 3)) (pm_int)) (pma_nil)))) (pma_nil)))))) (pma_nil)))))
          (pms_one (pms_if (pmt_cmp (o_eq hr.units) (pm_ix (hu_of hr) (pm_var (i := 3)) (pm_int)) (pm_str))
            (pms_one (pms_drop (pm_mt PySem.F.slot_list_append PySem.F.type_list_append m_app (pm_var (i := 2)) (pma_cons (pm_tup (pma_cons (pm_ix (hu_of hr) (pm_var (i := 3)) (pm_int)) (pma_cons (pm_var (i := 4)) (pma_cons (pm_op o_add (pm_var (i := 5)) (pm_tup (pma_cons (pm_ix (hu_of hr) (pm_var (i := 3)) (pm_int)) (pma_nil)))) (pma_cons (pm_var (i := 6)) (pma_nil)))))) (pma_nil)))))
            (pms_one (pms_if (pmt_cmp (o_eq hr.units) (pm_ix (hu_of hr) (pm_var (i := 3)) (pm_int)) (pm_str))
              (pms_one (pms_for PassesOwn.never (pmi_seq (pm_rev (pm_ix (hu_of hr) (pm_var (i := 3)) (pm_int)))) (pmg_tup rfl (pmgs_cons (pmg_name sc_ways.nd (i := 7)) (pmgs_cons (pmg_name sc_ways.nd (i := 8)) (pmgs_nil))))
                (pms_one (pms_drop (pm_mt PySem.F.slot_list_append PySem.F.type_list_append m_app (pm_var (i := 2)) (pma_cons (pm_tup (pma_cons (pm_var (i := 8)) (pma_cons (pm_call (G_times).pure (hr.mono (by decide)) (pma_cons (pm_var (i := 4)) (pma_cons (pm_var (i := 7)) (pma_nil)))) (pma_cons (pm_var (i := 5)) (pma_cons (pm_var (i := 6)) (pma_nil)))))) (pma_nil)))))))
              (pms_nil)))))))))))
    (pms_one (pms_ret (pm_var (i := 1))))))
theorem ok_alternatives_of (T : Txt K mg) {f : Addr} {fd : FuncData} (F0 : Fun K "alternatives_of" "alternatives_of" s_alternatives_of f fd) (hb : Binds K fd ["body"] []) (hm : mg "alternatives_of" = some (.ref f)) (G_plus : FnM P w K mg base 3 "plus" 2 F_plus) (G_ways : FnM P w K mg base 4 "ways" 1 F_ways) : FnM P w K mg base 5 "alternatives_of" 1 (F_alternatives_of w) :=
  fn_mk (k := 4) F0 sc_alternatives_of hb hm fun cdv A outer s H E hr =>
    pms_cons (pms_set (i := 1) sc_alternatives_of.nd (pm_ditN))
    (pms_cons (pms_for PassesOwn.never (pmi_seq (pm_call (G_ways).pure (hr.mono (by decide)) (pma_cons (pm_var (i := 0)) (pma_nil)))) (pmg_tup rfl (pmgs_cons (pmg_name sc_alternatives_of.nd (i := 2)) (pmgs_cons (pmg_name sc_alternatives_of.nd (i := 3)) (pmgs_cons (pmg_name sc_alternatives_of.nd (i := 4)) (pmgs_nil)))))
      (pms_one (pms_asg (pm_call (G_plus).pure (hr.mono (by decide)) (pma_cons (pm_get2N (hu64_of hr) (pm_var (i := 1)) (pm_tup (pma_cons (pm_var (i := 3)) (pma_cons (pm_var (i := 4)) (pma_nil)))) (pm_glob T.g_ZERO (by rfl))) (pma_cons (pm_var (i := 2)) (pma_nil)))) (pmg_subN (hu64_of hr) (pm_var (i := 1)) (pm_tup (pma_cons (pm_var (i := 3)) (pma_cons (pm_var (i := 4)) (pma_nil))))))))
    (pms_one (pms_ret (pm_callTy c_tup T.n_tuple (by decide +kernel) (pma_cons (pm_borrow (pm_frz (pml_lc (own := [("key", 5)]) sc_alternatives_of.nd (pmi_keysN (pm_var (i := 1))) (blkOk_by (own := [("key", 5)]) (N := N_alternatives_of) (sc := defScope s_alternatives_of) (by decide +kernel)) (fun _ _ _ _ _ => pmg_name sc_alternatives_of.nd (i := 5)) (fun _ _ _ _ _ => pmts_no) (fun _ _ _ _ _ => pm_op o_add (pm_tup (pma_cons (pm_ixF (hu64_of hr) (pm_var (i := 1)) (pm_var (i := 5))) (pma_nil))) (pm_var (i := 5)))))) (pma_nil))))))
theorem ok_alternatives (T : Txt K mg) {f : Addr} {fd : FuncData} (F0 : Fun K "alternatives" "alternatives" s_alternatives f fd) (hb : Binds K fd ["program"] []) (hm : mg "alternatives" = some (.ref f)) (G_alternatives_of : FnM P w K mg base 5 "alternatives_of" 1 (F_alternatives_of w)) : FnM P w K mg base 6 "alternatives" 1 (F_alternatives w) :=
  fn_mk (k := 5) F0 sc_alternatives hb hm fun cdv A outer s H E hr =>
    pms_one (pms_ret (pm_callTy c_tup T.n_tuple (by decide +kernel) (pma_cons (pm_frz (pml_lc (own := [("name", 1), ("body", 2)]) sc_alternatives.nd (pmi_seq (pm_var (i := 0))) (blkOk_by (own := [("name", 1), ("body", 2)]) (N := N_alternatives) (sc := defScope s_alternatives) (by decide +kernel)) (fun _ _ _ _ _ => pmg_tup rfl (pmgs_cons (pmg_name sc_alternatives.nd (i := 1)) (pmgs_cons (pmg_name sc_alternatives.nd (i := 2)) (pmgs_nil)))) (fun _ _ _ _ _ => pmts_no) (fun _ _ _ _ _ => pm_tup (pma_cons (pm_var (i := 1)) (pma_cons (pm_call (G_alternatives_of).pure (hr.mono (by decide)) (pma_cons (pm_var (i := 2)) (pma_nil))) (pma_nil)))))) (pma_nil))))
theorem ok_called_by (T : Txt K mg) {f : Addr} {fd : FuncData} (F0 : Fun K "called_by" "called_by" s_called_by f fd) (hb : Binds K fd ["program"] []) (hm : mg "called_by" = some (.ref f)) (G_alternatives : FnM P w K mg base 6 "alternatives" 1 (F_alternatives w)) : FnM P w K mg base 7 "called_by" 1 (F_called_by w) :=
  fn_mk (k := 6) F0 sc_called_by hb hm fun cdv A outer s H E hr =>
    pms_cons (pms_set (i := 1) sc_called_by.nd (pm_dic0))
    (pms_cons (pms_for PassesOwn.never (pmi_seq (pm_call (G_alternatives).pure (hr.mono (by decide)) (pma_cons (pm_var (i := 0)) (pma_nil)))) (pmg_tup rfl (pmgs_cons (pmg_name sc_called_by.nd (i := 2)) (pmgs_cons (pmg_name sc_called_by.nd (i := 3)) (pmgs_nil))))
      (pms_one (pms_asg (pm_frz (pml_lc2 (own := [("chance", 9), ("calls", 10), ("letters", 11), ("called", 12)]) (vs1 := [12]) sc_called_by.nd (pmi_seq (pm_var (i := 3))) (blkOk_by (own := [("chance", 9), ("calls", 10), ("letters", 11), ("called", 12)]) (N := N_called_by) (sc := defScope s_called_by) (by decide +kernel)) (by decide) (fun _ _ _ _ _ => pmg_more (pmg_tup rfl (pmgs_cons (pmg_name sc_called_by.nd (i := 9)) (pmgs_cons (pmg_name sc_called_by.nd (i := 10)) (pmgs_cons (pmg_name sc_called_by.nd (i := 11)) (pmgs_nil))))) (by decide)) (fun _ _ _ _ _ => pmts_no) (fun _ _ _ _ _ => pmi_seq (pm_var (i := 10))) (fun _ _ _ _ _ => pmg_name sc_called_by.nd (i := 12)) (fun _ _ _ _ _ => pmts_no) (fun _ _ _ _ _ => pm_var (i := 12)))) (pmg_sub (hu_of hr) (pm_var (i := 1)) (pm_var (i := 2))))))
    (pms_cons (pms_set (i := 4) sc_called_by.nd (pm_mut (pml_lst (pma_nil))))
    (pms_cons (pms_for PassesOwn.never (pmi_seq (pm_var (i := 0))) (pmg_tup rfl (pmgs_cons (pmg_name sc_called_by.nd (i := 2)) (pmgs_cons (pmg_name sc_called_by.nd (i := 5)) (pmgs_nil))))
      (pms_cons (pms_set (i := 6) sc_called_by.nd (pm_dic0))
      (pms_cons (pms_set (i := 7) sc_called_by.nd (pm_mut (pml_callTy c_list T.n_list (by decide +kernel) (pma_cons (pm_ix (hu_of hr) (pm_var (i := 1)) (pm_var (i := 2))) (pma_nil)))))
      (pms_cons (pms_while PassesOwn.never (pmt_tr (pm_var (i := 7)))
        (pms_cons (pms_set (i := 8) sc_called_by.nd (pm_mt0 PySem.F.slot_list_pop PySem.F.type_list_pop m_pop (pm_var (i := 7))))
        (pms_one (pms_if (pmt_cmp (o_notin (hu_of hr)) (pm_var (i := 8)) (pm_var (i := 6)))
          (pms_cons (pms_asg (pm_bl) (pmg_sub (hu_of hr) (pm_var (i := 6)) (pm_var (i := 8))))
          (pms_one (pms_drop (pm_mt PySem.F.slot_list_extend PySem.F.type_list_extend m_ext (pm_var (i := 7)) (pma_cons (pm_ix (hu_of hr) (pm_var (i := 1)) (pm_var (i := 8))) (pma_nil))))))
          (pms_nil)))))
      (pms_one (pms_drop (pm_mt PySem.F.slot_list_append PySem.F.type_list_append m_app (pm_var (i := 4)) (pma_cons (pm_tup (pma_cons (pm_var (i := 2)) (pma_cons (pm_callTy c_tup T.n_tuple (by decide +kernel) (pma_cons (pm_frz (pml_lc (own := [("other", 13), ("body", 5)]) sc_called_by.nd (pmi_seq (pm_var (i := 0))) (blkOk_by (own := [("other", 13), ("body", 5)]) (N := N_called_by) (sc := defScope s_called_by) (by decide +kernel)) (fun _ _ _ _ _ => pmg_tup rfl (pmgs_cons (pmg_name sc_called_by.nd (i := 13)) (pmgs_cons (pmg_name sc_called_by.nd (i := 5)) (pmgs_nil)))) (fun _ _ _ _ _ => pmts_one (pmt_cmp (o_in (hu_of hr)) (pm_var (i := 13)) (pm_var (i := 6)))) (fun _ _ _ _ _ => pm_var (i := 13)))) (pma_nil))) (pma_nil)))) (pma_nil)))))))))
    (pms_one (pms_ret (pm_callTy c_tup T.n_tuple (by decide +kernel) (pma_cons (pm_var (i := 4)) (pma_nil))))))))
theorem ok__law_start (T : Txt K mg) {f : Addr} {fd : FuncData} (F0 : Fun K "_law_start" "_law_start" s__law_start f fd) (hb : Binds K fd ["script"] []) (hm : mg "_law_start" = some (.ref f)) : FnM P w K mg base 1 "_law_start" 1 (F__law_start) :=
  fn_mkL (k := 0) F0 sc__law_start hb hm fun cdv A outer s H E hr =>
    pms_one (pms_ret (pm_mut (pml_lst (pma_cons (pm_frz (pml_lc (own := [("cell", 1)]) sc__law_start.nd (pmi_seq (pm_sl (pm_var (i := 0)) (pmo_none) (pmo_some (pm_int)))) (blkOk_by (own := [("cell", 1)]) (N := N__law_start) (sc := defScope s__law_start) (by decide +kernel)) (fun _ _ _ _ _ => pmg_name sc__law_start.nd (i := 1)) (fun _ _ _ _ _ => pmts_no) (fun _ _ _ _ _ => pm_callTy c_int T.n_int (by decide +kernel) (pma_cons (pm_var (i := 1)) (pma_nil))))) (pma_cons (pm_int) (pma_cons (pm_int) (pma_cons (pm_int) (pma_cons (pm_int) (pma_nil)))))))))
theorem ok__law_fill (T : Txt K mg) {f : Addr} {fd : FuncData} (F0 : Fun K "_law_fill" "_law_fill" s__law_fill f fd) (hb : Binds K fd ["c"] []) (hm : mg "_law_fill" = some (.ref f)) : FnM P w K mg base 1 "_law_fill" 1 (F__law_fill) :=
  fn_mk (k := 0) F0 sc__law_fill hb hm fun cdv A outer s H E hr =>
    pms_cons (pms_asg (pm_op o_add (pm_ix (hu_of hr) (pm_var (i := 0)) (pm_int)) (pm_int)) (pmg_sub (hu_of hr) (pm_var (i := 0)) (pm_int)))
    (pms_cons (pms_set (i := 1) sc__law_fill.nd (pm_op o_add (pm_op o_mul (pm_ix (hu_of hr) (pm_var (i := 0)) (pm_int)) (pm_int)) (pm_int)))
    (pms_cons (pms_if (pmt_cmp o_lt (pm_ix (hu_of hr) (pm_var (i := 0)) (pm_int)) (pm_callB c_len T.n_len (by decide +kernel) (pma_cons (pm_ix (hu_of hr) (pm_var (i := 0)) (pm_int)) (pma_nil))))
      (pms_cons (pms_set (i := 1) sc__law_fill.nd (pm_ix (hu_of hr) (pm_ix (hu_of hr) (pm_var (i := 0)) (pm_int)) (pm_ix (hu_of hr) (pm_var (i := 0)) (pm_int))))
      (pms_cons (pms_asg (pm_op o_add (pm_ix (hu_of hr) (pm_var (i := 0)) (pm_int)) (pm_int)) (pmg_sub (hu_of hr) (pm_var (i := 0)) (pm_int)))
      (pms_cons (pms_if (pmt_cmp o_lt (pm_var (i := 1)) (pm_int))
        (pms_one (pms_set (i := 1) sc__law_fill.nd (pm_op o_sub (pm_op o_sub (pm_int) (pm_int)) (pm_var (i := 1)))))
        (pms_nil))
      (pms_one (pms_if (pmt_cmp o_ge (pm_var (i := 1)) (pm_op o_pow (pm_int) (pm_int)))
        (pms_one (pms_ret (pm_var (i := 1))))
        (pms_nil))))))
      (pms_nil))
    (pms_cons (pms_if (pmt_w (pmw_and (pmt_tr (pm_ix (hu_of hr) (pm_var (i := 0)) (pm_int))) (pmw_and1 (pmt_cmp o_ge (pm_ix (hu_of hr) (pm_var (i := 0)) (pm_int)) (pm_callB c_len T.n_len (by decide +kernel) (pma_cons (pm_ix (hu_of hr) (pm_var (i := 0)) (pm_int)) (pma_nil)))))))
      (pms_one (pms_set (i := 1) sc__law_fill.nd (pm_op o_add (pm_var (i := 1)) (pm_op o_mod (pm_callTy c_int T.n_int (by decide +kernel) (pma_cons (pm_ix (hu_of hr) (pm_ix (hu_of hr) (pm_var (i := 0)) (pm_int)) (pm_neg (pm_int))) (pma_nil))) (pm_int)))))
      (pms_nil))
    (pms_cons (pms_set (i := 1) sc__law_fill.nd (pm_op o_mod (pm_callTy c_int T.n_int (by decide +kernel) (pma_cons (pm_op o_add (pm_op o_mul (pm_var (i := 1)) (pm_int)) (pm_op o_mul (pm_ix (hu_of hr) (pm_var (i := 0)) (pm_int)) (pm_int))) (pma_nil))) (pm_int)))
    (pms_one (pms_ret (pm_op o_add (pm_op o_div (pm_callTy c_int T.n_int (by decide +kernel) (pma_cons (pm_op o_add (pm_op o_add (pm_op o_mul (pm_var (i := 1)) (pm_var (i := 1))) (pm_op o_mul (pm_ix (hu_of hr) (pm_var (i := 0)) (pm_int)) (pm_int))) (pm_int)) (pma_nil))) (pm_int)) (pm_int))))))))
theorem ok__law_take (T : Txt K mg) {f : Addr} {fd : FuncData} (F0 : Fun K "_law_take" "_law_take" s__law_take f fd) (hb : Binds K fd ["c", "many"] []) (hm : mg "_law_take" = some (.ref f)) (G__law_fill : FnM P w K mg base 1 "_law_fill" 1 F__law_fill) : FnM P w K mg base 2 "_law_take" 2 (F__law_take) :=
  fn_mk (k := 1) F0 sc__law_take hb hm fun cdv A outer s H E hr =>
    pms_cons (pms_if (pmt_cmp o_lt (pm_ix (hu_of hr) (pm_var (i := 0)) (pm_int)) (pm_var (i := 1)))
      (pms_one (pms_asg (pm_call G__law_fill (hr.mono (by decide)) (pma_cons (pm_var (i := 0)) (pma_nil))) (pmg_sub (hu_of hr) (pm_var (i := 0)) (pm_int))))
      (pms_nil))
    (pms_cons (pms_set (i := 2) sc__law_take.nd (pm_op o_mod (pm_callTy c_int T.n_int (by decide +kernel) (pma_cons (pm_ix (hu_of hr) (pm_var (i := 0)) (pm_int)) (pma_nil))) (pm_var (i := 1))))
    (pms_cons (pms_asg (pm_op o_div (pm_ix (hu_of hr) (pm_var (i := 0)) (pm_int)) (pm_var (i := 1))) (pmg_sub (hu_of hr) (pm_var (i := 0)) (pm_int)))
    (pms_one (pms_ret (pm_var (i := 2))))))
theorem ok__law_divisor (T : Txt K mg) {f : Addr} {fd : FuncData} (F0 : Fun K "_law_divisor" "_law_divisor" s__law_divisor f fd) (hb : Binds K fd ["a", "b"] []) (hm : mg "_law_divisor" = some (.ref f)) : FnM P w K mg base 1 "_law_divisor" 2 (F__law_divisor) :=
  fn_mk (k := 0) F0 sc__law_divisor hb hm fun cdv A outer s H E hr =>
    pms_cons (pms_for PassesOwn.never (pmi_r1 T.n_range (pma_cons (pm_int) (pma_nil))) (pmg_name sc__law_divisor.nd (i := 2))
      (pms_cons (pms_if (pmt_cmp (o_eq hr.units) (pm_var (i := 1)) (pm_int))
        (pms_one (pms_ret (pm_callB c_abs T.n_abs (by decide +kernel) (pma_cons (pm_var (i := 0)) (pma_nil)))))
        (pms_nil))
      (pms_one (pms_par (i := 0) (j := 1) sc__law_divisor.nd (pma_cons (pm_var (i := 1)) (pma_cons (pm_op o_mod (pm_var (i := 0)) (pm_var (i := 1))) pma_nil))))))
    (pms_one (pms_ret (pm_int)))
theorem ok__law_fraction (T : Txt K mg) {f : Addr} {fd : FuncData} (F0 : Fun K "_law_fraction" "_law_fraction" s__law_fraction f fd) (hb : Binds K fd ["n", "d"] []) (hm : mg "_law_fraction" = some (.ref f)) (G__law_divisor : FnM P w K mg base 1 "_law_divisor" 2 F__law_divisor) : FnM P w K mg base 2 "_law_fraction" 2 (F__law_fraction) :=
  fn_mk (k := 1) F0 sc__law_fraction hb hm fun cdv A outer s H E hr =>
    pms_cons (pms_set (i := 2) sc__law_fraction.nd (pm_call G__law_divisor (hr.mono (by decide)) (pma_cons (pm_var (i := 0)) (pma_cons (pm_var (i := 1)) (pma_nil)))))
    (pms_cons (pms_set (i := 2) sc__law_fraction.nd (pm_ife (pmt_cmp o_gt (pm_var (i := 1)) (pm_int)) (pm_var (i := 2)) (pm_op o_sub (pm_int) (pm_var (i := 2)))))
    (pms_one (pms_ret (pm_tup (pma_cons (pm_op o_div (pm_var (i := 0)) (pm_var (i := 2))) (pma_cons (pm_op o_div (pm_var (i := 1)) (pm_var (i := 2))) (pma_nil)))))))
theorem ok__law_plus (T : Txt K mg) {f : Addr} {fd : FuncData} (F0 : Fun K "_law_plus" "_law_plus" s__law_plus f fd) (hb : Binds K fd ["a", "b"] []) (hm : mg "_law_plus" = some (.ref f)) (G__law_fraction : FnM P w K mg base 2 "_law_fraction" 2 F__law_fraction) : FnM P w K mg base 3 "_law_plus" 2 (F__law_plus) :=
  fn_mk (k := 2) F0 sc__law_plus hb hm fun cdv A outer s H E hr =>
    pms_one (pms_ret (pm_call G__law_fraction (hr.mono (by decide)) (pma_cons (pm_op o_add (pm_op o_mul (pm_ix (hu_of hr) (pm_var (i := 0)) (pm_int)) (pm_ix (hu_of hr) (pm_var (i := 1)) (pm_int))) (pm_op o_mul (pm_ix (hu_of hr) (pm_var (i := 1)) (pm_int)) (pm_ix (hu_of hr) (pm_var (i := 0)) (pm_int)))) (pma_cons (pm_op o_mul (pm_ix (hu_of hr) (pm_var (i := 0)) (pm_int)) (pm_ix (hu_of hr) (pm_var (i := 1)) (pm_int))) (pma_nil)))))
theorem ok__law_times (T : Txt K mg) {f : Addr} {fd : FuncData} (F0 : Fun K "_law_times" "_law_times" s__law_times f fd) (hb : Binds K fd ["a", "b"] []) (hm : mg "_law_times" = some (.ref f)) (G__law_fraction : FnM P w K mg base 2 "_law_fraction" 2 F__law_fraction) : FnM P w K mg base 3 "_law_times" 2 (F__law_times) :=
  fn_mk (k := 2) F0 sc__law_times hb hm fun cdv A outer s H E hr =>
    pms_one (pms_ret (pm_call G__law_fraction (hr.mono (by decide)) (pma_cons (pm_op o_mul (pm_ix (hu_of hr) (pm_var (i := 0)) (pm_int)) (pm_ix (hu_of hr) (pm_var (i := 1)) (pm_int))) (pma_cons (pm_op o_mul (pm_ix (hu_of hr) (pm_var (i := 0)) (pm_int)) (pm_ix (hu_of hr) (pm_var (i := 1)) (pm_int))) (pma_nil)))))
theorem ok__law_cut (T : Txt K mg) {f : Addr} {fd : FuncData} (F0 : Fun K "_law_cut" "_law_cut" s__law_cut f fd) (hb : Binds K fd ["c"] []) (hm : mg "_law_cut" = some (.ref f)) (G__law_take : FnM P w K mg base 2 "_law_take" 2 F__law_take) (G__law_fraction : FnM P w K mg base 2 "_law_fraction" 2 F__law_fraction) (G__law_plus : FnM P w K mg base 3 "_law_plus" 2 F__law_plus) (G__law_times : FnM P w K mg base 3 "_law_times" 2 F__law_times) : FnM P w K mg base 4 "_law_cut" 1 (F__law_cut) :=
  fn_mk (k := 3) F0 sc__law_cut hb hm fun cdv A outer s H E hr =>
    pms_cons (pms_set (i := 1) sc__law_cut.nd (pm_frz (pml_lst (pma_cons (pm_tup (pma_cons (pm_int) (pma_cons (pm_int) (pma_nil)))) (pma_cons (pm_tup (pma_cons (pm_int) (pma_cons (pm_int) (pma_nil)))) (pma_cons (pm_tup (pma_cons (pm_int) (pma_cons (pm_int) (pma_nil)))) (pma_cons (pm_tup (pma_cons (pm_int) (pma_cons (pm_int) (pma_nil)))) (pma_cons (pm_tup (pma_cons (pm_int) (pma_cons (pm_int) (pma_nil)))) (pma_cons (pm_tup (pma_cons (pm_int) (pma_cons (pm_int) (pma_nil)))) (pma_cons (pm_tup (pma_cons (pm_int) (pma_cons (pm_int) (pma_nil)))) (pma_cons (pm_tup (pma_cons (pm_int) (pma_cons (pm_int) (pma_nil)))) (pma_cons (pm_tup (pma_cons (pm_int) (pma_cons (pm_int) (pma_nil)))) (pma_nil)))))))))))))
    (pms_cons (pms_asg (pm_ix (hu_of hr) (pm_var (i := 1)) (pm_call G__law_take (hr.mono (by decide)) (pma_cons (pm_var (i := 0)) (pma_cons (pm_int) (pma_nil))))) (pmg_tup rfl (pmgs_cons (pmg_name sc__law_cut.nd (i := 2)) (pmgs_cons (pmg_name sc__law_cut.nd (i := 3)) (pmgs_nil)))))
    (pms_cons (pms_if (pmt_cmp (o_eq hr.units) (pm_var (i := 3)) (pm_int))
      (pms_one (pms_ret (pm_frz (pml_lst (pma_cons (pm_tup (pma_cons (pm_int) (pma_cons (pm_int) (pma_nil)))) (pma_nil))))))
      (pms_nil))
    (pms_cons (pms_set (i := 4) sc__law_cut.nd (pm_mut (pml_lst (pma_cons (pm_tup (pma_cons (pm_var (i := 2)) (pma_cons (pm_var (i := 3)) (pma_nil)))) (pma_nil)))))
    (pms_cons (pms_set (i := 5) sc__law_cut.nd (pm_call G__law_fraction (hr.mono (by decide)) (pma_cons (pm_op o_sub (pm_var (i := 3)) (pm_var (i := 2))) (pma_cons (pm_var (i := 3)) (pma_nil)))))
    (pms_cons (pms_if (pmt_cmp (o_eq hr.units) (pm_call G__law_take (hr.mono (by decide)) (pma_cons (pm_var (i := 0)) (pma_cons (pm_int) (pma_nil)))) (pm_int))
      (pms_cons (pms_asg (pm_ix (hu_of hr) (pm_var (i := 1)) (pm_op o_add (pm_int) (pm_call G__law_take (hr.mono (by decide)) (pma_cons (pm_var (i := 0)) (pma_cons (pm_int) (pma_nil)))))) (pmg_tup rfl (pmgs_cons (pmg_name sc__law_cut.nd (i := 2)) (pmgs_cons (pmg_name sc__law_cut.nd (i := 3)) (pmgs_nil)))))
      (pms_cons (pms_set (i := 6) sc__law_cut.nd (pm_call G__law_times (hr.mono (by decide)) (pma_cons (pm_var (i := 5)) (pma_cons (pm_tup (pma_cons (pm_var (i := 2)) (pma_cons (pm_var (i := 3)) (pma_nil)))) (pma_nil)))))
      (pms_cons (pms_drop (pm_mt PySem.F.slot_list_append PySem.F.type_list_append m_app (pm_var (i := 4)) (pma_cons (pm_var (i := 6)) (pma_nil))))
      (pms_one (pms_set (i := 5) sc__law_cut.nd (pm_call G__law_plus (hr.mono (by decide)) (pma_cons (pm_var (i := 5)) (pma_cons (pm_tup (pma_cons (pm_op o_sub (pm_int) (pm_ix (hu_of hr) (pm_var (i := 6)) (pm_int))) (pma_cons (pm_ix (hu_of hr) (pm_var (i := 6)) (pm_int)) (pma_nil)))) (pma_nil)))))))))
      (pms_nil))
    (pms_one (pms_ret (pm_op o_add (pm_var (i := 4)) (pm_frz (pml_lst (pma_cons (pm_var (i := 5)) (pma_nil))))))))))))
theorem ok__law_body (T : Txt K mg) {f : Addr} {fd : FuncData} (F0 : Fun K "_law_body" "_law_body" s__law_body f fd) (hb : Binds K fd ["c", "names", "letters", "deep"] []) (hm : mg "_law_body" = some (.ref f)) (G__law_take : FnM P w K mg base 2 "_law_take" 2 F__law_take) (G__law_cut : FnM P w K mg base 4 "_law_cut" 1 F__law_cut) : ∀ n : Nat, FnM P w K mg base (4 + n) "_law_body" 4 (F__law_body n)
  | 0 => fn_none F0 hb hm
  | n + 1 => by
    have ih := ok__law_body T F0 hb hm G__law_take G__law_cut n
    exact (fn_mk (k := 4 + n) F0 sc__law_body hb hm fun cdv A outer s H E hr =>
      pms_cons (pms_set (i := 4) sc__law_body.nd (pm_call G__law_take (hr.mono (by omega)) (pma_cons (pm_var (i := 0)) (pma_cons (pm_int) (pma_nil)))))
    (pms_cons (pms_if (pmt_w (pmw_or (pmt_cmp o_lt (pm_var (i := 3)) (pm_int)) (pmw_or1 (pmt_cmp (o_eq hr.units) (pm_var (i := 4)) (pm_int)))))
      (pms_one (pms_ret (pm_ix (hu_of hr) (pm_frz (pml_lst (pma_cons (pm_tup (pma_cons (pm_str) (pma_nil))) (pma_cons (pm_tup (pma_cons (pm_str) (pma_nil))) (pma_cons (pm_tup (pma_cons (pm_str) (pma_nil))) (pma_cons (pm_tup (pma_cons (pm_str) (pma_nil))) (pma_cons (pm_tup (pma_cons (pm_str) (pma_nil))) (pma_nil)))))))) (pm_call G__law_take (hr.mono (by omega)) (pma_cons (pm_var (i := 0)) (pma_cons (pm_int) (pma_nil)))))))
      (pms_nil))
    (pms_cons (pms_if (pmt_w (pmw_and (pmt_cmp o_lt (pm_var (i := 4)) (pm_int)) (pmw_and1 (pmt_tr (pm_var (i := 2))))))
      (pms_one (pms_ret (pm_tup (pma_cons (pm_str) (pma_cons (pm_ix (hu_of hr) (pm_var (i := 2)) (pm_call G__law_take (hr.mono (by omega)) (pma_cons (pm_var (i := 0)) (pma_cons (pm_callB c_len T.n_len (by decide +kernel) (pma_cons (pm_var (i := 2)) (pma_nil))) (pma_nil))))) (pma_cons (pm_call ih (hr.mono (by omega)) (pma_cons (pm_var (i := 0)) (pma_cons (pm_var (i := 1)) (pma_cons (pm_var (i := 2)) (pma_cons (pm_op o_sub (pm_var (i := 3)) (pm_int)) (pma_nil)))))) (pma_nil)))))))
      (pms_nil))
    (pms_cons (pms_if (pmt_cmp o_lt (pm_var (i := 4)) (pm_int))
      (pms_one (pms_ret (pm_tup (pma_cons (pm_str) (pma_cons (pm_ix (hu_of hr) (pm_var (i := 1)) (pm_call G__law_take (hr.mono (by omega)) (pma_cons (pm_var (i := 0)) (pma_cons (pm_callB c_len T.n_len (by decide +kernel) (pma_cons (pm_var (i := 1)) (pma_nil))) (pma_nil))))) (pma_cons (pm_call ih (hr.mono (by omega)) (pma_cons (pm_var (i := 0)) (pma_cons (pm_var (i := 1)) (pma_cons (pm_var (i := 2)) (pma_cons (pm_op o_sub (pm_var (i := 3)) (pm_int)) (pma_nil)))))) (pma_nil)))))))
      (pms_nil))
    (pms_one (pms_ret (pm_tup (pma_cons (pm_str) (pma_cons (pm_callTy c_tup T.n_tuple (by decide +kernel) (pma_cons (pm_frz (pml_lc (own := [("one", 5)]) sc__law_body.nd (pmi_seq (pm_call G__law_cut (hr.mono (by omega)) (pma_cons (pm_var (i := 0)) (pma_nil)))) (blkOk_by (own := [("one", 5)]) (N := N__law_body) (sc := defScope s__law_body) (by decide +kernel)) (fun _ _ _ _ _ => pmg_name sc__law_body.nd (i := 5)) (fun _ _ _ _ _ => pmts_no) (fun _ _ _ _ _ => pm_tup (pma_cons (pm_var (i := 5)) (pma_cons (pm_call ih (hr.mono (by omega)) (pma_cons (pm_var (i := 0)) (pma_cons (pm_var (i := 1)) (pma_cons (pm_var (i := 2)) (pma_cons (pm_op o_sub (pm_var (i := 3)) (pm_int)) (pma_nil)))))) (pma_nil)))))) (pma_nil))) (pma_nil))))))))))
theorem ok__law_program (T : Txt K mg) {f : Addr} {fd : FuncData} (F0 : Fun K "_law_program" "_law_program" s__law_program f fd) (hb : Binds K fd ["c"] []) (hm : mg "_law_program" = some (.ref f)) (G__law_take : FnM P w K mg base 2 "_law_take" 2 F__law_take) (G__law_body : FnM P w K mg base 12 "_law_body" 4 (F__law_body 8)) : FnM P w K mg base 13 "_law_program" 1 (F__law_program) :=
  fn_mk (k := 12) F0 sc__law_program hb hm fun cdv A outer s H E hr =>
    pms_cons (pms_set (i := 1) sc__law_program.nd (pm_sl (pm_frz (pml_lst (pma_cons (pm_str) (pma_cons (pm_str) (pma_cons (pm_str) (pma_cons (pm_str) (pma_nil))))))) (pmo_none) (pmo_some (pm_op o_add (pm_int) (pm_call G__law_take (hr.mono (by decide)) (pma_cons (pm_var (i := 0)) (pma_cons (pm_int) (pma_nil))))))))
    (pms_cons (pms_set (i := 2) sc__law_program.nd (pm_call G__law_take (hr.mono (by decide)) (pma_cons (pm_var (i := 0)) (pma_cons (pm_callB c_len T.n_len (by decide +kernel) (pma_cons (pm_var (i := 1)) (pma_nil))) (pma_nil)))))
    (pms_cons (pms_set (i := 1) sc__law_program.nd (pm_op o_add (pm_sl (pm_var (i := 1)) (pmo_some (pm_var (i := 2))) (pmo_none)) (pm_sl (pm_var (i := 1)) (pmo_none) (pmo_some (pm_var (i := 2))))))
    (pms_cons (pms_set (i := 3) sc__law_program.nd (pm_sl (pm_frz (pml_lst (pma_cons (pm_str) (pma_cons (pm_str) (pma_cons (pm_str) (pma_nil)))))) (pmo_none) (pmo_some (pm_call G__law_take (hr.mono (by decide)) (pma_cons (pm_var (i := 0)) (pma_cons (pm_int) (pma_nil)))))))
    (pms_one (pms_ret (pm_callTy c_tup T.n_tuple (by decide +kernel) (pma_cons (pm_frz (pml_lc (own := [("name", 4)]) sc__law_program.nd (pmi_seq (pm_var (i := 1))) (blkOk_by (own := [("name", 4)]) (N := N__law_program) (sc := defScope s__law_program) (by decide +kernel)) (fun _ _ _ _ _ => pmg_name sc__law_program.nd (i := 4)) (fun _ _ _ _ _ => pmts_no) (fun _ _ _ _ _ => pm_tup (pma_cons (pm_var (i := 4)) (pma_cons (pm_call G__law_body (hr.mono (by decide)) (pma_cons (pm_var (i := 0)) (pma_cons (pm_var (i := 1)) (pma_cons (pm_var (i := 3)) (pma_cons (pm_op o_add (pm_int) (pm_call G__law_take (hr.mono (by decide)) (pma_cons (pm_var (i := 0)) (pma_cons (pm_int) (pma_nil))))) (pma_nil)))))) (pma_nil)))))) (pma_nil))))))))
theorem ok__law_alike (T : Txt K mg) {f : Addr} {fd : FuncData} (F0 : Fun K "_law_alike" "_law_alike" s__law_alike f fd) (hb : Binds K fd ["value", "due"] []) (hm : mg "_law_alike" = some (.ref f)) : ∀ n : Nat, FnM P w K mg base (0 + n) "_law_alike" 2 (F__law_alike n)
  | 0 => fn_none F0 hb hm
  | n + 1 => by
    have ih := ok__law_alike T F0 hb hm n
    exact (fn_mk (k := 0 + n) F0 sc__law_alike hb hm fun cdv A outer s H E hr =>
      pms_cons (pms_if (pmt_tr (pm_isi T.n_isinstance (pm_var (i := 1)) (pe_ty (T := "tuple") T.n_tuple (by decide +kernel))))
      (pms_one (pms_ret (pm_and (pm_isi T.n_isinstance (pm_var (i := 0)) (pe_ty (T := "tuple") T.n_tuple (by decide +kernel))) (pm_and (pm_cmp (o_eq hr.units) (pm_callB c_len T.n_len (by decide +kernel) (pma_cons (pm_var (i := 0)) (pma_nil))) (pm_callB c_len T.n_len (by decide +kernel) (pma_cons (pm_var (i := 1)) (pma_nil)))) (pm_one (pm_callB (c_all rfl) T.n_all (by decide +kernel) (pma_cons (pm_frz (pml_lc (own := [("k", 2)]) sc__law_alike.nd (pmi_r1 T.n_range (pma_cons (pm_callB c_len T.n_len (by decide +kernel) (pma_cons (pm_var (i := 1)) (pma_nil))) (pma_nil))) (blkOk_by (own := [("k", 2)]) (N := N__law_alike) (sc := defScope s__law_alike) (by decide +kernel)) (fun _ _ _ _ _ => pmg_name sc__law_alike.nd (i := 2)) (fun _ _ _ _ _ => pmts_no) (fun _ _ _ _ _ => pm_call ih (hr.mono (by omega)) (pma_cons (pm_ix (hu_of hr) (pm_var (i := 0)) (pm_var (i := 2))) (pma_cons (pm_ix (hu_of hr) (pm_var (i := 1)) (pm_var (i := 2))) (pma_nil)))))) (pma_nil))))))))
      (pms_nil))
    (pms_cons (pms_if (pmt_w (pmw_or (pmt_tr (pm_isi T.n_isinstance (pm_var (i := 0)) (pe_ty (T := "bool") T.n_bool (by decide +kernel)))) (pmw_or1 (pmt_cmp (o_ne hr.units) (pm_isi T.n_isinstance (pm_var (i := 0)) (pe_ty (T := "str") T.n_str (by decide +kernel))) (pm_isi T.n_isinstance (pm_var (i := 1)) (pe_ty (T := "str") T.n_str (by decide +kernel)))))))
      (pms_one (pms_ret (pm_bl)))
      (pms_nil))
    (pms_one (pms_ret (pm_and (pm_isi2 T.n_isinstance (pm_var (i := 0)) (pe_ty (T := "int") T.n_int (by decide +kernel)) (pe_ty (T := "str") T.n_str (by decide +kernel))) (pm_one (pm_cmp (o_eq hr.units) (pm_var (i := 0)) (pm_var (i := 1)))))))))
theorem ok__law_ways (T : Txt K mg) {f : Addr} {fd : FuncData} (F0 : Fun K "_law_ways" "_law_ways" s__law_ways f fd) (hb : Binds K fd ["body", "chance", "calls", "letters", "found"] []) (hm : mg "_law_ways" = some (.ref f)) (G__law_times : FnM P w K mg base 3 "_law_times" 2 F__law_times) : ∀ n : Nat, FnM P w K mg base (3 + n) "_law_ways" 5 (F__law_ways n)
  | 0 => fn_none F0 hb hm
  | n + 1 => by
    have ih := ok__law_ways T F0 hb hm G__law_times n
    exact (fn_mk (k := 3 + n) F0 sc__law_ways hb hm fun cdv A outer s H E hr =>
      pms_one (pms_if (pmt_cmp (o_eq hr.units) (pm_ix (hu_of hr) (pm_var (i := 0)) (pm_int)) (pm_str))
      (pms_one (pms_drop (pm_mt PySem.F.slot_list_append PySem.F.type_list_append m_app (pm_var (i := 4)) (pma_cons (pm_tup (pma_cons (pm_var (i := 1)) (pma_cons (pm_var (i := 2)) (pma_cons (pm_var (i := 3)) (pma_nil))))) (pma_nil)))))
      (pms_one (pms_if (pmt_cmp (o_eq hr.units) (pm_ix (hu_of hr) (pm_var (i := 0)) (pm_int)) (pm_str))
        (pms_one (pms_drop (pm_call ih (hr.mono (by omega)) (pma_cons (pm_ix (hu_of hr) (pm_var (i := 0)) (pm_int)) (pma_cons (pm_var (i := 1)) (pma_cons (pm_var (i := 2)) (pma_cons (pm_op o_add (pm_var (i := 3)) (pm_tup (pma_cons (pm_ix (hu_of hr) (pm_var (i := 0)) (pm_int)) (pma_nil)))) (pma_cons (pm_var (i := 4)) (pma_nil)))))))))
        (pms_one (pms_if (pmt_cmp (o_eq hr.units) (pm_ix (hu_of hr) (pm_var (i := 0)) (pm_int)) (pm_str))
          (pms_one (pms_drop (pm_call ih (hr.mono (by omega)) (pma_cons (pm_ix (hu_of hr) (pm_var (i := 0)) (pm_int)) (pma_cons (pm_var (i := 1)) (pma_cons (pm_op o_add (pm_var (i := 2)) (pm_tup (pma_cons (pm_ix (hu_of hr) (pm_var (i := 0)) (pm_int)) (pma_nil)))) (pma_cons (pm_var (i := 3)) (pma_cons (pm_var (i := 4)) (pma_nil)))))))))
          (pms_one (pms_if (pmt_cmp (o_eq hr.units) (pm_ix (hu_of hr) (pm_var (i := 0)) (pm_int)) (pm_str))
            (pms_one (pms_for PassesOwn.never (pmi_seq (pm_ix (hu_of hr) (pm_var (i := 0)) (pm_int))) (pmg_tup rfl (pmgs_cons (pmg_name sc__law_ways.nd (i := 5)) (pmgs_cons (pmg_name sc__law_ways.nd (i := 6)) (pmgs_nil))))
              (pms_one (pms_drop (pm_call ih (hr.mono (by omega)) (pma_cons (pm_var (i := 6)) (pma_cons (pm_call G__law_times (hr.mono (by omega)) (pma_cons (pm_var (i := 1)) (pma_cons (pm_var (i := 5)) (pma_nil)))) (pma_cons (pm_var (i := 2)) (pma_cons (pm_var (i := 3)) (pma_cons (pm_var (i := 4)) (pma_nil)))))))))))
            (pms_nil)))))))))
theorem ok__law_alternatives (T : Txt K mg) {f : Addr} {fd : FuncData} (F0 : Fun K "_law_alternatives" "_law_alternatives" s__law_alternatives f fd) (hb : Binds K fd ["program"] []) (hm : mg "_law_alternatives" = some (.ref f)) (G__law_plus : FnM P w K mg base 3 "_law_plus" 2 F__law_plus) (G__law_ways : FnM P w K mg base 13 "_law_ways" 5 (F__law_ways 10)) : FnM P w K mg base 14 "_law_alternatives" 1 (F__law_alternatives) :=
  fn_mk (k := 13) F0 sc__law_alternatives hb hm fun cdv A outer s H E hr =>
    pms_cons (pms_set (i := 1) sc__law_alternatives.nd (pm_mut (pml_lst (pma_nil))))
    (pms_cons (pms_for PassesOwn.never (pmi_seq (pm_var (i := 0))) (pmg_tup rfl (pmgs_cons (pmg_name sc__law_alternatives.nd (i := 2)) (pmgs_cons (pmg_name sc__law_alternatives.nd (i := 3)) (pmgs_nil))))
      (pms_cons (pms_set (i := 4) sc__law_alternatives.nd (pm_mut (pml_lst (pma_nil))))
      (pms_cons (pms_drop (pm_call G__law_ways (hr.mono (by decide)) (pma_cons (pm_var (i := 3)) (pma_cons (pm_tup (pma_cons (pm_int) (pma_cons (pm_int) (pma_nil)))) (pma_cons (pm_tup (pma_nil)) (pma_cons (pm_tup (pma_nil)) (pma_cons (pm_var (i := 4)) (pma_nil))))))))
      (pms_cons (pms_set (i := 5) sc__law_alternatives.nd (pm_mut (pml_lst (pma_nil))))
      (pms_cons (pms_forP PassesOwn.never (pm_var (i := 4)) (pmg_tup rfl (pmgs_cons (pmg_name sc__law_alternatives.nd (i := 6)) (pmgs_cons (pmg_name sc__law_alternatives.nd (i := 7)) (pmgs_cons (pmg_name sc__law_alternatives.nd (i := 8)) (pmgs_nil)))))
        (pms_cons ((pms_setLc (i := 9)  (own := [("k", 10)]) sc__law_alternatives.nd (pmi_r1 T.n_range (pma_cons (pm_callB c_len T.n_len (by decide +kernel) (pma_cons (pm_var (i := 5)) (pma_nil))) (pma_nil))) (blkOk_by (own := [("k", 10)]) (N := N__law_alternatives) (sc := defScope s__law_alternatives) (by decide +kernel)) (fun _ _ _ _ _ => pmg_name sc__law_alternatives.nd (i := 10)) (fun _ _ _ _ _ => pmts_one (pmt_cmp (o_eq hr.units) (pm_sl (pm_ix (hu_of hr) (pm_var (i := 5)) (pm_var (i := 10))) (pmo_some (pm_int)) (pmo_none)) (pm_tup (pma_cons (pm_var (i := 7)) (pma_cons (pm_var (i := 8)) (pma_nil)))))) (fun _ _ _ _ _ => pm_var (i := 10))).1)
        (pms_one (pms_if (pmt_tr (pm_var (i := 9)))
          (pms_cons (pms_set (i := 10) sc__law_alternatives.nd (pm_ix (hu_of hr) (pm_var (i := 9)) (pm_int)))
          (pms_one (pms_asg (pm_tup (pma_cons (pm_call G__law_plus (hr.mono (by decide)) (pma_cons (pm_ix (hu_of hr) (pm_ix (hu_of hr) (pm_var (i := 5)) (pm_var (i := 10))) (pm_int)) (pma_cons (pm_var (i := 6)) (pma_nil)))) (pma_cons (pm_var (i := 7)) (pma_cons (pm_var (i := 8)) (pma_nil))))) (pmg_sub (hu_of hr) (pm_var (i := 5)) (pm_var (i := 10))))))
          (pms_one (pms_drop (pm_mt PySem.F.slot_list_append PySem.F.type_list_append m_app (pm_var (i := 5)) (pma_cons (pm_tup (pma_cons (pm_var (i := 6)) (pma_cons (pm_var (i := 7)) (pma_cons (pm_var (i := 8)) (pma_nil))))) (pma_nil)))))))))
      (pms_one (pms_drop (pm_mt PySem.F.slot_list_append PySem.F.type_list_append m_app (pm_var (i := 1)) (pma_cons (pm_tup (pma_cons (pm_var (i := 2)) (pma_cons (pm_callTy c_tup T.n_tuple (by decide +kernel) (pma_cons (pm_var (i := 5)) (pma_nil))) (pma_nil)))) (pma_nil))))))))))
    (pms_one (pms_ret (pm_callTy c_tup T.n_tuple (by decide +kernel) (pma_cons (pm_var (i := 1)) (pma_nil))))))
theorem ok_law (T : Txt K mg) {f : Addr} {fd : FuncData} (F0 : Fun K "law" "law" s_law f fd) (hb : Binds K fd ["script"] []) (hm : mg "law" = some (.ref f)) (G_alternatives : FnM P w K mg base 6 "alternatives" 1 (F_alternatives w)) (G_called_by : FnM P w K mg base 7 "called_by" 1 (F_called_by w)) (G__law_start : FnM P w K mg base 1 "_law_start" 1 F__law_start) (G__law_program : FnM P w K mg base 13 "_law_program" 1 F__law_program) (G__law_alike : FnM P w K mg base 10 "_law_alike" 2 (F__law_alike 10)) (G__law_alternatives : FnM P w K mg base 14 "_law_alternatives" 1 F__law_alternatives) : FnOk P w K mg base CX0 15 f fd ["script"] (spF K 1 (F_law w)) :=
  fn_law (k := 14) F0 sc_law hb hm fun cdv A outer s H E hr =>
    pms_cons (pms_set (i := 1) sc_law.nd (pm_call G__law_start (hr.mono (by decide)) (pma_cons (pm_var (i := 0)) (pma_nil))))
    (pms_cons (pms_for PassesOwn.never (pmi_r1 T.n_range (pma_cons (pm_int) (pma_nil))) (pmg_name sc_law.nd (i := 2))
      (pms_cons (pms_set (i := 3) sc_law.nd (pm_call G__law_program (hr.mono (by decide)) (pma_cons (pm_var (i := 1)) (pma_nil))))
      (pms_cons (pms_set (i := 4) sc_law.nd (pm_call (G__law_alternatives).pure (hr.mono (by decide)) (pma_cons (pm_var (i := 3)) (pma_nil))))
      (pms_cons (pms_if (pmt_not (pmt_tr (pm_call G__law_alike (hr.mono (by decide)) (pma_cons (pm_call (G_alternatives).pure (hr.mono (by decide)) (pma_cons (pm_var (i := 3)) (pma_nil))) (pma_cons (pm_var (i := 4)) (pma_nil))))))
        (pms_one (pms_ret (pm_bl)))
        (pms_nil))
      (pms_cons (pms_set (i := 5) sc_law.nd (pm_dic0))
      (pms_cons (pms_for PassesOwn.never (pmi_seq (pm_var (i := 4))) (pmg_tup rfl (pmgs_cons (pmg_name sc_law.nd (i := 6)) (pmgs_cons (pmg_name sc_law.nd (i := 7)) (pmgs_nil))))
        (pms_cons (pms_asg (pm_frz (pml_lst (pma_nil))) (pmg_sub (hu_of hr) (pm_var (i := 5)) (pm_var (i := 6))))
        (pms_one (pms_for PassesOwn.never (pmi_seq (pm_var (i := 7))) (pmg_name sc_law.nd (i := 8))
          (pms_one (pms_asg (pm_op o_add (pm_ix (hu_of hr) (pm_var (i := 5)) (pm_var (i := 6))) (pm_frz (pml_callTy c_list T.n_list (by decide +kernel) (pma_cons (pm_ix (hu_of hr) (pm_var (i := 8)) (pm_int)) (pma_nil))))) (pmg_sub (hu_of hr) (pm_var (i := 5)) (pm_var (i := 6)))))))))
      (pms_cons (pms_set (i := 9) sc_law.nd (pm_dicM T.n_dict (pma_cons (pm_borrow (pm_frz (pml_lc (own := [("name", 6)]) sc_law.nd (pmi_keysL (pm_var (i := 5))) (blkOk_by (own := [("name", 6)]) (N := N_law) (sc := defScope s_law) (by decide +kernel)) (fun _ _ _ _ _ => pmg_name sc_law.nd (i := 6)) (fun _ _ _ _ _ => pmts_no) (fun _ _ _ _ _ => pm_tup (pma_cons (pm_var (i := 6)) (pma_cons (pm_frz (pml_callTy c_list T.n_list (by decide +kernel) (pma_cons (pm_ix (hu_of hr) (pm_var (i := 5)) (pm_var (i := 6))) (pma_nil)))) (pma_nil))))))) (pma_nil))))
      (pms_cons (pms_for PassesOwn.never (pmi_r1 T.n_range (pma_cons (pm_callB c_len T.n_len (by decide +kernel) (pma_cons (pm_var (i := 3)) (pma_nil))) (pma_nil))) (pmg_name sc_law.nd (i := 10))
        (pms_one (pms_for PassesOwn.never (pmi_seq (pm_var (i := 3))) (pmg_tup rfl (pmgs_cons (pmg_name sc_law.nd (i := 6)) (pmgs_cons (pmg_name sc_law.nd (i := 11)) (pmgs_nil))))
          (pms_cons (pms_set (i := 12) sc_law.nd (pm_frz (pml_lst (pma_nil))))
          (pms_cons (pms_for PassesOwn.never (pmi_seq (pm_ix (hu_of hr) (pm_var (i := 9)) (pm_var (i := 6)))) (pmg_name sc_law.nd (i := 13))
            (pms_one (pms_set (i := 12) sc_law.nd (pm_op o_add (pm_var (i := 12)) (pm_ix (hu_of hr) (pm_var (i := 5)) (pm_var (i := 13)))))))
          (pms_one (pms_asg (pm_op o_add (pm_ix (hu_of hr) (pm_var (i := 9)) (pm_var (i := 6))) (pm_frz (pml_lc (own := [("other", 15)]) sc_law.nd (pmi_seq (pm_var (i := 12))) (blkOk_by (own := [("other", 15)]) (N := N_law) (sc := defScope s_law) (by decide +kernel)) (fun _ _ _ _ _ => pmg_name sc_law.nd (i := 15)) (fun _ _ _ _ _ => pmts_one (pmt_cmp (o_notin (hu_of hr)) (pm_var (i := 15)) (pm_ix (hu_of hr) (pm_var (i := 9)) (pm_var (i := 6))))) (fun _ _ _ _ _ => pm_var (i := 15))))) (pmg_sub (hu_of hr) (pm_var (i := 9)) (pm_var (i := 6))))))))))
      (pms_cons (pms_set (i := 14) sc_law.nd (pm_callTy c_tup T.n_tuple (by decide +kernel) (pma_cons (pm_frz (pml_lc (own := [("name", 6), ("body", 11)]) sc_law.nd (pmi_seq (pm_var (i := 3))) (blkOk_by (own := [("name", 6), ("body", 11)]) (N := N_law) (sc := defScope s_law) (by decide +kernel)) (fun _ _ _ _ _ => pmg_tup rfl (pmgs_cons (pmg_name sc_law.nd (i := 6)) (pmgs_cons (pmg_name sc_law.nd (i := 11)) (pmgs_nil)))) (fun _ _ _ _ _ => pmts_no) (fun _ _ _ _ _ => pm_tup (pma_cons (pm_var (i := 6)) (pma_cons (pm_callTy c_tup T.n_tuple (by decide +kernel) (pma_cons (pm_frz (pml_lc (own := [("other", 15), ("body", 11)]) sc_law.nd (pmi_seq (pm_var (i := 3))) (blkOk_by (own := [("other", 15), ("body", 11)]) (by rfl)) (fun _ _ _ _ _ => pmg_tup rfl (pmgs_cons (pmg_name sc_law.nd (i := 15)) (pmgs_cons (pmg_name sc_law.nd (i := 11)) (pmgs_nil)))) (fun _ _ _ _ _ => pmts_one (pmt_cmp (o_in (hu_of hr)) (pm_var (i := 15)) (pm_ix (hu_of hr) (pm_var (i := 9)) (pm_var (i := 6))))) (fun _ _ _ _ _ => pm_var (i := 15)))) (pma_nil))) (pma_nil)))))) (pma_nil))))
      (pms_one (pms_if (pmt_not (pmt_tr (pm_call G__law_alike (hr.mono (by decide)) (pma_cons (pm_call (G_called_by).pure (hr.mono (by decide)) (pma_cons (pm_var (i := 3)) (pma_nil))) (pma_cons (pm_var (i := 14)) (pma_nil))))))
        (pms_one (pms_ret (pm_bl)))
        (pms_nil))))))))))))
    (pms_one (pms_ret (pm_bl))))
end
theorem all_mk {l : PySem.W.OpenLaw} {w : World} {K : PySem.W.Frag} {h : Heap} {mg : Str → Option Value} {fa f0 f1 f2 f3 f4 f5 f6 f7 f8 f9 f10 f11 f12 f13 f14 f15 f16 f17 f18 f19 f20 f21 : Addr} (X : K.In h) (G : h.Ns mainGlobals mg) (hfa : mg "law" = some (.ref fa))
    {od0 an0 od1 an1 od2 an2 od3 an3 od4 an4 od5 an5 od6 an6 od7 an7 od8 an8 od9 an9 od10 an10 od11 an11 od12 an12 od13 an13 od14 an14 od15 an15 od16 an16 od17 an17 od18 an18 od19 an19 od20 an20 od21 an21 : Option Addr} {sl0 sl1 sl2 sl3 sl4 sl5 sl6 sl7 sl8 sl9 sl10 sl11 sl12 sl13 sl14 sl15 sl16 sl17 sl18 sl19 sl20 sl21 : Array (Option Value)} {oc0 kV0 dc0 pm0 cd0 ct0 oc1 kV1 dc1 pm1 cd1 ct1 oc2 kV2 dc2 pm2 cd2 ct2 oc3 kV3 dc3 pm3 cd3 ct3 oc4 kV4 dc4 pm4 cd4 ct4 oc5 kV5 dc5 pm5 cd5 ct5 oc6 kV6 dc6 pm6 cd6 ct6 oc7 kV7 dc7 pm7 cd7 ct7 oc8 kV8 dc8 pm8 cd8 ct8 oc9 kV9 dc9 pm9 cd9 ct9 oc10 kV10 dc10 pm10 cd10 ct10 oc11 kV11 dc11 pm11 cd11 ct11 oc12 kV12 dc12 pm12 cd12 ct12 oc13 kV13 dc13 pm13 cd13 ct13 oc14 kV14 dc14 pm14 cd14 ct14 oc15 kV15 dc15 pm15 cd15 ct15 oc16 kV16 dc16 pm16 cd16 ct16 oc17 kV17 dc17 pm17 cd17 ct17 oc18 kV18 dc18 pm18 cd18 ct18 oc19 kV19 dc19 pm19 cd19 ct19 oc20 kV20 dc20 pm20 cd20 ct20 oc21 kV21 dc21 pm21 cd21 ct21 : Value}
    (a0 : PySem.W.nsIn K mainGlobals "common_divisor" = some (some (.ref f0))) (l0 : K.lookup f0 = some ⟨oc0, od0, .func (PySem.W.fnOf "common_divisor" "common_divisor" (defArgs s_common_divisor) (defBody s_common_divisor) (defScope s_common_divisor) .none kV0 dc0 pm0 an0 cd0 ct0), sl0⟩) (c0 : PySem.W.codeIn K cd0 "common_divisor" = true) (k0 : PySem.W.keepIn K (.ref f0) = true)
    (a1 : PySem.W.nsIn K mainGlobals "ratio" = some (some (.ref f1))) (l1 : K.lookup f1 = some ⟨oc1, od1, .func (PySem.W.fnOf "ratio" "ratio" (defArgs s_ratio) (defBody s_ratio) (defScope s_ratio) .none kV1 dc1 pm1 an1 cd1 ct1), sl1⟩) (c1 : PySem.W.codeIn K cd1 "ratio" = true) (k1 : PySem.W.keepIn K (.ref f1) = true)
    (a2 : PySem.W.nsIn K mainGlobals "plus" = some (some (.ref f2))) (l2 : K.lookup f2 = some ⟨oc2, od2, .func (PySem.W.fnOf "plus" "plus" (defArgs s_plus) (defBody s_plus) (defScope s_plus) .none kV2 dc2 pm2 an2 cd2 ct2), sl2⟩) (c2 : PySem.W.codeIn K cd2 "plus" = true) (k2 : PySem.W.keepIn K (.ref f2) = true)
    (a3 : PySem.W.nsIn K mainGlobals "times" = some (some (.ref f3))) (l3 : K.lookup f3 = some ⟨oc3, od3, .func (PySem.W.fnOf "times" "times" (defArgs s_times) (defBody s_times) (defScope s_times) .none kV3 dc3 pm3 an3 cd3 ct3), sl3⟩) (c3 : PySem.W.codeIn K cd3 "times" = true) (k3 : PySem.W.keepIn K (.ref f3) = true)
    (a4 : PySem.W.nsIn K mainGlobals "ways" = some (some (.ref f4))) (l4 : K.lookup f4 = some ⟨oc4, od4, .func (PySem.W.fnOf "ways" "ways" (defArgs s_ways) (defBody s_ways) (defScope s_ways) .none kV4 dc4 pm4 an4 cd4 ct4), sl4⟩) (c4 : PySem.W.codeIn K cd4 "ways" = true) (k4 : PySem.W.keepIn K (.ref f4) = true)
    (a5 : PySem.W.nsIn K mainGlobals "alternatives_of" = some (some (.ref f5))) (l5 : K.lookup f5 = some ⟨oc5, od5, .func (PySem.W.fnOf "alternatives_of" "alternatives_of" (defArgs s_alternatives_of) (defBody s_alternatives_of) (defScope s_alternatives_of) .none kV5 dc5 pm5 an5 cd5 ct5), sl5⟩) (c5 : PySem.W.codeIn K cd5 "alternatives_of" = true) (k5 : PySem.W.keepIn K (.ref f5) = true)
    (a6 : PySem.W.nsIn K mainGlobals "alternatives" = some (some (.ref f6))) (l6 : K.lookup f6 = some ⟨oc6, od6, .func (PySem.W.fnOf "alternatives" "alternatives" (defArgs s_alternatives) (defBody s_alternatives) (defScope s_alternatives) .none kV6 dc6 pm6 an6 cd6 ct6), sl6⟩) (c6 : PySem.W.codeIn K cd6 "alternatives" = true) (k6 : PySem.W.keepIn K (.ref f6) = true)
    (a7 : PySem.W.nsIn K mainGlobals "called_by" = some (some (.ref f7))) (l7 : K.lookup f7 = some ⟨oc7, od7, .func (PySem.W.fnOf "called_by" "called_by" (defArgs s_called_by) (defBody s_called_by) (defScope s_called_by) .none kV7 dc7 pm7 an7 cd7 ct7), sl7⟩) (c7 : PySem.W.codeIn K cd7 "called_by" = true) (k7 : PySem.W.keepIn K (.ref f7) = true)
    (a8 : PySem.W.nsIn K mainGlobals "_law_start" = some (some (.ref f8))) (l8 : K.lookup f8 = some ⟨oc8, od8, .func (PySem.W.fnOf "_law_start" "_law_start" (defArgs s__law_start) (defBody s__law_start) (defScope s__law_start) .none kV8 dc8 pm8 an8 cd8 ct8), sl8⟩) (c8 : PySem.W.codeIn K cd8 "_law_start" = true) (k8 : PySem.W.keepIn K (.ref f8) = true)
    (a9 : PySem.W.nsIn K mainGlobals "_law_fill" = some (some (.ref f9))) (l9 : K.lookup f9 = some ⟨oc9, od9, .func (PySem.W.fnOf "_law_fill" "_law_fill" (defArgs s__law_fill) (defBody s__law_fill) (defScope s__law_fill) .none kV9 dc9 pm9 an9 cd9 ct9), sl9⟩) (c9 : PySem.W.codeIn K cd9 "_law_fill" = true) (k9 : PySem.W.keepIn K (.ref f9) = true)
    (a10 : PySem.W.nsIn K mainGlobals "_law_take" = some (some (.ref f10))) (l10 : K.lookup f10 = some ⟨oc10, od10, .func (PySem.W.fnOf "_law_take" "_law_take" (defArgs s__law_take) (defBody s__law_take) (defScope s__law_take) .none kV10 dc10 pm10 an10 cd10 ct10), sl10⟩) (c10 : PySem.W.codeIn K cd10 "_law_take" = true) (k10 : PySem.W.keepIn K (.ref f10) = true)
    (a11 : PySem.W.nsIn K mainGlobals "_law_divisor" = some (some (.ref f11))) (l11 : K.lookup f11 = some ⟨oc11, od11, .func (PySem.W.fnOf "_law_divisor" "_law_divisor" (defArgs s__law_divisor) (defBody s__law_divisor) (defScope s__law_divisor) .none kV11 dc11 pm11 an11 cd11 ct11), sl11⟩) (c11 : PySem.W.codeIn K cd11 "_law_divisor" = true) (k11 : PySem.W.keepIn K (.ref f11) = true)
    (a12 : PySem.W.nsIn K mainGlobals "_law_fraction" = some (some (.ref f12))) (l12 : K.lookup f12 = some ⟨oc12, od12, .func (PySem.W.fnOf "_law_fraction" "_law_fraction" (defArgs s__law_fraction) (defBody s__law_fraction) (defScope s__law_fraction) .none kV12 dc12 pm12 an12 cd12 ct12), sl12⟩) (c12 : PySem.W.codeIn K cd12 "_law_fraction" = true) (k12 : PySem.W.keepIn K (.ref f12) = true)
    (a13 : PySem.W.nsIn K mainGlobals "_law_plus" = some (some (.ref f13))) (l13 : K.lookup f13 = some ⟨oc13, od13, .func (PySem.W.fnOf "_law_plus" "_law_plus" (defArgs s__law_plus) (defBody s__law_plus) (defScope s__law_plus) .none kV13 dc13 pm13 an13 cd13 ct13), sl13⟩) (c13 : PySem.W.codeIn K cd13 "_law_plus" = true) (k13 : PySem.W.keepIn K (.ref f13) = true)
    (a14 : PySem.W.nsIn K mainGlobals "_law_times" = some (some (.ref f14))) (l14 : K.lookup f14 = some ⟨oc14, od14, .func (PySem.W.fnOf "_law_times" "_law_times" (defArgs s__law_times) (defBody s__law_times) (defScope s__law_times) .none kV14 dc14 pm14 an14 cd14 ct14), sl14⟩) (c14 : PySem.W.codeIn K cd14 "_law_times" = true) (k14 : PySem.W.keepIn K (.ref f14) = true)
    (a15 : PySem.W.nsIn K mainGlobals "_law_cut" = some (some (.ref f15))) (l15 : K.lookup f15 = some ⟨oc15, od15, .func (PySem.W.fnOf "_law_cut" "_law_cut" (defArgs s__law_cut) (defBody s__law_cut) (defScope s__law_cut) .none kV15 dc15 pm15 an15 cd15 ct15), sl15⟩) (c15 : PySem.W.codeIn K cd15 "_law_cut" = true) (k15 : PySem.W.keepIn K (.ref f15) = true)
    (a16 : PySem.W.nsIn K mainGlobals "_law_body" = some (some (.ref f16))) (l16 : K.lookup f16 = some ⟨oc16, od16, .func (PySem.W.fnOf "_law_body" "_law_body" (defArgs s__law_body) (defBody s__law_body) (defScope s__law_body) .none kV16 dc16 pm16 an16 cd16 ct16), sl16⟩) (c16 : PySem.W.codeIn K cd16 "_law_body" = true) (k16 : PySem.W.keepIn K (.ref f16) = true)
    (a17 : PySem.W.nsIn K mainGlobals "_law_program" = some (some (.ref f17))) (l17 : K.lookup f17 = some ⟨oc17, od17, .func (PySem.W.fnOf "_law_program" "_law_program" (defArgs s__law_program) (defBody s__law_program) (defScope s__law_program) .none kV17 dc17 pm17 an17 cd17 ct17), sl17⟩) (c17 : PySem.W.codeIn K cd17 "_law_program" = true) (k17 : PySem.W.keepIn K (.ref f17) = true)
    (a18 : PySem.W.nsIn K mainGlobals "_law_alike" = some (some (.ref f18))) (l18 : K.lookup f18 = some ⟨oc18, od18, .func (PySem.W.fnOf "_law_alike" "_law_alike" (defArgs s__law_alike) (defBody s__law_alike) (defScope s__law_alike) .none kV18 dc18 pm18 an18 cd18 ct18), sl18⟩) (c18 : PySem.W.codeIn K cd18 "_law_alike" = true) (k18 : PySem.W.keepIn K (.ref f18) = true)
    (a19 : PySem.W.nsIn K mainGlobals "_law_ways" = some (some (.ref f19))) (l19 : K.lookup f19 = some ⟨oc19, od19, .func (PySem.W.fnOf "_law_ways" "_law_ways" (defArgs s__law_ways) (defBody s__law_ways) (defScope s__law_ways) .none kV19 dc19 pm19 an19 cd19 ct19), sl19⟩) (c19 : PySem.W.codeIn K cd19 "_law_ways" = true) (k19 : PySem.W.keepIn K (.ref f19) = true)
    (a20 : PySem.W.nsIn K mainGlobals "_law_alternatives" = some (some (.ref f20))) (l20 : K.lookup f20 = some ⟨oc20, od20, .func (PySem.W.fnOf "_law_alternatives" "_law_alternatives" (defArgs s__law_alternatives) (defBody s__law_alternatives) (defScope s__law_alternatives) .none kV20 dc20 pm20 an20 cd20 ct20), sl20⟩) (c20 : PySem.W.codeIn K cd20 "_law_alternatives" = true) (k20 : PySem.W.keepIn K (.ref f20) = true)
    (a21 : PySem.W.nsIn K mainGlobals "law" = some (some (.ref f21))) (l21 : K.lookup f21 = some ⟨oc21, od21, .func (PySem.W.fnOf "law" "law" (defArgs s_law) (defBody s_law) (defScope s_law) .none kV21 dc21 pm21 an21 cd21 ct21), sl21⟩) (c21 : PySem.W.codeIn K cd21 "law" = true) (k21 : PySem.W.keepIn K (.ref f21) = true)
    (z0 : PySem.W.nsIn K mainGlobals "abs" = some none)
    (z1 : PySem.W.nsIn K mainGlobals "all" = some none)
    (z2 : PySem.W.nsIn K mainGlobals "bool" = some none)
    (z3 : PySem.W.nsIn K mainGlobals "dict" = some none)
    (z4 : PySem.W.nsIn K mainGlobals "int" = some none)
    (z5 : PySem.W.nsIn K mainGlobals "isinstance" = some none)
    (z6 : PySem.W.nsIn K mainGlobals "len" = some none)
    (z7 : PySem.W.nsIn K mainGlobals "list" = some none)
    (z8 : PySem.W.nsIn K mainGlobals "range" = some none)
    (z9 : PySem.W.nsIn K mainGlobals "str" = some none)
    (z10 : PySem.W.nsIn K mainGlobals "tuple" = some none)
    {ad_ONE : Addr} {tk_ONE tu_ONE : Tok} {nn_ONE : Nat} {ss_ONE : Array (Option Value)} (qa_ONE : PySem.W.nsIn K mainGlobals "ONE" = some (some (.ref ad_ONE))) (qb_ONE : K.lookup ad_ONE = some ⟨.type "tuple", none, .seq #[.int 1 tk_ONE, .int 1 tu_ONE] nn_ONE, ss_ONE⟩)
    {ad_ZERO : Addr} {tk_ZERO tu_ZERO : Tok} {nn_ZERO : Nat} {ss_ZERO : Array (Option Value)} (qa_ZERO : PySem.W.nsIn K mainGlobals "ZERO" = some (some (.ref ad_ZERO))) (qb_ZERO : K.lookup ad_ZERO = some ⟨.type "tuple", none, .seq #[.int 0 tk_ZERO, .int 1 tu_ZERO] nn_ZERO, ss_ZERO⟩)
    : ∃ fd : FuncData, (∀ (s : Shared) (v : Value), BindsTo s fd ⟨[v], []⟩ [("script", v)]) ∧ ∀ base : Heap, K.In base → base.Ns mainGlobals mg → FnOk l.prog w K mg base CX0 15 fa fd ["script"] (spF K 1 (F_law w)) := by
  have e := hfa.symm.trans (PySem.W.mg_of X G a21)
  cases e
  have T : Txt K mg := ⟨PySem.W.mg_none_of X G z0, PySem.W.mg_none_of X G z1, PySem.W.mg_none_of X G z2, PySem.W.mg_none_of X G z3, PySem.W.mg_none_of X G z4, PySem.W.mg_none_of X G z5, PySem.W.mg_none_of X G z6, PySem.W.mg_none_of X G z7, PySem.W.mg_none_of X G z8, PySem.W.mg_none_of X G z9, PySem.W.mg_none_of X G z10, glob_pair (PySem.W.mg_of X G qa_ONE) qb_ONE, glob_pair (PySem.W.mg_of X G qa_ZERO) qb_ZERO⟩
  have F0 := fun_mk (st := s_common_divisor) l0 c0 k0
  have b0 := F0.binds (ps := ["first", "second"]) fun _ _ _ _ _ _ us hl => match us, hl with | [_, _], _ => rfl
  have F1 := fun_mk (st := s_ratio) l1 c1 k1
  have b1 := F1.binds (ps := ["above", "below"]) fun _ _ _ _ _ _ us hl => match us, hl with | [_, _], _ => rfl
  have F2 := fun_mk (st := s_plus) l2 c2 k2
  have b2 := F2.binds (ps := ["first", "second"]) fun _ _ _ _ _ _ us hl => match us, hl with | [_, _], _ => rfl
  have F3 := fun_mk (st := s_times) l3 c3 k3
  have b3 := F3.binds (ps := ["first", "second"]) fun _ _ _ _ _ _ us hl => match us, hl with | [_, _], _ => rfl
  have F4 := fun_mk (st := s_ways) l4 c4 k4
  have b4 := F4.binds (ps := ["body"]) fun _ _ _ _ _ _ us hl => match us, hl with | [_], _ => rfl
  have F5 := fun_mk (st := s_alternatives_of) l5 c5 k5
  have b5 := F5.binds (ps := ["body"]) fun _ _ _ _ _ _ us hl => match us, hl with | [_], _ => rfl
  have F6 := fun_mk (st := s_alternatives) l6 c6 k6
  have b6 := F6.binds (ps := ["program"]) fun _ _ _ _ _ _ us hl => match us, hl with | [_], _ => rfl
  have F7 := fun_mk (st := s_called_by) l7 c7 k7
  have b7 := F7.binds (ps := ["program"]) fun _ _ _ _ _ _ us hl => match us, hl with | [_], _ => rfl
  have F8 := fun_mk (st := s__law_start) l8 c8 k8
  have b8 := F8.binds (ps := ["script"]) fun _ _ _ _ _ _ us hl => match us, hl with | [_], _ => rfl
  have F9 := fun_mk (st := s__law_fill) l9 c9 k9
  have b9 := F9.binds (ps := ["c"]) fun _ _ _ _ _ _ us hl => match us, hl with | [_], _ => rfl
  have F10 := fun_mk (st := s__law_take) l10 c10 k10
  have b10 := F10.binds (ps := ["c", "many"]) fun _ _ _ _ _ _ us hl => match us, hl with | [_, _], _ => rfl
  have F11 := fun_mk (st := s__law_divisor) l11 c11 k11
  have b11 := F11.binds (ps := ["a", "b"]) fun _ _ _ _ _ _ us hl => match us, hl with | [_, _], _ => rfl
  have F12 := fun_mk (st := s__law_fraction) l12 c12 k12
  have b12 := F12.binds (ps := ["n", "d"]) fun _ _ _ _ _ _ us hl => match us, hl with | [_, _], _ => rfl
  have F13 := fun_mk (st := s__law_plus) l13 c13 k13
  have b13 := F13.binds (ps := ["a", "b"]) fun _ _ _ _ _ _ us hl => match us, hl with | [_, _], _ => rfl
  have F14 := fun_mk (st := s__law_times) l14 c14 k14
  have b14 := F14.binds (ps := ["a", "b"]) fun _ _ _ _ _ _ us hl => match us, hl with | [_, _], _ => rfl
  have F15 := fun_mk (st := s__law_cut) l15 c15 k15
  have b15 := F15.binds (ps := ["c"]) fun _ _ _ _ _ _ us hl => match us, hl with | [_], _ => rfl
  have F16 := fun_mk (st := s__law_body) l16 c16 k16
  have b16 := F16.binds (ps := ["c", "names", "letters", "deep"]) fun _ _ _ _ _ _ us hl => match us, hl with | [_, _, _, _], _ => rfl
  have F17 := fun_mk (st := s__law_program) l17 c17 k17
  have b17 := F17.binds (ps := ["c"]) fun _ _ _ _ _ _ us hl => match us, hl with | [_], _ => rfl
  have F18 := fun_mk (st := s__law_alike) l18 c18 k18
  have b18 := F18.binds (ps := ["value", "due"]) fun _ _ _ _ _ _ us hl => match us, hl with | [_, _], _ => rfl
  have F19 := fun_mk (st := s__law_ways) l19 c19 k19
  have b19 := F19.binds (ps := ["body", "chance", "calls", "letters", "found"]) fun _ _ _ _ _ _ us hl => match us, hl with | [_, _, _, _, _], _ => rfl
  have F20 := fun_mk (st := s__law_alternatives) l20 c20 k20
  have b20 := F20.binds (ps := ["program"]) fun _ _ _ _ _ _ us hl => match us, hl with | [_], _ => rfl
  have F21 := fun_mk (st := s_law) l21 c21 k21
  have b21 := F21.binds (ps := ["script"]) fun _ _ _ _ _ _ us hl => match us, hl with | [_], _ => rfl
  refine ⟨PySem.W.fnOf "law" "law" (defArgs s_law) (defBody s_law) (defScope s_law) .none kV21 dc21 pm21 an21 cd21 ct21, fun s v => .of_eq rfl, fun base _ _ => ?_⟩
  have G_common_divisor := ok_common_divisor (P := l.prog) (w := w) (base := base) T F0 b0 (PySem.W.mg_of X G a0)
  have G_ratio := ok_ratio (P := l.prog) (w := w) (base := base) T F1 b1 (PySem.W.mg_of X G a1) G_common_divisor
  have G_plus := ok_plus (P := l.prog) (w := w) (base := base) T F2 b2 (PySem.W.mg_of X G a2) G_ratio
  have G_times := ok_times (P := l.prog) (w := w) (base := base) T F3 b3 (PySem.W.mg_of X G a3) G_ratio
  have G_ways := ok_ways (P := l.prog) (w := w) (base := base) T F4 b4 (PySem.W.mg_of X G a4) G_times
  have G_alternatives_of := ok_alternatives_of (P := l.prog) (w := w) (base := base) T F5 b5 (PySem.W.mg_of X G a5) G_plus G_ways
  have G_alternatives := ok_alternatives (P := l.prog) (w := w) (base := base) T F6 b6 (PySem.W.mg_of X G a6) G_alternatives_of
  have G_called_by := ok_called_by (P := l.prog) (w := w) (base := base) T F7 b7 (PySem.W.mg_of X G a7) G_alternatives
  have G__law_start := ok__law_start (P := l.prog) (w := w) (base := base) T F8 b8 (PySem.W.mg_of X G a8)
  have G__law_fill := ok__law_fill (P := l.prog) (w := w) (base := base) T F9 b9 (PySem.W.mg_of X G a9)
  have G__law_take := ok__law_take (P := l.prog) (w := w) (base := base) T F10 b10 (PySem.W.mg_of X G a10) G__law_fill
  have G__law_divisor := ok__law_divisor (P := l.prog) (w := w) (base := base) T F11 b11 (PySem.W.mg_of X G a11)
  have G__law_fraction := ok__law_fraction (P := l.prog) (w := w) (base := base) T F12 b12 (PySem.W.mg_of X G a12) G__law_divisor
  have G__law_plus := ok__law_plus (P := l.prog) (w := w) (base := base) T F13 b13 (PySem.W.mg_of X G a13) G__law_fraction
  have G__law_times := ok__law_times (P := l.prog) (w := w) (base := base) T F14 b14 (PySem.W.mg_of X G a14) G__law_fraction
  have G__law_cut := ok__law_cut (P := l.prog) (w := w) (base := base) T F15 b15 (PySem.W.mg_of X G a15) G__law_take G__law_fraction G__law_plus G__law_times
  have G__law_body := ok__law_body (P := l.prog) (w := w) (base := base) T F16 b16 (PySem.W.mg_of X G a16) G__law_take G__law_cut 8
  have G__law_program := ok__law_program (P := l.prog) (w := w) (base := base) T F17 b17 (PySem.W.mg_of X G a17) G__law_take G__law_body
  have G__law_alike := ok__law_alike (P := l.prog) (w := w) (base := base) T F18 b18 (PySem.W.mg_of X G a18) 10
  have G__law_ways := ok__law_ways (P := l.prog) (w := w) (base := base) T F19 b19 (PySem.W.mg_of X G a19) G__law_times 10
  have G__law_alternatives := ok__law_alternatives (P := l.prog) (w := w) (base := base) T F20 b20 (PySem.W.mg_of X G a20) G__law_plus G__law_ways
  have G_law := ok_law (P := l.prog) (w := w) (base := base) T F21 b21 (PySem.W.mg_of X G a21) G_alternatives G_called_by G__law_start G__law_program G__law_alike G__law_alternatives
  exact G_law
end K31
end
section
set_option Elab.async false
set_option autoImplicit false
set_option linter.all false
set_option maxRecDepth 100000
set_option maxHeartbeats 2000000
namespace K31
open PySem L2 Mn
local macro_rules | `(tactic| l_ints) => `(tactic| simp only [bnd_some', ret1_some', sSeq_eq, kThen_nx, kThen_rt, kThen_bk, kThen_ct, sNil_eq, sAsg_eq, kAsg_eq, sDrop_eq, kDrop_eq, sRet_eq, kRet_eq, sRetN_eq, sBreak_eq, sCont_eq, sIf_eq, kIf_true, kIf_false, sTgt_eq, kTgt1_eq, kTgt2_eq, sPar_eq, kPar2_eq, sPar3_eq, kPar3_eq, sFor_eq, kFor_eq, sAug_eq, kAug_eq, kAug1_eq, mV_eq, kGot_eq, mC_eq, mOp_eq, kOp1_eq, kOp2_eq, mTB_eq, kB_eq, mAnd_eq, kAnd_true, kAnd_false, mOr_eq, kOr_true, kOr_false, mNot_eq, kNot_eq, mIte_eq, kIte_true, kIte_false, mAndV_eq, kAndV_true, kAndV_false, mOrV_eq, kOrV_true, kOrV_false, mNotV_eq, kNotV_eq, mNil_eq, mCons_eq, kCons1_eq, kCons2_eq, mTup_eq, kTup_eq, mLst_eq, kLst_eq, mFrz_eq, kFrz_eq, mMut_eq, kMut_eq, mCall_eq, mCB_eq, kCB_eq, mCBL_eq, kCBL_eq, mTr_eq, kTr_eq, mNeg_eq, kNeg_eq, mChain_eq, kChn1_eq, kChn2_eq, kChn_true, kChn_false, gN_eq, gsN_eq, gsC_eq, kGs_eq, gT_eq, gTp_eq, gSet_eq, kSet1_eq, kSet2_eq, kSetE_eq, setO_eq, setL_nat, setL_lit, setL_str, mMt_eq, kMt1_eq, kMt1'_eq, kMt2_eq, kMt2'_eq, kMt3_eq, fApp_eq, fPop_eq, kPop_eq, getLast_snoc, dropLast_snoc, fExt_eq, kExt_eq, oAdd_int, oAdd_str, oAdd_tup, oAdd_lst, oAdd_loc, kCat_eq, lstD_lst, lstD_loc, isLst_eq, seqD_tup, seqD_lst, seqD_rol, seqD_loc, dicD_dic, dicD_loc, isDic_eq, oSub_int, oMul_int, oDiv_int, oMod_int, oI_plus, oI_minus, oLt_int, oLe_int, oGt_int, oGe_int, oEq_int, oEq_str, oEq_bl, oNe_int, oNe_str, oNe_bl, oIs_non, oIsNot_non, isN_non, isN_int, isN_bl, isN_str, isN_tup, isN_lst, isN_loc, atI_lit, atI_natc, atI_neg1, ixO_tup, ixO_lst, ixO_dics, ixO_dici, ixO_locs, ixO_loci, ixL_lst, ixL_dics, ixL_dici, cLen_tup, cLen_lst, cLen_dic, cLen_loc, lenL_lst, lenL_dic, cInt_int, cInt_bl, cAbs_int, cTup_tup, cTup_lst, cTup_loc, tupL_eq, cList_eq, cBls_lst, blsA_eq, fAll_eq, fAny_eq, truD_lst, truD_tup, truD_bl, truD_int, truD_non, truD_loc, truL_lst, truL_dic, itD_tup, itD_lst, miSeq_eq, kIt_eq, miR1_eq, kR1_eq, miR2_eq, kR2_eq, mSl_eq, kSl1_eq, kSl2_eq, kSl3_eq, mNoP_eq, mPart_eq, kPart_eq, slD_tup, slD_lst, slD_rol, slD_loc, slA_eq, mIsi_eq, kIsi_eq, tyD_non, tyD_bl, tyD_int, tyD_str, tyD_tup, tyD_lst, isi_NoneType_tuple, isi_NoneType_list, isi_NoneType_int, isi_NoneType_str, isi_NoneType_bool, isi_NoneType_int_str, isi_bool_tuple, isi_bool_list, isi_bool_int, isi_bool_str, isi_bool_bool, isi_bool_int_str, isi_int_tuple, isi_int_list, isi_int_int, isi_int_str, isi_int_bool, isi_int_int_str, isi_str_tuple, isi_str_list, isi_str_int, isi_str_str, isi_str_bool, isi_str_int_str, isi_tuple_tuple, isi_tuple_list, isi_tuple_int, isi_tuple_str, isi_tuple_bool, isi_tuple_int_str, isi_list_tuple, isi_list_list, isi_list_int, isi_list_str, isi_list_bool, isi_list_int_str, mDicF_eq, kDicF_eq, mDicM_eq, kDicM_eq, dicA_eq, dicB_eq, mDic0_eq, mGet1_eq, kGet1_eq, kGet1a_eq, mGet2_eq, kGet2_eq, kGet2a_eq, kGet2b_eq, kGet3_str, kGet3_int, kForB_eq, kForS_nx, kForS_ct, kForS_bk, kForS_rt, kWh_true, kWh_false, kWhS_nx, kWhS_ct, kWhS_bk, kWhS_rt, mLc_eq, kLc_eq, kLc1_eq, kLc2_true, kLc2_false, kLc3_eq, kLc4_eq, mYes_eq, wipeE_nil, wipeE_cons, mFun_0, mFun_1, mFun_2, mFun_3, mFun_4, mFun_5, mFun_6, mFun_7, mFun_8, mFunL_0, mFunL_1, mFunL_2, mFunL_3, mFunL_4, mFunL_5, mFunL_6, mFunL_7, mFunL_8, endW_rt, endW_nx, mRev_eq, kRev_eq, miTxt_eq, kTxt_eq, oIsB_bl, oIsNotB_bl, oIn_eq, oNotIn_eq, kIn_eq, kNIn_eq, inO_sign, inA_eq, inO_tup, inO_lst, inO_loc, inL_lst, inL_dics, inL_dici, inO_dics, inO_dici, flatD_non, flatD_bl, flatD_int, flatD_str, ixO_dkls, ixO_dkli, inO_dkls, inO_dkli, dicD_dkl, mDitN_eq, ixDN_eq, kIxN_eq, setN_eq, gSetN_eq, kSetN1_eq, kSetN2_eq, kSetN3_eq, mGet2N_eq, kGetN1_eq, kGetN2_eq, kGetN3_eq, kGetN4_eq, miKeysN_eq, kKeysN_eq, miKeysL_eq, kKeysL_eq, sForP_eq, kForP_eq, kForP2_eq, keepM_eq, mLc2_eq, kLd_eq, kLd1_eq, kLd2_true, kLd2_false, kLd2b_eq, kLd3_eq, kLd4_eq, Nat.reduceSub, Nat.reduceAdd, Nat.reduceLeDiff, Nat.reduceLT, Nat.reduceEqDiff, Int.reduceLT, Int.reduceLE, Int.reduceAdd, Int.reduceSub, Int.reduceNeg, Int.reduceMul, Int.reduceToNat, Int.reduceBEq, fits_lit, List.getElem?_cons_zero, List.getElem?_cons_succ, List.getElem?_nil, List.set_cons_zero, List.set_cons_succ, List.set_nil, List.length_cons, List.length_nil, List.length_set, List.length_map, List.length_append, List.set_set, List.replicate_succ, List.replicate_zero, List.isEmpty_nil, List.isEmpty_cons, List.nil_append, List.cons_append, List.append_assoc, Bool.not_true, Bool.not_false, decide_true, decide_false, if_true, if_false, Bool.false_eq_true, Option.getD_none, Option.getD_some, Option.isSome_none, Option.isSome_some, st_app, st_app0, st_set, st_set0, List.getLast?_nil, getLast_snoc, dropLast_snoc])
local macro_rules | `(tactic| l_intsC) => `(tactic| simp only [bnd_some', ret1_some', sSeq_eq, kThen_nx, kThen_rt, kThen_bk, kThen_ct, sNil_eq, sAsg_eq, kAsg_eq, sDrop_eq, kDrop_eq, sRet_eq, kRet_eq, sRetN_eq, sBreak_eq, sCont_eq, sIf_eq, kIf_true, kIf_false, sTgt_eq, kTgt1_eq, kTgt2_eq, sPar_eq, kPar2_eq, sPar3_eq, kPar3_eq, sFor_eq, kFor_eq, sAug_eq, kAug_eq, kAug1_eq, mV_eq, kGot_eq, mC_eq, mOp_eq, kOp1_eq, kOp2_eq, mTB_eq, kB_eq, mAnd_eq, kAnd_true, kAnd_false, mOr_eq, kOr_true, kOr_false, mNot_eq, kNot_eq, mIte_eq, kIte_true, kIte_false, mAndV_eq, kAndV_true, kAndV_false, mOrV_eq, kOrV_true, kOrV_false, mNotV_eq, kNotV_eq, mNil_eq, mCons_eq, kCons1_eq, kCons2_eq, mTup_eq, kTup_eq, mLst_eq, kLst_eq, mFrz_eq, kFrz_eq, mMut_eq, kMut_eq, mCall_eq, mCB_eq, kCB_eq, mCBL_eq, kCBL_eq, mTr_eq, kTr_eq, mNeg_eq, kNeg_eq, mChain_eq, kChn1_eq, kChn2_eq, kChn_true, kChn_false, gN_eq, gsN_eq, gsC_eq, kGs_eq, gT_eq, gTp_eq, gSet_eq, kSet1_eq, kSet2_eq, kSetE_eq, setO_eq, setL_nat, setL_lit, setL_str, mMt_eq, kMt1_eq, kMt1'_eq, kMt2_eq, kMt2'_eq, kMt3_eq, fApp_eq, fPop_eq, kPop_eq, getLast_snoc, dropLast_snoc, fExt_eq, kExt_eq, oAdd_int, oAdd_str, oAdd_tup, oAdd_lst, oAdd_loc, kCat_eq, lstD_lst, lstD_loc, isLst_eq, seqD_tup, seqD_lst, seqD_rol, seqD_loc, dicD_dic, dicD_loc, isDic_eq, oSub_int, oMul_int, oDiv_int, oMod_int, oI_plus, oI_minus, oLt_int, oLe_int, oGt_int, oGe_int, oEq_int, oEq_str, oEq_bl, oNe_int, oNe_str, oNe_bl, oIs_non, oIsNot_non, isN_non, isN_int, isN_bl, isN_str, isN_tup, isN_lst, isN_loc, atI_lit, atI_natc, atI_neg1, ixO_tup, ixO_lst, ixO_dics, ixO_dici, ixO_locs, ixO_loci, ixL_lst, ixL_dics, ixL_dici, cLen_tup, cLen_lst, cLen_dic, cLen_loc, lenL_lst, lenL_dic, cInt_int, cInt_bl, cAbs_int, cTup_tup, cTup_lst, cTup_loc, tupL_eq, cList_eq, cBls_lst, blsA_eq, fAll_eq, fAny_eq, truD_lst, truD_tup, truD_bl, truD_int, truD_non, truD_loc, truL_lst, truL_dic, itD_tup, itD_lst, miSeq_eq, kIt_eq, miR1_eq, kR1_eq, miR2_eq, kR2_eq, mSl_eq, kSl1_eq, kSl2_eq, kSl3_eq, mNoP_eq, mPart_eq, kPart_eq, slD_tup, slD_lst, slD_rol, slD_loc, slA_eq, mIsi_eq, kIsi_eq, tyD_non, tyD_bl, tyD_int, tyD_str, tyD_tup, tyD_lst, isi_NoneType_tuple, isi_NoneType_list, isi_NoneType_int, isi_NoneType_str, isi_NoneType_bool, isi_NoneType_int_str, isi_bool_tuple, isi_bool_list, isi_bool_int, isi_bool_str, isi_bool_bool, isi_bool_int_str, isi_int_tuple, isi_int_list, isi_int_int, isi_int_str, isi_int_bool, isi_int_int_str, isi_str_tuple, isi_str_list, isi_str_int, isi_str_str, isi_str_bool, isi_str_int_str, isi_tuple_tuple, isi_tuple_list, isi_tuple_int, isi_tuple_str, isi_tuple_bool, isi_tuple_int_str, isi_list_tuple, isi_list_list, isi_list_int, isi_list_str, isi_list_bool, isi_list_int_str, mDicF_eq, kDicF_eq, mDicM_eq, kDicM_eq, dicA_eq, dicB_eq, mDic0_eq, mGet1_eq, kGet1_eq, kGet1a_eq, mGet2_eq, kGet2_eq, kGet2a_eq, kGet2b_eq, kGet3_str, kGet3_int, kForB_eq, kForS_nx, kForS_ct, kForS_bk, kForS_rt, kWh_true, kWh_false, kWhS_nx, kWhS_ct, kWhS_bk, kWhS_rt, mLc_eq, kLc_eq, kLc1_eq, kLc2_true, kLc2_false, kLc3_eq, kLc4_eq, mYes_eq, wipeE_nil, wipeE_cons, mFun_0, mFun_1, mFun_2, mFun_3, mFun_4, mFun_5, mFun_6, mFun_7, mFun_8, mFunL_0, mFunL_1, mFunL_2, mFunL_3, mFunL_4, mFunL_5, mFunL_6, mFunL_7, mFunL_8, endW_rt, endW_nx, mRev_eq, kRev_eq, miTxt_eq, kTxt_eq, oIsB_bl, oIsNotB_bl, oIn_eq, oNotIn_eq, kIn_eq, kNIn_eq, inO_sign, inA_eq, inO_tup, inO_lst, inO_loc, inL_lst, inL_dics, inL_dici, inO_dics, inO_dici, flatD_non, flatD_bl, flatD_int, flatD_str, ixO_dkls, ixO_dkli, inO_dkls, inO_dkli, dicD_dkl, mDitN_eq, ixDN_eq, kIxN_eq, setN_eq, gSetN_eq, kSetN1_eq, kSetN2_eq, kSetN3_eq, mGet2N_eq, kGetN1_eq, kGetN2_eq, kGetN3_eq, kGetN4_eq, miKeysN_eq, kKeysN_eq, miKeysL_eq, kKeysL_eq, sForP_eq, kForP_eq, kForP2_eq, keepM_eq, mLc2_eq, kLd_eq, kLd1_eq, kLd2_true, kLd2_false, kLd2b_eq, kLd3_eq, kLd4_eq, Nat.reduceSub, Nat.reduceAdd, Nat.reduceLeDiff, Nat.reduceLT, Nat.reduceEqDiff, Int.reduceLT, Int.reduceLE, Int.reduceAdd, Int.reduceSub, Int.reduceNeg, Int.reduceMul, Int.reduceToNat, Int.reduceBEq, fits_lit, List.getElem?_cons_zero, List.getElem?_cons_succ, List.getElem?_nil, List.set_cons_zero, List.set_cons_succ, List.set_nil, List.length_cons, List.length_nil, List.length_set, List.length_map, List.length_append, List.set_set, List.replicate_succ, List.replicate_zero, List.isEmpty_nil, List.isEmpty_cons, List.nil_append, List.cons_append, List.append_assoc, Bool.not_true, Bool.not_false, decide_true, decide_false, if_true, if_false, Bool.false_eq_true, Option.getD_none, Option.getD_some, Option.isSome_none, Option.isSome_some, st_app, st_app0, st_set, st_set0, List.getLast?_nil, getLast_snoc, dropLast_snoc, *])

theorem gcd_loop (st : Store) : ∀ (n : Nat) (x y : Nat), y < n → whN T_common_divisor_1 L_common_divisor_1 n [some (.int x), some (.int y)] st = some (.nx [some (.int (Nat.gcd x y)), some (.int 0)], st)
  | 0, _, _, h => by omega
  | n + 1, x, y, h => by
    rw [whN_succ]
    by_cases hy : y = 0
    · subst hy
      have hT : T_common_divisor_1 [some (.int x), some (.int ((0 : Nat) : Int))] st = some (false, st) := by
        unfold T_common_divisor_1
        l_ints
        rfl
      rw [hT]
      l_ints
      simp
    · have e : ((y : Int) == 0) = false := by simp; omega
      have hT : T_common_divisor_1 [some (.int x), some (.int y)] st = some (true, st) := by
        unfold T_common_divisor_1
        l_intsC
      have hL : L_common_divisor_1 [some (.int x), some (.int y)] st = some (.nx [some (.int y), some (.int ((x % y : Nat) : Int))], st) := by
        unfold L_common_divisor_1
        l_ints
        rw [oMod_int (by omega)]
        l_ints
        simp
      rw [hT]
      l_ints
      rw [hL]
      l_ints
      rw [gcd_loop st n y (x % y) (by have := Nat.mod_lt x (Nat.pos_of_ne_zero hy); omega)]
      congr 4
      rw [Nat.gcd_comm x y, Nat.gcd_rec y x, Nat.gcd_comm]
theorem common_divisor_eq (a b : Int) (st : Store) : F_common_divisor [.int a, .int b] st = some (.int (Int.gcd a b), st) := by
  unfold F_common_divisor B_common_divisor
  l_ints
  rw [sWhile_of (gcd_loop st (b.natAbs + 1) a.natAbs b.natAbs (by omega))]
  unfold R_common_divisor_1
  l_ints
  rw [fin_same rfl]
  rfl
end K31
end
section
set_option Elab.async false
set_option autoImplicit false
set_option linter.all false
set_option maxRecDepth 100000
set_option maxHeartbeats 2000000
namespace K31
open PySem L2 Mn
local macro_rules | `(tactic| l_ints) => `(tactic| simp only [bnd_some', ret1_some', sSeq_eq, kThen_nx, kThen_rt, kThen_bk, kThen_ct, sNil_eq, sAsg_eq, kAsg_eq, sDrop_eq, kDrop_eq, sRet_eq, kRet_eq, sRetN_eq, sBreak_eq, sCont_eq, sIf_eq, kIf_true, kIf_false, sTgt_eq, kTgt1_eq, kTgt2_eq, sPar_eq, kPar2_eq, sPar3_eq, kPar3_eq, sFor_eq, kFor_eq, sAug_eq, kAug_eq, kAug1_eq, mV_eq, kGot_eq, mC_eq, mOp_eq, kOp1_eq, kOp2_eq, mTB_eq, kB_eq, mAnd_eq, kAnd_true, kAnd_false, mOr_eq, kOr_true, kOr_false, mNot_eq, kNot_eq, mIte_eq, kIte_true, kIte_false, mAndV_eq, kAndV_true, kAndV_false, mOrV_eq, kOrV_true, kOrV_false, mNotV_eq, kNotV_eq, mNil_eq, mCons_eq, kCons1_eq, kCons2_eq, mTup_eq, kTup_eq, mLst_eq, kLst_eq, mFrz_eq, kFrz_eq, mMut_eq, kMut_eq, mCall_eq, mCB_eq, kCB_eq, mCBL_eq, kCBL_eq, mTr_eq, kTr_eq, mNeg_eq, kNeg_eq, mChain_eq, kChn1_eq, kChn2_eq, kChn_true, kChn_false, gN_eq, gsN_eq, gsC_eq, kGs_eq, gT_eq, gTp_eq, gSet_eq, kSet1_eq, kSet2_eq, kSetE_eq, setO_eq, setL_nat, setL_lit, setL_str, mMt_eq, kMt1_eq, kMt1'_eq, kMt2_eq, kMt2'_eq, kMt3_eq, fApp_eq, fPop_eq, kPop_eq, getLast_snoc, dropLast_snoc, fExt_eq, kExt_eq, oAdd_int, oAdd_str, oAdd_tup, oAdd_lst, oAdd_loc, kCat_eq, lstD_lst, lstD_loc, isLst_eq, seqD_tup, seqD_lst, seqD_rol, seqD_loc, dicD_dic, dicD_loc, isDic_eq, oSub_int, oMul_int, oDiv_int, oMod_int, oI_plus, oI_minus, oLt_int, oLe_int, oGt_int, oGe_int, oEq_int, oEq_str, oEq_bl, oNe_int, oNe_str, oNe_bl, oIs_non, oIsNot_non, isN_non, isN_int, isN_bl, isN_str, isN_tup, isN_lst, isN_loc, atI_lit, atI_natc, atI_neg1, ixO_tup, ixO_lst, ixO_dics, ixO_dici, ixO_locs, ixO_loci, ixL_lst, ixL_dics, ixL_dici, cLen_tup, cLen_lst, cLen_dic, cLen_loc, lenL_lst, lenL_dic, cInt_int, cInt_bl, cAbs_int, cTup_tup, cTup_lst, cTup_loc, tupL_eq, cList_eq, cBls_lst, blsA_eq, fAll_eq, fAny_eq, truD_lst, truD_tup, truD_bl, truD_int, truD_non, truD_loc, truL_lst, truL_dic, itD_tup, itD_lst, miSeq_eq, kIt_eq, miR1_eq, kR1_eq, miR2_eq, kR2_eq, mSl_eq, kSl1_eq, kSl2_eq, kSl3_eq, mNoP_eq, mPart_eq, kPart_eq, slD_tup, slD_lst, slD_rol, slD_loc, slA_eq, mIsi_eq, kIsi_eq, tyD_non, tyD_bl, tyD_int, tyD_str, tyD_tup, tyD_lst, isi_NoneType_tuple, isi_NoneType_list, isi_NoneType_int, isi_NoneType_str, isi_NoneType_bool, isi_NoneType_int_str, isi_bool_tuple, isi_bool_list, isi_bool_int, isi_bool_str, isi_bool_bool, isi_bool_int_str, isi_int_tuple, isi_int_list, isi_int_int, isi_int_str, isi_int_bool, isi_int_int_str, isi_str_tuple, isi_str_list, isi_str_int, isi_str_str, isi_str_bool, isi_str_int_str, isi_tuple_tuple, isi_tuple_list, isi_tuple_int, isi_tuple_str, isi_tuple_bool, isi_tuple_int_str, isi_list_tuple, isi_list_list, isi_list_int, isi_list_str, isi_list_bool, isi_list_int_str, mDicF_eq, kDicF_eq, mDicM_eq, kDicM_eq, dicA_eq, dicB_eq, mDic0_eq, mGet1_eq, kGet1_eq, kGet1a_eq, mGet2_eq, kGet2_eq, kGet2a_eq, kGet2b_eq, kGet3_str, kGet3_int, kForB_eq, kForS_nx, kForS_ct, kForS_bk, kForS_rt, kWh_true, kWh_false, kWhS_nx, kWhS_ct, kWhS_bk, kWhS_rt, mLc_eq, kLc_eq, kLc1_eq, kLc2_true, kLc2_false, kLc3_eq, kLc4_eq, mYes_eq, wipeE_nil, wipeE_cons, mFun_0, mFun_1, mFun_2, mFun_3, mFun_4, mFun_5, mFun_6, mFun_7, mFun_8, mFunL_0, mFunL_1, mFunL_2, mFunL_3, mFunL_4, mFunL_5, mFunL_6, mFunL_7, mFunL_8, endW_rt, endW_nx, mRev_eq, kRev_eq, miTxt_eq, kTxt_eq, oIsB_bl, oIsNotB_bl, oIn_eq, oNotIn_eq, kIn_eq, kNIn_eq, inO_sign, inA_eq, inO_tup, inO_lst, inO_loc, inL_lst, inL_dics, inL_dici, inO_dics, inO_dici, flatD_non, flatD_bl, flatD_int, flatD_str, ixO_dkls, ixO_dkli, inO_dkls, inO_dkli, dicD_dkl, mDitN_eq, ixDN_eq, kIxN_eq, setN_eq, gSetN_eq, kSetN1_eq, kSetN2_eq, kSetN3_eq, mGet2N_eq, kGetN1_eq, kGetN2_eq, kGetN3_eq, kGetN4_eq, miKeysN_eq, kKeysN_eq, miKeysL_eq, kKeysL_eq, sForP_eq, kForP_eq, kForP2_eq, keepM_eq, mLc2_eq, kLd_eq, kLd1_eq, kLd2_true, kLd2_false, kLd2b_eq, kLd3_eq, kLd4_eq, Nat.reduceSub, Nat.reduceAdd, Nat.reduceLeDiff, Nat.reduceLT, Nat.reduceEqDiff, Int.reduceLT, Int.reduceLE, Int.reduceAdd, Int.reduceSub, Int.reduceNeg, Int.reduceMul, Int.reduceToNat, Int.reduceBEq, fits_lit, List.getElem?_cons_zero, List.getElem?_cons_succ, List.getElem?_nil, List.set_cons_zero, List.set_cons_succ, List.set_nil, List.length_cons, List.length_nil, List.length_set, List.length_map, List.length_append, List.set_set, List.replicate_succ, List.replicate_zero, List.isEmpty_nil, List.isEmpty_cons, List.nil_append, List.cons_append, List.append_assoc, Bool.not_true, Bool.not_false, decide_true, decide_false, if_true, if_false, Bool.false_eq_true, Option.getD_none, Option.getD_some, Option.isSome_none, Option.isSome_some, st_app, st_app0, st_set, st_set0, List.getLast?_nil, getLast_snoc, dropLast_snoc])
local macro_rules | `(tactic| l_intsC) => `(tactic| simp only [bnd_some', ret1_some', sSeq_eq, kThen_nx, kThen_rt, kThen_bk, kThen_ct, sNil_eq, sAsg_eq, kAsg_eq, sDrop_eq, kDrop_eq, sRet_eq, kRet_eq, sRetN_eq, sBreak_eq, sCont_eq, sIf_eq, kIf_true, kIf_false, sTgt_eq, kTgt1_eq, kTgt2_eq, sPar_eq, kPar2_eq, sPar3_eq, kPar3_eq, sFor_eq, kFor_eq, sAug_eq, kAug_eq, kAug1_eq, mV_eq, kGot_eq, mC_eq, mOp_eq, kOp1_eq, kOp2_eq, mTB_eq, kB_eq, mAnd_eq, kAnd_true, kAnd_false, mOr_eq, kOr_true, kOr_false, mNot_eq, kNot_eq, mIte_eq, kIte_true, kIte_false, mAndV_eq, kAndV_true, kAndV_false, mOrV_eq, kOrV_true, kOrV_false, mNotV_eq, kNotV_eq, mNil_eq, mCons_eq, kCons1_eq, kCons2_eq, mTup_eq, kTup_eq, mLst_eq, kLst_eq, mFrz_eq, kFrz_eq, mMut_eq, kMut_eq, mCall_eq, mCB_eq, kCB_eq, mCBL_eq, kCBL_eq, mTr_eq, kTr_eq, mNeg_eq, kNeg_eq, mChain_eq, kChn1_eq, kChn2_eq, kChn_true, kChn_false, gN_eq, gsN_eq, gsC_eq, kGs_eq, gT_eq, gTp_eq, gSet_eq, kSet1_eq, kSet2_eq, kSetE_eq, setO_eq, setL_nat, setL_lit, setL_str, mMt_eq, kMt1_eq, kMt1'_eq, kMt2_eq, kMt2'_eq, kMt3_eq, fApp_eq, fPop_eq, kPop_eq, getLast_snoc, dropLast_snoc, fExt_eq, kExt_eq, oAdd_int, oAdd_str, oAdd_tup, oAdd_lst, oAdd_loc, kCat_eq, lstD_lst, lstD_loc, isLst_eq, seqD_tup, seqD_lst, seqD_rol, seqD_loc, dicD_dic, dicD_loc, isDic_eq, oSub_int, oMul_int, oDiv_int, oMod_int, oI_plus, oI_minus, oLt_int, oLe_int, oGt_int, oGe_int, oEq_int, oEq_str, oEq_bl, oNe_int, oNe_str, oNe_bl, oIs_non, oIsNot_non, isN_non, isN_int, isN_bl, isN_str, isN_tup, isN_lst, isN_loc, atI_lit, atI_natc, atI_neg1, ixO_tup, ixO_lst, ixO_dics, ixO_dici, ixO_locs, ixO_loci, ixL_lst, ixL_dics, ixL_dici, cLen_tup, cLen_lst, cLen_dic, cLen_loc, lenL_lst, lenL_dic, cInt_int, cInt_bl, cAbs_int, cTup_tup, cTup_lst, cTup_loc, tupL_eq, cList_eq, cBls_lst, blsA_eq, fAll_eq, fAny_eq, truD_lst, truD_tup, truD_bl, truD_int, truD_non, truD_loc, truL_lst, truL_dic, itD_tup, itD_lst, miSeq_eq, kIt_eq, miR1_eq, kR1_eq, miR2_eq, kR2_eq, mSl_eq, kSl1_eq, kSl2_eq, kSl3_eq, mNoP_eq, mPart_eq, kPart_eq, slD_tup, slD_lst, slD_rol, slD_loc, slA_eq, mIsi_eq, kIsi_eq, tyD_non, tyD_bl, tyD_int, tyD_str, tyD_tup, tyD_lst, isi_NoneType_tuple, isi_NoneType_list, isi_NoneType_int, isi_NoneType_str, isi_NoneType_bool, isi_NoneType_int_str, isi_bool_tuple, isi_bool_list, isi_bool_int, isi_bool_str, isi_bool_bool, isi_bool_int_str, isi_int_tuple, isi_int_list, isi_int_int, isi_int_str, isi_int_bool, isi_int_int_str, isi_str_tuple, isi_str_list, isi_str_int, isi_str_str, isi_str_bool, isi_str_int_str, isi_tuple_tuple, isi_tuple_list, isi_tuple_int, isi_tuple_str, isi_tuple_bool, isi_tuple_int_str, isi_list_tuple, isi_list_list, isi_list_int, isi_list_str, isi_list_bool, isi_list_int_str, mDicF_eq, kDicF_eq, mDicM_eq, kDicM_eq, dicA_eq, dicB_eq, mDic0_eq, mGet1_eq, kGet1_eq, kGet1a_eq, mGet2_eq, kGet2_eq, kGet2a_eq, kGet2b_eq, kGet3_str, kGet3_int, kForB_eq, kForS_nx, kForS_ct, kForS_bk, kForS_rt, kWh_true, kWh_false, kWhS_nx, kWhS_ct, kWhS_bk, kWhS_rt, mLc_eq, kLc_eq, kLc1_eq, kLc2_true, kLc2_false, kLc3_eq, kLc4_eq, mYes_eq, wipeE_nil, wipeE_cons, mFun_0, mFun_1, mFun_2, mFun_3, mFun_4, mFun_5, mFun_6, mFun_7, mFun_8, mFunL_0, mFunL_1, mFunL_2, mFunL_3, mFunL_4, mFunL_5, mFunL_6, mFunL_7, mFunL_8, endW_rt, endW_nx, mRev_eq, kRev_eq, miTxt_eq, kTxt_eq, oIsB_bl, oIsNotB_bl, oIn_eq, oNotIn_eq, kIn_eq, kNIn_eq, inO_sign, inA_eq, inO_tup, inO_lst, inO_loc, inL_lst, inL_dics, inL_dici, inO_dics, inO_dici, flatD_non, flatD_bl, flatD_int, flatD_str, ixO_dkls, ixO_dkli, inO_dkls, inO_dkli, dicD_dkl, mDitN_eq, ixDN_eq, kIxN_eq, setN_eq, gSetN_eq, kSetN1_eq, kSetN2_eq, kSetN3_eq, mGet2N_eq, kGetN1_eq, kGetN2_eq, kGetN3_eq, kGetN4_eq, miKeysN_eq, kKeysN_eq, miKeysL_eq, kKeysL_eq, sForP_eq, kForP_eq, kForP2_eq, keepM_eq, mLc2_eq, kLd_eq, kLd1_eq, kLd2_true, kLd2_false, kLd2b_eq, kLd3_eq, kLd4_eq, Nat.reduceSub, Nat.reduceAdd, Nat.reduceLeDiff, Nat.reduceLT, Nat.reduceEqDiff, Int.reduceLT, Int.reduceLE, Int.reduceAdd, Int.reduceSub, Int.reduceNeg, Int.reduceMul, Int.reduceToNat, Int.reduceBEq, fits_lit, List.getElem?_cons_zero, List.getElem?_cons_succ, List.getElem?_nil, List.set_cons_zero, List.set_cons_succ, List.set_nil, List.length_cons, List.length_nil, List.length_set, List.length_map, List.length_append, List.set_set, List.replicate_succ, List.replicate_zero, List.isEmpty_nil, List.isEmpty_cons, List.nil_append, List.cons_append, List.append_assoc, Bool.not_true, Bool.not_false, decide_true, decide_false, if_true, if_false, Bool.false_eq_true, Option.getD_none, Option.getD_some, Option.isSome_none, Option.isSome_some, st_app, st_app0, st_set, st_set0, List.getLast?_nil, getLast_snoc, dropLast_snoc, *])
def cobj (ns : List Int) (i v k : Int) : D := .lst [.lst (ns.map .int), .int i, .int v, .int k, .int 20]
theorem last_int (ns : List Int) (h : ns ≠ []) : ∃ x : Int, (ns.map D.int).getLast? = some (.int x) := by
  rw [List.getLast?_eq_some_getLast (by simpa using h)]
  exact ⟨ns.getLast h, by simp [List.getLast_map]⟩
theorem fill_tail {st : Store} {lc : Nat} {ns : List Int} {i v k num : Int} (hc : st[lc]? = some (.lst [.lst (ns.map .int), .int i, .int v, .int k, .int 20])) (hk : 0 ≤ k) (hk2 : k < 20000000000000000000) (hn : 0 ≤ num) (hn2 : num < 20000000000000000000000000) :
    ∃ r, R__law_fill_3 [some (.loc lc), some (.int num)] st = some (.rt (.int r), st) ∧ 36028797018963968 ≤ r := by
  have f1 : Fits k = true := fits_ab (by omega) (by omega)
  unfold R__law_fill_3 R__law_fill_2
  -- the end, for any number
  have fin : ∀ num : Int, 0 ≤ num → num < 20000000000000001000000000 → ∃ r, (num * 48271 + k * 69621) % 2147483647 = r ∧ 0 ≤ r ∧ r < 2147483647 ∧ Fits num = true ∧ Fits r = true := fun num h1 h2 =>
    ⟨_, rfl, Int.emod_nonneg _ (by omega), Int.emod_lt_of_pos _ (by omega), fits_ab (by omega) (by omega), fits_ab (by have := Int.emod_nonneg (num * 48271 + k * 69621) (show (2147483647 : Int) ≠ 0 by omega); omega) (by have := Int.emod_lt_of_pos (num * 48271 + k * 69621) (show (0 : Int) < 2147483647 by omega); omega)⟩
  have big : ∀ r : Int, 0 ≤ r → 36028797018963968 ≤ (r * r + k * 7919 + 11) / 64 + 36028797018963968 := fun r hr => by
    have := Int.mul_nonneg hr hr
    omega
  by_cases hns : ns = []
  · subst hns
    obtain ⟨r, e, r0, r1, fn, fr⟩ := fin num hn (by omega)
    refine ⟨_, ?_, big r r0⟩
    l_intsC
    simp only [List.map_nil]
    l_intsC
  · obtain ⟨x, hx⟩ := last_int ns hns
    have hem : (ns.map D.int).isEmpty = false := by cases ns; exact absurd rfl hns; rfl
    by_cases hi : (ns.length : Int) ≤ i
    · have m0 := Int.emod_nonneg x (show (1000003 : Int) ≠ 0 by omega)
      have m1 := Int.emod_lt_of_pos x (show (0 : Int) < 1000003 by omega)
      obtain ⟨r, e, r0, r1, fn, fr⟩ := fin (num + x % 1000003) (by omega) (by omega)
      refine ⟨_, ?_, big r r0⟩
      l_intsC
    · obtain ⟨r, e, r0, r1, fn, fr⟩ := fin num hn (by omega)
      refine ⟨_, ?_, big r r0⟩
      l_intsC
theorem los_map {α : Type} {n : Nat} {f : α → D} (h : ∀ x, lo n (f x) = true) : ∀ l : List α, los n (l.map f) = true
  | [] => rfl
  | x :: l => by
    show (lo n (f x) && los n (l.map f)) = true
    rw [h, los_map h l]
    rfl
theorem lo_cobj (n : Nat) (ns : List Int) (i v k : Int) : lo n (cobj ns i v k) = true := by
  show ((los n (ns.map .int)) && _) = true
  rw [los_map fun _ => rfl]
  rfl
theorem fill_spec {st : Store} {lc : Nat} {ns : List Int} {i v k : Int} (hc : st[lc]? = some (cobj ns i v k)) (hi : 0 ≤ i) (hi2 : i ≤ ns.length) (hk : 0 ≤ k) (hk2 : k < 10000000000000000000) :
    ∃ r i', F__law_fill [.loc lc] st = some (.int r, st.set lc (cobj ns i' v (k + 1))) ∧ 36028797018963968 ≤ r ∧ 0 ≤ i' ∧ i' ≤ ns.length := by
  have hl : lc < st.length := (List.getElem?_eq_some_iff.mp hc).1
  have g : ∀ d, (st.set lc d)[lc]? = some d := fun d => List.getElem?_set_self hl
  have h01 : (0 : Int) - 1 = -1 := rfl
  have f1 : Fits (k + 1) = true := fits_ab (by omega) (by omega)
  have fs : ∀ (i' r : Int), fin st (.int r) (st.set lc (cobj ns i' v (k + 1))) = some (.int r, st.set lc (cobj ns i' v (k + 1))) := fun i' r => fin_set0 hl (lo_cobj _ _ _ _ _) rfl
  unfold F__law_fill B__law_fill R__law_fill_1
  by_cases h : i < (ns.length : Int)
  · -- a number of the script
    obtain ⟨x, hx⟩ : ∃ x : Int, atI (ns.map D.int) i = some (.int x) := by
      obtain ⟨j, rfl⟩ : ∃ j : Nat, i = (j : Int) := ⟨i.toNat, by omega⟩
      have hlt : j < ns.length := by omega
      exact ⟨ns[j], by rw [atI_nat', List.getElem?_map, List.getElem?_eq_getElem hlt]; rfl⟩
    have p18 : ∀ st : Store, oI fPow (.int 10) (.int 18) st = some (.int 1000000000000000000) := fun st => by rw [oPow_lit (by decide)]; rfl
    by_cases hx0 : x < 0
    · by_cases hb : 1000000000000000000 ≤ -1 - x
      · refine ⟨-1 - x, i + 1, ?_, by omega, by omega, by omega⟩
        rw [← fs]
        unfold cobj at hc ⊢
        l_intsC
      · obtain ⟨r, e, hr⟩ := fill_tail (st := st.set lc (cobj ns (i + 1) v (k + 1))) (lc := lc) (ns := ns) (i := i + 1) (v := v) (k := k + 1) (num := -1 - x) (g _) (by omega) (by omega) (by omega) (by omega)
        refine ⟨r, i + 1, ?_, hr, by omega, by omega⟩
        rw [← fs]
        unfold cobj at hc e ⊢
        l_intsC
    · by_cases hb : 1000000000000000000 ≤ x
      · refine ⟨x, i + 1, ?_, by omega, by omega, by omega⟩
        rw [← fs]
        unfold cobj at hc ⊢
        l_intsC
      · obtain ⟨r, e, hr⟩ := fill_tail (st := st.set lc (cobj ns (i + 1) v (k + 1))) (lc := lc) (ns := ns) (i := i + 1) (v := v) (k := k + 1) (num := x) (g _) (by omega) (by omega) (by omega) (by omega)
        refine ⟨r, i + 1, ?_, hr, by omega, by omega⟩
        rw [← fs]
        unfold cobj at hc e ⊢
        l_intsC
  · obtain ⟨r, e, hr⟩ := fill_tail (st := st.set lc (cobj ns i v (k + 1))) (lc := lc) (ns := ns) (i := i) (v := v) (k := k + 1) (num := (k + 1) * 69621 + 12345) (g _) (by omega) (by omega) (by omega) (by omega)
    refine ⟨r, i, ?_, hr, hi, hi2⟩
    rw [← fs]
    unfold cobj at hc e ⊢
    l_intsC
end K31
end
section
set_option Elab.async false
set_option autoImplicit false
set_option linter.all false
set_option maxRecDepth 100000
set_option maxHeartbeats 2000000
namespace K31
open PySem L2 Mn
local macro_rules | `(tactic| l_ints) => `(tactic| simp only [bnd_some', ret1_some', sSeq_eq, kThen_nx, kThen_rt, kThen_bk, kThen_ct, sNil_eq, sAsg_eq, kAsg_eq, sDrop_eq, kDrop_eq, sRet_eq, kRet_eq, sRetN_eq, sBreak_eq, sCont_eq, sIf_eq, kIf_true, kIf_false, sTgt_eq, kTgt1_eq, kTgt2_eq, sPar_eq, kPar2_eq, sPar3_eq, kPar3_eq, sFor_eq, kFor_eq, sAug_eq, kAug_eq, kAug1_eq, mV_eq, kGot_eq, mC_eq, mOp_eq, kOp1_eq, kOp2_eq, mTB_eq, kB_eq, mAnd_eq, kAnd_true, kAnd_false, mOr_eq, kOr_true, kOr_false, mNot_eq, kNot_eq, mIte_eq, kIte_true, kIte_false, mAndV_eq, kAndV_true, kAndV_false, mOrV_eq, kOrV_true, kOrV_false, mNotV_eq, kNotV_eq, mNil_eq, mCons_eq, kCons1_eq, kCons2_eq, mTup_eq, kTup_eq, mLst_eq, kLst_eq, mFrz_eq, kFrz_eq, mMut_eq, kMut_eq, mCall_eq, mCB_eq, kCB_eq, mCBL_eq, kCBL_eq, mTr_eq, kTr_eq, mNeg_eq, kNeg_eq, mChain_eq, kChn1_eq, kChn2_eq, kChn_true, kChn_false, gN_eq, gsN_eq, gsC_eq, kGs_eq, gT_eq, gTp_eq, gSet_eq, kSet1_eq, kSet2_eq, kSetE_eq, setO_eq, setL_nat, setL_lit, setL_str, mMt_eq, kMt1_eq, kMt1'_eq, kMt2_eq, kMt2'_eq, kMt3_eq, fApp_eq, fPop_eq, kPop_eq, getLast_snoc, dropLast_snoc, fExt_eq, kExt_eq, oAdd_int, oAdd_str, oAdd_tup, oAdd_lst, oAdd_loc, kCat_eq, lstD_lst, lstD_loc, isLst_eq, seqD_tup, seqD_lst, seqD_rol, seqD_loc, dicD_dic, dicD_loc, isDic_eq, oSub_int, oMul_int, oDiv_int, oMod_int, oI_plus, oI_minus, oLt_int, oLe_int, oGt_int, oGe_int, oEq_int, oEq_str, oEq_bl, oNe_int, oNe_str, oNe_bl, oIs_non, oIsNot_non, isN_non, isN_int, isN_bl, isN_str, isN_tup, isN_lst, isN_loc, atI_lit, atI_natc, atI_neg1, ixO_tup, ixO_lst, ixO_dics, ixO_dici, ixO_locs, ixO_loci, ixL_lst, ixL_dics, ixL_dici, cLen_tup, cLen_lst, cLen_dic, cLen_loc, lenL_lst, lenL_dic, cInt_int, cInt_bl, cAbs_int, cTup_tup, cTup_lst, cTup_loc, tupL_eq, cList_eq, cBls_lst, blsA_eq, fAll_eq, fAny_eq, truD_lst, truD_tup, truD_bl, truD_int, truD_non, truD_loc, truL_lst, truL_dic, itD_tup, itD_lst, miSeq_eq, kIt_eq, miR1_eq, kR1_eq, miR2_eq, kR2_eq, mSl_eq, kSl1_eq, kSl2_eq, kSl3_eq, mNoP_eq, mPart_eq, kPart_eq, slD_tup, slD_lst, slD_rol, slD_loc, slA_eq, mIsi_eq, kIsi_eq, tyD_non, tyD_bl, tyD_int, tyD_str, tyD_tup, tyD_lst, isi_NoneType_tuple, isi_NoneType_list, isi_NoneType_int, isi_NoneType_str, isi_NoneType_bool, isi_NoneType_int_str, isi_bool_tuple, isi_bool_list, isi_bool_int, isi_bool_str, isi_bool_bool, isi_bool_int_str, isi_int_tuple, isi_int_list, isi_int_int, isi_int_str, isi_int_bool, isi_int_int_str, isi_str_tuple, isi_str_list, isi_str_int, isi_str_str, isi_str_bool, isi_str_int_str, isi_tuple_tuple, isi_tuple_list, isi_tuple_int, isi_tuple_str, isi_tuple_bool, isi_tuple_int_str, isi_list_tuple, isi_list_list, isi_list_int, isi_list_str, isi_list_bool, isi_list_int_str, mDicF_eq, kDicF_eq, mDicM_eq, kDicM_eq, dicA_eq, dicB_eq, mDic0_eq, mGet1_eq, kGet1_eq, kGet1a_eq, mGet2_eq, kGet2_eq, kGet2a_eq, kGet2b_eq, kGet3_str, kGet3_int, kForB_eq, kForS_nx, kForS_ct, kForS_bk, kForS_rt, kWh_true, kWh_false, kWhS_nx, kWhS_ct, kWhS_bk, kWhS_rt, mLc_eq, kLc_eq, kLc1_eq, kLc2_true, kLc2_false, kLc3_eq, kLc4_eq, mYes_eq, wipeE_nil, wipeE_cons, mFun_0, mFun_1, mFun_2, mFun_3, mFun_4, mFun_5, mFun_6, mFun_7, mFun_8, mFunL_0, mFunL_1, mFunL_2, mFunL_3, mFunL_4, mFunL_5, mFunL_6, mFunL_7, mFunL_8, endW_rt, endW_nx, mRev_eq, kRev_eq, miTxt_eq, kTxt_eq, oIsB_bl, oIsNotB_bl, oIn_eq, oNotIn_eq, kIn_eq, kNIn_eq, inO_sign, inA_eq, inO_tup, inO_lst, inO_loc, inL_lst, inL_dics, inL_dici, inO_dics, inO_dici, flatD_non, flatD_bl, flatD_int, flatD_str, ixO_dkls, ixO_dkli, inO_dkls, inO_dkli, dicD_dkl, mDitN_eq, ixDN_eq, kIxN_eq, setN_eq, gSetN_eq, kSetN1_eq, kSetN2_eq, kSetN3_eq, mGet2N_eq, kGetN1_eq, kGetN2_eq, kGetN3_eq, kGetN4_eq, miKeysN_eq, kKeysN_eq, miKeysL_eq, kKeysL_eq, sForP_eq, kForP_eq, kForP2_eq, keepM_eq, mLc2_eq, kLd_eq, kLd1_eq, kLd2_true, kLd2_false, kLd2b_eq, kLd3_eq, kLd4_eq, Nat.reduceSub, Nat.reduceAdd, Nat.reduceLeDiff, Nat.reduceLT, Nat.reduceEqDiff, Int.reduceLT, Int.reduceLE, Int.reduceAdd, Int.reduceSub, Int.reduceNeg, Int.reduceMul, Int.reduceToNat, Int.reduceBEq, fits_lit, List.getElem?_cons_zero, List.getElem?_cons_succ, List.getElem?_nil, List.set_cons_zero, List.set_cons_succ, List.set_nil, List.length_cons, List.length_nil, List.length_set, List.length_map, List.length_append, List.set_set, List.replicate_succ, List.replicate_zero, List.isEmpty_nil, List.isEmpty_cons, List.nil_append, List.cons_append, List.append_assoc, Bool.not_true, Bool.not_false, decide_true, decide_false, if_true, if_false, Bool.false_eq_true, Option.getD_none, Option.getD_some, Option.isSome_none, Option.isSome_some, st_app, st_app0, st_set, st_set0, List.getLast?_nil, getLast_snoc, dropLast_snoc])
local macro_rules | `(tactic| l_intsC) => `(tactic| simp only [bnd_some', ret1_some', sSeq_eq, kThen_nx, kThen_rt, kThen_bk, kThen_ct, sNil_eq, sAsg_eq, kAsg_eq, sDrop_eq, kDrop_eq, sRet_eq, kRet_eq, sRetN_eq, sBreak_eq, sCont_eq, sIf_eq, kIf_true, kIf_false, sTgt_eq, kTgt1_eq, kTgt2_eq, sPar_eq, kPar2_eq, sPar3_eq, kPar3_eq, sFor_eq, kFor_eq, sAug_eq, kAug_eq, kAug1_eq, mV_eq, kGot_eq, mC_eq, mOp_eq, kOp1_eq, kOp2_eq, mTB_eq, kB_eq, mAnd_eq, kAnd_true, kAnd_false, mOr_eq, kOr_true, kOr_false, mNot_eq, kNot_eq, mIte_eq, kIte_true, kIte_false, mAndV_eq, kAndV_true, kAndV_false, mOrV_eq, kOrV_true, kOrV_false, mNotV_eq, kNotV_eq, mNil_eq, mCons_eq, kCons1_eq, kCons2_eq, mTup_eq, kTup_eq, mLst_eq, kLst_eq, mFrz_eq, kFrz_eq, mMut_eq, kMut_eq, mCall_eq, mCB_eq, kCB_eq, mCBL_eq, kCBL_eq, mTr_eq, kTr_eq, mNeg_eq, kNeg_eq, mChain_eq, kChn1_eq, kChn2_eq, kChn_true, kChn_false, gN_eq, gsN_eq, gsC_eq, kGs_eq, gT_eq, gTp_eq, gSet_eq, kSet1_eq, kSet2_eq, kSetE_eq, setO_eq, setL_nat, setL_lit, setL_str, mMt_eq, kMt1_eq, kMt1'_eq, kMt2_eq, kMt2'_eq, kMt3_eq, fApp_eq, fPop_eq, kPop_eq, getLast_snoc, dropLast_snoc, fExt_eq, kExt_eq, oAdd_int, oAdd_str, oAdd_tup, oAdd_lst, oAdd_loc, kCat_eq, lstD_lst, lstD_loc, isLst_eq, seqD_tup, seqD_lst, seqD_rol, seqD_loc, dicD_dic, dicD_loc, isDic_eq, oSub_int, oMul_int, oDiv_int, oMod_int, oI_plus, oI_minus, oLt_int, oLe_int, oGt_int, oGe_int, oEq_int, oEq_str, oEq_bl, oNe_int, oNe_str, oNe_bl, oIs_non, oIsNot_non, isN_non, isN_int, isN_bl, isN_str, isN_tup, isN_lst, isN_loc, atI_lit, atI_natc, atI_neg1, ixO_tup, ixO_lst, ixO_dics, ixO_dici, ixO_locs, ixO_loci, ixL_lst, ixL_dics, ixL_dici, cLen_tup, cLen_lst, cLen_dic, cLen_loc, lenL_lst, lenL_dic, cInt_int, cInt_bl, cAbs_int, cTup_tup, cTup_lst, cTup_loc, tupL_eq, cList_eq, cBls_lst, blsA_eq, fAll_eq, fAny_eq, truD_lst, truD_tup, truD_bl, truD_int, truD_non, truD_loc, truL_lst, truL_dic, itD_tup, itD_lst, miSeq_eq, kIt_eq, miR1_eq, kR1_eq, miR2_eq, kR2_eq, mSl_eq, kSl1_eq, kSl2_eq, kSl3_eq, mNoP_eq, mPart_eq, kPart_eq, slD_tup, slD_lst, slD_rol, slD_loc, slA_eq, mIsi_eq, kIsi_eq, tyD_non, tyD_bl, tyD_int, tyD_str, tyD_tup, tyD_lst, isi_NoneType_tuple, isi_NoneType_list, isi_NoneType_int, isi_NoneType_str, isi_NoneType_bool, isi_NoneType_int_str, isi_bool_tuple, isi_bool_list, isi_bool_int, isi_bool_str, isi_bool_bool, isi_bool_int_str, isi_int_tuple, isi_int_list, isi_int_int, isi_int_str, isi_int_bool, isi_int_int_str, isi_str_tuple, isi_str_list, isi_str_int, isi_str_str, isi_str_bool, isi_str_int_str, isi_tuple_tuple, isi_tuple_list, isi_tuple_int, isi_tuple_str, isi_tuple_bool, isi_tuple_int_str, isi_list_tuple, isi_list_list, isi_list_int, isi_list_str, isi_list_bool, isi_list_int_str, mDicF_eq, kDicF_eq, mDicM_eq, kDicM_eq, dicA_eq, dicB_eq, mDic0_eq, mGet1_eq, kGet1_eq, kGet1a_eq, mGet2_eq, kGet2_eq, kGet2a_eq, kGet2b_eq, kGet3_str, kGet3_int, kForB_eq, kForS_nx, kForS_ct, kForS_bk, kForS_rt, kWh_true, kWh_false, kWhS_nx, kWhS_ct, kWhS_bk, kWhS_rt, mLc_eq, kLc_eq, kLc1_eq, kLc2_true, kLc2_false, kLc3_eq, kLc4_eq, mYes_eq, wipeE_nil, wipeE_cons, mFun_0, mFun_1, mFun_2, mFun_3, mFun_4, mFun_5, mFun_6, mFun_7, mFun_8, mFunL_0, mFunL_1, mFunL_2, mFunL_3, mFunL_4, mFunL_5, mFunL_6, mFunL_7, mFunL_8, endW_rt, endW_nx, mRev_eq, kRev_eq, miTxt_eq, kTxt_eq, oIsB_bl, oIsNotB_bl, oIn_eq, oNotIn_eq, kIn_eq, kNIn_eq, inO_sign, inA_eq, inO_tup, inO_lst, inO_loc, inL_lst, inL_dics, inL_dici, inO_dics, inO_dici, flatD_non, flatD_bl, flatD_int, flatD_str, ixO_dkls, ixO_dkli, inO_dkls, inO_dkli, dicD_dkl, mDitN_eq, ixDN_eq, kIxN_eq, setN_eq, gSetN_eq, kSetN1_eq, kSetN2_eq, kSetN3_eq, mGet2N_eq, kGetN1_eq, kGetN2_eq, kGetN3_eq, kGetN4_eq, miKeysN_eq, kKeysN_eq, miKeysL_eq, kKeysL_eq, sForP_eq, kForP_eq, kForP2_eq, keepM_eq, mLc2_eq, kLd_eq, kLd1_eq, kLd2_true, kLd2_false, kLd2b_eq, kLd3_eq, kLd4_eq, Nat.reduceSub, Nat.reduceAdd, Nat.reduceLeDiff, Nat.reduceLT, Nat.reduceEqDiff, Int.reduceLT, Int.reduceLE, Int.reduceAdd, Int.reduceSub, Int.reduceNeg, Int.reduceMul, Int.reduceToNat, Int.reduceBEq, fits_lit, List.getElem?_cons_zero, List.getElem?_cons_succ, List.getElem?_nil, List.set_cons_zero, List.set_cons_succ, List.set_nil, List.length_cons, List.length_nil, List.length_set, List.length_map, List.length_append, List.set_set, List.replicate_succ, List.replicate_zero, List.isEmpty_nil, List.isEmpty_cons, List.nil_append, List.cons_append, List.append_assoc, Bool.not_true, Bool.not_false, decide_true, decide_false, if_true, if_false, Bool.false_eq_true, Option.getD_none, Option.getD_some, Option.isSome_none, Option.isSome_some, st_app, st_app0, st_set, st_set0, List.getLast?_nil, getLast_snoc, dropLast_snoc, *])
structure CSt where
  i : Int
  v : Int
  k : Int
def Good (ns : List Int) (K : Int) (s : CSt) : Prop := (0 ≤ s.i ∧ s.i ≤ ns.length) ∧ 0 ≤ s.k ∧ s.k ≤ K
theorem Good.mono {ns : List Int} {K K' : Int} {s : CSt} (h : Good ns K s) (hk : K ≤ K') : Good ns K' s := ⟨h.1, h.2.1, by have := h.2.2; omega⟩
/-- the store with the draws' state s at lc -/
def cst (st : Store) (lc : Nat) (ns : List Int) (s : CSt) : Store := st.set lc (cobj ns s.i s.v s.k)
section
variable {st : Store} {lc : Nat} {ns : List Int} {s s' : CSt} {K m : Int} {d : D} {g : Store}
theorem cst_get (h : lc < st.length) : (cst st lc ns s)[lc]? = some (cobj ns s.i s.v s.k) := List.getElem?_set_self h
theorem cst_len : (cst st lc ns s).length = st.length := by simp [cst]
theorem cst_set {i v k : Int} : (cst st lc ns s).set lc (cobj ns i v k) = cst st lc ns ⟨i, v, k⟩ := by simp [cst]
theorem cst_app (h : lc < st.length) : cst st lc ns s ++ g = cst (st ++ g) lc ns s := by
  unfold cst
  rw [List.set_append_left _ _ h]
theorem fin_cst (h : lc < st.length) (hd : lo st.length d = true) : fin (cst st lc ns s) d (cst st lc ns s') = some (d, cst st lc ns s') := by
  have e : cst st lc ns s' = (cst st lc ns s).set lc (cobj ns s'.i s'.v s'.k) := by simp [cst]
  rw [e]
  exact fin_set0 (by rw [cst_len]; exact h) (lo_cobj _ _ _ _ _) (by rw [cst_len]; exact hd)
theorem fin_cstg (h : lc < st.length) (hd : lo st.length d = true) : fin (cst st lc ns s) d (cst st lc ns s' ++ g) = some (d, cst st lc ns s') := by
  have e : cst st lc ns s' = (cst st lc ns s).set lc (cobj ns s'.i s'.v s'.k) := by simp [cst]
  rw [e]
  exact fin_set (by rw [cst_len]; exact h) (lo_cobj _ _ _ _ _) (by rw [cst_len]; exact hd)
theorem take_rest (h : lc < st.length) (hm : 0 < m) (hm2 : m < 16777216) : ∃ d s', R__law_take_1 [some (.loc lc), some (.int m), none] (cst st lc ns s) = some (.rt (.int d), cst st lc ns s') ∧ (0 ≤ d ∧ d < m) ∧ s'.i = s.i ∧ s'.k = s.k := by
  have hc := cst_get (ns := ns) (s := s) h
  have hl : lc < (cst st lc ns s).length := by rw [cst_len]; exact h
  have g : ∀ d, ((cst st lc ns s).set lc d)[lc]? = some d := fun d => List.getElem?_set_self hl
  have f1 : Fits m = true := fits_ab (by omega) (by omega)
  refine ⟨s.v % m, ⟨s.i, s.v / m, s.k⟩, ?_, ⟨Int.emod_nonneg _ (by omega), Int.emod_lt_of_pos _ hm⟩, rfl, rfl⟩
  have e : cst st lc ns ⟨s.i, s.v / m, s.k⟩ = (cst st lc ns s).set lc (cobj ns s.i (s.v / m) s.k) := cst_set.symm
  rw [e]
  unfold R__law_take_1
  unfold cobj at hc ⊢
  l_intsC
theorem take_spec (h : lc < st.length) (hg : Good ns K s) (hK : K < 1000000000000000000) (hm : 0 < m) (hm2 : m < 16777216) :
    ∃ d s', F__law_take [.loc lc, .int m] (cst st lc ns s) = some (.int d, cst st lc ns s') ∧ (0 ≤ d ∧ d < m) ∧ Good ns (K + 1) s' := by
  have hc := cst_get (ns := ns) (s := s) h
  have hl : lc < (cst st lc ns s).length := by rw [cst_len]; exact h
  have g : ∀ d, ((cst st lc ns s).set lc d)[lc]? = some d := fun d => List.getElem?_set_self hl
  obtain ⟨⟨g1, g2⟩, g3, g4⟩ := hg
  unfold F__law_take B__law_take
  by_cases hv : s.v < m
  · obtain ⟨r, i', e, hr, h1, h2⟩ := fill_spec hc g1 g2 g3 (by omega)
    obtain ⟨d, s', e2, hd, hi, hk⟩ := take_rest (ns := ns) (s := ⟨i', r, s.k + 1⟩) h hm hm2
    refine ⟨d, s', ?_, hd, ⟨by rw [hi]; exact ⟨h1, h2⟩, by rw [hk]; show 0 ≤ s.k + 1; omega, by rw [hk]; show s.k + 1 ≤ K + 1; omega⟩⟩
    have e3 : cst st lc ns ⟨i', r, s.k + 1⟩ = (cst st lc ns s).set lc (cobj ns i' r (s.k + 1)) := cst_set.symm
    rw [e3] at e2
    unfold cobj at hc e e2
    l_intsC
    rw [fin_cst h rfl]
  · obtain ⟨d, s', e2, hd, hi, hk⟩ := take_rest (ns := ns) (s := s) h hm hm2
    refine ⟨d, s', ?_, hd, ⟨by rw [hi]; exact ⟨g1, g2⟩, by rw [hk]; exact g3, by rw [hk]; omega⟩⟩
    unfold cobj at hc
    l_intsC
    rw [fin_cst h rfl]
end
end K31
end
section
set_option Elab.async false
set_option autoImplicit false
set_option linter.all false
set_option maxRecDepth 100000
set_option maxHeartbeats 2000000
namespace K31
open PySem L2 Mn
local macro_rules | `(tactic| l_ints) => `(tactic| simp only [bnd_some', ret1_some', sSeq_eq, kThen_nx, kThen_rt, kThen_bk, kThen_ct, sNil_eq, sAsg_eq, kAsg_eq, sDrop_eq, kDrop_eq, sRet_eq, kRet_eq, sRetN_eq, sBreak_eq, sCont_eq, sIf_eq, kIf_true, kIf_false, sTgt_eq, kTgt1_eq, kTgt2_eq, sPar_eq, kPar2_eq, sPar3_eq, kPar3_eq, sFor_eq, kFor_eq, sAug_eq, kAug_eq, kAug1_eq, mV_eq, kGot_eq, mC_eq, mOp_eq, kOp1_eq, kOp2_eq, mTB_eq, kB_eq, mAnd_eq, kAnd_true, kAnd_false, mOr_eq, kOr_true, kOr_false, mNot_eq, kNot_eq, mIte_eq, kIte_true, kIte_false, mAndV_eq, kAndV_true, kAndV_false, mOrV_eq, kOrV_true, kOrV_false, mNotV_eq, kNotV_eq, mNil_eq, mCons_eq, kCons1_eq, kCons2_eq, mTup_eq, kTup_eq, mLst_eq, kLst_eq, mFrz_eq, kFrz_eq, mMut_eq, kMut_eq, mCall_eq, mCB_eq, kCB_eq, mCBL_eq, kCBL_eq, mTr_eq, kTr_eq, mNeg_eq, kNeg_eq, mChain_eq, kChn1_eq, kChn2_eq, kChn_true, kChn_false, gN_eq, gsN_eq, gsC_eq, kGs_eq, gT_eq, gTp_eq, gSet_eq, kSet1_eq, kSet2_eq, kSetE_eq, setO_eq, setL_nat, setL_lit, setL_str, mMt_eq, kMt1_eq, kMt1'_eq, kMt2_eq, kMt2'_eq, kMt3_eq, fApp_eq, fPop_eq, kPop_eq, getLast_snoc, dropLast_snoc, fExt_eq, kExt_eq, oAdd_int, oAdd_str, oAdd_tup, oAdd_lst, oAdd_loc, kCat_eq, lstD_lst, lstD_loc, isLst_eq, seqD_tup, seqD_lst, seqD_rol, seqD_loc, dicD_dic, dicD_loc, isDic_eq, oSub_int, oMul_int, oDiv_int, oMod_int, oI_plus, oI_minus, oLt_int, oLe_int, oGt_int, oGe_int, oEq_int, oEq_str, oEq_bl, oNe_int, oNe_str, oNe_bl, oIs_non, oIsNot_non, isN_non, isN_int, isN_bl, isN_str, isN_tup, isN_lst, isN_loc, atI_lit, atI_natc, atI_neg1, ixO_tup, ixO_lst, ixO_dics, ixO_dici, ixO_locs, ixO_loci, ixL_lst, ixL_dics, ixL_dici, cLen_tup, cLen_lst, cLen_dic, cLen_loc, lenL_lst, lenL_dic, cInt_int, cInt_bl, cAbs_int, cTup_tup, cTup_lst, cTup_loc, tupL_eq, cList_eq, cBls_lst, blsA_eq, fAll_eq, fAny_eq, truD_lst, truD_tup, truD_bl, truD_int, truD_non, truD_loc, truL_lst, truL_dic, itD_tup, itD_lst, miSeq_eq, kIt_eq, miR1_eq, kR1_eq, miR2_eq, kR2_eq, mSl_eq, kSl1_eq, kSl2_eq, kSl3_eq, mNoP_eq, mPart_eq, kPart_eq, slD_tup, slD_lst, slD_rol, slD_loc, slA_eq, mIsi_eq, kIsi_eq, tyD_non, tyD_bl, tyD_int, tyD_str, tyD_tup, tyD_lst, isi_NoneType_tuple, isi_NoneType_list, isi_NoneType_int, isi_NoneType_str, isi_NoneType_bool, isi_NoneType_int_str, isi_bool_tuple, isi_bool_list, isi_bool_int, isi_bool_str, isi_bool_bool, isi_bool_int_str, isi_int_tuple, isi_int_list, isi_int_int, isi_int_str, isi_int_bool, isi_int_int_str, isi_str_tuple, isi_str_list, isi_str_int, isi_str_str, isi_str_bool, isi_str_int_str, isi_tuple_tuple, isi_tuple_list, isi_tuple_int, isi_tuple_str, isi_tuple_bool, isi_tuple_int_str, isi_list_tuple, isi_list_list, isi_list_int, isi_list_str, isi_list_bool, isi_list_int_str, mDicF_eq, kDicF_eq, mDicM_eq, kDicM_eq, dicA_eq, dicB_eq, mDic0_eq, mGet1_eq, kGet1_eq, kGet1a_eq, mGet2_eq, kGet2_eq, kGet2a_eq, kGet2b_eq, kGet3_str, kGet3_int, kForB_eq, kForS_nx, kForS_ct, kForS_bk, kForS_rt, kWh_true, kWh_false, kWhS_nx, kWhS_ct, kWhS_bk, kWhS_rt, mLc_eq, kLc_eq, kLc1_eq, kLc2_true, kLc2_false, kLc3_eq, kLc4_eq, mYes_eq, wipeE_nil, wipeE_cons, mFun_0, mFun_1, mFun_2, mFun_3, mFun_4, mFun_5, mFun_6, mFun_7, mFun_8, mFunL_0, mFunL_1, mFunL_2, mFunL_3, mFunL_4, mFunL_5, mFunL_6, mFunL_7, mFunL_8, endW_rt, endW_nx, mRev_eq, kRev_eq, miTxt_eq, kTxt_eq, oIsB_bl, oIsNotB_bl, oIn_eq, oNotIn_eq, kIn_eq, kNIn_eq, inO_sign, inA_eq, inO_tup, inO_lst, inO_loc, inL_lst, inL_dics, inL_dici, inO_dics, inO_dici, flatD_non, flatD_bl, flatD_int, flatD_str, ixO_dkls, ixO_dkli, inO_dkls, inO_dkli, dicD_dkl, mDitN_eq, ixDN_eq, kIxN_eq, setN_eq, gSetN_eq, kSetN1_eq, kSetN2_eq, kSetN3_eq, mGet2N_eq, kGetN1_eq, kGetN2_eq, kGetN3_eq, kGetN4_eq, miKeysN_eq, kKeysN_eq, miKeysL_eq, kKeysL_eq, sForP_eq, kForP_eq, kForP2_eq, keepM_eq, mLc2_eq, kLd_eq, kLd1_eq, kLd2_true, kLd2_false, kLd2b_eq, kLd3_eq, kLd4_eq, Nat.reduceSub, Nat.reduceAdd, Nat.reduceLeDiff, Nat.reduceLT, Nat.reduceEqDiff, Int.reduceLT, Int.reduceLE, Int.reduceAdd, Int.reduceSub, Int.reduceNeg, Int.reduceMul, Int.reduceToNat, Int.reduceBEq, fits_lit, List.getElem?_cons_zero, List.getElem?_cons_succ, List.getElem?_nil, List.set_cons_zero, List.set_cons_succ, List.set_nil, List.length_cons, List.length_nil, List.length_set, List.length_map, List.length_append, List.set_set, List.replicate_succ, List.replicate_zero, List.isEmpty_nil, List.isEmpty_cons, List.nil_append, List.cons_append, List.append_assoc, Bool.not_true, Bool.not_false, decide_true, decide_false, if_true, if_false, Bool.false_eq_true, Option.getD_none, Option.getD_some, Option.isSome_none, Option.isSome_some, st_app, st_app0, st_set, st_set0, List.getLast?_nil, getLast_snoc, dropLast_snoc])
local macro_rules | `(tactic| l_intsC) => `(tactic| simp only [bnd_some', ret1_some', sSeq_eq, kThen_nx, kThen_rt, kThen_bk, kThen_ct, sNil_eq, sAsg_eq, kAsg_eq, sDrop_eq, kDrop_eq, sRet_eq, kRet_eq, sRetN_eq, sBreak_eq, sCont_eq, sIf_eq, kIf_true, kIf_false, sTgt_eq, kTgt1_eq, kTgt2_eq, sPar_eq, kPar2_eq, sPar3_eq, kPar3_eq, sFor_eq, kFor_eq, sAug_eq, kAug_eq, kAug1_eq, mV_eq, kGot_eq, mC_eq, mOp_eq, kOp1_eq, kOp2_eq, mTB_eq, kB_eq, mAnd_eq, kAnd_true, kAnd_false, mOr_eq, kOr_true, kOr_false, mNot_eq, kNot_eq, mIte_eq, kIte_true, kIte_false, mAndV_eq, kAndV_true, kAndV_false, mOrV_eq, kOrV_true, kOrV_false, mNotV_eq, kNotV_eq, mNil_eq, mCons_eq, kCons1_eq, kCons2_eq, mTup_eq, kTup_eq, mLst_eq, kLst_eq, mFrz_eq, kFrz_eq, mMut_eq, kMut_eq, mCall_eq, mCB_eq, kCB_eq, mCBL_eq, kCBL_eq, mTr_eq, kTr_eq, mNeg_eq, kNeg_eq, mChain_eq, kChn1_eq, kChn2_eq, kChn_true, kChn_false, gN_eq, gsN_eq, gsC_eq, kGs_eq, gT_eq, gTp_eq, gSet_eq, kSet1_eq, kSet2_eq, kSetE_eq, setO_eq, setL_nat, setL_lit, setL_str, mMt_eq, kMt1_eq, kMt1'_eq, kMt2_eq, kMt2'_eq, kMt3_eq, fApp_eq, fPop_eq, kPop_eq, getLast_snoc, dropLast_snoc, fExt_eq, kExt_eq, oAdd_int, oAdd_str, oAdd_tup, oAdd_lst, oAdd_loc, kCat_eq, lstD_lst, lstD_loc, isLst_eq, seqD_tup, seqD_lst, seqD_rol, seqD_loc, dicD_dic, dicD_loc, isDic_eq, oSub_int, oMul_int, oDiv_int, oMod_int, oI_plus, oI_minus, oLt_int, oLe_int, oGt_int, oGe_int, oEq_int, oEq_str, oEq_bl, oNe_int, oNe_str, oNe_bl, oIs_non, oIsNot_non, isN_non, isN_int, isN_bl, isN_str, isN_tup, isN_lst, isN_loc, atI_lit, atI_natc, atI_neg1, ixO_tup, ixO_lst, ixO_dics, ixO_dici, ixO_locs, ixO_loci, ixL_lst, ixL_dics, ixL_dici, cLen_tup, cLen_lst, cLen_dic, cLen_loc, lenL_lst, lenL_dic, cInt_int, cInt_bl, cAbs_int, cTup_tup, cTup_lst, cTup_loc, tupL_eq, cList_eq, cBls_lst, blsA_eq, fAll_eq, fAny_eq, truD_lst, truD_tup, truD_bl, truD_int, truD_non, truD_loc, truL_lst, truL_dic, itD_tup, itD_lst, miSeq_eq, kIt_eq, miR1_eq, kR1_eq, miR2_eq, kR2_eq, mSl_eq, kSl1_eq, kSl2_eq, kSl3_eq, mNoP_eq, mPart_eq, kPart_eq, slD_tup, slD_lst, slD_rol, slD_loc, slA_eq, mIsi_eq, kIsi_eq, tyD_non, tyD_bl, tyD_int, tyD_str, tyD_tup, tyD_lst, isi_NoneType_tuple, isi_NoneType_list, isi_NoneType_int, isi_NoneType_str, isi_NoneType_bool, isi_NoneType_int_str, isi_bool_tuple, isi_bool_list, isi_bool_int, isi_bool_str, isi_bool_bool, isi_bool_int_str, isi_int_tuple, isi_int_list, isi_int_int, isi_int_str, isi_int_bool, isi_int_int_str, isi_str_tuple, isi_str_list, isi_str_int, isi_str_str, isi_str_bool, isi_str_int_str, isi_tuple_tuple, isi_tuple_list, isi_tuple_int, isi_tuple_str, isi_tuple_bool, isi_tuple_int_str, isi_list_tuple, isi_list_list, isi_list_int, isi_list_str, isi_list_bool, isi_list_int_str, mDicF_eq, kDicF_eq, mDicM_eq, kDicM_eq, dicA_eq, dicB_eq, mDic0_eq, mGet1_eq, kGet1_eq, kGet1a_eq, mGet2_eq, kGet2_eq, kGet2a_eq, kGet2b_eq, kGet3_str, kGet3_int, kForB_eq, kForS_nx, kForS_ct, kForS_bk, kForS_rt, kWh_true, kWh_false, kWhS_nx, kWhS_ct, kWhS_bk, kWhS_rt, mLc_eq, kLc_eq, kLc1_eq, kLc2_true, kLc2_false, kLc3_eq, kLc4_eq, mYes_eq, wipeE_nil, wipeE_cons, mFun_0, mFun_1, mFun_2, mFun_3, mFun_4, mFun_5, mFun_6, mFun_7, mFun_8, mFunL_0, mFunL_1, mFunL_2, mFunL_3, mFunL_4, mFunL_5, mFunL_6, mFunL_7, mFunL_8, endW_rt, endW_nx, mRev_eq, kRev_eq, miTxt_eq, kTxt_eq, oIsB_bl, oIsNotB_bl, oIn_eq, oNotIn_eq, kIn_eq, kNIn_eq, inO_sign, inA_eq, inO_tup, inO_lst, inO_loc, inL_lst, inL_dics, inL_dici, inO_dics, inO_dici, flatD_non, flatD_bl, flatD_int, flatD_str, ixO_dkls, ixO_dkli, inO_dkls, inO_dkli, dicD_dkl, mDitN_eq, ixDN_eq, kIxN_eq, setN_eq, gSetN_eq, kSetN1_eq, kSetN2_eq, kSetN3_eq, mGet2N_eq, kGetN1_eq, kGetN2_eq, kGetN3_eq, kGetN4_eq, miKeysN_eq, kKeysN_eq, miKeysL_eq, kKeysL_eq, sForP_eq, kForP_eq, kForP2_eq, keepM_eq, mLc2_eq, kLd_eq, kLd1_eq, kLd2_true, kLd2_false, kLd2b_eq, kLd3_eq, kLd4_eq, Nat.reduceSub, Nat.reduceAdd, Nat.reduceLeDiff, Nat.reduceLT, Nat.reduceEqDiff, Int.reduceLT, Int.reduceLE, Int.reduceAdd, Int.reduceSub, Int.reduceNeg, Int.reduceMul, Int.reduceToNat, Int.reduceBEq, fits_lit, List.getElem?_cons_zero, List.getElem?_cons_succ, List.getElem?_nil, List.set_cons_zero, List.set_cons_succ, List.set_nil, List.length_cons, List.length_nil, List.length_set, List.length_map, List.length_append, List.set_set, List.replicate_succ, List.replicate_zero, List.isEmpty_nil, List.isEmpty_cons, List.nil_append, List.cons_append, List.append_assoc, Bool.not_true, Bool.not_false, decide_true, decide_false, if_true, if_false, Bool.false_eq_true, Option.getD_none, Option.getD_some, Option.isSome_none, Option.isSome_some, st_app, st_app0, st_set, st_set0, List.getLast?_nil, getLast_snoc, dropLast_snoc, *])
theorem div_loop {st : Store} : ∀ (l : List D) (a : Int) (b : Nat) (j : Option D), b < l.length → forL (gN 2) L__law_divisor_1 l [some (.int a), some (.int b), j] st = some (.rt (.int (Int.gcd a b)), st)
  | [], a, b, j, h => by simp at h
  | x :: l, a, b, j, h => by
    simp only [List.length_cons] at h
    rw [forL_cons]
    unfold L__law_divisor_1 R__law_divisor_1
    by_cases hb : b = 0
    · subst hb
      have e : (((0 : Nat) : Int) == 0) = true := rfl
      l_intsC
      simp
    · have e : ((b : Int) == 0) = false := by simp; omega
      have hb' : (0 : Int) < b := by omega
      have ih := div_loop (st := st) l b (a % b).toNat (some x) (by have := Int.emod_lt_of_pos a hb'; have := Int.emod_nonneg a (show (b : Int) ≠ 0 by omega); omega)
      have e2 : (((a % b).toNat : Nat) : Int) = a % b := Int.toNat_of_nonneg (Int.emod_nonneg a (by omega))
      rw [e2] at ih
      unfold L__law_divisor_1 R__law_divisor_1 at ih
      l_intsC
      have : Int.gcd (b : Int) (a % b) = Int.gcd a b := by rw [Int.emod_def, Int.gcd_sub_mul_left_right, Int.gcd_comm]
      rw [this]
theorem divisor_eq (a b : Int) (st : Store) (h : 0 ≤ b) (h2 : b < 20000) : F__law_divisor [.int a, .int b] st = some (.int (Int.gcd a b), st) := by
  obtain ⟨n, rfl⟩ : ∃ n : Nat, b = (n : Int) := ⟨b.toNat, by omega⟩
  unfold F__law_divisor B__law_divisor
  l_ints
  rw [div_loop _ a n none (by rw [rngL_length]; omega)]
  l_ints
  rw [fin_same rfl]
def frac (n d : Int) : Int × Int := (n / Int.gcd n d, d / Int.gcd n d)
def eF (p : Int × Int) : D := .tup [.int p.1, .int p.2]
theorem gcd_pos (n d : Int) (h : 0 < d) : (0 : Int) < Int.gcd n d := by
  have : 0 < Int.gcd n d := Int.gcd_pos_of_ne_zero_right _ (by omega)
  omega
theorem gcd_le (n d : Int) (h : 0 < d) : (Int.gcd n d : Int) ≤ d := Int.le_of_dvd h (Int.gcd_dvd_right ..)
theorem fraction_eq (n d : Int) (st : Store) (h : 0 < d) (h2 : d < 20000) : F__law_fraction [.int n, .int d] st = some (eF (frac n d), st) := by
  have hd := divisor_eq n d st (by omega) h2
  have g0 := gcd_pos n d h
  have g1 := gcd_le n d h
  have f1 : Fits (Int.gcd n d : Int) = true := fits_ab (by omega) (by omega)
  unfold F__law_fraction B__law_fraction
  l_intsC
  rw [fin_same rfl]
  rfl
theorem plus_eq (a b : Int × Int) (st : Store) (h1 : 0 < a.2 ∧ a.2 < 1000) (h2 : 0 < b.2 ∧ b.2 < 1000) (h : a.2 * b.2 < 20000) (h3 : -1000 < a.1 ∧ a.1 < 1000) (h4 : -1000 < b.1 ∧ b.1 < 1000) :
    F__law_plus [eF a, eF b] st = some (eF (frac (a.1 * b.2 + b.1 * a.2) (a.2 * b.2)), st) := by
  have e := fraction_eq (a.1 * b.2 + b.1 * a.2) (a.2 * b.2) st (Int.mul_pos h1.1 h2.1) h
  have f1 : Fits a.1 = true := fits_ab (by omega) (by omega)
  have f2 : Fits a.2 = true := fits_ab (by omega) (by omega)
  have f3 : Fits b.1 = true := fits_ab (by omega) (by omega)
  have f4 : Fits b.2 = true := fits_ab (by omega) (by omega)
  unfold F__law_plus B__law_plus
  unfold eF at e ⊢
  l_intsC
  rw [fin_same rfl]
theorem times_eq (a b : Int × Int) (st : Store) (h1 : 0 < a.2 ∧ a.2 < 1000) (h2 : 0 < b.2 ∧ b.2 < 1000) (h : a.2 * b.2 < 20000) (h3 : -1000 < a.1 ∧ a.1 < 1000) (h4 : -1000 < b.1 ∧ b.1 < 1000) :
    F__law_times [eF a, eF b] st = some (eF (frac (a.1 * b.1) (a.2 * b.2)), st) := by
  have e := fraction_eq (a.1 * b.1) (a.2 * b.2) st (Int.mul_pos h1.1 h2.1) h
  have f1 : Fits a.1 = true := fits_ab (by omega) (by omega)
  have f2 : Fits a.2 = true := fits_ab (by omega) (by omega)
  have f3 : Fits b.1 = true := fits_ab (by omega) (by omega)
  have f4 : Fits b.2 = true := fits_ab (by omega) (by omega)
  unfold F__law_times B__law_times
  unfold eF at e ⊢
  l_intsC
  rw [fin_same rfl]
theorem atI_map {α : Type} {f : α → D} {l : List α} {a : Int} (h : 0 ≤ a) (h2 : a < l.length) : ∃ x, x ∈ l ∧ atI (l.map f) a = some (f x) := by
  obtain ⟨j, rfl⟩ : ∃ j : Nat, a = (j : Int) := ⟨a.toNat, by omega⟩
  have hlt : j < l.length := by omega
  exact ⟨l[j], List.getElem_mem hlt, by rw [atI_nat', List.getElem?_map, List.getElem?_eq_getElem hlt]; rfl⟩
def menu : List (Int × Int) := [(1, 1), (1, 2), (1, 3), (2, 3), (1, 4), (3, 4), (1, 5), (2, 7), (1, 10)]
/-- the shares of a cut -/
def lcmL : List (Int × Int) → Int → Int
  | [], f => f
  | r :: rs, f => lcmL rs (f * r.2 / Int.gcd f r.2)
def sumL (m : Int) : List (Int × Int) → Int
  | [] => 0
  | r :: rs => r.1 * (m / r.2) + sumL m rs
/-- the running least multiples stay small -/
def lokL : List (Int × Int) → Int → Bool
  | [], _ => true
  | r :: rs, f => decide (0 < f ∧ f < 20000) && decide (0 < r.1 ∧ 0 < r.2 ∧ r.1 ≤ r.2 ∧ r.2 < 20000) && lokL rs (f * r.2 / Int.gcd f r.2)
def fplus (a b : Int × Int) : Int × Int := frac (a.1 * b.2 + b.1 * a.2) (a.2 * b.2)
def okF (r : Int × Int) : Bool := decide (0 < r.2) && (decide (0 < r.1) && ((Int.gcd r.1 r.2 : Int) == 1)) && decide (r.1 < 2000 ∧ r.2 < 2000)
def CutOK (rs : List (Int × Int)) : Bool := (rs.all okF && ((rs.foldl fplus (0, 1)).1 == 1 && (rs.foldl fplus (0, 1)).2 == 1) && !rs.isEmpty) && lokL rs 1 && decide (sumL (lcmL rs 1) rs = lcmL rs 1) && decide (0 < lcmL rs 1 ∧ lcmL rs 1 < 20000) && decide (lcmL rs 1 = 1 → rs = [(1, 1)]) && decide (rs.length ≤ 3) && rs.all (fun r => decide (176400 % r.2 = 0 ∧ r.1 ≤ r.2))
def rest0 (p : Int × Int) : Int × Int := frac (p.2 - p.1) p.2
def part0 (p q : Int × Int) : Int × Int := frac ((rest0 p).1 * q.1) ((rest0 p).2 * q.2)
def rest1 (p q : Int × Int) : Int × Int := frac ((rest0 p).1 * (part0 p q).2 + (0 - (part0 p q).1) * (rest0 p).2) ((rest0 p).2 * (part0 p q).2)
theorem cut_ok1 : CutOK [(1, 1)] = true := by decide +kernel
theorem cut_ok2 : ∀ p ∈ menu, p.2 ≠ 1 → CutOK [p, rest0 p] = true := by decide +kernel
theorem cut_ok3 : ∀ p ∈ menu, p.2 ≠ 1 → ∀ q ∈ menu.tail, CutOK [p, part0 p q, rest1 p q] = true := by decide +kernel
theorem sz0 : ∀ p ∈ menu, 0 < p.1 ∧ p.1 ≤ 3 ∧ 0 < p.2 ∧ p.2 ≤ 10 ∧ (p = (1, 1) ∨ p.2 ≠ 1) := by decide +kernel
theorem sz1 : ∀ p ∈ menu, p.2 ≠ 1 → 0 < (rest0 p).2 ∧ (rest0 p).2 ≤ 10 ∧ -20 < (rest0 p).1 ∧ (rest0 p).1 < 20 := by decide +kernel
theorem sz2 : ∀ p ∈ menu, p.2 ≠ 1 → ∀ q ∈ menu.tail, 0 < (part0 p q).2 ∧ (part0 p q).2 ≤ 100 ∧ -200 < (part0 p q).1 ∧ (part0 p q).1 < 200 := by decide +kernel
end K31
end
section
set_option Elab.async false
set_option autoImplicit false
set_option linter.all false
set_option maxRecDepth 100000
set_option maxHeartbeats 2000000
namespace K31
open PySem L2 Mn
local macro_rules | `(tactic| l_ints) => `(tactic| simp only [bnd_some', ret1_some', sSeq_eq, kThen_nx, kThen_rt, kThen_bk, kThen_ct, sNil_eq, sAsg_eq, kAsg_eq, sDrop_eq, kDrop_eq, sRet_eq, kRet_eq, sRetN_eq, sBreak_eq, sCont_eq, sIf_eq, kIf_true, kIf_false, sTgt_eq, kTgt1_eq, kTgt2_eq, sPar_eq, kPar2_eq, sPar3_eq, kPar3_eq, sFor_eq, kFor_eq, sAug_eq, kAug_eq, kAug1_eq, mV_eq, kGot_eq, mC_eq, mOp_eq, kOp1_eq, kOp2_eq, mTB_eq, kB_eq, mAnd_eq, kAnd_true, kAnd_false, mOr_eq, kOr_true, kOr_false, mNot_eq, kNot_eq, mIte_eq, kIte_true, kIte_false, mAndV_eq, kAndV_true, kAndV_false, mOrV_eq, kOrV_true, kOrV_false, mNotV_eq, kNotV_eq, mNil_eq, mCons_eq, kCons1_eq, kCons2_eq, mTup_eq, kTup_eq, mLst_eq, kLst_eq, mFrz_eq, kFrz_eq, mMut_eq, kMut_eq, mCall_eq, mCB_eq, kCB_eq, mCBL_eq, kCBL_eq, mTr_eq, kTr_eq, mNeg_eq, kNeg_eq, mChain_eq, kChn1_eq, kChn2_eq, kChn_true, kChn_false, gN_eq, gsN_eq, gsC_eq, kGs_eq, gT_eq, gTp_eq, gSet_eq, kSet1_eq, kSet2_eq, kSetE_eq, setO_eq, setL_nat, setL_lit, setL_str, mMt_eq, kMt1_eq, kMt1'_eq, kMt2_eq, kMt2'_eq, kMt3_eq, fApp_eq, fPop_eq, kPop_eq, getLast_snoc, dropLast_snoc, fExt_eq, kExt_eq, oAdd_int, oAdd_str, oAdd_tup, oAdd_lst, oAdd_loc, kCat_eq, lstD_lst, lstD_loc, isLst_eq, seqD_tup, seqD_lst, seqD_rol, seqD_loc, dicD_dic, dicD_loc, isDic_eq, oSub_int, oMul_int, oDiv_int, oMod_int, oI_plus, oI_minus, oLt_int, oLe_int, oGt_int, oGe_int, oEq_int, oEq_str, oEq_bl, oNe_int, oNe_str, oNe_bl, oIs_non, oIsNot_non, isN_non, isN_int, isN_bl, isN_str, isN_tup, isN_lst, isN_loc, atI_lit, atI_natc, atI_neg1, ixO_tup, ixO_lst, ixO_dics, ixO_dici, ixO_locs, ixO_loci, ixL_lst, ixL_dics, ixL_dici, cLen_tup, cLen_lst, cLen_dic, cLen_loc, lenL_lst, lenL_dic, cInt_int, cInt_bl, cAbs_int, cTup_tup, cTup_lst, cTup_loc, tupL_eq, cList_eq, cBls_lst, blsA_eq, fAll_eq, fAny_eq, truD_lst, truD_tup, truD_bl, truD_int, truD_non, truD_loc, truL_lst, truL_dic, itD_tup, itD_lst, miSeq_eq, kIt_eq, miR1_eq, kR1_eq, miR2_eq, kR2_eq, mSl_eq, kSl1_eq, kSl2_eq, kSl3_eq, mNoP_eq, mPart_eq, kPart_eq, slD_tup, slD_lst, slD_rol, slD_loc, slA_eq, mIsi_eq, kIsi_eq, tyD_non, tyD_bl, tyD_int, tyD_str, tyD_tup, tyD_lst, isi_NoneType_tuple, isi_NoneType_list, isi_NoneType_int, isi_NoneType_str, isi_NoneType_bool, isi_NoneType_int_str, isi_bool_tuple, isi_bool_list, isi_bool_int, isi_bool_str, isi_bool_bool, isi_bool_int_str, isi_int_tuple, isi_int_list, isi_int_int, isi_int_str, isi_int_bool, isi_int_int_str, isi_str_tuple, isi_str_list, isi_str_int, isi_str_str, isi_str_bool, isi_str_int_str, isi_tuple_tuple, isi_tuple_list, isi_tuple_int, isi_tuple_str, isi_tuple_bool, isi_tuple_int_str, isi_list_tuple, isi_list_list, isi_list_int, isi_list_str, isi_list_bool, isi_list_int_str, mDicF_eq, kDicF_eq, mDicM_eq, kDicM_eq, dicA_eq, dicB_eq, mDic0_eq, mGet1_eq, kGet1_eq, kGet1a_eq, mGet2_eq, kGet2_eq, kGet2a_eq, kGet2b_eq, kGet3_str, kGet3_int, kForB_eq, kForS_nx, kForS_ct, kForS_bk, kForS_rt, kWh_true, kWh_false, kWhS_nx, kWhS_ct, kWhS_bk, kWhS_rt, mLc_eq, kLc_eq, kLc1_eq, kLc2_true, kLc2_false, kLc3_eq, kLc4_eq, mYes_eq, wipeE_nil, wipeE_cons, mFun_0, mFun_1, mFun_2, mFun_3, mFun_4, mFun_5, mFun_6, mFun_7, mFun_8, mFunL_0, mFunL_1, mFunL_2, mFunL_3, mFunL_4, mFunL_5, mFunL_6, mFunL_7, mFunL_8, endW_rt, endW_nx, mRev_eq, kRev_eq, miTxt_eq, kTxt_eq, oIsB_bl, oIsNotB_bl, oIn_eq, oNotIn_eq, kIn_eq, kNIn_eq, inO_sign, inA_eq, inO_tup, inO_lst, inO_loc, inL_lst, inL_dics, inL_dici, inO_dics, inO_dici, flatD_non, flatD_bl, flatD_int, flatD_str, ixO_dkls, ixO_dkli, inO_dkls, inO_dkli, dicD_dkl, mDitN_eq, ixDN_eq, kIxN_eq, setN_eq, gSetN_eq, kSetN1_eq, kSetN2_eq, kSetN3_eq, mGet2N_eq, kGetN1_eq, kGetN2_eq, kGetN3_eq, kGetN4_eq, miKeysN_eq, kKeysN_eq, miKeysL_eq, kKeysL_eq, sForP_eq, kForP_eq, kForP2_eq, keepM_eq, mLc2_eq, kLd_eq, kLd1_eq, kLd2_true, kLd2_false, kLd2b_eq, kLd3_eq, kLd4_eq, Nat.reduceSub, Nat.reduceAdd, Nat.reduceLeDiff, Nat.reduceLT, Nat.reduceEqDiff, Int.reduceLT, Int.reduceLE, Int.reduceAdd, Int.reduceSub, Int.reduceNeg, Int.reduceMul, Int.reduceToNat, Int.reduceBEq, fits_lit, List.getElem?_cons_zero, List.getElem?_cons_succ, List.getElem?_nil, List.set_cons_zero, List.set_cons_succ, List.set_nil, List.length_cons, List.length_nil, List.length_set, List.length_map, List.length_append, List.set_set, List.replicate_succ, List.replicate_zero, List.isEmpty_nil, List.isEmpty_cons, List.nil_append, List.cons_append, List.append_assoc, Bool.not_true, Bool.not_false, decide_true, decide_false, if_true, if_false, Bool.false_eq_true, Option.getD_none, Option.getD_some, Option.isSome_none, Option.isSome_some, st_app, st_app0, st_set, st_set0, List.getLast?_nil, getLast_snoc, dropLast_snoc])
local macro_rules | `(tactic| l_intsC) => `(tactic| simp only [bnd_some', ret1_some', sSeq_eq, kThen_nx, kThen_rt, kThen_bk, kThen_ct, sNil_eq, sAsg_eq, kAsg_eq, sDrop_eq, kDrop_eq, sRet_eq, kRet_eq, sRetN_eq, sBreak_eq, sCont_eq, sIf_eq, kIf_true, kIf_false, sTgt_eq, kTgt1_eq, kTgt2_eq, sPar_eq, kPar2_eq, sPar3_eq, kPar3_eq, sFor_eq, kFor_eq, sAug_eq, kAug_eq, kAug1_eq, mV_eq, kGot_eq, mC_eq, mOp_eq, kOp1_eq, kOp2_eq, mTB_eq, kB_eq, mAnd_eq, kAnd_true, kAnd_false, mOr_eq, kOr_true, kOr_false, mNot_eq, kNot_eq, mIte_eq, kIte_true, kIte_false, mAndV_eq, kAndV_true, kAndV_false, mOrV_eq, kOrV_true, kOrV_false, mNotV_eq, kNotV_eq, mNil_eq, mCons_eq, kCons1_eq, kCons2_eq, mTup_eq, kTup_eq, mLst_eq, kLst_eq, mFrz_eq, kFrz_eq, mMut_eq, kMut_eq, mCall_eq, mCB_eq, kCB_eq, mCBL_eq, kCBL_eq, mTr_eq, kTr_eq, mNeg_eq, kNeg_eq, mChain_eq, kChn1_eq, kChn2_eq, kChn_true, kChn_false, gN_eq, gsN_eq, gsC_eq, kGs_eq, gT_eq, gTp_eq, gSet_eq, kSet1_eq, kSet2_eq, kSetE_eq, setO_eq, setL_nat, setL_lit, setL_str, mMt_eq, kMt1_eq, kMt1'_eq, kMt2_eq, kMt2'_eq, kMt3_eq, fApp_eq, fPop_eq, kPop_eq, getLast_snoc, dropLast_snoc, fExt_eq, kExt_eq, oAdd_int, oAdd_str, oAdd_tup, oAdd_lst, oAdd_loc, kCat_eq, lstD_lst, lstD_loc, isLst_eq, seqD_tup, seqD_lst, seqD_rol, seqD_loc, dicD_dic, dicD_loc, isDic_eq, oSub_int, oMul_int, oDiv_int, oMod_int, oI_plus, oI_minus, oLt_int, oLe_int, oGt_int, oGe_int, oEq_int, oEq_str, oEq_bl, oNe_int, oNe_str, oNe_bl, oIs_non, oIsNot_non, isN_non, isN_int, isN_bl, isN_str, isN_tup, isN_lst, isN_loc, atI_lit, atI_natc, atI_neg1, ixO_tup, ixO_lst, ixO_dics, ixO_dici, ixO_locs, ixO_loci, ixL_lst, ixL_dics, ixL_dici, cLen_tup, cLen_lst, cLen_dic, cLen_loc, lenL_lst, lenL_dic, cInt_int, cInt_bl, cAbs_int, cTup_tup, cTup_lst, cTup_loc, tupL_eq, cList_eq, cBls_lst, blsA_eq, fAll_eq, fAny_eq, truD_lst, truD_tup, truD_bl, truD_int, truD_non, truD_loc, truL_lst, truL_dic, itD_tup, itD_lst, miSeq_eq, kIt_eq, miR1_eq, kR1_eq, miR2_eq, kR2_eq, mSl_eq, kSl1_eq, kSl2_eq, kSl3_eq, mNoP_eq, mPart_eq, kPart_eq, slD_tup, slD_lst, slD_rol, slD_loc, slA_eq, mIsi_eq, kIsi_eq, tyD_non, tyD_bl, tyD_int, tyD_str, tyD_tup, tyD_lst, isi_NoneType_tuple, isi_NoneType_list, isi_NoneType_int, isi_NoneType_str, isi_NoneType_bool, isi_NoneType_int_str, isi_bool_tuple, isi_bool_list, isi_bool_int, isi_bool_str, isi_bool_bool, isi_bool_int_str, isi_int_tuple, isi_int_list, isi_int_int, isi_int_str, isi_int_bool, isi_int_int_str, isi_str_tuple, isi_str_list, isi_str_int, isi_str_str, isi_str_bool, isi_str_int_str, isi_tuple_tuple, isi_tuple_list, isi_tuple_int, isi_tuple_str, isi_tuple_bool, isi_tuple_int_str, isi_list_tuple, isi_list_list, isi_list_int, isi_list_str, isi_list_bool, isi_list_int_str, mDicF_eq, kDicF_eq, mDicM_eq, kDicM_eq, dicA_eq, dicB_eq, mDic0_eq, mGet1_eq, kGet1_eq, kGet1a_eq, mGet2_eq, kGet2_eq, kGet2a_eq, kGet2b_eq, kGet3_str, kGet3_int, kForB_eq, kForS_nx, kForS_ct, kForS_bk, kForS_rt, kWh_true, kWh_false, kWhS_nx, kWhS_ct, kWhS_bk, kWhS_rt, mLc_eq, kLc_eq, kLc1_eq, kLc2_true, kLc2_false, kLc3_eq, kLc4_eq, mYes_eq, wipeE_nil, wipeE_cons, mFun_0, mFun_1, mFun_2, mFun_3, mFun_4, mFun_5, mFun_6, mFun_7, mFun_8, mFunL_0, mFunL_1, mFunL_2, mFunL_3, mFunL_4, mFunL_5, mFunL_6, mFunL_7, mFunL_8, endW_rt, endW_nx, mRev_eq, kRev_eq, miTxt_eq, kTxt_eq, oIsB_bl, oIsNotB_bl, oIn_eq, oNotIn_eq, kIn_eq, kNIn_eq, inO_sign, inA_eq, inO_tup, inO_lst, inO_loc, inL_lst, inL_dics, inL_dici, inO_dics, inO_dici, flatD_non, flatD_bl, flatD_int, flatD_str, ixO_dkls, ixO_dkli, inO_dkls, inO_dkli, dicD_dkl, mDitN_eq, ixDN_eq, kIxN_eq, setN_eq, gSetN_eq, kSetN1_eq, kSetN2_eq, kSetN3_eq, mGet2N_eq, kGetN1_eq, kGetN2_eq, kGetN3_eq, kGetN4_eq, miKeysN_eq, kKeysN_eq, miKeysL_eq, kKeysL_eq, sForP_eq, kForP_eq, kForP2_eq, keepM_eq, mLc2_eq, kLd_eq, kLd1_eq, kLd2_true, kLd2_false, kLd2b_eq, kLd3_eq, kLd4_eq, Nat.reduceSub, Nat.reduceAdd, Nat.reduceLeDiff, Nat.reduceLT, Nat.reduceEqDiff, Int.reduceLT, Int.reduceLE, Int.reduceAdd, Int.reduceSub, Int.reduceNeg, Int.reduceMul, Int.reduceToNat, Int.reduceBEq, fits_lit, List.getElem?_cons_zero, List.getElem?_cons_succ, List.getElem?_nil, List.set_cons_zero, List.set_cons_succ, List.set_nil, List.length_cons, List.length_nil, List.length_set, List.length_map, List.length_append, List.set_set, List.replicate_succ, List.replicate_zero, List.isEmpty_nil, List.isEmpty_cons, List.nil_append, List.cons_append, List.append_assoc, Bool.not_true, Bool.not_false, decide_true, decide_false, if_true, if_false, Bool.false_eq_true, Option.getD_none, Option.getD_some, Option.isSome_none, Option.isSome_some, st_app, st_app0, st_set, st_set0, List.getLast?_nil, getLast_snoc, dropLast_snoc, *])
section
variable {st : Store} {lc : Nat} {ns : List Int} {s s' : CSt} {K m : Int} {d : D} {g : Store}
theorem fin_csta (h : lc < st.length) (hd : lo st.length d = true) : fin (cst st lc ns s) d (cst (st ++ g) lc ns s') = some (d, cst st lc ns s') := by
  rw [← cst_app h]
  exact fin_cstg h hd
theorem menu_tail {d : Int} (h : 0 ≤ d) (h2 : d < 8) : ∃ q, q ∈ menu.tail ∧ atI (menu.map eF) (1 + d) = some (eF q) := by
  obtain ⟨q, hq, e⟩ := atI_map (f := eF) (l := menu.tail) h h2
  refine ⟨q, hq, ?_⟩
  obtain ⟨j, rfl⟩ : ∃ j : Nat, d = (j : Int) := ⟨d.toNat, by omega⟩
  have : (1 + (j : Int)) = ((j + 1 : Nat) : Int) := by omega
  rw [this, atI_nat']
  rw [atI_nat'] at e
  exact e
theorem cst_snoc_get (h : lc < st.length) : (cst (st ++ [d]) lc ns s)[st.length]? = some d := by
  rw [← cst_app h]
  have := cst_len (st := st) (lc := lc) (ns := ns) (s := s)
  rw [← this]
  exact st_app0
theorem cst_snoc_set {e : D} (h : lc < st.length) : (cst (st ++ [d]) lc ns s).set st.length e = cst (st ++ [e]) lc ns s := by
  rw [← cst_app h, ← cst_app h]
  have := cst_len (st := st) (lc := lc) (ns := ns) (s := s)
  rw [← this]
  exact st_set0
theorem cut_spec (h : lc < st.length) (hg : Good ns K s) (hK : K + 3 < 1000000000000000000) :
    ∃ rs s', F__law_cut [.loc lc] (cst st lc ns s) = some (.lst (rs.map eF), cst st lc ns s') ∧ CutOK rs = true ∧ Good ns (K + 3) s' := by
  obtain ⟨d, s1, e1, hd, g1⟩ := take_spec h hg (by omega) (m := 9) (by omega) (by omega)
  obtain ⟨p, hp, a1⟩ := atI_map (f := eF) (l := menu) hd.1 hd.2
  obtain ⟨p1, p2, p3, p4, p5⟩ := sz0 p hp
  unfold menu eF at a1
  simp only [List.map_cons, List.map_nil] at a1
  unfold F__law_cut B__law_cut
  rcases p5 with p5 | p5
  · subst p5
    refine ⟨[(1, 1)], s1, ?_, cut_ok1, g1.mono (by omega)⟩
    have : ((1 : Int) == 1) = true := rfl
    l_intsC
    rw [fin_cst h rfl]
    rfl
  · have q1 : (p.2 == 1) = false := by simpa using p5
    obtain ⟨r1, r2, r3, r4⟩ := sz1 p hp p5
    have e2 : ∀ st : Store, F__law_fraction [.int (p.2 - p.1), .int p.2] st = some (.tup [.int (rest0 p).1, .int (rest0 p).2], st) := fun st => fraction_eq (p.2 - p.1) p.2 st (by omega) (by omega)
    have c0 := cst_len (st := st) (lc := lc) (ns := ns) (s := s1)
    have c1 : cst st lc ns s1 ++ [.lst [.tup [.int p.1, .int p.2]]] = cst (st ++ [.lst [.tup [.int p.1, .int p.2]]]) lc ns s1 := cst_app h
    have h' : lc < (st ++ [D.lst [.tup [.int p.1, .int p.2]]]).length := by simp; omega
    obtain ⟨t, s2, e3, ht, g2⟩ := take_spec h' g1 (by omega) (m := 3) (by omega) (by omega)
    unfold R__law_cut_2 R__law_cut_1
    by_cases ht0 : t = 0
    · subst ht0
      have t0 : ((0 : Int) == 0) = true := rfl
      obtain ⟨b, s3, e4, hb, g3⟩ := take_spec h' g2 (by omega) (m := 8) (by omega) (by omega)
      obtain ⟨q, hq, a2⟩ := menu_tail hb.1 hb.2
      unfold menu eF at a2
      simp only [List.map_cons, List.map_nil] at a2
      have hq' : q ∈ menu := List.mem_of_mem_tail hq
      obtain ⟨q2, q3, q4, q5, _⟩ := sz0 q hq'
      obtain ⟨u1, u2, u3, u4⟩ := sz2 p hp p5 q hq
      have b1 : ∀ x y : Int, 0 < x → x ≤ 100 → 0 < y → y ≤ 100 → x * y < 20000 := fun x y h1 h2 h3 h4 => by
        have := Int.mul_le_mul h2 h4 (by omega) (by omega)
        omega
      have e5 : ∀ st : Store, F__law_times [.tup [.int (rest0 p).1, .int (rest0 p).2], .tup [.int q.1, .int q.2]] st = some (.tup [.int (part0 p q).1, .int (part0 p q).2], st) := fun st => times_eq (rest0 p) q st (by omega) (by omega) (b1 _ _ (by omega) (by omega) (by omega) (by omega)) (by omega) (by omega)
      have e6 : ∀ st : Store, F__law_plus [.tup [.int (rest0 p).1, .int (rest0 p).2], .tup [.int (0 - (part0 p q).1), .int (part0 p q).2]] st = some (.tup [.int (rest1 p q).1, .int (rest1 p q).2], st) := fun st => plus_eq (rest0 p) (0 - (part0 p q).1, (part0 p q).2) st (by omega) ⟨by show 0 < (part0 p q).2; omega, by show (part0 p q).2 < 1000; omega⟩ (b1 _ _ (by omega) (by omega) (by show 0 < (part0 p q).2; omega) (by show (part0 p q).2 ≤ 100; omega)) (by omega) ⟨by show -1000 < 0 - (part0 p q).1; omega, by show 0 - (part0 p q).1 < 1000; omega⟩
      refine ⟨[p, part0 p q, rest1 p q], s3, ?_, cut_ok3 p hp p5 q hq, g3.mono (by omega)⟩
      have k1 := cst_snoc_get (st := st) (lc := lc) (ns := ns) (s := s3) (d := .lst [.tup [.int p.1, .int p.2]]) h
      have k2 := cst_snoc_set (st := st) (lc := lc) (ns := ns) (s := s3) (d := .lst [.tup [.int p.1, .int p.2]]) (e := .lst [.tup [.int p.1, .int p.2], .tup [.int (part0 p q).1, .int (part0 p q).2]]) h
      have k3 := cst_snoc_get (st := st) (lc := lc) (ns := ns) (s := s3) (d := .lst [.tup [.int p.1, .int p.2], .tup [.int (part0 p q).1, .int (part0 p q).2]]) h
      l_intsC
      rw [fin_csta h rfl]
      rfl
    · have t0 : (t == 0) = false := by simpa using ht0
      have k1 := cst_snoc_get (st := st) (lc := lc) (ns := ns) (s := s2) (d := .lst [.tup [.int p.1, .int p.2]]) h
      refine ⟨[p, rest0 p], s2, ?_, cut_ok2 p hp p5, g2.mono (by omega)⟩
      l_intsC
      rw [fin_csta h rfl]
      rfl
end
end K31
end
section
set_option Elab.async false
set_option autoImplicit false
set_option linter.all false
set_option maxRecDepth 100000
set_option maxHeartbeats 2000000
namespace K31
open PySem L2 Mn
local macro_rules | `(tactic| l_ints) => `(tactic| simp only [bnd_some', ret1_some', sSeq_eq, kThen_nx, kThen_rt, kThen_bk, kThen_ct, sNil_eq, sAsg_eq, kAsg_eq, sDrop_eq, kDrop_eq, sRet_eq, kRet_eq, sRetN_eq, sBreak_eq, sCont_eq, sIf_eq, kIf_true, kIf_false, sTgt_eq, kTgt1_eq, kTgt2_eq, sPar_eq, kPar2_eq, sPar3_eq, kPar3_eq, sFor_eq, kFor_eq, sAug_eq, kAug_eq, kAug1_eq, mV_eq, kGot_eq, mC_eq, mOp_eq, kOp1_eq, kOp2_eq, mTB_eq, kB_eq, mAnd_eq, kAnd_true, kAnd_false, mOr_eq, kOr_true, kOr_false, mNot_eq, kNot_eq, mIte_eq, kIte_true, kIte_false, mAndV_eq, kAndV_true, kAndV_false, mOrV_eq, kOrV_true, kOrV_false, mNotV_eq, kNotV_eq, mNil_eq, mCons_eq, kCons1_eq, kCons2_eq, mTup_eq, kTup_eq, mLst_eq, kLst_eq, mFrz_eq, kFrz_eq, mMut_eq, kMut_eq, mCall_eq, mCB_eq, kCB_eq, mCBL_eq, kCBL_eq, mTr_eq, kTr_eq, mNeg_eq, kNeg_eq, mChain_eq, kChn1_eq, kChn2_eq, kChn_true, kChn_false, gN_eq, gsN_eq, gsC_eq, kGs_eq, gT_eq, gTp_eq, gSet_eq, kSet1_eq, kSet2_eq, kSetE_eq, setO_eq, setL_nat, setL_lit, setL_str, mMt_eq, kMt1_eq, kMt1'_eq, kMt2_eq, kMt2'_eq, kMt3_eq, fApp_eq, fPop_eq, kPop_eq, getLast_snoc, dropLast_snoc, fExt_eq, kExt_eq, oAdd_int, oAdd_str, oAdd_tup, oAdd_lst, oAdd_loc, kCat_eq, lstD_lst, lstD_loc, isLst_eq, seqD_tup, seqD_lst, seqD_rol, seqD_loc, dicD_dic, dicD_loc, isDic_eq, oSub_int, oMul_int, oDiv_int, oMod_int, oI_plus, oI_minus, oLt_int, oLe_int, oGt_int, oGe_int, oEq_int, oEq_str, oEq_bl, oNe_int, oNe_str, oNe_bl, oIs_non, oIsNot_non, isN_non, isN_int, isN_bl, isN_str, isN_tup, isN_lst, isN_loc, atI_lit, atI_natc, atI_neg1, ixO_tup, ixO_lst, ixO_dics, ixO_dici, ixO_locs, ixO_loci, ixL_lst, ixL_dics, ixL_dici, cLen_tup, cLen_lst, cLen_dic, cLen_loc, lenL_lst, lenL_dic, cInt_int, cInt_bl, cAbs_int, cTup_tup, cTup_lst, cTup_loc, tupL_eq, cList_eq, cBls_lst, blsA_eq, fAll_eq, fAny_eq, truD_lst, truD_tup, truD_bl, truD_int, truD_non, truD_loc, truL_lst, truL_dic, itD_tup, itD_lst, miSeq_eq, kIt_eq, miR1_eq, kR1_eq, miR2_eq, kR2_eq, mSl_eq, kSl1_eq, kSl2_eq, kSl3_eq, mNoP_eq, mPart_eq, kPart_eq, slD_tup, slD_lst, slD_rol, slD_loc, slA_eq, mIsi_eq, kIsi_eq, tyD_non, tyD_bl, tyD_int, tyD_str, tyD_tup, tyD_lst, isi_NoneType_tuple, isi_NoneType_list, isi_NoneType_int, isi_NoneType_str, isi_NoneType_bool, isi_NoneType_int_str, isi_bool_tuple, isi_bool_list, isi_bool_int, isi_bool_str, isi_bool_bool, isi_bool_int_str, isi_int_tuple, isi_int_list, isi_int_int, isi_int_str, isi_int_bool, isi_int_int_str, isi_str_tuple, isi_str_list, isi_str_int, isi_str_str, isi_str_bool, isi_str_int_str, isi_tuple_tuple, isi_tuple_list, isi_tuple_int, isi_tuple_str, isi_tuple_bool, isi_tuple_int_str, isi_list_tuple, isi_list_list, isi_list_int, isi_list_str, isi_list_bool, isi_list_int_str, mDicF_eq, kDicF_eq, mDicM_eq, kDicM_eq, dicA_eq, dicB_eq, mDic0_eq, mGet1_eq, kGet1_eq, kGet1a_eq, mGet2_eq, kGet2_eq, kGet2a_eq, kGet2b_eq, kGet3_str, kGet3_int, kForB_eq, kForS_nx, kForS_ct, kForS_bk, kForS_rt, kWh_true, kWh_false, kWhS_nx, kWhS_ct, kWhS_bk, kWhS_rt, mLc_eq, kLc_eq, kLc1_eq, kLc2_true, kLc2_false, kLc3_eq, kLc4_eq, mYes_eq, wipeE_nil, wipeE_cons, mFun_0, mFun_1, mFun_2, mFun_3, mFun_4, mFun_5, mFun_6, mFun_7, mFun_8, mFunL_0, mFunL_1, mFunL_2, mFunL_3, mFunL_4, mFunL_5, mFunL_6, mFunL_7, mFunL_8, endW_rt, endW_nx, mRev_eq, kRev_eq, miTxt_eq, kTxt_eq, oIsB_bl, oIsNotB_bl, oIn_eq, oNotIn_eq, kIn_eq, kNIn_eq, inO_sign, inA_eq, inO_tup, inO_lst, inO_loc, inL_lst, inL_dics, inL_dici, inO_dics, inO_dici, flatD_non, flatD_bl, flatD_int, flatD_str, ixO_dkls, ixO_dkli, inO_dkls, inO_dkli, dicD_dkl, mDitN_eq, ixDN_eq, kIxN_eq, setN_eq, gSetN_eq, kSetN1_eq, kSetN2_eq, kSetN3_eq, mGet2N_eq, kGetN1_eq, kGetN2_eq, kGetN3_eq, kGetN4_eq, miKeysN_eq, kKeysN_eq, miKeysL_eq, kKeysL_eq, sForP_eq, kForP_eq, kForP2_eq, keepM_eq, mLc2_eq, kLd_eq, kLd1_eq, kLd2_true, kLd2_false, kLd2b_eq, kLd3_eq, kLd4_eq, Nat.reduceSub, Nat.reduceAdd, Nat.reduceLeDiff, Nat.reduceLT, Nat.reduceEqDiff, Int.reduceLT, Int.reduceLE, Int.reduceAdd, Int.reduceSub, Int.reduceNeg, Int.reduceMul, Int.reduceToNat, Int.reduceBEq, fits_lit, List.getElem?_cons_zero, List.getElem?_cons_succ, List.getElem?_nil, List.set_cons_zero, List.set_cons_succ, List.set_nil, List.length_cons, List.length_nil, List.length_set, List.length_map, List.length_append, List.set_set, List.replicate_succ, List.replicate_zero, List.isEmpty_nil, List.isEmpty_cons, List.nil_append, List.cons_append, List.append_assoc, Bool.not_true, Bool.not_false, decide_true, decide_false, if_true, if_false, Bool.false_eq_true, Option.getD_none, Option.getD_some, Option.isSome_none, Option.isSome_some, st_app, st_app0, st_set, st_set0, List.getLast?_nil, getLast_snoc, dropLast_snoc])
local macro_rules | `(tactic| l_intsC) => `(tactic| simp only [bnd_some', ret1_some', sSeq_eq, kThen_nx, kThen_rt, kThen_bk, kThen_ct, sNil_eq, sAsg_eq, kAsg_eq, sDrop_eq, kDrop_eq, sRet_eq, kRet_eq, sRetN_eq, sBreak_eq, sCont_eq, sIf_eq, kIf_true, kIf_false, sTgt_eq, kTgt1_eq, kTgt2_eq, sPar_eq, kPar2_eq, sPar3_eq, kPar3_eq, sFor_eq, kFor_eq, sAug_eq, kAug_eq, kAug1_eq, mV_eq, kGot_eq, mC_eq, mOp_eq, kOp1_eq, kOp2_eq, mTB_eq, kB_eq, mAnd_eq, kAnd_true, kAnd_false, mOr_eq, kOr_true, kOr_false, mNot_eq, kNot_eq, mIte_eq, kIte_true, kIte_false, mAndV_eq, kAndV_true, kAndV_false, mOrV_eq, kOrV_true, kOrV_false, mNotV_eq, kNotV_eq, mNil_eq, mCons_eq, kCons1_eq, kCons2_eq, mTup_eq, kTup_eq, mLst_eq, kLst_eq, mFrz_eq, kFrz_eq, mMut_eq, kMut_eq, mCall_eq, mCB_eq, kCB_eq, mCBL_eq, kCBL_eq, mTr_eq, kTr_eq, mNeg_eq, kNeg_eq, mChain_eq, kChn1_eq, kChn2_eq, kChn_true, kChn_false, gN_eq, gsN_eq, gsC_eq, kGs_eq, gT_eq, gTp_eq, gSet_eq, kSet1_eq, kSet2_eq, kSetE_eq, setO_eq, setL_nat, setL_lit, setL_str, mMt_eq, kMt1_eq, kMt1'_eq, kMt2_eq, kMt2'_eq, kMt3_eq, fApp_eq, fPop_eq, kPop_eq, getLast_snoc, dropLast_snoc, fExt_eq, kExt_eq, oAdd_int, oAdd_str, oAdd_tup, oAdd_lst, oAdd_loc, kCat_eq, lstD_lst, lstD_loc, isLst_eq, seqD_tup, seqD_lst, seqD_rol, seqD_loc, dicD_dic, dicD_loc, isDic_eq, oSub_int, oMul_int, oDiv_int, oMod_int, oI_plus, oI_minus, oLt_int, oLe_int, oGt_int, oGe_int, oEq_int, oEq_str, oEq_bl, oNe_int, oNe_str, oNe_bl, oIs_non, oIsNot_non, isN_non, isN_int, isN_bl, isN_str, isN_tup, isN_lst, isN_loc, atI_lit, atI_natc, atI_neg1, ixO_tup, ixO_lst, ixO_dics, ixO_dici, ixO_locs, ixO_loci, ixL_lst, ixL_dics, ixL_dici, cLen_tup, cLen_lst, cLen_dic, cLen_loc, lenL_lst, lenL_dic, cInt_int, cInt_bl, cAbs_int, cTup_tup, cTup_lst, cTup_loc, tupL_eq, cList_eq, cBls_lst, blsA_eq, fAll_eq, fAny_eq, truD_lst, truD_tup, truD_bl, truD_int, truD_non, truD_loc, truL_lst, truL_dic, itD_tup, itD_lst, miSeq_eq, kIt_eq, miR1_eq, kR1_eq, miR2_eq, kR2_eq, mSl_eq, kSl1_eq, kSl2_eq, kSl3_eq, mNoP_eq, mPart_eq, kPart_eq, slD_tup, slD_lst, slD_rol, slD_loc, slA_eq, mIsi_eq, kIsi_eq, tyD_non, tyD_bl, tyD_int, tyD_str, tyD_tup, tyD_lst, isi_NoneType_tuple, isi_NoneType_list, isi_NoneType_int, isi_NoneType_str, isi_NoneType_bool, isi_NoneType_int_str, isi_bool_tuple, isi_bool_list, isi_bool_int, isi_bool_str, isi_bool_bool, isi_bool_int_str, isi_int_tuple, isi_int_list, isi_int_int, isi_int_str, isi_int_bool, isi_int_int_str, isi_str_tuple, isi_str_list, isi_str_int, isi_str_str, isi_str_bool, isi_str_int_str, isi_tuple_tuple, isi_tuple_list, isi_tuple_int, isi_tuple_str, isi_tuple_bool, isi_tuple_int_str, isi_list_tuple, isi_list_list, isi_list_int, isi_list_str, isi_list_bool, isi_list_int_str, mDicF_eq, kDicF_eq, mDicM_eq, kDicM_eq, dicA_eq, dicB_eq, mDic0_eq, mGet1_eq, kGet1_eq, kGet1a_eq, mGet2_eq, kGet2_eq, kGet2a_eq, kGet2b_eq, kGet3_str, kGet3_int, kForB_eq, kForS_nx, kForS_ct, kForS_bk, kForS_rt, kWh_true, kWh_false, kWhS_nx, kWhS_ct, kWhS_bk, kWhS_rt, mLc_eq, kLc_eq, kLc1_eq, kLc2_true, kLc2_false, kLc3_eq, kLc4_eq, mYes_eq, wipeE_nil, wipeE_cons, mFun_0, mFun_1, mFun_2, mFun_3, mFun_4, mFun_5, mFun_6, mFun_7, mFun_8, mFunL_0, mFunL_1, mFunL_2, mFunL_3, mFunL_4, mFunL_5, mFunL_6, mFunL_7, mFunL_8, endW_rt, endW_nx, mRev_eq, kRev_eq, miTxt_eq, kTxt_eq, oIsB_bl, oIsNotB_bl, oIn_eq, oNotIn_eq, kIn_eq, kNIn_eq, inO_sign, inA_eq, inO_tup, inO_lst, inO_loc, inL_lst, inL_dics, inL_dici, inO_dics, inO_dici, flatD_non, flatD_bl, flatD_int, flatD_str, ixO_dkls, ixO_dkli, inO_dkls, inO_dkli, dicD_dkl, mDitN_eq, ixDN_eq, kIxN_eq, setN_eq, gSetN_eq, kSetN1_eq, kSetN2_eq, kSetN3_eq, mGet2N_eq, kGetN1_eq, kGetN2_eq, kGetN3_eq, kGetN4_eq, miKeysN_eq, kKeysN_eq, miKeysL_eq, kKeysL_eq, sForP_eq, kForP_eq, kForP2_eq, keepM_eq, mLc2_eq, kLd_eq, kLd1_eq, kLd2_true, kLd2_false, kLd2b_eq, kLd3_eq, kLd4_eq, Nat.reduceSub, Nat.reduceAdd, Nat.reduceLeDiff, Nat.reduceLT, Nat.reduceEqDiff, Int.reduceLT, Int.reduceLE, Int.reduceAdd, Int.reduceSub, Int.reduceNeg, Int.reduceMul, Int.reduceToNat, Int.reduceBEq, fits_lit, List.getElem?_cons_zero, List.getElem?_cons_succ, List.getElem?_nil, List.set_cons_zero, List.set_cons_succ, List.set_nil, List.length_cons, List.length_nil, List.length_set, List.length_map, List.length_append, List.set_set, List.replicate_succ, List.replicate_zero, List.isEmpty_nil, List.isEmpty_cons, List.nil_append, List.cons_append, List.append_assoc, Bool.not_true, Bool.not_false, decide_true, decide_false, if_true, if_false, Bool.false_eq_true, Option.getD_none, Option.getD_some, Option.isSome_none, Option.isSome_some, st_app, st_app0, st_set, st_set0, List.getLast?_nil, getLast_snoc, dropLast_snoc, *])
def tellS : List Str := ["a", "b", "p"]
/-- a body of a procedure, n deep at most -/
def IsB (nm : List Str) : Nat → D → Prop
  | 0, _ => False
  | n + 1, d => d = .tup [.str "end"] ∨ d = .tup [.str "stop"] ∨ (∃ x b, x ∈ tellS ∧ d = .tup [.str "tell", .str x, b] ∧ IsB nm n b) ∨ (∃ x b, x ∈ nm ∧ d = .tup [.str "call", .str x, b] ∧ IsB nm n b) ∨
    ∃ rs : List ((Int × Int) × D), d = .tup [.str "draw", .tup (rs.map fun r => .tup [eF r.1, r.2])] ∧ CutOK (rs.map (·.1)) = true ∧ ∀ r ∈ rs, IsB nm n r.2
theorem IsB.succ {nm : List Str} : ∀ {n : Nat} {d : D}, IsB nm n d → IsB nm (n + 1) d
  | 0, _, h => h.elim
  | n + 1, d, h => by
    rcases h with rfl | rfl | ⟨x, b, hx, rfl, hb⟩ | ⟨x, b, hx, rfl, hb⟩ | ⟨rs, rfl, hc, hr⟩
    · exact .inl rfl
    · exact .inr (.inl rfl)
    · exact .inr (.inr (.inl ⟨x, b, hx, rfl, hb.succ⟩))
    · exact .inr (.inr (.inr (.inl ⟨x, b, hx, rfl, hb.succ⟩)))
    · exact .inr (.inr (.inr (.inr ⟨rs, rfl, hc, fun r h => (hr r h).succ⟩)))
theorem IsB.mono {nm : List Str} {n : Nat} {d : D} (h : IsB nm n d) : ∀ k, IsB nm (n + k) d
  | 0 => h
  | k + 1 => (h.mono k).succ
theorem los_mapm {α : Type} {n : Nat} {f : α → D} : ∀ l : List α, (∀ x ∈ l, lo n (f x) = true) → los n (l.map f) = true
  | [], _ => rfl
  | x :: l, h => by
    show (lo n (f x) && los n (l.map f)) = true
    rw [h x (List.mem_cons_self ..), los_mapm l fun y hy => h y (List.mem_cons_of_mem _ hy)]
    rfl
theorem IsB.lo {nm : List Str} {m : Nat} : ∀ {n : Nat} {d : D}, IsB nm n d → Mn.lo m d = true
  | 0, _, h => h.elim
  | n + 1, d, h => by
    rcases h with rfl | rfl | ⟨x, b, _, rfl, hb⟩ | ⟨x, b, _, rfl, hb⟩ | ⟨rs, rfl, _, hr⟩
    · rfl
    · rfl
    · have := hb.lo (m := m)
      simp [Mn.lo, los, this]
    · have := hb.lo (m := m)
      simp [Mn.lo, los, this]
    · have : los m (rs.map fun r => D.tup [eF r.1, r.2]) = true := los_mapm rs fun r h => by
        have := (hr r h).lo (m := m)
        simp [Mn.lo, los, eF, this]
      simp [Mn.lo, los, this]
section
variable {st : Store} {lc : Nat} {ns : List Int} {s s' : CSt} {K m : Int} {d : D} {g : Store}
def cN : Nat → Int
  | 0 => 0
  | n + 1 => 5 + 3 * cN n
theorem cN_nn : ∀ n, 0 ≤ cN n
  | 0 => by decide
  | n + 1 => by have := cN_nn n; unfold cN; omega
theorem lc_rows {n mm : Nat} {F : Fn} {nm : List Str} {a b : D} {deep way c : Int} (hc : 0 ≤ c)
    (H : ∀ (K : Int) (s : CSt), Good ns K s → K + c < 1000000000000000000 → ∃ d s', F [.loc lc, a, b, .int (deep - 1)] (cst st lc ns s) = some (d, cst st lc ns s') ∧ IsB nm mm d ∧ Good ns (K + c) s') :
    ∀ (rs : List (Int × Int)) (K : Int) (s : CSt), Good ns K s → K + c * rs.length < 1000000000000000000 →
      ∃ (out : List ((Int × Int) × D)) (s' : CSt), lcL (gN 5) mYes (E__law_body_1 n F) [some (.loc lc), some a, some b, some (.int deep), some (.int way), none] (rs.map eF) (cst st lc ns s) = some (out.map fun r => .tup [eF r.1, r.2], cst st lc ns s') ∧ out.map (·.1) = rs ∧ (∀ r ∈ out, IsB nm mm r.2) ∧ Good ns (K + c * rs.length) s'
  | [], K, s, hg, hK => ⟨[], s, rfl, rfl, fun r h => (List.not_mem_nil h).elim, hg.mono (by simp)⟩
  | r :: rs, K, s, hg, hK => by
    have ee : c * ((r :: rs).length : Int) = c + c * rs.length := by
      rw [List.length_cons]
      push_cast
      rw [Int.mul_add]
      omega
    have nn : 0 ≤ c * (rs.length : Int) := Int.mul_nonneg hc (by omega)
    rw [ee] at hK ⊢
    obtain ⟨d, s1, e1, hd, g1⟩ := H K s hg (by omega)
    obtain ⟨out, s2, e2, ho, hb, g2⟩ := lc_rows (n := n) (way := way) hc H rs (K + c) s1 g1 (by omega)
    refine ⟨(r, d) :: out, s2, ?_, by simp [ho], ?_, g2.mono (by omega)⟩
    · rw [List.map_cons, lcL_cons]
      have u : E__law_body_1 n F [some (.loc lc), some a, some b, some (.int deep), some (.int way), some (eF r)] (cst st lc ns s) = some (.tup [eF r, d], cst st lc ns s1) := by
        unfold E__law_body_1
        l_intsC
      l_intsC
      rfl
    · intro q hq
      rcases List.mem_cons.mp hq with rfl | hq
      · exact hd
      · exact hb q hq
theorem body_spec (h : lc < st.length) {nm lt : List Str} (hn : 0 < nm.length ∧ nm.length ≤ 4) (hl : lt.length ≤ 3) (hlt : ∀ x ∈ lt, x ∈ tellS) : ∀ (n : Nat) (deep K : Int) (s : CSt), 0 ≤ deep → deep < n → Good ns K s → K + cN n < 1000000000000000000 →
    ∃ d s', F__law_body n [.loc lc, .lst (nm.map .str), .lst (lt.map .str), .int deep] (cst st lc ns s) = some (d, cst st lc ns s') ∧ IsB nm (deep.toNat + 1) d ∧ Good ns (K + cN n) s'
  | 0, deep, K, s, h1, h2, _, _ => by omega
  | n + 1, deep, K, s, h1, h2, hg, hK => by
    have cn := cN_nn n
    have ec : cN (n + 1) = 5 + 3 * cN n := rfl
    rw [ec] at hK ⊢
    obtain ⟨way, s1, e1, hw, g1⟩ := take_spec h hg (by omega) (m := 9) (by omega) (by omega)
    show ∃ d s', mFun 6 4 (B__law_body n (F__law_body n)) _ _ = _ ∧ _
    unfold B__law_body
    by_cases c1 : deep < 1 ∨ way = 0
    · obtain ⟨t, s2, e2, ht, g2⟩ := take_spec h g1 (by omega) (m := 5) (by omega) (by omega)
      obtain ⟨x, hx, a1⟩ := atI_map (f := fun x : Str => D.tup [.str x]) (l := ["end", "end", "end", "end", "stop"]) ht.1 ht.2
      simp only [List.map_cons, List.map_nil] at a1
      refine ⟨.tup [.str x], s2, ?_, ?_, g2.mono (by omega)⟩
      · have fe := fin_cst (st := st) (lc := lc) (ns := ns) (s := s) (s' := s2) (d := .tup [.str x]) h rfl
        by_cases c2 : deep < 1
        · l_intsC
        · have w0 : (way == 0) = true := by simpa using c1.resolve_left c2
          l_intsC
      · simp only [List.mem_cons, List.not_mem_nil, or_false] at hx
        rcases hx with rfl | rfl | rfl | rfl | rfl <;> simp [IsB]
    · have c2 : ¬ deep < 1 := fun z => c1 (.inl z)
      have w0 : (way == 0) = false := by simpa using fun z => c1 (.inr z)
      have ed : (deep - 1).toNat + 1 = deep.toNat := by omega
      have H : ∀ (K : Int) (s : CSt), Good ns K s → K + cN n < 1000000000000000000 → ∃ d s', F__law_body n [.loc lc, .lst (nm.map .str), .lst (lt.map .str), .int (deep - 1)] (cst st lc ns s) = some (d, cst st lc ns s') ∧ IsB nm deep.toNat d ∧ Good ns (K + cN n) s' :=
        fun K s hg hK => by
          have := body_spec h hn hl hlt n (deep - 1) K s (by omega) (by omega) hg hK
          rw [ed] at this
          exact this
      unfold R__law_body_3
      -- the rest, once the letters are done with
      have rest : ∃ d s', endW (fin (cst st lc ns s)) (R__law_body_2 n (F__law_body n) [some (.loc lc), some (.lst (nm.map .str)), some (.lst (lt.map .str)), some (.int deep), some (.int way), none] (cst st lc ns s1)) = some (d, cst st lc ns s') ∧ IsB nm (deep.toNat + 1) d ∧ Good ns (K + (5 + 3 * cN n)) s' := by
        unfold R__law_body_2 R__law_body_1
        by_cases c3 : way < 6
        · obtain ⟨t, s2, e2, ht, g2⟩ := take_spec h g1 (by omega) (m := (nm.length : Int)) (by omega) (by omega)
          obtain ⟨x, hx, a1⟩ := atI_map (f := D.str) (l := nm) ht.1 ht.2
          obtain ⟨b, s3, e3, hb, g3⟩ := H _ s2 g2 (by omega)
          refine ⟨.tup [.str "call", .str x, b], s3, ?_, .inr (.inr (.inr (.inl ⟨x, b, hx, rfl, hb⟩))), g3.mono (by omega)⟩
          have fe := fin_cst (st := st) (lc := lc) (ns := ns) (s := s) (s' := s3) (d := .tup [.str "call", .str x, b]) h (by simp [lo, los, hb.lo])
          l_intsC
        · obtain ⟨rs, s2, e2, hr, g2⟩ := cut_spec h g1 (by omega)
          have r3 : rs.length ≤ 3 := by
            simp only [CutOK, Bool.and_eq_true, decide_eq_true_eq] at hr
            exact hr.1.2
          have mm : cN n * (rs.length : Int) ≤ cN n * 3 := Int.mul_le_mul_of_nonneg_left (by omega) cn
          obtain ⟨out, s3, e3, ho, hb, g3⟩ := lc_rows (n := n) (way := way) cn H rs _ s2 g2 (by omega)
          have B : IsB nm (deep.toNat + 1) (.tup [.str "draw", .tup (out.map fun r => .tup [eF r.1, r.2])]) := .inr (.inr (.inr (.inr ⟨out, rfl, by rw [ho]; exact hr, hb⟩)))
          refine ⟨_, s3, ?_, B, g3.mono (by omega)⟩
          have fe := fin_cst (st := st) (lc := lc) (ns := ns) (s := s) (s' := s3) h B.lo
          have rl : rs.length ≤ 16777216 := by omega
          l_intsC
      by_cases c4 : way < 3
      · by_cases c5 : lt = []
        · subst c5
          obtain ⟨d, s', e, hd⟩ := rest
          refine ⟨d, s', ?_, hd⟩
          simp only [List.map_nil] at e ⊢
          l_intsC
        · have le : (lt.map D.str).isEmpty = false := by cases lt; exact absurd rfl c5; rfl
          have l0 : 0 < lt.length := by cases lt; exact absurd rfl c5; simp
          obtain ⟨t, s2, e2, ht, g2⟩ := take_spec h g1 (by omega) (m := (lt.length : Int)) (by omega) (by omega)
          obtain ⟨x, hx, a1⟩ := atI_map (f := D.str) (l := lt) ht.1 ht.2
          obtain ⟨b, s3, e3, hb, g3⟩ := H _ s2 g2 (by omega)
          refine ⟨.tup [.str "tell", .str x, b], s3, ?_, .inr (.inr (.inl ⟨x, b, hlt x hx, rfl, hb⟩)), g3.mono (by omega)⟩
          have fe := fin_cst (st := st) (lc := lc) (ns := ns) (s := s) (s' := s3) (d := .tup [.str "tell", .str x, b]) h (by simp [lo, los, hb.lo])
          l_intsC
      · obtain ⟨d, s', e, hd⟩ := rest
        refine ⟨d, s', ?_, hd⟩
        l_intsC
end
end K31
end
section
set_option Elab.async false
set_option autoImplicit false
set_option linter.all false
set_option maxRecDepth 100000
set_option maxHeartbeats 2000000
namespace K31
open PySem L2 Mn
local macro_rules | `(tactic| l_ints) => `(tactic| simp only [bnd_some', ret1_some', sSeq_eq, kThen_nx, kThen_rt, kThen_bk, kThen_ct, sNil_eq, sAsg_eq, kAsg_eq, sDrop_eq, kDrop_eq, sRet_eq, kRet_eq, sRetN_eq, sBreak_eq, sCont_eq, sIf_eq, kIf_true, kIf_false, sTgt_eq, kTgt1_eq, kTgt2_eq, sPar_eq, kPar2_eq, sPar3_eq, kPar3_eq, sFor_eq, kFor_eq, sAug_eq, kAug_eq, kAug1_eq, mV_eq, kGot_eq, mC_eq, mOp_eq, kOp1_eq, kOp2_eq, mTB_eq, kB_eq, mAnd_eq, kAnd_true, kAnd_false, mOr_eq, kOr_true, kOr_false, mNot_eq, kNot_eq, mIte_eq, kIte_true, kIte_false, mAndV_eq, kAndV_true, kAndV_false, mOrV_eq, kOrV_true, kOrV_false, mNotV_eq, kNotV_eq, mNil_eq, mCons_eq, kCons1_eq, kCons2_eq, mTup_eq, kTup_eq, mLst_eq, kLst_eq, mFrz_eq, kFrz_eq, mMut_eq, kMut_eq, mCall_eq, mCB_eq, kCB_eq, mCBL_eq, kCBL_eq, mTr_eq, kTr_eq, mNeg_eq, kNeg_eq, mChain_eq, kChn1_eq, kChn2_eq, kChn_true, kChn_false, gN_eq, gsN_eq, gsC_eq, kGs_eq, gT_eq, gTp_eq, gSet_eq, kSet1_eq, kSet2_eq, kSetE_eq, setO_eq, setL_nat, setL_lit, setL_str, mMt_eq, kMt1_eq, kMt1'_eq, kMt2_eq, kMt2'_eq, kMt3_eq, fApp_eq, fPop_eq, kPop_eq, getLast_snoc, dropLast_snoc, fExt_eq, kExt_eq, oAdd_int, oAdd_str, oAdd_tup, oAdd_lst, oAdd_loc, kCat_eq, lstD_lst, lstD_loc, isLst_eq, seqD_tup, seqD_lst, seqD_rol, seqD_loc, dicD_dic, dicD_loc, isDic_eq, oSub_int, oMul_int, oDiv_int, oMod_int, oI_plus, oI_minus, oLt_int, oLe_int, oGt_int, oGe_int, oEq_int, oEq_str, oEq_bl, oNe_int, oNe_str, oNe_bl, oIs_non, oIsNot_non, isN_non, isN_int, isN_bl, isN_str, isN_tup, isN_lst, isN_loc, atI_lit, atI_natc, atI_neg1, ixO_tup, ixO_lst, ixO_dics, ixO_dici, ixO_locs, ixO_loci, ixL_lst, ixL_dics, ixL_dici, cLen_tup, cLen_lst, cLen_dic, cLen_loc, lenL_lst, lenL_dic, cInt_int, cInt_bl, cAbs_int, cTup_tup, cTup_lst, cTup_loc, tupL_eq, cList_eq, cBls_lst, blsA_eq, fAll_eq, fAny_eq, truD_lst, truD_tup, truD_bl, truD_int, truD_non, truD_loc, truL_lst, truL_dic, itD_tup, itD_lst, miSeq_eq, kIt_eq, miR1_eq, kR1_eq, miR2_eq, kR2_eq, mSl_eq, kSl1_eq, kSl2_eq, kSl3_eq, mNoP_eq, mPart_eq, kPart_eq, slD_tup, slD_lst, slD_rol, slD_loc, slA_eq, mIsi_eq, kIsi_eq, tyD_non, tyD_bl, tyD_int, tyD_str, tyD_tup, tyD_lst, isi_NoneType_tuple, isi_NoneType_list, isi_NoneType_int, isi_NoneType_str, isi_NoneType_bool, isi_NoneType_int_str, isi_bool_tuple, isi_bool_list, isi_bool_int, isi_bool_str, isi_bool_bool, isi_bool_int_str, isi_int_tuple, isi_int_list, isi_int_int, isi_int_str, isi_int_bool, isi_int_int_str, isi_str_tuple, isi_str_list, isi_str_int, isi_str_str, isi_str_bool, isi_str_int_str, isi_tuple_tuple, isi_tuple_list, isi_tuple_int, isi_tuple_str, isi_tuple_bool, isi_tuple_int_str, isi_list_tuple, isi_list_list, isi_list_int, isi_list_str, isi_list_bool, isi_list_int_str, mDicF_eq, kDicF_eq, mDicM_eq, kDicM_eq, dicA_eq, dicB_eq, mDic0_eq, mGet1_eq, kGet1_eq, kGet1a_eq, mGet2_eq, kGet2_eq, kGet2a_eq, kGet2b_eq, kGet3_str, kGet3_int, kForB_eq, kForS_nx, kForS_ct, kForS_bk, kForS_rt, kWh_true, kWh_false, kWhS_nx, kWhS_ct, kWhS_bk, kWhS_rt, mLc_eq, kLc_eq, kLc1_eq, kLc2_true, kLc2_false, kLc3_eq, kLc4_eq, mYes_eq, wipeE_nil, wipeE_cons, mFun_0, mFun_1, mFun_2, mFun_3, mFun_4, mFun_5, mFun_6, mFun_7, mFun_8, mFunL_0, mFunL_1, mFunL_2, mFunL_3, mFunL_4, mFunL_5, mFunL_6, mFunL_7, mFunL_8, endW_rt, endW_nx, mRev_eq, kRev_eq, miTxt_eq, kTxt_eq, oIsB_bl, oIsNotB_bl, oIn_eq, oNotIn_eq, kIn_eq, kNIn_eq, inO_sign, inA_eq, inO_tup, inO_lst, inO_loc, inL_lst, inL_dics, inL_dici, inO_dics, inO_dici, flatD_non, flatD_bl, flatD_int, flatD_str, ixO_dkls, ixO_dkli, inO_dkls, inO_dkli, dicD_dkl, mDitN_eq, ixDN_eq, kIxN_eq, setN_eq, gSetN_eq, kSetN1_eq, kSetN2_eq, kSetN3_eq, mGet2N_eq, kGetN1_eq, kGetN2_eq, kGetN3_eq, kGetN4_eq, miKeysN_eq, kKeysN_eq, miKeysL_eq, kKeysL_eq, sForP_eq, kForP_eq, kForP2_eq, keepM_eq, mLc2_eq, kLd_eq, kLd1_eq, kLd2_true, kLd2_false, kLd2b_eq, kLd3_eq, kLd4_eq, Nat.reduceSub, Nat.reduceAdd, Nat.reduceLeDiff, Nat.reduceLT, Nat.reduceEqDiff, Int.reduceLT, Int.reduceLE, Int.reduceAdd, Int.reduceSub, Int.reduceNeg, Int.reduceMul, Int.reduceToNat, Int.reduceBEq, fits_lit, List.getElem?_cons_zero, List.getElem?_cons_succ, List.getElem?_nil, List.set_cons_zero, List.set_cons_succ, List.set_nil, List.length_cons, List.length_nil, List.length_set, List.length_map, List.length_append, List.set_set, List.replicate_succ, List.replicate_zero, List.isEmpty_nil, List.isEmpty_cons, List.nil_append, List.cons_append, List.append_assoc, Bool.not_true, Bool.not_false, decide_true, decide_false, if_true, if_false, Bool.false_eq_true, Option.getD_none, Option.getD_some, Option.isSome_none, Option.isSome_some, st_app, st_app0, st_set, st_set0, List.getLast?_nil, getLast_snoc, dropLast_snoc])
local macro_rules | `(tactic| l_intsC) => `(tactic| simp only [bnd_some', ret1_some', sSeq_eq, kThen_nx, kThen_rt, kThen_bk, kThen_ct, sNil_eq, sAsg_eq, kAsg_eq, sDrop_eq, kDrop_eq, sRet_eq, kRet_eq, sRetN_eq, sBreak_eq, sCont_eq, sIf_eq, kIf_true, kIf_false, sTgt_eq, kTgt1_eq, kTgt2_eq, sPar_eq, kPar2_eq, sPar3_eq, kPar3_eq, sFor_eq, kFor_eq, sAug_eq, kAug_eq, kAug1_eq, mV_eq, kGot_eq, mC_eq, mOp_eq, kOp1_eq, kOp2_eq, mTB_eq, kB_eq, mAnd_eq, kAnd_true, kAnd_false, mOr_eq, kOr_true, kOr_false, mNot_eq, kNot_eq, mIte_eq, kIte_true, kIte_false, mAndV_eq, kAndV_true, kAndV_false, mOrV_eq, kOrV_true, kOrV_false, mNotV_eq, kNotV_eq, mNil_eq, mCons_eq, kCons1_eq, kCons2_eq, mTup_eq, kTup_eq, mLst_eq, kLst_eq, mFrz_eq, kFrz_eq, mMut_eq, kMut_eq, mCall_eq, mCB_eq, kCB_eq, mCBL_eq, kCBL_eq, mTr_eq, kTr_eq, mNeg_eq, kNeg_eq, mChain_eq, kChn1_eq, kChn2_eq, kChn_true, kChn_false, gN_eq, gsN_eq, gsC_eq, kGs_eq, gT_eq, gTp_eq, gSet_eq, kSet1_eq, kSet2_eq, kSetE_eq, setO_eq, setL_nat, setL_lit, setL_str, mMt_eq, kMt1_eq, kMt1'_eq, kMt2_eq, kMt2'_eq, kMt3_eq, fApp_eq, fPop_eq, kPop_eq, getLast_snoc, dropLast_snoc, fExt_eq, kExt_eq, oAdd_int, oAdd_str, oAdd_tup, oAdd_lst, oAdd_loc, kCat_eq, lstD_lst, lstD_loc, isLst_eq, seqD_tup, seqD_lst, seqD_rol, seqD_loc, dicD_dic, dicD_loc, isDic_eq, oSub_int, oMul_int, oDiv_int, oMod_int, oI_plus, oI_minus, oLt_int, oLe_int, oGt_int, oGe_int, oEq_int, oEq_str, oEq_bl, oNe_int, oNe_str, oNe_bl, oIs_non, oIsNot_non, isN_non, isN_int, isN_bl, isN_str, isN_tup, isN_lst, isN_loc, atI_lit, atI_natc, atI_neg1, ixO_tup, ixO_lst, ixO_dics, ixO_dici, ixO_locs, ixO_loci, ixL_lst, ixL_dics, ixL_dici, cLen_tup, cLen_lst, cLen_dic, cLen_loc, lenL_lst, lenL_dic, cInt_int, cInt_bl, cAbs_int, cTup_tup, cTup_lst, cTup_loc, tupL_eq, cList_eq, cBls_lst, blsA_eq, fAll_eq, fAny_eq, truD_lst, truD_tup, truD_bl, truD_int, truD_non, truD_loc, truL_lst, truL_dic, itD_tup, itD_lst, miSeq_eq, kIt_eq, miR1_eq, kR1_eq, miR2_eq, kR2_eq, mSl_eq, kSl1_eq, kSl2_eq, kSl3_eq, mNoP_eq, mPart_eq, kPart_eq, slD_tup, slD_lst, slD_rol, slD_loc, slA_eq, mIsi_eq, kIsi_eq, tyD_non, tyD_bl, tyD_int, tyD_str, tyD_tup, tyD_lst, isi_NoneType_tuple, isi_NoneType_list, isi_NoneType_int, isi_NoneType_str, isi_NoneType_bool, isi_NoneType_int_str, isi_bool_tuple, isi_bool_list, isi_bool_int, isi_bool_str, isi_bool_bool, isi_bool_int_str, isi_int_tuple, isi_int_list, isi_int_int, isi_int_str, isi_int_bool, isi_int_int_str, isi_str_tuple, isi_str_list, isi_str_int, isi_str_str, isi_str_bool, isi_str_int_str, isi_tuple_tuple, isi_tuple_list, isi_tuple_int, isi_tuple_str, isi_tuple_bool, isi_tuple_int_str, isi_list_tuple, isi_list_list, isi_list_int, isi_list_str, isi_list_bool, isi_list_int_str, mDicF_eq, kDicF_eq, mDicM_eq, kDicM_eq, dicA_eq, dicB_eq, mDic0_eq, mGet1_eq, kGet1_eq, kGet1a_eq, mGet2_eq, kGet2_eq, kGet2a_eq, kGet2b_eq, kGet3_str, kGet3_int, kForB_eq, kForS_nx, kForS_ct, kForS_bk, kForS_rt, kWh_true, kWh_false, kWhS_nx, kWhS_ct, kWhS_bk, kWhS_rt, mLc_eq, kLc_eq, kLc1_eq, kLc2_true, kLc2_false, kLc3_eq, kLc4_eq, mYes_eq, wipeE_nil, wipeE_cons, mFun_0, mFun_1, mFun_2, mFun_3, mFun_4, mFun_5, mFun_6, mFun_7, mFun_8, mFunL_0, mFunL_1, mFunL_2, mFunL_3, mFunL_4, mFunL_5, mFunL_6, mFunL_7, mFunL_8, endW_rt, endW_nx, mRev_eq, kRev_eq, miTxt_eq, kTxt_eq, oIsB_bl, oIsNotB_bl, oIn_eq, oNotIn_eq, kIn_eq, kNIn_eq, inO_sign, inA_eq, inO_tup, inO_lst, inO_loc, inL_lst, inL_dics, inL_dici, inO_dics, inO_dici, flatD_non, flatD_bl, flatD_int, flatD_str, ixO_dkls, ixO_dkli, inO_dkls, inO_dkli, dicD_dkl, mDitN_eq, ixDN_eq, kIxN_eq, setN_eq, gSetN_eq, kSetN1_eq, kSetN2_eq, kSetN3_eq, mGet2N_eq, kGetN1_eq, kGetN2_eq, kGetN3_eq, kGetN4_eq, miKeysN_eq, kKeysN_eq, miKeysL_eq, kKeysL_eq, sForP_eq, kForP_eq, kForP2_eq, keepM_eq, mLc2_eq, kLd_eq, kLd1_eq, kLd2_true, kLd2_false, kLd2b_eq, kLd3_eq, kLd4_eq, Nat.reduceSub, Nat.reduceAdd, Nat.reduceLeDiff, Nat.reduceLT, Nat.reduceEqDiff, Int.reduceLT, Int.reduceLE, Int.reduceAdd, Int.reduceSub, Int.reduceNeg, Int.reduceMul, Int.reduceToNat, Int.reduceBEq, fits_lit, List.getElem?_cons_zero, List.getElem?_cons_succ, List.getElem?_nil, List.set_cons_zero, List.set_cons_succ, List.set_nil, List.length_cons, List.length_nil, List.length_set, List.length_map, List.length_append, List.set_set, List.replicate_succ, List.replicate_zero, List.isEmpty_nil, List.isEmpty_cons, List.nil_append, List.cons_append, List.append_assoc, Bool.not_true, Bool.not_false, decide_true, decide_false, if_true, if_false, Bool.false_eq_true, Option.getD_none, Option.getD_some, Option.isSome_none, Option.isSome_some, st_app, st_app0, st_set, st_set0, List.getLast?_nil, getLast_snoc, dropLast_snoc, *])
theorem cut_hi {α : Type} {f : α → D} {l : List α} {v : Int} (h : 0 ≤ v) : cutD (l.map f) none (some v) = (l.take v.toNat).map f := by
  obtain ⟨j, rfl⟩ : ∃ j : Nat, v = (j : Int) := ⟨v.toNat, by omega⟩
  unfold cutD
  rw [HT.sIx_nat, HT.sIx_none]
  simp only [List.drop_zero, Nat.sub_zero, List.length_map, Int.toNat_natCast]
  rw [← List.map_take]
  congr 1
  rcases Nat.le_total j l.length with h | h
  · rw [Nat.min_eq_left h]
  · rw [Nat.min_eq_right h, List.take_of_length_le (Nat.le_refl _), List.take_of_length_le h]
theorem cut_lo {α : Type} {f : α → D} {l : List α} {v : Int} (h : 0 ≤ v) (h2 : v ≤ l.length) : cutD (l.map f) (some v) none = (l.drop v.toNat).map f := by
  obtain ⟨j, rfl⟩ : ∃ j : Nat, v = (j : Int) := ⟨v.toNat, by omega⟩
  unfold cutD
  rw [HT.sIx_nat, HT.sIx_none]
  simp only [List.length_map, Int.toNat_natCast]
  rw [Nat.min_eq_left (by omega), ← List.map_drop]
  rw [List.take_of_length_le (by simp)]
def nameS : List Str := ["p", "q", "r2", "s"]
def progD (pr : List (Str × D)) : D := .tup (pr.map fun r => .tup [.str r.1, r.2])
section
variable {st : Store} {lc : Nat} {ns : List Int} {s s' : CSt} {K m : Int} {d : D} {g : Store}
theorem lc_prog (h : lc < st.length) {nm lt : List Str} (hn : 0 < nm.length ∧ nm.length ≤ 4) (hl : lt.length ≤ 3) (hlt : ∀ x ∈ lt, x ∈ tellS) {j : Option D} :
    ∀ (xs : List Str) (K : Int) (s : CSt), Good ns K s → K + 40000 * xs.length < 1000000000000000000 →
      ∃ (out : List (Str × D)) (s' : CSt), lcL (gN 4) mYes E__law_program_1 [some (.loc lc), some (.lst (nm.map .str)), j, some (.lst (lt.map .str)), none] (xs.map D.str) (cst st lc ns s) = some (out.map fun r => .tup [.str r.1, r.2], cst st lc ns s') ∧ out.map (·.1) = xs ∧ (∀ r ∈ out, IsB nm 6 r.2) ∧ Good ns (K + 40000 * xs.length) s'
  | [], K, s, hg, hK => ⟨[], s, rfl, rfl, fun r h => (List.not_mem_nil h).elim, hg.mono (by simp)⟩
  | r :: rs, K, s, hg, hK => by
    rw [List.length_cons] at hK ⊢
    push_cast at hK ⊢
    have c8 : cN 8 = 16400 := by decide
    obtain ⟨t, s1, e1, ht, g1⟩ := take_spec h hg (by omega) (m := 5) (by omega) (by omega)
    obtain ⟨d, s2, e2, hd, g2⟩ := body_spec h hn hl hlt 8 (1 + t) _ s1 (by omega) (by omega) g1 (by omega)
    have hd : IsB nm 6 d := by
      have := hd.mono (6 - ((1 + t).toNat + 1))
      have e : (1 + t).toNat + 1 + (6 - ((1 + t).toNat + 1)) = 6 := by omega
      rw [e] at this
      exact this
    obtain ⟨out, s3, e3, ho, hb, g3⟩ := lc_prog h hn hl hlt (j := j) rs (K + 40000) s2 (g2.mono (by omega)) (by omega)
    refine ⟨(r, d) :: out, s3, ?_, by simp [ho], ?_, g3.mono (by omega)⟩
    · rw [List.map_cons, lcL_cons]
      have u : E__law_program_1 [some (.loc lc), some (.lst (nm.map .str)), j, some (.lst (lt.map .str)), some (.str r)] (cst st lc ns s) = some (.tup [.str r, d], cst st lc ns s2) := by
        unfold E__law_program_1
        l_intsC
      l_intsC
      rfl
    · intro q hq
      rcases List.mem_cons.mp hq with rfl | hq
      · exact hd
      · exact hb q hq
theorem program_spec (h : lc < st.length) (hg : Good ns K s) (hK : K + 200000 < 1000000000000000000) :
    ∃ (pr : List (Str × D)) (s' : CSt), F__law_program [.loc lc] (cst st lc ns s) = some (progD pr, cst st lc ns s') ∧ (0 < pr.length ∧ pr.length ≤ 4) ∧ ((∀ x ∈ pr.map (·.1), x ∈ nameS) ∧ (pr.map (·.1)).Nodup) ∧ (∀ r ∈ pr, IsB (pr.map (·.1)) 6 r.2) ∧ Good ns (K + 200000) s' := by
  obtain ⟨t, s1, e1, ht, g1⟩ := take_spec h hg (by omega) (m := 4) (by omega) (by omega)
  have a1 := cut_hi (f := D.str) (l := ["p", "q", "r2", "s"]) (v := 1 + t) (by omega)
  obtain ⟨nm, hnm⟩ : ∃ nm : List Str, nm = (["p", "q", "r2", "s"] : List Str).take (1 + t).toNat := ⟨_, rfl⟩
  have ln : (nm.length : Int) = 1 + t := by rw [hnm, List.length_take]; simp only [List.length_cons, List.length_nil]; omega
  rw [← hnm] at a1
  obtain ⟨k, s2, e2, hk, g2⟩ := take_spec h g1 (by omega) (m := (nm.length : Int)) (by omega) (by omega)
  have a2 := cut_lo (f := D.str) (l := nm) (v := k) (by omega) (by omega)
  have a3 := cut_hi (f := D.str) (l := nm) (v := k) (by omega)
  obtain ⟨nm2, hn2⟩ : ∃ nm2 : List Str, nm2 = nm.drop k.toNat ++ nm.take k.toNat := ⟨_, rfl⟩
  have a4 : (nm.drop k.toNat).map D.str ++ (nm.take k.toNat).map D.str = nm2.map D.str := by rw [hn2, List.map_append]
  have l2 : nm2.length = nm.length := by rw [hn2, List.length_append, List.length_drop, List.length_take]; omega
  have l3 : (nm.drop k.toNat).length + (nm.take k.toNat).length ≤ 16777216 := by rw [List.length_drop, List.length_take]; omega
  obtain ⟨u, s3, e3, hu, g3⟩ := take_spec h g2 (by omega) (m := 4) (by omega) (by omega)
  have a5 := cut_hi (f := D.str) (l := ["a", "b", "p"]) (v := u) (by omega)
  obtain ⟨lt, hlt⟩ : ∃ lt : List Str, lt = (["a", "b", "p"] : List Str).take u.toNat := ⟨_, rfl⟩
  have hlt2 : ∀ x ∈ lt, x ∈ tellS := fun x hx => by
    rw [hlt] at hx
    exact List.mem_of_mem_take hx
  have hn3 : ∀ x ∈ nm2, x ∈ nameS := fun x hx => by
    rw [hn2] at hx
    have hx' : x ∈ nm := (List.mem_append.mp hx).elim List.mem_of_mem_drop List.mem_of_mem_take
    rw [hnm] at hx'
    exact List.mem_of_mem_take hx'
  have hn4 : nm2.Nodup := by
    have h0 : (["p", "q", "r2", "s"] : List Str).Nodup := by decide +kernel
    have h1 : nm.Nodup := by rw [hnm]; exact h0.sublist (List.take_sublist _ _)
    rw [hn2]
    have h2 : (nm.take k.toNat ++ nm.drop k.toNat).Nodup := by rw [List.take_append_drop]; exact h1
    exact (List.perm_append_comm.nodup_iff).mp h2
  have ll : lt.length ≤ 3 := by rw [hlt, List.length_take]; simp only [List.length_cons, List.length_nil]; omega
  rw [← hlt] at a5
  obtain ⟨out, s4, e4, ho, hb, g4⟩ := lc_prog h (nm := nm2) (lt := lt) (by omega) ll hlt2 (j := some (.int k)) nm2 _ s3 g3 (by omega)
  have lo2 : out.length = nm2.length := by rw [← ho, List.length_map]
  refine ⟨out, s4, ?_, ⟨by omega, by omega⟩, by rw [ho]; exact ⟨hn3, hn4⟩, by rw [ho]; exact hb, g4.mono (by omega)⟩
  have l4 : nm2.length ≤ 16777216 := by omega
  have fe := fin_cst (st := st) (lc := lc) (ns := ns) (s := s) (s' := s4) (d := progD out) h (by
    show los _ _ = true
    exact los_mapm _ fun r hr => by simp [lo, los, (hb r hr).lo])
  unfold progD at fe ⊢
  simp only [List.map_cons, List.map_nil] at a1 a5
  clear hnm hlt hn2 ln l2 hlt2 hn3 hn4
  unfold F__law_program B__law_program
  l_intsC
end
end K31
end
section
set_option Elab.async false
set_option autoImplicit false
set_option linter.all false
set_option maxRecDepth 100000
set_option maxHeartbeats 2000000
namespace K31
open PySem L2 Mn
local macro_rules | `(tactic| l_ints) => `(tactic| simp only [bnd_some', ret1_some', sSeq_eq, kThen_nx, kThen_rt, kThen_bk, kThen_ct, sNil_eq, sAsg_eq, kAsg_eq, sDrop_eq, kDrop_eq, sRet_eq, kRet_eq, sRetN_eq, sBreak_eq, sCont_eq, sIf_eq, kIf_true, kIf_false, sTgt_eq, kTgt1_eq, kTgt2_eq, sPar_eq, kPar2_eq, sPar3_eq, kPar3_eq, sFor_eq, kFor_eq, sAug_eq, kAug_eq, kAug1_eq, mV_eq, kGot_eq, mC_eq, mOp_eq, kOp1_eq, kOp2_eq, mTB_eq, kB_eq, mAnd_eq, kAnd_true, kAnd_false, mOr_eq, kOr_true, kOr_false, mNot_eq, kNot_eq, mIte_eq, kIte_true, kIte_false, mAndV_eq, kAndV_true, kAndV_false, mOrV_eq, kOrV_true, kOrV_false, mNotV_eq, kNotV_eq, mNil_eq, mCons_eq, kCons1_eq, kCons2_eq, mTup_eq, kTup_eq, mLst_eq, kLst_eq, mFrz_eq, kFrz_eq, mMut_eq, kMut_eq, mCall_eq, mCB_eq, kCB_eq, mCBL_eq, kCBL_eq, mTr_eq, kTr_eq, mNeg_eq, kNeg_eq, mChain_eq, kChn1_eq, kChn2_eq, kChn_true, kChn_false, gN_eq, gsN_eq, gsC_eq, kGs_eq, gT_eq, gTp_eq, gSet_eq, kSet1_eq, kSet2_eq, kSetE_eq, setO_eq, setL_nat, setL_lit, setL_str, mMt_eq, kMt1_eq, kMt1'_eq, kMt2_eq, kMt2'_eq, kMt3_eq, fApp_eq, fPop_eq, kPop_eq, getLast_snoc, dropLast_snoc, fExt_eq, kExt_eq, oAdd_int, oAdd_str, oAdd_tup, oAdd_lst, oAdd_loc, kCat_eq, lstD_lst, lstD_loc, isLst_eq, seqD_tup, seqD_lst, seqD_rol, seqD_loc, dicD_dic, dicD_loc, isDic_eq, oSub_int, oMul_int, oDiv_int, oMod_int, oI_plus, oI_minus, oLt_int, oLe_int, oGt_int, oGe_int, oEq_int, oEq_str, oEq_bl, oNe_int, oNe_str, oNe_bl, oIs_non, oIsNot_non, isN_non, isN_int, isN_bl, isN_str, isN_tup, isN_lst, isN_loc, atI_lit, atI_natc, atI_neg1, ixO_tup, ixO_lst, ixO_dics, ixO_dici, ixO_locs, ixO_loci, ixL_lst, ixL_dics, ixL_dici, cLen_tup, cLen_lst, cLen_dic, cLen_loc, lenL_lst, lenL_dic, cInt_int, cInt_bl, cAbs_int, cTup_tup, cTup_lst, cTup_loc, tupL_eq, cList_eq, cBls_lst, blsA_eq, fAll_eq, fAny_eq, truD_lst, truD_tup, truD_bl, truD_int, truD_non, truD_loc, truL_lst, truL_dic, itD_tup, itD_lst, miSeq_eq, kIt_eq, miR1_eq, kR1_eq, miR2_eq, kR2_eq, mSl_eq, kSl1_eq, kSl2_eq, kSl3_eq, mNoP_eq, mPart_eq, kPart_eq, slD_tup, slD_lst, slD_rol, slD_loc, slA_eq, mIsi_eq, kIsi_eq, tyD_non, tyD_bl, tyD_int, tyD_str, tyD_tup, tyD_lst, isi_NoneType_tuple, isi_NoneType_list, isi_NoneType_int, isi_NoneType_str, isi_NoneType_bool, isi_NoneType_int_str, isi_bool_tuple, isi_bool_list, isi_bool_int, isi_bool_str, isi_bool_bool, isi_bool_int_str, isi_int_tuple, isi_int_list, isi_int_int, isi_int_str, isi_int_bool, isi_int_int_str, isi_str_tuple, isi_str_list, isi_str_int, isi_str_str, isi_str_bool, isi_str_int_str, isi_tuple_tuple, isi_tuple_list, isi_tuple_int, isi_tuple_str, isi_tuple_bool, isi_tuple_int_str, isi_list_tuple, isi_list_list, isi_list_int, isi_list_str, isi_list_bool, isi_list_int_str, mDicF_eq, kDicF_eq, mDicM_eq, kDicM_eq, dicA_eq, dicB_eq, mDic0_eq, mGet1_eq, kGet1_eq, kGet1a_eq, mGet2_eq, kGet2_eq, kGet2a_eq, kGet2b_eq, kGet3_str, kGet3_int, kForB_eq, kForS_nx, kForS_ct, kForS_bk, kForS_rt, kWh_true, kWh_false, kWhS_nx, kWhS_ct, kWhS_bk, kWhS_rt, mLc_eq, kLc_eq, kLc1_eq, kLc2_true, kLc2_false, kLc3_eq, kLc4_eq, mYes_eq, wipeE_nil, wipeE_cons, mFun_0, mFun_1, mFun_2, mFun_3, mFun_4, mFun_5, mFun_6, mFun_7, mFun_8, mFunL_0, mFunL_1, mFunL_2, mFunL_3, mFunL_4, mFunL_5, mFunL_6, mFunL_7, mFunL_8, endW_rt, endW_nx, mRev_eq, kRev_eq, miTxt_eq, kTxt_eq, oIsB_bl, oIsNotB_bl, oIn_eq, oNotIn_eq, kIn_eq, kNIn_eq, inO_sign, inA_eq, inO_tup, inO_lst, inO_loc, inL_lst, inL_dics, inL_dici, inO_dics, inO_dici, flatD_non, flatD_bl, flatD_int, flatD_str, ixO_dkls, ixO_dkli, inO_dkls, inO_dkli, dicD_dkl, mDitN_eq, ixDN_eq, kIxN_eq, setN_eq, gSetN_eq, kSetN1_eq, kSetN2_eq, kSetN3_eq, mGet2N_eq, kGetN1_eq, kGetN2_eq, kGetN3_eq, kGetN4_eq, miKeysN_eq, kKeysN_eq, miKeysL_eq, kKeysL_eq, sForP_eq, kForP_eq, kForP2_eq, keepM_eq, mLc2_eq, kLd_eq, kLd1_eq, kLd2_true, kLd2_false, kLd2b_eq, kLd3_eq, kLd4_eq, Nat.reduceSub, Nat.reduceAdd, Nat.reduceLeDiff, Nat.reduceLT, Nat.reduceEqDiff, Int.reduceLT, Int.reduceLE, Int.reduceAdd, Int.reduceSub, Int.reduceNeg, Int.reduceMul, Int.reduceToNat, Int.reduceBEq, fits_lit, List.getElem?_cons_zero, List.getElem?_cons_succ, List.getElem?_nil, List.set_cons_zero, List.set_cons_succ, List.set_nil, List.length_cons, List.length_nil, List.length_set, List.length_map, List.length_append, List.set_set, List.replicate_succ, List.replicate_zero, List.isEmpty_nil, List.isEmpty_cons, List.nil_append, List.cons_append, List.append_assoc, Bool.not_true, Bool.not_false, decide_true, decide_false, if_true, if_false, Bool.false_eq_true, Option.getD_none, Option.getD_some, Option.isSome_none, Option.isSome_some, st_app, st_app0, st_set, st_set0, List.getLast?_nil, getLast_snoc, dropLast_snoc])
local macro_rules | `(tactic| l_intsC) => `(tactic| simp only [bnd_some', ret1_some', sSeq_eq, kThen_nx, kThen_rt, kThen_bk, kThen_ct, sNil_eq, sAsg_eq, kAsg_eq, sDrop_eq, kDrop_eq, sRet_eq, kRet_eq, sRetN_eq, sBreak_eq, sCont_eq, sIf_eq, kIf_true, kIf_false, sTgt_eq, kTgt1_eq, kTgt2_eq, sPar_eq, kPar2_eq, sPar3_eq, kPar3_eq, sFor_eq, kFor_eq, sAug_eq, kAug_eq, kAug1_eq, mV_eq, kGot_eq, mC_eq, mOp_eq, kOp1_eq, kOp2_eq, mTB_eq, kB_eq, mAnd_eq, kAnd_true, kAnd_false, mOr_eq, kOr_true, kOr_false, mNot_eq, kNot_eq, mIte_eq, kIte_true, kIte_false, mAndV_eq, kAndV_true, kAndV_false, mOrV_eq, kOrV_true, kOrV_false, mNotV_eq, kNotV_eq, mNil_eq, mCons_eq, kCons1_eq, kCons2_eq, mTup_eq, kTup_eq, mLst_eq, kLst_eq, mFrz_eq, kFrz_eq, mMut_eq, kMut_eq, mCall_eq, mCB_eq, kCB_eq, mCBL_eq, kCBL_eq, mTr_eq, kTr_eq, mNeg_eq, kNeg_eq, mChain_eq, kChn1_eq, kChn2_eq, kChn_true, kChn_false, gN_eq, gsN_eq, gsC_eq, kGs_eq, gT_eq, gTp_eq, gSet_eq, kSet1_eq, kSet2_eq, kSetE_eq, setO_eq, setL_nat, setL_lit, setL_str, mMt_eq, kMt1_eq, kMt1'_eq, kMt2_eq, kMt2'_eq, kMt3_eq, fApp_eq, fPop_eq, kPop_eq, getLast_snoc, dropLast_snoc, fExt_eq, kExt_eq, oAdd_int, oAdd_str, oAdd_tup, oAdd_lst, oAdd_loc, kCat_eq, lstD_lst, lstD_loc, isLst_eq, seqD_tup, seqD_lst, seqD_rol, seqD_loc, dicD_dic, dicD_loc, isDic_eq, oSub_int, oMul_int, oDiv_int, oMod_int, oI_plus, oI_minus, oLt_int, oLe_int, oGt_int, oGe_int, oEq_int, oEq_str, oEq_bl, oNe_int, oNe_str, oNe_bl, oIs_non, oIsNot_non, isN_non, isN_int, isN_bl, isN_str, isN_tup, isN_lst, isN_loc, atI_lit, atI_natc, atI_neg1, ixO_tup, ixO_lst, ixO_dics, ixO_dici, ixO_locs, ixO_loci, ixL_lst, ixL_dics, ixL_dici, cLen_tup, cLen_lst, cLen_dic, cLen_loc, lenL_lst, lenL_dic, cInt_int, cInt_bl, cAbs_int, cTup_tup, cTup_lst, cTup_loc, tupL_eq, cList_eq, cBls_lst, blsA_eq, fAll_eq, fAny_eq, truD_lst, truD_tup, truD_bl, truD_int, truD_non, truD_loc, truL_lst, truL_dic, itD_tup, itD_lst, miSeq_eq, kIt_eq, miR1_eq, kR1_eq, miR2_eq, kR2_eq, mSl_eq, kSl1_eq, kSl2_eq, kSl3_eq, mNoP_eq, mPart_eq, kPart_eq, slD_tup, slD_lst, slD_rol, slD_loc, slA_eq, mIsi_eq, kIsi_eq, tyD_non, tyD_bl, tyD_int, tyD_str, tyD_tup, tyD_lst, isi_NoneType_tuple, isi_NoneType_list, isi_NoneType_int, isi_NoneType_str, isi_NoneType_bool, isi_NoneType_int_str, isi_bool_tuple, isi_bool_list, isi_bool_int, isi_bool_str, isi_bool_bool, isi_bool_int_str, isi_int_tuple, isi_int_list, isi_int_int, isi_int_str, isi_int_bool, isi_int_int_str, isi_str_tuple, isi_str_list, isi_str_int, isi_str_str, isi_str_bool, isi_str_int_str, isi_tuple_tuple, isi_tuple_list, isi_tuple_int, isi_tuple_str, isi_tuple_bool, isi_tuple_int_str, isi_list_tuple, isi_list_list, isi_list_int, isi_list_str, isi_list_bool, isi_list_int_str, mDicF_eq, kDicF_eq, mDicM_eq, kDicM_eq, dicA_eq, dicB_eq, mDic0_eq, mGet1_eq, kGet1_eq, kGet1a_eq, mGet2_eq, kGet2_eq, kGet2a_eq, kGet2b_eq, kGet3_str, kGet3_int, kForB_eq, kForS_nx, kForS_ct, kForS_bk, kForS_rt, kWh_true, kWh_false, kWhS_nx, kWhS_ct, kWhS_bk, kWhS_rt, mLc_eq, kLc_eq, kLc1_eq, kLc2_true, kLc2_false, kLc3_eq, kLc4_eq, mYes_eq, wipeE_nil, wipeE_cons, mFun_0, mFun_1, mFun_2, mFun_3, mFun_4, mFun_5, mFun_6, mFun_7, mFun_8, mFunL_0, mFunL_1, mFunL_2, mFunL_3, mFunL_4, mFunL_5, mFunL_6, mFunL_7, mFunL_8, endW_rt, endW_nx, mRev_eq, kRev_eq, miTxt_eq, kTxt_eq, oIsB_bl, oIsNotB_bl, oIn_eq, oNotIn_eq, kIn_eq, kNIn_eq, inO_sign, inA_eq, inO_tup, inO_lst, inO_loc, inL_lst, inL_dics, inL_dici, inO_dics, inO_dici, flatD_non, flatD_bl, flatD_int, flatD_str, ixO_dkls, ixO_dkli, inO_dkls, inO_dkli, dicD_dkl, mDitN_eq, ixDN_eq, kIxN_eq, setN_eq, gSetN_eq, kSetN1_eq, kSetN2_eq, kSetN3_eq, mGet2N_eq, kGetN1_eq, kGetN2_eq, kGetN3_eq, kGetN4_eq, miKeysN_eq, kKeysN_eq, miKeysL_eq, kKeysL_eq, sForP_eq, kForP_eq, kForP2_eq, keepM_eq, mLc2_eq, kLd_eq, kLd1_eq, kLd2_true, kLd2_false, kLd2b_eq, kLd3_eq, kLd4_eq, Nat.reduceSub, Nat.reduceAdd, Nat.reduceLeDiff, Nat.reduceLT, Nat.reduceEqDiff, Int.reduceLT, Int.reduceLE, Int.reduceAdd, Int.reduceSub, Int.reduceNeg, Int.reduceMul, Int.reduceToNat, Int.reduceBEq, fits_lit, List.getElem?_cons_zero, List.getElem?_cons_succ, List.getElem?_nil, List.set_cons_zero, List.set_cons_succ, List.set_nil, List.length_cons, List.length_nil, List.length_set, List.length_map, List.length_append, List.set_set, List.replicate_succ, List.replicate_zero, List.isEmpty_nil, List.isEmpty_cons, List.nil_append, List.cons_append, List.append_assoc, Bool.not_true, Bool.not_false, decide_true, decide_false, if_true, if_false, Bool.false_eq_true, Option.getD_none, Option.getD_some, Option.isSome_none, Option.isSome_some, st_app, st_app0, st_set, st_set0, List.getLast?_nil, getLast_snoc, dropLast_snoc, *])
/-! Euclid in few turns -/
theorem div_zero {st : Store} {x : D} {l : List D} {a : Int} {j : Option D} : forL (gN 2) L__law_divisor_1 (x :: l) [some (.int a), some (.int 0), j] st = some (.rt (.int (Int.gcd a 0)), st) := by
  rw [forL_cons]
  unfold L__law_divisor_1 R__law_divisor_1
  have e : ((0 : Int) == 0) = true := rfl
  l_intsC
  simp
theorem div_step {st : Store} {x : D} {l : List D} {a b : Int} {j : Option D} (hb : 0 < b) : forL (gN 2) L__law_divisor_1 (x :: l) [some (.int a), some (.int b), j] st = forL (gN 2) L__law_divisor_1 l [some (.int b), some (.int (a % b)), some x] st := by
  rw [forL_cons]
  unfold L__law_divisor_1 R__law_divisor_1
  have e : (b == 0) = false := by simp; omega
  l_intsC
theorem gcd_step (a b : Int) : Int.gcd b (a % b) = Int.gcd a b := by rw [Int.emod_def, Int.gcd_sub_mul_left_right, Int.gcd_comm]
theorem half_mod {b r : Int} (hr : 0 < r) (h : r < b) : 0 ≤ b % r ∧ 2 * (b % r) < b := by
  have h1 := Int.emod_nonneg b (show r ≠ 0 by omega)
  have h2 := Int.emod_lt_of_pos b hr
  have h3 := Int.mul_ediv_add_emod b r
  have h4 : 1 ≤ b / r := by
    have := Int.ediv_le_ediv hr (Int.le_of_lt h)
    rw [Int.ediv_self (by omega)] at this
    exact this
  have h5 : r * 1 ≤ r * (b / r) := Int.mul_le_mul_of_nonneg_left h4 (by omega)
  omega
theorem div_log {st : Store} : ∀ (k : Nat) (l : List D) (a b : Int) (j : Option D), 0 ≤ b → b < (2 : Int) ^ k → 2 * k < l.length → forL (gN 2) L__law_divisor_1 l [some (.int a), some (.int b), j] st = some (.rt (.int (Int.gcd a b)), st)
  | 0, [], a, b, j, h0, h1, h2 => by simp at h2
  | 0, x :: l, a, b, j, h0, h1, h2 => by
    have : b = 0 := by simp at h1; omega
    subst this
    exact div_zero
  | k + 1, [], a, b, j, h0, h1, h2 => by simp at h2
  | k + 1, [x], a, b, j, h0, h1, h2 => by simp at h2
  | k + 1, [x, y], a, b, j, h0, h1, h2 => by simp at h2; omega
  | k + 1, x :: y :: z :: l, a, b, j, h0, h1, h2 => by
    by_cases hb : b = 0
    · subst hb
      exact div_zero
    · rw [div_step (by omega)]
      have r0 := Int.emod_nonneg a hb
      have r1 := Int.emod_lt_of_pos a (show 0 < b by omega)
      by_cases hr : a % b = 0
      · rw [hr, div_zero, ← gcd_step a b, hr]
      · rw [div_step (by omega)]
        obtain ⟨m0, m1⟩ := half_mod (b := b) (r := a % b) (by omega) r1
        have hp : (2 : Int) ^ (k + 1) = 2 * 2 ^ k := by rw [Int.pow_succ]; omega
        rw [div_log k (z :: l) (a % b) (b % (a % b)) (some y) m0 (by omega) (by simp at h2 ⊢; omega), gcd_step, gcd_step]
/-- half of the length that numbers may have -/
def HB : Nat := 2 ^ 4000
theorem HB_sq : HB * HB = BIGN := by decide +kernel
theorem HB_le : HB ≤ BIGN := by decide +kernel
theorem fits_nat {i : Int} (h : i.natAbs < BIGN) : Fits i = true := @decide_eq_true _ (Classical.propDecidable _) h
theorem nat_fits {i : Int} (h : Fits i = true) : i.natAbs < BIGN := @of_decide_eq_true _ (Classical.propDecidable _) h
theorem fits_hb {i : Int} (h : i.natAbs < HB) : Fits i = true := fits_nat (Nat.lt_of_lt_of_le h HB_le)
theorem fits_mul {i j : Int} (h : i.natAbs < HB) (h2 : j.natAbs < HB) : Fits (i * j) = true := fits_nat (by
  rw [Int.natAbs_mul, ← HB_sq]
  exact Nat.mul_lt_mul'' h h2)
theorem fits_le {i j : Int} (h : Fits j = true) (h0 : 0 ≤ i) (h1 : i ≤ j) : Fits i = true := fits_nat (by
  have := nat_fits h
  omega)
theorem pow_BIGN : (2 : Int) ^ 8000 = (BIGN : Int) := by decide +kernel
theorem divisor_big (a b : Int) (st : Store) (h : 0 ≤ b) (h2 : Fits b = true) : F__law_divisor [.int a, .int b] st = some (.int (Int.gcd a b), st) := by
  have hb : b < (2 : Int) ^ 8000 := by
    rw [pow_BIGN]
    have := nat_fits h2
    omega
  have e := div_log (st := st) 8000 (rngL 0 20000) a b none h hb (by rw [rngL_length]; decide)
  clear hb
  unfold F__law_divisor B__law_divisor
  l_intsC
  rw [fin_same rfl]
theorem lfrac_eq (n d : Int) (st : Store) (h : 0 < d) (h2 : Fits d = true) : F__law_fraction [.int n, .int d] st = some (eF (frac n d), st) := by
  have hd := divisor_big n d st (by omega) h2
  have g0 := gcd_pos n d h
  have g1 := gcd_le n d h
  have f1 : Fits (Int.gcd n d : Int) = true := fits_le h2 (by omega) g1
  unfold F__law_fraction B__law_fraction
  l_intsC
  rw [fin_same rfl]
  rfl
theorem frac_one (n : Int) : frac n 1 = (n, 1) := by
  unfold frac
  rw [Int.gcd_one]
  simp
theorem ratio_eq (n d : Int) (st : Store) (h : 0 < d) (h2 : Fits d = true) : F_ratio [.int n, .int d] st = some (eF (frac n d), st) := by
  have hd : ∀ st, pureF F_common_divisor [.int n, .int d] st = _ := fun st => pure_eq (common_divisor_eq n d []) rfl
  have g0 := gcd_pos n d h
  have g1 := gcd_le n d h
  have f1 : Fits (Int.gcd n d : Int) = true := fits_le h2 (by omega) g1
  have nl : ¬ d < 0 := by omega
  unfold F_ratio B_ratio R_ratio_2 R_ratio_1
  by_cases c : d = 1
  · subst c
    rw [frac_one]
    have e : ((1 : Int) == 1) = true := rfl
    clear hd g0 g1 f1
    l_intsC
    rw [fin_same rfl]
    rfl
  · have e : (d == 1) = false := by simpa using c
    l_intsC
    rw [fin_same rfl]
    rfl
def ftimes (a b : Int × Int) : Int × Int := frac (a.1 * b.1) (a.2 * b.2)
/-- a fraction that is short -/
def HF (p : Int × Int) : Prop := 0 < p.2 ∧ p.1.natAbs < HB ∧ p.2.natAbs < HB
section
variable {a b : Int × Int} (st : Store) (ha : HF a) (hb : HF b)
include ha hb
theorem ltimes_eq : F__law_times [eF a, eF b] st = some (eF (ftimes a b), st) := by
  have e := lfrac_eq (a.1 * b.1) (a.2 * b.2) st (Int.mul_pos ha.1 hb.1) (fits_mul ha.2.2 hb.2.2)
  have f1 : Fits a.1 = true := fits_hb ha.2.1
  have f2 : Fits a.2 = true := fits_hb ha.2.2
  have f3 : Fits b.1 = true := fits_hb hb.2.1
  have f4 : Fits b.2 = true := fits_hb hb.2.2
  clear ha hb
  unfold F__law_times B__law_times
  unfold eF ftimes at *
  l_intsC
  rw [fin_same rfl]
theorem lplus_eq : F__law_plus [eF a, eF b] st = some (eF (fplus a b), st) := by
  have e := lfrac_eq (a.1 * b.2 + b.1 * a.2) (a.2 * b.2) st (Int.mul_pos ha.1 hb.1) (fits_mul ha.2.2 hb.2.2)
  have f1 : Fits a.1 = true := fits_hb ha.2.1
  have f2 : Fits a.2 = true := fits_hb ha.2.2
  have f3 : Fits b.1 = true := fits_hb hb.2.1
  have f4 : Fits b.2 = true := fits_hb hb.2.2
  clear ha hb
  unfold F__law_plus B__law_plus
  unfold eF fplus at *
  l_intsC
  rw [fin_same rfl]
theorem times_eqP : F_times [eF a, eF b] st = some (eF (ftimes a b), st) := by
  have e : ∀ st, pureF F_ratio [.int (a.1 * b.1), .int (a.2 * b.2)] st = _ := fun st => pure_eq (ratio_eq (a.1 * b.1) (a.2 * b.2) [] (Int.mul_pos ha.1 hb.1) (fits_mul ha.2.2 hb.2.2)) rfl
  have f1 : Fits a.1 = true := fits_hb ha.2.1
  have f2 : Fits a.2 = true := fits_hb ha.2.2
  have f3 : Fits b.1 = true := fits_hb hb.2.1
  have f4 : Fits b.2 = true := fits_hb hb.2.2
  clear ha hb
  unfold F_times B_times
  unfold eF ftimes at *
  l_intsC
  rw [fin_same rfl]
theorem plus_eqP : F_plus [eF a, eF b] st = some (eF (fplus a b), st) := by
  have e : ∀ st, pureF F_ratio [.int (a.1 * b.2 + b.1 * a.2), .int (a.2 * b.2)] st = _ := fun st => pure_eq (ratio_eq (a.1 * b.2 + b.1 * a.2) (a.2 * b.2) [] (Int.mul_pos ha.1 hb.1) (fits_mul ha.2.2 hb.2.2)) rfl
  have f1 : Fits a.1 = true := fits_hb ha.2.1
  have f2 : Fits a.2 = true := fits_hb ha.2.2
  have f3 : Fits b.1 = true := fits_hb hb.2.1
  have f4 : Fits b.2 = true := fits_hb hb.2.2
  clear ha hb
  unfold F_plus B_plus R_plus_1
  by_cases c : a.2 = b.2
  · by_cases c2 : b.2 = 1
    · have fe : fplus a b = (a.1 + b.1, 1) := by
        unfold fplus
        rw [c, c2, Int.mul_one, Int.mul_one, Int.mul_one, frac_one]
      rw [fe]
      have q1 : (a.2 == b.2) = true := by simpa using c
      have q2 : (b.2 == 1) = true := by simpa using c2
      clear e fe c c2
      unfold eF
      l_intsC
      rw [fin_same rfl]
    · have q1 : (a.2 == b.2) = true := by simpa using c
      have q2 : (b.2 == 1) = false := by simpa using c2
      clear c c2
      unfold eF fplus at *
      l_intsC
      rw [fin_same rfl]
  · have q1 : (a.2 == b.2) = false := by simpa using c
    clear c
    unfold eF fplus at *
    l_intsC
    rw [fin_same rfl]
theorem times_p : pureF F_times [eF a, eF b] st = some (eF (ftimes a b), st) := pure_eq (times_eqP [] ha hb) rfl
theorem plus_p : pureF F_plus [eF a, eF b] st = some (eF (fplus a b), st) := pure_eq (plus_eqP [] ha hb) rfl
end
/-! ### sizes of fractions -/
theorem frac_pos {n d : Int} (hd : 0 < d) : 0 < (frac n d).2 := Int.ediv_pos_of_pos_of_dvd hd (by have := gcd_pos n d hd; omega) (Int.gcd_dvd_right ..)
theorem frac_low {n d : Int} (hd : 0 < d) : Int.gcd (frac n d).1 (frac n d).2 = 1 := Int.gcd_ediv_gcd_ediv_gcd (by have := gcd_pos n d hd; omega)
theorem frac_parts {n d : Int} (hd : 0 < d) : n = (Int.gcd n d : Int) * (frac n d).1 ∧ d = (Int.gcd n d : Int) * (frac n d).2 := ⟨(Int.mul_ediv_cancel' (Int.gcd_dvd_left ..)).symm, (Int.mul_ediv_cancel' (Int.gcd_dvd_right ..)).symm⟩
/-- the denominator divides what the numerator's products do -/
theorem frac_dvd {n d M : Int} (hd : 0 < d) (h : d ∣ n * M) : (frac n d).2 ∣ M := by
  obtain ⟨e1, e2⟩ := frac_parts (n := n) hd
  have g := gcd_pos n d hd
  have c := frac_low (n := n) hd
  generalize (frac n d).1 = n' at *
  generalize (frac n d).2 = d' at *
  generalize (Int.gcd n d : Int) = k at *
  subst e1
  obtain ⟨q, hq⟩ := h
  have h2 : d' ∣ n' * M := by
    refine ⟨q, ?_⟩
    have : k * (n' * M) = k * (d' * q) := by rw [← Int.mul_assoc, hq, e2, Int.mul_assoc]
    exact Int.eq_of_mul_eq_mul_left (by omega) this
  have c2 : Int.gcd d' n' = 1 := by rw [Int.gcd_comm]; exact c
  have := Int.natAbs_dvd_natAbs.mpr h2
  rw [Int.natAbs_mul] at this
  exact Int.natAbs_dvd_natAbs.mp (Nat.Coprime.dvd_of_dvd_mul_left (show Nat.Coprime d'.natAbs n'.natAbs from c2) this)
theorem frac_le {n d c : Int} (hd : 0 < d) (hn : 0 < n) (h : n ≤ c * d) : 0 < (frac n d).1 ∧ (frac n d).1 ≤ c * (frac n d).2 := by
  obtain ⟨e1, e2⟩ := frac_parts (n := n) hd
  have g := gcd_pos n d hd
  have p := frac_pos (n := n) hd
  refine ⟨Int.ediv_pos_of_pos_of_dvd hn (by omega) (Int.gcd_dvd_left ..), ?_⟩
  generalize (frac n d).1 = n' at *
  generalize (frac n d).2 = d' at *
  generalize (Int.gcd n d : Int) = k at *
  subst e1
  rw [e2] at h
  have : k * n' ≤ k * (c * d') := by
    have e : c * (k * d') = k * (c * d') := by rw [← Int.mul_assoc, Int.mul_comm c k, Int.mul_assoc]
    rw [e] at h
    exact h
  exact Int.le_of_mul_le_mul_left this g
/-- a chance whose denominator divides M, of at most c -/
structure Ch (M c : Int) (p : Int × Int) : Prop where
  pos : 0 < p.2
  dvd : p.2 ∣ M
  low : 0 < p.1
  le : p.1 ≤ c * p.2
  cop : Int.gcd p.1 p.2 = 1
theorem Ch.mono {M c c' : Int} {p : Int × Int} (h : Ch M c p) (hc : c ≤ c') : Ch M c' p := ⟨h.pos, h.dvd, h.low, Int.le_trans h.le (Int.mul_le_mul_of_nonneg_right hc (Int.le_of_lt h.pos)), h.cop⟩
theorem Ch.mul {M M' : Int} {p : Int × Int} {c : Int} (h : Ch M c p) (hd : M ∣ M') : Ch M' c p := ⟨h.pos, Int.dvd_trans h.dvd hd, h.low, h.le, h.cop⟩
theorem Ch.hf {M c : Int} {p : Int × Int} (h : Ch M c p) (hM : 0 < M) (hc : 1 ≤ c) (hs : (c * M).natAbs < HB) : HF p := by
  have h1 := Int.le_of_dvd hM h.dvd
  have h2 : c * p.2 ≤ c * M := Int.mul_le_mul_of_nonneg_left h1 (by omega)
  have h3 : 1 * M ≤ c * M := Int.mul_le_mul_of_nonneg_right hc (by omega)
  have := h.pos; have := h.low; have := h.le
  exact ⟨h.pos, by omega, by omega⟩
theorem Ch.times {M N : Int} {p q : Int × Int} (h : Ch M 1 p) (k : Ch N 1 q) : Ch (M * N) 1 (ftimes p q) := by
  have hd := Int.mul_pos h.pos k.pos
  have hn := Int.mul_pos h.low k.low
  have l1 := h.le
  have l2 := k.le
  have hl : p.1 * q.1 ≤ 1 * (p.2 * q.2) := by
    rw [Int.one_mul] at *
    exact Int.mul_le_mul l1 l2 (Int.le_of_lt k.low) (Int.le_of_lt h.pos)
  obtain ⟨f1, f2⟩ := frac_le hd hn hl
  refine ⟨frac_pos hd, frac_dvd hd ?_, f1, f2, frac_low hd⟩
  obtain ⟨x, hx⟩ := h.dvd
  obtain ⟨y, hy⟩ := k.dvd
  refine ⟨p.1 * q.1 * (x * y), ?_⟩
  rw [hx, hy]
  simp only [Int.mul_assoc, Int.mul_comm, Int.mul_left_comm]
theorem Ch.plus {M c d : Int} {p q : Int × Int} (h : Ch M c p) (k : Ch M d q) : Ch M (c + d) (fplus p q) := by
  have hd := Int.mul_pos h.pos k.pos
  have n1 := Int.mul_pos h.low k.pos
  have n2 := Int.mul_pos k.low h.pos
  have l1 : p.1 * q.2 ≤ c * p.2 * q.2 := Int.mul_le_mul_of_nonneg_right h.le (Int.le_of_lt k.pos)
  have l2 : q.1 * p.2 ≤ d * q.2 * p.2 := Int.mul_le_mul_of_nonneg_right k.le (Int.le_of_lt h.pos)
  have hl : p.1 * q.2 + q.1 * p.2 ≤ (c + d) * (p.2 * q.2) := by
    have e1 : c * p.2 * q.2 = c * (p.2 * q.2) := Int.mul_assoc ..
    have e2 : d * q.2 * p.2 = d * (p.2 * q.2) := by rw [Int.mul_assoc, Int.mul_comm q.2]
    rw [Int.add_mul]
    omega
  obtain ⟨f1, f2⟩ := frac_le hd (by omega) hl
  refine ⟨frac_pos hd, frac_dvd hd ?_, f1, f2, frac_low hd⟩
  obtain ⟨x, hx⟩ := h.dvd
  obtain ⟨y, hy⟩ := k.dvd
  refine ⟨p.1 * x + q.1 * y, ?_⟩
  have b1 : p.1 * q.2 * M = p.2 * q.2 * (p.1 * x) := by
    rw [hx]; simp only [Int.mul_assoc, Int.mul_comm, Int.mul_left_comm]
  have b2 : q.1 * p.2 * M = p.2 * q.2 * (q.1 * y) := by
    rw [hy]; simp only [Int.mul_assoc, Int.mul_comm, Int.mul_left_comm]
  rw [Int.add_mul, Int.mul_add, b1, b2]
end K31
end
section
set_option Elab.async false
set_option autoImplicit false
set_option linter.all false
set_option maxRecDepth 100000
set_option maxHeartbeats 2000000
namespace K31
open PySem L2 Mn
local macro_rules | `(tactic| l_ints) => `(tactic| simp only [bnd_some', ret1_some', sSeq_eq, kThen_nx, kThen_rt, kThen_bk, kThen_ct, sNil_eq, sAsg_eq, kAsg_eq, sDrop_eq, kDrop_eq, sRet_eq, kRet_eq, sRetN_eq, sBreak_eq, sCont_eq, sIf_eq, kIf_true, kIf_false, sTgt_eq, kTgt1_eq, kTgt2_eq, sPar_eq, kPar2_eq, sPar3_eq, kPar3_eq, sFor_eq, kFor_eq, sAug_eq, kAug_eq, kAug1_eq, mV_eq, kGot_eq, mC_eq, mOp_eq, kOp1_eq, kOp2_eq, mTB_eq, kB_eq, mAnd_eq, kAnd_true, kAnd_false, mOr_eq, kOr_true, kOr_false, mNot_eq, kNot_eq, mIte_eq, kIte_true, kIte_false, mAndV_eq, kAndV_true, kAndV_false, mOrV_eq, kOrV_true, kOrV_false, mNotV_eq, kNotV_eq, mNil_eq, mCons_eq, kCons1_eq, kCons2_eq, mTup_eq, kTup_eq, mLst_eq, kLst_eq, mFrz_eq, kFrz_eq, mMut_eq, kMut_eq, mCall_eq, mCB_eq, kCB_eq, mCBL_eq, kCBL_eq, mTr_eq, kTr_eq, mNeg_eq, kNeg_eq, mChain_eq, kChn1_eq, kChn2_eq, kChn_true, kChn_false, gN_eq, gsN_eq, gsC_eq, kGs_eq, gT_eq, gTp_eq, gSet_eq, kSet1_eq, kSet2_eq, kSetE_eq, setO_eq, setL_nat, setL_lit, setL_str, mMt_eq, kMt1_eq, kMt1'_eq, kMt2_eq, kMt2'_eq, kMt3_eq, fApp_eq, fPop_eq, kPop_eq, getLast_snoc, dropLast_snoc, fExt_eq, kExt_eq, oAdd_int, oAdd_str, oAdd_tup, oAdd_lst, oAdd_loc, kCat_eq, lstD_lst, lstD_loc, isLst_eq, seqD_tup, seqD_lst, seqD_rol, seqD_loc, dicD_dic, dicD_loc, isDic_eq, oSub_int, oMul_int, oDiv_int, oMod_int, oI_plus, oI_minus, oLt_int, oLe_int, oGt_int, oGe_int, oEq_int, oEq_str, oEq_bl, oNe_int, oNe_str, oNe_bl, oIs_non, oIsNot_non, isN_non, isN_int, isN_bl, isN_str, isN_tup, isN_lst, isN_loc, atI_lit, atI_natc, atI_neg1, ixO_tup, ixO_lst, ixO_dics, ixO_dici, ixO_locs, ixO_loci, ixL_lst, ixL_dics, ixL_dici, cLen_tup, cLen_lst, cLen_dic, cLen_loc, lenL_lst, lenL_dic, cInt_int, cInt_bl, cAbs_int, cTup_tup, cTup_lst, cTup_loc, tupL_eq, cList_eq, cBls_lst, blsA_eq, fAll_eq, fAny_eq, truD_lst, truD_tup, truD_bl, truD_int, truD_non, truD_loc, truL_lst, truL_dic, itD_tup, itD_lst, miSeq_eq, kIt_eq, miR1_eq, kR1_eq, miR2_eq, kR2_eq, mSl_eq, kSl1_eq, kSl2_eq, kSl3_eq, mNoP_eq, mPart_eq, kPart_eq, slD_tup, slD_lst, slD_rol, slD_loc, slA_eq, mIsi_eq, kIsi_eq, tyD_non, tyD_bl, tyD_int, tyD_str, tyD_tup, tyD_lst, isi_NoneType_tuple, isi_NoneType_list, isi_NoneType_int, isi_NoneType_str, isi_NoneType_bool, isi_NoneType_int_str, isi_bool_tuple, isi_bool_list, isi_bool_int, isi_bool_str, isi_bool_bool, isi_bool_int_str, isi_int_tuple, isi_int_list, isi_int_int, isi_int_str, isi_int_bool, isi_int_int_str, isi_str_tuple, isi_str_list, isi_str_int, isi_str_str, isi_str_bool, isi_str_int_str, isi_tuple_tuple, isi_tuple_list, isi_tuple_int, isi_tuple_str, isi_tuple_bool, isi_tuple_int_str, isi_list_tuple, isi_list_list, isi_list_int, isi_list_str, isi_list_bool, isi_list_int_str, mDicF_eq, kDicF_eq, mDicM_eq, kDicM_eq, dicA_eq, dicB_eq, mDic0_eq, mGet1_eq, kGet1_eq, kGet1a_eq, mGet2_eq, kGet2_eq, kGet2a_eq, kGet2b_eq, kGet3_str, kGet3_int, kForB_eq, kForS_nx, kForS_ct, kForS_bk, kForS_rt, kWh_true, kWh_false, kWhS_nx, kWhS_ct, kWhS_bk, kWhS_rt, mLc_eq, kLc_eq, kLc1_eq, kLc2_true, kLc2_false, kLc3_eq, kLc4_eq, mYes_eq, wipeE_nil, wipeE_cons, mFun_0, mFun_1, mFun_2, mFun_3, mFun_4, mFun_5, mFun_6, mFun_7, mFun_8, mFunL_0, mFunL_1, mFunL_2, mFunL_3, mFunL_4, mFunL_5, mFunL_6, mFunL_7, mFunL_8, endW_rt, endW_nx, mRev_eq, kRev_eq, miTxt_eq, kTxt_eq, oIsB_bl, oIsNotB_bl, oIn_eq, oNotIn_eq, kIn_eq, kNIn_eq, inO_sign, inA_eq, inO_tup, inO_lst, inO_loc, inL_lst, inL_dics, inL_dici, inO_dics, inO_dici, flatD_non, flatD_bl, flatD_int, flatD_str, ixO_dkls, ixO_dkli, inO_dkls, inO_dkli, dicD_dkl, mDitN_eq, ixDN_eq, kIxN_eq, setN_eq, gSetN_eq, kSetN1_eq, kSetN2_eq, kSetN3_eq, mGet2N_eq, kGetN1_eq, kGetN2_eq, kGetN3_eq, kGetN4_eq, miKeysN_eq, kKeysN_eq, miKeysL_eq, kKeysL_eq, sForP_eq, kForP_eq, kForP2_eq, keepM_eq, mLc2_eq, kLd_eq, kLd1_eq, kLd2_true, kLd2_false, kLd2b_eq, kLd3_eq, kLd4_eq, Nat.reduceSub, Nat.reduceAdd, Nat.reduceLeDiff, Nat.reduceLT, Nat.reduceEqDiff, Int.reduceLT, Int.reduceLE, Int.reduceAdd, Int.reduceSub, Int.reduceNeg, Int.reduceMul, Int.reduceToNat, Int.reduceBEq, fits_lit, List.getElem?_cons_zero, List.getElem?_cons_succ, List.getElem?_nil, List.set_cons_zero, List.set_cons_succ, List.set_nil, List.length_cons, List.length_nil, List.length_set, List.length_map, List.length_append, List.set_set, List.replicate_succ, List.replicate_zero, List.isEmpty_nil, List.isEmpty_cons, List.nil_append, List.cons_append, List.append_assoc, Bool.not_true, Bool.not_false, decide_true, decide_false, if_true, if_false, Bool.false_eq_true, Option.getD_none, Option.getD_some, Option.isSome_none, Option.isSome_some, st_app, st_app0, st_set, st_set0, List.getLast?_nil, getLast_snoc, dropLast_snoc])
local macro_rules | `(tactic| l_intsC) => `(tactic| simp only [bnd_some', ret1_some', sSeq_eq, kThen_nx, kThen_rt, kThen_bk, kThen_ct, sNil_eq, sAsg_eq, kAsg_eq, sDrop_eq, kDrop_eq, sRet_eq, kRet_eq, sRetN_eq, sBreak_eq, sCont_eq, sIf_eq, kIf_true, kIf_false, sTgt_eq, kTgt1_eq, kTgt2_eq, sPar_eq, kPar2_eq, sPar3_eq, kPar3_eq, sFor_eq, kFor_eq, sAug_eq, kAug_eq, kAug1_eq, mV_eq, kGot_eq, mC_eq, mOp_eq, kOp1_eq, kOp2_eq, mTB_eq, kB_eq, mAnd_eq, kAnd_true, kAnd_false, mOr_eq, kOr_true, kOr_false, mNot_eq, kNot_eq, mIte_eq, kIte_true, kIte_false, mAndV_eq, kAndV_true, kAndV_false, mOrV_eq, kOrV_true, kOrV_false, mNotV_eq, kNotV_eq, mNil_eq, mCons_eq, kCons1_eq, kCons2_eq, mTup_eq, kTup_eq, mLst_eq, kLst_eq, mFrz_eq, kFrz_eq, mMut_eq, kMut_eq, mCall_eq, mCB_eq, kCB_eq, mCBL_eq, kCBL_eq, mTr_eq, kTr_eq, mNeg_eq, kNeg_eq, mChain_eq, kChn1_eq, kChn2_eq, kChn_true, kChn_false, gN_eq, gsN_eq, gsC_eq, kGs_eq, gT_eq, gTp_eq, gSet_eq, kSet1_eq, kSet2_eq, kSetE_eq, setO_eq, setL_nat, setL_lit, setL_str, mMt_eq, kMt1_eq, kMt1'_eq, kMt2_eq, kMt2'_eq, kMt3_eq, fApp_eq, fPop_eq, kPop_eq, getLast_snoc, dropLast_snoc, fExt_eq, kExt_eq, oAdd_int, oAdd_str, oAdd_tup, oAdd_lst, oAdd_loc, kCat_eq, lstD_lst, lstD_loc, isLst_eq, seqD_tup, seqD_lst, seqD_rol, seqD_loc, dicD_dic, dicD_loc, isDic_eq, oSub_int, oMul_int, oDiv_int, oMod_int, oI_plus, oI_minus, oLt_int, oLe_int, oGt_int, oGe_int, oEq_int, oEq_str, oEq_bl, oNe_int, oNe_str, oNe_bl, oIs_non, oIsNot_non, isN_non, isN_int, isN_bl, isN_str, isN_tup, isN_lst, isN_loc, atI_lit, atI_natc, atI_neg1, ixO_tup, ixO_lst, ixO_dics, ixO_dici, ixO_locs, ixO_loci, ixL_lst, ixL_dics, ixL_dici, cLen_tup, cLen_lst, cLen_dic, cLen_loc, lenL_lst, lenL_dic, cInt_int, cInt_bl, cAbs_int, cTup_tup, cTup_lst, cTup_loc, tupL_eq, cList_eq, cBls_lst, blsA_eq, fAll_eq, fAny_eq, truD_lst, truD_tup, truD_bl, truD_int, truD_non, truD_loc, truL_lst, truL_dic, itD_tup, itD_lst, miSeq_eq, kIt_eq, miR1_eq, kR1_eq, miR2_eq, kR2_eq, mSl_eq, kSl1_eq, kSl2_eq, kSl3_eq, mNoP_eq, mPart_eq, kPart_eq, slD_tup, slD_lst, slD_rol, slD_loc, slA_eq, mIsi_eq, kIsi_eq, tyD_non, tyD_bl, tyD_int, tyD_str, tyD_tup, tyD_lst, isi_NoneType_tuple, isi_NoneType_list, isi_NoneType_int, isi_NoneType_str, isi_NoneType_bool, isi_NoneType_int_str, isi_bool_tuple, isi_bool_list, isi_bool_int, isi_bool_str, isi_bool_bool, isi_bool_int_str, isi_int_tuple, isi_int_list, isi_int_int, isi_int_str, isi_int_bool, isi_int_int_str, isi_str_tuple, isi_str_list, isi_str_int, isi_str_str, isi_str_bool, isi_str_int_str, isi_tuple_tuple, isi_tuple_list, isi_tuple_int, isi_tuple_str, isi_tuple_bool, isi_tuple_int_str, isi_list_tuple, isi_list_list, isi_list_int, isi_list_str, isi_list_bool, isi_list_int_str, mDicF_eq, kDicF_eq, mDicM_eq, kDicM_eq, dicA_eq, dicB_eq, mDic0_eq, mGet1_eq, kGet1_eq, kGet1a_eq, mGet2_eq, kGet2_eq, kGet2a_eq, kGet2b_eq, kGet3_str, kGet3_int, kForB_eq, kForS_nx, kForS_ct, kForS_bk, kForS_rt, kWh_true, kWh_false, kWhS_nx, kWhS_ct, kWhS_bk, kWhS_rt, mLc_eq, kLc_eq, kLc1_eq, kLc2_true, kLc2_false, kLc3_eq, kLc4_eq, mYes_eq, wipeE_nil, wipeE_cons, mFun_0, mFun_1, mFun_2, mFun_3, mFun_4, mFun_5, mFun_6, mFun_7, mFun_8, mFunL_0, mFunL_1, mFunL_2, mFunL_3, mFunL_4, mFunL_5, mFunL_6, mFunL_7, mFunL_8, endW_rt, endW_nx, mRev_eq, kRev_eq, miTxt_eq, kTxt_eq, oIsB_bl, oIsNotB_bl, oIn_eq, oNotIn_eq, kIn_eq, kNIn_eq, inO_sign, inA_eq, inO_tup, inO_lst, inO_loc, inL_lst, inL_dics, inL_dici, inO_dics, inO_dici, flatD_non, flatD_bl, flatD_int, flatD_str, ixO_dkls, ixO_dkli, inO_dkls, inO_dkli, dicD_dkl, mDitN_eq, ixDN_eq, kIxN_eq, setN_eq, gSetN_eq, kSetN1_eq, kSetN2_eq, kSetN3_eq, mGet2N_eq, kGetN1_eq, kGetN2_eq, kGetN3_eq, kGetN4_eq, miKeysN_eq, kKeysN_eq, miKeysL_eq, kKeysL_eq, sForP_eq, kForP_eq, kForP2_eq, keepM_eq, mLc2_eq, kLd_eq, kLd1_eq, kLd2_true, kLd2_false, kLd2b_eq, kLd3_eq, kLd4_eq, Nat.reduceSub, Nat.reduceAdd, Nat.reduceLeDiff, Nat.reduceLT, Nat.reduceEqDiff, Int.reduceLT, Int.reduceLE, Int.reduceAdd, Int.reduceSub, Int.reduceNeg, Int.reduceMul, Int.reduceToNat, Int.reduceBEq, fits_lit, List.getElem?_cons_zero, List.getElem?_cons_succ, List.getElem?_nil, List.set_cons_zero, List.set_cons_succ, List.set_nil, List.length_cons, List.length_nil, List.length_set, List.length_map, List.length_append, List.set_set, List.replicate_succ, List.replicate_zero, List.isEmpty_nil, List.isEmpty_cons, List.nil_append, List.cons_append, List.append_assoc, Bool.not_true, Bool.not_false, decide_true, decide_false, if_true, if_false, Bool.false_eq_true, Option.getD_none, Option.getD_some, Option.isSome_none, Option.isSome_some, st_app, st_app0, st_set, st_set0, List.getLast?_nil, getLast_snoc, dropLast_snoc, *])
/-! ### bodies -/
mutual
inductive Bod where
  | en | st | tell (x : Str) (b : Bod) | call (x : Str) (b : Bod) | draw (r : Rws)
inductive Rws where
  | nil | cons (f : Int × Int) (b : Bod) (r : Rws)
end
mutual
def eB : Bod → D
  | .en => .tup [.str "end"]
  | .st => .tup [.str "stop"]
  | .tell x b => .tup [.str "tell", .str x, eB b]
  | .call x b => .tup [.str "call", .str x, eB b]
  | .draw r => .tup [.str "draw", .tup (eR r)]
def eR : Rws → List D
  | .nil => []
  | .cons f b r => .tup [eF f, eB b] :: eR r
end
def Rws.fs : Rws → List (Int × Int)
  | .nil => []
  | .cons f _ r => f :: r.fs
mutual
/-- calls in nm, draws as cut, n deep at most -/
def OkB (nm : List Str) : Nat → Bod → Prop
  | _, .en => True
  | _, .st => True
  | 0, _ => False
  | n + 1, .tell x b => x ∈ tellS ∧ OkB nm n b
  | n + 1, .call x b => x ∈ nm ∧ OkB nm n b
  | n + 1, .draw r => CutOK r.fs = true ∧ OkR nm n r
def OkR (nm : List Str) : Nat → Rws → Prop
  | _, .nil => True
  | n, .cons _ b r => OkB nm n b ∧ OkR nm n r
end
theorem IsB.bod {nm : List Str} : ∀ {n : Nat} {d : D}, IsB nm (n + 1) d → ∃ b, d = eB b ∧ OkB nm n b
  | n, d, h => by
    have low : ∀ {b : D}, IsB nm n b → ∃ k, n = k + 1 ∧ ∃ c, b = eB c ∧ OkB nm k c := fun {b} hb => by
      cases n with
      | zero => exact hb.elim
      | succ k =>
        obtain ⟨c, h1, h2⟩ := IsB.bod (n := k) hb
        exact ⟨k, rfl, c, h1, h2⟩
    rcases h with rfl | rfl | ⟨x, b, hx, rfl, hb⟩ | ⟨x, b, hx, rfl, hb⟩ | ⟨rs, rfl, hc, hr⟩
    · exact ⟨.en, by simp [eB], by simp [OkB]⟩
    · exact ⟨.st, by simp [eB], by simp [OkB]⟩
    · obtain ⟨k, rfl, c, rfl, ok⟩ := low hb
      exact ⟨.tell x c, by simp [eB], by simp only [OkB]; exact ⟨hx, ok⟩⟩
    · obtain ⟨k, rfl, c, rfl, ok⟩ := low hb
      exact ⟨.call x c, by simp [eB], by simp only [OkB]; exact ⟨hx, ok⟩⟩
    · obtain ⟨k, rfl⟩ : ∃ k, n = k + 1 := by
        cases rs with
        | nil => exact absurd hc (by decide)
        | cons q rs =>
          obtain ⟨k, hk, _⟩ := low (hr q (List.mem_cons_self ..))
          exact ⟨k, hk⟩
      have : ∀ rs : List ((Int × Int) × D), (∀ r ∈ rs, IsB nm (k + 1) r.2) → ∃ r : Rws, (rs.map fun r => D.tup [eF r.1, r.2]) = eR r ∧ r.fs = rs.map (·.1) ∧ OkR nm k r := by
        intro rs
        induction rs with
        | nil => exact fun _ => ⟨.nil, by simp [eR], rfl, by simp [OkR]⟩
        | cons q rs ih =>
          intro h
          obtain ⟨r, h1, h2, h3⟩ := ih fun r hr => h r (List.mem_cons_of_mem _ hr)
          obtain ⟨j, hj, b, hb, ok⟩ := low (h q (List.mem_cons_self ..))
          obtain rfl : k = j := by omega
          exact ⟨.cons q.1 b r, by simp only [List.map_cons, eR, h1, hb], by simp [Rws.fs, h2], by simp only [OkR]; exact ⟨ok, h3⟩⟩
      obtain ⟨r, h1, h2, h3⟩ := this rs hr
      exact ⟨.draw r, by simp only [eB, h1], by simp only [OkB]; exact ⟨by rw [h2]; exact hc, h3⟩⟩
mutual
theorem lo_eB {m : Nat} : ∀ b : Bod, lo m (eB b) = true
  | .en => by simp [eB, lo, los]
  | .st => by simp [eB, lo, los]
  | .tell x b => by simp [eB, lo, los, lo_eB b]
  | .call x b => by simp [eB, lo, los, lo_eB b]
  | .draw r => by simp [eB, lo, los, los_eR r]
theorem los_eR {m : Nat} : ∀ r : Rws, los m (eR r) = true
  | .nil => by simp [eR, los]
  | .cons f b r => by simp [eR, lo, los, eF, lo_eB b, los_eR r]
end
/-! ### the ways through a body -/
structure Way where
  c : Int × Int
  cs : List Str
  ls : List Str
mutual
def waysB : Bod → (Int × Int) → List Str → List Str → List Way
  | .en, c, cs, ls => [⟨c, cs, ls⟩]
  | .st, _, _, _ => []
  | .tell x b, c, cs, ls => waysB b c cs (ls ++ [x])
  | .call x b, c, cs, ls => waysB b c (cs ++ [x]) ls
  | .draw r, c, cs, ls => waysR r c cs ls
def waysR : Rws → (Int × Int) → List Str → List Str → List Way
  | .nil, _, _, _ => []
  | .cons f b r, c, cs, ls => waysB b (ftimes c f) cs ls ++ waysR r c cs ls
end
mutual
def sizeB : Bod → Nat
  | .en => 1
  | .st => 1
  | .tell _ b => 1 + sizeB b
  | .call _ b => 1 + sizeB b
  | .draw r => 1 + sizeR r
def sizeR : Rws → Nat
  | .nil => 0
  | .cons _ b r => sizeB b + sizeR r
end
def txtD (l : List Str) : D := .tup (l.map .str)
def eW (w : Way) : D := .tup [eF w.c, txtD w.cs, txtD w.ls]
def eI (b : Bod) (c : Int × Int) (cs ls : List Str) : D := .tup [eB b, eF c, txtD cs, txtD ls]
/-- the items of a draw's rows, as they are put on the stack: the last first -/
def itemsR : Rws → (Int × Int) → List Str → List Str → List D
  | .nil, _, _, _ => []
  | .cons f b r, c, cs, ls => itemsR r c cs ls ++ [eI b (ftimes c f) cs ls]
mutual
theorem size_pos : ∀ b : Bod, 1 ≤ sizeB b
  | .en => by simp [sizeB]
  | .st => by simp [sizeB]
  | .tell _ b => by simp [sizeB]
  | .call _ b => by simp [sizeB]
  | .draw r => by simp [sizeB]
end
mutual
theorem ways_size : ∀ (b : Bod) (c : Int × Int) (cs ls : List Str), (waysB b c cs ls).length ≤ sizeB b
  | .en, c, cs, ls => by simp [waysB, sizeB]
  | .st, c, cs, ls => by simp [waysB, sizeB]
  | .tell x b, c, cs, ls => by simp only [waysB, sizeB]; have := ways_size b c cs (ls ++ [x]); omega
  | .call x b, c, cs, ls => by simp only [waysB, sizeB]; have := ways_size b c (cs ++ [x]) ls; omega
  | .draw r, c, cs, ls => by simp only [waysB, sizeB]; have := waysR_size r c cs ls; omega
theorem waysR_size : ∀ (r : Rws) (c : Int × Int) (cs ls : List Str), (waysR r c cs ls).length ≤ sizeR r
  | .nil, c, cs, ls => by simp [waysR, sizeR]
  | .cons f b r, c, cs, ls => by
    simp only [waysR, sizeR, List.length_append]
    have := ways_size b (ftimes c f) cs ls
    have := waysR_size r c cs ls
    omega
end
theorem items_size : ∀ (r : Rws) (c : Int × Int) (cs ls : List Str), (itemsR r c cs ls).length ≤ sizeR r
  | .nil, c, cs, ls => by simp [itemsR, sizeR]
  | .cons f b r, c, cs, ls => by
    simp only [itemsR, sizeR, List.length_append, List.length_cons, List.length_nil]
    have := items_size r c cs ls
    have := size_pos b
    omega
mutual
/-- all chances on the way are short -/
def HfB : Bod → (Int × Int) → Prop
  | .en, _ => True
  | .st, _ => True
  | .tell _ b, c => HfB b c
  | .call _ b, c => HfB b c
  | .draw r, c => HF c ∧ HfR r c
def HfR : Rws → (Int × Int) → Prop
  | .nil, _ => True
  | .cons f b r, c => HF f ∧ HfB b (ftimes c f) ∧ HfR r c
end
/-! ### the program's ways -/
def WS (a0 : Option D) (F L F' L' : List D) : Prop := ∀ j3 j4 j5 j6 j7 j8 : Option D, ∃ k3 k4 k5 k6 k7 k8 : Option D,
  Rch T_ways_1 L_ways_2 [a0, some (.loc 0), some (.loc 1), j3, j4, j5, j6, j7, j8] [.lst F, .lst L] [a0, some (.loc 0), some (.loc 1), k3, k4, k5, k6, k7, k8] [.lst F', .lst L']
section
variable {a0 : Option D} {F L F' L' F2 L2 : List D} {x : Str} {b : Bod} {c : Int × Int} {cs ls : List Str}
theorem WS.refl : WS a0 F L F L := fun j3 j4 j5 j6 j7 j8 => ⟨j3, j4, j5, j6, j7, j8, .refl⟩
theorem WS.trans (h : WS a0 F L F' L') (k : WS a0 F' L' F2 L2) : WS a0 F L F2 L2 := fun j3 j4 j5 j6 j7 j8 => by
  obtain ⟨k3, k4, k5, k6, k7, k8, h⟩ := h j3 j4 j5 j6 j7 j8
  obtain ⟨i3, i4, i5, i6, i7, i8, k⟩ := k k3 k4 k5 k6 k7 k8
  exact ⟨i3, i4, i5, i6, i7, i8, h.trans k⟩
theorem tw_go {e3 e4 e5 e6 e7 e8 : Option D} {d : D} : T_ways_1 [a0, some (.loc 0), some (.loc 1), e3, e4, e5, e6, e7, e8] [.lst F, .lst (L ++ [d])] = some (true, [.lst F, .lst (L ++ [d])]) := by
  have ne := snoc_ne (W := L) (b := d)
  unfold T_ways_1
  l_intsC
theorem tags : (("end" : Str) == "stop") = false ∧ (("end" : Str) == "tell") = false ∧ (("end" : Str) == "call") = false ∧ (("end" : Str) == "draw") = false ∧ (("end" : Str) == "end") = true ∧
    (("stop" : Str) == "end") = false ∧ (("stop" : Str) == "tell") = false ∧ (("stop" : Str) == "call") = false ∧ (("stop" : Str) == "draw") = false ∧ (("stop" : Str) == "stop") = true ∧
    (("tell" : Str) == "end") = false ∧ (("tell" : Str) == "stop") = false ∧ (("tell" : Str) == "call") = false ∧ (("tell" : Str) == "draw") = false ∧ (("tell" : Str) == "tell") = true ∧
    (("call" : Str) == "end") = false ∧ (("call" : Str) == "stop") = false ∧ (("call" : Str) == "tell") = false ∧ (("call" : Str) == "draw") = false ∧ (("call" : Str) == "call") = true ∧
    (("draw" : Str) == "end") = false ∧ (("draw" : Str) == "stop") = false ∧ (("draw" : Str) == "tell") = false ∧ (("draw" : Str) == "call") = false ∧ (("draw" : Str) == "draw") = true := by decide +kernel
theorem ws_en (hF : F.length < 16777216) : WS a0 F (L ++ [eI .en c cs ls]) (F ++ [eW ⟨c, cs, ls⟩]) L := fun j3 j4 j5 j6 j7 j8 => by
  refine ⟨some (eB .en), some (eF c), some (txtD cs), some (txtD ls), j7, j8, .step tw_go ?_⟩
  obtain ⟨t1, t2, t3, t4, t5, _⟩ := tags
  unfold L_ways_2 eI eW eF txtD
  simp only [eB]
  l_intsC
theorem ws_st : WS a0 F (L ++ [eI .st c cs ls]) F L := fun j3 j4 j5 j6 j7 j8 => by
  refine ⟨some (eB .st), some (eF c), some (txtD cs), some (txtD ls), j7, j8, .step tw_go ?_⟩
  obtain ⟨_, _, _, _, _, t1, t2, t3, t4, t5, _⟩ := tags
  unfold L_ways_2 eI eF txtD
  simp only [eB]
  l_intsC
theorem ws_tell (hL : L.length < 16777216) (hl : ls.length < 900000) : WS a0 F (L ++ [eI (.tell x b) c cs ls]) F (L ++ [eI b c cs (ls ++ [x])]) := fun j3 j4 j5 j6 j7 j8 => by
  refine ⟨some (eB (.tell x b)), some (eF c), some (txtD cs), some (txtD ls), j7, j8, .step tw_go ?_⟩
  obtain ⟨_, _, _, _, _, _, _, _, _, _, t1, t2, t3, t4, t5, _⟩ := tags
  have h2 : ls.length + 1 ≤ 16777216 := by omega
  unfold L_ways_2 eI eF txtD
  simp only [eB, List.map_append, List.map_cons, List.map_nil]
  l_intsC
theorem ws_call (hL : L.length < 16777216) (hl : cs.length < 900000) : WS a0 F (L ++ [eI (.call x b) c cs ls]) F (L ++ [eI b c (cs ++ [x]) ls]) := fun j3 j4 j5 j6 j7 j8 => by
  refine ⟨some (eB (.call x b)), some (eF c), some (txtD cs), some (txtD ls), j7, j8, .step tw_go ?_⟩
  obtain ⟨_, _, _, _, _, _, _, _, _, _, _, _, _, _, _, t1, t2, t3, t4, t5, _⟩ := tags
  have h2 : cs.length + 1 ≤ 16777216 := by omega
  unfold L_ways_2 eI eF txtD
  simp only [eB, List.map_append, List.map_cons, List.map_nil]
  l_intsC
/-- the rows of a draw are put on the stack -/
theorem ws_rows {q3 : Option D} (hc : HF c) : ∀ (r : Rws) (L : List D) (j7 j8 : Option D), HfR r c → L.length + sizeR r < 16777216 → ∃ k7 k8, ForN (gT 2 (gsC (gN 7) (gsC (gN 8) (gsN)))) L_ways_1 (eR r).reverse [a0, some (.loc 0), some (.loc 1), q3, some (eF c), some (txtD cs), some (txtD ls), j7, j8] [.lst F, .lst L]
    [a0, some (.loc 0), some (.loc 1), q3, some (eF c), some (txtD cs), some (txtD ls), k7, k8] [.lst F, .lst (L ++ itemsR r c cs ls)]
  | .nil, L, j7, j8, _, _ => ⟨j7, j8, by simp only [eR, List.reverse_nil, itemsR, List.append_nil]; exact .nil⟩
  | .cons f b r, L, j7, j8, h, hl => by
    simp only [HfR] at h
    simp only [sizeR] at hl
    have sp := size_pos b
    obtain ⟨k7, k8, ih⟩ := ws_rows (q3 := q3) hc r L j7 j8 h.2.2 (by omega)
    have il := items_size r c cs ls
    refine ⟨some (eF f), some (eB b), ?_⟩
    simp only [eR, List.reverse_cons, itemsR]
    rw [← List.append_assoc]
    have tp := fun st => times_p st hc h.1
    have hL : (L ++ itemsR r c cs ls).length < 16777216 := by rw [List.length_append]; omega
    refine ih.app (.one (e1 := [a0, some (.loc 0), some (.loc 1), q3, some (eF c), some (txtD cs), some (txtD ls), some (eF f), some (eB b)]) (s1 := [.lst F, .lst (L ++ itemsR r c cs ls)]) ?_ ?_)
    · l_ints
    · generalize L ++ itemsR r c cs ls = L1 at *
      unfold L_ways_1 eI
      clear ih
      l_intsC
theorem ws_draw {r : Rws} (hc : HF c) (h : HfR r c) (hL : L.length + sizeR r < 16777216) : WS a0 F (L ++ [eI (.draw r) c cs ls]) F (L ++ itemsR r c cs ls) := fun j3 j4 j5 j6 j7 j8 => by
  obtain ⟨k7, k8, e⟩ := ws_rows (a0 := a0) (F := F) (cs := cs) (ls := ls) (q3 := some (eB (.draw r))) hc r L j7 j8 h hL
  have e := e.end
  refine ⟨some (eB (.draw r)), some (eF c), some (txtD cs), some (txtD ls), k7, k8, .step tw_go ?_⟩
  obtain ⟨_, _, _, _, _, _, _, _, _, _, _, _, _, _, _, _, _, _, _, _, t1, t2, t3, t4, t5⟩ := tags
  unfold L_ways_2 eI
  unfold eF txtD at *
  simp only [eB] at e ⊢
  l_intsC
end
mutual
theorem ws_b {a0 : Option D} : ∀ (b : Bod) (c : Int × Int) (cs ls : List Str) (F L : List D), HfB b c → F.length + (waysB b c cs ls).length < 900000 → L.length + sizeB b < 900000 → cs.length + sizeB b < 900000 → ls.length + sizeB b < 900000 →
    WS a0 F (L ++ [eI b c cs ls]) (F ++ (waysB b c cs ls).map eW) L
  | .en, c, cs, ls, F, L, hf, h1, h2, h3, h4 => by
    simp only [waysB, List.map_cons, List.map_nil, List.length_cons, List.length_nil] at h1 ⊢
    exact ws_en (by omega)
  | .st, c, cs, ls, F, L, hf, h1, h2, h3, h4 => by
    simp only [waysB, List.map_nil, List.append_nil]
    exact ws_st
  | .tell x b, c, cs, ls, F, L, hf, h1, h2, h3, h4 => by
    simp only [waysB, sizeB, HfB] at *
    exact (ws_tell (by omega) (by omega)).trans (ws_b b c cs (ls ++ [x]) F L hf h1 (by omega) (by omega) (by simp; omega))
  | .call x b, c, cs, ls, F, L, hf, h1, h2, h3, h4 => by
    simp only [waysB, sizeB, HfB] at *
    exact (ws_call (by omega) (by omega)).trans (ws_b b c (cs ++ [x]) ls F L hf h1 (by omega) (by simp; omega) (by omega))
  | .draw r, c, cs, ls, F, L, hf, h1, h2, h3, h4 => by
    simp only [waysB, sizeB, HfB] at *
    exact (ws_draw hf.1 hf.2 (by omega)).trans (ws_r r c cs ls F L hf.2 h1 (by omega) (by omega) (by omega))
theorem ws_r {a0 : Option D} : ∀ (r : Rws) (c : Int × Int) (cs ls : List Str) (F L : List D), HfR r c → F.length + (waysR r c cs ls).length < 900000 → L.length + sizeR r < 900000 → cs.length + sizeR r < 900000 → ls.length + sizeR r < 900000 →
    WS a0 F (L ++ itemsR r c cs ls) (F ++ (waysR r c cs ls).map eW) L
  | .nil, c, cs, ls, F, L, hf, h1, h2, h3, h4 => by
    simp only [waysR, itemsR, List.map_nil, List.append_nil]
    exact .refl
  | .cons f b r, c, cs, ls, F, L, hf, h1, h2, h3, h4 => by
    simp only [waysR, itemsR, sizeR, HfR, List.length_append, List.map_append] at *
    have sp := size_pos b
    have il := items_size r c cs ls
    rw [← List.append_assoc]
    refine (ws_b b (ftimes c f) cs ls F (L ++ itemsR r c cs ls) hf.2.1 (by omega) (by rw [List.length_append]; omega) (by omega) (by omega)).trans ?_
    rw [← List.append_assoc]
    exact ws_r r c cs ls _ L hf.2.2 (by simp; omega) (by omega) (by omega) (by omega)
end
theorem los_ways {m : Nat} (W : List Way) : los m (W.map eW) = true := los_mapm W fun w _ => by
  simp [eW, eF, txtD, lo, los, los_map (f := D.str) (fun _ => rfl)]
theorem ways_eq (b : Bod) (hf : HfB b (1, 1)) (hs : sizeB b < 800000) : F_ways [eB b] [] = some (.lst ((waysB b (1, 1) [] []).map eW), []) := by
  have wl := ways_size b (1, 1) [] []
  have go := ws_b (a0 := some (eB b)) b (1, 1) [] [] [] [] hf (by simp; omega) (by simp; omega) (by simp; omega) (by simp; omega)
  obtain ⟨k3, k4, k5, k6, k7, k8, go⟩ := go none none none none none none
  rw [List.nil_append, List.nil_append] at go
  have tw : T_ways_1 [some (eB b), some (.loc 0), some (.loc 1), k3, k4, k5, k6, k7, k8] [.lst ((waysB b (1, 1) [] []).map eW), .lst []] = some (false, [.lst ((waysB b (1, 1) [] []).map eW), .lst []]) := by
    unfold T_ways_1
    l_ints
  have e := go.done tw
  have fe : fin [] (.loc 0) [.lst ((waysB b (1, 1) [] []).map eW), .lst []] = some (.lst ((waysB b (1, 1) [] []).map eW), []) := fin_lst0 (los_ways _)
  clear go tw
  unfold eI at e
  unfold F_ways B_ways R_ways_1
  unfold c_ONE eF txtD at *
  simp only [List.map_nil] at e
  l_intsC
end K31
end
section
set_option Elab.async false
set_option autoImplicit false
set_option linter.all false
set_option maxRecDepth 100000
set_option maxHeartbeats 2000000
namespace K31
open PySem L2 Mn
local macro_rules | `(tactic| l_ints) => `(tactic| simp only [bnd_some', ret1_some', sSeq_eq, kThen_nx, kThen_rt, kThen_bk, kThen_ct, sNil_eq, sAsg_eq, kAsg_eq, sDrop_eq, kDrop_eq, sRet_eq, kRet_eq, sRetN_eq, sBreak_eq, sCont_eq, sIf_eq, kIf_true, kIf_false, sTgt_eq, kTgt1_eq, kTgt2_eq, sPar_eq, kPar2_eq, sPar3_eq, kPar3_eq, sFor_eq, kFor_eq, sAug_eq, kAug_eq, kAug1_eq, mV_eq, kGot_eq, mC_eq, mOp_eq, kOp1_eq, kOp2_eq, mTB_eq, kB_eq, mAnd_eq, kAnd_true, kAnd_false, mOr_eq, kOr_true, kOr_false, mNot_eq, kNot_eq, mIte_eq, kIte_true, kIte_false, mAndV_eq, kAndV_true, kAndV_false, mOrV_eq, kOrV_true, kOrV_false, mNotV_eq, kNotV_eq, mNil_eq, mCons_eq, kCons1_eq, kCons2_eq, mTup_eq, kTup_eq, mLst_eq, kLst_eq, mFrz_eq, kFrz_eq, mMut_eq, kMut_eq, mCall_eq, mCB_eq, kCB_eq, mCBL_eq, kCBL_eq, mTr_eq, kTr_eq, mNeg_eq, kNeg_eq, mChain_eq, kChn1_eq, kChn2_eq, kChn_true, kChn_false, gN_eq, gsN_eq, gsC_eq, kGs_eq, gT_eq, gTp_eq, gSet_eq, kSet1_eq, kSet2_eq, kSetE_eq, setO_eq, setL_nat, setL_lit, setL_str, mMt_eq, kMt1_eq, kMt1'_eq, kMt2_eq, kMt2'_eq, kMt3_eq, fApp_eq, fPop_eq, kPop_eq, getLast_snoc, dropLast_snoc, fExt_eq, kExt_eq, oAdd_int, oAdd_str, oAdd_tup, oAdd_lst, oAdd_loc, kCat_eq, lstD_lst, lstD_loc, isLst_eq, seqD_tup, seqD_lst, seqD_rol, seqD_loc, dicD_dic, dicD_loc, isDic_eq, oSub_int, oMul_int, oDiv_int, oMod_int, oI_plus, oI_minus, oLt_int, oLe_int, oGt_int, oGe_int, oEq_int, oEq_str, oEq_bl, oNe_int, oNe_str, oNe_bl, oIs_non, oIsNot_non, isN_non, isN_int, isN_bl, isN_str, isN_tup, isN_lst, isN_loc, atI_lit, atI_natc, atI_neg1, ixO_tup, ixO_lst, ixO_dics, ixO_dici, ixO_locs, ixO_loci, ixL_lst, ixL_dics, ixL_dici, cLen_tup, cLen_lst, cLen_dic, cLen_loc, lenL_lst, lenL_dic, cInt_int, cInt_bl, cAbs_int, cTup_tup, cTup_lst, cTup_loc, tupL_eq, cList_eq, cBls_lst, blsA_eq, fAll_eq, fAny_eq, truD_lst, truD_tup, truD_bl, truD_int, truD_non, truD_loc, truL_lst, truL_dic, itD_tup, itD_lst, miSeq_eq, kIt_eq, miR1_eq, kR1_eq, miR2_eq, kR2_eq, mSl_eq, kSl1_eq, kSl2_eq, kSl3_eq, mNoP_eq, mPart_eq, kPart_eq, slD_tup, slD_lst, slD_rol, slD_loc, slA_eq, mIsi_eq, kIsi_eq, tyD_non, tyD_bl, tyD_int, tyD_str, tyD_tup, tyD_lst, isi_NoneType_tuple, isi_NoneType_list, isi_NoneType_int, isi_NoneType_str, isi_NoneType_bool, isi_NoneType_int_str, isi_bool_tuple, isi_bool_list, isi_bool_int, isi_bool_str, isi_bool_bool, isi_bool_int_str, isi_int_tuple, isi_int_list, isi_int_int, isi_int_str, isi_int_bool, isi_int_int_str, isi_str_tuple, isi_str_list, isi_str_int, isi_str_str, isi_str_bool, isi_str_int_str, isi_tuple_tuple, isi_tuple_list, isi_tuple_int, isi_tuple_str, isi_tuple_bool, isi_tuple_int_str, isi_list_tuple, isi_list_list, isi_list_int, isi_list_str, isi_list_bool, isi_list_int_str, mDicF_eq, kDicF_eq, mDicM_eq, kDicM_eq, dicA_eq, dicB_eq, mDic0_eq, mGet1_eq, kGet1_eq, kGet1a_eq, mGet2_eq, kGet2_eq, kGet2a_eq, kGet2b_eq, kGet3_str, kGet3_int, kForB_eq, kForS_nx, kForS_ct, kForS_bk, kForS_rt, kWh_true, kWh_false, kWhS_nx, kWhS_ct, kWhS_bk, kWhS_rt, mLc_eq, kLc_eq, kLc1_eq, kLc2_true, kLc2_false, kLc3_eq, kLc4_eq, mYes_eq, wipeE_nil, wipeE_cons, mFun_0, mFun_1, mFun_2, mFun_3, mFun_4, mFun_5, mFun_6, mFun_7, mFun_8, mFunL_0, mFunL_1, mFunL_2, mFunL_3, mFunL_4, mFunL_5, mFunL_6, mFunL_7, mFunL_8, endW_rt, endW_nx, mRev_eq, kRev_eq, miTxt_eq, kTxt_eq, oIsB_bl, oIsNotB_bl, oIn_eq, oNotIn_eq, kIn_eq, kNIn_eq, inO_sign, inA_eq, inO_tup, inO_lst, inO_loc, inL_lst, inL_dics, inL_dici, inO_dics, inO_dici, flatD_non, flatD_bl, flatD_int, flatD_str, ixO_dkls, ixO_dkli, inO_dkls, inO_dkli, dicD_dkl, mDitN_eq, ixDN_eq, kIxN_eq, setN_eq, gSetN_eq, kSetN1_eq, kSetN2_eq, kSetN3_eq, mGet2N_eq, kGetN1_eq, kGetN2_eq, kGetN3_eq, kGetN4_eq, miKeysN_eq, kKeysN_eq, miKeysL_eq, kKeysL_eq, sForP_eq, kForP_eq, kForP2_eq, keepM_eq, mLc2_eq, kLd_eq, kLd1_eq, kLd2_true, kLd2_false, kLd2b_eq, kLd3_eq, kLd4_eq, Nat.reduceSub, Nat.reduceAdd, Nat.reduceLeDiff, Nat.reduceLT, Nat.reduceEqDiff, Int.reduceLT, Int.reduceLE, Int.reduceAdd, Int.reduceSub, Int.reduceNeg, Int.reduceMul, Int.reduceToNat, Int.reduceBEq, fits_lit, List.getElem?_cons_zero, List.getElem?_cons_succ, List.getElem?_nil, List.set_cons_zero, List.set_cons_succ, List.set_nil, List.length_cons, List.length_nil, List.length_set, List.length_map, List.length_append, List.set_set, List.replicate_succ, List.replicate_zero, List.isEmpty_nil, List.isEmpty_cons, List.nil_append, List.cons_append, List.append_assoc, Bool.not_true, Bool.not_false, decide_true, decide_false, if_true, if_false, Bool.false_eq_true, Option.getD_none, Option.getD_some, Option.isSome_none, Option.isSome_some, st_app, st_app0, st_set, st_set0, List.getLast?_nil, getLast_snoc, dropLast_snoc])
local macro_rules | `(tactic| l_intsC) => `(tactic| simp only [bnd_some', ret1_some', sSeq_eq, kThen_nx, kThen_rt, kThen_bk, kThen_ct, sNil_eq, sAsg_eq, kAsg_eq, sDrop_eq, kDrop_eq, sRet_eq, kRet_eq, sRetN_eq, sBreak_eq, sCont_eq, sIf_eq, kIf_true, kIf_false, sTgt_eq, kTgt1_eq, kTgt2_eq, sPar_eq, kPar2_eq, sPar3_eq, kPar3_eq, sFor_eq, kFor_eq, sAug_eq, kAug_eq, kAug1_eq, mV_eq, kGot_eq, mC_eq, mOp_eq, kOp1_eq, kOp2_eq, mTB_eq, kB_eq, mAnd_eq, kAnd_true, kAnd_false, mOr_eq, kOr_true, kOr_false, mNot_eq, kNot_eq, mIte_eq, kIte_true, kIte_false, mAndV_eq, kAndV_true, kAndV_false, mOrV_eq, kOrV_true, kOrV_false, mNotV_eq, kNotV_eq, mNil_eq, mCons_eq, kCons1_eq, kCons2_eq, mTup_eq, kTup_eq, mLst_eq, kLst_eq, mFrz_eq, kFrz_eq, mMut_eq, kMut_eq, mCall_eq, mCB_eq, kCB_eq, mCBL_eq, kCBL_eq, mTr_eq, kTr_eq, mNeg_eq, kNeg_eq, mChain_eq, kChn1_eq, kChn2_eq, kChn_true, kChn_false, gN_eq, gsN_eq, gsC_eq, kGs_eq, gT_eq, gTp_eq, gSet_eq, kSet1_eq, kSet2_eq, kSetE_eq, setO_eq, setL_nat, setL_lit, setL_str, mMt_eq, kMt1_eq, kMt1'_eq, kMt2_eq, kMt2'_eq, kMt3_eq, fApp_eq, fPop_eq, kPop_eq, getLast_snoc, dropLast_snoc, fExt_eq, kExt_eq, oAdd_int, oAdd_str, oAdd_tup, oAdd_lst, oAdd_loc, kCat_eq, lstD_lst, lstD_loc, isLst_eq, seqD_tup, seqD_lst, seqD_rol, seqD_loc, dicD_dic, dicD_loc, isDic_eq, oSub_int, oMul_int, oDiv_int, oMod_int, oI_plus, oI_minus, oLt_int, oLe_int, oGt_int, oGe_int, oEq_int, oEq_str, oEq_bl, oNe_int, oNe_str, oNe_bl, oIs_non, oIsNot_non, isN_non, isN_int, isN_bl, isN_str, isN_tup, isN_lst, isN_loc, atI_lit, atI_natc, atI_neg1, ixO_tup, ixO_lst, ixO_dics, ixO_dici, ixO_locs, ixO_loci, ixL_lst, ixL_dics, ixL_dici, cLen_tup, cLen_lst, cLen_dic, cLen_loc, lenL_lst, lenL_dic, cInt_int, cInt_bl, cAbs_int, cTup_tup, cTup_lst, cTup_loc, tupL_eq, cList_eq, cBls_lst, blsA_eq, fAll_eq, fAny_eq, truD_lst, truD_tup, truD_bl, truD_int, truD_non, truD_loc, truL_lst, truL_dic, itD_tup, itD_lst, miSeq_eq, kIt_eq, miR1_eq, kR1_eq, miR2_eq, kR2_eq, mSl_eq, kSl1_eq, kSl2_eq, kSl3_eq, mNoP_eq, mPart_eq, kPart_eq, slD_tup, slD_lst, slD_rol, slD_loc, slA_eq, mIsi_eq, kIsi_eq, tyD_non, tyD_bl, tyD_int, tyD_str, tyD_tup, tyD_lst, isi_NoneType_tuple, isi_NoneType_list, isi_NoneType_int, isi_NoneType_str, isi_NoneType_bool, isi_NoneType_int_str, isi_bool_tuple, isi_bool_list, isi_bool_int, isi_bool_str, isi_bool_bool, isi_bool_int_str, isi_int_tuple, isi_int_list, isi_int_int, isi_int_str, isi_int_bool, isi_int_int_str, isi_str_tuple, isi_str_list, isi_str_int, isi_str_str, isi_str_bool, isi_str_int_str, isi_tuple_tuple, isi_tuple_list, isi_tuple_int, isi_tuple_str, isi_tuple_bool, isi_tuple_int_str, isi_list_tuple, isi_list_list, isi_list_int, isi_list_str, isi_list_bool, isi_list_int_str, mDicF_eq, kDicF_eq, mDicM_eq, kDicM_eq, dicA_eq, dicB_eq, mDic0_eq, mGet1_eq, kGet1_eq, kGet1a_eq, mGet2_eq, kGet2_eq, kGet2a_eq, kGet2b_eq, kGet3_str, kGet3_int, kForB_eq, kForS_nx, kForS_ct, kForS_bk, kForS_rt, kWh_true, kWh_false, kWhS_nx, kWhS_ct, kWhS_bk, kWhS_rt, mLc_eq, kLc_eq, kLc1_eq, kLc2_true, kLc2_false, kLc3_eq, kLc4_eq, mYes_eq, wipeE_nil, wipeE_cons, mFun_0, mFun_1, mFun_2, mFun_3, mFun_4, mFun_5, mFun_6, mFun_7, mFun_8, mFunL_0, mFunL_1, mFunL_2, mFunL_3, mFunL_4, mFunL_5, mFunL_6, mFunL_7, mFunL_8, endW_rt, endW_nx, mRev_eq, kRev_eq, miTxt_eq, kTxt_eq, oIsB_bl, oIsNotB_bl, oIn_eq, oNotIn_eq, kIn_eq, kNIn_eq, inO_sign, inA_eq, inO_tup, inO_lst, inO_loc, inL_lst, inL_dics, inL_dici, inO_dics, inO_dici, flatD_non, flatD_bl, flatD_int, flatD_str, ixO_dkls, ixO_dkli, inO_dkls, inO_dkli, dicD_dkl, mDitN_eq, ixDN_eq, kIxN_eq, setN_eq, gSetN_eq, kSetN1_eq, kSetN2_eq, kSetN3_eq, mGet2N_eq, kGetN1_eq, kGetN2_eq, kGetN3_eq, kGetN4_eq, miKeysN_eq, kKeysN_eq, miKeysL_eq, kKeysL_eq, sForP_eq, kForP_eq, kForP2_eq, keepM_eq, mLc2_eq, kLd_eq, kLd1_eq, kLd2_true, kLd2_false, kLd2b_eq, kLd3_eq, kLd4_eq, Nat.reduceSub, Nat.reduceAdd, Nat.reduceLeDiff, Nat.reduceLT, Nat.reduceEqDiff, Int.reduceLT, Int.reduceLE, Int.reduceAdd, Int.reduceSub, Int.reduceNeg, Int.reduceMul, Int.reduceToNat, Int.reduceBEq, fits_lit, List.getElem?_cons_zero, List.getElem?_cons_succ, List.getElem?_nil, List.set_cons_zero, List.set_cons_succ, List.set_nil, List.length_cons, List.length_nil, List.length_set, List.length_map, List.length_append, List.set_set, List.replicate_succ, List.replicate_zero, List.isEmpty_nil, List.isEmpty_cons, List.nil_append, List.cons_append, List.append_assoc, Bool.not_true, Bool.not_false, decide_true, decide_false, if_true, if_false, Bool.false_eq_true, Option.getD_none, Option.getD_some, Option.isSome_none, Option.isSome_some, st_app, st_app0, st_set, st_set0, List.getLast?_nil, getLast_snoc, dropLast_snoc, *])
/-! ### sizes and chances of bodies -/
def szN : Nat → Nat
  | 0 => 1
  | n + 1 => 1 + 3 * szN n
theorem szN_pos : ∀ n, 1 ≤ szN n
  | 0 => by simp [szN]
  | n + 1 => by simp [szN]
theorem szN_mono : ∀ n, szN n ≤ szN (n + 1)
  | 0 => by simp [szN]
  | n + 1 => by have := szN_mono n; simp only [szN] at *; omega
theorem cut_len {rs : List (Int × Int)} (h : CutOK rs = true) : rs.length ≤ 3 := by
  simp only [CutOK, Bool.and_eq_true, decide_eq_true_eq] at h
  exact h.1.2
def MM : Int := 176400
theorem cut_ch {rs : List (Int × Int)} (h : CutOK rs = true) : ∀ f ∈ rs, Ch MM 1 f := fun f hf => by
  simp only [CutOK, Bool.and_eq_true, decide_eq_true_eq] at h
  have h1 := List.all_eq_true.mp h.2 f hf
  have h2 := List.all_eq_true.mp h.1.1.1.1.1.1.1.1 f hf
  simp only [okF, Bool.and_eq_true, decide_eq_true_eq, beq_iff_eq] at h1 h2
  have h3 : Int.gcd f.1 f.2 = 1 := by
    have := h2.1.2.2
    omega
  exact ⟨h2.1.1, Int.dvd_of_emod_eq_zero h1.1, h2.1.2.1, by omega, h3⟩
section
variable {nm : List Str}
mutual
theorem size_ok : ∀ (n : Nat) (b : Bod), OkB nm n b → sizeB b ≤ szN n
  | n, .en, _ => by simp only [sizeB]; exact szN_pos n
  | n, .st, _ => by simp only [sizeB]; exact szN_pos n
  | 0, .tell x b, h => by simp [OkB] at h
  | 0, .call x b, h => by simp [OkB] at h
  | 0, .draw r, h => by simp [OkB] at h
  | n + 1, .tell x b, h => by
    simp only [OkB] at h
    have := size_ok n b h.2
    have := szN_pos n
    simp only [sizeB, szN]; omega
  | n + 1, .call x b, h => by
    simp only [OkB] at h
    have := size_ok n b h.2
    have := szN_pos n
    simp only [sizeB, szN]; omega
  | n + 1, .draw r, h => by
    simp only [OkB] at h
    have h1 := sizeR_ok n r h.2
    have h2 := cut_len h.1
    have : r.fs.length * szN n ≤ 3 * szN n := Nat.mul_le_mul_right _ h2
    simp only [sizeB, szN]; omega
theorem sizeR_ok : ∀ (n : Nat) (r : Rws), OkR nm n r → sizeR r ≤ r.fs.length * szN n
  | n, .nil, _ => by simp [sizeR]
  | n, .cons f b r, h => by
    simp only [OkR] at h
    have h1 := size_ok n b h.1
    have h2 := sizeR_ok n r h.2
    simp only [sizeR, Rws.fs, List.length_cons, Nat.succ_mul]; omega
end
def PM (k : Nat) : Int := MM ^ k
theorem PM_succ (k : Nat) : PM k * MM = PM (k + 1) := (Int.pow_succ ..).symm
theorem PM_dvd {j k : Nat} (h : j ≤ k) : PM j ∣ PM k := by
  obtain ⟨d, rfl⟩ : ∃ d, k = j + d := ⟨k - j, by omega⟩
  exact ⟨PM d, by unfold PM; rw [Int.pow_add]⟩
theorem PM_pos (k : Nat) : 0 < PM k := Int.pow_pos (by decide)
theorem PM_small : ((100000 : Int) * PM 10).natAbs < HB := by decide +kernel
theorem ch_hf {k : Nat} {c : Int} {p : Int × Int} (hk : k ≤ 10) (hc : c ≤ 100000) (h1 : 1 ≤ c) (h : Ch (PM k) c p) : HF p := by
  have h2 := (h.mul (PM_dvd hk)).mono hc
  exact h2.hf (PM_pos 10) (by decide) PM_small
mutual
theorem hf_ok : ∀ (n : Nat) (b : Bod) (k : Nat) (c : Int × Int), OkB nm n b → Ch (PM k) 1 c → k + n ≤ 9 → HfB b c
  | n, .en, _, _, _, _, _ => by simp [HfB]
  | n, .st, _, _, _, _, _ => by simp [HfB]
  | 0, .tell x b, _, _, h, _, _ => by simp [OkB] at h
  | 0, .call x b, _, _, h, _, _ => by simp [OkB] at h
  | 0, .draw r, _, _, h, _, _ => by simp [OkB] at h
  | n + 1, .tell x b, k, c, h, hc, hk => by
    simp only [OkB, HfB] at h ⊢
    exact hf_ok n b k c h.2 hc (by omega)
  | n + 1, .call x b, k, c, h, hc, hk => by
    simp only [OkB, HfB] at h ⊢
    exact hf_ok n b k c h.2 hc (by omega)
  | n + 1, .draw r, k, c, h, hc, hk => by
    simp only [OkB, HfB] at h ⊢
    exact ⟨ch_hf (by omega) (by decide) (by decide) hc, hfR_ok n r k c h.2 (cut_ch h.1) hc (by omega)⟩
theorem hfR_ok : ∀ (n : Nat) (r : Rws) (k : Nat) (c : Int × Int), OkR nm n r → (∀ f ∈ r.fs, Ch MM 1 f) → Ch (PM k) 1 c → k + 1 + n ≤ 9 → HfR r c
  | n, .nil, _, _, _, _, _, _ => by simp [HfR]
  | n, .cons f b r, k, c, h, hf, hc, hk => by
    simp only [OkR, HfR] at h ⊢
    have f1 := hf f (by simp [Rws.fs])
    have ct : Ch (PM (k + 1)) 1 (ftimes c f) := by
      rw [← PM_succ]
      exact hc.times f1
    refine ⟨f1.hf (by decide) (by decide) (by decide +kernel), hf_ok n b (k + 1) (ftimes c f) h.1 ct (by omega), hfR_ok n r k c h.2 (fun g hg => hf g (by simp [Rws.fs, hg])) hc hk⟩
end
mutual
theorem ways_ch : ∀ (n : Nat) (b : Bod) (k : Nat) (c : Int × Int) (cs ls : List Str), OkB nm n b → Ch (PM k) 1 c → k + n ≤ 9 → ∀ w ∈ waysB b c cs ls, Ch (PM 10) 1 w.c
  | n, .en, k, c, cs, ls, _, hc, hk => fun w hw => by
    simp only [waysB, List.mem_cons, List.not_mem_nil, or_false] at hw
    subst hw
    exact hc.mul (PM_dvd (by omega))
  | n, .st, _, _, _, _, _, _, _ => fun w hw => by simp [waysB] at hw
  | 0, .tell x b, _, _, _, _, h, _, _ => by simp [OkB] at h
  | 0, .call x b, _, _, _, _, h, _, _ => by simp [OkB] at h
  | 0, .draw r, _, _, _, _, h, _, _ => by simp [OkB] at h
  | n + 1, .tell x b, k, c, cs, ls, h, hc, hk => by
    simp only [OkB, waysB] at h ⊢
    exact ways_ch n b k c cs _ h.2 hc (by omega)
  | n + 1, .call x b, k, c, cs, ls, h, hc, hk => by
    simp only [OkB, waysB] at h ⊢
    exact ways_ch n b k c _ ls h.2 hc (by omega)
  | n + 1, .draw r, k, c, cs, ls, h, hc, hk => by
    simp only [OkB, waysB] at h ⊢
    exact waysR_ch n r k c cs ls h.2 (cut_ch h.1) hc (by omega)
theorem waysR_ch : ∀ (n : Nat) (r : Rws) (k : Nat) (c : Int × Int) (cs ls : List Str), OkR nm n r → (∀ f ∈ r.fs, Ch MM 1 f) → Ch (PM k) 1 c → k + 1 + n ≤ 9 → ∀ w ∈ waysR r c cs ls, Ch (PM 10) 1 w.c
  | n, .nil, _, _, _, _, _, _, _, _ => fun w hw => by simp [waysR] at hw
  | n, .cons f b r, k, c, cs, ls, h, hf, hc, hk => fun w hw => by
    simp only [OkR] at h
    simp only [waysR, List.mem_append] at hw
    have f1 := hf f (by simp [Rws.fs])
    have ct : Ch (PM (k + 1)) 1 (ftimes c f) := by
      rw [← PM_succ]
      exact hc.times f1
    rcases hw with hw | hw
    · exact ways_ch n b (k + 1) (ftimes c f) cs ls h.1 ct (by omega) w hw
    · exact waysR_ch n r k c cs ls h.2 (fun g hg => hf g (by simp [Rws.fs, hg])) hc hk w hw
end
theorem ch_one : Ch (PM 0) 1 (1, 1) := ⟨by decide, by decide, by decide, by decide, by decide⟩
end
/-! ### the law's ways -/
section
variable {nm : List Str} {lf : Nat} {st : Store}
theorem lo_eW {m : Nat} (w : Way) : lo m (eW w) = true := by simp [eW, eF, txtD, lo, los, los_map (f := D.str) (fun _ => rfl)]
theorem lo_txt {m : Nat} (l : List Str) : lo m (txtD l) = true := by simp [txtD, lo, los_map (f := D.str) (fun _ => rfl)]
/-- what a call of the law's ways does to the list at lf -/
def LW (F : Fn) (b : Bod) (c : Int × Int) (cs ls : List Str) : Prop := ∀ (st : Store) (lf : Nat) (l : List Way), st[lf]? = some (.lst (l.map eW)) → l.length + (waysB b c cs ls).length < 900000 → F [eB b, eF c, txtD cs, txtD ls, .loc lf] st = some (.non, st.set lf (.lst ((l ++ waysB b c cs ls).map eW)))
theorem lo_lw {m : Nat} (l : List Way) : lo m (.lst (l.map eW)) = true := los_ways l
theorem lw_end {F : Fn} {lf : Nat} {l : List Way} (h : st[lf]? = some (.lst (l.map eW))) (w : List Way) : fin st .non (st.set lf (.lst ((l ++ w).map eW))) = some (.non, st.set lf (.lst ((l ++ w).map eW))) := fin_set0 (List.getElem?_eq_some_iff.mp h).1 (lo_lw _) rfl
mutual
theorem lws_b : ∀ (n : Nat) (b : Bod) (c : Int × Int) (cs ls : List Str), OkB nm n b → HfB b c → cs.length + sizeB b < 900000 → ls.length + sizeB b < 900000 → LW (F__law_ways (n + 1)) b c cs ls
  | n, .en, c, cs, ls, _, _, h1, h2 => fun st lf l hl hw => by
    obtain ⟨t1, t2, t3, t4, t5, _⟩ := tags
    simp only [waysB] at hw ⊢
    have fe := lw_end (F := F__law_ways 0) hl [⟨c, cs, ls⟩]
    simp only [List.length_cons, List.length_nil] at hw
    have hll : l.length < 16777216 := by omega
    show mFun 7 5 (B__law_ways n (F__law_ways n)) _ _ = _
    unfold B__law_ways
    simp only [eB, List.map_append, List.map_cons, List.map_nil] at fe ⊢
    unfold eW at *
    l_intsC
  | n, .st, c, cs, ls, _, _, h1, h2 => fun st lf l hl hw => by
    obtain ⟨_, _, _, _, _, t1, t2, t3, t4, t5, _⟩ := tags
    simp only [waysB, List.append_nil] at hw ⊢
    have e : st.set lf (.lst (l.map eW)) = st := by
      obtain ⟨hlt, hq⟩ := List.getElem?_eq_some_iff.mp hl
      rw [← hq]
      exact List.set_getElem_self hlt
    rw [e]
    show mFun 7 5 (B__law_ways n (F__law_ways n)) _ _ = _
    unfold B__law_ways
    simp only [eB]
    l_intsC
    rw [fin_same rfl]
  | 0, .tell x b, _, _, _, h, _, _, _ => by simp [OkB] at h
  | 0, .call x b, _, _, _, h, _, _, _ => by simp [OkB] at h
  | 0, .draw r, _, _, _, h, _, _, _ => by simp [OkB] at h
  | n + 1, .tell x b, c, cs, ls, h, hf, h1, h2 => fun st lf l hl hw => by
    obtain ⟨_, _, _, _, _, _, _, _, _, _, t1, t2, t3, t4, t5, _⟩ := tags
    simp only [OkB, HfB, sizeB, waysB] at *
    have ih := lws_b n b c cs (ls ++ [x]) h.2 hf (by omega) (by simp; omega) st lf l hl hw
    have fe := lw_end (F := F__law_ways 0) hl (waysB b c cs (ls ++ [x]))
    have h3 : ls.length + 1 ≤ 16777216 := by omega
    show mFun 7 5 (B__law_ways (n + 1) (F__law_ways (n + 1))) _ _ = _
    unfold B__law_ways
    simp only [eB]
    unfold txtD at *
    simp only [List.map_append, List.map_cons, List.map_nil] at ih fe ⊢
    clear hl hw
    l_intsC
  | n + 1, .call x b, c, cs, ls, h, hf, h1, h2 => fun st lf l hl hw => by
    obtain ⟨_, _, _, _, _, _, _, _, _, _, _, _, _, _, _, t1, t2, t3, t4, t5, _⟩ := tags
    simp only [OkB, HfB, sizeB, waysB] at *
    have ih := lws_b n b c (cs ++ [x]) ls h.2 hf (by simp; omega) (by omega) st lf l hl hw
    have fe := lw_end (F := F__law_ways 0) hl (waysB b c (cs ++ [x]) ls)
    have h3 : cs.length + 1 ≤ 16777216 := by omega
    show mFun 7 5 (B__law_ways (n + 1) (F__law_ways (n + 1))) _ _ = _
    unfold B__law_ways
    simp only [eB]
    unfold txtD at *
    simp only [List.map_append, List.map_cons, List.map_nil] at ih fe ⊢
    clear hl hw
    l_intsC
  | n + 1, .draw r, c, cs, ls, h, hf, h1, h2 => fun st lf l hl hw => by
    obtain ⟨_, _, _, _, _, _, _, _, _, _, _, _, _, _, _, _, _, _, _, _, t1, t2, t3, t4, t5⟩ := tags
    simp only [OkB, HfB, sizeB, waysB] at *
    obtain ⟨k5, k6, ih⟩ := lws_r n r c cs ls h.2 hf.2 hf.1 (by omega) (by omega) (some (eB (.draw r))) st lf l hl hw none none
    have ih := ih.end
    have fe := lw_end (F := F__law_ways 0) hl (waysR r c cs ls)
    show mFun 7 5 (B__law_ways (n + 1) (F__law_ways (n + 1))) _ _ = _
    unfold B__law_ways
    simp only [eB] at ih ⊢
    clear hl hw
    l_intsC
theorem lws_r : ∀ (n : Nat) (r : Rws) (c : Int × Int) (cs ls : List Str), OkR nm n r → HfR r c → HF c → cs.length + sizeR r < 900000 → ls.length + sizeR r < 900000 → ∀ (a0 : Option D) (st : Store) (lf : Nat) (l : List Way), st[lf]? = some (.lst (l.map eW)) → l.length + (waysR r c cs ls).length < 900000 → ∀ j5 j6 : Option D, ∃ k5 k6,
    ForN (gT 2 (gsC (gN 5) (gsC (gN 6) (gsN)))) (L__law_ways_1 (n + 1) (F__law_ways (n + 1))) (eR r) [a0, some (eF c), some (txtD cs), some (txtD ls), some (.loc lf), j5, j6] st [a0, some (eF c), some (txtD cs), some (txtD ls), some (.loc lf), k5, k6] (st.set lf (.lst ((l ++ waysR r c cs ls).map eW)))
  | n, .nil, c, cs, ls, _, _, _, _, _, a0, st, lf, l, hl, _, j5, j6 => ⟨j5, j6, by
    simp only [eR, waysR, List.append_nil]
    have e : st.set lf (.lst (l.map eW)) = st := by
      obtain ⟨hlt, hq⟩ := List.getElem?_eq_some_iff.mp hl
      rw [← hq]
      exact List.set_getElem_self hlt
    rw [e]
    exact .nil⟩
  | n, .cons f b r, c, cs, ls, h, hf, hc, h1, h2, a0, st, lf, l, hl, hw, j5, j6 => by
    simp only [OkR, HfR, sizeR, waysR, List.length_append] at *
    have hlt := (List.getElem?_eq_some_iff.mp hl).1
    have ih := lws_b n b (ftimes c f) cs ls h.1 hf.2.1 (by omega) (by omega) st lf l hl (by omega)
    obtain ⟨k5, k6, ihr⟩ := lws_r n r c cs ls h.2 hf.2.2 hc (by omega) (by omega) a0 (st.set lf (.lst ((l ++ waysB b (ftimes c f) cs ls).map eW))) lf (l ++ waysB b (ftimes c f) cs ls) (List.getElem?_set_self hlt) (by simp; omega) (some (eF f)) (some (eB b))
    rw [List.set_set, List.append_assoc] at ihr
    refine ⟨k5, k6, ?_⟩
    simp only [eR]
    refine ForN.nx (e1 := [a0, some (eF c), some (txtD cs), some (txtD ls), some (.loc lf), some (eF f), some (eB b)]) (s1 := st) ?_ ?_ ihr
    · l_ints
    · have tp := ltimes_eq st hc hf.1
      unfold L__law_ways_1
      clear ihr hl hw
      l_intsC
end
end
end K31
end
section
set_option Elab.async false
set_option autoImplicit false
set_option linter.all false
set_option maxRecDepth 100000
set_option maxHeartbeats 2000000
namespace K31
open PySem L2 Mn
local macro_rules | `(tactic| l_ints) => `(tactic| simp only [bnd_some', ret1_some', sSeq_eq, kThen_nx, kThen_rt, kThen_bk, kThen_ct, sNil_eq, sAsg_eq, kAsg_eq, sDrop_eq, kDrop_eq, sRet_eq, kRet_eq, sRetN_eq, sBreak_eq, sCont_eq, sIf_eq, kIf_true, kIf_false, sTgt_eq, kTgt1_eq, kTgt2_eq, sPar_eq, kPar2_eq, sPar3_eq, kPar3_eq, sFor_eq, kFor_eq, sAug_eq, kAug_eq, kAug1_eq, mV_eq, kGot_eq, mC_eq, mOp_eq, kOp1_eq, kOp2_eq, mTB_eq, kB_eq, mAnd_eq, kAnd_true, kAnd_false, mOr_eq, kOr_true, kOr_false, mNot_eq, kNot_eq, mIte_eq, kIte_true, kIte_false, mAndV_eq, kAndV_true, kAndV_false, mOrV_eq, kOrV_true, kOrV_false, mNotV_eq, kNotV_eq, mNil_eq, mCons_eq, kCons1_eq, kCons2_eq, mTup_eq, kTup_eq, mLst_eq, kLst_eq, mFrz_eq, kFrz_eq, mMut_eq, kMut_eq, mCall_eq, mCB_eq, kCB_eq, mCBL_eq, kCBL_eq, mTr_eq, kTr_eq, mNeg_eq, kNeg_eq, mChain_eq, kChn1_eq, kChn2_eq, kChn_true, kChn_false, gN_eq, gsN_eq, gsC_eq, kGs_eq, gT_eq, gTp_eq, gSet_eq, kSet1_eq, kSet2_eq, kSetE_eq, setO_eq, setL_nat, setL_lit, setL_str, mMt_eq, kMt1_eq, kMt1'_eq, kMt2_eq, kMt2'_eq, kMt3_eq, fApp_eq, fPop_eq, kPop_eq, getLast_snoc, dropLast_snoc, fExt_eq, kExt_eq, oAdd_int, oAdd_str, oAdd_tup, oAdd_lst, oAdd_loc, kCat_eq, lstD_lst, lstD_loc, isLst_eq, seqD_tup, seqD_lst, seqD_rol, seqD_loc, dicD_dic, dicD_loc, isDic_eq, oSub_int, oMul_int, oDiv_int, oMod_int, oI_plus, oI_minus, oLt_int, oLe_int, oGt_int, oGe_int, oEq_int, oEq_str, oEq_bl, oNe_int, oNe_str, oNe_bl, oIs_non, oIsNot_non, isN_non, isN_int, isN_bl, isN_str, isN_tup, isN_lst, isN_loc, atI_lit, atI_natc, atI_neg1, ixO_tup, ixO_lst, ixO_dics, ixO_dici, ixO_locs, ixO_loci, ixL_lst, ixL_dics, ixL_dici, cLen_tup, cLen_lst, cLen_dic, cLen_loc, lenL_lst, lenL_dic, cInt_int, cInt_bl, cAbs_int, cTup_tup, cTup_lst, cTup_loc, tupL_eq, cList_eq, cBls_lst, blsA_eq, fAll_eq, fAny_eq, truD_lst, truD_tup, truD_bl, truD_int, truD_non, truD_loc, truL_lst, truL_dic, itD_tup, itD_lst, miSeq_eq, kIt_eq, miR1_eq, kR1_eq, miR2_eq, kR2_eq, mSl_eq, kSl1_eq, kSl2_eq, kSl3_eq, mNoP_eq, mPart_eq, kPart_eq, slD_tup, slD_lst, slD_rol, slD_loc, slA_eq, mIsi_eq, kIsi_eq, tyD_non, tyD_bl, tyD_int, tyD_str, tyD_tup, tyD_lst, isi_NoneType_tuple, isi_NoneType_list, isi_NoneType_int, isi_NoneType_str, isi_NoneType_bool, isi_NoneType_int_str, isi_bool_tuple, isi_bool_list, isi_bool_int, isi_bool_str, isi_bool_bool, isi_bool_int_str, isi_int_tuple, isi_int_list, isi_int_int, isi_int_str, isi_int_bool, isi_int_int_str, isi_str_tuple, isi_str_list, isi_str_int, isi_str_str, isi_str_bool, isi_str_int_str, isi_tuple_tuple, isi_tuple_list, isi_tuple_int, isi_tuple_str, isi_tuple_bool, isi_tuple_int_str, isi_list_tuple, isi_list_list, isi_list_int, isi_list_str, isi_list_bool, isi_list_int_str, mDicF_eq, kDicF_eq, mDicM_eq, kDicM_eq, dicA_eq, dicB_eq, mDic0_eq, mGet1_eq, kGet1_eq, kGet1a_eq, mGet2_eq, kGet2_eq, kGet2a_eq, kGet2b_eq, kGet3_str, kGet3_int, kForB_eq, kForS_nx, kForS_ct, kForS_bk, kForS_rt, kWh_true, kWh_false, kWhS_nx, kWhS_ct, kWhS_bk, kWhS_rt, mLc_eq, kLc_eq, kLc1_eq, kLc2_true, kLc2_false, kLc3_eq, kLc4_eq, mYes_eq, wipeE_nil, wipeE_cons, mFun_0, mFun_1, mFun_2, mFun_3, mFun_4, mFun_5, mFun_6, mFun_7, mFun_8, mFunL_0, mFunL_1, mFunL_2, mFunL_3, mFunL_4, mFunL_5, mFunL_6, mFunL_7, mFunL_8, endW_rt, endW_nx, mRev_eq, kRev_eq, miTxt_eq, kTxt_eq, oIsB_bl, oIsNotB_bl, oIn_eq, oNotIn_eq, kIn_eq, kNIn_eq, inO_sign, inA_eq, inO_tup, inO_lst, inO_loc, inL_lst, inL_dics, inL_dici, inO_dics, inO_dici, flatD_non, flatD_bl, flatD_int, flatD_str, ixO_dkls, ixO_dkli, inO_dkls, inO_dkli, dicD_dkl, mDitN_eq, ixDN_eq, kIxN_eq, setN_eq, gSetN_eq, kSetN1_eq, kSetN2_eq, kSetN3_eq, mGet2N_eq, kGetN1_eq, kGetN2_eq, kGetN3_eq, kGetN4_eq, miKeysN_eq, kKeysN_eq, miKeysL_eq, kKeysL_eq, sForP_eq, kForP_eq, kForP2_eq, keepM_eq, mLc2_eq, kLd_eq, kLd1_eq, kLd2_true, kLd2_false, kLd2b_eq, kLd3_eq, kLd4_eq, Nat.reduceSub, Nat.reduceAdd, Nat.reduceLeDiff, Nat.reduceLT, Nat.reduceEqDiff, Int.reduceLT, Int.reduceLE, Int.reduceAdd, Int.reduceSub, Int.reduceNeg, Int.reduceMul, Int.reduceToNat, Int.reduceBEq, fits_lit, List.getElem?_cons_zero, List.getElem?_cons_succ, List.getElem?_nil, List.set_cons_zero, List.set_cons_succ, List.set_nil, List.length_cons, List.length_nil, List.length_set, List.length_map, List.length_append, List.set_set, List.replicate_succ, List.replicate_zero, List.isEmpty_nil, List.isEmpty_cons, List.nil_append, List.cons_append, List.append_assoc, Bool.not_true, Bool.not_false, decide_true, decide_false, if_true, if_false, Bool.false_eq_true, Option.getD_none, Option.getD_some, Option.isSome_none, Option.isSome_some, st_app, st_app0, st_set, st_set0, List.getLast?_nil, getLast_snoc, dropLast_snoc])
local macro_rules | `(tactic| l_intsC) => `(tactic| simp only [bnd_some', ret1_some', sSeq_eq, kThen_nx, kThen_rt, kThen_bk, kThen_ct, sNil_eq, sAsg_eq, kAsg_eq, sDrop_eq, kDrop_eq, sRet_eq, kRet_eq, sRetN_eq, sBreak_eq, sCont_eq, sIf_eq, kIf_true, kIf_false, sTgt_eq, kTgt1_eq, kTgt2_eq, sPar_eq, kPar2_eq, sPar3_eq, kPar3_eq, sFor_eq, kFor_eq, sAug_eq, kAug_eq, kAug1_eq, mV_eq, kGot_eq, mC_eq, mOp_eq, kOp1_eq, kOp2_eq, mTB_eq, kB_eq, mAnd_eq, kAnd_true, kAnd_false, mOr_eq, kOr_true, kOr_false, mNot_eq, kNot_eq, mIte_eq, kIte_true, kIte_false, mAndV_eq, kAndV_true, kAndV_false, mOrV_eq, kOrV_true, kOrV_false, mNotV_eq, kNotV_eq, mNil_eq, mCons_eq, kCons1_eq, kCons2_eq, mTup_eq, kTup_eq, mLst_eq, kLst_eq, mFrz_eq, kFrz_eq, mMut_eq, kMut_eq, mCall_eq, mCB_eq, kCB_eq, mCBL_eq, kCBL_eq, mTr_eq, kTr_eq, mNeg_eq, kNeg_eq, mChain_eq, kChn1_eq, kChn2_eq, kChn_true, kChn_false, gN_eq, gsN_eq, gsC_eq, kGs_eq, gT_eq, gTp_eq, gSet_eq, kSet1_eq, kSet2_eq, kSetE_eq, setO_eq, setL_nat, setL_lit, setL_str, mMt_eq, kMt1_eq, kMt1'_eq, kMt2_eq, kMt2'_eq, kMt3_eq, fApp_eq, fPop_eq, kPop_eq, getLast_snoc, dropLast_snoc, fExt_eq, kExt_eq, oAdd_int, oAdd_str, oAdd_tup, oAdd_lst, oAdd_loc, kCat_eq, lstD_lst, lstD_loc, isLst_eq, seqD_tup, seqD_lst, seqD_rol, seqD_loc, dicD_dic, dicD_loc, isDic_eq, oSub_int, oMul_int, oDiv_int, oMod_int, oI_plus, oI_minus, oLt_int, oLe_int, oGt_int, oGe_int, oEq_int, oEq_str, oEq_bl, oNe_int, oNe_str, oNe_bl, oIs_non, oIsNot_non, isN_non, isN_int, isN_bl, isN_str, isN_tup, isN_lst, isN_loc, atI_lit, atI_natc, atI_neg1, ixO_tup, ixO_lst, ixO_dics, ixO_dici, ixO_locs, ixO_loci, ixL_lst, ixL_dics, ixL_dici, cLen_tup, cLen_lst, cLen_dic, cLen_loc, lenL_lst, lenL_dic, cInt_int, cInt_bl, cAbs_int, cTup_tup, cTup_lst, cTup_loc, tupL_eq, cList_eq, cBls_lst, blsA_eq, fAll_eq, fAny_eq, truD_lst, truD_tup, truD_bl, truD_int, truD_non, truD_loc, truL_lst, truL_dic, itD_tup, itD_lst, miSeq_eq, kIt_eq, miR1_eq, kR1_eq, miR2_eq, kR2_eq, mSl_eq, kSl1_eq, kSl2_eq, kSl3_eq, mNoP_eq, mPart_eq, kPart_eq, slD_tup, slD_lst, slD_rol, slD_loc, slA_eq, mIsi_eq, kIsi_eq, tyD_non, tyD_bl, tyD_int, tyD_str, tyD_tup, tyD_lst, isi_NoneType_tuple, isi_NoneType_list, isi_NoneType_int, isi_NoneType_str, isi_NoneType_bool, isi_NoneType_int_str, isi_bool_tuple, isi_bool_list, isi_bool_int, isi_bool_str, isi_bool_bool, isi_bool_int_str, isi_int_tuple, isi_int_list, isi_int_int, isi_int_str, isi_int_bool, isi_int_int_str, isi_str_tuple, isi_str_list, isi_str_int, isi_str_str, isi_str_bool, isi_str_int_str, isi_tuple_tuple, isi_tuple_list, isi_tuple_int, isi_tuple_str, isi_tuple_bool, isi_tuple_int_str, isi_list_tuple, isi_list_list, isi_list_int, isi_list_str, isi_list_bool, isi_list_int_str, mDicF_eq, kDicF_eq, mDicM_eq, kDicM_eq, dicA_eq, dicB_eq, mDic0_eq, mGet1_eq, kGet1_eq, kGet1a_eq, mGet2_eq, kGet2_eq, kGet2a_eq, kGet2b_eq, kGet3_str, kGet3_int, kForB_eq, kForS_nx, kForS_ct, kForS_bk, kForS_rt, kWh_true, kWh_false, kWhS_nx, kWhS_ct, kWhS_bk, kWhS_rt, mLc_eq, kLc_eq, kLc1_eq, kLc2_true, kLc2_false, kLc3_eq, kLc4_eq, mYes_eq, wipeE_nil, wipeE_cons, mFun_0, mFun_1, mFun_2, mFun_3, mFun_4, mFun_5, mFun_6, mFun_7, mFun_8, mFunL_0, mFunL_1, mFunL_2, mFunL_3, mFunL_4, mFunL_5, mFunL_6, mFunL_7, mFunL_8, endW_rt, endW_nx, mRev_eq, kRev_eq, miTxt_eq, kTxt_eq, oIsB_bl, oIsNotB_bl, oIn_eq, oNotIn_eq, kIn_eq, kNIn_eq, inO_sign, inA_eq, inO_tup, inO_lst, inO_loc, inL_lst, inL_dics, inL_dici, inO_dics, inO_dici, flatD_non, flatD_bl, flatD_int, flatD_str, ixO_dkls, ixO_dkli, inO_dkls, inO_dkli, dicD_dkl, mDitN_eq, ixDN_eq, kIxN_eq, setN_eq, gSetN_eq, kSetN1_eq, kSetN2_eq, kSetN3_eq, mGet2N_eq, kGetN1_eq, kGetN2_eq, kGetN3_eq, kGetN4_eq, miKeysN_eq, kKeysN_eq, miKeysL_eq, kKeysL_eq, sForP_eq, kForP_eq, kForP2_eq, keepM_eq, mLc2_eq, kLd_eq, kLd1_eq, kLd2_true, kLd2_false, kLd2b_eq, kLd3_eq, kLd4_eq, Nat.reduceSub, Nat.reduceAdd, Nat.reduceLeDiff, Nat.reduceLT, Nat.reduceEqDiff, Int.reduceLT, Int.reduceLE, Int.reduceAdd, Int.reduceSub, Int.reduceNeg, Int.reduceMul, Int.reduceToNat, Int.reduceBEq, fits_lit, List.getElem?_cons_zero, List.getElem?_cons_succ, List.getElem?_nil, List.set_cons_zero, List.set_cons_succ, List.set_nil, List.length_cons, List.length_nil, List.length_set, List.length_map, List.length_append, List.set_set, List.replicate_succ, List.replicate_zero, List.isEmpty_nil, List.isEmpty_cons, List.nil_append, List.cons_append, List.append_assoc, Bool.not_true, Bool.not_false, decide_true, decide_false, if_true, if_false, Bool.false_eq_true, Option.getD_none, Option.getD_some, Option.isSome_none, Option.isSome_some, st_app, st_app0, st_set, st_set0, List.getLast?_nil, getLast_snoc, dropLast_snoc, *])
/-! ### ways with the same calls and letters -/
def sameW (r w : Way) : Bool := decide (r.cs = w.cs) && decide (r.ls = w.ls)
def addW : List Way → Way → List Way
  | [], w => [w]
  | r :: rs, w => if sameW r w = true then ⟨fplus r.c w.c, w.cs, w.ls⟩ :: rs else r :: addW rs w
def rowsOf (W : List Way) : List Way := W.foldl addW []
theorem addW_none : ∀ (R : List Way) (w : Way), (∀ r ∈ R, sameW r w = false) → addW R w = R ++ [w]
  | [], w, _ => rfl
  | r :: R, w, h => by
    have h0 := h r (List.mem_cons_self ..)
    simp only [addW, h0, Bool.false_eq_true, if_false]
    rw [addW_none R w fun q hq => h q (List.mem_cons_of_mem _ hq)]
    rfl
theorem addW_at : ∀ (R : List Way) (w : Way) (i : Nat) (r : Way), R[i]? = some r → sameW r w = true → (∀ j q, j < i → R[j]? = some q → sameW q w = false) → addW R w = R.set i ⟨fplus r.c w.c, w.cs, w.ls⟩
  | [], w, i, r, e, _, _ => by simp at e
  | q :: R, w, 0, r, e, h, _ => by
    simp at e
    subst e
    simp [addW, h]
  | q :: R, w, i + 1, r, e, h, hn => by
    simp at e
    have h0 := hn 0 q (by omega) rfl
    simp only [addW, h0, Bool.false_eq_true, if_false, List.set_cons_succ]
    rw [addW_at R w i r e h fun j p hj ep => hn (j + 1) p (by omega) (by simpa using ep)]
theorem addW_len (R : List Way) (w : Way) : (addW R w).length ≤ R.length + 1 ∧ R.length ≤ (addW R w).length := by
  induction R with
  | nil => simp [addW]
  | cons r R ih =>
    unfold addW
    split
    · simp
    · simp only [List.length_cons]; omega
theorem addW_ch {M c d : Int} {w : Way} (hw : Ch M d w.c) (hc : 0 ≤ c) (hd : 0 ≤ d) : ∀ R : List Way, (∀ r ∈ R, Ch M c r.c) → ∀ r ∈ addW R w, Ch M (c + d) r.c
  | [], _, r, hr => by
    simp only [addW, List.mem_cons, List.not_mem_nil, or_false] at hr
    subst hr
    exact hw.mono (by omega)
  | q :: R, h, r, hr => by
    unfold addW at hr
    split at hr
    · rcases List.mem_cons.mp hr with rfl | hr
      · exact (h q (List.mem_cons_self ..)).plus hw
      · exact (h r (List.mem_cons_of_mem _ hr)).mono (by omega)
    · rcases List.mem_cons.mp hr with rfl | hr
      · exact (h r (List.mem_cons_self ..)).mono (by omega)
      · exact addW_ch hw hc hd R (fun p hp => h p (List.mem_cons_of_mem _ hp)) r hr
/-! ### == of what is told -/
theorem toPys_str : ∀ l : List Str, toPys (l.map D.str) = some (l.map PyData.str)
  | [] => rfl
  | x :: l => by simp only [List.map_cons, toPys, toPy, toPys_str l]
theorem eqv_strs : ∀ a b : List Str, PyData.eqvAll (a.map PyData.str) (b.map PyData.str) = decide (a = b)
  | [], [] => by simp [PyData.eqvAll]
  | [], y :: b => by simp [PyData.eqvAll]
  | x :: a, [] => by simp [PyData.eqvAll]
  | x :: a, y :: b => by
    simp only [List.map_cons, PyData.eqvAll, eqv_strs a b, PyData.eqv]
    by_cases h : x = y <;> by_cases k : a = b <;> simp [h, k]
def okT (l : List Str) : Bool := l.all PyData.strOk
/-- texts that may be compared -/
def okW (w : Way) : Bool := okT w.cs && okT w.ls
theorem lay_strs : ∀ l : List Str, okT l = true → PyData.canLayAll0 (l.map PyData.str) = true
  | [], _ => by simp [PyData.canLayAll0]
  | x :: l, h => by
    simp only [okT, List.all_cons, Bool.and_eq_true] at h
    simp [PyData.canLayAll0, PyData.canLay0, lay_strs l h.2, h.1]
theorem depth_strs : ∀ l : List Str, PyData.depthAll (l.map PyData.str) ≤ 1
  | [] => by simp [PyData.depthAll]
  | x :: l => by simp only [List.map_cons, PyData.depthAll, PyData.depth]; have := depth_strs l; omega
theorem shaped_key {r : Way} (h : okW r = true) : SeqAt.shaped (.tuple [.tuple (r.cs.map .str), .tuple (r.ls.map .str)]) = true := by
  simp only [okW, Bool.and_eq_true] at h
  have d1 := depth_strs r.cs
  have d2 := depth_strs r.ls
  simp only [SeqAt.shaped, PyData.canLay0, PyData.canLayAll0, lay_strs _ h.1, lay_strs _ h.2, Bool.and_true, Bool.and_self, Bool.true_and, PyData.depth, PyData.depthAll]
  exact decide_eq_true (by omega)
theorem oEq_txts {r w : Way} (hr : okW r = true) (hw : okW w = true) (st : Store) : oEq (.tup [txtD r.cs, txtD r.ls]) (.tup [txtD w.cs, txtD w.ls]) st = some (.bl (sameW r w)) := by
  have h : eqP (.tup [txtD r.cs, txtD r.ls]) (.tup [txtD w.cs, txtD w.ls]) = some (sameW r w) := by
    unfold eqP txtD
    simp only [toPy, toPys, toPys_str]
    rw [if_pos ⟨shaped_key hr, shaped_key hw⟩]
    simp only [PyData.eqv, PyData.eqvAll, eqv_strs, sameW, Bool.and_true]
  unfold oEq eqD
  have : eqS (.tup [txtD r.cs, txtD r.ls]) (.tup [txtD w.cs, txtD w.ls]) = none := rfl
  simp only [this, h]
theorem addW_ok {w : Way} (hw : okW w = true) : ∀ R : List Way, (∀ r ∈ R, okW r = true) → ∀ r ∈ addW R w, okW r = true
  | [], _, r, hr => by
    simp only [addW, List.mem_cons, List.not_mem_nil, or_false] at hr
    subst hr
    exact hw
  | q :: R, h, r, hr => by
    unfold addW at hr
    split at hr
    · rcases List.mem_cons.mp hr with rfl | hr
      · exact hw
      · exact h r (List.mem_cons_of_mem _ hr)
    · rcases List.mem_cons.mp hr with rfl | hr
      · exact h r (List.mem_cons_self ..)
      · exact addW_ok hw R (fun p hp => h p (List.mem_cons_of_mem _ hp)) r hr
/-! ### the law's rows -/
section
variable {st : Store} {env : MEnv} {a0 a1 a2 a3 a4 a6 a9 : Option D} {lr : Nat} {R : List Way} {w : Way}
def ixD (i : Nat) : D := .int (i : Int)
theorem same_lc (hR : st[lr]? = some (.lst (R.map eW))) (ok : ∀ r ∈ R, okW r = true) (okw : okW w = true) : ∀ is : List Nat, (∀ i ∈ is, i < R.length) → lcL (gN 10) (mTB (mOp oEq (mSl (mOp ixO (mV 5) (mV 10)) (mPart (mC (.int 1))) (mNoP)) (mTup (mCons (mV 7) (mCons (mV 8) (mNil)))))) (E__law_alternatives_1)
    [a0, a1, a2, a3, a4, some (.loc lr), a6, some (txtD w.cs), some (txtD w.ls), a9, none] (is.map fun i => .int (0 + (i : Nat))) st = some ((is.filter fun i => (R[i]?.map fun r => sameW r w).getD false).map ixD, st)
  | [], _ => rfl
  | i :: is, hi => by
    have h0 := hi i (List.mem_cons_self ..)
    have ih := same_lc hR ok okw is fun j hj => hi j (List.mem_cons_of_mem _ hj)
    have g : atI (R.map eW) (i : Int) = some (eW R[i]) := by rw [atI_nat', List.getElem?_map, List.getElem?_eq_getElem h0]; rfl
    have z : (0 + (i : Int)) = (i : Int) := by omega
    have q := oEq_txts (ok _ (List.getElem_mem h0)) okw st
    have c : cutD [eF R[i].c, txtD R[i].cs, txtD R[i].ls] (some 1) none = [txtD R[i].cs, txtD R[i].ls] := rfl
    have e2 : E__law_alternatives_1 [a0, a1, a2, a3, a4, some (.loc lr), a6, some (txtD w.cs), some (txtD w.ls), a9, some (.int (i : Int))] st = some (.int (i : Int), st) := by
      unfold E__law_alternatives_1
      l_ints
    have hg : R[i]? = some R[i] := List.getElem?_eq_getElem h0
    unfold eW at g hR
    rw [List.map_cons, lcL_cons, z]
    cases hs : sameW R[i] w with
    | true =>
      rw [List.filter_cons_of_pos (by rw [hg]; exact hs), List.map_cons]
      rw [hs] at q
      generalize R[i] = r at *
      clear hg hs hi ok okw
      unfold ixD
      unfold ixD at ih
      l_intsC
    | false =>
      rw [List.filter_cons_of_neg (by rw [hg]; simp [hs])]
      rw [hs] at q
      generalize R[i] = r at *
      clear hg hs hi ok okw
      l_intsC
end
end K31
end
section
set_option Elab.async false
set_option autoImplicit false
set_option linter.all false
set_option maxRecDepth 100000
set_option maxHeartbeats 2000000
namespace K31
open PySem L2 Mn
local macro_rules | `(tactic| l_ints) => `(tactic| simp only [bnd_some', ret1_some', sSeq_eq, kThen_nx, kThen_rt, kThen_bk, kThen_ct, sNil_eq, sAsg_eq, kAsg_eq, sDrop_eq, kDrop_eq, sRet_eq, kRet_eq, sRetN_eq, sBreak_eq, sCont_eq, sIf_eq, kIf_true, kIf_false, sTgt_eq, kTgt1_eq, kTgt2_eq, sPar_eq, kPar2_eq, sPar3_eq, kPar3_eq, sFor_eq, kFor_eq, sAug_eq, kAug_eq, kAug1_eq, mV_eq, kGot_eq, mC_eq, mOp_eq, kOp1_eq, kOp2_eq, mTB_eq, kB_eq, mAnd_eq, kAnd_true, kAnd_false, mOr_eq, kOr_true, kOr_false, mNot_eq, kNot_eq, mIte_eq, kIte_true, kIte_false, mAndV_eq, kAndV_true, kAndV_false, mOrV_eq, kOrV_true, kOrV_false, mNotV_eq, kNotV_eq, mNil_eq, mCons_eq, kCons1_eq, kCons2_eq, mTup_eq, kTup_eq, mLst_eq, kLst_eq, mFrz_eq, kFrz_eq, mMut_eq, kMut_eq, mCall_eq, mCB_eq, kCB_eq, mCBL_eq, kCBL_eq, mTr_eq, kTr_eq, mNeg_eq, kNeg_eq, mChain_eq, kChn1_eq, kChn2_eq, kChn_true, kChn_false, gN_eq, gsN_eq, gsC_eq, kGs_eq, gT_eq, gTp_eq, gSet_eq, kSet1_eq, kSet2_eq, kSetE_eq, setO_eq, setL_nat, setL_lit, setL_str, mMt_eq, kMt1_eq, kMt1'_eq, kMt2_eq, kMt2'_eq, kMt3_eq, fApp_eq, fPop_eq, kPop_eq, getLast_snoc, dropLast_snoc, fExt_eq, kExt_eq, oAdd_int, oAdd_str, oAdd_tup, oAdd_lst, oAdd_loc, kCat_eq, lstD_lst, lstD_loc, isLst_eq, seqD_tup, seqD_lst, seqD_rol, seqD_loc, dicD_dic, dicD_loc, isDic_eq, oSub_int, oMul_int, oDiv_int, oMod_int, oI_plus, oI_minus, oLt_int, oLe_int, oGt_int, oGe_int, oEq_int, oEq_str, oEq_bl, oNe_int, oNe_str, oNe_bl, oIs_non, oIsNot_non, isN_non, isN_int, isN_bl, isN_str, isN_tup, isN_lst, isN_loc, atI_lit, atI_natc, atI_neg1, ixO_tup, ixO_lst, ixO_dics, ixO_dici, ixO_locs, ixO_loci, ixL_lst, ixL_dics, ixL_dici, cLen_tup, cLen_lst, cLen_dic, cLen_loc, lenL_lst, lenL_dic, cInt_int, cInt_bl, cAbs_int, cTup_tup, cTup_lst, cTup_loc, tupL_eq, cList_eq, cBls_lst, blsA_eq, fAll_eq, fAny_eq, truD_lst, truD_tup, truD_bl, truD_int, truD_non, truD_loc, truL_lst, truL_dic, itD_tup, itD_lst, miSeq_eq, kIt_eq, miR1_eq, kR1_eq, miR2_eq, kR2_eq, mSl_eq, kSl1_eq, kSl2_eq, kSl3_eq, mNoP_eq, mPart_eq, kPart_eq, slD_tup, slD_lst, slD_rol, slD_loc, slA_eq, mIsi_eq, kIsi_eq, tyD_non, tyD_bl, tyD_int, tyD_str, tyD_tup, tyD_lst, isi_NoneType_tuple, isi_NoneType_list, isi_NoneType_int, isi_NoneType_str, isi_NoneType_bool, isi_NoneType_int_str, isi_bool_tuple, isi_bool_list, isi_bool_int, isi_bool_str, isi_bool_bool, isi_bool_int_str, isi_int_tuple, isi_int_list, isi_int_int, isi_int_str, isi_int_bool, isi_int_int_str, isi_str_tuple, isi_str_list, isi_str_int, isi_str_str, isi_str_bool, isi_str_int_str, isi_tuple_tuple, isi_tuple_list, isi_tuple_int, isi_tuple_str, isi_tuple_bool, isi_tuple_int_str, isi_list_tuple, isi_list_list, isi_list_int, isi_list_str, isi_list_bool, isi_list_int_str, mDicF_eq, kDicF_eq, mDicM_eq, kDicM_eq, dicA_eq, dicB_eq, mDic0_eq, mGet1_eq, kGet1_eq, kGet1a_eq, mGet2_eq, kGet2_eq, kGet2a_eq, kGet2b_eq, kGet3_str, kGet3_int, kForB_eq, kForS_nx, kForS_ct, kForS_bk, kForS_rt, kWh_true, kWh_false, kWhS_nx, kWhS_ct, kWhS_bk, kWhS_rt, mLc_eq, kLc_eq, kLc1_eq, kLc2_true, kLc2_false, kLc3_eq, kLc4_eq, mYes_eq, wipeE_nil, wipeE_cons, mFun_0, mFun_1, mFun_2, mFun_3, mFun_4, mFun_5, mFun_6, mFun_7, mFun_8, mFunL_0, mFunL_1, mFunL_2, mFunL_3, mFunL_4, mFunL_5, mFunL_6, mFunL_7, mFunL_8, endW_rt, endW_nx, mRev_eq, kRev_eq, miTxt_eq, kTxt_eq, oIsB_bl, oIsNotB_bl, oIn_eq, oNotIn_eq, kIn_eq, kNIn_eq, inO_sign, inA_eq, inO_tup, inO_lst, inO_loc, inL_lst, inL_dics, inL_dici, inO_dics, inO_dici, flatD_non, flatD_bl, flatD_int, flatD_str, ixO_dkls, ixO_dkli, inO_dkls, inO_dkli, dicD_dkl, mDitN_eq, ixDN_eq, kIxN_eq, setN_eq, gSetN_eq, kSetN1_eq, kSetN2_eq, kSetN3_eq, mGet2N_eq, kGetN1_eq, kGetN2_eq, kGetN3_eq, kGetN4_eq, miKeysN_eq, kKeysN_eq, miKeysL_eq, kKeysL_eq, sForP_eq, kForP_eq, kForP2_eq, keepM_eq, mLc2_eq, kLd_eq, kLd1_eq, kLd2_true, kLd2_false, kLd2b_eq, kLd3_eq, kLd4_eq, Nat.reduceSub, Nat.reduceAdd, Nat.reduceLeDiff, Nat.reduceLT, Nat.reduceEqDiff, Int.reduceLT, Int.reduceLE, Int.reduceAdd, Int.reduceSub, Int.reduceNeg, Int.reduceMul, Int.reduceToNat, Int.reduceBEq, fits_lit, List.getElem?_cons_zero, List.getElem?_cons_succ, List.getElem?_nil, List.set_cons_zero, List.set_cons_succ, List.set_nil, List.length_cons, List.length_nil, List.length_set, List.length_map, List.length_append, List.set_set, List.replicate_succ, List.replicate_zero, List.isEmpty_nil, List.isEmpty_cons, List.nil_append, List.cons_append, List.append_assoc, Bool.not_true, Bool.not_false, decide_true, decide_false, if_true, if_false, Bool.false_eq_true, Option.getD_none, Option.getD_some, Option.isSome_none, Option.isSome_some, st_app, st_app0, st_set, st_set0, List.getLast?_nil, getLast_snoc, dropLast_snoc])
local macro_rules | `(tactic| l_intsC) => `(tactic| simp only [bnd_some', ret1_some', sSeq_eq, kThen_nx, kThen_rt, kThen_bk, kThen_ct, sNil_eq, sAsg_eq, kAsg_eq, sDrop_eq, kDrop_eq, sRet_eq, kRet_eq, sRetN_eq, sBreak_eq, sCont_eq, sIf_eq, kIf_true, kIf_false, sTgt_eq, kTgt1_eq, kTgt2_eq, sPar_eq, kPar2_eq, sPar3_eq, kPar3_eq, sFor_eq, kFor_eq, sAug_eq, kAug_eq, kAug1_eq, mV_eq, kGot_eq, mC_eq, mOp_eq, kOp1_eq, kOp2_eq, mTB_eq, kB_eq, mAnd_eq, kAnd_true, kAnd_false, mOr_eq, kOr_true, kOr_false, mNot_eq, kNot_eq, mIte_eq, kIte_true, kIte_false, mAndV_eq, kAndV_true, kAndV_false, mOrV_eq, kOrV_true, kOrV_false, mNotV_eq, kNotV_eq, mNil_eq, mCons_eq, kCons1_eq, kCons2_eq, mTup_eq, kTup_eq, mLst_eq, kLst_eq, mFrz_eq, kFrz_eq, mMut_eq, kMut_eq, mCall_eq, mCB_eq, kCB_eq, mCBL_eq, kCBL_eq, mTr_eq, kTr_eq, mNeg_eq, kNeg_eq, mChain_eq, kChn1_eq, kChn2_eq, kChn_true, kChn_false, gN_eq, gsN_eq, gsC_eq, kGs_eq, gT_eq, gTp_eq, gSet_eq, kSet1_eq, kSet2_eq, kSetE_eq, setO_eq, setL_nat, setL_lit, setL_str, mMt_eq, kMt1_eq, kMt1'_eq, kMt2_eq, kMt2'_eq, kMt3_eq, fApp_eq, fPop_eq, kPop_eq, getLast_snoc, dropLast_snoc, fExt_eq, kExt_eq, oAdd_int, oAdd_str, oAdd_tup, oAdd_lst, oAdd_loc, kCat_eq, lstD_lst, lstD_loc, isLst_eq, seqD_tup, seqD_lst, seqD_rol, seqD_loc, dicD_dic, dicD_loc, isDic_eq, oSub_int, oMul_int, oDiv_int, oMod_int, oI_plus, oI_minus, oLt_int, oLe_int, oGt_int, oGe_int, oEq_int, oEq_str, oEq_bl, oNe_int, oNe_str, oNe_bl, oIs_non, oIsNot_non, isN_non, isN_int, isN_bl, isN_str, isN_tup, isN_lst, isN_loc, atI_lit, atI_natc, atI_neg1, ixO_tup, ixO_lst, ixO_dics, ixO_dici, ixO_locs, ixO_loci, ixL_lst, ixL_dics, ixL_dici, cLen_tup, cLen_lst, cLen_dic, cLen_loc, lenL_lst, lenL_dic, cInt_int, cInt_bl, cAbs_int, cTup_tup, cTup_lst, cTup_loc, tupL_eq, cList_eq, cBls_lst, blsA_eq, fAll_eq, fAny_eq, truD_lst, truD_tup, truD_bl, truD_int, truD_non, truD_loc, truL_lst, truL_dic, itD_tup, itD_lst, miSeq_eq, kIt_eq, miR1_eq, kR1_eq, miR2_eq, kR2_eq, mSl_eq, kSl1_eq, kSl2_eq, kSl3_eq, mNoP_eq, mPart_eq, kPart_eq, slD_tup, slD_lst, slD_rol, slD_loc, slA_eq, mIsi_eq, kIsi_eq, tyD_non, tyD_bl, tyD_int, tyD_str, tyD_tup, tyD_lst, isi_NoneType_tuple, isi_NoneType_list, isi_NoneType_int, isi_NoneType_str, isi_NoneType_bool, isi_NoneType_int_str, isi_bool_tuple, isi_bool_list, isi_bool_int, isi_bool_str, isi_bool_bool, isi_bool_int_str, isi_int_tuple, isi_int_list, isi_int_int, isi_int_str, isi_int_bool, isi_int_int_str, isi_str_tuple, isi_str_list, isi_str_int, isi_str_str, isi_str_bool, isi_str_int_str, isi_tuple_tuple, isi_tuple_list, isi_tuple_int, isi_tuple_str, isi_tuple_bool, isi_tuple_int_str, isi_list_tuple, isi_list_list, isi_list_int, isi_list_str, isi_list_bool, isi_list_int_str, mDicF_eq, kDicF_eq, mDicM_eq, kDicM_eq, dicA_eq, dicB_eq, mDic0_eq, mGet1_eq, kGet1_eq, kGet1a_eq, mGet2_eq, kGet2_eq, kGet2a_eq, kGet2b_eq, kGet3_str, kGet3_int, kForB_eq, kForS_nx, kForS_ct, kForS_bk, kForS_rt, kWh_true, kWh_false, kWhS_nx, kWhS_ct, kWhS_bk, kWhS_rt, mLc_eq, kLc_eq, kLc1_eq, kLc2_true, kLc2_false, kLc3_eq, kLc4_eq, mYes_eq, wipeE_nil, wipeE_cons, mFun_0, mFun_1, mFun_2, mFun_3, mFun_4, mFun_5, mFun_6, mFun_7, mFun_8, mFunL_0, mFunL_1, mFunL_2, mFunL_3, mFunL_4, mFunL_5, mFunL_6, mFunL_7, mFunL_8, endW_rt, endW_nx, mRev_eq, kRev_eq, miTxt_eq, kTxt_eq, oIsB_bl, oIsNotB_bl, oIn_eq, oNotIn_eq, kIn_eq, kNIn_eq, inO_sign, inA_eq, inO_tup, inO_lst, inO_loc, inL_lst, inL_dics, inL_dici, inO_dics, inO_dici, flatD_non, flatD_bl, flatD_int, flatD_str, ixO_dkls, ixO_dkli, inO_dkls, inO_dkli, dicD_dkl, mDitN_eq, ixDN_eq, kIxN_eq, setN_eq, gSetN_eq, kSetN1_eq, kSetN2_eq, kSetN3_eq, mGet2N_eq, kGetN1_eq, kGetN2_eq, kGetN3_eq, kGetN4_eq, miKeysN_eq, kKeysN_eq, miKeysL_eq, kKeysL_eq, sForP_eq, kForP_eq, kForP2_eq, keepM_eq, mLc2_eq, kLd_eq, kLd1_eq, kLd2_true, kLd2_false, kLd2b_eq, kLd3_eq, kLd4_eq, Nat.reduceSub, Nat.reduceAdd, Nat.reduceLeDiff, Nat.reduceLT, Nat.reduceEqDiff, Int.reduceLT, Int.reduceLE, Int.reduceAdd, Int.reduceSub, Int.reduceNeg, Int.reduceMul, Int.reduceToNat, Int.reduceBEq, fits_lit, List.getElem?_cons_zero, List.getElem?_cons_succ, List.getElem?_nil, List.set_cons_zero, List.set_cons_succ, List.set_nil, List.length_cons, List.length_nil, List.length_set, List.length_map, List.length_append, List.set_set, List.replicate_succ, List.replicate_zero, List.isEmpty_nil, List.isEmpty_cons, List.nil_append, List.cons_append, List.append_assoc, Bool.not_true, Bool.not_false, decide_true, decide_false, if_true, if_false, Bool.false_eq_true, Option.getD_none, Option.getD_some, Option.isSome_none, Option.isSome_some, st_app, st_app0, st_set, st_set0, List.getLast?_nil, getLast_snoc, dropLast_snoc, *])
section
variable {st : Store} {a0 a1 a2 a3 a4 a9 a10 : Option D} {lr : Nat} {R : List Way} {w : Way}
/-- what one way does to the rows -/
theorem row_turn (hR : st[lr]? = some (.lst (R.map eW))) (hl : R.length < 900000) (ok : ∀ r ∈ R, okW r = true) (okw : okW w = true) (hf : ∀ r ∈ R, HF r.c) (hw : HF w.c) :
    ∃ k9 k10, L__law_alternatives_1 [a0, a1, a2, a3, a4, some (.loc lr), some (eF w.c), some (txtD w.cs), some (txtD w.ls), a9, a10] st = some (.nx [a0, a1, a2, a3, a4, some (.loc lr), some (eF w.c), some (txtD w.cs), some (txtD w.ls), k9, k10], st.set lr (.lst ((addW R w).map eW))) := by
  obtain ⟨p, hp⟩ : ∃ p : Nat → Bool, p = fun i => (R[i]?.map fun r => sameW r w).getD false := ⟨_, rfl⟩
  have e := same_lc (a0 := a0) (a1 := a1) (a2 := a2) (a3 := a3) (a4 := a4) (a6 := some (eF w.c)) (a9 := a9) hR ok okw (List.range R.length) fun i hi => List.mem_range.mp hi
  have q0 : (0 : Int) ≤ (R.length : Int) := by omega
  have q1 : (R.length : Int) < 4294967296 := by omega
  have q2 : (rngL 0 R.length).length ≤ 16777216 := by rw [rngL_length]; omega
  have e2 : rngL 0 R.length = (List.range R.length).map fun i => D.int (0 + (i : Nat)) := rfl
  rw [← hp, ← e2] at e
  cases hfl : (List.range R.length).filter p with
  | nil =>
    have nh : ∀ r ∈ R, sameW r w = false := fun r hr => by
      obtain ⟨i, hi, rfl⟩ := List.getElem_of_mem hr
      have := List.filter_eq_nil_iff.mp hfl i (List.mem_range.mpr hi)
      rw [hp] at this
      simpa [List.getElem?_eq_getElem hi] using this
    rw [hfl] at e
    refine ⟨some (.lst []), a10, ?_⟩
    rw [addW_none R w nh]
    have hl2 : R.length < 16777216 := by omega
    have hnat : ((R.length : Int)).toNat = R.length := Int.toNat_natCast _
    clear ok okw hf hw hp hfl nh e2
    unfold L__law_alternatives_1
    simp only [List.map_nil, List.map_append, List.map_cons] at e ⊢
    have hR2 := hR
    unfold eW at hR2 ⊢
    l_intsC
    rfl
  | cons i is =>
    have hfi : (List.range R.length).find? p = some i := by
      rw [← List.head?_filter, hfl]
      rfl
    obtain ⟨h1, h2, h3⟩ := List.find?_range_eq_some.mp hfi
    have hi : i < R.length := List.mem_range.mp h2
    have hg : R[i]? = some R[i] := List.getElem?_eq_getElem hi
    have hs : sameW R[i] w = true := by
      rw [hp] at h1
      simpa [hg] using h1
    have hn : ∀ j q, j < i → R[j]? = some q → sameW q w = false := fun j q hj eq => by
      have := h3 j hj
      rw [hp] at this
      simpa [eq] using this
    rw [hfl] at e
    have ea := addW_at R w i R[i] hg hs hn
    have pl := lplus_eq st (hf _ (List.getElem_mem hi)) hw
    have g : atI (R.map eW) (i : Int) = some (eW R[i]) := by rw [atI_nat', List.getElem?_map, hg]; rfl
    have lset : (R.map eW).set i (eW ⟨fplus R[i].c w.c, w.cs, w.ls⟩) = (addW R w).map eW := by rw [ea, List.map_set]
    have hl2 : i < (R.map eW).length := by simpa using hi
    refine ⟨some (.lst (ixD i :: is.map ixD)), some (ixD i), ?_⟩
    rw [← lset]
    clear ok okw hf hw hp hfl e2 hfi h1 h2 h3 hn ea lset
    have hnat : ((R.length : Int)).toNat = R.length := Int.toNat_natCast _
    unfold L__law_alternatives_1
    simp only [List.map_cons] at e ⊢
    generalize R[i] = r at *
    have hi2 : i < R.length := hi
    clear hs hg
    unfold eW ixD at *
    l_intsC
theorem keep_nx {n : Nat} {ds : List D} {b : S} {env e1 : MEnv} {s s1 : Store} (h : b env s = some (.nx e1, s1)) (k : s1[n]? = some (.lst ds)) : keepM n ds b env s = some (.nx e1, s1) := by
  rw [keepM_eq, h, bnd_some', kKeep_of k]
/-- the ways, one by one -/
theorem row_turns {lw : Nat} {all : List D} (hne : lw ≠ lr) : ∀ (W R : List Way) (st : Store) (c : Int) (a6 a7 a8 a9 a10 : Option D), st[lr]? = some (.lst (R.map eW)) → st[lw]? = some (.lst all) → R.length + W.length < 900000 → 1 ≤ c → c + W.length ≤ 100000 →
    (∀ r ∈ R, okW r = true) → (∀ w ∈ W, okW w = true) → (∀ r ∈ R, Ch (PM 10) c r.c) → (∀ w ∈ W, Ch (PM 10) 1 w.c) →
    ∃ k6 k7 k8 k9 k10, ForN (gT 3 (gsC (gN 6) (gsC (gN 7) (gsC (gN 8) (gsN))))) (keepM lw all L__law_alternatives_1) (W.map eW) [a0, a1, a2, a3, a4, some (.loc lr), a6, a7, a8, a9, a10] st
      [a0, a1, a2, a3, a4, some (.loc lr), k6, k7, k8, k9, k10] (st.set lr (.lst ((W.foldl addW R).map eW)))
  | [], R, st, c, a6, a7, a8, a9, a10, hR, hW, h1, h2, h3, o1, o2, c1, c2 => ⟨a6, a7, a8, a9, a10, by
    have e : st.set lr (.lst (R.map eW)) = st := by
      obtain ⟨hlt, hq⟩ := List.getElem?_eq_some_iff.mp hR
      rw [← hq]
      exact List.set_getElem_self hlt
    simp only [List.foldl_nil, List.map_nil, e]
    exact .nil⟩
  | w :: W, R, st, c, a6, a7, a8, a9, a10, hR, hW, h1, h2, h3, o1, o2, c1, c2 => by
    simp only [List.length_cons] at h1 h3
    have hlt := (List.getElem?_eq_some_iff.mp hR).1
    have w1 := c2 w (List.mem_cons_self ..)
    obtain ⟨k9, k10, e⟩ := row_turn (a0 := a0) (a1 := a1) (a2 := a2) (a3 := a3) (a4 := a4) (a9 := a9) (a10 := a10) hR (by omega) o1 (o2 w (List.mem_cons_self ..)) (fun r hr => ch_hf (by decide) (by omega) h2 (c1 r hr)) (ch_hf (by decide) (by decide) (by decide) w1)
    have al := addW_len R w
    have hW1 : (st.set lr (.lst ((addW R w).map eW)))[lw]? = some (.lst all) := by rw [List.getElem?_set_ne (Ne.symm hne)]; exact hW
    obtain ⟨i6, i7, i8, i9, i10, ih⟩ := row_turns hne W (addW R w) (st.set lr (.lst ((addW R w).map eW))) (c + 1) (some (eF w.c)) (some (txtD w.cs)) (some (txtD w.ls)) k9 k10 (List.getElem?_set_self hlt) hW1 (by omega) (by omega) (by omega)
      (addW_ok (o2 w (List.mem_cons_self ..)) R o1) (fun v hv => o2 v (List.mem_cons_of_mem _ hv)) (addW_ch w1 (by omega) (by decide) R c1) (fun v hv => c2 v (List.mem_cons_of_mem _ hv))
    rw [List.set_set] at ih
    refine ⟨i6, i7, i8, i9, i10, ?_⟩
    rw [List.map_cons]
    refine ForN.nx (e1 := [a0, a1, a2, a3, a4, some (.loc lr), some (eF w.c), some (txtD w.cs), some (txtD w.ls), a9, a10]) (s1 := st) ?_ (keep_nx e hW1) ih
    unfold eW
    l_ints
end
/-! ### bodies' ways are told in names -/
section
variable {nm : List Str}
def InW (nm : List Str) (w : Way) : Prop := (∀ x ∈ w.cs, x ∈ nm) ∧ ∀ x ∈ w.ls, x ∈ tellS
mutual
theorem ways_in : ∀ (n : Nat) (b : Bod) (c : Int × Int) (cs ls : List Str), OkB nm n b → (∀ x ∈ cs, x ∈ nm) → (∀ x ∈ ls, x ∈ tellS) → ∀ w ∈ waysB b c cs ls, InW nm w
  | n, .en, c, cs, ls, _, h1, h2 => fun w hw => by
    simp only [waysB, List.mem_cons, List.not_mem_nil, or_false] at hw
    subst hw
    exact ⟨h1, h2⟩
  | n, .st, _, _, _, _, _, _ => fun w hw => by simp [waysB] at hw
  | 0, .tell x b, _, _, _, h, _, _ => by simp [OkB] at h
  | 0, .call x b, _, _, _, h, _, _ => by simp [OkB] at h
  | 0, .draw r, _, _, _, h, _, _ => by simp [OkB] at h
  | n + 1, .tell x b, c, cs, ls, h, h1, h2 => by
    simp only [OkB, waysB] at h ⊢
    refine ways_in n b c cs _ h.2 h1 fun y hy => ?_
    rcases List.mem_append.mp hy with hy | hy
    · exact h2 y hy
    · simp at hy; subst hy; exact h.1
  | n + 1, .call x b, c, cs, ls, h, h1, h2 => by
    simp only [OkB, waysB] at h ⊢
    refine ways_in n b c _ ls h.2 (fun y hy => ?_) h2
    rcases List.mem_append.mp hy with hy | hy
    · exact h1 y hy
    · simp at hy; subst hy; exact h.1
  | n + 1, .draw r, c, cs, ls, h, h1, h2 => by
    simp only [OkB, waysB] at h ⊢
    exact waysR_in n r c cs ls h.2 h1 h2
theorem waysR_in : ∀ (n : Nat) (r : Rws) (c : Int × Int) (cs ls : List Str), OkR nm n r → (∀ x ∈ cs, x ∈ nm) → (∀ x ∈ ls, x ∈ tellS) → ∀ w ∈ waysR r c cs ls, InW nm w
  | n, .nil, _, _, _, _, _, _ => fun w hw => by simp [waysR] at hw
  | n, .cons f b r, c, cs, ls, h, h1, h2 => fun w hw => by
    simp only [OkR] at h
    simp only [waysR, List.mem_append] at hw
    rcases hw with hw | hw
    · exact ways_in n b _ cs ls h.1 h1 h2 w hw
    · exact waysR_in n r c cs ls h.2 h1 h2 w hw
end
mutual
theorem ok_succ : ∀ (n : Nat) (b : Bod), OkB nm n b → OkB nm (n + 1) b
  | n, .en, _ => by simp [OkB]
  | n, .st, _ => by simp [OkB]
  | 0, .tell x b, h => by simp [OkB] at h
  | 0, .call x b, h => by simp [OkB] at h
  | 0, .draw r, h => by simp [OkB] at h
  | n + 1, .tell x b, h => by simp only [OkB] at h ⊢; exact ⟨h.1, ok_succ n b h.2⟩
  | n + 1, .call x b, h => by simp only [OkB] at h ⊢; exact ⟨h.1, ok_succ n b h.2⟩
  | n + 1, .draw r, h => by simp only [OkB] at h ⊢; exact ⟨h.1, okR_succ n r h.2⟩
theorem okR_succ : ∀ (n : Nat) (r : Rws), OkR nm n r → OkR nm (n + 1) r
  | n, .nil, _ => by simp [OkR]
  | n, .cons f b r, h => by simp only [OkR] at h ⊢; exact ⟨ok_succ n b h.1, okR_succ n r h.2⟩
end
theorem tell_ok : ∀ x ∈ tellS, PyData.strOk x = true := by decide +kernel
theorem name_ok : ∀ x ∈ nameS, PyData.strOk x = true := by decide +kernel
theorem InW.ok (hn : ∀ x ∈ nm, x ∈ nameS) {w : Way} (h : InW nm w) : okW w = true := by
  simp only [okW, okT, Bool.and_eq_true, List.all_eq_true]
  exact ⟨fun x hx => name_ok x (hn x (h.1 x hx)), fun x hx => tell_ok x (h.2 x hx)⟩
end
/-- a program -/
def progB (pr : List (Str × Bod)) : D := .tup (pr.map fun r => .tup [.str r.1, eB r.2])
structure OkP (pr : List (Str × Bod)) : Prop where
  pos : 0 < pr.length
  le : pr.length ≤ 4
  nm : ∀ x ∈ pr.map (·.1), x ∈ nameS
  nd : (pr.map (·.1)).Nodup
  ok : ∀ r ∈ pr, OkB (pr.map (·.1)) 5 r.2
/-- the alternatives of a body -/
def altB (b : Bod) : List Way := rowsOf (waysB b (1, 1) [] [])
theorem lo_tupW {m : Nat} (l : List Way) : lo m (.tup (l.map eW)) = true := los_ways l
section
variable {pr : List (Str × Bod)}
theorem ok_size {nm : List Str} {b : Bod} (h : OkB nm 5 b) : sizeB b ≤ 364 := size_ok 5 b h
theorem ways_len {nm : List Str} {b : Bod} (h : OkB nm 5 b) (c : Int × Int) (cs ls : List Str) : (waysB b c cs ls).length ≤ 364 := Nat.le_trans (ways_size b c cs ls) (ok_size h)
def altE (r : Str × Bod) : D := .tup [.str r.1, .tup ((altB r.2).map eW)]
theorem lo_altE {m : Nat} (r : Str × Bod) : lo m (altE r) = true := by
  have := lo_tupW (m := m) (altB r.2)
  simp only [lo] at this
  simp [altE, lo, los, this]
theorem alt_turn {r : Str × Bod} {acc : List D} {G : Store} {nm : List Str} (hb : OkB nm 5 r.2) (hn : ∀ x ∈ nm, x ∈ nameS) (hl : acc.length < 1000) {a0 a4 a5 a6 a7 a8 a9 a10 : Option D} :
    ∃ k4 k5 k6 k7 k8 k9 k10 g1 g2, L__law_alternatives_2 [a0, some (.loc 0), some (.str r.1), some (eB r.2), a4, a5, a6, a7, a8, a9, a10] (.lst acc :: G) = some (.nx [a0, some (.loc 0), some (.str r.1), some (eB r.2), k4, k5, k6, k7, k8, k9, k10], .lst (acc ++ [altE r]) :: (G ++ [g1, g2])) := by
  have wl := ways_len hb (1, 1) [] []
  have hch := ways_ch 5 r.2 0 (1, 1) [] [] hb ch_one (by decide)
  have hin := ways_in 5 r.2 (1, 1) [] [] hb (fun _ h => (List.not_mem_nil h).elim) (fun _ h => (List.not_mem_nil h).elim)
  have e1 := lws_b 9 r.2 (1, 1) [] [] (ok_succ 8 _ (ok_succ 7 _ (ok_succ 6 _ (ok_succ 5 _ hb)))) (hf_ok 5 r.2 0 (1, 1) hb ch_one (by decide)) (by have := ok_size hb; simp; omega) (by have := ok_size hb; simp; omega)
  have e2 := e1 (.lst acc :: (G ++ [.lst []])) (G.length + 1) [] (by simp) (by simp; omega)
  obtain ⟨W, hW⟩ : ∃ W, W = waysB r.2 (1, 1) [] [] := ⟨_, rfl⟩
  rw [← hW] at wl hch hin e2
  have e3 : (D.lst acc :: (G ++ [.lst []])).set (G.length + 1) (.lst (([] ++ W).map eW)) = .lst acc :: (G ++ [.lst (W.map eW)]) := by
    rw [List.set_cons_succ, List.nil_append]
    congr 1
    have := st_set0 (st := G) (g := [D.lst []]) (d := .lst (W.map eW))
    rw [this]
    rfl
  rw [e3] at e2
  have e4 : altB r.2 = W.foldl addW [] := by rw [hW]; rfl
  obtain ⟨k6, k7, k8, k9, k10, e5⟩ := row_turns (a0 := a0) (a1 := some (.loc 0)) (a2 := some (.str r.1)) (a3 := some (eB r.2)) (a4 := some (.loc (G.length + 1))) (lr := G.length + 2) (lw := G.length + 1) (all := W.map eW) (by omega) W [] (.lst acc :: (G ++ [.lst (W.map eW), .lst []])) 1 a6 a7 a8 a9 a10
    (by show (G ++ [D.lst (W.map eW), D.lst []])[G.length + 1]? = _; rw [st_app]; rfl) (by show (G ++ [D.lst (W.map eW), D.lst []])[G.length]? = _; rw [st_app0]; rfl) (by simp; omega) (by decide) (by omega) (fun _ h => (List.not_mem_nil h).elim) (fun w hw => (hin w hw).ok hn) (fun _ h => (List.not_mem_nil h).elim) hch
  have e6 : (D.lst acc :: (G ++ [.lst (W.map eW), .lst []])).set (G.length + 2) (.lst ((W.foldl addW []).map eW)) = .lst acc :: (G ++ [.lst (W.map eW), .lst ((altB r.2).map eW)]) := by
    rw [e4]
    show D.lst acc :: (G ++ [D.lst (W.map eW), D.lst []]).set (G.length + 1) _ = _
    rw [st_set]
    rfl
  rw [e6] at e5
  have e5 := e5.end
  refine ⟨some (.loc (G.length + 1)), some (.loc (G.length + 2)), k6, k7, k8, k9, k10, .lst (W.map eW), .lst ((altB r.2).map eW), ?_⟩
  have hl2 : acc.length < 16777216 := by omega
  clear e6 e4 e3 e1 hch hin wl hb hW
  unfold L__law_alternatives_2 R__law_alternatives_1 altE
  unfold eF txtD at e2
  simp only [List.map_nil] at e2
  l_intsC
end
end K31
end
section
set_option Elab.async false
set_option autoImplicit false
set_option linter.all false
set_option maxRecDepth 100000
set_option maxHeartbeats 2000000
namespace K31
open PySem L2 Mn
local macro_rules | `(tactic| l_ints) => `(tactic| simp only [bnd_some', ret1_some', sSeq_eq, kThen_nx, kThen_rt, kThen_bk, kThen_ct, sNil_eq, sAsg_eq, kAsg_eq, sDrop_eq, kDrop_eq, sRet_eq, kRet_eq, sRetN_eq, sBreak_eq, sCont_eq, sIf_eq, kIf_true, kIf_false, sTgt_eq, kTgt1_eq, kTgt2_eq, sPar_eq, kPar2_eq, sPar3_eq, kPar3_eq, sFor_eq, kFor_eq, sAug_eq, kAug_eq, kAug1_eq, mV_eq, kGot_eq, mC_eq, mOp_eq, kOp1_eq, kOp2_eq, mTB_eq, kB_eq, mAnd_eq, kAnd_true, kAnd_false, mOr_eq, kOr_true, kOr_false, mNot_eq, kNot_eq, mIte_eq, kIte_true, kIte_false, mAndV_eq, kAndV_true, kAndV_false, mOrV_eq, kOrV_true, kOrV_false, mNotV_eq, kNotV_eq, mNil_eq, mCons_eq, kCons1_eq, kCons2_eq, mTup_eq, kTup_eq, mLst_eq, kLst_eq, mFrz_eq, kFrz_eq, mMut_eq, kMut_eq, mCall_eq, mCB_eq, kCB_eq, mCBL_eq, kCBL_eq, mTr_eq, kTr_eq, mNeg_eq, kNeg_eq, mChain_eq, kChn1_eq, kChn2_eq, kChn_true, kChn_false, gN_eq, gsN_eq, gsC_eq, kGs_eq, gT_eq, gTp_eq, gSet_eq, kSet1_eq, kSet2_eq, kSetE_eq, setO_eq, setL_nat, setL_lit, setL_str, mMt_eq, kMt1_eq, kMt1'_eq, kMt2_eq, kMt2'_eq, kMt3_eq, fApp_eq, fPop_eq, kPop_eq, getLast_snoc, dropLast_snoc, fExt_eq, kExt_eq, oAdd_int, oAdd_str, oAdd_tup, oAdd_lst, oAdd_loc, kCat_eq, lstD_lst, lstD_loc, isLst_eq, seqD_tup, seqD_lst, seqD_rol, seqD_loc, dicD_dic, dicD_loc, isDic_eq, oSub_int, oMul_int, oDiv_int, oMod_int, oI_plus, oI_minus, oLt_int, oLe_int, oGt_int, oGe_int, oEq_int, oEq_str, oEq_bl, oNe_int, oNe_str, oNe_bl, oIs_non, oIsNot_non, isN_non, isN_int, isN_bl, isN_str, isN_tup, isN_lst, isN_loc, atI_lit, atI_natc, atI_neg1, ixO_tup, ixO_lst, ixO_dics, ixO_dici, ixO_locs, ixO_loci, ixL_lst, ixL_dics, ixL_dici, cLen_tup, cLen_lst, cLen_dic, cLen_loc, lenL_lst, lenL_dic, cInt_int, cInt_bl, cAbs_int, cTup_tup, cTup_lst, cTup_loc, tupL_eq, cList_eq, cBls_lst, blsA_eq, fAll_eq, fAny_eq, truD_lst, truD_tup, truD_bl, truD_int, truD_non, truD_loc, truL_lst, truL_dic, itD_tup, itD_lst, miSeq_eq, kIt_eq, miR1_eq, kR1_eq, miR2_eq, kR2_eq, mSl_eq, kSl1_eq, kSl2_eq, kSl3_eq, mNoP_eq, mPart_eq, kPart_eq, slD_tup, slD_lst, slD_rol, slD_loc, slA_eq, mIsi_eq, kIsi_eq, tyD_non, tyD_bl, tyD_int, tyD_str, tyD_tup, tyD_lst, isi_NoneType_tuple, isi_NoneType_list, isi_NoneType_int, isi_NoneType_str, isi_NoneType_bool, isi_NoneType_int_str, isi_bool_tuple, isi_bool_list, isi_bool_int, isi_bool_str, isi_bool_bool, isi_bool_int_str, isi_int_tuple, isi_int_list, isi_int_int, isi_int_str, isi_int_bool, isi_int_int_str, isi_str_tuple, isi_str_list, isi_str_int, isi_str_str, isi_str_bool, isi_str_int_str, isi_tuple_tuple, isi_tuple_list, isi_tuple_int, isi_tuple_str, isi_tuple_bool, isi_tuple_int_str, isi_list_tuple, isi_list_list, isi_list_int, isi_list_str, isi_list_bool, isi_list_int_str, mDicF_eq, kDicF_eq, mDicM_eq, kDicM_eq, dicA_eq, dicB_eq, mDic0_eq, mGet1_eq, kGet1_eq, kGet1a_eq, mGet2_eq, kGet2_eq, kGet2a_eq, kGet2b_eq, kGet3_str, kGet3_int, kForB_eq, kForS_nx, kForS_ct, kForS_bk, kForS_rt, kWh_true, kWh_false, kWhS_nx, kWhS_ct, kWhS_bk, kWhS_rt, mLc_eq, kLc_eq, kLc1_eq, kLc2_true, kLc2_false, kLc3_eq, kLc4_eq, mYes_eq, wipeE_nil, wipeE_cons, mFun_0, mFun_1, mFun_2, mFun_3, mFun_4, mFun_5, mFun_6, mFun_7, mFun_8, mFunL_0, mFunL_1, mFunL_2, mFunL_3, mFunL_4, mFunL_5, mFunL_6, mFunL_7, mFunL_8, endW_rt, endW_nx, mRev_eq, kRev_eq, miTxt_eq, kTxt_eq, oIsB_bl, oIsNotB_bl, oIn_eq, oNotIn_eq, kIn_eq, kNIn_eq, inO_sign, inA_eq, inO_tup, inO_lst, inO_loc, inL_lst, inL_dics, inL_dici, inO_dics, inO_dici, flatD_non, flatD_bl, flatD_int, flatD_str, ixO_dkls, ixO_dkli, inO_dkls, inO_dkli, dicD_dkl, mDitN_eq, ixDN_eq, kIxN_eq, setN_eq, gSetN_eq, kSetN1_eq, kSetN2_eq, kSetN3_eq, mGet2N_eq, kGetN1_eq, kGetN2_eq, kGetN3_eq, kGetN4_eq, miKeysN_eq, kKeysN_eq, miKeysL_eq, kKeysL_eq, sForP_eq, kForP_eq, kForP2_eq, keepM_eq, mLc2_eq, kLd_eq, kLd1_eq, kLd2_true, kLd2_false, kLd2b_eq, kLd3_eq, kLd4_eq, Nat.reduceSub, Nat.reduceAdd, Nat.reduceLeDiff, Nat.reduceLT, Nat.reduceEqDiff, Int.reduceLT, Int.reduceLE, Int.reduceAdd, Int.reduceSub, Int.reduceNeg, Int.reduceMul, Int.reduceToNat, Int.reduceBEq, fits_lit, List.getElem?_cons_zero, List.getElem?_cons_succ, List.getElem?_nil, List.set_cons_zero, List.set_cons_succ, List.set_nil, List.length_cons, List.length_nil, List.length_set, List.length_map, List.length_append, List.set_set, List.replicate_succ, List.replicate_zero, List.isEmpty_nil, List.isEmpty_cons, List.nil_append, List.cons_append, List.append_assoc, Bool.not_true, Bool.not_false, decide_true, decide_false, if_true, if_false, Bool.false_eq_true, Option.getD_none, Option.getD_some, Option.isSome_none, Option.isSome_some, st_app, st_app0, st_set, st_set0, List.getLast?_nil, getLast_snoc, dropLast_snoc])
local macro_rules | `(tactic| l_intsC) => `(tactic| simp only [bnd_some', ret1_some', sSeq_eq, kThen_nx, kThen_rt, kThen_bk, kThen_ct, sNil_eq, sAsg_eq, kAsg_eq, sDrop_eq, kDrop_eq, sRet_eq, kRet_eq, sRetN_eq, sBreak_eq, sCont_eq, sIf_eq, kIf_true, kIf_false, sTgt_eq, kTgt1_eq, kTgt2_eq, sPar_eq, kPar2_eq, sPar3_eq, kPar3_eq, sFor_eq, kFor_eq, sAug_eq, kAug_eq, kAug1_eq, mV_eq, kGot_eq, mC_eq, mOp_eq, kOp1_eq, kOp2_eq, mTB_eq, kB_eq, mAnd_eq, kAnd_true, kAnd_false, mOr_eq, kOr_true, kOr_false, mNot_eq, kNot_eq, mIte_eq, kIte_true, kIte_false, mAndV_eq, kAndV_true, kAndV_false, mOrV_eq, kOrV_true, kOrV_false, mNotV_eq, kNotV_eq, mNil_eq, mCons_eq, kCons1_eq, kCons2_eq, mTup_eq, kTup_eq, mLst_eq, kLst_eq, mFrz_eq, kFrz_eq, mMut_eq, kMut_eq, mCall_eq, mCB_eq, kCB_eq, mCBL_eq, kCBL_eq, mTr_eq, kTr_eq, mNeg_eq, kNeg_eq, mChain_eq, kChn1_eq, kChn2_eq, kChn_true, kChn_false, gN_eq, gsN_eq, gsC_eq, kGs_eq, gT_eq, gTp_eq, gSet_eq, kSet1_eq, kSet2_eq, kSetE_eq, setO_eq, setL_nat, setL_lit, setL_str, mMt_eq, kMt1_eq, kMt1'_eq, kMt2_eq, kMt2'_eq, kMt3_eq, fApp_eq, fPop_eq, kPop_eq, getLast_snoc, dropLast_snoc, fExt_eq, kExt_eq, oAdd_int, oAdd_str, oAdd_tup, oAdd_lst, oAdd_loc, kCat_eq, lstD_lst, lstD_loc, isLst_eq, seqD_tup, seqD_lst, seqD_rol, seqD_loc, dicD_dic, dicD_loc, isDic_eq, oSub_int, oMul_int, oDiv_int, oMod_int, oI_plus, oI_minus, oLt_int, oLe_int, oGt_int, oGe_int, oEq_int, oEq_str, oEq_bl, oNe_int, oNe_str, oNe_bl, oIs_non, oIsNot_non, isN_non, isN_int, isN_bl, isN_str, isN_tup, isN_lst, isN_loc, atI_lit, atI_natc, atI_neg1, ixO_tup, ixO_lst, ixO_dics, ixO_dici, ixO_locs, ixO_loci, ixL_lst, ixL_dics, ixL_dici, cLen_tup, cLen_lst, cLen_dic, cLen_loc, lenL_lst, lenL_dic, cInt_int, cInt_bl, cAbs_int, cTup_tup, cTup_lst, cTup_loc, tupL_eq, cList_eq, cBls_lst, blsA_eq, fAll_eq, fAny_eq, truD_lst, truD_tup, truD_bl, truD_int, truD_non, truD_loc, truL_lst, truL_dic, itD_tup, itD_lst, miSeq_eq, kIt_eq, miR1_eq, kR1_eq, miR2_eq, kR2_eq, mSl_eq, kSl1_eq, kSl2_eq, kSl3_eq, mNoP_eq, mPart_eq, kPart_eq, slD_tup, slD_lst, slD_rol, slD_loc, slA_eq, mIsi_eq, kIsi_eq, tyD_non, tyD_bl, tyD_int, tyD_str, tyD_tup, tyD_lst, isi_NoneType_tuple, isi_NoneType_list, isi_NoneType_int, isi_NoneType_str, isi_NoneType_bool, isi_NoneType_int_str, isi_bool_tuple, isi_bool_list, isi_bool_int, isi_bool_str, isi_bool_bool, isi_bool_int_str, isi_int_tuple, isi_int_list, isi_int_int, isi_int_str, isi_int_bool, isi_int_int_str, isi_str_tuple, isi_str_list, isi_str_int, isi_str_str, isi_str_bool, isi_str_int_str, isi_tuple_tuple, isi_tuple_list, isi_tuple_int, isi_tuple_str, isi_tuple_bool, isi_tuple_int_str, isi_list_tuple, isi_list_list, isi_list_int, isi_list_str, isi_list_bool, isi_list_int_str, mDicF_eq, kDicF_eq, mDicM_eq, kDicM_eq, dicA_eq, dicB_eq, mDic0_eq, mGet1_eq, kGet1_eq, kGet1a_eq, mGet2_eq, kGet2_eq, kGet2a_eq, kGet2b_eq, kGet3_str, kGet3_int, kForB_eq, kForS_nx, kForS_ct, kForS_bk, kForS_rt, kWh_true, kWh_false, kWhS_nx, kWhS_ct, kWhS_bk, kWhS_rt, mLc_eq, kLc_eq, kLc1_eq, kLc2_true, kLc2_false, kLc3_eq, kLc4_eq, mYes_eq, wipeE_nil, wipeE_cons, mFun_0, mFun_1, mFun_2, mFun_3, mFun_4, mFun_5, mFun_6, mFun_7, mFun_8, mFunL_0, mFunL_1, mFunL_2, mFunL_3, mFunL_4, mFunL_5, mFunL_6, mFunL_7, mFunL_8, endW_rt, endW_nx, mRev_eq, kRev_eq, miTxt_eq, kTxt_eq, oIsB_bl, oIsNotB_bl, oIn_eq, oNotIn_eq, kIn_eq, kNIn_eq, inO_sign, inA_eq, inO_tup, inO_lst, inO_loc, inL_lst, inL_dics, inL_dici, inO_dics, inO_dici, flatD_non, flatD_bl, flatD_int, flatD_str, ixO_dkls, ixO_dkli, inO_dkls, inO_dkli, dicD_dkl, mDitN_eq, ixDN_eq, kIxN_eq, setN_eq, gSetN_eq, kSetN1_eq, kSetN2_eq, kSetN3_eq, mGet2N_eq, kGetN1_eq, kGetN2_eq, kGetN3_eq, kGetN4_eq, miKeysN_eq, kKeysN_eq, miKeysL_eq, kKeysL_eq, sForP_eq, kForP_eq, kForP2_eq, keepM_eq, mLc2_eq, kLd_eq, kLd1_eq, kLd2_true, kLd2_false, kLd2b_eq, kLd3_eq, kLd4_eq, Nat.reduceSub, Nat.reduceAdd, Nat.reduceLeDiff, Nat.reduceLT, Nat.reduceEqDiff, Int.reduceLT, Int.reduceLE, Int.reduceAdd, Int.reduceSub, Int.reduceNeg, Int.reduceMul, Int.reduceToNat, Int.reduceBEq, fits_lit, List.getElem?_cons_zero, List.getElem?_cons_succ, List.getElem?_nil, List.set_cons_zero, List.set_cons_succ, List.set_nil, List.length_cons, List.length_nil, List.length_set, List.length_map, List.length_append, List.set_set, List.replicate_succ, List.replicate_zero, List.isEmpty_nil, List.isEmpty_cons, List.nil_append, List.cons_append, List.append_assoc, Bool.not_true, Bool.not_false, decide_true, decide_false, if_true, if_false, Bool.false_eq_true, Option.getD_none, Option.getD_some, Option.isSome_none, Option.isSome_some, st_app, st_app0, st_set, st_set0, List.getLast?_nil, getLast_snoc, dropLast_snoc, *])
def rowB (r : Str × Bod) : D := .tup [.str r.1, eB r.2]
section
variable {pr : List (Str × Bod)}
theorem alt_turns {nm : List Str} (hn : ∀ x ∈ nm, x ∈ nameS) {a0 : Option D} : ∀ (pr : List (Str × Bod)) (acc : List D) (G : Store) (a2 a3 a4 a5 a6 a7 a8 a9 a10 : Option D), (∀ r ∈ pr, OkB nm 5 r.2) → acc.length + pr.length < 1000 →
    ∃ k2 k3 k4 k5 k6 k7 k8 k9 k10 G', ForN (gT 2 (gsC (gN 2) (gsC (gN 3) (gsN)))) L__law_alternatives_2 (pr.map rowB) [a0, some (.loc 0), a2, a3, a4, a5, a6, a7, a8, a9, a10] (.lst acc :: G) [a0, some (.loc 0), k2, k3, k4, k5, k6, k7, k8, k9, k10] (.lst (acc ++ pr.map altE) :: G')
  | [], acc, G, a2, a3, a4, a5, a6, a7, a8, a9, a10, _, _ => ⟨a2, a3, a4, a5, a6, a7, a8, a9, a10, G, by simp only [List.map_nil, List.append_nil]; exact .nil⟩
  | r :: pr, acc, G, a2, a3, a4, a5, a6, a7, a8, a9, a10, h, hl => by
    simp only [List.length_cons] at hl
    obtain ⟨k4, k5, k6, k7, k8, k9, k10, g1, g2, e⟩ := alt_turn (r := r) (acc := acc) (G := G) (a0 := a0) (a4 := a4) (a5 := a5) (a6 := a6) (a7 := a7) (a8 := a8) (a9 := a9) (a10 := a10) (h r (List.mem_cons_self ..)) hn (by omega)
    obtain ⟨i2, i3, i4, i5, i6, i7, i8, i9, i10, G', ih⟩ := alt_turns hn (a0 := a0) pr (acc ++ [altE r]) (G ++ [g1, g2]) (some (.str r.1)) (some (eB r.2)) k4 k5 k6 k7 k8 k9 k10 (fun q hq => h q (List.mem_cons_of_mem _ hq)) (by simp; omega)
    rw [List.append_assoc] at ih
    refine ⟨i2, i3, i4, i5, i6, i7, i8, i9, i10, G', ?_⟩
    rw [List.map_cons, List.map_cons]
    refine ForN.nx (e1 := [a0, some (.loc 0), some (.str r.1), some (eB r.2), a4, a5, a6, a7, a8, a9, a10]) (s1 := .lst acc :: G) ?_ e ih
    unfold rowB
    l_ints
theorem los_altE {m : Nat} (pr : List (Str × Bod)) : los m (pr.map altE) = true := los_mapm _ fun r _ => lo_altE r
theorem law_alts (ok : OkP pr) : F__law_alternatives [progB pr] [] = some (.tup (pr.map altE), []) := by
  obtain ⟨k2, k3, k4, k5, k6, k7, k8, k9, k10, G', e⟩ := alt_turns (a0 := some (progB pr)) ok.nm pr [] [] none none none none none none none none none ok.ok (by have := ok.le; simp; omega)
  have e := e.end
  rw [List.nil_append] at e
  have fe : fin [] (.tup (pr.map altE)) (.lst (pr.map altE) :: G') = some (.tup (pr.map altE), []) := fin_app (st := []) (g := .lst (pr.map altE) :: G') (los_altE pr)
  have ep : pr.map rowB = pr.map fun r => D.tup [.str r.1, eB r.2] := rfl
  unfold F__law_alternatives B__law_alternatives R__law_alternatives_2
  unfold progB at *
  rw [ep] at e
  l_intsC
end
/-! ### the program's alternatives -/
section
variable {w : World}
def txK (l : List Str) : NestedKey := .tup (l.map .text)
def keyW (r : Way) : NestedKey := .tup [txK r.cs, txK r.ls]
def keyD' (r : Way) : D := .tup [txtD r.cs, txtD r.ls]
theorem nkeys_str : ∀ l : List Str, nkeys (l.map D.str) = some (l.map NestedKey.text)
  | [] => rfl
  | x :: l => by simp only [List.map_cons, nkeys, nkey, nkeys_str l]
theorem nkey_way (r : Way) : nkey (.tup [txtD r.cs, txtD r.ls]) = some (keyW r) := by
  unfold txtD keyW txK
  simp only [nkey, nkeys, nkeys_str, Option.map_some]
theorem depth_txt : ∀ l : List Str, NestedKey.depthAll (l.map NestedKey.text) = 0
  | [] => by simp [NestedKey.depthAll]
  | x :: l => by simp [NestedKey.depthAll, NestedKey.depth, depth_txt l]
theorem depth_way (r : Way) : (keyW r).depth ≤ 8 := by
  unfold keyW txK
  simp only [NestedKey.depth, NestedKey.depthAll, depth_txt]
  decide
theorem text_inj : ∀ a b : List Str, a.map NestedKey.text = b.map NestedKey.text → a = b
  | [], [], _ => rfl
  | [], y :: b, h => by simp at h
  | x :: a, [], h => by simp at h
  | x :: a, y :: b, h => by
    simp only [List.map_cons, List.cons.injEq, NestedKey.text.injEq] at h
    rw [h.1, text_inj a b h.2]
theorem keyW_same (r v : Way) : keyW r = keyW v ↔ sameW r v = true := by
  simp only [keyW, txK, NestedKey.tup.injEq, List.cons.injEq, and_true, sameW, Bool.and_eq_true, decide_eq_true_eq]
  constructor
  · rintro ⟨h1, h2⟩
    exact ⟨text_inj _ _ h1, text_inj _ _ h2⟩
  · rintro ⟨h1, h2⟩
    exact ⟨by rw [h1], by rw [h2]⟩
/-- the dict of the alternatives -/
def dicW (R : List Way) : List (D × D) := R.map fun r => (.tup [txtD r.cs, txtD r.ls], eF r.c)
def lookW (R : List Way) (v : Way) : Option (Int × Int) := (R.find? fun r => sameW r v).map (·.c)
theorem lk_dicW (R : List Way) (v : Way) : lkN (dicW R) (keyW v) = (lookW R v).map eF := by
  induction R with
  | nil => rfl
  | cons r R ih =>
    show lkN ((_, _) :: dicW R) _ = _
    unfold lkN
    rw [nkey_way]
    by_cases h : sameW r v = true
    · rw [if_pos (by rw [(keyW_same r v).mpr h])]
      simp [lookW, List.find?_cons, h]
    · have h' : ¬ (some (keyW r) = some (keyW v)) := fun z => h ((keyW_same r v).mp (Option.some.inj z))
      rw [if_neg h', ih]
      simp [lookW, List.find?_cons, h]
/-- no two alike -/
def Uq (R : List Way) : Prop := R.Pairwise fun r v => sameW r v = false
theorem rep_none {v : Way} {d : D} : ∀ R : List Way, (∀ r ∈ R, sameW r v = false) → repN (keyW v) d (dicW R) = dicW R
  | [], _ => rfl
  | r :: R, h => by
    show (_, if _ then _ else _) :: repN _ _ (dicW R) = _
    have h0 : ¬ nkey (.tup [txtD r.cs, txtD r.ls]) = some (keyW v) := by
      rw [nkey_way]
      intro z
      have := (keyW_same r v).mp (Option.some.inj z)
      rw [h r (List.mem_cons_self ..)] at this
      cases this
    rw [if_neg h0, rep_none R fun q hq => h q (List.mem_cons_of_mem _ hq)]
    rfl
theorem same_trans {r v u : Way} (h : sameW r v = true) : sameW r u = sameW v u := by
  simp only [sameW, Bool.and_eq_true, decide_eq_true_eq] at h
  simp only [sameW, h.1, h.2]
theorem same_comm (r v : Way) : sameW r v = sameW v r := by
  unfold sameW
  congr 1 <;> exact decide_eq_decide.mpr eq_comm
theorem look_none {R : List Way} {v : Way} (h : lookW R v = none) : ∀ r ∈ R, sameW r v = false := by
  unfold lookW at h
  rw [Option.map_eq_none_iff, List.find?_eq_none] at h
  intro r hr
  simpa using h r hr
/-- storing under a way's key: what addW does -/
theorem put_dicW {v : Way} {c : Int × Int} : ∀ R : List Way, Uq R → lookW R v = some c → repN (keyW v) (eF (fplus c v.c)) (dicW R) = dicW (addW R v)
  | [], _, h => by cases h
  | r :: R, hu, h => by
    have hu := List.pairwise_cons.mp hu
    show (_, if _ then _ else _) :: repN _ _ (dicW R) = _
    unfold addW
    by_cases hs : sameW r v = true
    · have hc : r.c = c := by
        unfold lookW at h
        rw [List.find?_cons_of_pos (by simpa using hs)] at h
        simpa using h
      have e : r.cs = v.cs ∧ r.ls = v.ls := by simpa [sameW] using hs
      have hn : ∀ q ∈ R, sameW q v = false := fun q hq => by
        have := hu.1 q hq
        rw [same_trans hs, same_comm] at this
        exact this
      rw [if_pos hs, rep_none R hn, if_pos (by rw [nkey_way, (keyW_same r v).mpr hs]), ← hc, e.1, e.2]
      rfl
    · have hs' : sameW r v = false := by simpa using hs
      have h' : ¬ nkey (.tup [txtD r.cs, txtD r.ls]) = some (keyW v) := by
        rw [nkey_way]
        exact fun z => hs ((keyW_same r v).mp (Option.some.inj z))
      have hl : lookW R v = some c := by
        unfold lookW at h ⊢
        rw [List.find?_cons_of_neg (by simpa using hs)] at h
        exact h
      rw [if_neg h', hs', put_dicW R hu.2 hl]
      rfl
theorem addW_uq {v : Way} : ∀ R : List Way, Uq R → Uq (addW R v)
  | [], _ => List.pairwise_cons.mpr ⟨fun _ h => (List.not_mem_nil h).elim, List.Pairwise.nil⟩
  | r :: R, hu => by
    have hu := List.pairwise_cons.mp hu
    unfold addW
    by_cases hs : sameW r v = true
    · rw [if_pos hs]
      have e : r.cs = v.cs ∧ r.ls = v.ls := by simpa [sameW] using hs
      refine List.pairwise_cons.mpr ⟨fun q hq => ?_, hu.2⟩
      have := hu.1 q hq
      rw [same_trans hs] at this
      exact this
    · have hs' : sameW r v = false := by simpa using hs
      rw [hs', if_neg (by decide)]
      refine List.pairwise_cons.mpr ⟨fun q hq => ?_, addW_uq R hu.2⟩
      -- q is of R, or is made of v
      have : ∀ R : List Way, (∀ p ∈ R, sameW r p = false) → ∀ q ∈ addW R v, sameW r q = false := by
        intro R
        induction R with
        | nil =>
          intro _ q hq
          simp only [addW, List.mem_cons, List.not_mem_nil, or_false] at hq
          subst hq; exact hs'
        | cons p R ih =>
          intro h q hq
          unfold addW at hq
          split at hq
          · rcases List.mem_cons.mp hq with rfl | hq
            · exact hs'
            · exact h q (List.mem_cons_of_mem _ hq)
          · rcases List.mem_cons.mp hq with rfl | hq
            · exact h q (List.mem_cons_self ..)
            · exact ih (fun p hp => h p (List.mem_cons_of_mem _ hp)) q hq
      exact this R hu.1 q hq
theorem frac_id {n d : Int} (hg : Int.gcd n d = 1) : frac n d = (n, d) := by
  unfold frac
  rw [hg]
  simp
theorem fplus_zero {p : Int × Int} (h : Int.gcd p.1 p.2 = 1) : fplus (0, 1) p = p := by
  unfold fplus
  simp only [Int.zero_mul, Int.zero_add, Int.mul_one, Int.one_mul]
  rw [frac_id h]
/-- one way put into the dict -/
theorem dic_turn {R : List Way} {v : Way} {a0 : Option D} (hu : Uq R) (hl : R.length < 900000) (hf : ∀ r ∈ R, HF r.c) (hv : Ch (PM 10) 1 v.c) :
    L_alternatives_of_1 w [a0, some (.loc 0), some (eF v.c), some (txtD v.cs), some (txtD v.ls), none] [.dit w (dicW R)] = some (.nx [a0, some (.loc 0), some (eF v.c), some (txtD v.cs), some (txtD v.ls), none], [.dit w (dicW (addW R v))]) := by
  have dd : ditA w (.loc 0) (.tup [txtD v.cs, txtD v.ls]) [.dit w (dicW R)] = some (0, dicW R, keyW v) := ditA_of rfl (nkey_way v) (depth_way v)
  have lk := lk_dicW R v
  have hvf := ch_hf (by decide) (by decide) (by decide) hv
  have ln : (dicW R).length < 16777216 := by unfold dicW; rw [List.length_map]; omega
  have ks := fun z : D => kSetN_of (W := w) (ks := dicW R) (q := keyW v) (n := 0) (y := .tup [txtD v.cs, txtD v.ls]) (z := z) (st := [.dit w (dicW R)]) ln
  cases hk : lookW R v with
  | none =>
    have nn := look_none hk
    rw [hk, Option.map_none] at lk
    have z1 : HF (0, 1) := ⟨by decide, by decide +kernel, by decide +kernel⟩
    have pl := fun st => plus_p st z1 hvf
    rw [fplus_zero hv.cop] at pl
    have e : putN (dicW R) (.tup [txtD v.cs, txtD v.ls]) (keyW v) (eF v.c) = dicW (addW R v) := by
      unfold putN
      rw [lk, addW_none R v nn]
      simp [dicW]
    rw [← e]
    clear e nn hk hf hu hvf z1 hv ln
    unfold L_alternatives_of_1 c_ZERO
    generalize hE : eF v.c = E at *
    have pl : ∀ st, pureF F_plus [.tup [.int 0, .int 1], E] st = some (E, st) := pl
    l_intsC
  | some c =>
    rw [hk, Option.map_some] at lk
    have hc : HF c := by
      unfold lookW at hk
      obtain ⟨r, h1, h2⟩ := Option.map_eq_some_iff.mp hk
      rw [← h2]
      exact hf r (List.mem_of_find?_eq_some h1)
    have pl := fun st => plus_p st hc hvf
    have e : putN (dicW R) (.tup [txtD v.cs, txtD v.ls]) (keyW v) (eF (fplus c v.c)) = dicW (addW R v) := by
      unfold putN
      rw [lk]
      simp only [Option.isSome_some, if_true]
      exact put_dicW R hu hk
    rw [← e]
    clear e hk hf hu hvf hc hv ln
    unfold L_alternatives_of_1
    l_intsC
end
end K31
end
section
set_option Elab.async false
set_option autoImplicit false
set_option linter.all false
set_option maxRecDepth 100000
set_option maxHeartbeats 2000000
namespace K31
open PySem L2 Mn
local macro_rules | `(tactic| l_ints) => `(tactic| simp only [bnd_some', ret1_some', sSeq_eq, kThen_nx, kThen_rt, kThen_bk, kThen_ct, sNil_eq, sAsg_eq, kAsg_eq, sDrop_eq, kDrop_eq, sRet_eq, kRet_eq, sRetN_eq, sBreak_eq, sCont_eq, sIf_eq, kIf_true, kIf_false, sTgt_eq, kTgt1_eq, kTgt2_eq, sPar_eq, kPar2_eq, sPar3_eq, kPar3_eq, sFor_eq, kFor_eq, sAug_eq, kAug_eq, kAug1_eq, mV_eq, kGot_eq, mC_eq, mOp_eq, kOp1_eq, kOp2_eq, mTB_eq, kB_eq, mAnd_eq, kAnd_true, kAnd_false, mOr_eq, kOr_true, kOr_false, mNot_eq, kNot_eq, mIte_eq, kIte_true, kIte_false, mAndV_eq, kAndV_true, kAndV_false, mOrV_eq, kOrV_true, kOrV_false, mNotV_eq, kNotV_eq, mNil_eq, mCons_eq, kCons1_eq, kCons2_eq, mTup_eq, kTup_eq, mLst_eq, kLst_eq, mFrz_eq, kFrz_eq, mMut_eq, kMut_eq, mCall_eq, mCB_eq, kCB_eq, mCBL_eq, kCBL_eq, mTr_eq, kTr_eq, mNeg_eq, kNeg_eq, mChain_eq, kChn1_eq, kChn2_eq, kChn_true, kChn_false, gN_eq, gsN_eq, gsC_eq, kGs_eq, gT_eq, gTp_eq, gSet_eq, kSet1_eq, kSet2_eq, kSetE_eq, setO_eq, setL_nat, setL_lit, setL_str, mMt_eq, kMt1_eq, kMt1'_eq, kMt2_eq, kMt2'_eq, kMt3_eq, fApp_eq, fPop_eq, kPop_eq, getLast_snoc, dropLast_snoc, fExt_eq, kExt_eq, oAdd_int, oAdd_str, oAdd_tup, oAdd_lst, oAdd_loc, kCat_eq, lstD_lst, lstD_loc, isLst_eq, seqD_tup, seqD_lst, seqD_rol, seqD_loc, dicD_dic, dicD_loc, isDic_eq, oSub_int, oMul_int, oDiv_int, oMod_int, oI_plus, oI_minus, oLt_int, oLe_int, oGt_int, oGe_int, oEq_int, oEq_str, oEq_bl, oNe_int, oNe_str, oNe_bl, oIs_non, oIsNot_non, isN_non, isN_int, isN_bl, isN_str, isN_tup, isN_lst, isN_loc, atI_lit, atI_natc, atI_neg1, ixO_tup, ixO_lst, ixO_dics, ixO_dici, ixO_locs, ixO_loci, ixL_lst, ixL_dics, ixL_dici, cLen_tup, cLen_lst, cLen_dic, cLen_loc, lenL_lst, lenL_dic, cInt_int, cInt_bl, cAbs_int, cTup_tup, cTup_lst, cTup_loc, tupL_eq, cList_eq, cBls_lst, blsA_eq, fAll_eq, fAny_eq, truD_lst, truD_tup, truD_bl, truD_int, truD_non, truD_loc, truL_lst, truL_dic, itD_tup, itD_lst, miSeq_eq, kIt_eq, miR1_eq, kR1_eq, miR2_eq, kR2_eq, mSl_eq, kSl1_eq, kSl2_eq, kSl3_eq, mNoP_eq, mPart_eq, kPart_eq, slD_tup, slD_lst, slD_rol, slD_loc, slA_eq, mIsi_eq, kIsi_eq, tyD_non, tyD_bl, tyD_int, tyD_str, tyD_tup, tyD_lst, isi_NoneType_tuple, isi_NoneType_list, isi_NoneType_int, isi_NoneType_str, isi_NoneType_bool, isi_NoneType_int_str, isi_bool_tuple, isi_bool_list, isi_bool_int, isi_bool_str, isi_bool_bool, isi_bool_int_str, isi_int_tuple, isi_int_list, isi_int_int, isi_int_str, isi_int_bool, isi_int_int_str, isi_str_tuple, isi_str_list, isi_str_int, isi_str_str, isi_str_bool, isi_str_int_str, isi_tuple_tuple, isi_tuple_list, isi_tuple_int, isi_tuple_str, isi_tuple_bool, isi_tuple_int_str, isi_list_tuple, isi_list_list, isi_list_int, isi_list_str, isi_list_bool, isi_list_int_str, mDicF_eq, kDicF_eq, mDicM_eq, kDicM_eq, dicA_eq, dicB_eq, mDic0_eq, mGet1_eq, kGet1_eq, kGet1a_eq, mGet2_eq, kGet2_eq, kGet2a_eq, kGet2b_eq, kGet3_str, kGet3_int, kForB_eq, kForS_nx, kForS_ct, kForS_bk, kForS_rt, kWh_true, kWh_false, kWhS_nx, kWhS_ct, kWhS_bk, kWhS_rt, mLc_eq, kLc_eq, kLc1_eq, kLc2_true, kLc2_false, kLc3_eq, kLc4_eq, mYes_eq, wipeE_nil, wipeE_cons, mFun_0, mFun_1, mFun_2, mFun_3, mFun_4, mFun_5, mFun_6, mFun_7, mFun_8, mFunL_0, mFunL_1, mFunL_2, mFunL_3, mFunL_4, mFunL_5, mFunL_6, mFunL_7, mFunL_8, endW_rt, endW_nx, mRev_eq, kRev_eq, miTxt_eq, kTxt_eq, oIsB_bl, oIsNotB_bl, oIn_eq, oNotIn_eq, kIn_eq, kNIn_eq, inO_sign, inA_eq, inO_tup, inO_lst, inO_loc, inL_lst, inL_dics, inL_dici, inO_dics, inO_dici, flatD_non, flatD_bl, flatD_int, flatD_str, ixO_dkls, ixO_dkli, inO_dkls, inO_dkli, dicD_dkl, mDitN_eq, ixDN_eq, kIxN_eq, setN_eq, gSetN_eq, kSetN1_eq, kSetN2_eq, kSetN3_eq, mGet2N_eq, kGetN1_eq, kGetN2_eq, kGetN3_eq, kGetN4_eq, miKeysN_eq, kKeysN_eq, miKeysL_eq, kKeysL_eq, sForP_eq, kForP_eq, kForP2_eq, keepM_eq, mLc2_eq, kLd_eq, kLd1_eq, kLd2_true, kLd2_false, kLd2b_eq, kLd3_eq, kLd4_eq, Nat.reduceSub, Nat.reduceAdd, Nat.reduceLeDiff, Nat.reduceLT, Nat.reduceEqDiff, Int.reduceLT, Int.reduceLE, Int.reduceAdd, Int.reduceSub, Int.reduceNeg, Int.reduceMul, Int.reduceToNat, Int.reduceBEq, fits_lit, List.getElem?_cons_zero, List.getElem?_cons_succ, List.getElem?_nil, List.set_cons_zero, List.set_cons_succ, List.set_nil, List.length_cons, List.length_nil, List.length_set, List.length_map, List.length_append, List.set_set, List.replicate_succ, List.replicate_zero, List.isEmpty_nil, List.isEmpty_cons, List.nil_append, List.cons_append, List.append_assoc, Bool.not_true, Bool.not_false, decide_true, decide_false, if_true, if_false, Bool.false_eq_true, Option.getD_none, Option.getD_some, Option.isSome_none, Option.isSome_some, st_app, st_app0, st_set, st_set0, List.getLast?_nil, getLast_snoc, dropLast_snoc])
local macro_rules | `(tactic| l_intsC) => `(tactic| simp only [bnd_some', ret1_some', sSeq_eq, kThen_nx, kThen_rt, kThen_bk, kThen_ct, sNil_eq, sAsg_eq, kAsg_eq, sDrop_eq, kDrop_eq, sRet_eq, kRet_eq, sRetN_eq, sBreak_eq, sCont_eq, sIf_eq, kIf_true, kIf_false, sTgt_eq, kTgt1_eq, kTgt2_eq, sPar_eq, kPar2_eq, sPar3_eq, kPar3_eq, sFor_eq, kFor_eq, sAug_eq, kAug_eq, kAug1_eq, mV_eq, kGot_eq, mC_eq, mOp_eq, kOp1_eq, kOp2_eq, mTB_eq, kB_eq, mAnd_eq, kAnd_true, kAnd_false, mOr_eq, kOr_true, kOr_false, mNot_eq, kNot_eq, mIte_eq, kIte_true, kIte_false, mAndV_eq, kAndV_true, kAndV_false, mOrV_eq, kOrV_true, kOrV_false, mNotV_eq, kNotV_eq, mNil_eq, mCons_eq, kCons1_eq, kCons2_eq, mTup_eq, kTup_eq, mLst_eq, kLst_eq, mFrz_eq, kFrz_eq, mMut_eq, kMut_eq, mCall_eq, mCB_eq, kCB_eq, mCBL_eq, kCBL_eq, mTr_eq, kTr_eq, mNeg_eq, kNeg_eq, mChain_eq, kChn1_eq, kChn2_eq, kChn_true, kChn_false, gN_eq, gsN_eq, gsC_eq, kGs_eq, gT_eq, gTp_eq, gSet_eq, kSet1_eq, kSet2_eq, kSetE_eq, setO_eq, setL_nat, setL_lit, setL_str, mMt_eq, kMt1_eq, kMt1'_eq, kMt2_eq, kMt2'_eq, kMt3_eq, fApp_eq, fPop_eq, kPop_eq, getLast_snoc, dropLast_snoc, fExt_eq, kExt_eq, oAdd_int, oAdd_str, oAdd_tup, oAdd_lst, oAdd_loc, kCat_eq, lstD_lst, lstD_loc, isLst_eq, seqD_tup, seqD_lst, seqD_rol, seqD_loc, dicD_dic, dicD_loc, isDic_eq, oSub_int, oMul_int, oDiv_int, oMod_int, oI_plus, oI_minus, oLt_int, oLe_int, oGt_int, oGe_int, oEq_int, oEq_str, oEq_bl, oNe_int, oNe_str, oNe_bl, oIs_non, oIsNot_non, isN_non, isN_int, isN_bl, isN_str, isN_tup, isN_lst, isN_loc, atI_lit, atI_natc, atI_neg1, ixO_tup, ixO_lst, ixO_dics, ixO_dici, ixO_locs, ixO_loci, ixL_lst, ixL_dics, ixL_dici, cLen_tup, cLen_lst, cLen_dic, cLen_loc, lenL_lst, lenL_dic, cInt_int, cInt_bl, cAbs_int, cTup_tup, cTup_lst, cTup_loc, tupL_eq, cList_eq, cBls_lst, blsA_eq, fAll_eq, fAny_eq, truD_lst, truD_tup, truD_bl, truD_int, truD_non, truD_loc, truL_lst, truL_dic, itD_tup, itD_lst, miSeq_eq, kIt_eq, miR1_eq, kR1_eq, miR2_eq, kR2_eq, mSl_eq, kSl1_eq, kSl2_eq, kSl3_eq, mNoP_eq, mPart_eq, kPart_eq, slD_tup, slD_lst, slD_rol, slD_loc, slA_eq, mIsi_eq, kIsi_eq, tyD_non, tyD_bl, tyD_int, tyD_str, tyD_tup, tyD_lst, isi_NoneType_tuple, isi_NoneType_list, isi_NoneType_int, isi_NoneType_str, isi_NoneType_bool, isi_NoneType_int_str, isi_bool_tuple, isi_bool_list, isi_bool_int, isi_bool_str, isi_bool_bool, isi_bool_int_str, isi_int_tuple, isi_int_list, isi_int_int, isi_int_str, isi_int_bool, isi_int_int_str, isi_str_tuple, isi_str_list, isi_str_int, isi_str_str, isi_str_bool, isi_str_int_str, isi_tuple_tuple, isi_tuple_list, isi_tuple_int, isi_tuple_str, isi_tuple_bool, isi_tuple_int_str, isi_list_tuple, isi_list_list, isi_list_int, isi_list_str, isi_list_bool, isi_list_int_str, mDicF_eq, kDicF_eq, mDicM_eq, kDicM_eq, dicA_eq, dicB_eq, mDic0_eq, mGet1_eq, kGet1_eq, kGet1a_eq, mGet2_eq, kGet2_eq, kGet2a_eq, kGet2b_eq, kGet3_str, kGet3_int, kForB_eq, kForS_nx, kForS_ct, kForS_bk, kForS_rt, kWh_true, kWh_false, kWhS_nx, kWhS_ct, kWhS_bk, kWhS_rt, mLc_eq, kLc_eq, kLc1_eq, kLc2_true, kLc2_false, kLc3_eq, kLc4_eq, mYes_eq, wipeE_nil, wipeE_cons, mFun_0, mFun_1, mFun_2, mFun_3, mFun_4, mFun_5, mFun_6, mFun_7, mFun_8, mFunL_0, mFunL_1, mFunL_2, mFunL_3, mFunL_4, mFunL_5, mFunL_6, mFunL_7, mFunL_8, endW_rt, endW_nx, mRev_eq, kRev_eq, miTxt_eq, kTxt_eq, oIsB_bl, oIsNotB_bl, oIn_eq, oNotIn_eq, kIn_eq, kNIn_eq, inO_sign, inA_eq, inO_tup, inO_lst, inO_loc, inL_lst, inL_dics, inL_dici, inO_dics, inO_dici, flatD_non, flatD_bl, flatD_int, flatD_str, ixO_dkls, ixO_dkli, inO_dkls, inO_dkli, dicD_dkl, mDitN_eq, ixDN_eq, kIxN_eq, setN_eq, gSetN_eq, kSetN1_eq, kSetN2_eq, kSetN3_eq, mGet2N_eq, kGetN1_eq, kGetN2_eq, kGetN3_eq, kGetN4_eq, miKeysN_eq, kKeysN_eq, miKeysL_eq, kKeysL_eq, sForP_eq, kForP_eq, kForP2_eq, keepM_eq, mLc2_eq, kLd_eq, kLd1_eq, kLd2_true, kLd2_false, kLd2b_eq, kLd3_eq, kLd4_eq, Nat.reduceSub, Nat.reduceAdd, Nat.reduceLeDiff, Nat.reduceLT, Nat.reduceEqDiff, Int.reduceLT, Int.reduceLE, Int.reduceAdd, Int.reduceSub, Int.reduceNeg, Int.reduceMul, Int.reduceToNat, Int.reduceBEq, fits_lit, List.getElem?_cons_zero, List.getElem?_cons_succ, List.getElem?_nil, List.set_cons_zero, List.set_cons_succ, List.set_nil, List.length_cons, List.length_nil, List.length_set, List.length_map, List.length_append, List.set_set, List.replicate_succ, List.replicate_zero, List.isEmpty_nil, List.isEmpty_cons, List.nil_append, List.cons_append, List.append_assoc, Bool.not_true, Bool.not_false, decide_true, decide_false, if_true, if_false, Bool.false_eq_true, Option.getD_none, Option.getD_some, Option.isSome_none, Option.isSome_some, st_app, st_app0, st_set, st_set0, List.getLast?_nil, getLast_snoc, dropLast_snoc, *])
/-- a slot that holds no thing of the store -/
def nl : Option D → Bool
  | none => true
  | some (.loc _) => false
  | some d => lo 0 d
theorem lendV_nl {n : Nat} {y : D} : ∀ {k : Option D}, nl k = true → lendV n y k = k
  | none, _ => rfl
  | some d, h => by cases d <;> first | rfl | cases h
theorem lendOk_nl {r : MEnv} : ∀ {k : Option D}, nl k = true → lendOk 0 (k :: r) = lendOk 0 r
  | none, _ => rfl
  | some d, h => by
    cases d <;> first
      | (show (lo 0 _ && lendOk 0 r) = _
         have h : lo 0 _ = true := h
         rw [h, Bool.true_and])
      | cases h
theorem nl_some {d : D} (h : ∀ n, d ≠ .loc n) (l : lo 0 d = true) : nl (some d) = true := by
  cases d <;> first | exact l | exact absurd rfl (h _)
section
variable {w : World}
theorem dic_turns {a0 : Option D} : ∀ (W R : List Way) (c : Int) (a2 a3 a4 : Option D), Uq R → R.length + W.length < 900000 → 1 ≤ c → c + W.length ≤ 100000 → (∀ r ∈ R, Ch (PM 10) c r.c) → (∀ v ∈ W, Ch (PM 10) 1 v.c) → nl a2 = true → nl a3 = true → nl a4 = true →
    ∃ k2 k3 k4, (nl k2 = true ∧ nl k3 = true ∧ nl k4 = true) ∧ ForN (gT 3 (gsC (gN 2) (gsC (gN 3) (gsC (gN 4) (gsN))))) (L_alternatives_of_1 w) (W.map eW) [a0, some (.loc 0), a2, a3, a4, none] [.dit w (dicW R)] [a0, some (.loc 0), k2, k3, k4, none] [.dit w (dicW (W.foldl addW R))]
  | [], R, c, a2, a3, a4, _, _, _, _, _, _, n2, n3, n4 => ⟨a2, a3, a4, ⟨n2, n3, n4⟩, .nil⟩
  | v :: W, R, c, a2, a3, a4, hu, hl, h1, h2, c1, c2, n2, n3, n4 => by
    simp only [List.length_cons] at hl h2
    have v1 := c2 v (List.mem_cons_self ..)
    have al := addW_len R v
    obtain ⟨k2, k3, k4, nn, ih⟩ := dic_turns (a0 := a0) W (addW R v) (c + 1) (some (eF v.c)) (some (txtD v.cs)) (some (txtD v.ls)) (addW_uq R hu) (by omega) (by omega) (by omega) (addW_ch v1 (by omega) (by decide) R c1) (fun u hq => c2 u (List.mem_cons_of_mem _ hq)) rfl (lo_txt _) (lo_txt _)
    refine ⟨k2, k3, k4, nn, ?_⟩
    rw [List.map_cons, List.foldl_cons]
    refine ForN.nx (e1 := [a0, some (.loc 0), some (eF v.c), some (txtD v.cs), some (txtD v.ls), none]) (s1 := [.dit w (dicW R)]) ?_ (dic_turn hu (by omega) (fun r hr => ch_hf (by decide) (by omega) h1 (c1 r hr)) v1) ih
    unfold eW
    l_ints
theorem foldl_uq : ∀ (W R : List Way), Uq R → Uq (W.foldl addW R)
  | [], R, h => h
  | v :: W, R, h => foldl_uq W _ (addW_uq R h)
theorem foldl_len : ∀ (W R : List Way), (W.foldl addW R).length ≤ R.length + W.length
  | [], R => by simp
  | v :: W, R => by
    have := foldl_len W (addW R v)
    have := (addW_len R v).1
    simp only [List.foldl_cons, List.length_cons]
    omega
theorem alt_len {nm : List Str} {b : Bod} (h : OkB nm 5 b) : (altB b).length ≤ 364 := by
  have h1 := foldl_len (waysB b (1, 1) [] []) []
  have h2 := ways_len h (1, 1) [] []
  simp only [List.length_nil] at h1
  unfold altB rowsOf
  omega
/-- what stands under a key of the dict -/
theorem lk_at : ∀ R : List Way, Uq R → ∀ r ∈ R, lkN (dicW R) (keyW r) = some (eF r.c) := fun R hu r hr => by
  rw [lk_dicW]
  have : lookW R r = some r.c := by
    induction R with
    | nil => cases hr
    | cons q R ih =>
      have hu := List.pairwise_cons.mp hu
      unfold lookW
      rcases List.mem_cons.mp hr with rfl | hr
      · rw [List.find?_cons_of_pos (by simp [sameW])]
        rfl
      · rw [List.find?_cons_of_neg (by rw [hu.1 r hr]; decide)]
        exact ih hu.2 hr
  rw [this]
  rfl
theorem alt_lc {R : List Way} (hu : Uq R) {a0 a2 a3 a4 : Option D} : ∀ Q : List Way, (∀ r ∈ Q, r ∈ R) → lcL (gN 5) mYes (E_alternatives_of_1 w) [a0, some (.dit w (dicW R)), a2, a3, a4, none] (Q.map keyD') [] = some (Q.map eW, [])
  | [], _ => rfl
  | r :: Q, h => by
    have ih := alt_lc (a0 := a0) (a2 := a2) (a3 := a3) (a4 := a4) hu Q fun q hq => h q (List.mem_cons_of_mem _ hq)
    have lk := lk_at R hu r (h r (List.mem_cons_self ..))
    have e : ixF w (.dit w (dicW R)) (.tup [txtD r.cs, txtD r.ls]) [] = some (eF r.c) := by
      rw [ixF_of (nkey_way r) (depth_way r)]
      exact lk
    have u : E_alternatives_of_1 w [a0, some (.dit w (dicW R)), a2, a3, a4, some (.tup [txtD r.cs, txtD r.ls])] [] = some (eW r, []) := by
      unfold E_alternatives_of_1 eW
      l_intsC
    rw [List.map_cons, List.map_cons, lcL_cons]
    unfold keyD' at *
    l_intsC
theorem pls_mapm {α : Type} {f : α → D} : ∀ l : List α, (∀ x ∈ l, pl (f x) = true) → pls (l.map f) = true
  | [], _ => rfl
  | x :: l, h => by
    show (pl (f x) && pls (l.map f)) = true
    rw [h x (List.mem_cons_self ..), pls_mapm l fun y hy => h y (List.mem_cons_of_mem _ hy)]
    rfl
theorem pls_eW (R : List Way) : pls (R.map eW) = true := pls_mapm R fun r _ => by
  simp [eW, eF, txtD, pl, pls, pls_mapm r.cs (f := D.str) (fun _ _ => rfl), pls_mapm r.ls (f := D.str) (fun _ _ => rfl)]
theorem lo_dicW {m : Nat} : ∀ R : List Way, lod m (dicW R) = true
  | [] => rfl
  | r :: R => by
    show (lo m _ && lo m _ && lod m (dicW R)) = true
    rw [lo_dicW R]
    have h1 := los_map (n := m) (f := D.str) (fun _ => rfl) r.cs
    have h2 := los_map (n := m) (f := D.str) (fun _ => rfl) r.ls
    simp [lo, los, txtD, eF, h1, h2]
theorem alts_of {nm : List Str} {b : Bod} (h : OkB nm 5 b) : F_alternatives_of w [eB b] [] = some (.tup ((altB b).map eW), []) := by
  have wl := ways_len h (1, 1) [] []
  have hch := ways_ch 5 b 0 (1, 1) [] [] h ch_one (by decide)
  have e1 : ∀ st, pureF F_ways [eB b] st = _ := fun st => pure_eq (ways_eq b (hf_ok 5 b 0 (1, 1) h ch_one (by decide)) (by have := ok_size h; omega)) (by simp only [los, lo_eB, Bool.and_true])
  obtain ⟨k2, k3, k4, ⟨n2, n3, n4⟩, e2⟩ := dic_turns (w := w) (a0 := some (eB b)) (waysB b (1, 1) [] []) [] 1 none none none List.Pairwise.nil (by simp; omega) (by decide) (by omega) (fun _ h => (List.not_mem_nil h).elim) hch rfl rfl rfl
  have e2 := e2.end
  have hu : Uq (altB b) := foldl_uq _ _ List.Pairwise.nil
  have e3 : (waysB b (1, 1) [] []).foldl addW [] = altB b := rfl
  rw [e3] at e2
  have al := alt_len h
  have ek : (dicW (altB b)).map (·.1) = (altB b).map keyD' := by
    unfold dicW
    rw [List.map_map]
    rfl
  have lc := alt_lc (w := w) (R := altB b) hu (a0 := some (eB b)) (a2 := k2) (a3 := k3) (a4 := k4) (altB b) fun _ h => h
  have kl : ((altB b).map keyD').length ≤ 16777216 := by rw [List.length_map]; omega
  -- what is reckoned while the dict is lent
  have inner : (mFrz (mLc [5] (miKeysN w (mV 1)) (gN 5) (mYes) (E_alternatives_of_1 w))) [some (eB b), some (.dit w (dicW (altB b))), k2, k3, k4, none] [] = some (.lst ((altB b).map eW), []) := by
    have kl2 : (altB b).length ≤ 16777216 := by omega
    clear hu e2 e3 al hch wl e1
    l_intsC
  have nb : nl (some (eB b)) = true := nl_some (fun n => by cases b <;> simp [eB]) (lo_eB b)
  have bo : ∀ st0 : Store, st0 = [] → mBorrow (mFrz (mLc [5] (miKeysN w (mV 1)) (gN 5) (mYes) (E_alternatives_of_1 w))) [some (eB b), some (.loc 0), k2, k3, k4, none] [.dit w (dicW (altB b))] = some (.lst ((altB b).map eW), [.dit w (dicW (altB b))]) := fun _ _ => by
    refine borrow_of (st0 := []) (st1 := []) (x := .dit w (dicW (altB b))) (y := .dit w (dicW (altB b))) rfl ?_ ?_ rfl ?_
    · show (true && lo 0 (.dit w (dicW (altB b))) && lendOk 0 _) = true
      rw [lendOk_nl nb]
      show (true && lo 0 (.dit w (dicW (altB b))) && (decide (0 ≤ 0) && lendOk 0 _)) = true
      rw [lendOk_nl n2, lendOk_nl n3, lendOk_nl n4]
      have := lo_dicW (m := 0) (altB b)
      simp [lo, this, lendOk]
    · have : [some (eB b), some (.loc 0), k2, k3, k4, none].map (lendV ([] : Store).length (.dit w (dicW (altB b)))) = [some (eB b), some (.dit w (dicW (altB b))), k2, k3, k4, none] := by
        simp only [List.map_cons, List.map_nil, lendV_nl nb, lendV_nl n2, lendV_nl n3, lendV_nl n4]
        rfl
      rw [this]
      exact inner
    · have := pls_eW (altB b)
      simp [pl, pls, this]
  have bo := bo [] rfl
  have fe : fin [] (.tup ((altB b).map eW)) [.dit w (dicW (altB b))] = some (.tup ((altB b).map eW), []) := fin_app (st := []) (g := [.dit w (dicW (altB b))]) (los_ways _)
  have d0 : dicW [] = [] := rfl
  rw [d0] at e2
  clear inner nb n2 n3 n4 lc ek al kl hu e3 hch wl
  unfold F_alternatives_of B_alternatives_of R_alternatives_of_1
  l_intsC
theorem alts_p {nm : List Str} {b : Bod} (h : OkB nm 5 b) (st : Store) : pureF (F_alternatives_of w) [eB b] st = some (.tup ((altB b).map eW), st) := pure_eq (alts_of h) (by simp only [los, lo_eB, Bool.and_true])
theorem alts_lc {nm : List Str} {a0 : Option D} {st : Store} : ∀ pr : List (Str × Bod), (∀ r ∈ pr, OkB nm 5 r.2) → lcL (gT 2 (gsC (gN 1) (gsC (gN 2) (gsN)))) mYes (E_alternatives_1 w) [a0, none, none] (pr.map rowB) st = some (pr.map altE, st)
  | [], _ => rfl
  | r :: pr, h => by
    have ih := alts_lc (a0 := a0) (st := st) pr fun q hq => h q (List.mem_cons_of_mem _ hq)
    have e := alts_p (w := w) (h r (List.mem_cons_self ..)) st
    have u : E_alternatives_1 w [a0, some (.str r.1), some (eB r.2)] st = some (altE r, st) := by
      unfold E_alternatives_1 altE
      l_intsC
    rw [List.map_cons, List.map_cons, lcL_cons]
    unfold rowB at *
    l_intsC
theorem alternatives_eq {pr : List (Str × Bod)} (ok : OkP pr) : F_alternatives w [progB pr] [] = some (.tup (pr.map altE), []) := by
  have e := alts_lc (w := w) (a0 := some (progB pr)) (st := []) pr ok.ok
  have ep : pr.map rowB = pr.map fun r => D.tup [.str r.1, eB r.2] := rfl
  have hl : pr.length ≤ 16777216 := by have := ok.le; omega
  have fe := fin_same (st := []) (d := .tup (pr.map altE)) (los_altE pr)
  rw [ep] at e
  unfold F_alternatives B_alternatives
  unfold progB at *
  l_intsC
theorem lo_progB {m : Nat} (pr : List (Str × Bod)) : lo m (progB pr) = true := los_mapm _ fun r _ => by simp [lo, los, lo_eB]
theorem alternatives_p {pr : List (Str × Bod)} (ok : OkP pr) (st : Store) : pureF (F_alternatives w) [progB pr] st = some (.tup (pr.map altE), st) := pure_eq (alternatives_eq ok) (by simp only [los, lo_progB, Bool.and_true])
theorem law_alts_p {pr : List (Str × Bod)} (ok : OkP pr) (st : Store) : pureF F__law_alternatives [progB pr] st = some (.tup (pr.map altE), st) := pure_eq (law_alts ok) (by simp only [los, lo_progB, Bool.and_true])
end
end K31
end
section
set_option Elab.async false
set_option autoImplicit false
set_option linter.all false
set_option maxRecDepth 100000
set_option maxHeartbeats 2000000
namespace K31
open PySem L2 Mn
/-! ### how many calls the alternatives of a body have -/
def wtW (w : Way) : Nat := 3 ^ (w.cs.length + w.ls.length)
def wtL (l : List Way) : Nat := (l.map wtW).sum
theorem wtL_app (a b : List Way) : wtL (a ++ b) = wtL a + wtL b := by simp [wtL]
section
variable {nm : List Str}
mutual
theorem ways_wt : ∀ (n : Nat) (b : Bod) (c : Int × Int) (cs ls : List Str), OkB nm n b → wtL (waysB b c cs ls) ≤ 3 ^ (cs.length + ls.length) * 3 ^ n
  | n, .en, c, cs, ls, _ => by
    simp only [waysB, wtL, wtW, List.map_cons, List.map_nil, List.sum_cons, List.sum_nil, Nat.add_zero]
    exact Nat.le_mul_of_pos_right _ (Nat.pow_pos (by decide))
  | n, .st, _, _, _, _ => by simp [waysB, wtL]
  | 0, .tell x b, _, _, _, h => by simp [OkB] at h
  | 0, .call x b, _, _, _, h => by simp [OkB] at h
  | 0, .draw r, _, _, _, h => by simp [OkB] at h
  | n + 1, .tell x b, c, cs, ls, h => by
    simp only [OkB, waysB] at h ⊢
    have := ways_wt n b c cs (ls ++ [x]) h.2
    rw [List.length_append, List.length_singleton, ← Nat.add_assoc, Nat.pow_succ, Nat.mul_assoc, Nat.mul_comm 3, ← Nat.pow_succ] at this
    exact this
  | n + 1, .call x b, c, cs, ls, h => by
    simp only [OkB, waysB] at h ⊢
    have := ways_wt n b c (cs ++ [x]) ls h.2
    rw [List.length_append, List.length_singleton, Nat.add_right_comm, Nat.pow_succ, Nat.mul_assoc, Nat.mul_comm 3, ← Nat.pow_succ] at this
    exact this
  | n + 1, .draw r, c, cs, ls, h => by
    simp only [OkB, waysB] at h ⊢
    have h1 := waysR_wt n r c cs ls h.2
    have h2 := cut_len h.1
    have h3 : r.fs.length * (3 ^ (cs.length + ls.length) * 3 ^ n) ≤ 3 * (3 ^ (cs.length + ls.length) * 3 ^ n) := Nat.mul_le_mul_right _ h2
    have h4 : 3 * (3 ^ (cs.length + ls.length) * 3 ^ n) = 3 ^ (cs.length + ls.length) * 3 ^ (n + 1) := by
      rw [Nat.pow_succ, Nat.mul_comm 3, Nat.mul_assoc]
    omega
theorem waysR_wt : ∀ (n : Nat) (r : Rws) (c : Int × Int) (cs ls : List Str), OkR nm n r → wtL (waysR r c cs ls) ≤ r.fs.length * (3 ^ (cs.length + ls.length) * 3 ^ n)
  | n, .nil, _, _, _, _ => by simp [waysR, wtL]
  | n, .cons f b r, c, cs, ls, h => by
    simp only [OkR] at h
    simp only [waysR, wtL_app, Rws.fs, List.length_cons, Nat.succ_mul]
    have := ways_wt n b (ftimes c f) cs ls h.1
    have := waysR_wt n r c cs ls h.2
    omega
end
theorem addW_wt (w : Way) : ∀ R : List Way, wtL (addW R w) ≤ wtL R + wtW w
  | [] => by simp [addW, wtL]
  | r :: R => by
    unfold addW
    split
    · rename_i h
      simp only [sameW, Bool.and_eq_true, decide_eq_true_eq] at h
      simp only [wtL, List.map_cons, List.sum_cons, wtW, h.1, h.2]
      generalize 3 ^ (w.cs.length + w.ls.length) = z
      omega
    · have := addW_wt w R
      simp only [wtL, List.map_cons, List.sum_cons] at this ⊢
      omega
theorem fold_wt : ∀ W R : List Way, wtL (W.foldl addW R) ≤ wtL R + wtL W
  | [], R => by simp [wtL]
  | w :: W, R => by
    have := fold_wt W (addW R w)
    have := addW_wt w R
    simp only [List.foldl_cons, wtL, List.map_cons, List.sum_cons] at *
    omega
theorem alt_wt {b : Bod} (h : OkB nm 5 b) : wtL (altB b) ≤ 243 := by
  have h1 := fold_wt (waysB b (1, 1) [] []) []
  have h2 := ways_wt 5 b (1, 1) [] [] h
  simp only [List.length_nil, Nat.add_zero, Nat.pow_zero, Nat.one_mul] at h2
  have h3 : wtL [] = 0 := rfl
  unfold altB rowsOf
  have : (3 : Nat) ^ 5 = 243 := by decide
  omega
theorem addW_in {w : Way} (hw : InW nm w) : ∀ R : List Way, (∀ r ∈ R, InW nm r) → ∀ r ∈ addW R w, InW nm r
  | [], _, r, hr => by
    simp only [addW, List.mem_cons, List.not_mem_nil, or_false] at hr
    subst hr
    exact hw
  | q :: R, h, r, hr => by
    unfold addW at hr
    split at hr
    · rcases List.mem_cons.mp hr with rfl | hr
      · exact hw
      · exact h r (List.mem_cons_of_mem _ hr)
    · rcases List.mem_cons.mp hr with rfl | hr
      · exact h r (List.mem_cons_self ..)
      · exact addW_in hw R (fun p hp => h p (List.mem_cons_of_mem _ hp)) r hr
theorem fold_in : ∀ W R : List Way, (∀ r ∈ R, InW nm r) → (∀ w ∈ W, InW nm w) → ∀ r ∈ W.foldl addW R, InW nm r
  | [], R, h, _ => h
  | w :: W, R, h, k => fold_in W (addW R w) (addW_in (k w (List.mem_cons_self ..)) R h) fun v hv => k v (List.mem_cons_of_mem _ hv)
theorem alt_in {b : Bod} (h : OkB nm 5 b) : ∀ r ∈ altB b, InW nm r := fold_in _ [] (fun _ h => (List.not_mem_nil h).elim) (ways_in 5 b (1, 1) [] [] h (fun _ h => (List.not_mem_nil h).elim) fun _ h => (List.not_mem_nil h).elim)
/-- calls and letters of a way -/
abbrev CL := List Str × List Str
def clW (w : Way) : CL := (w.cs, w.ls)
theorem uq_nodup : ∀ R : List Way, Uq R → (R.map clW).Nodup
  | [], _ => List.nodup_nil
  | r :: R, h => by
    have h := List.pairwise_cons.mp h
    rw [List.map_cons, List.nodup_cons]
    refine ⟨fun hm => ?_, uq_nodup R h.2⟩
    obtain ⟨q, hq, e⟩ := List.mem_map.mp hm
    have := h.1 q hq
    simp only [clW, Prod.mk.injEq] at e
    simp [sameW, e.1, e.2] at this
theorem nodup_sum {α : Type} [DecidableEq α] (g : α → Nat) : ∀ R S : List α, R.Nodup → (∀ r ∈ R, g r ≠ 0 → r ∈ S) → (R.map g).sum ≤ (S.map g).sum
  | [], S, _, _ => by simp
  | r :: R, S, hn, h => by
    have hn := List.nodup_cons.mp hn
    rw [List.map_cons, List.sum_cons]
    by_cases h0 : g r = 0
    · rw [h0, Nat.zero_add]
      exact nodup_sum g R S hn.2 fun q hq => h q (List.mem_cons_of_mem _ hq)
    · have hr := h r (List.mem_cons_self ..) h0
      have ih := nodup_sum g R (S.erase r) hn.2 fun q hq h1 => by
        have hne : q ≠ r := fun z => hn.1 (z ▸ hq)
        exact (List.mem_erase_of_ne hne).mpr (h q (List.mem_cons_of_mem _ hq) h1)
      have p := ((List.perm_cons_erase hr).map g).sum_nat
      rw [List.map_cons, List.sum_cons] at p
      omega
theorem sum_const {α : Type} (g : α → Nat) (k : Nat) : ∀ l : List α, (∀ x ∈ l, g x = k) → (l.map g).sum = l.length * k
  | [], _ => by simp
  | x :: l, h => by
    rw [List.map_cons, List.sum_cons, h x (List.mem_cons_self ..), sum_const g k l fun y hy => h y (List.mem_cons_of_mem _ hy), List.length_cons, Nat.succ_mul]
    omega
theorem sum_le {α : Type} (f g h : α → Nat) (hf : ∀ x, f x ≤ g x + h x) : ∀ l : List α, (l.map f).sum ≤ (l.map g).sum + (l.map h).sum
  | [] => by simp
  | x :: l => by
    have := hf x
    have := sum_le f g h hf l
    simp only [List.map_cons, List.sum_cons]
    omega
def e3 (p : CL) : Nat := 3 ^ (p.1.length + p.2.length)
def gwT (p : CL) : Nat := 9 * p.1.length - e3 p
def specT (nm : List Str) : List CL := nm.map (fun x => ([x], [])) ++ nm.flatMap fun x => nm.map fun y => ([x, y], [])
theorem pow9 : ∀ k : Nat, 9 * (k + 3) ≤ 3 ^ (k + 3)
  | 0 => by decide
  | k + 1 => by
    have := pow9 k
    have e : 3 ^ (k + 1 + 3) = 3 ^ (k + 3) * 3 := Nat.pow_succ ..
    omega
theorem pow27 : ∀ k : Nat, 27 * (k + 4) ≤ 2 * 3 ^ (k + 4)
  | 0 => by decide
  | k + 1 => by
    have := pow27 k
    have e : 3 ^ (k + 1 + 4) = 3 ^ (k + 4) * 3 := Nat.pow_succ ..
    omega
theorem e3_ge (a b : List Str) : 3 ^ a.length ≤ e3 (a, b) := Nat.pow_le_pow_right (by decide) (Nat.le_add_right ..)
theorem e3_ge1 (a : List Str) (y : Str) (b : List Str) : 3 ^ (a.length + 1) ≤ e3 (a, y :: b) := Nat.pow_le_pow_right (by decide) (by simp)
theorem e3_ge2 (a : List Str) (y z : Str) (b : List Str) : 3 ^ (a.length + 2) ≤ e3 (a, y :: z :: b) := Nat.pow_le_pow_right (by decide) (by simp)
theorem gwT_spec {p : CL} (h : ∀ x ∈ p.1, x ∈ nm) (hg : gwT p ≠ 0) : p ∈ specT nm := by
  obtain ⟨cs, ls⟩ := p
  have ge := e3_ge cs ls
  simp only [gwT] at hg
  match cs, ls, h, ge, hg with
  | [], ls, _, _, hg => simp at hg
  | [x], [], h, _, _ => exact List.mem_append.mpr (.inl (List.mem_map.mpr ⟨x, h x (by simp), rfl⟩))
  | [x], y :: ls, _, _, hg =>
    have := e3_ge1 [x] y ls
    simp at this hg
    omega
  | [x, y], [], h, _, _ => exact List.mem_append.mpr (.inr (List.mem_flatMap.mpr ⟨x, h x (by simp), List.mem_map.mpr ⟨y, h y (by simp), rfl⟩⟩))
  | [x, y], z :: ls, _, _, hg =>
    have := e3_ge1 [x, y] z ls
    simp at this hg
    omega
  | x :: y :: z :: cs, ls, _, ge, hg =>
    have := pow9 cs.length
    simp only [List.length_cons] at hg
    have ge : 3 ^ (cs.length + 3) ≤ e3 (x :: y :: z :: cs, ls) := ge
    omega
theorem flat_sum {α β : Type} (g : β → Nat) (f : α → List β) (k : Nat) : ∀ l : List α, (∀ x ∈ l, ((f x).map g).sum = k) → ((l.flatMap f).map g).sum = l.length * k
  | [], _ => by simp
  | x :: l, h => by
    rw [List.flatMap_cons, List.map_append, List.sum_append, h x (List.mem_cons_self ..), flat_sum g f k l fun y hy => h y (List.mem_cons_of_mem _ hy), List.length_cons, Nat.succ_mul]
    omega
theorem specT_sum (h : nm.length ≤ 4) : ((specT nm).map gwT).sum ≤ 168 := by
  unfold specT
  rw [List.map_append, List.sum_append, flat_sum gwT _ (nm.length * 9) nm fun x _ => by
    rw [List.map_map]
    exact sum_const _ 9 nm fun y _ => by simp [gwT, e3], List.map_map, sum_const _ 6 nm fun y _ => by simp [gwT, e3]]
  have : nm.length * (nm.length * 9) ≤ 4 * (4 * 9) := Nat.mul_le_mul h (Nat.mul_le_mul_right _ h)
  omega
def dirs (b : Bod) : List Str := (altB b).flatMap (·.cs)
theorem dirs_in {b : Bod} (h : OkB nm 5 b) : ∀ x ∈ dirs b, x ∈ nm := fun x hx => by
  obtain ⟨r, hr, h1⟩ := List.mem_flatMap.mp hx
  exact (alt_in h r hr).1 x h1
theorem map_cl (g : CL → Nat) (R : List Way) : (R.map fun w => g (clW w)).sum = ((R.map clW).map g).sum := by rw [List.map_map]; rfl
/-- no body has more than 45 calls -/
theorem dirs_len {b : Bod} (h : OkB nm 5 b) (hn : nm.length ≤ 4) : (dirs b).length ≤ 45 := by
  have hu : Uq (altB b) := foldl_uq _ _ List.Pairwise.nil
  have h1 := nodup_sum gwT _ (specT nm) (uq_nodup _ hu) fun p hp hg => by
    obtain ⟨r, hr, rfl⟩ := List.mem_map.mp hp
    exact gwT_spec (alt_in h r hr).1 hg
  have h2 := specT_sum hn
  have h3 := alt_wt h
  have h4 : ((altB b).map fun w => 9 * w.cs.length).sum ≤ wtL (altB b) + ((altB b).map fun w => gwT (clW w)).sum := by
    unfold wtL
    refine sum_le _ _ _ (fun w => ?_) _
    simp only [gwT, e3, clW, wtW]
    omega
  rw [map_cl] at h4
  have h5 : (dirs b).length = ((altB b).map fun w => w.cs.length).sum := List.length_flatMap
  have h6 : ((altB b).map fun w => 9 * w.cs.length).sum = 9 * ((altB b).map fun w => w.cs.length).sum := by
    generalize altB b = l
    induction l with
    | nil => rfl
    | cons r l ih => simp only [List.map_cons, List.sum_cons, ih]; omega
  omega
/-! calls of one procedure -/
def gwC (q : Str) (p : CL) : Nat := 27 * p.1.count q - 2 * e3 p
def specC (nm : List Str) (q : Str) : List CL := [([q], []), ([q, q], []), ([q, q, q], [])] ++ (nm.filter fun x => decide (x ≠ q)).map (fun x => ([q, x], [])) ++ (nm.filter fun x => decide (x ≠ q)).map (fun x => ([x, q], [])) ++ tellS.map fun l => ([q], [l])
theorem gwC_spec {q : Str} {p : CL} (h : ∀ x ∈ p.1, x ∈ nm) (hl : ∀ x ∈ p.2, x ∈ tellS) (hg : gwC q p ≠ 0) : p ∈ specC nm q := by
  obtain ⟨cs, ls⟩ := p
  have ge := e3_ge cs ls
  have cn : cs.count q ≤ cs.length := List.count_le_length
  simp only [gwC] at hg
  unfold specC
  simp only [List.mem_append]
  match cs, ls, h, hl, ge, cn, hg with
  | [], ls, _, _, _, _, hg => simp at hg
  | [x], ls, h, hl, ge, cn, hg =>
    have hx : x = q := by
      by_cases hx : x = q
      · exact hx
      · simp [List.count_cons, hx] at hg
    subst hx
    match ls, hl, hg with
    | [], _, _ => exact .inl (.inl (.inl (by simp)))
    | [y], hl, _ => exact .inr (List.mem_map.mpr ⟨y, hl y (by simp), rfl⟩)
    | y :: z :: ls, _, hg =>
      have := e3_ge2 [x] y z ls
      simp at this hg
      omega
  | [x, y], [], h, _, _, _, hg =>
    by_cases hx : x = q
    · subst hx
      by_cases hy : y = x
      · subst hy
        exact .inl (.inl (.inl (by simp)))
      · exact .inl (.inl (.inr (List.mem_map.mpr ⟨y, List.mem_filter.mpr ⟨h y (by simp), by simp [hy]⟩, rfl⟩)))
    · by_cases hy : y = q
      · subst hy
        exact .inl (.inr (List.mem_map.mpr ⟨x, List.mem_filter.mpr ⟨h x (by simp), by simp [hx]⟩, rfl⟩))
      · simp [List.count_cons, hx, hy] at hg
  | [x, y], z :: ls, _, _, _, cn, hg =>
    have := e3_ge1 [x, y] z ls
    simp at this cn hg
    omega
  | [x, y, z], [], _, _, _, cn, hg =>
    by_cases hx : x = q
    · by_cases hy : y = q
      · by_cases hz : z = q
        · subst hx; subst hy; subst hz
          exact .inl (.inl (.inl (by simp)))
        · simp [List.count_cons, hx, hy, hz, e3] at hg
      · by_cases hz : z = q <;> simp [List.count_cons, hx, hy, hz, e3] at hg
    · by_cases hy : y = q <;> by_cases hz : z = q <;> simp [List.count_cons, hx, hy, hz, e3] at hg
  | [x, y, z], u :: ls, _, _, _, cn, hg =>
    have := e3_ge1 [x, y, z] u ls
    simp at this cn hg
    omega
  | x :: y :: z :: u :: cs, ls, _, _, ge, cn, hg =>
    have := pow27 cs.length
    simp only [List.length_cons] at cn
    have ge : 3 ^ (cs.length + 4) ≤ e3 (x :: y :: z :: u :: cs, ls) := ge
    omega
theorem specC_sum {q : Str} (hn : nm.length ≤ 4) (hq : q ∈ nm) : ((specC nm q).map (gwC q)).sum ≤ 165 := by
  have hf : (nm.filter fun x => decide (x ≠ q)).length ≤ 3 := by
    have := (List.length_filter_lt_length_iff_exists (p := fun x => decide (x ≠ q))).mpr ⟨q, hq, by simp⟩
    omega
  have m1 : (((nm.filter fun x => decide (x ≠ q)).map (fun x => (([q, x], []) : CL))).map (gwC q)).sum = (nm.filter fun x => decide (x ≠ q)).length * 9 := by
    rw [List.map_map]
    refine sum_const _ 9 _ fun x hx => ?_
    have : x ≠ q := by simpa using (List.mem_filter.mp hx).2
    simp [gwC, e3, List.count_cons, this]
  have m2 : (((nm.filter fun x => decide (x ≠ q)).map (fun x => (([x, q], []) : CL))).map (gwC q)).sum = (nm.filter fun x => decide (x ≠ q)).length * 9 := by
    rw [List.map_map]
    refine sum_const _ 9 _ fun x hx => ?_
    have : x ≠ q := by simpa using (List.mem_filter.mp hx).2
    simp [gwC, e3, List.count_cons, this]
  have m3 : ((tellS.map fun l => (([q], [l]) : CL)).map (gwC q)).sum = 27 := by
    rw [List.map_map, sum_const _ 9 _ fun x hx => by simp [gwC, e3, List.count_cons]]
    rfl
  unfold specC
  rw [List.map_append, List.map_append, List.map_append, List.sum_append, List.sum_append, List.sum_append, m1, m2, m3]
  have g1 : gwC q ([q], []) = 21 := by simp [gwC, e3, List.count_cons]
  have g2 : gwC q ([q, q], []) = 36 := by simp [gwC, e3, List.count_cons]
  have g3 : gwC q ([q, q, q], []) = 27 := by simp [gwC, e3, List.count_cons]
  simp only [List.map_cons, List.map_nil, List.sum_cons, List.sum_nil, g1, g2, g3]
  omega
theorem dirs_count {b : Bod} (h : OkB nm 5 b) (hn : nm.length ≤ 4) (q : Str) : (dirs b).count q ≤ 24 := by
  by_cases hq : q ∈ nm
  · have hu : Uq (altB b) := foldl_uq _ _ List.Pairwise.nil
    have h1 := nodup_sum (gwC q) _ (specC nm q) (uq_nodup _ hu) fun p hp hg => by
      obtain ⟨r, hr, rfl⟩ := List.mem_map.mp hp
      exact gwC_spec (alt_in h r hr).1 (alt_in h r hr).2 hg
    have h2 := specC_sum hn hq
    have h3 := alt_wt h
    have h4 : ((altB b).map fun w => 27 * w.cs.count q).sum ≤ ((altB b).map fun w => 2 * wtW w).sum + ((altB b).map fun w => gwC q (clW w)).sum := by
      refine sum_le _ _ _ (fun w => ?_) _
      simp only [gwC, e3, clW, wtW]
      omega
    rw [map_cl] at h4
    have h5 : (dirs b).count q = ((altB b).map fun w => w.cs.count q).sum := List.count_flatMap
    have lin : ∀ (k : Nat) (f : Way → Nat) (l : List Way), (l.map fun w => k * f w).sum = k * (l.map f).sum := fun k f l => by
      induction l with
      | nil => rfl
      | cons r l ih => simp only [List.map_cons, List.sum_cons, ih, Nat.mul_add]
    rw [lin 27 (fun w => w.cs.count q), lin 2 wtW] at h4
    unfold wtL at h3
    omega
  · have : (dirs b).count q = 0 := List.count_eq_zero.mpr fun z => hq (dirs_in h q z)
    omega
end
end K31
end
section
set_option Elab.async false
set_option autoImplicit false
set_option linter.all false
set_option maxRecDepth 100000
set_option maxHeartbeats 2000000
namespace K31
open PySem L2 Mn
local macro_rules | `(tactic| l_ints) => `(tactic| simp only [bnd_some', ret1_some', sSeq_eq, kThen_nx, kThen_rt, kThen_bk, kThen_ct, sNil_eq, sAsg_eq, kAsg_eq, sDrop_eq, kDrop_eq, sRet_eq, kRet_eq, sRetN_eq, sBreak_eq, sCont_eq, sIf_eq, kIf_true, kIf_false, sTgt_eq, kTgt1_eq, kTgt2_eq, sPar_eq, kPar2_eq, sPar3_eq, kPar3_eq, sFor_eq, kFor_eq, sAug_eq, kAug_eq, kAug1_eq, mV_eq, kGot_eq, mC_eq, mOp_eq, kOp1_eq, kOp2_eq, mTB_eq, kB_eq, mAnd_eq, kAnd_true, kAnd_false, mOr_eq, kOr_true, kOr_false, mNot_eq, kNot_eq, mIte_eq, kIte_true, kIte_false, mAndV_eq, kAndV_true, kAndV_false, mOrV_eq, kOrV_true, kOrV_false, mNotV_eq, kNotV_eq, mNil_eq, mCons_eq, kCons1_eq, kCons2_eq, mTup_eq, kTup_eq, mLst_eq, kLst_eq, mFrz_eq, kFrz_eq, mMut_eq, kMut_eq, mCall_eq, mCB_eq, kCB_eq, mCBL_eq, kCBL_eq, mTr_eq, kTr_eq, mNeg_eq, kNeg_eq, mChain_eq, kChn1_eq, kChn2_eq, kChn_true, kChn_false, gN_eq, gsN_eq, gsC_eq, kGs_eq, gT_eq, gTp_eq, gSet_eq, kSet1_eq, kSet2_eq, kSetE_eq, setO_eq, setL_nat, setL_lit, setL_str, mMt_eq, kMt1_eq, kMt1'_eq, kMt2_eq, kMt2'_eq, kMt3_eq, fApp_eq, fPop_eq, kPop_eq, getLast_snoc, dropLast_snoc, fExt_eq, kExt_eq, oAdd_int, oAdd_str, oAdd_tup, oAdd_lst, oAdd_loc, kCat_eq, lstD_lst, lstD_loc, isLst_eq, seqD_tup, seqD_lst, seqD_rol, seqD_loc, dicD_dic, dicD_loc, isDic_eq, oSub_int, oMul_int, oDiv_int, oMod_int, oI_plus, oI_minus, oLt_int, oLe_int, oGt_int, oGe_int, oEq_int, oEq_str, oEq_bl, oNe_int, oNe_str, oNe_bl, oIs_non, oIsNot_non, isN_non, isN_int, isN_bl, isN_str, isN_tup, isN_lst, isN_loc, atI_lit, atI_natc, atI_neg1, ixO_tup, ixO_lst, ixO_dics, ixO_dici, ixO_locs, ixO_loci, ixL_lst, ixL_dics, ixL_dici, cLen_tup, cLen_lst, cLen_dic, cLen_loc, lenL_lst, lenL_dic, cInt_int, cInt_bl, cAbs_int, cTup_tup, cTup_lst, cTup_loc, tupL_eq, cList_eq, cBls_lst, blsA_eq, fAll_eq, fAny_eq, truD_lst, truD_tup, truD_bl, truD_int, truD_non, truD_loc, truL_lst, truL_dic, itD_tup, itD_lst, miSeq_eq, kIt_eq, miR1_eq, kR1_eq, miR2_eq, kR2_eq, mSl_eq, kSl1_eq, kSl2_eq, kSl3_eq, mNoP_eq, mPart_eq, kPart_eq, slD_tup, slD_lst, slD_rol, slD_loc, slA_eq, mIsi_eq, kIsi_eq, tyD_non, tyD_bl, tyD_int, tyD_str, tyD_tup, tyD_lst, isi_NoneType_tuple, isi_NoneType_list, isi_NoneType_int, isi_NoneType_str, isi_NoneType_bool, isi_NoneType_int_str, isi_bool_tuple, isi_bool_list, isi_bool_int, isi_bool_str, isi_bool_bool, isi_bool_int_str, isi_int_tuple, isi_int_list, isi_int_int, isi_int_str, isi_int_bool, isi_int_int_str, isi_str_tuple, isi_str_list, isi_str_int, isi_str_str, isi_str_bool, isi_str_int_str, isi_tuple_tuple, isi_tuple_list, isi_tuple_int, isi_tuple_str, isi_tuple_bool, isi_tuple_int_str, isi_list_tuple, isi_list_list, isi_list_int, isi_list_str, isi_list_bool, isi_list_int_str, mDicF_eq, kDicF_eq, mDicM_eq, kDicM_eq, dicA_eq, dicB_eq, mDic0_eq, mGet1_eq, kGet1_eq, kGet1a_eq, mGet2_eq, kGet2_eq, kGet2a_eq, kGet2b_eq, kGet3_str, kGet3_int, kForB_eq, kForS_nx, kForS_ct, kForS_bk, kForS_rt, kWh_true, kWh_false, kWhS_nx, kWhS_ct, kWhS_bk, kWhS_rt, mLc_eq, kLc_eq, kLc1_eq, kLc2_true, kLc2_false, kLc3_eq, kLc4_eq, mYes_eq, wipeE_nil, wipeE_cons, mFun_0, mFun_1, mFun_2, mFun_3, mFun_4, mFun_5, mFun_6, mFun_7, mFun_8, mFunL_0, mFunL_1, mFunL_2, mFunL_3, mFunL_4, mFunL_5, mFunL_6, mFunL_7, mFunL_8, endW_rt, endW_nx, mRev_eq, kRev_eq, miTxt_eq, kTxt_eq, oIsB_bl, oIsNotB_bl, oIn_eq, oNotIn_eq, kIn_eq, kNIn_eq, inO_sign, inA_eq, inO_tup, inO_lst, inO_loc, inL_lst, inL_dics, inL_dici, inO_dics, inO_dici, flatD_non, flatD_bl, flatD_int, flatD_str, ixO_dkls, ixO_dkli, inO_dkls, inO_dkli, dicD_dkl, mDitN_eq, ixDN_eq, kIxN_eq, setN_eq, gSetN_eq, kSetN1_eq, kSetN2_eq, kSetN3_eq, mGet2N_eq, kGetN1_eq, kGetN2_eq, kGetN3_eq, kGetN4_eq, miKeysN_eq, kKeysN_eq, miKeysL_eq, kKeysL_eq, sForP_eq, kForP_eq, kForP2_eq, keepM_eq, mLc2_eq, kLd_eq, kLd1_eq, kLd2_true, kLd2_false, kLd2b_eq, kLd3_eq, kLd4_eq, Nat.reduceSub, Nat.reduceAdd, Nat.reduceLeDiff, Nat.reduceLT, Nat.reduceEqDiff, Int.reduceLT, Int.reduceLE, Int.reduceAdd, Int.reduceSub, Int.reduceNeg, Int.reduceMul, Int.reduceToNat, Int.reduceBEq, fits_lit, List.getElem?_cons_zero, List.getElem?_cons_succ, List.getElem?_nil, List.set_cons_zero, List.set_cons_succ, List.set_nil, List.length_cons, List.length_nil, List.length_set, List.length_map, List.length_append, List.set_set, List.replicate_succ, List.replicate_zero, List.isEmpty_nil, List.isEmpty_cons, List.nil_append, List.cons_append, List.append_assoc, Bool.not_true, Bool.not_false, decide_true, decide_false, if_true, if_false, Bool.false_eq_true, Option.getD_none, Option.getD_some, Option.isSome_none, Option.isSome_some, st_app, st_app0, st_set, st_set0, List.getLast?_nil, getLast_snoc, dropLast_snoc])
local macro_rules | `(tactic| l_intsC) => `(tactic| simp only [bnd_some', ret1_some', sSeq_eq, kThen_nx, kThen_rt, kThen_bk, kThen_ct, sNil_eq, sAsg_eq, kAsg_eq, sDrop_eq, kDrop_eq, sRet_eq, kRet_eq, sRetN_eq, sBreak_eq, sCont_eq, sIf_eq, kIf_true, kIf_false, sTgt_eq, kTgt1_eq, kTgt2_eq, sPar_eq, kPar2_eq, sPar3_eq, kPar3_eq, sFor_eq, kFor_eq, sAug_eq, kAug_eq, kAug1_eq, mV_eq, kGot_eq, mC_eq, mOp_eq, kOp1_eq, kOp2_eq, mTB_eq, kB_eq, mAnd_eq, kAnd_true, kAnd_false, mOr_eq, kOr_true, kOr_false, mNot_eq, kNot_eq, mIte_eq, kIte_true, kIte_false, mAndV_eq, kAndV_true, kAndV_false, mOrV_eq, kOrV_true, kOrV_false, mNotV_eq, kNotV_eq, mNil_eq, mCons_eq, kCons1_eq, kCons2_eq, mTup_eq, kTup_eq, mLst_eq, kLst_eq, mFrz_eq, kFrz_eq, mMut_eq, kMut_eq, mCall_eq, mCB_eq, kCB_eq, mCBL_eq, kCBL_eq, mTr_eq, kTr_eq, mNeg_eq, kNeg_eq, mChain_eq, kChn1_eq, kChn2_eq, kChn_true, kChn_false, gN_eq, gsN_eq, gsC_eq, kGs_eq, gT_eq, gTp_eq, gSet_eq, kSet1_eq, kSet2_eq, kSetE_eq, setO_eq, setL_nat, setL_lit, setL_str, mMt_eq, kMt1_eq, kMt1'_eq, kMt2_eq, kMt2'_eq, kMt3_eq, fApp_eq, fPop_eq, kPop_eq, getLast_snoc, dropLast_snoc, fExt_eq, kExt_eq, oAdd_int, oAdd_str, oAdd_tup, oAdd_lst, oAdd_loc, kCat_eq, lstD_lst, lstD_loc, isLst_eq, seqD_tup, seqD_lst, seqD_rol, seqD_loc, dicD_dic, dicD_loc, isDic_eq, oSub_int, oMul_int, oDiv_int, oMod_int, oI_plus, oI_minus, oLt_int, oLe_int, oGt_int, oGe_int, oEq_int, oEq_str, oEq_bl, oNe_int, oNe_str, oNe_bl, oIs_non, oIsNot_non, isN_non, isN_int, isN_bl, isN_str, isN_tup, isN_lst, isN_loc, atI_lit, atI_natc, atI_neg1, ixO_tup, ixO_lst, ixO_dics, ixO_dici, ixO_locs, ixO_loci, ixL_lst, ixL_dics, ixL_dici, cLen_tup, cLen_lst, cLen_dic, cLen_loc, lenL_lst, lenL_dic, cInt_int, cInt_bl, cAbs_int, cTup_tup, cTup_lst, cTup_loc, tupL_eq, cList_eq, cBls_lst, blsA_eq, fAll_eq, fAny_eq, truD_lst, truD_tup, truD_bl, truD_int, truD_non, truD_loc, truL_lst, truL_dic, itD_tup, itD_lst, miSeq_eq, kIt_eq, miR1_eq, kR1_eq, miR2_eq, kR2_eq, mSl_eq, kSl1_eq, kSl2_eq, kSl3_eq, mNoP_eq, mPart_eq, kPart_eq, slD_tup, slD_lst, slD_rol, slD_loc, slA_eq, mIsi_eq, kIsi_eq, tyD_non, tyD_bl, tyD_int, tyD_str, tyD_tup, tyD_lst, isi_NoneType_tuple, isi_NoneType_list, isi_NoneType_int, isi_NoneType_str, isi_NoneType_bool, isi_NoneType_int_str, isi_bool_tuple, isi_bool_list, isi_bool_int, isi_bool_str, isi_bool_bool, isi_bool_int_str, isi_int_tuple, isi_int_list, isi_int_int, isi_int_str, isi_int_bool, isi_int_int_str, isi_str_tuple, isi_str_list, isi_str_int, isi_str_str, isi_str_bool, isi_str_int_str, isi_tuple_tuple, isi_tuple_list, isi_tuple_int, isi_tuple_str, isi_tuple_bool, isi_tuple_int_str, isi_list_tuple, isi_list_list, isi_list_int, isi_list_str, isi_list_bool, isi_list_int_str, mDicF_eq, kDicF_eq, mDicM_eq, kDicM_eq, dicA_eq, dicB_eq, mDic0_eq, mGet1_eq, kGet1_eq, kGet1a_eq, mGet2_eq, kGet2_eq, kGet2a_eq, kGet2b_eq, kGet3_str, kGet3_int, kForB_eq, kForS_nx, kForS_ct, kForS_bk, kForS_rt, kWh_true, kWh_false, kWhS_nx, kWhS_ct, kWhS_bk, kWhS_rt, mLc_eq, kLc_eq, kLc1_eq, kLc2_true, kLc2_false, kLc3_eq, kLc4_eq, mYes_eq, wipeE_nil, wipeE_cons, mFun_0, mFun_1, mFun_2, mFun_3, mFun_4, mFun_5, mFun_6, mFun_7, mFun_8, mFunL_0, mFunL_1, mFunL_2, mFunL_3, mFunL_4, mFunL_5, mFunL_6, mFunL_7, mFunL_8, endW_rt, endW_nx, mRev_eq, kRev_eq, miTxt_eq, kTxt_eq, oIsB_bl, oIsNotB_bl, oIn_eq, oNotIn_eq, kIn_eq, kNIn_eq, inO_sign, inA_eq, inO_tup, inO_lst, inO_loc, inL_lst, inL_dics, inL_dici, inO_dics, inO_dici, flatD_non, flatD_bl, flatD_int, flatD_str, ixO_dkls, ixO_dkli, inO_dkls, inO_dkli, dicD_dkl, mDitN_eq, ixDN_eq, kIxN_eq, setN_eq, gSetN_eq, kSetN1_eq, kSetN2_eq, kSetN3_eq, mGet2N_eq, kGetN1_eq, kGetN2_eq, kGetN3_eq, kGetN4_eq, miKeysN_eq, kKeysN_eq, miKeysL_eq, kKeysL_eq, sForP_eq, kForP_eq, kForP2_eq, keepM_eq, mLc2_eq, kLd_eq, kLd1_eq, kLd2_true, kLd2_false, kLd2b_eq, kLd3_eq, kLd4_eq, Nat.reduceSub, Nat.reduceAdd, Nat.reduceLeDiff, Nat.reduceLT, Nat.reduceEqDiff, Int.reduceLT, Int.reduceLE, Int.reduceAdd, Int.reduceSub, Int.reduceNeg, Int.reduceMul, Int.reduceToNat, Int.reduceBEq, fits_lit, List.getElem?_cons_zero, List.getElem?_cons_succ, List.getElem?_nil, List.set_cons_zero, List.set_cons_succ, List.set_nil, List.length_cons, List.length_nil, List.length_set, List.length_map, List.length_append, List.set_set, List.replicate_succ, List.replicate_zero, List.isEmpty_nil, List.isEmpty_cons, List.nil_append, List.cons_append, List.append_assoc, Bool.not_true, Bool.not_false, decide_true, decide_false, if_true, if_false, Bool.false_eq_true, Option.getD_none, Option.getD_some, Option.isSome_none, Option.isSome_some, st_app, st_app0, st_set, st_set0, List.getLast?_nil, getLast_snoc, dropLast_snoc, *])
/-! ### what is reached -/
inductive Rb (adj : Str → List Str) (l : List Str) : Str → Prop where
  | base {x : Str} : x ∈ l → Rb adj l x
  | step {y x : Str} : Rb adj l y → x ∈ adj y → Rb adj l x
section
variable {adj : Str → List Str} {l : List Str}
theorem Rb.sub {S : List Str} (h1 : ∀ x ∈ l, x ∈ S) (h2 : ∀ y ∈ S, ∀ z ∈ adj y, z ∈ S) {x : Str} (h : Rb adj l x) : x ∈ S := by
  induction h with
  | base h => exact h1 _ h
  | step _ h ih => exact h2 _ ih _ h
end
/-- the calls of a procedure -/
def adjP (pr : List (Str × Bod)) (x : Str) : List Str := match pr.find? fun r => decide (r.1 = x) with
  | some r => dirs r.2
  | none => []
theorem adj_at : ∀ pr : List (Str × Bod), (pr.map (·.1)).Nodup → ∀ r ∈ pr, adjP pr r.1 = dirs r.2
  | [], _, r, h => (List.not_mem_nil h).elim
  | q :: pr, hn, r, h => by
    rw [List.map_cons, List.nodup_cons] at hn
    unfold adjP
    rcases List.mem_cons.mp h with rfl | h
    · rw [List.find?_cons_of_pos (by simp)]
    · have hne : q.1 ≠ r.1 := fun z => hn.1 (by rw [z]; exact List.mem_map_of_mem h)
      rw [List.find?_cons_of_neg (by simpa using hne)]
      exact adj_at pr hn.2 r h
theorem adj_props {pr : List (Str × Bod)} (ok : OkP pr) (x : Str) : (adjP pr x).length ≤ 45 ∧ (∀ y ∈ adjP pr x, y ∈ pr.map (·.1)) ∧ ∀ q, (adjP pr x).count q ≤ 24 := by
  unfold adjP
  have hl : (pr.map (·.1)).length ≤ 4 := by rw [List.length_map]; exact ok.le
  split
  · rename_i r h
    have hr := ok.ok r (List.mem_of_find?_eq_some h)
    exact ⟨dirs_len hr hl, dirs_in hr, dirs_count hr hl⟩
  · exact ⟨by simp, fun y hy => (List.not_mem_nil hy).elim, fun q => by simp⟩
/-! ### keys of a dict -/
section
variable {α : Type} {f : α → Str} {v : α → D}
def dK (f : α → Str) (v : α → D) (l : List α) : List (Key × D) := l.map fun a => (.inr (f a), v a)
theorem lk_dK_none {x : Str} : ∀ l : List α, (∀ a ∈ l, f a ≠ x) → lkD (dK f v l) (.inr x) = none
  | [], _ => rfl
  | a :: l, h => by
    have h0 := h a (List.mem_cons_self ..)
    have : ¬ ((.inr (f a) : Key) = .inr x) := fun z => h0 (by injection z)
    show (if (.inr (f a) : Key) = .inr x then some (v a) else lkD (dK f v l) (.inr x)) = none
    rw [if_neg this]
    exact lk_dK_none l fun b hb => h b (List.mem_cons_of_mem _ hb)
theorem lk_dK_some {a : α} : ∀ l : List α, (l.map f).Nodup → a ∈ l → lkD (dK f v l) (.inr (f a)) = some (v a)
  | [], _, h => (List.not_mem_nil h).elim
  | b :: l, hn, h => by
    rw [List.map_cons, List.nodup_cons] at hn
    show (if (.inr (f b) : Key) = .inr (f a) then some (v b) else lkD (dK f v l) (.inr (f a))) = _
    rcases List.mem_cons.mp h with rfl | h
    · rw [if_pos rfl]
    · have hne : f b ≠ f a := fun z => hn.1 (by rw [z]; exact List.mem_map_of_mem h)
      have : ¬ ((.inr (f b) : Key) = .inr (f a)) := fun z => hne (by injection z)
      rw [if_neg this]
      exact lk_dK_some l hn.2 h
theorem put_dK_new {x : Str} {d : D} (l : List α) (h : ∀ a ∈ l, f a ≠ x) : putD (dK f v l) (.inr x) d = dK f v l ++ [(.inr x, d)] := by
  unfold putD
  rw [if_neg]
  simp only [dK, List.any_map, List.any_eq_true, not_exists, not_and]
  intro a ha
  have : ¬ ((.inr (f a) : Key) = .inr x) := fun z => h a ha (by injection z)
  simpa using this
end
/-! ### the table of calls -/
def txL (l : List Str) : D := .lst (l.map .str)
def rD (R : List Str) : List (Key × D) := dK id (fun _ => .bl true) R
def tabP (pr : List (Str × Bod)) : List (Key × D) := dK (·.1) (fun r => txL (dirs r.2)) pr
section
variable {w : World} {a0 a1 a2 a3 a4 a5 a6 a7 a8 : Option D} {st : Store}
theorem call_lc1 {e9 e10 e11 : Option D} : ∀ cs : List Str, lcL (gN 12) mYes (E_called_by_1 w) [a0, a1, a2, a3, a4, a5, a6, a7, a8, e9, e10, e11, none, none] (cs.map .str) st = some (cs.map .str, st)
  | [] => rfl
  | x :: cs => by
    have ih := call_lc1 (e9 := e9) (e10 := e10) (e11 := e11) cs
    have u : E_called_by_1 w [a0, a1, a2, a3, a4, a5, a6, a7, a8, e9, e10, e11, some (.str x), none] st = some (.str x, st) := by
      unfold E_called_by_1
      l_ints
    rw [List.map_cons, lcL_cons]
    l_intsC
theorem call_lc : ∀ R : List Way, lc2L [12] (gT 3 (gsC (gN 9) (gsC (gN 10) (gsC (gN 11) (gsN))))) mYes (miSeq (mV 10)) (gN 12) mYes (E_called_by_1 w) [a0, a1, a2, a3, a4, a5, a6, a7, a8, none, none, none, none, none] (R.map eW) st = some ((R.flatMap (·.cs)).map .str, st)
  | [] => rfl
  | r :: R => by
    have ih := call_lc R
    have e1 := call_lc1 (w := w) (a0 := a0) (a1 := a1) (a2 := a2) (a3 := a3) (a4 := a4) (a5 := a5) (a6 := a6) (a7 := a7) (a8 := a8) (st := st) (e9 := some (eF r.c)) (e10 := some (txtD r.cs)) (e11 := some (txtD r.ls)) r.cs
    rw [List.map_cons, List.flatMap_cons, List.map_append, lc2L_cons]
    unfold eW at *
    unfold txtD at *
    l_intsC
theorem tab_turn {r : Str × Bod} {nm : List Str} (hb : OkB nm 5 r.2) (hn : nm.length ≤ 4) {pr : List (Str × Bod)} (hx : ∀ q ∈ pr, q.1 ≠ r.1) (hp : pr.length < 100) :
    L_called_by_1 w [a0, some (.loc 0), some (.str r.1), some (.tup ((altB r.2).map eW)), a4, a5, a6, a7, a8, none, none, none, none, none] [.dic (tabP pr)] = some (.nx [a0, some (.loc 0), some (.str r.1), some (.tup ((altB r.2).map eW)), a4, a5, a6, a7, a8, none, none, none, none, none], [.dic (tabP (pr ++ [r]))]) := by
  have lc := call_lc (w := w) (a0 := a0) (a1 := some (.loc 0)) (a2 := some (.str r.1)) (a3 := some (.tup ((altB r.2).map eW))) (a4 := a4) (a5 := a5) (a6 := a6) (a7 := a7) (a8 := a8) (st := [.dic (tabP pr)]) (altB r.2)
  have dl : ((altB r.2).flatMap (·.cs)).length ≤ 45 := dirs_len hb hn
  have d2 : (((altB r.2).flatMap (·.cs)).map D.str).length ≤ 16777216 := by rw [List.length_map]; omega
  have ld := kLdE_of (ds := ((altB r.2).flatMap (·.cs)).map D.str) (st := [.dic (tabP pr)]) d2
  have hl : (tabP pr).length < 16777216 := by unfold tabP dK; rw [List.length_map]; omega
  have pt := put_dK_new (f := fun r : Str × Bod => r.1) (v := fun r => txL (dirs r.2)) (x := r.1) (d := txL (dirs r.2)) pr hx
  have e : tabP (pr ++ [r]) = putD (tabP pr) (.inr r.1) (.lst (((altB r.2).flatMap (·.cs)).map .str)) := by
    have : txL (dirs r.2) = .lst (((altB r.2).flatMap (·.cs)).map .str) := rfl
    rw [← this]
    unfold tabP
    rw [pt]
    simp [dK]
  rw [e]
  clear e pt d2 dl hb
  unfold L_called_by_1
  l_intsC
theorem tab_turns {nm : List Str} (hn : nm.length ≤ 4) : ∀ (pr2 pr1 : List (Str × Bod)) (a2 a3 : Option D), (∀ r ∈ pr2, OkB nm 5 r.2) → ((pr1 ++ pr2).map (·.1)).Nodup → (pr1 ++ pr2).length < 100 →
    ∃ k2 k3, ForN (gT 2 (gsC (gN 2) (gsC (gN 3) (gsN)))) (L_called_by_1 w) (pr2.map altE) [a0, some (.loc 0), a2, a3, a4, a5, a6, a7, a8, none, none, none, none, none] [.dic (tabP pr1)] [a0, some (.loc 0), k2, k3, a4, a5, a6, a7, a8, none, none, none, none, none] [.dic (tabP (pr1 ++ pr2))]
  | [], pr1, a2, a3, _, _, _ => ⟨a2, a3, by rw [List.append_nil]; exact .nil⟩
  | r :: pr2, pr1, a2, a3, h, hd, hl => by
    have hx : ∀ q ∈ pr1, q.1 ≠ r.1 := fun q hq z => by
      rw [List.map_append, List.nodup_append] at hd
      exact hd.2.2 q.1 (List.mem_map_of_mem hq) r.1 (by simp) z
    have e1 : pr1 ++ r :: pr2 = (pr1 ++ [r]) ++ pr2 := by simp
    have t := tab_turn (w := w) (a0 := a0) (a4 := a4) (a5 := a5) (a6 := a6) (a7 := a7) (a8 := a8) (h r (List.mem_cons_self ..)) hn hx (by rw [List.length_append] at hl; omega)
    rw [e1] at hd hl ⊢
    obtain ⟨k2, k3, ih⟩ := tab_turns hn pr2 (pr1 ++ [r]) (some (.str r.1)) (some (.tup ((altB r.2).map eW))) (fun q hq => h q (List.mem_cons_of_mem _ hq)) hd hl
    refine ⟨k2, k3, ?_⟩
    rw [List.map_cons]
    refine ForN.nx (e1 := [a0, some (.loc 0), some (.str r.1), some (.tup ((altB r.2).map eW)), a4, a5, a6, a7, a8, none, none, none, none, none]) (s1 := [.dic (tabP pr1)]) ?_ t ih
    unfold altE
    l_ints
end
end K31
end
section
set_option Elab.async false
set_option autoImplicit false
set_option linter.all false
set_option maxRecDepth 100000
set_option maxHeartbeats 2000000
namespace K31
open PySem L2 Mn
local macro_rules | `(tactic| l_ints) => `(tactic| simp only [bnd_some', ret1_some', sSeq_eq, kThen_nx, kThen_rt, kThen_bk, kThen_ct, sNil_eq, sAsg_eq, kAsg_eq, sDrop_eq, kDrop_eq, sRet_eq, kRet_eq, sRetN_eq, sBreak_eq, sCont_eq, sIf_eq, kIf_true, kIf_false, sTgt_eq, kTgt1_eq, kTgt2_eq, sPar_eq, kPar2_eq, sPar3_eq, kPar3_eq, sFor_eq, kFor_eq, sAug_eq, kAug_eq, kAug1_eq, mV_eq, kGot_eq, mC_eq, mOp_eq, kOp1_eq, kOp2_eq, mTB_eq, kB_eq, mAnd_eq, kAnd_true, kAnd_false, mOr_eq, kOr_true, kOr_false, mNot_eq, kNot_eq, mIte_eq, kIte_true, kIte_false, mAndV_eq, kAndV_true, kAndV_false, mOrV_eq, kOrV_true, kOrV_false, mNotV_eq, kNotV_eq, mNil_eq, mCons_eq, kCons1_eq, kCons2_eq, mTup_eq, kTup_eq, mLst_eq, kLst_eq, mFrz_eq, kFrz_eq, mMut_eq, kMut_eq, mCall_eq, mCB_eq, kCB_eq, mCBL_eq, kCBL_eq, mTr_eq, kTr_eq, mNeg_eq, kNeg_eq, mChain_eq, kChn1_eq, kChn2_eq, kChn_true, kChn_false, gN_eq, gsN_eq, gsC_eq, kGs_eq, gT_eq, gTp_eq, gSet_eq, kSet1_eq, kSet2_eq, kSetE_eq, setO_eq, setL_nat, setL_lit, setL_str, mMt_eq, kMt1_eq, kMt1'_eq, kMt2_eq, kMt2'_eq, kMt3_eq, fApp_eq, fPop_eq, kPop_eq, getLast_snoc, dropLast_snoc, fExt_eq, kExt_eq, oAdd_int, oAdd_str, oAdd_tup, oAdd_lst, oAdd_loc, kCat_eq, lstD_lst, lstD_loc, isLst_eq, seqD_tup, seqD_lst, seqD_rol, seqD_loc, dicD_dic, dicD_loc, isDic_eq, oSub_int, oMul_int, oDiv_int, oMod_int, oI_plus, oI_minus, oLt_int, oLe_int, oGt_int, oGe_int, oEq_int, oEq_str, oEq_bl, oNe_int, oNe_str, oNe_bl, oIs_non, oIsNot_non, isN_non, isN_int, isN_bl, isN_str, isN_tup, isN_lst, isN_loc, atI_lit, atI_natc, atI_neg1, ixO_tup, ixO_lst, ixO_dics, ixO_dici, ixO_locs, ixO_loci, ixL_lst, ixL_dics, ixL_dici, cLen_tup, cLen_lst, cLen_dic, cLen_loc, lenL_lst, lenL_dic, cInt_int, cInt_bl, cAbs_int, cTup_tup, cTup_lst, cTup_loc, tupL_eq, cList_eq, cBls_lst, blsA_eq, fAll_eq, fAny_eq, truD_lst, truD_tup, truD_bl, truD_int, truD_non, truD_loc, truL_lst, truL_dic, itD_tup, itD_lst, miSeq_eq, kIt_eq, miR1_eq, kR1_eq, miR2_eq, kR2_eq, mSl_eq, kSl1_eq, kSl2_eq, kSl3_eq, mNoP_eq, mPart_eq, kPart_eq, slD_tup, slD_lst, slD_rol, slD_loc, slA_eq, mIsi_eq, kIsi_eq, tyD_non, tyD_bl, tyD_int, tyD_str, tyD_tup, tyD_lst, isi_NoneType_tuple, isi_NoneType_list, isi_NoneType_int, isi_NoneType_str, isi_NoneType_bool, isi_NoneType_int_str, isi_bool_tuple, isi_bool_list, isi_bool_int, isi_bool_str, isi_bool_bool, isi_bool_int_str, isi_int_tuple, isi_int_list, isi_int_int, isi_int_str, isi_int_bool, isi_int_int_str, isi_str_tuple, isi_str_list, isi_str_int, isi_str_str, isi_str_bool, isi_str_int_str, isi_tuple_tuple, isi_tuple_list, isi_tuple_int, isi_tuple_str, isi_tuple_bool, isi_tuple_int_str, isi_list_tuple, isi_list_list, isi_list_int, isi_list_str, isi_list_bool, isi_list_int_str, mDicF_eq, kDicF_eq, mDicM_eq, kDicM_eq, dicA_eq, dicB_eq, mDic0_eq, mGet1_eq, kGet1_eq, kGet1a_eq, mGet2_eq, kGet2_eq, kGet2a_eq, kGet2b_eq, kGet3_str, kGet3_int, kForB_eq, kForS_nx, kForS_ct, kForS_bk, kForS_rt, kWh_true, kWh_false, kWhS_nx, kWhS_ct, kWhS_bk, kWhS_rt, mLc_eq, kLc_eq, kLc1_eq, kLc2_true, kLc2_false, kLc3_eq, kLc4_eq, mYes_eq, wipeE_nil, wipeE_cons, mFun_0, mFun_1, mFun_2, mFun_3, mFun_4, mFun_5, mFun_6, mFun_7, mFun_8, mFunL_0, mFunL_1, mFunL_2, mFunL_3, mFunL_4, mFunL_5, mFunL_6, mFunL_7, mFunL_8, endW_rt, endW_nx, mRev_eq, kRev_eq, miTxt_eq, kTxt_eq, oIsB_bl, oIsNotB_bl, oIn_eq, oNotIn_eq, kIn_eq, kNIn_eq, inO_sign, inA_eq, inO_tup, inO_lst, inO_loc, inL_lst, inL_dics, inL_dici, inO_dics, inO_dici, flatD_non, flatD_bl, flatD_int, flatD_str, ixO_dkls, ixO_dkli, inO_dkls, inO_dkli, dicD_dkl, mDitN_eq, ixDN_eq, kIxN_eq, setN_eq, gSetN_eq, kSetN1_eq, kSetN2_eq, kSetN3_eq, mGet2N_eq, kGetN1_eq, kGetN2_eq, kGetN3_eq, kGetN4_eq, miKeysN_eq, kKeysN_eq, miKeysL_eq, kKeysL_eq, sForP_eq, kForP_eq, kForP2_eq, keepM_eq, mLc2_eq, kLd_eq, kLd1_eq, kLd2_true, kLd2_false, kLd2b_eq, kLd3_eq, kLd4_eq, Nat.reduceSub, Nat.reduceAdd, Nat.reduceLeDiff, Nat.reduceLT, Nat.reduceEqDiff, Int.reduceLT, Int.reduceLE, Int.reduceAdd, Int.reduceSub, Int.reduceNeg, Int.reduceMul, Int.reduceToNat, Int.reduceBEq, fits_lit, List.getElem?_cons_zero, List.getElem?_cons_succ, List.getElem?_nil, List.set_cons_zero, List.set_cons_succ, List.set_nil, List.length_cons, List.length_nil, List.length_set, List.length_map, List.length_append, List.set_set, List.replicate_succ, List.replicate_zero, List.isEmpty_nil, List.isEmpty_cons, List.nil_append, List.cons_append, List.append_assoc, Bool.not_true, Bool.not_false, decide_true, decide_false, if_true, if_false, Bool.false_eq_true, Option.getD_none, Option.getD_some, Option.isSome_none, Option.isSome_some, st_app, st_app0, st_set, st_set0, List.getLast?_nil, getLast_snoc, dropLast_snoc])
local macro_rules | `(tactic| l_intsC) => `(tactic| simp only [bnd_some', ret1_some', sSeq_eq, kThen_nx, kThen_rt, kThen_bk, kThen_ct, sNil_eq, sAsg_eq, kAsg_eq, sDrop_eq, kDrop_eq, sRet_eq, kRet_eq, sRetN_eq, sBreak_eq, sCont_eq, sIf_eq, kIf_true, kIf_false, sTgt_eq, kTgt1_eq, kTgt2_eq, sPar_eq, kPar2_eq, sPar3_eq, kPar3_eq, sFor_eq, kFor_eq, sAug_eq, kAug_eq, kAug1_eq, mV_eq, kGot_eq, mC_eq, mOp_eq, kOp1_eq, kOp2_eq, mTB_eq, kB_eq, mAnd_eq, kAnd_true, kAnd_false, mOr_eq, kOr_true, kOr_false, mNot_eq, kNot_eq, mIte_eq, kIte_true, kIte_false, mAndV_eq, kAndV_true, kAndV_false, mOrV_eq, kOrV_true, kOrV_false, mNotV_eq, kNotV_eq, mNil_eq, mCons_eq, kCons1_eq, kCons2_eq, mTup_eq, kTup_eq, mLst_eq, kLst_eq, mFrz_eq, kFrz_eq, mMut_eq, kMut_eq, mCall_eq, mCB_eq, kCB_eq, mCBL_eq, kCBL_eq, mTr_eq, kTr_eq, mNeg_eq, kNeg_eq, mChain_eq, kChn1_eq, kChn2_eq, kChn_true, kChn_false, gN_eq, gsN_eq, gsC_eq, kGs_eq, gT_eq, gTp_eq, gSet_eq, kSet1_eq, kSet2_eq, kSetE_eq, setO_eq, setL_nat, setL_lit, setL_str, mMt_eq, kMt1_eq, kMt1'_eq, kMt2_eq, kMt2'_eq, kMt3_eq, fApp_eq, fPop_eq, kPop_eq, getLast_snoc, dropLast_snoc, fExt_eq, kExt_eq, oAdd_int, oAdd_str, oAdd_tup, oAdd_lst, oAdd_loc, kCat_eq, lstD_lst, lstD_loc, isLst_eq, seqD_tup, seqD_lst, seqD_rol, seqD_loc, dicD_dic, dicD_loc, isDic_eq, oSub_int, oMul_int, oDiv_int, oMod_int, oI_plus, oI_minus, oLt_int, oLe_int, oGt_int, oGe_int, oEq_int, oEq_str, oEq_bl, oNe_int, oNe_str, oNe_bl, oIs_non, oIsNot_non, isN_non, isN_int, isN_bl, isN_str, isN_tup, isN_lst, isN_loc, atI_lit, atI_natc, atI_neg1, ixO_tup, ixO_lst, ixO_dics, ixO_dici, ixO_locs, ixO_loci, ixL_lst, ixL_dics, ixL_dici, cLen_tup, cLen_lst, cLen_dic, cLen_loc, lenL_lst, lenL_dic, cInt_int, cInt_bl, cAbs_int, cTup_tup, cTup_lst, cTup_loc, tupL_eq, cList_eq, cBls_lst, blsA_eq, fAll_eq, fAny_eq, truD_lst, truD_tup, truD_bl, truD_int, truD_non, truD_loc, truL_lst, truL_dic, itD_tup, itD_lst, miSeq_eq, kIt_eq, miR1_eq, kR1_eq, miR2_eq, kR2_eq, mSl_eq, kSl1_eq, kSl2_eq, kSl3_eq, mNoP_eq, mPart_eq, kPart_eq, slD_tup, slD_lst, slD_rol, slD_loc, slA_eq, mIsi_eq, kIsi_eq, tyD_non, tyD_bl, tyD_int, tyD_str, tyD_tup, tyD_lst, isi_NoneType_tuple, isi_NoneType_list, isi_NoneType_int, isi_NoneType_str, isi_NoneType_bool, isi_NoneType_int_str, isi_bool_tuple, isi_bool_list, isi_bool_int, isi_bool_str, isi_bool_bool, isi_bool_int_str, isi_int_tuple, isi_int_list, isi_int_int, isi_int_str, isi_int_bool, isi_int_int_str, isi_str_tuple, isi_str_list, isi_str_int, isi_str_str, isi_str_bool, isi_str_int_str, isi_tuple_tuple, isi_tuple_list, isi_tuple_int, isi_tuple_str, isi_tuple_bool, isi_tuple_int_str, isi_list_tuple, isi_list_list, isi_list_int, isi_list_str, isi_list_bool, isi_list_int_str, mDicF_eq, kDicF_eq, mDicM_eq, kDicM_eq, dicA_eq, dicB_eq, mDic0_eq, mGet1_eq, kGet1_eq, kGet1a_eq, mGet2_eq, kGet2_eq, kGet2a_eq, kGet2b_eq, kGet3_str, kGet3_int, kForB_eq, kForS_nx, kForS_ct, kForS_bk, kForS_rt, kWh_true, kWh_false, kWhS_nx, kWhS_ct, kWhS_bk, kWhS_rt, mLc_eq, kLc_eq, kLc1_eq, kLc2_true, kLc2_false, kLc3_eq, kLc4_eq, mYes_eq, wipeE_nil, wipeE_cons, mFun_0, mFun_1, mFun_2, mFun_3, mFun_4, mFun_5, mFun_6, mFun_7, mFun_8, mFunL_0, mFunL_1, mFunL_2, mFunL_3, mFunL_4, mFunL_5, mFunL_6, mFunL_7, mFunL_8, endW_rt, endW_nx, mRev_eq, kRev_eq, miTxt_eq, kTxt_eq, oIsB_bl, oIsNotB_bl, oIn_eq, oNotIn_eq, kIn_eq, kNIn_eq, inO_sign, inA_eq, inO_tup, inO_lst, inO_loc, inL_lst, inL_dics, inL_dici, inO_dics, inO_dici, flatD_non, flatD_bl, flatD_int, flatD_str, ixO_dkls, ixO_dkli, inO_dkls, inO_dkli, dicD_dkl, mDitN_eq, ixDN_eq, kIxN_eq, setN_eq, gSetN_eq, kSetN1_eq, kSetN2_eq, kSetN3_eq, mGet2N_eq, kGetN1_eq, kGetN2_eq, kGetN3_eq, kGetN4_eq, miKeysN_eq, kKeysN_eq, miKeysL_eq, kKeysL_eq, sForP_eq, kForP_eq, kForP2_eq, keepM_eq, mLc2_eq, kLd_eq, kLd1_eq, kLd2_true, kLd2_false, kLd2b_eq, kLd3_eq, kLd4_eq, Nat.reduceSub, Nat.reduceAdd, Nat.reduceLeDiff, Nat.reduceLT, Nat.reduceEqDiff, Int.reduceLT, Int.reduceLE, Int.reduceAdd, Int.reduceSub, Int.reduceNeg, Int.reduceMul, Int.reduceToNat, Int.reduceBEq, fits_lit, List.getElem?_cons_zero, List.getElem?_cons_succ, List.getElem?_nil, List.set_cons_zero, List.set_cons_succ, List.set_nil, List.length_cons, List.length_nil, List.length_set, List.length_map, List.length_append, List.set_set, List.replicate_succ, List.replicate_zero, List.isEmpty_nil, List.isEmpty_cons, List.nil_append, List.cons_append, List.append_assoc, Bool.not_true, Bool.not_false, decide_true, decide_false, if_true, if_false, Bool.false_eq_true, Option.getD_none, Option.getD_some, Option.isSome_none, Option.isSome_some, st_app, st_app0, st_set, st_set0, List.getLast?_nil, getLast_snoc, dropLast_snoc, *])
section
variable {w : World} {a0 a2 a3 a5 j8 j9 j10 j11 j12 j13 : Option D} {G : Store} {acc : List D} {dd : List (Key × D)}
def EN (a0 a2 a3 a5 : Option D) (G : Store) (j8 : Option D) : MEnv := [a0, some (.loc 0), a2, a3, some (.loc 1), a5, some (.loc (G.length + 2)), some (.loc (G.length + 3)), j8, none, none, none, none, none]
def ST (dd : List (Key × D)) (acc : List D) (G : Store) (R L : List Str) : Store := .dic dd :: .lst acc :: (G ++ [.dic (rD R), txL L])
/-- from one state of the search to another -/
def DS (w : World) (a0 a2 a3 a5 : Option D) (dd : List (Key × D)) (acc : List D) (G : Store) (R L R' L' : List Str) : Prop := ∀ j8 : Option D, ∃ k8, Rch (T_called_by_1 w) (L_called_by_2 w) (EN a0 a2 a3 a5 G j8) (ST dd acc G R L) (EN a0 a2 a3 a5 G k8) (ST dd acc G R' L')
theorem DS.refl {R L : List Str} : DS w a0 a2 a3 a5 dd acc G R L R L := fun j8 => ⟨j8, .refl⟩
theorem DS.trans {R L R1 L1 R2 L2 : List Str} (h : DS w a0 a2 a3 a5 dd acc G R L R1 L1) (k : DS w a0 a2 a3 a5 dd acc G R1 L1 R2 L2) : DS w a0 a2 a3 a5 dd acc G R L R2 L2 := fun j8 => by
  obtain ⟨k8, h⟩ := h j8
  obtain ⟨i8, k⟩ := k k8
  exact ⟨i8, h.trans k⟩
theorem td_go {L R : List Str} {x : Str} : T_called_by_1 w (EN a0 a2 a3 a5 G j8) (ST dd acc G R (L ++ [x])) = some (true, ST dd acc G R (L ++ [x])) := by
  have ne := snoc_ne (W := L.map D.str) (b := D.str x)
  unfold T_called_by_1 EN ST txL
  rw [List.map_append, List.map_cons, List.map_nil]
  l_intsC
theorem td_end {R : List Str} : T_called_by_1 w (EN a0 a2 a3 a5 G j8) (ST dd acc G R []) = some (false, ST dd acc G R []) := by
  unfold T_called_by_1 EN ST txL
  rw [List.map_nil]
  l_intsC
theorem rD_mem {R : List Str} {x : Str} (h : x ∈ R) : (lkD (rD R) (.inr x)).isSome = true := by
  induction R with
  | nil => cases h
  | cons y R ih =>
    show (if (.inr (id y) : Key) = .inr x then some _ else lkD (rD R) (.inr x)).isSome = true
    by_cases hy : y = x
    · rw [if_pos (by rw [hy]; rfl)]
      rfl
    · have : ¬ ((.inr (id y) : Key) = .inr x) := fun z => hy (by injection z)
      rw [if_neg this]
      exact ih ((List.mem_cons.mp h).resolve_left fun z => hy z.symm)
theorem rD_not {R : List Str} {x : Str} (h : x ∉ R) : (lkD (rD R) (.inr x)).isSome = false := by
  rw [rD, lk_dK_none (f := id) (x := x) R fun a ha (z : a = x) => h (z ▸ ha)]
  rfl
theorem rD_dec (R : List Str) (x : Str) : (lkD (rD R) (.inr x)).isSome = decide (x ∈ R) := by
  by_cases h : x ∈ R
  · rw [rD_mem h, decide_eq_true h]
  · rw [rD_not h, decide_eq_false h]
theorem ds_old {R L : List Str} {x : Str} (h : x ∈ R) : DS w a0 a2 a3 a5 dd acc G R (L ++ [x]) R L := fun j8 => by
  refine ⟨some (.str x), .step td_go ?_⟩
  have lk := rD_mem h
  unfold L_called_by_2 EN ST txL
  rw [List.map_append, List.map_cons, List.map_nil]
  clear h
  l_intsC
theorem ds_new {R L A : List Str} {x : Str} (h : x ∉ R) (hd : lkD dd (.inr x) = some (txL A)) (hR : R.length < 100) (hL : L.length + A.length ≤ 100000) : DS w a0 a2 a3 a5 dd acc G R (L ++ [x]) (R ++ [x]) (L ++ A) := fun j8 => by
  refine ⟨some (.str x), .step td_go ?_⟩
  have lk := rD_not h
  have pt : putD (rD R) (.inr x) (.bl true) = rD (R ++ [x]) := by
    rw [rD, put_dK_new (f := id) (x := x) R fun a ha (z : a = x) => h (z ▸ ha)]
    simp [rD, dK]
  have hR2 : (rD R).length < 16777216 := by unfold rD dK; rw [List.length_map]; omega
  have hL2 : L.length + A.length ≤ 16777216 := by omega
  unfold L_called_by_2 EN ST txL
  unfold txL at hd
  rw [List.map_append, List.map_cons, List.map_nil, List.map_append]
  clear h
  l_intsC
end
/-! ### the search comes to its end -/
def muS (adj : Str → List Str) (nm R : List Str) : Nat := (nm.map fun y => if y ∈ R then 0 else (adj y).length).sum
theorem mu_add {adj : Str → List Str} {R : List Str} {x : Str} (hx : x ∉ R) : ∀ nm : List Str, nm.Nodup → (x ∈ nm → muS adj nm R = (adj x).length + muS adj nm (R ++ [x])) ∧ (x ∉ nm → muS adj nm R = muS adj nm (R ++ [x]))
  | [], _ => ⟨fun h => (List.not_mem_nil h).elim, fun _ => rfl⟩
  | y :: nm, hn => by
    have hn := List.nodup_cons.mp hn
    obtain ⟨h1, h2⟩ := mu_add hx nm hn.2
    unfold muS at h1 h2 ⊢
    simp only [List.map_cons, List.sum_cons]
    constructor
    · intro h
      by_cases hy : y = x
      · subst hy
        rw [h2 hn.1, if_neg hx, if_pos (by simp)]
        omega
      · have hm := (List.mem_cons.mp h).resolve_left (Ne.symm hy)
        have e : (y ∈ R ++ [x]) ↔ y ∈ R := by simp [hy]
        rw [h1 hm]
        simp only [e]
        omega
    · intro h
      have hy : y ≠ x := fun z => h (z ▸ List.mem_cons_self ..)
      have e : (y ∈ R ++ [x]) ↔ y ∈ R := by simp [hy]
      rw [h2 fun z => h (List.mem_cons_of_mem _ z)]
      simp only [e]
theorem nodup_sub_len {R S : List Str} (hn : R.Nodup) (h : ∀ x ∈ R, x ∈ S) : R.length ≤ S.length := by
  have := nodup_sum (fun _ => 1) R S hn fun r hr _ => h r hr
  rw [sum_const _ 1 R fun _ _ => rfl, sum_const _ 1 S fun _ _ => rfl] at this
  omega
section
variable {w : World} {a0 a2 a3 a5 : Option D} {G : Store} {acc : List D} {pr : List (Str × Bod)} {l : List Str}
theorem search (ok : OkP pr) : ∀ (f : Nat) (R L : List Str), L.length + muS (adjP pr) (pr.map (·.1)) R ≤ f → f ≤ 1000 → R.Nodup → (∀ x ∈ R, x ∈ pr.map (·.1)) → (∀ x ∈ L, x ∈ pr.map (·.1)) → (∀ x, x ∈ R ∨ x ∈ L → Rb (adjP pr) l x) → (∀ y ∈ R, ∀ z ∈ adjP pr y, z ∈ R ∨ z ∈ L) →
    ∃ R', DS w a0 a2 a3 a5 (tabP pr) acc G R L R' [] ∧ (∀ x ∈ R', Rb (adjP pr) l x) ∧ (∀ y ∈ R', ∀ z ∈ adjP pr y, z ∈ R') ∧ ∀ x, x ∈ R ∨ x ∈ L → x ∈ R'
  | f, R, L, hf, hf2, hn, h1, h2, h3, h4 => by
    by_cases hL : L = []
    · subst hL
      exact ⟨R, .refl, fun x hx => h3 x (.inl hx), fun y hy z hz => (h4 y hy z hz).resolve_right (by simp), fun x hx => hx.resolve_right (by simp)⟩
    · obtain ⟨L0, x, rfl⟩ : ∃ L0 x, L = L0 ++ [x] := ⟨L.dropLast, L.getLast hL, (List.dropLast_concat_getLast hL).symm⟩
      rw [List.length_append, List.length_singleton] at hf
      obtain ⟨f, rfl⟩ : ∃ g, f = g + 1 := ⟨f - 1, by omega⟩
      by_cases hx : x ∈ R
      · obtain ⟨R', d, e1, e2, e3⟩ := search ok f R L0 (by omega) (by omega) hn h1 (fun y hy => h2 y (List.mem_append_left _ hy)) (fun y hy => h3 y (hy.imp id fun z => List.mem_append_left _ z))
          (fun y hy z hz => (h4 y hy z hz).elim .inl fun q => by
            rcases List.mem_append.mp q with q | q
            · exact .inr q
            · simp at q; subst q; exact .inl hx)
        refine ⟨R', (ds_old hx).trans d, e1, e2, fun y hy => ?_⟩
        rcases hy with hy | hy
        · exact e3 y (.inl hy)
        · rcases List.mem_append.mp hy with hy | hy
          · exact e3 y (.inr hy)
          · simp at hy; subst hy; exact e3 y (.inl hx)
      · have xm := h2 x (by simp)
        obtain ⟨r, hr, hrx⟩ := List.mem_map.mp xm
        have ad : adjP pr x = dirs r.2 := by rw [← hrx]; exact adj_at pr ok.nd r hr
        have lk : lkD (tabP pr) (.inr x) = some (txL (dirs r.2)) := by
          rw [← hrx]
          exact lk_dK_some pr ok.nd hr
        have mu := (mu_add (adj := adjP pr) hx (pr.map (·.1)) ok.nd).1 xm
        have pp := adj_props ok x
        have rl := nodup_sub_len hn h1
        rw [List.length_map] at rl
        have := ok.le
        have step := ds_new (w := w) (a0 := a0) (a2 := a2) (a3 := a3) (a5 := a5) (G := G) (acc := acc) (L := L0) hx lk (by omega) (by rw [← ad]; omega)
        rw [← ad] at step
        have hxr : Rb (adjP pr) l x := h3 x (.inr (by simp))
        obtain ⟨R', d, e1, e2, e3⟩ := search ok f (R ++ [x]) (L0 ++ adjP pr x) (by rw [List.length_append]; omega) (by omega)
          (by rw [List.nodup_append]; exact ⟨hn, by simp, fun y hy z hz => by simp at hz; subst hz; exact fun q => hx (q ▸ hy)⟩)
          (fun y hy => by
            rcases List.mem_append.mp hy with hy | hy
            · exact h1 y hy
            · simp at hy; subst hy; exact xm)
          (fun y hy => by
            rcases List.mem_append.mp hy with hy | hy
            · exact h2 y (List.mem_append_left _ hy)
            · exact pp.2.1 y hy)
          (fun y hy => by
            rcases hy with hy | hy
            · rcases List.mem_append.mp hy with hy | hy
              · exact h3 y (.inl hy)
              · simp at hy; subst hy; exact hxr
            · rcases List.mem_append.mp hy with hy | hy
              · exact h3 y (.inr (List.mem_append_left _ hy))
              · exact .step hxr hy)
          (fun y hy z hz => by
            rcases List.mem_append.mp hy with hy | hy
            · rcases h4 y hy z hz with q | q
              · exact .inl (List.mem_append_left _ q)
              · rcases List.mem_append.mp q with q | q
                · exact .inr (List.mem_append_left _ q)
                · exact .inl (List.mem_append_right _ q)
            · simp at hy; subst hy; exact .inr (List.mem_append_right _ hz))
        refine ⟨R', step.trans d, e1, e2, fun y hy => ?_⟩
        rcases hy with hy | hy
        · exact e3 y (.inl (List.mem_append_left _ hy))
        · rcases List.mem_append.mp hy with hy | hy
          · exact e3 y (.inr (List.mem_append_left _ hy))
          · simp at hy; subst hy; exact e3 y (.inl (by simp))
end
/-! ### what called_by tells -/
open Classical in
noncomputable def toldP (pr : List (Str × Bod)) (x : Str) : List Str := (pr.map (·.1)).filter fun y => decide (Rb (adjP pr) (adjP pr x) y)
noncomputable def cbE (pr : List (Str × Bod)) (r : Str × Bod) : D := .tup [.str r.1, .tup ((toldP pr r.1).map .str)]
theorem mu_bound {pr : List (Str × Bod)} (ok : OkP pr) : muS (adjP pr) (pr.map (·.1)) [] ≤ 180 := by
  have : ∀ nm : List Str, muS (adjP pr) nm [] ≤ nm.length * 45 := fun nm => by
    induction nm with
    | nil => simp [muS]
    | cons y nm ih =>
      have := (adj_props ok y).1
      unfold muS at ih ⊢
      simp only [List.map_cons, List.sum_cons, List.not_mem_nil, if_false, List.length_cons, Nat.succ_mul] at ih ⊢
      omega
  have h1 := this (pr.map (·.1))
  have h2 := ok.le
  rw [List.length_map] at h1
  omega
section
variable {w : World} {pr : List (Str × Bod)}
theorem in_lc {P : Str → Bool} {R : List Str} (hP : ∀ x, P x = decide (x ∈ R)) {a0 a1 a2 a3 a4 a6 a7 a8 a9 a10 a11 a12 : Option D} {st : Store} {n : Nat} (hs : st[n]? = some (.dic (rD R))) : ∀ q : List (Str × Bod), lcL (gT 2 (gsC (gN 13) (gsC (gN 5) (gsN)))) (mTB (mOp oIn (mV 13) (mV 6))) (E_called_by_2 w) [a0, a1, a2, a3, a4, none, some (.loc n), a7, a8, a9, a10, a11, a12, none] (q.map rowB) st = some (((q.map (·.1)).filter P).map .str, st)
  | [] => rfl
  | r :: q => by
    have ih := in_lc hP (a0 := a0) (a1 := a1) (a2 := a2) (a3 := a3) (a4 := a4) (a6 := a6) (a7 := a7) (a8 := a8) (a9 := a9) (a10 := a10) (a11 := a11) (a12 := a12) hs q
    have rd := rD_dec R r.1
    have u : E_called_by_2 w [a0, a1, a2, a3, a4, some (eB r.2), some (.loc n), a7, a8, a9, a10, a11, a12, some (.str r.1)] st = some (.str r.1, st) := by
      unfold E_called_by_2
      l_ints
    rw [List.map_cons, List.map_cons, lcL_cons]
    unfold rowB at *
    by_cases h : r.1 ∈ R
    · rw [List.filter_cons_of_pos (by rw [hP]; exact decide_eq_true h), List.map_cons]
      rw [decide_eq_true h] at rd
      clear hP h
      l_intsC
    · rw [List.filter_cons_of_neg (by rw [hP]; simpa using h)]
      rw [decide_eq_false h] at rd
      clear hP h
      l_intsC
theorem cb_turn (ok : OkP pr) {r : Str × Bod} (hr : r ∈ pr) {acc : List D} {G : Store} (hacc : acc.length < 100) {a3 a6 a7 a8 : Option D} :
    ∃ k6 k7 k8 g1 g2, L_called_by_3 w [some (progB pr), some (.loc 0), some (.str r.1), a3, some (.loc 1), some (eB r.2), a6, a7, a8, none, none, none, none, none] (.dic (tabP pr) :: .lst acc :: G) =
      some (.nx [some (progB pr), some (.loc 0), some (.str r.1), a3, some (.loc 1), some (eB r.2), k6, k7, k8, none, none, none, none, none], .dic (tabP pr) :: .lst (acc ++ [cbE pr r]) :: (G ++ [g1, g2])) := by
  have ad : adjP pr r.1 = dirs r.2 := adj_at pr ok.nd r hr
  have pp := adj_props ok r.1
  have mb := mu_bound ok
  obtain ⟨R', d, e1, e2, e3⟩ := search (w := w) (a0 := some (progB pr)) (a2 := some (.str r.1)) (a3 := a3) (a5 := some (eB r.2)) (G := G) (acc := acc) (l := adjP pr r.1) ok 1000 [] (adjP pr r.1) (by omega) (Nat.le_refl _) List.nodup_nil (fun _ h => (List.not_mem_nil h).elim) pp.2.1 (fun x hx => .base (hx.resolve_left (by simp))) (fun _ h => (List.not_mem_nil h).elim)
  obtain ⟨k8, rc⟩ := d a8
  have wh := rc.done td_end
  have lk : lkD (tabP pr) (.inr r.1) = some (txL (adjP pr r.1)) := by rw [ad]; exact lk_dK_some pr ok.nd hr
  have fl : ∀ x, (fun y => @decide (Rb (adjP pr) (adjP pr r.1) y) (Classical.propDecidable _)) x = decide (x ∈ R') := fun x => by
    by_cases h : x ∈ R'
    · rw [decide_eq_true h]
      exact @decide_eq_true _ (Classical.propDecidable _) (e1 x h)
    · rw [decide_eq_false h]
      exact @decide_eq_false _ (Classical.propDecidable _) fun z => h (z.sub (fun y hy => e3 y (.inr hy)) e2)
  have lc := in_lc (w := w) fl (a0 := some (progB pr)) (a1 := some (.loc 0)) (a2 := some (.str r.1)) (a3 := a3) (a4 := some (.loc 1)) (a6 := none) (a7 := some (.loc (G.length + 3))) (a8 := k8) (a9 := none) (a10 := none) (a11 := none) (a12 := none) (st := ST (tabP pr) acc G R' []) (n := G.length + 2) (by show (G ++ [D.dic (rD R'), txL []])[G.length]? = _; rw [st_app0]; rfl) pr
  have lc : lcL _ _ _ _ _ _ = some ((toldP pr r.1).map .str, _) := lc
  have hl : pr.length ≤ 16777216 := by have := ok.le; omega
  have hacc2 : acc.length < 16777216 := by omega
  refine ⟨some (.loc (G.length + 2)), some (.loc (G.length + 3)), k8, .dic (rD R'), txL [], ?_⟩
  have ep : pr.map rowB = pr.map fun r => D.tup [.str r.1, eB r.2] := rfl
  have r0 : rD [] = [] := rfl
  rw [ep] at lc
  unfold cbE
  generalize toldP pr r.1 = T at *
  generalize adjP pr r.1 = A at *
  clear e1 e2 e3 fl ad pp mb d rc hr ok ep hacc
  unfold L_called_by_3 R_called_by_1
  unfold EN ST txL at *
  rw [r0] at wh
  rw [List.map_nil] at *
  unfold progB at *
  l_intsC
theorem cb_turns (ok : OkP pr) : ∀ (q : List (Str × Bod)) (acc : List D) (G : Store) (a2 a3 a5 a6 a7 a8 : Option D), (∀ r ∈ q, r ∈ pr) → acc.length + q.length < 100 →
    ∃ k2 k5 k6 k7 k8 G', ForN (gT 2 (gsC (gN 2) (gsC (gN 5) (gsN)))) (L_called_by_3 w) (q.map rowB) [some (progB pr), some (.loc 0), a2, a3, some (.loc 1), a5, a6, a7, a8, none, none, none, none, none] (.dic (tabP pr) :: .lst acc :: G)
      [some (progB pr), some (.loc 0), k2, a3, some (.loc 1), k5, k6, k7, k8, none, none, none, none, none] (.dic (tabP pr) :: .lst (acc ++ q.map (cbE pr)) :: G')
  | [], acc, G, a2, a3, a5, a6, a7, a8, _, _ => ⟨a2, a5, a6, a7, a8, G, by rw [List.map_nil, List.map_nil, List.append_nil]; exact .nil⟩
  | r :: q, acc, G, a2, a3, a5, a6, a7, a8, h, hl => by
    rw [List.length_cons] at hl
    obtain ⟨k6, k7, k8, g1, g2, e⟩ := cb_turn (w := w) (a3 := a3) (a6 := a6) (a7 := a7) (a8 := a8) (G := G) (acc := acc) ok (h r (List.mem_cons_self ..)) (by omega)
    obtain ⟨i2, i5, i6, i7, i8, G', ih⟩ := cb_turns ok q (acc ++ [cbE pr r]) (G ++ [g1, g2]) (some (.str r.1)) a3 (some (eB r.2)) k6 k7 k8 (fun p hp => h p (List.mem_cons_of_mem _ hp)) (by rw [List.length_append, List.length_singleton]; omega)
    rw [List.append_assoc] at ih
    refine ⟨i2, i5, i6, i7, i8, G', ?_⟩
    rw [List.map_cons, List.map_cons]
    refine ForN.nx (e1 := [some (progB pr), some (.loc 0), some (.str r.1), a3, some (.loc 1), some (eB r.2), a6, a7, a8, none, none, none, none, none]) (s1 := .dic (tabP pr) :: .lst acc :: G) ?_ e ih
    unfold rowB
    l_ints
theorem los_cbE {m : Nat} (q : List (Str × Bod)) : los m (q.map (cbE pr)) = true := los_mapm _ fun r _ => by
  have := los_map (n := m) (f := D.str) (fun _ => rfl) (toldP pr r.1)
  simp [cbE, lo, los, this]
theorem called_by_eq (ok : OkP pr) : F_called_by w [progB pr] [] = some (.tup (pr.map (cbE pr)), []) := by
  have e1 := alternatives_p (w := w) ok
  obtain ⟨k2, k3, e2⟩ := tab_turns (w := w) (a0 := some (progB pr)) (a4 := none) (a5 := none) (a6 := none) (a7 := none) (a8 := none) (nm := pr.map (·.1)) (by rw [List.length_map]; exact ok.le) pr [] none none ok.ok (by rw [List.nil_append]; exact ok.nd) (by have := ok.le; rw [List.nil_append]; omega)
  have e2 := e2.end
  rw [List.nil_append] at e2
  have t0 : tabP [] = [] := rfl
  rw [t0] at e2
  obtain ⟨i2, i5, i6, i7, i8, G', e3⟩ := cb_turns (w := w) ok pr [] [] k2 k3 none none none none (fun _ h => h) (by have := ok.le; simp; omega)
  have e3 := e3.end
  rw [List.nil_append] at e3
  have fe : fin [] (.tup (pr.map (cbE pr))) (.dic (tabP pr) :: .lst (pr.map (cbE pr)) :: G') = some (.tup (pr.map (cbE pr)), []) := fin_app (st := []) (g := .dic (tabP pr) :: .lst (pr.map (cbE pr)) :: G') (los_cbE pr)
  have ep : pr.map rowB = pr.map fun r => D.tup [.str r.1, eB r.2] := rfl
  rw [ep] at e3
  clear ok t0
  unfold F_called_by B_called_by R_called_by_3 R_called_by_2
  unfold progB at *
  l_intsC
theorem called_by_p (ok : OkP pr) (st : Store) : pureF (F_called_by w) [progB pr] st = some (.tup (pr.map (cbE pr)), st) := pure_eq (called_by_eq ok) (by simp only [los, lo_progB, Bool.and_true])
end
end K31
end
section
set_option Elab.async false
set_option autoImplicit false
set_option linter.all false
set_option maxRecDepth 100000
set_option maxHeartbeats 2000000
namespace K31
open PySem L2 Mn
/-! ### rounds that add what is called -/
def nxtL (adj : Str → List Str) (f : List Str) : List Str := f ++ (f.flatMap adj).filter fun x => decide (x ∉ f)
def dOf (nm f : List Str) : Nat := (nm.filter fun x => decide (x ∈ f)).length
theorem d_le (nm f : List Str) : dOf nm f ≤ nm.length := List.length_filter_le ..
theorem filter_mono {p q : Str → Bool} (h : ∀ x, p x = true → q x = true) : ∀ l : List Str, (l.filter p).length ≤ (l.filter q).length
  | [] => by simp
  | x :: l => by
    have ih := filter_mono h l
    by_cases hp : p x = true
    · rw [List.filter_cons_of_pos hp, List.filter_cons_of_pos (h x hp)]
      simp only [List.length_cons]; omega
    · rw [List.filter_cons_of_neg hp]
      by_cases hq : q x = true
      · rw [List.filter_cons_of_pos hq]; simp only [List.length_cons]; omega
      · rw [List.filter_cons_of_neg hq]; exact ih
theorem d_mono {nm f g : List Str} (h : ∀ x ∈ f, x ∈ g) : dOf nm f ≤ dOf nm g := filter_mono (fun x hx => by
  have : x ∈ f := of_decide_eq_true hx
  exact decide_eq_true (h x this)) nm
theorem filter_lt {p q : Str → Bool} (h : ∀ x, p x = true → q x = true) {a : Str} (hp : p a = false) (hq : q a = true) : ∀ l : List Str, a ∈ l → (l.filter p).length + 1 ≤ (l.filter q).length
  | [], hm => (List.not_mem_nil hm).elim
  | x :: l, hm => by
    rcases List.mem_cons.mp hm with rfl | hm
    · rw [List.filter_cons_of_neg (by rw [hp]; decide), List.filter_cons_of_pos hq]
      have := filter_mono h l
      simp only [List.length_cons]; omega
    · have ih := filter_lt h hp hq l hm
      by_cases hx : p x = true
      · rw [List.filter_cons_of_pos hx, List.filter_cons_of_pos (h x hx)]
        simp only [List.length_cons]; omega
      · rw [List.filter_cons_of_neg hx]
        by_cases hq' : q x = true
        · rw [List.filter_cons_of_pos hq']; simp only [List.length_cons]; omega
        · rw [List.filter_cons_of_neg hq']; exact ih
theorem d_lt {nm f g : List Str} (h : ∀ x ∈ f, x ∈ g) {a : Str} (ha : a ∈ nm) (h1 : a ∉ f) (h2 : a ∈ g) : dOf nm f + 1 ≤ dOf nm g := filter_lt (fun x hx => by
  have : x ∈ f := of_decide_eq_true hx
  exact decide_eq_true (h x this)) (decide_eq_false h1) (decide_eq_true h2) nm ha
theorem d_lt2 {nm f g : List Str} (h : ∀ x ∈ f, x ∈ g) {a b : Str} (hab : a ≠ b) (ha : a ∈ nm) (hb : b ∈ nm) (h1 : a ∉ f) (h2 : a ∈ g) (h3 : b ∉ f) (h4 : b ∈ g) : dOf nm f + 2 ≤ dOf nm g := by
  have e1 := d_lt (nm := nm) (f := f) (g := a :: f) (fun x hx => List.mem_cons_of_mem _ hx) ha h1 (List.mem_cons_self ..)
  have e2 := d_lt (nm := nm) (f := a :: f) (g := g) (fun x hx => by
    rcases List.mem_cons.mp hx with rfl | hx
    · exact h2
    · exact h x hx) hb (fun z => by
    rcases List.mem_cons.mp z with z | z
    · exact hab z.symm
    · exact h3 z) h4
  omega
/-- what is known of the calls -/
structure OkA (adj : Str → List Str) (nm : List Str) : Prop where
  len : ∀ x, (adj x).length ≤ 45
  inn : ∀ x, ∀ y ∈ adj x, y ∈ nm
  cnt : ∀ x q, (adj x).count q ≤ 24
def Clo (adj : Str → List Str) (f : List Str) : Prop := ∀ y ∈ f, ∀ z ∈ adj y, z ∈ f
structure Rnd (adj : Str → List Str) (nm l f : List Str) : Prop where
  split : ∃ old new, f = old ++ new ∧ (∀ x ∈ old, ∀ z ∈ adj x, z ∈ f) ∧ new.length ≤ 24 ^ dOf nm f
  size : 23 * f.length + 24 ≤ 24 ^ (dOf nm f + 1)
  inn : ∀ x ∈ f, x ∈ nm
  snd : ∀ x ∈ f, Rb adj l x
  sup : ∀ x ∈ l, x ∈ f
section
variable {adj : Str → List Str} {nm l : List Str}
theorem len_one {q : Str} {L : List Str} (h : ∀ x ∈ L, x = q) : L.length = L.count q := (List.count_eq_length.mpr fun x hx => (h x hx).symm).symm
theorem p24 {a b : Nat} (h : a ≤ b) : 24 ^ a ≤ 24 ^ b := Nat.pow_le_pow_right (by decide) h
theorem one_or_two {nm f : List Str} (hn : ∀ x ∈ f, x ∈ nm) (g : List Str) (hg : ∀ x ∈ g, x ∈ nm) (hf : ∀ x ∈ g, x ∉ f) : g = [] ∨ (∃ q, q ∈ g ∧ ∀ x ∈ g, x = q) ∨ ∃ a b, a ≠ b ∧ a ∈ g ∧ b ∈ g := by
  cases g with
  | nil => exact .inl rfl
  | cons q g =>
    by_cases h : ∀ x ∈ q :: g, x = q
    · exact .inr (.inl ⟨q, List.mem_cons_self .., h⟩)
    · refine .inr (.inr ?_)
      have ⟨x, hx⟩ := Classical.not_forall.mp h
      have ⟨h1, h2⟩ := Classical.not_imp.mp hx
      exact ⟨x, q, h2, h1, List.mem_cons_self ..⟩
theorem rnd_start (ok : OkA adj nm) (y : Str) : Rnd adj nm (adj y) (adj y) := by
  have h1 := ok.len y
  have hd : (adj y).length ≤ 24 ^ dOf nm (adj y) ∧ 23 * (adj y).length + 24 ≤ 24 ^ (dOf nm (adj y) + 1) := by
    rcases one_or_two (nm := nm) (f := []) (fun _ h => (List.not_mem_nil h).elim) (adj y) (ok.inn y) (fun _ _ h => (List.not_mem_nil h).elim) with h | ⟨q, hq, h⟩ | ⟨a, b, hab, ha, hb⟩
    · rw [h]
      have := p24 (Nat.zero_le (dOf nm []))
      have e : 24 ^ (dOf nm [] + 1) = 24 ^ dOf nm [] * 24 := Nat.pow_succ ..
      simp only [List.length_nil]
      simp at this
      omega
    · have hl := len_one h
      have hc := ok.cnt y q
      have d1 := d_lt (nm := nm) (f := []) (g := adj y) (fun _ h => (List.not_mem_nil h).elim) (ok.inn y q hq) (by simp) hq
      have p1 := p24 (show 1 ≤ dOf nm (adj y) by omega)
      have e : 24 ^ (dOf nm (adj y) + 1) = 24 ^ dOf nm (adj y) * 24 := Nat.pow_succ ..
      simp at p1
      omega
    · have d1 := d_lt2 (nm := nm) (f := []) (g := adj y) (fun _ h => (List.not_mem_nil h).elim) hab (ok.inn y a ha) (ok.inn y b hb) (by simp) ha (by simp) hb
      have p1 := p24 (show 2 ≤ dOf nm (adj y) by omega)
      have e : 24 ^ (dOf nm (adj y) + 1) = 24 ^ dOf nm (adj y) * 24 := Nat.pow_succ ..
      have e2 : (24 : Nat) ^ 2 = 576 := by decide
      omega
  exact ⟨⟨[], adj y, rfl, fun _ h => (List.not_mem_nil h).elim, hd.1⟩, hd.2, ok.inn y, fun x hx => .base hx, fun x hx => hx⟩
theorem flat_lenI {g : Str → List Str} {k : Nat} : ∀ L : List Str, (∀ x ∈ L, (g x).length ≤ k) → (L.flatMap g).length ≤ k * L.length
  | [], _ => by simp
  | x :: L, h => by
    have := h x (List.mem_cons_self ..)
    have := flat_lenI L fun y hy => h y (List.mem_cons_of_mem _ hy)
    rw [List.flatMap_cons, List.length_append, List.length_cons, Nat.mul_succ]
    omega
theorem flat_len {g : Str → List Str} {k : Nat} (h : ∀ x, (g x).length ≤ k) (L : List Str) : (L.flatMap g).length ≤ k * L.length := flat_lenI L fun x _ => h x
theorem filter_flat (p : Str → Bool) (g : Str → List Str) : ∀ L : List Str, (L.flatMap g).filter p = L.flatMap fun x => (g x).filter p
  | [] => rfl
  | x :: L => by rw [List.flatMap_cons, List.filter_append, filter_flat p g L, List.flatMap_cons]
theorem rnd_step (ok : OkA adj nm) {f : List Str} (r : Rnd adj nm l f) : Rnd adj nm l (nxtL adj f) ∧ (nxtL adj f = f ∧ Clo adj f ∨ dOf nm f + 1 ≤ dOf nm (nxtL adj f)) := by
  obtain ⟨old, new, hs, hc, hl⟩ := r.split
  obtain ⟨add, hadd⟩ : ∃ add, add = (f.flatMap adj).filter fun x => decide (x ∉ f) := ⟨_, rfl⟩
  have e0 : nxtL adj f = f ++ add := by rw [hadd]; rfl
  have hold : (old.flatMap adj).filter (fun x => decide (x ∉ f)) = [] := by
    rw [List.filter_eq_nil_iff]
    intro z hz
    obtain ⟨x, hx, hzx⟩ := List.mem_flatMap.mp hz
    simpa using hc x hx z hzx
  have e1 : add = new.flatMap fun x => (adj x).filter fun x => decide (x ∉ f) := by
    rw [← filter_flat, hadd]
    conv => lhs; rw [show f.flatMap adj = old.flatMap adj ++ new.flatMap adj by rw [hs, List.flatMap_append]]
    rw [List.filter_append, hold, List.nil_append]
  have am : ∀ z, z ∈ add → z ∉ f ∧ z ∈ nm ∧ ∃ x ∈ f, z ∈ adj x := fun z hz => by
    rw [hadd] at hz
    obtain ⟨h1, h2⟩ := List.mem_filter.mp hz
    obtain ⟨x, hx, hzx⟩ := List.mem_flatMap.mp h1
    exact ⟨by simpa using h2, ok.inn x z hzx, x, hx, hzx⟩
  have ma : ∀ x ∈ f, ∀ z ∈ adj x, z ∈ f ++ add := fun x hx z hz => by
    by_cases hzf : z ∈ f
    · exact List.mem_append_left _ hzf
    · refine List.mem_append_right _ ?_
      rw [hadd]
      exact List.mem_filter.mpr ⟨List.mem_flatMap.mpr ⟨x, hx, hz⟩, by simpa using hzf⟩
  have inn' : ∀ x ∈ f ++ add, x ∈ nm := fun x hx => (List.mem_append.mp hx).elim (r.inn x) fun h => (am x h).2.1
  have snd' : ∀ x ∈ f ++ add, Rb adj l x := fun x hx => (List.mem_append.mp hx).elim (r.snd x) fun h => by
    obtain ⟨_, _, y, hy, hz⟩ := am x h
    exact .step (r.snd y hy) hz
  have sup' : ∀ x ∈ l, x ∈ f ++ add := fun x hx => List.mem_append_left _ (r.sup x hx)
  have sub : ∀ x ∈ f, x ∈ f ++ add := fun x hx => List.mem_append_left _ hx
  rw [e0]
  rcases one_or_two (nm := nm) r.inn add (fun x hx => (am x hx).2.1) (fun x hx => (am x hx).1) with h | ⟨q, hq, h⟩ | ⟨a, b, hab, ha, hb⟩
  · -- nothing is added
    rw [h, List.append_nil] at ma ⊢
    exact ⟨⟨⟨f, [], (List.append_nil f).symm, ma, Nat.zero_le _⟩, r.size, r.inn, r.snd, r.sup⟩, .inl ⟨rfl, ma⟩⟩
  · have d1 := d_lt (nm := nm) sub (am q hq).2.1 (am q hq).1 (List.mem_append_right _ hq)
    have al : add.length ≤ 24 * new.length := by
      rw [e1]
      refine flat_lenI new fun x hx => ?_
      have : ∀ z ∈ (adj x).filter (fun x => decide (x ∉ f)), z = q := fun z hz => h z (by rw [e1]; exact List.mem_flatMap.mpr ⟨x, hx, hz⟩)
      rw [len_one this]
      exact Nat.le_trans (List.filter_sublist.count_le q) (ok.cnt x q)
    have p1 := p24 d1
    have e : 24 ^ (dOf nm f + 1) = 24 ^ dOf nm f * 24 := Nat.pow_succ ..
    have e2 : 24 ^ (dOf nm (f ++ add) + 1) = 24 ^ dOf nm (f ++ add) * 24 := Nat.pow_succ ..
    have sz := r.size
    refine ⟨⟨⟨f, add, rfl, ma, by omega⟩, by rw [List.length_append]; omega, inn', snd', sup'⟩, .inr d1⟩
  · have d1 := d_lt2 (nm := nm) sub hab (am a ha).2.1 (am b hb).2.1 (am a ha).1 (List.mem_append_right _ ha) (am b hb).1 (List.mem_append_right _ hb)
    have al : add.length ≤ 45 * new.length := by
      rw [e1]
      exact flat_len (fun x => Nat.le_trans (List.length_filter_le ..) (ok.len x)) new
    have p1 := p24 d1
    have e : 24 ^ (dOf nm f + 1) = 24 ^ dOf nm f * 24 := Nat.pow_succ ..
    have e3 : 24 ^ (dOf nm f + 2) = 24 ^ dOf nm f * 576 := by rw [Nat.pow_add]
    have e2 : 24 ^ (dOf nm (f ++ add) + 1) = 24 ^ dOf nm (f ++ add) * 24 := Nat.pow_succ ..
    have sz := r.size
    refine ⟨⟨⟨f, add, rfl, ma, by omega⟩, by rw [List.length_append]; omega, inn', snd', sup'⟩, .inr (by omega)⟩
/-- so many rounds -/
def rounds (adj : Str → List Str) : Nat → List Str → List Str
  | 0, f => f
  | k + 1, f => nxtL adj (rounds adj k f)
theorem rnds (ok : OkA adj nm) (y : Str) : ∀ k, Rnd adj nm (adj y) (rounds adj k (adj y)) ∧ (Clo adj (rounds adj k (adj y)) ∨ k + 1 ≤ dOf nm (rounds adj k (adj y)))
  | 0 => by
    refine ⟨rnd_start ok y, ?_⟩
    show Clo adj (adj y) ∨ 0 + 1 ≤ dOf nm (adj y)
    by_cases h : adj y = []
    · rw [h]
      exact .inl fun _ h => (List.not_mem_nil h).elim
    · obtain ⟨q, hq⟩ := List.exists_mem_of_ne_nil _ h
      have := d_lt (nm := nm) (f := []) (g := adj y) (fun _ h => (List.not_mem_nil h).elim) (a := q) (ok.inn y q hq) (by simp) hq
      exact .inr (by omega)
  | k + 1 => by
    obtain ⟨r, h⟩ := rnds ok y k
    obtain ⟨r', h'⟩ := rnd_step ok r
    refine ⟨r', ?_⟩
    rcases h' with ⟨e, c⟩ | d
    · refine .inl ?_
      show Clo adj (nxtL adj _)
      rw [e]
      exact c
    · rcases h with h | h
      · refine .inl ?_
        have e : nxtL adj (rounds adj k (adj y)) = rounds adj k (adj y) := by
          unfold nxtL
          have : ((rounds adj k (adj y)).flatMap adj).filter (fun x => decide (x ∉ rounds adj k (adj y))) = [] := by
            rw [List.filter_eq_nil_iff]
            intro z hz
            obtain ⟨x, hx, hzx⟩ := List.mem_flatMap.mp hz
            simpa using h x hx z hzx
          rw [this, List.append_nil]
        show Clo adj (nxtL adj _)
        rw [e]
        exact h
      · exact .inr (by show k + 1 + 1 ≤ dOf nm (nxtL adj _); omega)
theorem rnds_bound (ok : OkA adj nm) (hn : nm.length ≤ 4) (y : Str) (k : Nat) : (rounds adj k (adj y)).length ≤ 346200 ∧ ((rounds adj k (adj y)).flatMap adj).length ≤ 15579000 := by
  have r := (rnds ok y k).1.size
  have d := d_le nm (rounds adj k (adj y))
  have p := p24 (show dOf nm (rounds adj k (adj y)) + 1 ≤ 5 by omega)
  have e : (24 : Nat) ^ 5 = 7962624 := by decide
  have f := flat_len ok.len (rounds adj k (adj y))
  omega
/-- after as many rounds as there are names: all that is reached -/
theorem rnds_all (ok : OkA adj nm) (y x : Str) : x ∈ rounds adj nm.length (adj y) ↔ Rb adj (adj y) x := by
  obtain ⟨r, h⟩ := rnds ok y nm.length
  have d := d_le nm (rounds adj nm.length (adj y))
  have c : Clo adj (rounds adj nm.length (adj y)) := h.resolve_right (by omega)
  exact ⟨r.snd x, fun h => h.sub r.sup c⟩
end
theorem ok_adj {pr : List (Str × Bod)} (ok : OkP pr) : OkA (adjP pr) (pr.map (·.1)) := ⟨fun x => (adj_props ok x).1, fun x => (adj_props ok x).2.1, fun x => (adj_props ok x).2.2⟩
end K31
end
section
set_option Elab.async false
set_option autoImplicit false
set_option linter.all false
set_option maxRecDepth 100000
set_option maxHeartbeats 2000000
namespace K31
open PySem L2 Mn
local macro_rules | `(tactic| l_ints) => `(tactic| simp only [bnd_some', ret1_some', sSeq_eq, kThen_nx, kThen_rt, kThen_bk, kThen_ct, sNil_eq, sAsg_eq, kAsg_eq, sDrop_eq, kDrop_eq, sRet_eq, kRet_eq, sRetN_eq, sBreak_eq, sCont_eq, sIf_eq, kIf_true, kIf_false, sTgt_eq, kTgt1_eq, kTgt2_eq, sPar_eq, kPar2_eq, sPar3_eq, kPar3_eq, sFor_eq, kFor_eq, sAug_eq, kAug_eq, kAug1_eq, mV_eq, kGot_eq, mC_eq, mOp_eq, kOp1_eq, kOp2_eq, mTB_eq, kB_eq, mAnd_eq, kAnd_true, kAnd_false, mOr_eq, kOr_true, kOr_false, mNot_eq, kNot_eq, mIte_eq, kIte_true, kIte_false, mAndV_eq, kAndV_true, kAndV_false, mOrV_eq, kOrV_true, kOrV_false, mNotV_eq, kNotV_eq, mNil_eq, mCons_eq, kCons1_eq, kCons2_eq, mTup_eq, kTup_eq, mLst_eq, kLst_eq, mFrz_eq, kFrz_eq, mMut_eq, kMut_eq, mCall_eq, mCB_eq, kCB_eq, mCBL_eq, kCBL_eq, mTr_eq, kTr_eq, mNeg_eq, kNeg_eq, mChain_eq, kChn1_eq, kChn2_eq, kChn_true, kChn_false, gN_eq, gsN_eq, gsC_eq, kGs_eq, gT_eq, gTp_eq, gSet_eq, kSet1_eq, kSet2_eq, kSetE_eq, setO_eq, setL_nat, setL_lit, setL_str, mMt_eq, kMt1_eq, kMt1'_eq, kMt2_eq, kMt2'_eq, kMt3_eq, fApp_eq, fPop_eq, kPop_eq, getLast_snoc, dropLast_snoc, fExt_eq, kExt_eq, oAdd_int, oAdd_str, oAdd_tup, oAdd_lst, oAdd_loc, kCat_eq, lstD_lst, lstD_loc, isLst_eq, seqD_tup, seqD_lst, seqD_rol, seqD_loc, dicD_dic, dicD_loc, isDic_eq, oSub_int, oMul_int, oDiv_int, oMod_int, oI_plus, oI_minus, oLt_int, oLe_int, oGt_int, oGe_int, oEq_int, oEq_str, oEq_bl, oNe_int, oNe_str, oNe_bl, oIs_non, oIsNot_non, isN_non, isN_int, isN_bl, isN_str, isN_tup, isN_lst, isN_loc, atI_lit, atI_natc, atI_neg1, ixO_tup, ixO_lst, ixO_dics, ixO_dici, ixO_locs, ixO_loci, ixL_lst, ixL_dics, ixL_dici, cLen_tup, cLen_lst, cLen_dic, cLen_loc, lenL_lst, lenL_dic, cInt_int, cInt_bl, cAbs_int, cTup_tup, cTup_lst, cTup_loc, tupL_eq, cList_eq, cBls_lst, blsA_eq, fAll_eq, fAny_eq, truD_lst, truD_tup, truD_bl, truD_int, truD_non, truD_loc, truL_lst, truL_dic, itD_tup, itD_lst, miSeq_eq, kIt_eq, miR1_eq, kR1_eq, miR2_eq, kR2_eq, mSl_eq, kSl1_eq, kSl2_eq, kSl3_eq, mNoP_eq, mPart_eq, kPart_eq, slD_tup, slD_lst, slD_rol, slD_loc, slA_eq, mIsi_eq, kIsi_eq, tyD_non, tyD_bl, tyD_int, tyD_str, tyD_tup, tyD_lst, isi_NoneType_tuple, isi_NoneType_list, isi_NoneType_int, isi_NoneType_str, isi_NoneType_bool, isi_NoneType_int_str, isi_bool_tuple, isi_bool_list, isi_bool_int, isi_bool_str, isi_bool_bool, isi_bool_int_str, isi_int_tuple, isi_int_list, isi_int_int, isi_int_str, isi_int_bool, isi_int_int_str, isi_str_tuple, isi_str_list, isi_str_int, isi_str_str, isi_str_bool, isi_str_int_str, isi_tuple_tuple, isi_tuple_list, isi_tuple_int, isi_tuple_str, isi_tuple_bool, isi_tuple_int_str, isi_list_tuple, isi_list_list, isi_list_int, isi_list_str, isi_list_bool, isi_list_int_str, mDicF_eq, kDicF_eq, mDicM_eq, kDicM_eq, dicA_eq, dicB_eq, mDic0_eq, mGet1_eq, kGet1_eq, kGet1a_eq, mGet2_eq, kGet2_eq, kGet2a_eq, kGet2b_eq, kGet3_str, kGet3_int, kForB_eq, kForS_nx, kForS_ct, kForS_bk, kForS_rt, kWh_true, kWh_false, kWhS_nx, kWhS_ct, kWhS_bk, kWhS_rt, mLc_eq, kLc_eq, kLc1_eq, kLc2_true, kLc2_false, kLc3_eq, kLc4_eq, mYes_eq, wipeE_nil, wipeE_cons, mFun_0, mFun_1, mFun_2, mFun_3, mFun_4, mFun_5, mFun_6, mFun_7, mFun_8, mFunL_0, mFunL_1, mFunL_2, mFunL_3, mFunL_4, mFunL_5, mFunL_6, mFunL_7, mFunL_8, endW_rt, endW_nx, mRev_eq, kRev_eq, miTxt_eq, kTxt_eq, oIsB_bl, oIsNotB_bl, oIn_eq, oNotIn_eq, kIn_eq, kNIn_eq, inO_sign, inA_eq, inO_tup, inO_lst, inO_loc, inL_lst, inL_dics, inL_dici, inO_dics, inO_dici, flatD_non, flatD_bl, flatD_int, flatD_str, ixO_dkls, ixO_dkli, inO_dkls, inO_dkli, dicD_dkl, mDitN_eq, ixDN_eq, kIxN_eq, setN_eq, gSetN_eq, kSetN1_eq, kSetN2_eq, kSetN3_eq, mGet2N_eq, kGetN1_eq, kGetN2_eq, kGetN3_eq, kGetN4_eq, miKeysN_eq, kKeysN_eq, miKeysL_eq, kKeysL_eq, sForP_eq, kForP_eq, kForP2_eq, keepM_eq, mLc2_eq, kLd_eq, kLd1_eq, kLd2_true, kLd2_false, kLd2b_eq, kLd3_eq, kLd4_eq, Nat.reduceSub, Nat.reduceAdd, Nat.reduceLeDiff, Nat.reduceLT, Nat.reduceEqDiff, Int.reduceLT, Int.reduceLE, Int.reduceAdd, Int.reduceSub, Int.reduceNeg, Int.reduceMul, Int.reduceToNat, Int.reduceBEq, fits_lit, List.getElem?_cons_zero, List.getElem?_cons_succ, List.getElem?_nil, List.set_cons_zero, List.set_cons_succ, List.set_nil, List.length_cons, List.length_nil, List.length_set, List.length_map, List.length_append, List.set_set, List.replicate_succ, List.replicate_zero, List.isEmpty_nil, List.isEmpty_cons, List.nil_append, List.cons_append, List.append_assoc, Bool.not_true, Bool.not_false, decide_true, decide_false, if_true, if_false, Bool.false_eq_true, Option.getD_none, Option.getD_some, Option.isSome_none, Option.isSome_some, st_app, st_app0, st_set, st_set0, List.getLast?_nil, getLast_snoc, dropLast_snoc])
local macro_rules | `(tactic| l_intsC) => `(tactic| simp only [bnd_some', ret1_some', sSeq_eq, kThen_nx, kThen_rt, kThen_bk, kThen_ct, sNil_eq, sAsg_eq, kAsg_eq, sDrop_eq, kDrop_eq, sRet_eq, kRet_eq, sRetN_eq, sBreak_eq, sCont_eq, sIf_eq, kIf_true, kIf_false, sTgt_eq, kTgt1_eq, kTgt2_eq, sPar_eq, kPar2_eq, sPar3_eq, kPar3_eq, sFor_eq, kFor_eq, sAug_eq, kAug_eq, kAug1_eq, mV_eq, kGot_eq, mC_eq, mOp_eq, kOp1_eq, kOp2_eq, mTB_eq, kB_eq, mAnd_eq, kAnd_true, kAnd_false, mOr_eq, kOr_true, kOr_false, mNot_eq, kNot_eq, mIte_eq, kIte_true, kIte_false, mAndV_eq, kAndV_true, kAndV_false, mOrV_eq, kOrV_true, kOrV_false, mNotV_eq, kNotV_eq, mNil_eq, mCons_eq, kCons1_eq, kCons2_eq, mTup_eq, kTup_eq, mLst_eq, kLst_eq, mFrz_eq, kFrz_eq, mMut_eq, kMut_eq, mCall_eq, mCB_eq, kCB_eq, mCBL_eq, kCBL_eq, mTr_eq, kTr_eq, mNeg_eq, kNeg_eq, mChain_eq, kChn1_eq, kChn2_eq, kChn_true, kChn_false, gN_eq, gsN_eq, gsC_eq, kGs_eq, gT_eq, gTp_eq, gSet_eq, kSet1_eq, kSet2_eq, kSetE_eq, setO_eq, setL_nat, setL_lit, setL_str, mMt_eq, kMt1_eq, kMt1'_eq, kMt2_eq, kMt2'_eq, kMt3_eq, fApp_eq, fPop_eq, kPop_eq, getLast_snoc, dropLast_snoc, fExt_eq, kExt_eq, oAdd_int, oAdd_str, oAdd_tup, oAdd_lst, oAdd_loc, kCat_eq, lstD_lst, lstD_loc, isLst_eq, seqD_tup, seqD_lst, seqD_rol, seqD_loc, dicD_dic, dicD_loc, isDic_eq, oSub_int, oMul_int, oDiv_int, oMod_int, oI_plus, oI_minus, oLt_int, oLe_int, oGt_int, oGe_int, oEq_int, oEq_str, oEq_bl, oNe_int, oNe_str, oNe_bl, oIs_non, oIsNot_non, isN_non, isN_int, isN_bl, isN_str, isN_tup, isN_lst, isN_loc, atI_lit, atI_natc, atI_neg1, ixO_tup, ixO_lst, ixO_dics, ixO_dici, ixO_locs, ixO_loci, ixL_lst, ixL_dics, ixL_dici, cLen_tup, cLen_lst, cLen_dic, cLen_loc, lenL_lst, lenL_dic, cInt_int, cInt_bl, cAbs_int, cTup_tup, cTup_lst, cTup_loc, tupL_eq, cList_eq, cBls_lst, blsA_eq, fAll_eq, fAny_eq, truD_lst, truD_tup, truD_bl, truD_int, truD_non, truD_loc, truL_lst, truL_dic, itD_tup, itD_lst, miSeq_eq, kIt_eq, miR1_eq, kR1_eq, miR2_eq, kR2_eq, mSl_eq, kSl1_eq, kSl2_eq, kSl3_eq, mNoP_eq, mPart_eq, kPart_eq, slD_tup, slD_lst, slD_rol, slD_loc, slA_eq, mIsi_eq, kIsi_eq, tyD_non, tyD_bl, tyD_int, tyD_str, tyD_tup, tyD_lst, isi_NoneType_tuple, isi_NoneType_list, isi_NoneType_int, isi_NoneType_str, isi_NoneType_bool, isi_NoneType_int_str, isi_bool_tuple, isi_bool_list, isi_bool_int, isi_bool_str, isi_bool_bool, isi_bool_int_str, isi_int_tuple, isi_int_list, isi_int_int, isi_int_str, isi_int_bool, isi_int_int_str, isi_str_tuple, isi_str_list, isi_str_int, isi_str_str, isi_str_bool, isi_str_int_str, isi_tuple_tuple, isi_tuple_list, isi_tuple_int, isi_tuple_str, isi_tuple_bool, isi_tuple_int_str, isi_list_tuple, isi_list_list, isi_list_int, isi_list_str, isi_list_bool, isi_list_int_str, mDicF_eq, kDicF_eq, mDicM_eq, kDicM_eq, dicA_eq, dicB_eq, mDic0_eq, mGet1_eq, kGet1_eq, kGet1a_eq, mGet2_eq, kGet2_eq, kGet2a_eq, kGet2b_eq, kGet3_str, kGet3_int, kForB_eq, kForS_nx, kForS_ct, kForS_bk, kForS_rt, kWh_true, kWh_false, kWhS_nx, kWhS_ct, kWhS_bk, kWhS_rt, mLc_eq, kLc_eq, kLc1_eq, kLc2_true, kLc2_false, kLc3_eq, kLc4_eq, mYes_eq, wipeE_nil, wipeE_cons, mFun_0, mFun_1, mFun_2, mFun_3, mFun_4, mFun_5, mFun_6, mFun_7, mFun_8, mFunL_0, mFunL_1, mFunL_2, mFunL_3, mFunL_4, mFunL_5, mFunL_6, mFunL_7, mFunL_8, endW_rt, endW_nx, mRev_eq, kRev_eq, miTxt_eq, kTxt_eq, oIsB_bl, oIsNotB_bl, oIn_eq, oNotIn_eq, kIn_eq, kNIn_eq, inO_sign, inA_eq, inO_tup, inO_lst, inO_loc, inL_lst, inL_dics, inL_dici, inO_dics, inO_dici, flatD_non, flatD_bl, flatD_int, flatD_str, ixO_dkls, ixO_dkli, inO_dkls, inO_dkli, dicD_dkl, mDitN_eq, ixDN_eq, kIxN_eq, setN_eq, gSetN_eq, kSetN1_eq, kSetN2_eq, kSetN3_eq, mGet2N_eq, kGetN1_eq, kGetN2_eq, kGetN3_eq, kGetN4_eq, miKeysN_eq, kKeysN_eq, miKeysL_eq, kKeysL_eq, sForP_eq, kForP_eq, kForP2_eq, keepM_eq, mLc2_eq, kLd_eq, kLd1_eq, kLd2_true, kLd2_false, kLd2b_eq, kLd3_eq, kLd4_eq, Nat.reduceSub, Nat.reduceAdd, Nat.reduceLeDiff, Nat.reduceLT, Nat.reduceEqDiff, Int.reduceLT, Int.reduceLE, Int.reduceAdd, Int.reduceSub, Int.reduceNeg, Int.reduceMul, Int.reduceToNat, Int.reduceBEq, fits_lit, List.getElem?_cons_zero, List.getElem?_cons_succ, List.getElem?_nil, List.set_cons_zero, List.set_cons_succ, List.set_nil, List.length_cons, List.length_nil, List.length_set, List.length_map, List.length_append, List.set_set, List.replicate_succ, List.replicate_zero, List.isEmpty_nil, List.isEmpty_cons, List.nil_append, List.cons_append, List.append_assoc, Bool.not_true, Bool.not_false, decide_true, decide_false, if_true, if_false, Bool.false_eq_true, Option.getD_none, Option.getD_some, Option.isSome_none, Option.isSome_some, st_app, st_app0, st_set, st_set0, List.getLast?_nil, getLast_snoc, dropLast_snoc, *])
/-! ### tables over names -/
def tF (nm : List Str) (F : Str → List Str) : List (Key × D) := dK id (fun x => txL (F x)) nm
def updF (F : Str → List Str) (x : Str) (B : List Str) : Str → List Str := fun y => if y = x then B else F y
theorem updF_same (F : Str → List Str) (x : Str) (B : List Str) : updF F x B x = B := if_pos rfl
theorem updF_upd (F : Str → List Str) (x : Str) (A B : List Str) : updF (updF F x A) x B = updF F x B := by
  funext y
  unfold updF
  by_cases h : y = x <;> simp [h]
theorem lk_tF {F : Str → List Str} {x : Str} : ∀ nm : List Str, x ∈ nm → lkD (tF nm F) (.inr x) = some (txL (F x))
  | [], h => (List.not_mem_nil h).elim
  | y :: nm, h => by
    show (if (.inr (id y) : Key) = .inr x then some (txL (F y)) else lkD (tF nm F) (.inr x)) = _
    by_cases hy : y = x
    · subst hy; rw [if_pos (show (.inr (id y) : Key) = .inr y from rfl)]
    · have : ¬ ((.inr (id y) : Key) = .inr x) := fun z => hy (by injection z)
      rw [if_neg this]
      exact lk_tF nm ((List.mem_cons.mp h).resolve_left (Ne.symm hy))
theorem tF_congr {F F' : Str → List Str} : ∀ nm : List Str, (∀ x ∈ nm, F x = F' x) → tF nm F = tF nm F'
  | [], _ => rfl
  | y :: nm, h => by
    have ih := tF_congr nm fun x hx => h x (List.mem_cons_of_mem _ hx)
    show (_, txL (F y)) :: tF nm F = (_, txL (F' y)) :: tF nm F'
    rw [h y (List.mem_cons_self ..), ih]
theorem put_tF {F : Str → List Str} {x : Str} {B : List Str} {nm : List Str} (h : x ∈ nm) : putD (tF nm F) (.inr x) (txL B) = tF nm (updF F x B) := by
  unfold putD
  have ha : ((tF nm F).any fun kv => decide (kv.1 = .inr x)) = true := by
    rw [List.any_eq_true]
    exact ⟨(.inr x, txL (F x)), List.mem_map.mpr ⟨x, h, rfl⟩, by simp⟩
  rw [if_pos ha]
  unfold tF dK
  rw [List.map_map]
  refine List.map_congr_left fun y _ => ?_
  show (if (.inr (id y) : Key) = .inr x then _ else _) = _
  by_cases hy : y = x
  · subst hy
    rw [if_pos (show (.inr (id y) : Key) = .inr y from rfl)]
    show (_, txL B) = (_, txL (updF F y B y))
    rw [updF_same]
  · have : ¬ ((.inr (id y) : Key) = .inr x) := fun z => hy (by injection z)
    rw [if_neg this]
    simp [updF, hy]
theorem put_tF_new {F : Str → List Str} {x : Str} {B : List Str} {nm : List Str} (h : x ∉ nm) : putD (tF nm F) (.inr x) (txL B) = tF (nm ++ [x]) (updF F x B) := by
  unfold tF
  rw [put_dK_new (f := id) (x := x) nm fun a ha (z : a = x) => h (z ▸ ha)]
  have := tF_congr (F := F) (F' := updF F x B) nm fun y hy => by
    have : y ≠ x := fun z => h (z ▸ hy)
    simp [updF, this]
  unfold tF at this
  rw [this]
  unfold dK
  rw [List.map_append, List.map_cons, List.map_nil]
  have e : ((.inr x : Key), txL B) = ((.inr (id x) : Key), (fun y => txL (updF F x B y)) x) := by
    show _ = ((.inr x : Key), txL (updF F x B x))
    rw [updF_same F x B]
  rw [← e]
theorem tF_len (nm : List Str) (F : Str → List Str) : (tF nm F).length = nm.length := by simp [tF, dK]
/-- a slot that speaks of things below n, and of no thing otherwise -/
def okS (n : Nat) : Option D → Bool
  | none => true
  | some (.loc k) => decide (k < n)
  | some d => lo 0 d
section
variable {w : World} {S : Store} {b0 b1 b2 b3 b4 b7 b9 b10 b11 b12 b13 b14 b15 : Option D} {nm : List Str}
/-- the calls of one procedure, row by row -/
theorem row_calls {x : Str} (hx : x ∈ nm) {n : Nat} (hn : n = S.length) (hnm : nm.length < 100) : ∀ (R : List Way) (F : Str → List Str) (j8 : Option D), (F x).length + (R.flatMap (·.cs)).length < 1000 → okS 0 j8 = true →
    ∃ k8, okS 0 k8 = true ∧ ForN (gN 8) (L_law_1 w) (R.map eW) [b0, b1, b2, b3, b4, some (.loc n), some (.str x), b7, j8, b9, b10, b11, b12, b13, b14, b15] (S ++ [.dic (tF nm F)])
      [b0, b1, b2, b3, b4, some (.loc n), some (.str x), b7, k8, b9, b10, b11, b12, b13, b14, b15] (S ++ [.dic (tF nm (updF F x (F x ++ R.flatMap (·.cs))))])
  | [], F, j8, _, hj => ⟨j8, hj, by
    have e : tF nm (updF F x (F x ++ [])) = tF nm F := tF_congr nm fun y _ => by
      unfold updF
      by_cases h : y = x <;> simp [h]
    rw [List.flatMap_nil, e]
    exact .nil⟩
  | r :: R, F, j8, hl, _ => by
    rw [List.flatMap_cons, List.length_append] at hl
    obtain ⟨k8, hk8, ih⟩ := row_calls hx hn hnm R (updF F x (F x ++ r.cs)) (some (eW r)) (by rw [updF_same, List.length_append]; omega) (lo_eW r)
    rw [updF_same, updF_upd] at ih
    refine ⟨k8, hk8, ?_⟩
    rw [List.map_cons, List.flatMap_cons, ← List.append_assoc]
    refine ForN.nx (e1 := [b0, b1, b2, b3, b4, some (.loc n), some (.str x), b7, some (eW r), b9, b10, b11, b12, b13, b14, b15]) (s1 := S ++ [.dic (tF nm F)]) ?_ ?_ ih
    · l_ints
    · have lk := lk_tF (F := F) nm hx
      have pt := put_tF (F := F) (B := F x ++ r.cs) hx
      have hl2 : (F x).length + r.cs.length ≤ 16777216 := by omega
      have hl3 : (tF nm F).length < 16777216 := by rw [tF_len]; omega
      rw [← pt]
      subst hn
      clear ih pt hl
      unfold L_law_1 txL eW
      unfold txtD txL at *
      rw [List.map_append]
      l_intsC
theorem prog_calls {n : Nat} (hn : n = S.length) : ∀ (pr2 pr1 : List (Str × Bod)) (F : Str → List Str) (j6 j7 j8 : Option D), (∀ r ∈ pr2, (dirs r.2).length ≤ 45) → ((pr1 ++ pr2).map (·.1)).Nodup → (pr1 ++ pr2).length < 50 → (∀ q ∈ pr1, F q.1 = dirs q.2) →
    (okS 0 j6 = true ∧ okS 0 j7 = true ∧ okS 0 j8 = true) →
    ∃ (k6 k7 k8 : Option D) (F' : Str → List Str), (okS 0 k6 = true ∧ okS 0 k7 = true ∧ okS 0 k8 = true) ∧ (∀ q ∈ pr1 ++ pr2, F' q.1 = dirs q.2) ∧
      ForN (gT 2 (gsC (gN 6) (gsC (gN 7) (gsN)))) (L_law_2 w) (pr2.map altE) [b0, b1, b2, b3, b4, some (.loc n), j6, j7, j8, b9, b10, b11, b12, b13, b14, b15] (S ++ [.dic (tF (pr1.map (·.1)) F)])
        [b0, b1, b2, b3, b4, some (.loc n), k6, k7, k8, b9, b10, b11, b12, b13, b14, b15] (S ++ [.dic (tF ((pr1 ++ pr2).map (·.1)) F')])
  | [], pr1, F, j6, j7, j8, _, _, _, hF, hj => ⟨j6, j7, j8, F, hj, by rw [List.append_nil]; exact hF, by rw [List.append_nil]; exact .nil⟩
  | r :: pr2, pr1, F, j6, j7, j8, h, hd, hl, hF, hj => by
    have hx : r.1 ∉ pr1.map (·.1) := fun z => by
      rw [List.map_append, List.nodup_append] at hd
      exact hd.2.2 r.1 z r.1 (by simp) rfl
    have e1 : pr1 ++ r :: pr2 = (pr1 ++ [r]) ++ pr2 := by simp
    have en : (pr1 ++ [r]).map (·.1) = pr1.map (·.1) ++ [r.1] := by simp
    have hl1 : (pr1.map (·.1)).length < 50 := by rw [List.length_map]; rw [List.length_append] at hl; omega
    have hd0 := h r (List.mem_cons_self ..)
    obtain ⟨i8, hok8, e2⟩ := row_calls (w := w) (b0 := b0) (b1 := b1) (b2 := b2) (b3 := b3) (b4 := b4) (b7 := some (.tup ((altB r.2).map eW))) (b9 := b9) (b10 := b10) (b11 := b11) (b12 := b12) (b13 := b13) (b14 := b14) (b15 := b15) (nm := pr1.map (·.1) ++ [r.1]) (x := r.1) (by simp) hn (by rw [List.length_append, List.length_singleton]; omega) (altB r.2) (updF F r.1 []) j8 (by rw [updF_same]; have : (altB r.2).flatMap (·.cs) = dirs r.2 := rfl; rw [this]; simp; omega) hj.2.2
    rw [updF_same, updF_upd, List.nil_append] at e2
    have hdd : (altB r.2).flatMap (·.cs) = dirs r.2 := rfl
    rw [hdd] at e2
    obtain ⟨k6, k7, k8, F', hk, hF', ih⟩ := prog_calls hn pr2 (pr1 ++ [r]) (updF F r.1 (dirs r.2)) (some (.str r.1)) (some (.tup ((altB r.2).map eW))) i8 (fun q hq => h q (List.mem_cons_of_mem _ hq)) (by rw [← e1]; exact hd) (by rw [← e1]; exact hl)
      (fun q hq => by
        rcases List.mem_append.mp hq with hq | hq
        · have : q.1 ≠ r.1 := fun z => hx (z ▸ List.mem_map_of_mem hq)
          simp only [updF, if_neg this]
          exact hF q hq
        · simp at hq; subst hq; exact updF_same ..) ⟨rfl, los_ways _, hok8⟩
    rw [← e1] at hF' ih
    refine ⟨k6, k7, k8, F', hk, hF', ?_⟩
    rw [List.map_cons]
    refine ForN.nx (e1 := [b0, b1, b2, b3, b4, some (.loc n), some (.str r.1), some (.tup ((altB r.2).map eW)), j8, b9, b10, b11, b12, b13, b14, b15]) (s1 := S ++ [.dic (tF (pr1.map (·.1)) F)]) ?_ ?_ ih
    · unfold altE
      l_ints
    · have pt := put_tF_new (F := F) (B := []) hx
      have e3 := e2.end
      have hl3 : (tF (pr1.map (·.1)) F).length < 16777216 := by rw [tF_len]; omega
      have t0 : txL [] = .lst [] := rfl
      rw [t0] at pt
      rw [en]
      rw [← pt] at e3
      subst hn
      clear ih e2 pt hd hl hF hF' h en e1 hdd hd0
      unfold L_law_2
      l_intsC
end
end K31
end
section
set_option Elab.async false
set_option autoImplicit false
set_option linter.all false
set_option maxRecDepth 100000
set_option maxHeartbeats 2000000
namespace K31
open PySem L2 Mn
local macro_rules | `(tactic| l_ints) => `(tactic| simp only [bnd_some', ret1_some', sSeq_eq, kThen_nx, kThen_rt, kThen_bk, kThen_ct, sNil_eq, sAsg_eq, kAsg_eq, sDrop_eq, kDrop_eq, sRet_eq, kRet_eq, sRetN_eq, sBreak_eq, sCont_eq, sIf_eq, kIf_true, kIf_false, sTgt_eq, kTgt1_eq, kTgt2_eq, sPar_eq, kPar2_eq, sPar3_eq, kPar3_eq, sFor_eq, kFor_eq, sAug_eq, kAug_eq, kAug1_eq, mV_eq, kGot_eq, mC_eq, mOp_eq, kOp1_eq, kOp2_eq, mTB_eq, kB_eq, mAnd_eq, kAnd_true, kAnd_false, mOr_eq, kOr_true, kOr_false, mNot_eq, kNot_eq, mIte_eq, kIte_true, kIte_false, mAndV_eq, kAndV_true, kAndV_false, mOrV_eq, kOrV_true, kOrV_false, mNotV_eq, kNotV_eq, mNil_eq, mCons_eq, kCons1_eq, kCons2_eq, mTup_eq, kTup_eq, mLst_eq, kLst_eq, mFrz_eq, kFrz_eq, mMut_eq, kMut_eq, mCall_eq, mCB_eq, kCB_eq, mCBL_eq, kCBL_eq, mTr_eq, kTr_eq, mNeg_eq, kNeg_eq, mChain_eq, kChn1_eq, kChn2_eq, kChn_true, kChn_false, gN_eq, gsN_eq, gsC_eq, kGs_eq, gT_eq, gTp_eq, gSet_eq, kSet1_eq, kSet2_eq, kSetE_eq, setO_eq, setL_nat, setL_lit, setL_str, mMt_eq, kMt1_eq, kMt1'_eq, kMt2_eq, kMt2'_eq, kMt3_eq, fApp_eq, fPop_eq, kPop_eq, getLast_snoc, dropLast_snoc, fExt_eq, kExt_eq, oAdd_int, oAdd_str, oAdd_tup, oAdd_lst, oAdd_loc, kCat_eq, lstD_lst, lstD_loc, isLst_eq, seqD_tup, seqD_lst, seqD_rol, seqD_loc, dicD_dic, dicD_loc, isDic_eq, oSub_int, oMul_int, oDiv_int, oMod_int, oI_plus, oI_minus, oLt_int, oLe_int, oGt_int, oGe_int, oEq_int, oEq_str, oEq_bl, oNe_int, oNe_str, oNe_bl, oIs_non, oIsNot_non, isN_non, isN_int, isN_bl, isN_str, isN_tup, isN_lst, isN_loc, atI_lit, atI_natc, atI_neg1, ixO_tup, ixO_lst, ixO_dics, ixO_dici, ixO_locs, ixO_loci, ixL_lst, ixL_dics, ixL_dici, cLen_tup, cLen_lst, cLen_dic, cLen_loc, lenL_lst, lenL_dic, cInt_int, cInt_bl, cAbs_int, cTup_tup, cTup_lst, cTup_loc, tupL_eq, cList_eq, cBls_lst, blsA_eq, fAll_eq, fAny_eq, truD_lst, truD_tup, truD_bl, truD_int, truD_non, truD_loc, truL_lst, truL_dic, itD_tup, itD_lst, miSeq_eq, kIt_eq, miR1_eq, kR1_eq, miR2_eq, kR2_eq, mSl_eq, kSl1_eq, kSl2_eq, kSl3_eq, mNoP_eq, mPart_eq, kPart_eq, slD_tup, slD_lst, slD_rol, slD_loc, slA_eq, mIsi_eq, kIsi_eq, tyD_non, tyD_bl, tyD_int, tyD_str, tyD_tup, tyD_lst, isi_NoneType_tuple, isi_NoneType_list, isi_NoneType_int, isi_NoneType_str, isi_NoneType_bool, isi_NoneType_int_str, isi_bool_tuple, isi_bool_list, isi_bool_int, isi_bool_str, isi_bool_bool, isi_bool_int_str, isi_int_tuple, isi_int_list, isi_int_int, isi_int_str, isi_int_bool, isi_int_int_str, isi_str_tuple, isi_str_list, isi_str_int, isi_str_str, isi_str_bool, isi_str_int_str, isi_tuple_tuple, isi_tuple_list, isi_tuple_int, isi_tuple_str, isi_tuple_bool, isi_tuple_int_str, isi_list_tuple, isi_list_list, isi_list_int, isi_list_str, isi_list_bool, isi_list_int_str, mDicF_eq, kDicF_eq, mDicM_eq, kDicM_eq, dicA_eq, dicB_eq, mDic0_eq, mGet1_eq, kGet1_eq, kGet1a_eq, mGet2_eq, kGet2_eq, kGet2a_eq, kGet2b_eq, kGet3_str, kGet3_int, kForB_eq, kForS_nx, kForS_ct, kForS_bk, kForS_rt, kWh_true, kWh_false, kWhS_nx, kWhS_ct, kWhS_bk, kWhS_rt, mLc_eq, kLc_eq, kLc1_eq, kLc2_true, kLc2_false, kLc3_eq, kLc4_eq, mYes_eq, wipeE_nil, wipeE_cons, mFun_0, mFun_1, mFun_2, mFun_3, mFun_4, mFun_5, mFun_6, mFun_7, mFun_8, mFunL_0, mFunL_1, mFunL_2, mFunL_3, mFunL_4, mFunL_5, mFunL_6, mFunL_7, mFunL_8, endW_rt, endW_nx, mRev_eq, kRev_eq, miTxt_eq, kTxt_eq, oIsB_bl, oIsNotB_bl, oIn_eq, oNotIn_eq, kIn_eq, kNIn_eq, inO_sign, inA_eq, inO_tup, inO_lst, inO_loc, inL_lst, inL_dics, inL_dici, inO_dics, inO_dici, flatD_non, flatD_bl, flatD_int, flatD_str, ixO_dkls, ixO_dkli, inO_dkls, inO_dkli, dicD_dkl, mDitN_eq, ixDN_eq, kIxN_eq, setN_eq, gSetN_eq, kSetN1_eq, kSetN2_eq, kSetN3_eq, mGet2N_eq, kGetN1_eq, kGetN2_eq, kGetN3_eq, kGetN4_eq, miKeysN_eq, kKeysN_eq, miKeysL_eq, kKeysL_eq, sForP_eq, kForP_eq, kForP2_eq, keepM_eq, mLc2_eq, kLd_eq, kLd1_eq, kLd2_true, kLd2_false, kLd2b_eq, kLd3_eq, kLd4_eq, Nat.reduceSub, Nat.reduceAdd, Nat.reduceLeDiff, Nat.reduceLT, Nat.reduceEqDiff, Int.reduceLT, Int.reduceLE, Int.reduceAdd, Int.reduceSub, Int.reduceNeg, Int.reduceMul, Int.reduceToNat, Int.reduceBEq, fits_lit, List.getElem?_cons_zero, List.getElem?_cons_succ, List.getElem?_nil, List.set_cons_zero, List.set_cons_succ, List.set_nil, List.length_cons, List.length_nil, List.length_set, List.length_map, List.length_append, List.set_set, List.replicate_succ, List.replicate_zero, List.isEmpty_nil, List.isEmpty_cons, List.nil_append, List.cons_append, List.append_assoc, Bool.not_true, Bool.not_false, decide_true, decide_false, if_true, if_false, Bool.false_eq_true, Option.getD_none, Option.getD_some, Option.isSome_none, Option.isSome_some, st_app, st_app0, st_set, st_set0, List.getLast?_nil, getLast_snoc, dropLast_snoc])
local macro_rules | `(tactic| l_intsC) => `(tactic| simp only [bnd_some', ret1_some', sSeq_eq, kThen_nx, kThen_rt, kThen_bk, kThen_ct, sNil_eq, sAsg_eq, kAsg_eq, sDrop_eq, kDrop_eq, sRet_eq, kRet_eq, sRetN_eq, sBreak_eq, sCont_eq, sIf_eq, kIf_true, kIf_false, sTgt_eq, kTgt1_eq, kTgt2_eq, sPar_eq, kPar2_eq, sPar3_eq, kPar3_eq, sFor_eq, kFor_eq, sAug_eq, kAug_eq, kAug1_eq, mV_eq, kGot_eq, mC_eq, mOp_eq, kOp1_eq, kOp2_eq, mTB_eq, kB_eq, mAnd_eq, kAnd_true, kAnd_false, mOr_eq, kOr_true, kOr_false, mNot_eq, kNot_eq, mIte_eq, kIte_true, kIte_false, mAndV_eq, kAndV_true, kAndV_false, mOrV_eq, kOrV_true, kOrV_false, mNotV_eq, kNotV_eq, mNil_eq, mCons_eq, kCons1_eq, kCons2_eq, mTup_eq, kTup_eq, mLst_eq, kLst_eq, mFrz_eq, kFrz_eq, mMut_eq, kMut_eq, mCall_eq, mCB_eq, kCB_eq, mCBL_eq, kCBL_eq, mTr_eq, kTr_eq, mNeg_eq, kNeg_eq, mChain_eq, kChn1_eq, kChn2_eq, kChn_true, kChn_false, gN_eq, gsN_eq, gsC_eq, kGs_eq, gT_eq, gTp_eq, gSet_eq, kSet1_eq, kSet2_eq, kSetE_eq, setO_eq, setL_nat, setL_lit, setL_str, mMt_eq, kMt1_eq, kMt1'_eq, kMt2_eq, kMt2'_eq, kMt3_eq, fApp_eq, fPop_eq, kPop_eq, getLast_snoc, dropLast_snoc, fExt_eq, kExt_eq, oAdd_int, oAdd_str, oAdd_tup, oAdd_lst, oAdd_loc, kCat_eq, lstD_lst, lstD_loc, isLst_eq, seqD_tup, seqD_lst, seqD_rol, seqD_loc, dicD_dic, dicD_loc, isDic_eq, oSub_int, oMul_int, oDiv_int, oMod_int, oI_plus, oI_minus, oLt_int, oLe_int, oGt_int, oGe_int, oEq_int, oEq_str, oEq_bl, oNe_int, oNe_str, oNe_bl, oIs_non, oIsNot_non, isN_non, isN_int, isN_bl, isN_str, isN_tup, isN_lst, isN_loc, atI_lit, atI_natc, atI_neg1, ixO_tup, ixO_lst, ixO_dics, ixO_dici, ixO_locs, ixO_loci, ixL_lst, ixL_dics, ixL_dici, cLen_tup, cLen_lst, cLen_dic, cLen_loc, lenL_lst, lenL_dic, cInt_int, cInt_bl, cAbs_int, cTup_tup, cTup_lst, cTup_loc, tupL_eq, cList_eq, cBls_lst, blsA_eq, fAll_eq, fAny_eq, truD_lst, truD_tup, truD_bl, truD_int, truD_non, truD_loc, truL_lst, truL_dic, itD_tup, itD_lst, miSeq_eq, kIt_eq, miR1_eq, kR1_eq, miR2_eq, kR2_eq, mSl_eq, kSl1_eq, kSl2_eq, kSl3_eq, mNoP_eq, mPart_eq, kPart_eq, slD_tup, slD_lst, slD_rol, slD_loc, slA_eq, mIsi_eq, kIsi_eq, tyD_non, tyD_bl, tyD_int, tyD_str, tyD_tup, tyD_lst, isi_NoneType_tuple, isi_NoneType_list, isi_NoneType_int, isi_NoneType_str, isi_NoneType_bool, isi_NoneType_int_str, isi_bool_tuple, isi_bool_list, isi_bool_int, isi_bool_str, isi_bool_bool, isi_bool_int_str, isi_int_tuple, isi_int_list, isi_int_int, isi_int_str, isi_int_bool, isi_int_int_str, isi_str_tuple, isi_str_list, isi_str_int, isi_str_str, isi_str_bool, isi_str_int_str, isi_tuple_tuple, isi_tuple_list, isi_tuple_int, isi_tuple_str, isi_tuple_bool, isi_tuple_int_str, isi_list_tuple, isi_list_list, isi_list_int, isi_list_str, isi_list_bool, isi_list_int_str, mDicF_eq, kDicF_eq, mDicM_eq, kDicM_eq, dicA_eq, dicB_eq, mDic0_eq, mGet1_eq, kGet1_eq, kGet1a_eq, mGet2_eq, kGet2_eq, kGet2a_eq, kGet2b_eq, kGet3_str, kGet3_int, kForB_eq, kForS_nx, kForS_ct, kForS_bk, kForS_rt, kWh_true, kWh_false, kWhS_nx, kWhS_ct, kWhS_bk, kWhS_rt, mLc_eq, kLc_eq, kLc1_eq, kLc2_true, kLc2_false, kLc3_eq, kLc4_eq, mYes_eq, wipeE_nil, wipeE_cons, mFun_0, mFun_1, mFun_2, mFun_3, mFun_4, mFun_5, mFun_6, mFun_7, mFun_8, mFunL_0, mFunL_1, mFunL_2, mFunL_3, mFunL_4, mFunL_5, mFunL_6, mFunL_7, mFunL_8, endW_rt, endW_nx, mRev_eq, kRev_eq, miTxt_eq, kTxt_eq, oIsB_bl, oIsNotB_bl, oIn_eq, oNotIn_eq, kIn_eq, kNIn_eq, inO_sign, inA_eq, inO_tup, inO_lst, inO_loc, inL_lst, inL_dics, inL_dici, inO_dics, inO_dici, flatD_non, flatD_bl, flatD_int, flatD_str, ixO_dkls, ixO_dkli, inO_dkls, inO_dkli, dicD_dkl, mDitN_eq, ixDN_eq, kIxN_eq, setN_eq, gSetN_eq, kSetN1_eq, kSetN2_eq, kSetN3_eq, mGet2N_eq, kGetN1_eq, kGetN2_eq, kGetN3_eq, kGetN4_eq, miKeysN_eq, kKeysN_eq, miKeysL_eq, kKeysL_eq, sForP_eq, kForP_eq, kForP2_eq, keepM_eq, mLc2_eq, kLd_eq, kLd1_eq, kLd2_true, kLd2_false, kLd2b_eq, kLd3_eq, kLd4_eq, Nat.reduceSub, Nat.reduceAdd, Nat.reduceLeDiff, Nat.reduceLT, Nat.reduceEqDiff, Int.reduceLT, Int.reduceLE, Int.reduceAdd, Int.reduceSub, Int.reduceNeg, Int.reduceMul, Int.reduceToNat, Int.reduceBEq, fits_lit, List.getElem?_cons_zero, List.getElem?_cons_succ, List.getElem?_nil, List.set_cons_zero, List.set_cons_succ, List.set_nil, List.length_cons, List.length_nil, List.length_set, List.length_map, List.length_append, List.set_set, List.replicate_succ, List.replicate_zero, List.isEmpty_nil, List.isEmpty_cons, List.nil_append, List.cons_append, List.append_assoc, Bool.not_true, Bool.not_false, decide_true, decide_false, if_true, if_false, Bool.false_eq_true, Option.getD_none, Option.getD_some, Option.isSome_none, Option.isSome_some, st_app, st_app0, st_set, st_set0, List.getLast?_nil, getLast_snoc, dropLast_snoc, *])
mutual
theorem lo_mono {m n : Nat} (h : m ≤ n) : ∀ d : D, lo m d = true → lo n d = true
  | .non, _ => rfl
  | .bl _, _ => rfl
  | .int _, _ => rfl
  | .str _, _ => rfl
  | .tup ds, l => los_mono h ds l
  | .lst ds, l => los_mono h ds l
  | .rol ds, l => los_mono h ds l
  | .dic ks, l => lok_mono h ks l
  | .loc k, l => decide_eq_true (Nat.lt_of_lt_of_le (of_decide_eq_true l) h)
  | .ptl ds, l => los_mono h ds l
  | .dit _ ks, l => lod_mono h ks l
  | .dkl ks, l => lok_mono h ks l
theorem los_mono {m n : Nat} (h : m ≤ n) : ∀ ds : List D, los m ds = true → los n ds = true
  | [], _ => rfl
  | d :: ds, l => Bool.and_eq_true_iff.mpr ⟨lo_mono h d (Bool.and_eq_true_iff.mp l).1, los_mono h ds (Bool.and_eq_true_iff.mp l).2⟩
theorem lok_mono {m n : Nat} (h : m ≤ n) : ∀ ds : List (Key × D), lok m ds = true → lok n ds = true
  | [], _ => rfl
  | (_, d) :: ds, l => Bool.and_eq_true_iff.mpr ⟨lo_mono h d (Bool.and_eq_true_iff.mp l).1, lok_mono h ds (Bool.and_eq_true_iff.mp l).2⟩
theorem lod_mono {m n : Nat} (h : m ≤ n) : ∀ ds : List (D × D), lod m ds = true → lod n ds = true
  | [], _ => rfl
  | (k, d) :: ds, l => by
    have l1 := Bool.and_eq_true_iff.mp l
    have l2 := Bool.and_eq_true_iff.mp l1.1
    exact Bool.and_eq_true_iff.mpr ⟨Bool.and_eq_true_iff.mpr ⟨lo_mono h k l2.1, lo_mono h d l2.2⟩, lod_mono h ds l1.2⟩
end
theorem okS_mono {m n : Nat} (h : m ≤ n) : ∀ {j : Option D}, okS m j = true → okS n j = true
  | none, _ => rfl
  | some d, l => by
    cases d <;> first
      | exact l
      | exact decide_eq_true (Nat.lt_of_lt_of_le (of_decide_eq_true l) h)
theorem lendV_okS {n : Nat} {y : D} : ∀ {j : Option D}, okS n j = true → lendV n y j = j
  | none, _ => rfl
  | some d, l => by
    cases d <;> first
      | rfl
      | (show (if _ = n then some y else some (.loc _)) = _
         rw [if_neg (Nat.ne_of_lt (of_decide_eq_true l))])
theorem lendOk_okS {n : Nat} {r : MEnv} : ∀ {j : Option D}, okS n j = true → lendOk n (j :: r) = lendOk n r
  | none, _ => rfl
  | some d, l => by
    cases d <;> first
      | (show (lo n _ && lendOk n r) = _
         rw [lo_mono (Nat.zero_le n) _ l, Bool.true_and])
      | (show (decide (_ ≤ n) && lendOk n r) = _
         rw [decide_eq_true (Nat.le_of_lt (of_decide_eq_true l)), Bool.true_and])
theorem lok_dK {α : Type} {n : Nat} {f : α → Str} {v : α → D} : ∀ l : List α, (∀ x ∈ l, lo n (v x) = true) → lok n (dK f v l) = true
  | [], _ => rfl
  | x :: l, h => Bool.and_eq_true_iff.mpr ⟨h x (List.mem_cons_self ..), lok_dK l fun y hy => h y (List.mem_cons_of_mem _ hy)⟩
theorem plk_dK {α : Type} {f : α → Str} {v : α → D} : ∀ l : List α, (∀ x ∈ l, pl (v x) = true) → plk (dK f v l) = true
  | [], _ => rfl
  | x :: l, h => Bool.and_eq_true_iff.mpr ⟨h x (List.mem_cons_self ..), plk_dK l fun y hy => h y (List.mem_cons_of_mem _ hy)⟩
theorem lo_txL {n : Nat} (l : List Str) : lo n (txL l) = true := los_map (f := D.str) (fun _ => rfl) l
theorem pl_txL (l : List Str) : pl (txL l) = true := pls_mapm (f := D.str) l fun _ _ => rfl
theorem lo_tF {n : Nat} (nm : List Str) (F : Str → List Str) : lo n (.dic (tF nm F)) = true := lok_dK nm fun x _ => lo_txL _
theorem pl_tF (nm : List Str) (F : Str → List Str) : pl (.dic (tF nm F)) = true := plk_dK nm fun x _ => pl_txL _
section
variable {w : World} {S : Store} {b0 b1 b2 b3 b4 b5 b6 b7 b8 b9 b10 b11 b12 b13 b14 b15 : Option D} {nm : List Str} {F : Str → List Str} {st : Store}
def pairL (F : Str → List Str) (x : Str) : D := .tup [.str x, txL (F x)]
theorem keys_lc : ∀ q : List Str, (∀ x ∈ q, x ∈ nm) → lcL (gN 6) mYes (E_law_1 w) [b0, b1, b2, b3, b4, some (.dkl (tF nm F)), none, b7, b8, b9, b10, b11, b12, b13, b14, b15] (q.map .str) st = some (q.map (pairL F), st)
  | [], _ => rfl
  | x :: q, h => by
    have ih := keys_lc q fun y hy => h y (List.mem_cons_of_mem _ hy)
    have lk := lk_tF (F := F) nm (h x (List.mem_cons_self ..))
    have u : E_law_1 w [b0, b1, b2, b3, b4, some (.dkl (tF nm F)), some (.str x), b7, b8, b9, b10, b11, b12, b13, b14, b15] st = some (pairL F x, st) := by
      unfold E_law_1 pairL
      unfold txL at *
      l_intsC
    rw [List.map_cons, List.map_cons, lcL_cons]
    l_intsC
theorem pairs_tF : ∀ q : List Str, pairsD (q.map (pairL F)) = some (tF q F)
  | [] => rfl
  | x :: q => by
    have : pairD (pairL F x) = some (.inr x, txL (F x)) := rfl
    simp only [List.map_cons, pairsD, this, pairs_tF q]
    rfl
theorem merge_tF : ∀ (q p : List Str), (p ++ q).Nodup → mergeD (tF q F) (tF p F) = tF (p ++ q) F
  | [], p, _ => by rw [List.append_nil]; rfl
  | x :: q, p, h => by
    have hx : x ∉ p := fun z => (List.nodup_append.mp h).2.2 x z x (List.mem_cons_self ..) rfl
    have e : p ++ x :: q = (p ++ [x]) ++ q := by simp
    show mergeD (tF q F) (putD (tF p F) (.inr x) (txL (F x))) = _
    rw [put_tF_new hx, e]
    have e2 : updF F x (F x) = F := by
      funext y
      unfold updF
      by_cases hy : y = x <;> simp [hy]
    rw [e2]
    exact merge_tF q (p ++ [x]) (by rw [← e]; exact h)
theorem cDic_tF (hn : nm.Nodup) : cDic [.lst (nm.map (pairL F))] st = some (tF nm F) := by
  unfold cDic
  simp only [seqD, pairs_tF]
  have := merge_tF (F := F) nm [] (by rw [List.nil_append]; exact hn)
  rw [List.nil_append] at this
  exact congrArg some this
theorem keys_tF : ∀ q : List Str, (tF q F).map (fun p => kD p.1) = q.map D.str
  | [] => rfl
  | x :: q => by
    show kD (.inr (id x)) :: (tF q F).map (fun p => kD p.1) = _
    rw [keys_tF q]
    rfl
/-- the calls are lent, and their table is copied -/
theorem lent_calls (hnm : nm.length ≤ 100) (hS : los 0 S = true) (hp : pls S = true) (o0 : okS S.length b0 = true) (o1 : okS S.length b1 = true) (o2 : okS S.length b2 = true) (o3 : okS S.length b3 = true) (o4 : okS S.length b4 = true) (o6 : okS S.length b6 = true) (o7 : okS S.length b7 = true) (o8 : okS S.length b8 = true) (o9 : okS S.length b9 = true) (o10 : okS S.length b10 = true) (o11 : okS S.length b11 = true) (o12 : okS S.length b12 = true) (o13 : okS S.length b13 = true) (o14 : okS S.length b14 = true) (o15 : okS S.length b15 = true) :
    mBorrow (mFrz (mLc [6] (miKeysL (mV 5)) (gN 6) (mYes) (E_law_1 w))) [b0, b1, b2, b3, b4, some (.loc S.length), b6, b7, b8, b9, b10, b11, b12, b13, b14, b15] (S ++ [.dic (tF nm F)]) = some (.lst (nm.map (pairL F)), S ++ [.dic (tF nm F)]) := by
  refine borrow_of (y := .dkl (tF nm F)) rfl ?_ ?_ rfl ?_
  · have h5 : okS (S.length + 1) (some (.loc S.length)) = true := decide_eq_true (Nat.lt_succ_self _)
    have h5' : ∀ r, lendOk S.length (some (.loc S.length) :: r) = lendOk S.length r := fun r => by
      show (decide (S.length ≤ S.length) && lendOk S.length r) = _
      rw [decide_eq_true (Nat.le_refl _), Bool.true_and]
    rw [los_mono (Nat.zero_le _) S hS, lo_tF, lendOk_okS o0, lendOk_okS o1, lendOk_okS o2, lendOk_okS o3, lendOk_okS o4, h5', lendOk_okS o6, lendOk_okS o7, lendOk_okS o8, lendOk_okS o9, lendOk_okS o10, lendOk_okS o11, lendOk_okS o12, lendOk_okS o13, lendOk_okS o14, lendOk_okS o15]
    rfl
  · have e : [b0, b1, b2, b3, b4, some (.loc S.length), b6, b7, b8, b9, b10, b11, b12, b13, b14, b15].map (lendV S.length (.dkl (tF nm F))) = [b0, b1, b2, b3, b4, some (.dkl (tF nm F)), b6, b7, b8, b9, b10, b11, b12, b13, b14, b15] := by
      have h5 : lendV S.length (.dkl (tF nm F)) (some (.loc S.length)) = some (.dkl (tF nm F)) := by
        show (if S.length = S.length then _ else _) = _
        rw [if_pos rfl]
      simp only [List.map_cons, List.map_nil, h5, lendV_okS o0, lendV_okS o1, lendV_okS o2, lendV_okS o3, lendV_okS o4, lendV_okS o6, lendV_okS o7, lendV_okS o8, lendV_okS o9, lendV_okS o10, lendV_okS o11, lendV_okS o12, lendV_okS o13, lendV_okS o14, lendV_okS o15]
    rw [e]
    have lc := keys_lc (w := w) (b0 := b0) (b1 := b1) (b2 := b2) (b3 := b3) (b4 := b4) (b7 := b7) (b8 := b8) (b9 := b9) (b10 := b10) (b11 := b11) (b12 := b12) (b13 := b13) (b14 := b14) (b15 := b15) (nm := nm) (F := F) (st := S) nm fun _ h => h
    have ks := keys_tF (F := F) nm
    have hl : nm.length ≤ 16777216 := by omega
    clear e o0 o1 o2 o3 o4 o6 o7 o8 o9 o10 o11 o12 o13 o14 o15 hnm
    l_intsC
  · have : pls (nm.map (pairL F)) = true := pls_mapm nm fun x _ => by
      have := pl_txL (F x)
      simp [pairL, pl, pls, this]
    simp [pl, this, hp]
end
/-! ### what is added in a round -/
section
variable {w : World} {S : Store} {b0 b1 b2 b3 b4 b5 b6 b7 b8 b9 b10 b11 b13 b14 b15 : Option D} {nm : List Str} {adj : Str → List Str} {n : Nat}
theorem more_turns (hs : S[n]? = some (.dic (tF nm adj))) : ∀ (f M : List Str) (b13 : Option D), (∀ x ∈ f, x ∈ nm) → M.length + (f.flatMap adj).length ≤ 16777216 → okS 0 b13 = true →
    ∃ k13, okS 0 k13 = true ∧ ForN (gN 13) (L_law_3 w) (f.map .str) [b0, b1, b2, b3, b4, some (.loc n), b6, b7, b8, b9, b10, b11, some (txL M), b13, b14, b15] S [b0, b1, b2, b3, b4, some (.loc n), b6, b7, b8, b9, b10, b11, some (txL (M ++ f.flatMap adj)), k13, b14, b15] S
  | [], M, b13, _, _, h => ⟨b13, h, by rw [List.flatMap_nil, List.append_nil]; exact .nil⟩
  | x :: f, M, b13, hf, hl, _ => by
    rw [List.flatMap_cons, List.length_append] at hl
    obtain ⟨k13, hk, ih⟩ := more_turns hs f (M ++ adj x) (some (.str x)) (fun y hy => hf y (List.mem_cons_of_mem _ hy)) (by rw [List.length_append]; omega) rfl
    refine ⟨k13, hk, ?_⟩
    rw [List.map_cons, List.flatMap_cons, ← List.append_assoc]
    refine ForN.nx (e1 := [b0, b1, b2, b3, b4, some (.loc n), b6, b7, b8, b9, b10, b11, some (txL M), some (.str x), b14, b15]) (s1 := S) ?_ ?_ ih
    · l_ints
    · have lk := lk_tF (F := adj) nm (hf x (List.mem_cons_self ..))
      have hl2 : M.length + (adj x).length ≤ 16777216 := by omega
      clear ih hl
      unfold L_law_3
      unfold txL at *
      rw [List.map_append]
      l_intsC
theorem flat_all : ∀ l : List Str, (l.map D.str).all flatD = true
  | [] => rfl
  | x :: l => by rw [List.map_cons, List.all_cons, flat_all l]; rfl
theorem inD_str (x : Str) : ∀ l : List Str, inD (.str x) (l.map .str) = decide (x ∈ l)
  | [] => rfl
  | y :: l => by
    have ih := inD_str x l
    unfold inD at ih ⊢
    rw [List.map_cons, List.any_cons, ih]
    show ((y == x) || decide (x ∈ l)) = _
    by_cases h : y = x
    · subst h; simp
    · have : (y == x) = false := by simpa using h
      simp [this, Ne.symm h]
theorem inA_strs (x : Str) (l : List Str) : inA (.str x) (some (l.map .str)) = some (decide (x ∈ l)) := by
  rw [inA_eq rfl (flat_all l), inD_str]
theorem new_lc {x : Str} {Fd : Str → List Str} {m : Nat} (hs : S[m]? = some (.dic (tF nm Fd))) (hx : x ∈ nm) {b12 : Option D} : ∀ M : List Str, lcL (gN 15) (mTB (mOp oNotIn (mV 15) (mOp ixO (mV 9) (mV 6)))) (E_law_2 w) [b0, b1, b2, b3, b4, b5, some (.str x), b7, b8, some (.loc m), b10, b11, b12, b13, b14, none] (M.map .str) S = some ((M.filter fun y => decide (y ∉ Fd x)).map .str, S)
  | [] => rfl
  | y :: M => by
    have ih := new_lc hs hx (b12 := b12) M
    have lk := lk_tF (F := Fd) nm hx
    have ia := inA_strs y (Fd x)
    have u : E_law_2 w [b0, b1, b2, b3, b4, b5, some (.str x), b7, b8, some (.loc m), b10, b11, b12, b13, b14, some (.str y)] S = some (.str y, S) := by
      unfold E_law_2
      l_ints
    rw [List.map_cons, lcL_cons]
    unfold txL at lk
    by_cases h : y ∈ Fd x
    · rw [List.filter_cons_of_neg (by simpa using h)]
      rw [decide_eq_true h] at ia
      clear h
      l_intsC
    · rw [List.filter_cons_of_pos (by simpa using h), List.map_cons]
      rw [decide_eq_false h] at ia
      clear h
      l_intsC
end
end K31
end
section
set_option Elab.async false
set_option autoImplicit false
set_option linter.all false
set_option maxRecDepth 100000
set_option maxHeartbeats 2000000
namespace K31
open PySem L2 Mn
local macro_rules | `(tactic| l_ints) => `(tactic| simp only [bnd_some', ret1_some', sSeq_eq, kThen_nx, kThen_rt, kThen_bk, kThen_ct, sNil_eq, sAsg_eq, kAsg_eq, sDrop_eq, kDrop_eq, sRet_eq, kRet_eq, sRetN_eq, sBreak_eq, sCont_eq, sIf_eq, kIf_true, kIf_false, sTgt_eq, kTgt1_eq, kTgt2_eq, sPar_eq, kPar2_eq, sPar3_eq, kPar3_eq, sFor_eq, kFor_eq, sAug_eq, kAug_eq, kAug1_eq, mV_eq, kGot_eq, mC_eq, mOp_eq, kOp1_eq, kOp2_eq, mTB_eq, kB_eq, mAnd_eq, kAnd_true, kAnd_false, mOr_eq, kOr_true, kOr_false, mNot_eq, kNot_eq, mIte_eq, kIte_true, kIte_false, mAndV_eq, kAndV_true, kAndV_false, mOrV_eq, kOrV_true, kOrV_false, mNotV_eq, kNotV_eq, mNil_eq, mCons_eq, kCons1_eq, kCons2_eq, mTup_eq, kTup_eq, mLst_eq, kLst_eq, mFrz_eq, kFrz_eq, mMut_eq, kMut_eq, mCall_eq, mCB_eq, kCB_eq, mCBL_eq, kCBL_eq, mTr_eq, kTr_eq, mNeg_eq, kNeg_eq, mChain_eq, kChn1_eq, kChn2_eq, kChn_true, kChn_false, gN_eq, gsN_eq, gsC_eq, kGs_eq, gT_eq, gTp_eq, gSet_eq, kSet1_eq, kSet2_eq, kSetE_eq, setO_eq, setL_nat, setL_lit, setL_str, mMt_eq, kMt1_eq, kMt1'_eq, kMt2_eq, kMt2'_eq, kMt3_eq, fApp_eq, fPop_eq, kPop_eq, getLast_snoc, dropLast_snoc, fExt_eq, kExt_eq, oAdd_int, oAdd_str, oAdd_tup, oAdd_lst, oAdd_loc, kCat_eq, lstD_lst, lstD_loc, isLst_eq, seqD_tup, seqD_lst, seqD_rol, seqD_loc, dicD_dic, dicD_loc, isDic_eq, oSub_int, oMul_int, oDiv_int, oMod_int, oI_plus, oI_minus, oLt_int, oLe_int, oGt_int, oGe_int, oEq_int, oEq_str, oEq_bl, oNe_int, oNe_str, oNe_bl, oIs_non, oIsNot_non, isN_non, isN_int, isN_bl, isN_str, isN_tup, isN_lst, isN_loc, atI_lit, atI_natc, atI_neg1, ixO_tup, ixO_lst, ixO_dics, ixO_dici, ixO_locs, ixO_loci, ixL_lst, ixL_dics, ixL_dici, cLen_tup, cLen_lst, cLen_dic, cLen_loc, lenL_lst, lenL_dic, cInt_int, cInt_bl, cAbs_int, cTup_tup, cTup_lst, cTup_loc, tupL_eq, cList_eq, cBls_lst, blsA_eq, fAll_eq, fAny_eq, truD_lst, truD_tup, truD_bl, truD_int, truD_non, truD_loc, truL_lst, truL_dic, itD_tup, itD_lst, miSeq_eq, kIt_eq, miR1_eq, kR1_eq, miR2_eq, kR2_eq, mSl_eq, kSl1_eq, kSl2_eq, kSl3_eq, mNoP_eq, mPart_eq, kPart_eq, slD_tup, slD_lst, slD_rol, slD_loc, slA_eq, mIsi_eq, kIsi_eq, tyD_non, tyD_bl, tyD_int, tyD_str, tyD_tup, tyD_lst, isi_NoneType_tuple, isi_NoneType_list, isi_NoneType_int, isi_NoneType_str, isi_NoneType_bool, isi_NoneType_int_str, isi_bool_tuple, isi_bool_list, isi_bool_int, isi_bool_str, isi_bool_bool, isi_bool_int_str, isi_int_tuple, isi_int_list, isi_int_int, isi_int_str, isi_int_bool, isi_int_int_str, isi_str_tuple, isi_str_list, isi_str_int, isi_str_str, isi_str_bool, isi_str_int_str, isi_tuple_tuple, isi_tuple_list, isi_tuple_int, isi_tuple_str, isi_tuple_bool, isi_tuple_int_str, isi_list_tuple, isi_list_list, isi_list_int, isi_list_str, isi_list_bool, isi_list_int_str, mDicF_eq, kDicF_eq, mDicM_eq, kDicM_eq, dicA_eq, dicB_eq, mDic0_eq, mGet1_eq, kGet1_eq, kGet1a_eq, mGet2_eq, kGet2_eq, kGet2a_eq, kGet2b_eq, kGet3_str, kGet3_int, kForB_eq, kForS_nx, kForS_ct, kForS_bk, kForS_rt, kWh_true, kWh_false, kWhS_nx, kWhS_ct, kWhS_bk, kWhS_rt, mLc_eq, kLc_eq, kLc1_eq, kLc2_true, kLc2_false, kLc3_eq, kLc4_eq, mYes_eq, wipeE_nil, wipeE_cons, mFun_0, mFun_1, mFun_2, mFun_3, mFun_4, mFun_5, mFun_6, mFun_7, mFun_8, mFunL_0, mFunL_1, mFunL_2, mFunL_3, mFunL_4, mFunL_5, mFunL_6, mFunL_7, mFunL_8, endW_rt, endW_nx, mRev_eq, kRev_eq, miTxt_eq, kTxt_eq, oIsB_bl, oIsNotB_bl, oIn_eq, oNotIn_eq, kIn_eq, kNIn_eq, inO_sign, inA_eq, inO_tup, inO_lst, inO_loc, inL_lst, inL_dics, inL_dici, inO_dics, inO_dici, flatD_non, flatD_bl, flatD_int, flatD_str, ixO_dkls, ixO_dkli, inO_dkls, inO_dkli, dicD_dkl, mDitN_eq, ixDN_eq, kIxN_eq, setN_eq, gSetN_eq, kSetN1_eq, kSetN2_eq, kSetN3_eq, mGet2N_eq, kGetN1_eq, kGetN2_eq, kGetN3_eq, kGetN4_eq, miKeysN_eq, kKeysN_eq, miKeysL_eq, kKeysL_eq, sForP_eq, kForP_eq, kForP2_eq, keepM_eq, mLc2_eq, kLd_eq, kLd1_eq, kLd2_true, kLd2_false, kLd2b_eq, kLd3_eq, kLd4_eq, Nat.reduceSub, Nat.reduceAdd, Nat.reduceLeDiff, Nat.reduceLT, Nat.reduceEqDiff, Int.reduceLT, Int.reduceLE, Int.reduceAdd, Int.reduceSub, Int.reduceNeg, Int.reduceMul, Int.reduceToNat, Int.reduceBEq, fits_lit, List.getElem?_cons_zero, List.getElem?_cons_succ, List.getElem?_nil, List.set_cons_zero, List.set_cons_succ, List.set_nil, List.length_cons, List.length_nil, List.length_set, List.length_map, List.length_append, List.set_set, List.replicate_succ, List.replicate_zero, List.isEmpty_nil, List.isEmpty_cons, List.nil_append, List.cons_append, List.append_assoc, Bool.not_true, Bool.not_false, decide_true, decide_false, if_true, if_false, Bool.false_eq_true, Option.getD_none, Option.getD_some, Option.isSome_none, Option.isSome_some, st_app, st_app0, st_set, st_set0, List.getLast?_nil, getLast_snoc, dropLast_snoc])
local macro_rules | `(tactic| l_intsC) => `(tactic| simp only [bnd_some', ret1_some', sSeq_eq, kThen_nx, kThen_rt, kThen_bk, kThen_ct, sNil_eq, sAsg_eq, kAsg_eq, sDrop_eq, kDrop_eq, sRet_eq, kRet_eq, sRetN_eq, sBreak_eq, sCont_eq, sIf_eq, kIf_true, kIf_false, sTgt_eq, kTgt1_eq, kTgt2_eq, sPar_eq, kPar2_eq, sPar3_eq, kPar3_eq, sFor_eq, kFor_eq, sAug_eq, kAug_eq, kAug1_eq, mV_eq, kGot_eq, mC_eq, mOp_eq, kOp1_eq, kOp2_eq, mTB_eq, kB_eq, mAnd_eq, kAnd_true, kAnd_false, mOr_eq, kOr_true, kOr_false, mNot_eq, kNot_eq, mIte_eq, kIte_true, kIte_false, mAndV_eq, kAndV_true, kAndV_false, mOrV_eq, kOrV_true, kOrV_false, mNotV_eq, kNotV_eq, mNil_eq, mCons_eq, kCons1_eq, kCons2_eq, mTup_eq, kTup_eq, mLst_eq, kLst_eq, mFrz_eq, kFrz_eq, mMut_eq, kMut_eq, mCall_eq, mCB_eq, kCB_eq, mCBL_eq, kCBL_eq, mTr_eq, kTr_eq, mNeg_eq, kNeg_eq, mChain_eq, kChn1_eq, kChn2_eq, kChn_true, kChn_false, gN_eq, gsN_eq, gsC_eq, kGs_eq, gT_eq, gTp_eq, gSet_eq, kSet1_eq, kSet2_eq, kSetE_eq, setO_eq, setL_nat, setL_lit, setL_str, mMt_eq, kMt1_eq, kMt1'_eq, kMt2_eq, kMt2'_eq, kMt3_eq, fApp_eq, fPop_eq, kPop_eq, getLast_snoc, dropLast_snoc, fExt_eq, kExt_eq, oAdd_int, oAdd_str, oAdd_tup, oAdd_lst, oAdd_loc, kCat_eq, lstD_lst, lstD_loc, isLst_eq, seqD_tup, seqD_lst, seqD_rol, seqD_loc, dicD_dic, dicD_loc, isDic_eq, oSub_int, oMul_int, oDiv_int, oMod_int, oI_plus, oI_minus, oLt_int, oLe_int, oGt_int, oGe_int, oEq_int, oEq_str, oEq_bl, oNe_int, oNe_str, oNe_bl, oIs_non, oIsNot_non, isN_non, isN_int, isN_bl, isN_str, isN_tup, isN_lst, isN_loc, atI_lit, atI_natc, atI_neg1, ixO_tup, ixO_lst, ixO_dics, ixO_dici, ixO_locs, ixO_loci, ixL_lst, ixL_dics, ixL_dici, cLen_tup, cLen_lst, cLen_dic, cLen_loc, lenL_lst, lenL_dic, cInt_int, cInt_bl, cAbs_int, cTup_tup, cTup_lst, cTup_loc, tupL_eq, cList_eq, cBls_lst, blsA_eq, fAll_eq, fAny_eq, truD_lst, truD_tup, truD_bl, truD_int, truD_non, truD_loc, truL_lst, truL_dic, itD_tup, itD_lst, miSeq_eq, kIt_eq, miR1_eq, kR1_eq, miR2_eq, kR2_eq, mSl_eq, kSl1_eq, kSl2_eq, kSl3_eq, mNoP_eq, mPart_eq, kPart_eq, slD_tup, slD_lst, slD_rol, slD_loc, slA_eq, mIsi_eq, kIsi_eq, tyD_non, tyD_bl, tyD_int, tyD_str, tyD_tup, tyD_lst, isi_NoneType_tuple, isi_NoneType_list, isi_NoneType_int, isi_NoneType_str, isi_NoneType_bool, isi_NoneType_int_str, isi_bool_tuple, isi_bool_list, isi_bool_int, isi_bool_str, isi_bool_bool, isi_bool_int_str, isi_int_tuple, isi_int_list, isi_int_int, isi_int_str, isi_int_bool, isi_int_int_str, isi_str_tuple, isi_str_list, isi_str_int, isi_str_str, isi_str_bool, isi_str_int_str, isi_tuple_tuple, isi_tuple_list, isi_tuple_int, isi_tuple_str, isi_tuple_bool, isi_tuple_int_str, isi_list_tuple, isi_list_list, isi_list_int, isi_list_str, isi_list_bool, isi_list_int_str, mDicF_eq, kDicF_eq, mDicM_eq, kDicM_eq, dicA_eq, dicB_eq, mDic0_eq, mGet1_eq, kGet1_eq, kGet1a_eq, mGet2_eq, kGet2_eq, kGet2a_eq, kGet2b_eq, kGet3_str, kGet3_int, kForB_eq, kForS_nx, kForS_ct, kForS_bk, kForS_rt, kWh_true, kWh_false, kWhS_nx, kWhS_ct, kWhS_bk, kWhS_rt, mLc_eq, kLc_eq, kLc1_eq, kLc2_true, kLc2_false, kLc3_eq, kLc4_eq, mYes_eq, wipeE_nil, wipeE_cons, mFun_0, mFun_1, mFun_2, mFun_3, mFun_4, mFun_5, mFun_6, mFun_7, mFun_8, mFunL_0, mFunL_1, mFunL_2, mFunL_3, mFunL_4, mFunL_5, mFunL_6, mFunL_7, mFunL_8, endW_rt, endW_nx, mRev_eq, kRev_eq, miTxt_eq, kTxt_eq, oIsB_bl, oIsNotB_bl, oIn_eq, oNotIn_eq, kIn_eq, kNIn_eq, inO_sign, inA_eq, inO_tup, inO_lst, inO_loc, inL_lst, inL_dics, inL_dici, inO_dics, inO_dici, flatD_non, flatD_bl, flatD_int, flatD_str, ixO_dkls, ixO_dkli, inO_dkls, inO_dkli, dicD_dkl, mDitN_eq, ixDN_eq, kIxN_eq, setN_eq, gSetN_eq, kSetN1_eq, kSetN2_eq, kSetN3_eq, mGet2N_eq, kGetN1_eq, kGetN2_eq, kGetN3_eq, kGetN4_eq, miKeysN_eq, kKeysN_eq, miKeysL_eq, kKeysL_eq, sForP_eq, kForP_eq, kForP2_eq, keepM_eq, mLc2_eq, kLd_eq, kLd1_eq, kLd2_true, kLd2_false, kLd2b_eq, kLd3_eq, kLd4_eq, Nat.reduceSub, Nat.reduceAdd, Nat.reduceLeDiff, Nat.reduceLT, Nat.reduceEqDiff, Int.reduceLT, Int.reduceLE, Int.reduceAdd, Int.reduceSub, Int.reduceNeg, Int.reduceMul, Int.reduceToNat, Int.reduceBEq, fits_lit, List.getElem?_cons_zero, List.getElem?_cons_succ, List.getElem?_nil, List.set_cons_zero, List.set_cons_succ, List.set_nil, List.length_cons, List.length_nil, List.length_set, List.length_map, List.length_append, List.set_set, List.replicate_succ, List.replicate_zero, List.isEmpty_nil, List.isEmpty_cons, List.nil_append, List.cons_append, List.append_assoc, Bool.not_true, Bool.not_false, decide_true, decide_false, if_true, if_false, Bool.false_eq_true, Option.getD_none, Option.getD_some, Option.isSome_none, Option.isSome_some, st_app, st_app0, st_set, st_set0, List.getLast?_nil, getLast_snoc, dropLast_snoc, *])
section
variable {w : World} {S0 : Store} {b0 b1 b2 b3 b4 b7 b8 b10 b14 b15 : Option D} {nm : List Str} {adj : Str → List Str} {n : Nat}
/-- one procedure, in one round -/
theorem name_turn {x : Str} {bd : D} {Fd : Str → List Str} (hn : n = S0.length) (hx : x ∈ nm) (hnm : nm.length ≤ 100) (hf : ∀ y ∈ Fd x, y ∈ nm) (h1 : (Fd x).length ≤ 346200) (h2 : ((Fd x).flatMap adj).length ≤ 15579000) {b12 b13 : Option D} (h13 : okS 0 b13 = true) :
    ∃ k12 k13, okS 0 k12 = true ∧ okS 0 k13 = true ∧ L_law_4 w [b0, b1, b2, b3, b4, some (.loc n), some (.str x), b7, b8, some (.loc (n + 1)), b10, some bd, b12, b13, b14, none] (S0 ++ [.dic (tF nm adj), .dic (tF nm Fd)]) =
      some (.nx [b0, b1, b2, b3, b4, some (.loc n), some (.str x), b7, b8, some (.loc (n + 1)), b10, some bd, k12, k13, b14, none], S0 ++ [.dic (tF nm adj), .dic (tF nm (updF Fd x (nxtL adj (Fd x))))]) := by
  subst hn
  have g1 : (S0 ++ [D.dic (tF nm adj), .dic (tF nm Fd)])[S0.length]? = some (.dic (tF nm adj)) := by rw [st_app0]; rfl
  have g2 : (S0 ++ [D.dic (tF nm adj), .dic (tF nm Fd)])[S0.length + 1]? = some (.dic (tF nm Fd)) := by rw [st_app]; rfl
  obtain ⟨k13, hk, e1⟩ := more_turns (w := w) (b0 := b0) (b1 := b1) (b2 := b2) (b3 := b3) (b4 := b4) (b6 := some (.str x)) (b7 := b7) (b8 := b8) (b9 := some (.loc (S0.length + 1))) (b10 := b10) (b11 := some bd) (b14 := b14) (b15 := none) g1 (Fd x) [] b13 hf (by rw [List.length_nil]; omega) h13
  have e1 := e1.end
  rw [List.nil_append] at e1
  have lc := new_lc (w := w) (b0 := b0) (b1 := b1) (b2 := b2) (b3 := b3) (b4 := b4) (b5 := some (.loc S0.length)) (b7 := b7) (b8 := b8) (b10 := b10) (b11 := some bd) (b12 := some (txL ((Fd x).flatMap adj))) (b13 := k13) (b14 := b14) g2 hx ((Fd x).flatMap adj)
  obtain ⟨A, hA⟩ : ∃ A, A = ((Fd x).flatMap adj).filter fun y => decide (y ∉ Fd x) := ⟨_, rfl⟩
  have hnx : nxtL adj (Fd x) = Fd x ++ A := by rw [hA]; rfl
  have lA : A.length ≤ 15579000 := by rw [hA]; exact Nat.le_trans (List.length_filter_le ..) h2
  rw [← hA] at lc
  have lk := lk_tF (F := Fd) nm hx
  have pt := put_tF (F := Fd) (B := Fd x ++ A) hx
  have hl1 : ((Fd x).flatMap adj).length ≤ 16777216 := by omega
  have hl2 : (Fd x).length + A.length ≤ 16777216 := by omega
  have hl3 : (tF nm Fd).length < 16777216 := by rw [tF_len]; omega
  refine ⟨some (txL ((Fd x).flatMap adj)), k13, lo_txL _, hk, ?_⟩
  rw [hnx, ← pt]
  generalize (Fd x).flatMap adj = M at *
  have t0 : txL [] = .lst [] := rfl
  rw [t0] at e1
  clear hA hnx g1 g2 h1 h2 hf lA hx hnm h13 hk pt
  unfold L_law_4 R_law_1
  unfold txL at *
  rw [List.map_append]
  l_intsC
/-- one round -/
theorem round_turns (hn : n = S0.length) (hnm : nm.length ≤ 100) : ∀ (q : List (Str × Bod)) (Fd : Str → List Str) (b6 b11 b12 b13 : Option D), (∀ r ∈ q, r.1 ∈ nm) → (q.map (·.1)).Nodup → (∀ r ∈ q, (∀ y ∈ Fd r.1, y ∈ nm) ∧ (Fd r.1).length ≤ 346200 ∧ ((Fd r.1).flatMap adj).length ≤ 15579000) → okS 0 b6 = true → okS 0 b11 = true → okS 0 b12 = true → okS 0 b13 = true →
    ∃ k6 k11 k12 k13 Fd', (okS 0 k6 = true ∧ okS 0 k11 = true ∧ okS 0 k12 = true ∧ okS 0 k13 = true) ∧ (∀ r ∈ q, Fd' r.1 = nxtL adj (Fd r.1)) ∧ (∀ x, x ∉ q.map (·.1) → Fd' x = Fd x) ∧
      ForN (gT 2 (gsC (gN 6) (gsC (gN 11) (gsN)))) (L_law_4 w) (q.map rowB) [b0, b1, b2, b3, b4, some (.loc n), b6, b7, b8, some (.loc (n + 1)), b10, b11, b12, b13, b14, none] (S0 ++ [.dic (tF nm adj), .dic (tF nm Fd)])
        [b0, b1, b2, b3, b4, some (.loc n), k6, b7, b8, some (.loc (n + 1)), b10, k11, k12, k13, b14, none] (S0 ++ [.dic (tF nm adj), .dic (tF nm Fd')])
  | [], Fd, b6, b11, b12, b13, _, _, _, o6, o11, o12, o13 => ⟨b6, b11, b12, b13, Fd, ⟨o6, o11, o12, o13⟩, fun _ h => (List.not_mem_nil h).elim, fun _ _ => rfl, .nil⟩
  | r :: q, Fd, b6, b11, b12, b13, hq, hd, hF, o6, o11, o12, o13 => by
    rw [List.map_cons, List.nodup_cons] at hd
    have f0 := hF r (List.mem_cons_self ..)
    obtain ⟨i12, i13, p12, p13, e⟩ := name_turn (w := w) (b0 := b0) (b1 := b1) (b2 := b2) (b3 := b3) (b4 := b4) (b7 := b7) (b8 := b8) (b10 := b10) (b14 := b14) (adj := adj) (bd := eB r.2) (b12 := b12) (b13 := b13) hn (hq r (List.mem_cons_self ..)) hnm f0.1 f0.2.1 f0.2.2 o13
    have same : ∀ p ∈ q, updF Fd r.1 (nxtL adj (Fd r.1)) p.1 = Fd p.1 := fun p hp => by
      have : p.1 ≠ r.1 := fun z => hd.1 (z ▸ List.mem_map_of_mem hp)
      simp [updF, this]
    obtain ⟨k6, k11, k12, k13, Fd', hk, h1, h2, ih⟩ := round_turns hn hnm q (updF Fd r.1 (nxtL adj (Fd r.1))) (some (.str r.1)) (some (eB r.2)) i12 i13 (fun p hp => hq p (List.mem_cons_of_mem _ hp)) hd.2 (fun p hp => by rw [same p hp]; exact hF p (List.mem_cons_of_mem _ hp)) rfl
      (by
        have := lo_eB (m := 0) r.2
        cases h : eB r.2 <;> first | (rw [h] at this; exact this) | (rw [h] at this; simp [lo] at this)) p12 p13
    refine ⟨k6, k11, k12, k13, Fd', hk, fun p hp => ?_, fun x hx => ?_, ?_⟩
    · rcases List.mem_cons.mp hp with rfl | hp
      · rw [h2 _ hd.1, updF_same]
      · rw [h1 p hp, same p hp]
    · rw [List.map_cons, List.mem_cons, not_or] at hx
      rw [h2 x hx.2]
      simp [updF, hx.1]
    · rw [List.map_cons]
      refine ForN.nx (e1 := [b0, b1, b2, b3, b4, some (.loc n), some (.str r.1), b7, b8, some (.loc (n + 1)), b10, some (eB r.2), b12, b13, b14, none]) (s1 := S0 ++ [.dic (tF nm adj), .dic (tF nm Fd)]) ?_ e ih
      unfold rowB
      l_ints
end
section
variable {w : World} {S0 : Store} {b0 b1 b2 b4 b7 b8 b14 : Option D} {pr : List (Str × Bod)} {n : Nat}
theorem all_rounds (ok : OkP pr) (hn : n = S0.length) : ∀ (is : List D) (k : Nat) (Fd : Str → List Str) (b6 b10 b11 b12 b13 : Option D), (∀ i ∈ is, ∃ j, i = .int j) → (∀ r ∈ pr, Fd r.1 = rounds (adjP pr) k (adjP pr r.1)) → okS 0 b6 = true → okS 0 b10 = true → okS 0 b11 = true → okS 0 b12 = true → okS 0 b13 = true →
    ∃ k6 k10 k11 k12 k13 Fd', (okS 0 k6 = true ∧ okS 0 k10 = true ∧ okS 0 k11 = true ∧ okS 0 k12 = true ∧ okS 0 k13 = true) ∧ (∀ r ∈ pr, Fd' r.1 = rounds (adjP pr) (k + is.length) (adjP pr r.1)) ∧
      ForN (gN 10) (L_law_5 w) is [b0, b1, b2, some (progB pr), b4, some (.loc n), b6, b7, b8, some (.loc (n + 1)), b10, b11, b12, b13, b14, none] (S0 ++ [.dic (tF (pr.map (·.1)) (adjP pr)), .dic (tF (pr.map (·.1)) Fd)])
        [b0, b1, b2, some (progB pr), b4, some (.loc n), k6, b7, b8, some (.loc (n + 1)), k10, k11, k12, k13, b14, none] (S0 ++ [.dic (tF (pr.map (·.1)) (adjP pr)), .dic (tF (pr.map (·.1)) Fd')])
  | [], k, Fd, b6, b10, b11, b12, b13, _, hF, o6, o10, o11, o12, o13 => ⟨b6, b10, b11, b12, b13, Fd, ⟨o6, o10, o11, o12, o13⟩, hF, .nil⟩
  | i :: is, k, Fd, b6, b10, b11, b12, b13, hi, hF, o6, o10, o11, o12, o13 => by
    have oa := ok_adj ok
    have hnm : (pr.map (·.1)).length ≤ 4 := by rw [List.length_map]; exact ok.le
    obtain ⟨j, rfl⟩ := hi i (List.mem_cons_self ..)
    obtain ⟨i6, i11, i12, i13, F1, ⟨p6, p11, p12, p13⟩, h1, h2, e⟩ := round_turns (w := w) (b0 := b0) (b1 := b1) (b2 := b2) (b3 := some (progB pr)) (b4 := b4) (b7 := b7) (b8 := b8) (b10 := some (.int j)) (b14 := b14) (nm := pr.map (·.1)) (adj := adjP pr) hn (by omega) pr Fd b6 b11 b12 b13 (fun r hr => List.mem_map_of_mem hr) ok.nd
      (fun r hr => by
        rw [hF r hr]
        have b := rnds_bound oa hnm r.1 k
        exact ⟨(rnds oa r.1 k).1.inn, b.1, b.2⟩) o6 o11 o12 o13
    obtain ⟨k6, k10, k11, k12, k13, F2, hk, h3, ih⟩ := all_rounds ok hn is (k + 1) F1 i6 (some (.int j)) i11 i12 i13 (fun x hx => hi x (List.mem_cons_of_mem _ hx)) (fun r hr => by rw [h1 r hr, hF r hr]; rfl) p6 rfl p11 p12 p13
    refine ⟨k6, k10, k11, k12, k13, F2, hk, fun r hr => by rw [h3 r hr, List.length_cons]; congr 1; omega, ?_⟩
    have e := e.end
    have ep : pr.map rowB = pr.map fun r => D.tup [.str r.1, eB r.2] := rfl
    refine ForN.nx (e1 := [b0, b1, b2, some (progB pr), b4, some (.loc n), b6, b7, b8, some (.loc (n + 1)), some (.int j), b11, b12, b13, b14, none]) (s1 := S0 ++ [.dic (tF (pr.map (·.1)) (adjP pr)), .dic (tF (pr.map (·.1)) Fd)]) ?_ ?_ ih
    · l_ints
    · rw [ep] at e
      clear ih hF h1 h2 h3 hi hn
      unfold L_law_5
      unfold progB at *
      l_intsC
/-- what the law tells of calls -/
theorem told_in {nm : List Str} {Fd : Str → List Str} {x : Str} (hx : x ∈ nm) {st : Store} {m : Nat} (hs : st[m]? = some (.dic (tF nm Fd))) {c0 c1 c2 c3 c4 c5 c7 c8 c10 c12 c13 c14 : Option D} : ∀ q : List (Str × Bod), lcL (gT 2 (gsC (gN 15) (gsC (gN 11) (gsN)))) (mTB (mOp oIn (mV 15) (mOp ixO (mV 9) (mV 6)))) (E_law_3 w) [c0, c1, c2, c3, c4, c5, some (.str x), c7, c8, some (.loc m), c10, none, c12, c13, c14, none] (q.map rowB) st = some (((q.map (·.1)).filter fun y => decide (y ∈ Fd x)).map .str, st)
  | [] => rfl
  | r :: q => by
    have ih := told_in hx hs (c0 := c0) (c1 := c1) (c2 := c2) (c3 := c3) (c4 := c4) (c5 := c5) (c7 := c7) (c8 := c8) (c10 := c10) (c12 := c12) (c13 := c13) (c14 := c14) q
    have lk := lk_tF (F := Fd) nm hx
    have ia := inA_strs r.1 (Fd x)
    have u : E_law_3 w [c0, c1, c2, c3, c4, c5, some (.str x), c7, c8, some (.loc m), c10, some (eB r.2), c12, c13, c14, some (.str r.1)] st = some (.str r.1, st) := by
      unfold E_law_3
      l_ints
    rw [List.map_cons, List.map_cons, lcL_cons]
    unfold txL at lk
    unfold rowB at *
    by_cases h : r.1 ∈ Fd x
    · rw [List.filter_cons_of_pos (by simpa using h), List.map_cons]
      rw [decide_eq_true h] at ia
      clear h
      l_intsC
    · rw [List.filter_cons_of_neg (by simpa using h)]
      rw [decide_eq_false h] at ia
      clear h
      l_intsC
theorem told_lc (ok : OkP pr) {Fd : Str → List Str} (hF : ∀ r ∈ pr, Fd r.1 = rounds (adjP pr) pr.length (adjP pr r.1)) {st : Store} {m : Nat} (hs : st[m]? = some (.dic (tF (pr.map (·.1)) Fd))) {c0 c1 c2 c4 c5 c7 c8 c10 c12 c13 c14 : Option D} : ∀ q : List (Str × Bod), (∀ r ∈ q, r ∈ pr) → lcL (gT 2 (gsC (gN 6) (gsC (gN 11) (gsN)))) mYes (E_law_4 w) [c0, c1, c2, some (progB pr), c4, c5, none, c7, c8, some (.loc m), c10, none, c12, c13, c14, none] (q.map rowB) st = some (q.map (cbE pr), st)
  | [], _ => rfl
  | r :: q, h => by
    have ih := told_lc ok hF hs (c0 := c0) (c1 := c1) (c2 := c2) (c4 := c4) (c5 := c5) (c7 := c7) (c8 := c8) (c10 := c10) (c12 := c12) (c13 := c13) (c14 := c14) q fun p hp => h p (List.mem_cons_of_mem _ hp)
    have hr := h r (List.mem_cons_self ..)
    have e := told_in (w := w) (nm := pr.map (·.1)) (Fd := Fd) (x := r.1) (List.mem_map_of_mem hr) hs (c0 := c0) (c1 := c1) (c2 := c2) (c3 := some (progB pr)) (c4 := c4) (c5 := c5) (c7 := c7) (c8 := c8) (c10 := c10) (c12 := c12) (c13 := c13) (c14 := c14) pr
    have te : ((pr.map (·.1)).filter fun y => decide (y ∈ Fd r.1)) = toldP pr r.1 := by
      unfold toldP
      refine List.filter_congr fun y _ => ?_
      have := rnds_all (ok_adj ok) r.1 y
      rw [List.length_map] at this
      rw [hF r hr]
      by_cases hy : y ∈ rounds (adjP pr) pr.length (adjP pr r.1)
      · rw [decide_eq_true hy]
        exact (@decide_eq_true _ (Classical.propDecidable _) (this.mp hy)).symm
      · rw [decide_eq_false hy]
        exact (@decide_eq_false _ (Classical.propDecidable _) fun z => hy (this.mpr z)).symm
    rw [te] at e
    have ep : pr.map rowB = pr.map fun r => D.tup [.str r.1, eB r.2] := rfl
    have hl : pr.length ≤ 16777216 := by have := ok.le; omega
    have u : E_law_4 w [c0, c1, c2, some (progB pr), c4, c5, some (.str r.1), c7, c8, some (.loc m), c10, some (eB r.2), c12, c13, c14, none] st = some (cbE pr r, st) := by
      rw [ep] at e
      unfold E_law_4 cbE
      generalize toldP pr r.1 = T at *
      clear ih te hF hs ok hr
      unfold progB at *
      l_intsC
    rw [List.map_cons, List.map_cons, lcL_cons]
    clear e te ep
    unfold rowB at *
    l_intsC
end
end K31
end
section
set_option Elab.async false
set_option autoImplicit false
set_option linter.all false
set_option maxRecDepth 100000
set_option maxHeartbeats 2000000
namespace K31
open PySem L2 Mn
local macro_rules | `(tactic| l_ints) => `(tactic| simp only [bnd_some', ret1_some', sSeq_eq, kThen_nx, kThen_rt, kThen_bk, kThen_ct, sNil_eq, sAsg_eq, kAsg_eq, sDrop_eq, kDrop_eq, sRet_eq, kRet_eq, sRetN_eq, sBreak_eq, sCont_eq, sIf_eq, kIf_true, kIf_false, sTgt_eq, kTgt1_eq, kTgt2_eq, sPar_eq, kPar2_eq, sPar3_eq, kPar3_eq, sFor_eq, kFor_eq, sAug_eq, kAug_eq, kAug1_eq, mV_eq, kGot_eq, mC_eq, mOp_eq, kOp1_eq, kOp2_eq, mTB_eq, kB_eq, mAnd_eq, kAnd_true, kAnd_false, mOr_eq, kOr_true, kOr_false, mNot_eq, kNot_eq, mIte_eq, kIte_true, kIte_false, mAndV_eq, kAndV_true, kAndV_false, mOrV_eq, kOrV_true, kOrV_false, mNotV_eq, kNotV_eq, mNil_eq, mCons_eq, kCons1_eq, kCons2_eq, mTup_eq, kTup_eq, mLst_eq, kLst_eq, mFrz_eq, kFrz_eq, mMut_eq, kMut_eq, mCall_eq, mCB_eq, kCB_eq, mCBL_eq, kCBL_eq, mTr_eq, kTr_eq, mNeg_eq, kNeg_eq, mChain_eq, kChn1_eq, kChn2_eq, kChn_true, kChn_false, gN_eq, gsN_eq, gsC_eq, kGs_eq, gT_eq, gTp_eq, gSet_eq, kSet1_eq, kSet2_eq, kSetE_eq, setO_eq, setL_nat, setL_lit, setL_str, mMt_eq, kMt1_eq, kMt1'_eq, kMt2_eq, kMt2'_eq, kMt3_eq, fApp_eq, fPop_eq, kPop_eq, getLast_snoc, dropLast_snoc, fExt_eq, kExt_eq, oAdd_int, oAdd_str, oAdd_tup, oAdd_lst, oAdd_loc, kCat_eq, lstD_lst, lstD_loc, isLst_eq, seqD_tup, seqD_lst, seqD_rol, seqD_loc, dicD_dic, dicD_loc, isDic_eq, oSub_int, oMul_int, oDiv_int, oMod_int, oI_plus, oI_minus, oLt_int, oLe_int, oGt_int, oGe_int, oEq_int, oEq_str, oEq_bl, oNe_int, oNe_str, oNe_bl, oIs_non, oIsNot_non, isN_non, isN_int, isN_bl, isN_str, isN_tup, isN_lst, isN_loc, atI_lit, atI_natc, atI_neg1, ixO_tup, ixO_lst, ixO_dics, ixO_dici, ixO_locs, ixO_loci, ixL_lst, ixL_dics, ixL_dici, cLen_tup, cLen_lst, cLen_dic, cLen_loc, lenL_lst, lenL_dic, cInt_int, cInt_bl, cAbs_int, cTup_tup, cTup_lst, cTup_loc, tupL_eq, cList_eq, cBls_lst, blsA_eq, fAll_eq, fAny_eq, truD_lst, truD_tup, truD_bl, truD_int, truD_non, truD_loc, truL_lst, truL_dic, itD_tup, itD_lst, miSeq_eq, kIt_eq, miR1_eq, kR1_eq, miR2_eq, kR2_eq, mSl_eq, kSl1_eq, kSl2_eq, kSl3_eq, mNoP_eq, mPart_eq, kPart_eq, slD_tup, slD_lst, slD_rol, slD_loc, slA_eq, mIsi_eq, kIsi_eq, tyD_non, tyD_bl, tyD_int, tyD_str, tyD_tup, tyD_lst, isi_NoneType_tuple, isi_NoneType_list, isi_NoneType_int, isi_NoneType_str, isi_NoneType_bool, isi_NoneType_int_str, isi_bool_tuple, isi_bool_list, isi_bool_int, isi_bool_str, isi_bool_bool, isi_bool_int_str, isi_int_tuple, isi_int_list, isi_int_int, isi_int_str, isi_int_bool, isi_int_int_str, isi_str_tuple, isi_str_list, isi_str_int, isi_str_str, isi_str_bool, isi_str_int_str, isi_tuple_tuple, isi_tuple_list, isi_tuple_int, isi_tuple_str, isi_tuple_bool, isi_tuple_int_str, isi_list_tuple, isi_list_list, isi_list_int, isi_list_str, isi_list_bool, isi_list_int_str, mDicF_eq, kDicF_eq, mDicM_eq, kDicM_eq, dicA_eq, dicB_eq, mDic0_eq, mGet1_eq, kGet1_eq, kGet1a_eq, mGet2_eq, kGet2_eq, kGet2a_eq, kGet2b_eq, kGet3_str, kGet3_int, kForB_eq, kForS_nx, kForS_ct, kForS_bk, kForS_rt, kWh_true, kWh_false, kWhS_nx, kWhS_ct, kWhS_bk, kWhS_rt, mLc_eq, kLc_eq, kLc1_eq, kLc2_true, kLc2_false, kLc3_eq, kLc4_eq, mYes_eq, wipeE_nil, wipeE_cons, mFun_0, mFun_1, mFun_2, mFun_3, mFun_4, mFun_5, mFun_6, mFun_7, mFun_8, mFunL_0, mFunL_1, mFunL_2, mFunL_3, mFunL_4, mFunL_5, mFunL_6, mFunL_7, mFunL_8, endW_rt, endW_nx, mRev_eq, kRev_eq, miTxt_eq, kTxt_eq, oIsB_bl, oIsNotB_bl, oIn_eq, oNotIn_eq, kIn_eq, kNIn_eq, inO_sign, inA_eq, inO_tup, inO_lst, inO_loc, inL_lst, inL_dics, inL_dici, inO_dics, inO_dici, flatD_non, flatD_bl, flatD_int, flatD_str, ixO_dkls, ixO_dkli, inO_dkls, inO_dkli, dicD_dkl, mDitN_eq, ixDN_eq, kIxN_eq, setN_eq, gSetN_eq, kSetN1_eq, kSetN2_eq, kSetN3_eq, mGet2N_eq, kGetN1_eq, kGetN2_eq, kGetN3_eq, kGetN4_eq, miKeysN_eq, kKeysN_eq, miKeysL_eq, kKeysL_eq, sForP_eq, kForP_eq, kForP2_eq, keepM_eq, mLc2_eq, kLd_eq, kLd1_eq, kLd2_true, kLd2_false, kLd2b_eq, kLd3_eq, kLd4_eq, Nat.reduceSub, Nat.reduceAdd, Nat.reduceLeDiff, Nat.reduceLT, Nat.reduceEqDiff, Int.reduceLT, Int.reduceLE, Int.reduceAdd, Int.reduceSub, Int.reduceNeg, Int.reduceMul, Int.reduceToNat, Int.reduceBEq, fits_lit, List.getElem?_cons_zero, List.getElem?_cons_succ, List.getElem?_nil, List.set_cons_zero, List.set_cons_succ, List.set_nil, List.length_cons, List.length_nil, List.length_set, List.length_map, List.length_append, List.set_set, List.replicate_succ, List.replicate_zero, List.isEmpty_nil, List.isEmpty_cons, List.nil_append, List.cons_append, List.append_assoc, Bool.not_true, Bool.not_false, decide_true, decide_false, if_true, if_false, Bool.false_eq_true, Option.getD_none, Option.getD_some, Option.isSome_none, Option.isSome_some, st_app, st_app0, st_set, st_set0, List.getLast?_nil, getLast_snoc, dropLast_snoc])
local macro_rules | `(tactic| l_intsC) => `(tactic| simp only [bnd_some', ret1_some', sSeq_eq, kThen_nx, kThen_rt, kThen_bk, kThen_ct, sNil_eq, sAsg_eq, kAsg_eq, sDrop_eq, kDrop_eq, sRet_eq, kRet_eq, sRetN_eq, sBreak_eq, sCont_eq, sIf_eq, kIf_true, kIf_false, sTgt_eq, kTgt1_eq, kTgt2_eq, sPar_eq, kPar2_eq, sPar3_eq, kPar3_eq, sFor_eq, kFor_eq, sAug_eq, kAug_eq, kAug1_eq, mV_eq, kGot_eq, mC_eq, mOp_eq, kOp1_eq, kOp2_eq, mTB_eq, kB_eq, mAnd_eq, kAnd_true, kAnd_false, mOr_eq, kOr_true, kOr_false, mNot_eq, kNot_eq, mIte_eq, kIte_true, kIte_false, mAndV_eq, kAndV_true, kAndV_false, mOrV_eq, kOrV_true, kOrV_false, mNotV_eq, kNotV_eq, mNil_eq, mCons_eq, kCons1_eq, kCons2_eq, mTup_eq, kTup_eq, mLst_eq, kLst_eq, mFrz_eq, kFrz_eq, mMut_eq, kMut_eq, mCall_eq, mCB_eq, kCB_eq, mCBL_eq, kCBL_eq, mTr_eq, kTr_eq, mNeg_eq, kNeg_eq, mChain_eq, kChn1_eq, kChn2_eq, kChn_true, kChn_false, gN_eq, gsN_eq, gsC_eq, kGs_eq, gT_eq, gTp_eq, gSet_eq, kSet1_eq, kSet2_eq, kSetE_eq, setO_eq, setL_nat, setL_lit, setL_str, mMt_eq, kMt1_eq, kMt1'_eq, kMt2_eq, kMt2'_eq, kMt3_eq, fApp_eq, fPop_eq, kPop_eq, getLast_snoc, dropLast_snoc, fExt_eq, kExt_eq, oAdd_int, oAdd_str, oAdd_tup, oAdd_lst, oAdd_loc, kCat_eq, lstD_lst, lstD_loc, isLst_eq, seqD_tup, seqD_lst, seqD_rol, seqD_loc, dicD_dic, dicD_loc, isDic_eq, oSub_int, oMul_int, oDiv_int, oMod_int, oI_plus, oI_minus, oLt_int, oLe_int, oGt_int, oGe_int, oEq_int, oEq_str, oEq_bl, oNe_int, oNe_str, oNe_bl, oIs_non, oIsNot_non, isN_non, isN_int, isN_bl, isN_str, isN_tup, isN_lst, isN_loc, atI_lit, atI_natc, atI_neg1, ixO_tup, ixO_lst, ixO_dics, ixO_dici, ixO_locs, ixO_loci, ixL_lst, ixL_dics, ixL_dici, cLen_tup, cLen_lst, cLen_dic, cLen_loc, lenL_lst, lenL_dic, cInt_int, cInt_bl, cAbs_int, cTup_tup, cTup_lst, cTup_loc, tupL_eq, cList_eq, cBls_lst, blsA_eq, fAll_eq, fAny_eq, truD_lst, truD_tup, truD_bl, truD_int, truD_non, truD_loc, truL_lst, truL_dic, itD_tup, itD_lst, miSeq_eq, kIt_eq, miR1_eq, kR1_eq, miR2_eq, kR2_eq, mSl_eq, kSl1_eq, kSl2_eq, kSl3_eq, mNoP_eq, mPart_eq, kPart_eq, slD_tup, slD_lst, slD_rol, slD_loc, slA_eq, mIsi_eq, kIsi_eq, tyD_non, tyD_bl, tyD_int, tyD_str, tyD_tup, tyD_lst, isi_NoneType_tuple, isi_NoneType_list, isi_NoneType_int, isi_NoneType_str, isi_NoneType_bool, isi_NoneType_int_str, isi_bool_tuple, isi_bool_list, isi_bool_int, isi_bool_str, isi_bool_bool, isi_bool_int_str, isi_int_tuple, isi_int_list, isi_int_int, isi_int_str, isi_int_bool, isi_int_int_str, isi_str_tuple, isi_str_list, isi_str_int, isi_str_str, isi_str_bool, isi_str_int_str, isi_tuple_tuple, isi_tuple_list, isi_tuple_int, isi_tuple_str, isi_tuple_bool, isi_tuple_int_str, isi_list_tuple, isi_list_list, isi_list_int, isi_list_str, isi_list_bool, isi_list_int_str, mDicF_eq, kDicF_eq, mDicM_eq, kDicM_eq, dicA_eq, dicB_eq, mDic0_eq, mGet1_eq, kGet1_eq, kGet1a_eq, mGet2_eq, kGet2_eq, kGet2a_eq, kGet2b_eq, kGet3_str, kGet3_int, kForB_eq, kForS_nx, kForS_ct, kForS_bk, kForS_rt, kWh_true, kWh_false, kWhS_nx, kWhS_ct, kWhS_bk, kWhS_rt, mLc_eq, kLc_eq, kLc1_eq, kLc2_true, kLc2_false, kLc3_eq, kLc4_eq, mYes_eq, wipeE_nil, wipeE_cons, mFun_0, mFun_1, mFun_2, mFun_3, mFun_4, mFun_5, mFun_6, mFun_7, mFun_8, mFunL_0, mFunL_1, mFunL_2, mFunL_3, mFunL_4, mFunL_5, mFunL_6, mFunL_7, mFunL_8, endW_rt, endW_nx, mRev_eq, kRev_eq, miTxt_eq, kTxt_eq, oIsB_bl, oIsNotB_bl, oIn_eq, oNotIn_eq, kIn_eq, kNIn_eq, inO_sign, inA_eq, inO_tup, inO_lst, inO_loc, inL_lst, inL_dics, inL_dici, inO_dics, inO_dici, flatD_non, flatD_bl, flatD_int, flatD_str, ixO_dkls, ixO_dkli, inO_dkls, inO_dkli, dicD_dkl, mDitN_eq, ixDN_eq, kIxN_eq, setN_eq, gSetN_eq, kSetN1_eq, kSetN2_eq, kSetN3_eq, mGet2N_eq, kGetN1_eq, kGetN2_eq, kGetN3_eq, kGetN4_eq, miKeysN_eq, kKeysN_eq, miKeysL_eq, kKeysL_eq, sForP_eq, kForP_eq, kForP2_eq, keepM_eq, mLc2_eq, kLd_eq, kLd1_eq, kLd2_true, kLd2_false, kLd2b_eq, kLd3_eq, kLd4_eq, Nat.reduceSub, Nat.reduceAdd, Nat.reduceLeDiff, Nat.reduceLT, Nat.reduceEqDiff, Int.reduceLT, Int.reduceLE, Int.reduceAdd, Int.reduceSub, Int.reduceNeg, Int.reduceMul, Int.reduceToNat, Int.reduceBEq, fits_lit, List.getElem?_cons_zero, List.getElem?_cons_succ, List.getElem?_nil, List.set_cons_zero, List.set_cons_succ, List.set_nil, List.length_cons, List.length_nil, List.length_set, List.length_map, List.length_append, List.set_set, List.replicate_succ, List.replicate_zero, List.isEmpty_nil, List.isEmpty_cons, List.nil_append, List.cons_append, List.append_assoc, Bool.not_true, Bool.not_false, decide_true, decide_false, if_true, if_false, Bool.false_eq_true, Option.getD_none, Option.getD_some, Option.isSome_none, Option.isSome_some, st_app, st_app0, st_set, st_set0, List.getLast?_nil, getLast_snoc, dropLast_snoc, *])
theorem alike_str (n : Nat) (x : Str) (st : Store) : F__law_alike (n + 1) [.str x, .str x] st = some (.bl true, st) := by
  have e : (x == x) = true := by simp
  show mFun 3 2 (B__law_alike n (F__law_alike n)) _ _ = _
  unfold B__law_alike R__law_alike_2 R__law_alike_1
  l_intsC
  rw [show ((true : Bool) == true) = true from rfl]
  l_intsC
  rw [fin_same rfl]
theorem alike_int (n : Nat) (x : Int) (st : Store) : F__law_alike (n + 1) [.int x, .int x] st = some (.bl true, st) := by
  have e : (x == x) = true := by simp
  show mFun 3 2 (B__law_alike n (F__law_alike n)) _ _ = _
  unfold B__law_alike R__law_alike_2 R__law_alike_1
  l_intsC
  rw [show ((false : Bool) == false) = true from rfl]
  l_intsC
  rw [fin_same rfl]
theorem alike_lc {st : Store} {F : Fn} {n : Nat} {ds : List D} (h : ∀ x ∈ ds, F [x, x] st = some (.bl true, st)) : ∀ is : List Nat, (∀ i ∈ is, i < ds.length) → lcL (gN 2) mYes (E__law_alike_1 n F) [some (.tup ds), some (.tup ds), none] (is.map fun i => .int (0 + (i : Nat))) st = some (is.map fun _ => .bl true, st)
  | [], _ => rfl
  | i :: is, hi => by
    have h0 := hi i (List.mem_cons_self ..)
    have ih := alike_lc (n := n) h is fun j hj => hi j (List.mem_cons_of_mem _ hj)
    have g : atI ds (0 + (i : Int)) = some ds[i] := by rw [Int.zero_add, atI_nat', List.getElem?_eq_getElem h0]
    have u : E__law_alike_1 n F [some (.tup ds), some (.tup ds), some (.int (0 + (i : Int)))] st = some (.bl true, st) := by
      have hF := h ds[i] (List.getElem_mem h0)
      unfold E__law_alike_1
      l_intsC
    rw [List.map_cons, List.map_cons, lcL_cons]
    l_intsC
theorem alike_tup {n : Nat} {st : Store} {ds : List D} (h : ∀ x ∈ ds, F__law_alike n [x, x] st = some (.bl true, st)) (hl : ds.length ≤ 16777216) : F__law_alike (n + 1) [.tup ds, .tup ds] st = some (.bl true, st) := by
  have e := alike_lc (n := n) h (List.range ds.length) fun i hi => List.mem_range.mp hi
  have b : blsD ((List.range ds.length).map fun _ => D.bl true) = some ((List.range ds.length).map fun _ => true) := blsD_map (fun _ => true) _
  have q : ((ds.length : Int) == (ds.length : Int)) = true := by simp
  have q0 : 0 ≤ (ds.length : Int) := by omega
  have q1 : (ds.length : Int) < 4294967296 := by omega
  have q2 : (rngL 0 ds.length).length ≤ 16777216 := by rw [rngL_length]; exact hl
  have q3 : rngL 0 ds.length = (List.range ds.length).map fun i => .int (0 + (i : Nat)) := rfl
  have q4 : (ds.length : Int).toNat = ds.length := by omega
  have q5 : (List.map (fun _ => true) (List.range ds.length)).all id = true := by simp
  show mFun 3 2 (B__law_alike n (F__law_alike n)) _ _ = _
  rw [← q3] at e
  have k := (kLc_eq (g1 := gN 2) (t := mYes) (m := E__law_alike_1 n (F__law_alike n)) (env := [some (.tup ds), some (.tup ds), none]) (st := st) q2).trans e
  clear q3 h q2 e hl
  unfold B__law_alike
  l_intsC
  rw [fin_same rfl]
theorem alike_strs (n : Nat) (l : List Str) (st : Store) (h : l.length ≤ 16777216) : F__law_alike (n + 2) [txtD l, txtD l] st = some (.bl true, st) := by
  refine alike_tup (n := n + 1) (fun x hx => ?_) (by rw [List.length_map]; exact h)
  obtain ⟨y, _, rfl⟩ := List.mem_map.mp hx
  exact alike_str n y st
theorem alike_way (n : Nat) {w : Way} (st : Store) (h1 : w.cs.length ≤ 16777216) (h2 : w.ls.length ≤ 16777216) : F__law_alike (n + 3) [eW w, eW w] st = some (.bl true, st) := by
  refine alike_tup (n := n + 2) (fun x hx => ?_) (by simp)
  simp only [List.mem_cons, List.not_mem_nil, or_false] at hx
  rcases hx with rfl | rfl | rfl
  · refine alike_tup (n := n + 1) (fun x hx => ?_) (by simp)
    simp only [List.mem_cons, List.not_mem_nil, or_false] at hx
    rcases hx with rfl | rfl <;> exact alike_int n _ st
  · exact alike_strs n _ st h1
  · exact alike_strs n _ st h2
theorem mem_sum {l : List Way} {w : Way} (h : w ∈ l) : wtW w ≤ wtL l := by
  induction l with
  | nil => cases h
  | cons r l ih =>
    unfold wtL at *
    rw [List.map_cons, List.sum_cons]
    rcases List.mem_cons.mp h with rfl | h
    · omega
    · have := ih h; omega
section
variable {w : World} {pr : List (Str × Bod)}
theorem alike_alts (ok : OkP pr) (st : Store) : F__law_alike 10 [.tup (pr.map altE), .tup (pr.map altE)] st = some (.bl true, st) := by
  refine alike_tup (n := 9) (fun x hx => ?_) (by rw [List.length_map]; have := ok.le; omega)
  obtain ⟨r, hr, rfl⟩ := List.mem_map.mp hx
  have hb := ok.ok r hr
  refine alike_tup (n := 8) (fun x hx => ?_) (by simp)
  simp only [List.mem_cons, List.not_mem_nil, or_false] at hx
  rcases hx with rfl | rfl
  · exact alike_str 7 _ st
  · refine alike_tup (n := 7) (fun x hx => ?_) (by rw [List.length_map]; have := alt_len hb; omega)
    obtain ⟨v, hv, rfl⟩ := List.mem_map.mp hx
    have h1 := mem_sum hv
    have h2 := alt_wt hb
    have h3 : v.cs.length + v.ls.length < 3 ^ (v.cs.length + v.ls.length) := Nat.lt_pow_self (by decide)
    unfold wtW at h1
    exact alike_way 4 st (by omega) (by omega)
theorem alike_cb (ok : OkP pr) (st : Store) : F__law_alike 10 [.tup (pr.map (cbE pr)), .tup (pr.map (cbE pr))] st = some (.bl true, st) := by
  refine alike_tup (n := 9) (fun x hx => ?_) (by rw [List.length_map]; have := ok.le; omega)
  obtain ⟨r, hr, rfl⟩ := List.mem_map.mp hx
  refine alike_tup (n := 8) (fun x hx => ?_) (by simp)
  simp only [List.mem_cons, List.not_mem_nil, or_false] at hx
  rcases hx with rfl | rfl
  · exact alike_str 7 _ st
  · have : (toldP pr r.1).length ≤ 4 := by
      have := List.length_filter_le (fun y => @decide (Rb (adjP pr) (adjP pr r.1) y) (Classical.propDecidable _)) (pr.map (·.1))
      rw [List.length_map] at this
      exact Nat.le_trans this ok.le
    exact alike_strs 6 _ st (by omega)
theorem okS_lo {n : Nat} {d : D} (h : ∀ k, d ≠ .loc k) (l : lo 0 d = true) : okS n (some d) = true := by
  cases d <;> first | exact l | exact absurd rfl (h _)
theorem closure (ok : OkP pr) {S : Store} (hS : los 0 S = true) (hp : pls S = true) {b0 b1 b2 b5 b6 b7 b8 b9 b10 b11 b12 b13 b14 : Option D} (o0 : okS S.length b0 = true) (o1 : okS S.length b1 = true) (o2 : okS S.length b2 = true) (o6 : okS 0 b6 = true) (o7 : okS 0 b7 = true) (o8 : okS 0 b8 = true) (o9 : okS S.length b9 = true) (o10 : okS 0 b10 = true) (o11 : okS 0 b11 = true) (o12 : okS 0 b12 = true) (o13 : okS 0 b13 = true) (o14 : okS 0 b14 = true) :
    ∃ (k6 k7 k8 k10 k11 k12 k13 k14 : Option D) (g1 g2 : D), (okS 0 k6 = true ∧ okS 0 k7 = true ∧ okS 0 k8 = true ∧ okS 0 k10 = true ∧ okS 0 k11 = true ∧ okS 0 k12 = true ∧ okS 0 k13 = true ∧ okS 0 k14 = true) ∧ (lo 0 g1 = true ∧ lo 0 g2 = true ∧ pl g1 = true ∧ pl g2 = true) ∧
      R_law_4 w [b0, b1, b2, some (progB pr), some (.tup (pr.map altE)), b5, b6, b7, b8, b9, b10, b11, b12, b13, b14, none] S =
        some (.nx [b0, b1, b2, some (progB pr), some (.tup (pr.map altE)), some (.loc S.length), k6, k7, k8, some (.loc (S.length + 1)), k10, k11, k12, k13, k14, none], S ++ [g1, g2]) := by
  have hnm : (pr.map (·.1)).length ≤ 4 := by rw [List.length_map]; exact ok.le
  have op : okS S.length (some (progB pr)) = true := okS_lo (fun k => by unfold progB; exact fun z => by cases z) (lo_progB pr)
  have od : okS S.length (some (.tup (pr.map altE))) = true := los_altE pr
  obtain ⟨i6, i7, i8, F', ⟨p6, p7, p8⟩, hF', e1⟩ := prog_calls (w := w) (S := S) (b0 := b0) (b1 := b1) (b2 := b2) (b3 := some (progB pr)) (b4 := some (.tup (pr.map altE))) (b9 := b9) (b10 := b10) (b11 := b11) (b12 := b12) (b13 := b13) (b14 := b14) (b15 := none) (n := S.length) rfl pr [] (fun _ => []) b6 b7 b8 (fun r hr => dirs_len (ok.ok r hr) hnm) (by rw [List.nil_append]; exact ok.nd) (by rw [List.nil_append]; have := ok.le; omega) (fun _ h => (List.not_mem_nil h).elim) ⟨o6, o7, o8⟩
  have e1 := e1.end
  rw [List.nil_append] at e1 hF'
  have eF : tF (pr.map (·.1)) F' = tF (pr.map (·.1)) (adjP pr) := tF_congr _ fun x hx => by
    obtain ⟨r, hr, rfl⟩ := List.mem_map.mp hx
    rw [hF' r hr, adj_at pr ok.nd r hr]
  rw [eF] at e1
  have t0 : tF (([] : List (Str × Bod)).map (·.1)) (fun _ => []) = [] := rfl
  rw [t0] at e1
  have z0 : ∀ {j : Option D}, okS 0 j = true → okS S.length j = true := fun h => okS_mono (Nat.zero_le _) h
  have e2 := lent_calls (w := w) (S := S) (b0 := b0) (b1 := b1) (b2 := b2) (b3 := some (progB pr)) (b4 := some (.tup (pr.map altE))) (b6 := i6) (b7 := i7) (b8 := i8) (b9 := b9) (b10 := b10) (b11 := b11) (b12 := b12) (b13 := b13) (b14 := b14) (b15 := none) (nm := pr.map (·.1)) (F := adjP pr) (by omega) hS hp o0 o1 o2 op od (z0 p6) (z0 p7) (z0 p8) o9 (z0 o10) (z0 o11) (z0 o12) (z0 o13) (z0 o14) rfl
  have e3 := fun st => cDic_tF (F := adjP pr) (st := st) ok.nd
  obtain ⟨k6, k10, k11, k12, k13, Fd, ⟨q6, q10, q11, q12, q13⟩, hFd, e4⟩ := all_rounds (w := w) (S0 := S) (b0 := b0) (b1 := b1) (b2 := b2) (b4 := some (.tup (pr.map altE))) (b7 := i7) (b8 := i8) (b14 := b14) (n := S.length) ok rfl (rngL 0 pr.length) 0 (adjP pr) i6 b10 b11 b12 b13 (fun i hi => by
    obtain ⟨j, _, rfl⟩ := List.mem_map.mp hi
    exact ⟨_, rfl⟩) (fun r hr => rfl) p6 o10 o11 o12 o13
  rw [rngL_length, Nat.zero_add] at hFd
  have e4 := e4.end
  have e5 := told_lc (w := w) ok hFd (st := S ++ [.dic (tF (pr.map (·.1)) (adjP pr)), .dic (tF (pr.map (·.1)) Fd)]) (m := S.length + 1) (by rw [st_app]; rfl) (c0 := b0) (c1 := b1) (c2 := b2) (c4 := some (.tup (pr.map altE))) (c5 := some (.loc S.length)) (c7 := i7) (c8 := i8) (c10 := k10) (c12 := k12) (c13 := k13) (c14 := b14) pr fun _ h => h
  have e6 := called_by_p (w := w) ok
  have e7 := alike_cb ok
  have ep : pr.map rowB = pr.map fun r => D.tup [.str r.1, eB r.2] := rfl
  have hl : pr.length ≤ 16777216 := by have := ok.le; omega
  have q0 : (0 : Int) ≤ (pr.length : Int) := by omega
  have q1 : (pr.length : Int) < 4294967296 := by omega
  have q4 : (pr.length : Int).toNat = pr.length := by omega
  refine ⟨k6, i7, i8, k10, k11, k12, k13, some (.tup (pr.map (cbE pr))), .dic (tF (pr.map (·.1)) (adjP pr)), .dic (tF (pr.map (·.1)) Fd), ⟨q6, p7, p8, q10, q11, q12, q13, los_cbE pr⟩, ⟨lo_tF _ _, lo_tF _ _, pl_tF _ _, pl_tF _ _⟩, ?_⟩
  rw [ep] at e5
  clear hF' eF t0 hFd p6 p7 p8 q6 q10 q11 q12 q13 o0 o1 o2 o6 o7 o8 o9 o10 o11 o12 o13 o14 op od z0 hS hp hnm
  unfold R_law_4 R_law_3 R_law_2
  generalize tF (pr.map (·.1)) (adjP pr) = T1 at *
  generalize tF (pr.map (·.1)) Fd = T2 at *
  generalize hA : pr.map altE = A at *
  generalize hC : pr.map (cbE pr) = C at *
  clear ok
  unfold progB at *
  l_intsC
end
end K31
end
section
set_option Elab.async false
set_option autoImplicit false
set_option linter.all false
set_option maxRecDepth 100000
set_option maxHeartbeats 2000000
namespace K31
open PySem L2 Mn
local macro_rules | `(tactic| l_ints) => `(tactic| simp only [bnd_some', ret1_some', sSeq_eq, kThen_nx, kThen_rt, kThen_bk, kThen_ct, sNil_eq, sAsg_eq, kAsg_eq, sDrop_eq, kDrop_eq, sRet_eq, kRet_eq, sRetN_eq, sBreak_eq, sCont_eq, sIf_eq, kIf_true, kIf_false, sTgt_eq, kTgt1_eq, kTgt2_eq, sPar_eq, kPar2_eq, sPar3_eq, kPar3_eq, sFor_eq, kFor_eq, sAug_eq, kAug_eq, kAug1_eq, mV_eq, kGot_eq, mC_eq, mOp_eq, kOp1_eq, kOp2_eq, mTB_eq, kB_eq, mAnd_eq, kAnd_true, kAnd_false, mOr_eq, kOr_true, kOr_false, mNot_eq, kNot_eq, mIte_eq, kIte_true, kIte_false, mAndV_eq, kAndV_true, kAndV_false, mOrV_eq, kOrV_true, kOrV_false, mNotV_eq, kNotV_eq, mNil_eq, mCons_eq, kCons1_eq, kCons2_eq, mTup_eq, kTup_eq, mLst_eq, kLst_eq, mFrz_eq, kFrz_eq, mMut_eq, kMut_eq, mCall_eq, mCB_eq, kCB_eq, mCBL_eq, kCBL_eq, mTr_eq, kTr_eq, mNeg_eq, kNeg_eq, mChain_eq, kChn1_eq, kChn2_eq, kChn_true, kChn_false, gN_eq, gsN_eq, gsC_eq, kGs_eq, gT_eq, gTp_eq, gSet_eq, kSet1_eq, kSet2_eq, kSetE_eq, setO_eq, setL_nat, setL_lit, setL_str, mMt_eq, kMt1_eq, kMt1'_eq, kMt2_eq, kMt2'_eq, kMt3_eq, fApp_eq, fPop_eq, kPop_eq, getLast_snoc, dropLast_snoc, fExt_eq, kExt_eq, oAdd_int, oAdd_str, oAdd_tup, oAdd_lst, oAdd_loc, kCat_eq, lstD_lst, lstD_loc, isLst_eq, seqD_tup, seqD_lst, seqD_rol, seqD_loc, dicD_dic, dicD_loc, isDic_eq, oSub_int, oMul_int, oDiv_int, oMod_int, oI_plus, oI_minus, oLt_int, oLe_int, oGt_int, oGe_int, oEq_int, oEq_str, oEq_bl, oNe_int, oNe_str, oNe_bl, oIs_non, oIsNot_non, isN_non, isN_int, isN_bl, isN_str, isN_tup, isN_lst, isN_loc, atI_lit, atI_natc, atI_neg1, ixO_tup, ixO_lst, ixO_dics, ixO_dici, ixO_locs, ixO_loci, ixL_lst, ixL_dics, ixL_dici, cLen_tup, cLen_lst, cLen_dic, cLen_loc, lenL_lst, lenL_dic, cInt_int, cInt_bl, cAbs_int, cTup_tup, cTup_lst, cTup_loc, tupL_eq, cList_eq, cBls_lst, blsA_eq, fAll_eq, fAny_eq, truD_lst, truD_tup, truD_bl, truD_int, truD_non, truD_loc, truL_lst, truL_dic, itD_tup, itD_lst, miSeq_eq, kIt_eq, miR1_eq, kR1_eq, miR2_eq, kR2_eq, mSl_eq, kSl1_eq, kSl2_eq, kSl3_eq, mNoP_eq, mPart_eq, kPart_eq, slD_tup, slD_lst, slD_rol, slD_loc, slA_eq, mIsi_eq, kIsi_eq, tyD_non, tyD_bl, tyD_int, tyD_str, tyD_tup, tyD_lst, isi_NoneType_tuple, isi_NoneType_list, isi_NoneType_int, isi_NoneType_str, isi_NoneType_bool, isi_NoneType_int_str, isi_bool_tuple, isi_bool_list, isi_bool_int, isi_bool_str, isi_bool_bool, isi_bool_int_str, isi_int_tuple, isi_int_list, isi_int_int, isi_int_str, isi_int_bool, isi_int_int_str, isi_str_tuple, isi_str_list, isi_str_int, isi_str_str, isi_str_bool, isi_str_int_str, isi_tuple_tuple, isi_tuple_list, isi_tuple_int, isi_tuple_str, isi_tuple_bool, isi_tuple_int_str, isi_list_tuple, isi_list_list, isi_list_int, isi_list_str, isi_list_bool, isi_list_int_str, mDicF_eq, kDicF_eq, mDicM_eq, kDicM_eq, dicA_eq, dicB_eq, mDic0_eq, mGet1_eq, kGet1_eq, kGet1a_eq, mGet2_eq, kGet2_eq, kGet2a_eq, kGet2b_eq, kGet3_str, kGet3_int, kForB_eq, kForS_nx, kForS_ct, kForS_bk, kForS_rt, kWh_true, kWh_false, kWhS_nx, kWhS_ct, kWhS_bk, kWhS_rt, mLc_eq, kLc_eq, kLc1_eq, kLc2_true, kLc2_false, kLc3_eq, kLc4_eq, mYes_eq, wipeE_nil, wipeE_cons, mFun_0, mFun_1, mFun_2, mFun_3, mFun_4, mFun_5, mFun_6, mFun_7, mFun_8, mFunL_0, mFunL_1, mFunL_2, mFunL_3, mFunL_4, mFunL_5, mFunL_6, mFunL_7, mFunL_8, endW_rt, endW_nx, mRev_eq, kRev_eq, miTxt_eq, kTxt_eq, oIsB_bl, oIsNotB_bl, oIn_eq, oNotIn_eq, kIn_eq, kNIn_eq, inO_sign, inA_eq, inO_tup, inO_lst, inO_loc, inL_lst, inL_dics, inL_dici, inO_dics, inO_dici, flatD_non, flatD_bl, flatD_int, flatD_str, ixO_dkls, ixO_dkli, inO_dkls, inO_dkli, dicD_dkl, mDitN_eq, ixDN_eq, kIxN_eq, setN_eq, gSetN_eq, kSetN1_eq, kSetN2_eq, kSetN3_eq, mGet2N_eq, kGetN1_eq, kGetN2_eq, kGetN3_eq, kGetN4_eq, miKeysN_eq, kKeysN_eq, miKeysL_eq, kKeysL_eq, sForP_eq, kForP_eq, kForP2_eq, keepM_eq, mLc2_eq, kLd_eq, kLd1_eq, kLd2_true, kLd2_false, kLd2b_eq, kLd3_eq, kLd4_eq, Nat.reduceSub, Nat.reduceAdd, Nat.reduceLeDiff, Nat.reduceLT, Nat.reduceEqDiff, Int.reduceLT, Int.reduceLE, Int.reduceAdd, Int.reduceSub, Int.reduceNeg, Int.reduceMul, Int.reduceToNat, Int.reduceBEq, fits_lit, List.getElem?_cons_zero, List.getElem?_cons_succ, List.getElem?_nil, List.set_cons_zero, List.set_cons_succ, List.set_nil, List.length_cons, List.length_nil, List.length_set, List.length_map, List.length_append, List.set_set, List.replicate_succ, List.replicate_zero, List.isEmpty_nil, List.isEmpty_cons, List.nil_append, List.cons_append, List.append_assoc, Bool.not_true, Bool.not_false, decide_true, decide_false, if_true, if_false, Bool.false_eq_true, Option.getD_none, Option.getD_some, Option.isSome_none, Option.isSome_some, st_app, st_app0, st_set, st_set0, List.getLast?_nil, getLast_snoc, dropLast_snoc])
local macro_rules | `(tactic| l_intsC) => `(tactic| simp only [bnd_some', ret1_some', sSeq_eq, kThen_nx, kThen_rt, kThen_bk, kThen_ct, sNil_eq, sAsg_eq, kAsg_eq, sDrop_eq, kDrop_eq, sRet_eq, kRet_eq, sRetN_eq, sBreak_eq, sCont_eq, sIf_eq, kIf_true, kIf_false, sTgt_eq, kTgt1_eq, kTgt2_eq, sPar_eq, kPar2_eq, sPar3_eq, kPar3_eq, sFor_eq, kFor_eq, sAug_eq, kAug_eq, kAug1_eq, mV_eq, kGot_eq, mC_eq, mOp_eq, kOp1_eq, kOp2_eq, mTB_eq, kB_eq, mAnd_eq, kAnd_true, kAnd_false, mOr_eq, kOr_true, kOr_false, mNot_eq, kNot_eq, mIte_eq, kIte_true, kIte_false, mAndV_eq, kAndV_true, kAndV_false, mOrV_eq, kOrV_true, kOrV_false, mNotV_eq, kNotV_eq, mNil_eq, mCons_eq, kCons1_eq, kCons2_eq, mTup_eq, kTup_eq, mLst_eq, kLst_eq, mFrz_eq, kFrz_eq, mMut_eq, kMut_eq, mCall_eq, mCB_eq, kCB_eq, mCBL_eq, kCBL_eq, mTr_eq, kTr_eq, mNeg_eq, kNeg_eq, mChain_eq, kChn1_eq, kChn2_eq, kChn_true, kChn_false, gN_eq, gsN_eq, gsC_eq, kGs_eq, gT_eq, gTp_eq, gSet_eq, kSet1_eq, kSet2_eq, kSetE_eq, setO_eq, setL_nat, setL_lit, setL_str, mMt_eq, kMt1_eq, kMt1'_eq, kMt2_eq, kMt2'_eq, kMt3_eq, fApp_eq, fPop_eq, kPop_eq, getLast_snoc, dropLast_snoc, fExt_eq, kExt_eq, oAdd_int, oAdd_str, oAdd_tup, oAdd_lst, oAdd_loc, kCat_eq, lstD_lst, lstD_loc, isLst_eq, seqD_tup, seqD_lst, seqD_rol, seqD_loc, dicD_dic, dicD_loc, isDic_eq, oSub_int, oMul_int, oDiv_int, oMod_int, oI_plus, oI_minus, oLt_int, oLe_int, oGt_int, oGe_int, oEq_int, oEq_str, oEq_bl, oNe_int, oNe_str, oNe_bl, oIs_non, oIsNot_non, isN_non, isN_int, isN_bl, isN_str, isN_tup, isN_lst, isN_loc, atI_lit, atI_natc, atI_neg1, ixO_tup, ixO_lst, ixO_dics, ixO_dici, ixO_locs, ixO_loci, ixL_lst, ixL_dics, ixL_dici, cLen_tup, cLen_lst, cLen_dic, cLen_loc, lenL_lst, lenL_dic, cInt_int, cInt_bl, cAbs_int, cTup_tup, cTup_lst, cTup_loc, tupL_eq, cList_eq, cBls_lst, blsA_eq, fAll_eq, fAny_eq, truD_lst, truD_tup, truD_bl, truD_int, truD_non, truD_loc, truL_lst, truL_dic, itD_tup, itD_lst, miSeq_eq, kIt_eq, miR1_eq, kR1_eq, miR2_eq, kR2_eq, mSl_eq, kSl1_eq, kSl2_eq, kSl3_eq, mNoP_eq, mPart_eq, kPart_eq, slD_tup, slD_lst, slD_rol, slD_loc, slA_eq, mIsi_eq, kIsi_eq, tyD_non, tyD_bl, tyD_int, tyD_str, tyD_tup, tyD_lst, isi_NoneType_tuple, isi_NoneType_list, isi_NoneType_int, isi_NoneType_str, isi_NoneType_bool, isi_NoneType_int_str, isi_bool_tuple, isi_bool_list, isi_bool_int, isi_bool_str, isi_bool_bool, isi_bool_int_str, isi_int_tuple, isi_int_list, isi_int_int, isi_int_str, isi_int_bool, isi_int_int_str, isi_str_tuple, isi_str_list, isi_str_int, isi_str_str, isi_str_bool, isi_str_int_str, isi_tuple_tuple, isi_tuple_list, isi_tuple_int, isi_tuple_str, isi_tuple_bool, isi_tuple_int_str, isi_list_tuple, isi_list_list, isi_list_int, isi_list_str, isi_list_bool, isi_list_int_str, mDicF_eq, kDicF_eq, mDicM_eq, kDicM_eq, dicA_eq, dicB_eq, mDic0_eq, mGet1_eq, kGet1_eq, kGet1a_eq, mGet2_eq, kGet2_eq, kGet2a_eq, kGet2b_eq, kGet3_str, kGet3_int, kForB_eq, kForS_nx, kForS_ct, kForS_bk, kForS_rt, kWh_true, kWh_false, kWhS_nx, kWhS_ct, kWhS_bk, kWhS_rt, mLc_eq, kLc_eq, kLc1_eq, kLc2_true, kLc2_false, kLc3_eq, kLc4_eq, mYes_eq, wipeE_nil, wipeE_cons, mFun_0, mFun_1, mFun_2, mFun_3, mFun_4, mFun_5, mFun_6, mFun_7, mFun_8, mFunL_0, mFunL_1, mFunL_2, mFunL_3, mFunL_4, mFunL_5, mFunL_6, mFunL_7, mFunL_8, endW_rt, endW_nx, mRev_eq, kRev_eq, miTxt_eq, kTxt_eq, oIsB_bl, oIsNotB_bl, oIn_eq, oNotIn_eq, kIn_eq, kNIn_eq, inO_sign, inA_eq, inO_tup, inO_lst, inO_loc, inL_lst, inL_dics, inL_dici, inO_dics, inO_dici, flatD_non, flatD_bl, flatD_int, flatD_str, ixO_dkls, ixO_dkli, inO_dkls, inO_dkli, dicD_dkl, mDitN_eq, ixDN_eq, kIxN_eq, setN_eq, gSetN_eq, kSetN1_eq, kSetN2_eq, kSetN3_eq, mGet2N_eq, kGetN1_eq, kGetN2_eq, kGetN3_eq, kGetN4_eq, miKeysN_eq, kKeysN_eq, miKeysL_eq, kKeysL_eq, sForP_eq, kForP_eq, kForP2_eq, keepM_eq, mLc2_eq, kLd_eq, kLd1_eq, kLd2_true, kLd2_false, kLd2b_eq, kLd3_eq, kLd4_eq, Nat.reduceSub, Nat.reduceAdd, Nat.reduceLeDiff, Nat.reduceLT, Nat.reduceEqDiff, Int.reduceLT, Int.reduceLE, Int.reduceAdd, Int.reduceSub, Int.reduceNeg, Int.reduceMul, Int.reduceToNat, Int.reduceBEq, fits_lit, List.getElem?_cons_zero, List.getElem?_cons_succ, List.getElem?_nil, List.set_cons_zero, List.set_cons_succ, List.set_nil, List.length_cons, List.length_nil, List.length_set, List.length_map, List.length_append, List.set_set, List.replicate_succ, List.replicate_zero, List.isEmpty_nil, List.isEmpty_cons, List.nil_append, List.cons_append, List.append_assoc, Bool.not_true, Bool.not_false, decide_true, decide_false, if_true, if_false, Bool.false_eq_true, Option.getD_none, Option.getD_some, Option.isSome_none, Option.isSome_some, st_app, st_app0, st_set, st_set0, List.getLast?_nil, getLast_snoc, dropLast_snoc, *])
theorem start_lc {st : Store} {a0 : Option D} : ∀ ns : List Int, lcL (gN 1) mYes E__law_start_1 [a0, none] (ns.map .int) st = some (ns.map .int, st)
  | [] => rfl
  | n :: ns => by
    have ih := start_lc (st := st) (a0 := a0) ns
    have u : E__law_start_1 [a0, some (.int n)] st = some (.int n, st) := by
      unfold E__law_start_1
      l_ints
    rw [List.map_cons, lcL_cons]
    l_intsC
theorem finL_new {ds : List D} (h : los 0 ds = true) : finL [] (.loc 0) [.lst ds] = some (.loc 0, [.lst ds]) := by
  have m : ∀ (l : List D), los 0 l = true → mapO (fz [.lst ds] 0 0 8) l = some l := by
    intro l
    induction l with
    | nil => intro _; rfl
    | cons x l ih =>
      intro h
      have h' : (lo 0 x && los 0 l) = true := h
      rw [Bool.and_eq_true] at h'
      simp only [mapO, fz_lo h'.1, ih h'.2]
  have ok : okOld [] [D.lst ds] := okOld_app [] [D.lst ds]
  unfold finL
  rw [if_pos ok]
  simp only [List.length_nil, Nat.le_refl, if_true, List.getElem?_cons_zero, m ds h]
  rfl
theorem start_spec (ns : List Int) (h : ns.length ≤ 63) : F__law_start [.rol (ns.map .int)] [] = some (.loc 0, cst [.non] 0 ns ⟨0, 0, 0⟩) := by
  have c := cut_hi (f := D.int) (l := ns) (v := 63) (by omega)
  have t : ns.take (63 : Int).toNat = ns := List.take_of_length_le h
  rw [t] at c
  have e := start_lc (st := []) (a0 := some (.rol (ns.map .int))) ns
  have l1 : ns.length ≤ 16777216 := by omega
  have fe : finL [] (.loc 0) [cobj ns 0 0 0] = some (.loc 0, cst [.non] 0 ns ⟨0, 0, 0⟩) := by
    have := lo_cobj 0 ns 0 0 0
    exact finL_new this
  unfold cobj at fe
  clear t
  unfold F__law_start B__law_start
  l_intsC
/-- a program as drawn -/
theorem prog_bods {pr : List (Str × D)} {nm : List Str} : (∀ r ∈ pr, IsB nm 6 r.2) → ∃ q : List (Str × Bod), progD pr = progB q ∧ q.map (·.1) = pr.map (·.1) ∧ ∀ r ∈ q, OkB nm 5 r.2 := by
  induction pr with
  | nil => exact fun _ => ⟨[], rfl, rfl, fun _ h => (List.not_mem_nil h).elim⟩
  | cons r pr ih =>
    intro h
    obtain ⟨q, h1, h2, h3⟩ := ih fun p hp => h p (List.mem_cons_of_mem _ hp)
    obtain ⟨b, hb, ob⟩ := (h r (List.mem_cons_self ..)).bod
    refine ⟨(r.1, b) :: q, ?_, by rw [List.map_cons, List.map_cons, h2], fun p hp => ?_⟩
    · have h1 : (pr.map fun r => D.tup [.str r.1, r.2]) = q.map fun r => D.tup [.str r.1, eB r.2] := by
        have h1 : D.tup _ = D.tup _ := h1
        injection h1
      unfold progD progB
      rw [List.map_cons, List.map_cons, h1, hb]
    · rcases List.mem_cons.mp hp with rfl | hp
      · exact ob
      · exact h3 p hp
theorem los_set {n : Nat} {x y : D} (hx : lo n x = true) : ∀ {st : Store} {i : Nat}, los n (st.set i y) = true → los n (st.set i x) = true
  | [], _, h => h
  | d :: st, 0, h => Bool.and_eq_true_iff.mpr ⟨hx, (Bool.and_eq_true_iff.mp h).2⟩
  | d :: st, i + 1, h => Bool.and_eq_true_iff.mpr ⟨(Bool.and_eq_true_iff.mp h).1, los_set hx (Bool.and_eq_true_iff.mp h).2⟩
theorem pls_set {x y : D} (hx : pl x = true) : ∀ {st : Store} {i : Nat}, pls (st.set i y) = true → pls (st.set i x) = true
  | [], _, h => h
  | d :: st, 0, h => Bool.and_eq_true_iff.mpr ⟨hx, (Bool.and_eq_true_iff.mp h).2⟩
  | d :: st, i + 1, h => Bool.and_eq_true_iff.mpr ⟨(Bool.and_eq_true_iff.mp h).1, pls_set hx (Bool.and_eq_true_iff.mp h).2⟩
theorem pls_append : ∀ a b : List D, pls (a ++ b) = (pls a && pls b)
  | [], b => rfl
  | x :: a, b => by
    show (pl x && pls (a ++ b)) = ((pl x && pls a) && pls b)
    rw [pls_append a b, Bool.and_assoc]
theorem pl_cobj (ns : List Int) (i v k : Int) : pl (cobj ns i v k) = true := by
  have := pls_mapm (f := D.int) ns fun _ _ => rfl
  simp [cobj, pl, pls, this]
/-- the slots of a turn -/
structure Sl (n : Nat) (b5 b6 b7 b8 b9 b10 b11 b12 b13 b14 : Option D) : Prop where
  o6 : okS 0 b6 = true
  o7 : okS 0 b7 = true
  o8 : okS 0 b8 = true
  o9 : okS n b9 = true
  o10 : okS 0 b10 = true
  o11 : okS 0 b11 = true
  o12 : okS 0 b12 = true
  o13 : okS 0 b13 = true
  o14 : okS 0 b14 = true
section
variable {w : World} {ns : List Int}
theorem turn {st : Store} {K : Int} {s : CSt} (h : 0 < st.length) (hg : Good ns K s) (hK : K + 300000 < 1000000000000000000) (hl : los 0 (cst st 0 ns s) = true) (hp : pls (cst st 0 ns s) = true) {b0 b3 b4 b5 b6 b7 b8 b9 b10 b11 b12 b13 b14 : Option D} {i : Int} (h0 : okS 0 b0 = true) (sl : Sl st.length b5 b6 b7 b8 b9 b10 b11 b12 b13 b14) :
    ∃ (k3 k4 k5 k6 k7 k8 k9 k10 k11 k12 k13 k14 : Option D) (st' : Store) (s' : CSt), 0 < st'.length ∧ Good ns (K + 200000) s' ∧ los 0 (cst st' 0 ns s') = true ∧ pls (cst st' 0 ns s') = true ∧ Sl st'.length k5 k6 k7 k8 k9 k10 k11 k12 k13 k14 ∧
      L_law_6 w [b0, some (.loc 0), some (.int i), b3, b4, b5, b6, b7, b8, b9, b10, b11, b12, b13, b14, none] (cst st 0 ns s) = some (.nx [b0, some (.loc 0), some (.int i), k3, k4, k5, k6, k7, k8, k9, k10, k11, k12, k13, k14, none], cst st' 0 ns s') := by
  obtain ⟨pr', s1, e1, ⟨hp1, hp2⟩, ⟨hn1, hn2⟩, hb, g1⟩ := program_spec h hg (by omega)
  obtain ⟨pr, q1, q2, q3⟩ := prog_bods hb
  have ok : OkP pr := by
    have hlen : pr.length = pr'.length := by
      have := congrArg List.length q2
      simpa using this
    exact ⟨by omega, by omega, by rw [q2]; exact hn1, by rw [q2]; exact hn2, by rw [q2]; exact q3⟩
  rw [q1] at e1
  have l1 : los 0 (cst st 0 ns s1) = true := los_set (lo_cobj 0 ns _ _ _) hl
  have p1 : pls (cst st 0 ns s1) = true := pls_set (pl_cobj ns _ _ _) hp
  have len1 : (cst st 0 ns s1).length = st.length := cst_len
  obtain ⟨k6, k7, k8, k10, k11, k12, k13, k14, G1, G2, ⟨o6, o7, o8, o10, o11, o12, o13, o14⟩, ⟨u1, u2, u3, u4⟩, e5⟩ := closure (w := w) ok (S := cst st 0 ns s1) l1 p1 (b0 := b0) (b1 := some (.loc 0)) (b2 := some (.int i)) (b5 := b5) (b6 := b6) (b7 := b7) (b8 := b8) (b9 := b9) (b10 := b10) (b11 := b11) (b12 := b12) (b13 := b13) (b14 := b14)
    (okS_mono (Nat.zero_le _) h0) (by rw [len1]; exact decide_eq_true h) rfl sl.o6 sl.o7 sl.o8 (by rw [len1]; exact sl.o9) sl.o10 sl.o11 sl.o12 sl.o13 sl.o14
  have e2 := law_alts_p ok (cst st 0 ns s1)
  have e3 := alternatives_p (w := w) ok (cst st 0 ns s1)
  have e4 := alike_alts ok (cst st 0 ns s1)
  have ca : cst st 0 ns s1 ++ [G1, G2] = cst (st ++ [G1, G2]) 0 ns s1 := cst_app h
  refine ⟨some (progB pr), some (.tup (pr.map altE)), some (.loc st.length), k6, k7, k8, some (.loc (st.length + 1)), k10, k11, k12, k13, k14, st ++ [G1, G2], s1, by simp, g1, ?_, ?_, ⟨o6, o7, o8, ?_, o10, o11, o12, o13, o14⟩, ?_⟩
  · rw [← ca, los_append, l1]
    simp [los, u1, u2]
  · rw [← ca, pls_append, p1]
    simp [pls, u3, u4]
  · exact decide_eq_true (by simp)
  · rw [len1, ca] at e5
    clear ca len1 l1 p1 hb q1 q2 q3 hp1 hp2 hn1 hn2 sl hl hp ok hg g1 h o6 o7 o8 o10 o11 o12 o13 o14 u1 u2 u3 u4
    unfold L_law_6
    l_intsC
theorem turns : ∀ (xs : List D) (st : Store) (K : Int) (s : CSt) (b0 b2 b3 b4 b5 b6 b7 b8 b9 b10 b11 b12 b13 b14 : Option D), (∀ x ∈ xs, ∃ i, x = .int i) → 0 < st.length → Good ns K s → K + 300000 * xs.length < 1000000000000000000 → los 0 (cst st 0 ns s) = true → pls (cst st 0 ns s) = true → okS 0 b0 = true → Sl st.length b5 b6 b7 b8 b9 b10 b11 b12 b13 b14 →
    ∃ env S', forL (gN 2) (L_law_6 w) xs [b0, some (.loc 0), b2, b3, b4, b5, b6, b7, b8, b9, b10, b11, b12, b13, b14, none] (cst st 0 ns s) = some (.nx env, S')
  | [], st, K, s, b0, b2, b3, b4, b5, b6, b7, b8, b9, b10, b11, b12, b13, b14, _, _, _, _, _, _, _, _ => ⟨_, _, rfl⟩
  | x :: xs, st, K, s, b0, b2, b3, b4, b5, b6, b7, b8, b9, b10, b11, b12, b13, b14, hx, h, hg, hK, hl, hp, h0, sl => by
    rw [List.length_cons] at hK
    push_cast at hK
    obtain ⟨i, rfl⟩ := hx x (List.mem_cons_self ..)
    obtain ⟨k3, k4, k5, k6, k7, k8, k9, k10, k11, k12, k13, k14, st', s', h', g', l', p', sl', e⟩ := turn (w := w) (b3 := b3) (b4 := b4) (i := i) h hg (by omega) hl hp h0 sl
    obtain ⟨env, S', ih⟩ := turns xs st' (K + 200000) s' b0 (some (.int i)) k3 k4 k5 k6 k7 k8 k9 k10 k11 k12 k13 k14 (fun y hy => hx y (List.mem_cons_of_mem _ hy)) h' g' (by omega) l' p' h0 sl'
    refine ⟨env, S', ?_⟩
    rw [forL_cons]
    clear hx hg hK hl hp h0 sl g' l' p' sl'
    l_intsC
end
theorem keeps (w : World) : Mn.Keeps (F_law w) := fun ns hns => by
  have e1 := start_spec ns hns
  have h : 0 < ([D.non] : Store).length := by decide
  obtain ⟨env, S', e3⟩ := turns (w := w) (ns := ns) (rngL 0 4) [.non] 0 ⟨0, 0, 0⟩ (some (.rol (ns.map .int))) none none none none none none none none none none none none none (fun x hx => by
    obtain ⟨j, _, rfl⟩ := List.mem_map.mp hx
    exact ⟨_, rfl⟩) h ⟨⟨by show (0 : Int) ≤ 0; omega, by show (0 : Int) ≤ ns.length; omega⟩, by show (0 : Int) ≤ 0; omega, by show (0 : Int) ≤ 0; omega⟩ (by rw [rngL_length]; omega) (by
      have := lo_cobj 0 ns 0 0 0
      simp [cst, los, this]) (by
      have := pl_cobj ns 0 0 0
      simp [cst, pls, this]) (los_map (f := D.int) (fun _ => rfl) ns) ⟨rfl, rfl, rfl, rfl, rfl, rfl, rfl, rfl, rfl⟩
  refine ⟨[], ?_⟩
  have fe : fin [] (.bl true) S' = some (.bl true, []) := fin_app (st := []) (g := S') rfl
  unfold F_law B_law R_law_5
  l_intsC
end K31
end
section
set_option Elab.async false
set_option maxRecDepth 100000
open PySem PySem.W PyProof.Rows
set_option maxHeartbeats 0 in
theorem PySem.Challenge.cw_longodds_k31_alternatives_holds : PySem.Challenge.rw_longodds_k31_alternatives.Holds := by
  w_on; o_law; k_head; (case hw => w_witness2)
  k_fill
  refine L2.walk_ofK (l := PySem.Challenge.rw_longodds_k31_alternatives) (n := 63) (k := 15) (x := "script") (CX := L2.CX0) (sp := fun K => fun vs H Q E => ∀ w, Mn.spF K 1 (K31.F_law w) vs H Q E) rfl (by decide) rfl ⟨rfl, by decide, by decide⟩ (fun w h Y => PySem.W.kIn_of Y) ?F (fun _ _ a ns hl _ hS => fun w => Mn.keeps_sp (K31.keeps w) hl hS) (fun _ _ _ _ h => h)
  case F =>
    intro w mg fa h KX G hmg
    refine' (fun ⟨fd, hb, hF⟩ => ⟨fd, hb, fun base h1 h2 => (hF base h1 h2).imp fun vs H Q E h => h w⟩) (K31.all_mk KX G hmg ?a0 ?l0 ?c0 ?k0 ?a1 ?l1 ?c1 ?k1 ?a2 ?l2 ?c2 ?k2 ?a3 ?l3 ?c3 ?k3 ?a4 ?l4 ?c4 ?k4 ?a5 ?l5 ?c5 ?k5 ?a6 ?l6 ?c6 ?k6 ?a7 ?l7 ?c7 ?k7 ?a8 ?l8 ?c8 ?k8 ?a9 ?l9 ?c9 ?k9 ?a10 ?l10 ?c10 ?k10 ?a11 ?l11 ?c11 ?k11 ?a12 ?l12 ?c12 ?k12 ?a13 ?l13 ?c13 ?k13 ?a14 ?l14 ?c14 ?k14 ?a15 ?l15 ?c15 ?k15 ?a16 ?l16 ?c16 ?k16 ?a17 ?l17 ?c17 ?k17 ?a18 ?l18 ?c18 ?k18 ?a19 ?l19 ?c19 ?k19 ?a20 ?l20 ?c20 ?k20 ?a21 ?l21 ?c21 ?k21 ?z0 ?z1 ?z2 ?z3 ?z4 ?z5 ?z6 ?z7 ?z8 ?z9 ?z10 ?qa_ONE ?qb_ONE ?qa_ZERO ?qb_ZERO)
    (case a0 => k_is); (case l0 => k_is); (case c0 => k_is); (case k0 => k_is)
    (case a1 => k_is); (case l1 => k_is); (case c1 => k_is); (case k1 => k_is)
    (case a2 => k_is); (case l2 => k_is); (case c2 => k_is); (case k2 => k_is)
    (case a3 => k_is); (case l3 => k_is); (case c3 => k_is); (case k3 => k_is)
    (case a4 => k_is); (case l4 => k_is); (case c4 => k_is); (case k4 => k_is)
    (case a5 => k_is); (case l5 => k_is); (case c5 => k_is); (case k5 => k_is)
    (case a6 => k_is); (case l6 => k_is); (case c6 => k_is); (case k6 => k_is)
    (case a7 => k_is); (case l7 => k_is); (case c7 => k_is); (case k7 => k_is)
    (case a8 => k_is); (case l8 => k_is); (case c8 => k_is); (case k8 => k_is)
    (case a9 => k_is); (case l9 => k_is); (case c9 => k_is); (case k9 => k_is)
    (case a10 => k_is); (case l10 => k_is); (case c10 => k_is); (case k10 => k_is)
    (case a11 => k_is); (case l11 => k_is); (case c11 => k_is); (case k11 => k_is)
    (case a12 => k_is); (case l12 => k_is); (case c12 => k_is); (case k12 => k_is)
    (case a13 => k_is); (case l13 => k_is); (case c13 => k_is); (case k13 => k_is)
    (case a14 => k_is); (case l14 => k_is); (case c14 => k_is); (case k14 => k_is)
    (case a15 => k_is); (case l15 => k_is); (case c15 => k_is); (case k15 => k_is)
    (case a16 => k_is); (case l16 => k_is); (case c16 => k_is); (case k16 => k_is)
    (case a17 => k_is); (case l17 => k_is); (case c17 => k_is); (case k17 => k_is)
    (case a18 => k_is); (case l18 => k_is); (case c18 => k_is); (case k18 => k_is)
    (case a19 => k_is); (case l19 => k_is); (case c19 => k_is); (case k19 => k_is)
    (case a20 => k_is); (case l20 => k_is); (case c20 => k_is); (case k20 => k_is)
    (case a21 => k_is); (case l21 => k_is); (case c21 => k_is); (case k21 => k_is)
    (case z0 => k_is)
    (case z1 => k_is)
    (case z2 => k_is)
    (case z3 => k_is)
    (case z4 => k_is)
    (case z5 => k_is)
    (case z6 => k_is)
    (case z7 => k_is)
    (case z8 => k_is)
    (case z9 => k_is)
    (case z10 => k_is)
    (case qa_ONE => k_is)
    (case qb_ONE => k_is)
    (case qa_ZERO => k_is)
    (case qb_ZERO => k_is)
end
