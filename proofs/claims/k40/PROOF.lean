import PyProof.Rows.All
import Wide.All
import OpenK.AllK
import Wide.FinOn
import HandS.ForMost
import HandS.Walk
import HandS.TupAny
import HandS.Wide
import HandS.CallSlots
import HandS.WordsExc
import HandS.Style
import HandS.TupMul
import HandS.TryOnly
import HandS.TupLen
import KE.KTupSum
import HandS.Strs
import HandS.IsInst
import PySem.Challenge.RW_citywright_k40_whole_bits_of_queues_coun
set_option Elab.async false
set_option linter.all false
set_option maxRecDepth 100000
set_option maxHeartbeats 4000000
namespace DL
open PySem PySem.Spec PyProof.Rows L2

/-! ### data: what a value is, the objects that nobody changes written out -/
inductive D where
  | non | bl (b : Bool) | int (i : Int) | str (x : Str)
  | tup (ds : List D) | lst (ds : List D) | sl (ds : List D) | kt (ds : List D)
  | loc (a : Addr)
  | obj (C : Addr) (ns : List Str) (ds : List D)
  | dK (ks : List Key) (ds : List D)
  | dT (ks : List (List Key)) (ds : List D)
/-- what stands at a place that may change -/
inductive MO where
  | lst (ds : List D)
  | dK (kvs : List (Key × D))
  | dT (kvs : List (List Key × D))
  | ins (C : Addr) (fs : List (Str × D))
abbrev Mem := Addr → Option MO
def mup (M : Mem) (a : Addr) (o : MO) : Mem := fun b => if b = a then some o else M b
def mdel (M : Mem) (a : Addr) : Mem := fun b => if b = a then none else M b
theorem mup_same {M : Mem} {a : Addr} {o : MO} : mup M a o a = some o := if_pos rfl
theorem mup_ne {M : Mem} {a b : Addr} {o : MO} (h : b ≠ a) : mup M a o b = M b := if_neg h
theorem mdel_same {M : Mem} {a : Addr} : mdel M a a = none := if_pos rfl
theorem mdel_ne {M : Mem} {a b : Addr} (h : b ≠ a) : mdel M a b = M b := if_neg h
theorem mup_mup {M : Mem} {a : Addr} {o u : MO} : mup (mup M a o) a u = mup M a u := by
  funext b; unfold mup; split <;> rfl
theorem mup_self {M : Mem} {a : Addr} {o : MO} (h : M a = some o) : mup M a o = M := by
  funext b; unfold mup; split
  · next e => rw [e, h]
  · rfl

section
variable (K : PySem.W.Frag) (M : Mem) (H : Hp)
def KL (a : Addr) (xs : List V) : Prop := ∃ (o : Obj) (its : Array Value) (n : Nat), K.lookup a = some o ∧ o.cls = .type "list" ∧ o.dict = none ∧ o.data = .seq its n ∧ its.size ≤ sizeLine ∧ Vals xs its.toList
def KT (a : Addr) (xs : List V) : Prop := ∃ (o : Obj) (its : Array Value) (n : Nat), K.lookup a = some o ∧ o.cls = .type "tuple" ∧ o.data = .seq its n ∧ its.size ≤ sizeLine ∧ Vals xs its.toList
mutual
def Rep : D → V → Prop
  | .non, v => v = .non
  | .bl b, v => v = .bl b
  | .int i, v => v = .int i
  | .str x, v => v = .str x
  | .tup ds, v => ∃ a vs, v = .ref a ∧ H a = some (.tup vs) ∧ M a = none ∧ Reps ds vs
  | .kt ds, v => ∃ a vs, v = .ref a ∧ KT K a vs ∧ Reps ds vs
  | .lst ds, v => ∃ a vs, v = .ref a ∧ H a = some (.lst vs) ∧ M a = none ∧ Reps ds vs
  | .sl ds, v => ∃ a vs, v = .ref a ∧ ((Rd H a (.lst vs) ∧ M a = none) ∨ KL K a vs) ∧ Reps ds vs
  | .loc a, v => v = .ref a
  | .obj C ns ds, v => ∃ a dx vs, v = .ref a ∧ H a = some (.ins C dx (ns.zip vs)) ∧ M a = none ∧ ns.length = ds.length ∧ Reps ds vs
  | .dK ks ds, v => ∃ a vs, v = .ref a ∧ H a = some (.dK (ks.zip vs)) ∧ M a = none ∧ ks.length = ds.length ∧ Reps ds vs
  | .dT ks ds, v => ∃ a vs, v = .ref a ∧ H a = some (.dT (ks.zip vs)) ∧ M a = none ∧ ks.length = ds.length ∧ Reps ds vs
def Reps : List D → List V → Prop
  | [], vs => vs = []
  | d :: ds, vs => ∃ v r, vs = v :: r ∧ Rep d v ∧ Reps ds r
end
def RepO (a : Addr) : MO → Prop
  | .lst ds => ∃ vs, H a = some (.lst vs) ∧ Reps K M H ds vs
  | .dK kvs => ∃ vs, H a = some (.dK ((kvs.map (·.1)).zip vs)) ∧ Reps K M H (kvs.map (·.2)) vs
  | .dT kvs => ∃ vs, H a = some (.dT ((kvs.map (·.1)).zip vs)) ∧ Reps K M H (kvs.map (·.2)) vs
  | .ins C fs => ∃ dx vs, H a = some (.ins C dx ((fs.map (·.1)).zip vs)) ∧ Reps K M H (fs.map (·.2)) vs
def Good : Prop := ∀ a o, M a = some o → RepO K M H a o
end
/-- what nobody changes stays -/
def Stp (M : Mem) (H : Hp) (M' : Mem) (H' : Hp) : Prop := ∀ a o, H a = some o → M a = none → H' a = some o ∧ M' a = none
theorem Stp.refl (M : Mem) (H : Hp) : Stp M H M H := fun _ _ h m => ⟨h, m⟩
theorem Stp.trans {M M1 M2 : Mem} {H H1 H2 : Hp} (a : Stp M H M1 H1) (b : Stp M1 H1 M2 H2) : Stp M H M2 H2 := fun x o h m => b x o (a x o h m).1 (a x o h m).2

section
variable {K : PySem.W.Frag} {M M' : Mem} {H H' : Hp}
theorem Reps.len : ∀ {ds : List D} {vs : List V}, Reps K M H ds vs → ds.length = vs.length
  | [], _, h => by have h : _ = [] := h; rw [h]; rfl
  | _ :: ds, _, h => by
    obtain ⟨v, r, rfl, _, h⟩ := h
    rw [List.length_cons, List.length_cons, Reps.len h]
theorem stp_rd (s : Stp M H M' H') {a : Addr} {u : HO} (h : Rd H a u ∧ M a = none) : Rd H' a u ∧ M' a = none := by
  obtain ⟨h | ⟨o, h⟩, m⟩ := h
  · exact ⟨.inl (s _ _ h m).1, (s _ _ h m).2⟩
  · exact ⟨.inr ⟨o, (s _ _ h m).1⟩, (s _ _ h m).2⟩
mutual
theorem Rep.stp (s : Stp M H M' H') : ∀ {d : D} {v : V}, Rep K M H d v → Rep K M' H' d v
  | .non, _, h => h
  | .bl _, _, h => h
  | .int _, _, h => h
  | .str _, _, h => h
  | .loc _, _, h => h
  | .tup ds, _, h => by
    obtain ⟨a, vs, e, h, m, r⟩ := h
    exact ⟨a, vs, e, (s _ _ h m).1, (s _ _ h m).2, Reps.stp s r⟩
  | .kt ds, _, h => by
    obtain ⟨a, vs, e, h, r⟩ := h
    exact ⟨a, vs, e, h, Reps.stp s r⟩
  | .sl ds, _, h => by
    obtain ⟨a, vs, e, h, r⟩ := h
    exact ⟨a, vs, e, h.imp (stp_rd s) id, Reps.stp s r⟩
  | .lst ds, _, h => by
    obtain ⟨a, vs, e, h, m, r⟩ := h
    exact ⟨a, vs, e, (s _ _ h m).1, (s _ _ h m).2, Reps.stp s r⟩
  | .obj C ns ds, _, h => by
    obtain ⟨a, dx, vs, e, h, m, l, r⟩ := h
    exact ⟨a, dx, vs, e, (s _ _ h m).1, (s _ _ h m).2, l, Reps.stp s r⟩
  | .dK ks ds, _, h => by
    obtain ⟨a, vs, e, h, m, l, r⟩ := h
    exact ⟨a, vs, e, (s _ _ h m).1, (s _ _ h m).2, l, Reps.stp s r⟩
  | .dT ks ds, _, h => by
    obtain ⟨a, vs, e, h, m, l, r⟩ := h
    exact ⟨a, vs, e, (s _ _ h m).1, (s _ _ h m).2, l, Reps.stp s r⟩
theorem Reps.stp (s : Stp M H M' H') : ∀ {ds : List D} {vs : List V}, Reps K M H ds vs → Reps K M' H' ds vs
  | [], _, h => h
  | _ :: _, _, h => by
    obtain ⟨v, r, e, h, t⟩ := h
    exact ⟨v, r, e, Rep.stp s h, Reps.stp s t⟩
end
theorem RepO.stp (s : Stp M H M' H') {a : Addr} {o : MO} (e : H' a = H a) (h : RepO K M H a o) : RepO K M' H' a o := by
  cases o with
  | lst ds => obtain ⟨vs, h, r⟩ := h; exact ⟨vs, e.trans h, r.stp s⟩
  | dK kvs => obtain ⟨vs, h, r⟩ := h; exact ⟨vs, e.trans h, r.stp s⟩
  | dT kvs => obtain ⟨vs, h, r⟩ := h; exact ⟨vs, e.trans h, r.stp s⟩
  | ins C fs => obtain ⟨dx, vs, h, r⟩ := h; exact ⟨dx, vs, e.trans h, r.stp s⟩
theorem RepO.there {a : Addr} {o : MO} (h : RepO K M H a o) : ∃ u, H a = some u := by
  cases o with
  | lst ds => obtain ⟨vs, h, r⟩ := h; exact ⟨_, h⟩
  | dK kvs => obtain ⟨vs, h, r⟩ := h; exact ⟨_, h⟩
  | dT kvs => obtain ⟨vs, h, r⟩ := h; exact ⟨_, h⟩
  | ins C fs => obtain ⟨dx, vs, h, r⟩ := h; exact ⟨_, h⟩
theorem Good.free (g : Good K M H) {p : Addr} (h : H p = none) : M p = none := by
  cases q : M p with
  | none => rfl
  | some o =>
    obtain ⟨u, e⟩ := (g p o q).there
    rw [h] at e; cases e
/-- a new object that nobody changes -/
theorem stp_new {p : Addr} {o : HO} (g : Good K M H) (h : H p = none) : Stp M H M (upd H p o) := fun a u e m => by
  rw [upd_ne (ne_of_none e h)]; exact ⟨e, m⟩
theorem good_new {p : Addr} {o : HO} (g : Good K M H) (h : H p = none) : Good K M (upd H p o) := fun a u e => by
  have ne : a ≠ p := fun z => by rw [z, g.free h] at e; cases e
  exact (g a u e).stp (stp_new g h) (upd_ne ne)
/-- a new place that may change -/
theorem stp_loc {p : Addr} {o : HO} {u : MO} (h : H p = none) : Stp M H (mup M p u) (upd H p o) := fun a x e m => by
  have ne := ne_of_none e h
  rw [upd_ne ne, mup_ne ne]; exact ⟨e, m⟩
theorem good_loc {p : Addr} {o : HO} {u : MO} (g : Good K M H) (h : H p = none) (r : RepO K (mup M p u) (upd H p o) p u) : Good K (mup M p u) (upd H p o) := fun a x e => by
  by_cases ne : a = p
  · rw [ne] at e ⊢
    rw [mup_same] at e; cases e; exact r
  · rw [mup_ne ne] at e
    exact (g a x e).stp (stp_loc h) (upd_ne ne)
/-- a place is changed -/
theorem stp_put {p : Addr} {o : HO} {u u' : MO} (h : M p = some u) : Stp M H (mup M p u') (upd H p o) := fun a x e m => by
  have ne : a ≠ p := fun z => by rw [z, h] at m; cases m
  rw [upd_ne ne, mup_ne ne]; exact ⟨e, m⟩
theorem good_put {p : Addr} {o : HO} {u u' : MO} (g : Good K M H) (h : M p = some u) (r : RepO K (mup M p u') (upd H p o) p u') : Good K (mup M p u') (upd H p o) := fun a x e => by
  by_cases ne : a = p
  · rw [ne] at e ⊢
    rw [mup_same] at e; cases e; exact r
  · rw [mup_ne ne] at e
    exact (g a x e).stp (stp_put h) (upd_ne ne)
/-- fewer places -/
def Sub (M' M : Mem) : Prop := ∀ a o, M' a = some o → M a = some o
theorem Sub.refl (M : Mem) : Sub M M := fun _ _ h => h
theorem Sub.trans {M M1 M2 : Mem} (a : Sub M M1) (b : Sub M1 M2) : Sub M M2 := fun x o h => b x o (a x o h)
theorem Sub.none {M M' : Mem} (s : Sub M' M) {a : Addr} (h : M a = none) : M' a = none := by
  cases q : M' a with
  | none => rfl
  | some o => rw [s a o q] at h; cases h
theorem stp_sub (s : Sub M' M) : Stp M H M' H := fun _ _ h m => ⟨h, s.none m⟩
theorem good_sub (s : Sub M' M) (g : Good K M H) : Good K M' H := fun a o e => (g a o (s a o e)).stp (stp_sub s) rfl
theorem sub_del {a : Addr} : Sub (mdel M a) M := fun b o h => by
  by_cases e : b = a
  · rw [e, mdel_same] at h; cases h
  · rw [mdel_ne e] at h; exact h
theorem sub_new {a : Addr} {o : MO} (h : M a = none) : Sub M (mup M a o) := fun b u e => by
  have ne : b ≠ a := fun z => by rw [z, h] at e; cases e
  rw [mup_ne ne]; exact e
theorem Sub.mup {M M' : Mem} (s : Sub M' M) {a : Addr} {o : MO} : Sub (mup M' a o) (mup M a o) := fun b u e => by
  by_cases ne : b = a
  · rw [ne, mup_same] at e ⊢; exact e
  · rw [mup_ne ne] at e ⊢; exact s _ _ e
/-- a place that is no more changed -/
theorem freeze_lst {a : Addr} {ds : List D} (g : Good K M H) (h : M a = some (.lst ds)) : Rep K (mdel M a) H (.lst ds) (.ref a) := by
  obtain ⟨vs, h, r⟩ := g a _ h
  exact ⟨a, vs, rfl, h, mdel_same, r.stp (stp_sub sub_del)⟩
theorem freeze_ins {a C : Addr} {fs : List (Str × D)} (g : Good K M H) (h : M a = some (.ins C fs)) : Rep K (mdel M a) H (.obj C (fs.map (·.1)) (fs.map (·.2))) (.ref a) := by
  obtain ⟨dx, vs, h, r⟩ := g a _ h
  exact ⟨a, dx, vs, rfl, h, mdel_same, by simp, r.stp (stp_sub sub_del)⟩
theorem freeze_dK {a : Addr} {kvs : List (Key × D)} (g : Good K M H) (h : M a = some (.dK kvs)) : Rep K (mdel M a) H (.dK (kvs.map (·.1)) (kvs.map (·.2))) (.ref a) := by
  obtain ⟨vs, h, r⟩ := g a _ h
  exact ⟨a, vs, rfl, h, mdel_same, by simp, r.stp (stp_sub sub_del)⟩
theorem freeze_dT {a : Addr} {kvs : List (List Key × D)} (g : Good K M H) (h : M a = some (.dT kvs)) : Rep K (mdel M a) H (.dT (kvs.map (·.1)) (kvs.map (·.2))) (.ref a) := by
  obtain ⟨vs, h, r⟩ := g a _ h
  exact ⟨a, vs, rfl, h, mdel_same, by simp, r.stp (stp_sub sub_del)⟩
theorem Reps.append {ds es : List D} {vs ws : List V} : Reps K M H ds vs → Reps K M H es ws → Reps K M H (ds ++ es) (vs ++ ws) := by
  induction ds generalizing vs with
  | nil => intro h r; have h : vs = [] := h; rw [h]; exact r
  | cons d ds ih =>
    intro h r
    obtain ⟨v, t, rfl, h1, h2⟩ := h
    exact ⟨v, t ++ ws, rfl, h1, ih h2 r⟩
theorem Reps.get {ds : List D} {vs : List V} {i : Nat} {d : D} (h : Reps K M H ds vs) (e : ds[i]? = some d) : ∃ v, vs[i]? = some v ∧ Rep K M H d v := by
  induction ds generalizing vs i with
  | nil => simp at e
  | cons x ds ih =>
    obtain ⟨v, t, rfl, h1, h2⟩ := h
    cases i with
    | zero => simp at e; subst e; exact ⟨v, rfl, h1⟩
    | succ i =>
      have q := ih (vs := t) (i := i) h2 (by simpa using e)
      exact q
theorem Reps.getV {ds : List D} {vs : List V} {i : Nat} {v : V} (h : Reps K M H ds vs) (e : vs[i]? = some v) : ∃ d, ds[i]? = some d ∧ Rep K M H d v := by
  induction ds generalizing vs i with
  | nil => have h : vs = [] := h; rw [h] at e; simp at e
  | cons x ds ih =>
    obtain ⟨w, t, rfl, h1, h2⟩ := h
    cases i with
    | zero => simp at e; subst e; exact ⟨x, rfl, h1⟩
    | succ i => exact ih h2 (by simpa using e)
theorem Reps.set {ds : List D} {vs : List V} {d : D} {v : V} (r : Rep K M H d v) (i : Nat) : Reps K M H ds vs → Reps K M H (ds.set i d) (vs.set i v) := by
  induction ds generalizing vs i with
  | nil => intro h; have h : vs = [] := h; rw [h]; rfl
  | cons x ds ih =>
    intro h
    obtain ⟨w, t, rfl, h1, h2⟩ := h
    cases i with
    | zero => exact ⟨v, t, rfl, r, h2⟩
    | succ i => exact ⟨w, _, rfl, h1, ih i h2⟩
theorem Reps.take {ds : List D} {vs : List V} (n : Nat) : Reps K M H ds vs → Reps K M H (ds.take n) (vs.take n) := by
  induction ds generalizing vs n with
  | nil => intro h; have h : vs = [] := h; rw [h]; simp; rfl
  | cons x ds ih =>
    intro h
    obtain ⟨w, t, rfl, h1, h2⟩ := h
    cases n with
    | zero => rfl
    | succ n => exact ⟨w, _, rfl, h1, ih n h2⟩
theorem Reps.drop {ds : List D} {vs : List V} (n : Nat) : Reps K M H ds vs → Reps K M H (ds.drop n) (vs.drop n) := by
  induction ds generalizing vs n with
  | nil => intro h; have h : vs = [] := h; rw [h]; simp; rfl
  | cons x ds ih =>
    intro h
    obtain ⟨w, t, rfl, h1, h2⟩ := h
    cases n with
    | zero => exact ⟨w, t, rfl, h1, h2⟩
    | succ n => exact ih n h2
theorem Reps.ints {vs : List V} : ∀ {ns : List Int}, Reps K M H (ns.map D.int) vs → vs = ns.map V.int := by
  intro ns
  induction ns generalizing vs with
  | nil => intro h; exact h
  | cons n ns ih =>
    intro h
    obtain ⟨w, t, rfl, h1, h2⟩ := h
    have h1 : w = .int n := h1
    rw [h1, ih h2]; rfl
theorem reps_ints : ∀ (ns : List Int), Reps K M H (ns.map D.int) (ns.map V.int)
  | [] => rfl
  | n :: ns => ⟨.int n, ns.map V.int, rfl, rfl, reps_ints ns⟩
theorem Reps.strs {vs : List V} : ∀ {ns : List Str}, Reps K M H (ns.map D.str) vs → vs = ns.map V.str := by
  intro ns
  induction ns generalizing vs with
  | nil => intro h; exact h
  | cons n ns ih =>
    intro h
    obtain ⟨w, t, rfl, h1, h2⟩ := h
    have h1 : w = .str n := h1
    rw [h1, ih h2]; rfl
theorem Reps.bls {vs : List V} : ∀ {ns : List Bool}, Reps K M H (ns.map D.bl) vs → vs = ns.map V.bl := by
  intro ns
  induction ns generalizing vs with
  | nil => intro h; exact h
  | cons n ns ih =>
    intro h
    obtain ⟨w, t, rfl, h1, h2⟩ := h
    have h1 : w = .bl n := h1
    rw [h1, ih h2]; rfl
end

/-! ### where one stands -/
abbrev Gam := List (Option D)
def Mat (K : PySem.W.Frag) (M : Mem) (H : Hp) : Gam → L2.St → Prop
  | [], σ => σ = []
  | none :: Γ, σ => ∃ o r, σ = o :: r ∧ Mat K M H Γ r
  | some d :: Γ, σ => ∃ v r, σ = some v :: r ∧ Rep K M H d v ∧ Mat K M H Γ r
section
variable {K : PySem.W.Frag} {M M' : Mem} {H H' : Hp}
theorem Mat.stp (s : Stp M H M' H') : ∀ {Γ : Gam} {σ : L2.St}, Mat K M H Γ σ → Mat K M' H' Γ σ
  | [], _, h => h
  | none :: _, _, h => by
    obtain ⟨o, r, e, h⟩ := h
    exact ⟨o, r, e, h.stp s⟩
  | some d :: _, _, h => by
    obtain ⟨v, r, e, h1, h⟩ := h
    exact ⟨v, r, e, h1.stp s, h.stp s⟩
theorem Mat.get : ∀ {Γ : Gam} {σ : L2.St} {i : Nat} {d : D}, Mat K M H Γ σ → Γ[i]? = some (some d) → ∃ v, σ[i]? = some (some v) ∧ Rep K M H d v
  | [], _, _, _, _, e => by simp at e
  | none :: _, _, 0, _, _, e => by simp at e
  | none :: _, _, i + 1, _, h, e => by
    obtain ⟨o, r, rfl, h⟩ := h
    exact h.get (i := i) (by simpa using e)
  | some x :: _, _, 0, _, h, e => by
    obtain ⟨v, r, rfl, h1, h⟩ := h
    simp at e; subst e; exact ⟨v, rfl, h1⟩
  | some x :: _, _, i + 1, _, h, e => by
    obtain ⟨v, r, rfl, h1, h⟩ := h
    exact h.get (i := i) (by simpa using e)
theorem Mat.set {d : D} {v : V} (r : Rep K M H d v) : ∀ {Γ : Gam} {σ : L2.St} (i : Nat), Mat K M H Γ σ → Mat K M H (Γ.set i (some d)) (σ.set i (some v))
  | [], _, _, h => by have h : _ = [] := h; rw [h]; rfl
  | none :: _, _, 0, h => by
    obtain ⟨o, t, rfl, h⟩ := h
    exact ⟨v, t, rfl, r, h⟩
  | some x :: _, _, 0, h => by
    obtain ⟨o, t, rfl, h1, h⟩ := h
    exact ⟨v, t, rfl, r, h⟩
  | none :: _, _, i + 1, h => by
    obtain ⟨o, t, rfl, h⟩ := h
    exact ⟨o, _, rfl, h.set r i⟩
  | some x :: _, _, i + 1, h => by
    obtain ⟨o, t, rfl, h1, h⟩ := h
    exact ⟨o, _, rfl, h1, h.set r i⟩
theorem Mat.unset : ∀ {Γ : Gam} {σ : L2.St} (i : Nat) (o : Option V), Mat K M H Γ σ → Mat K M H (Γ.set i none) (σ.set i o)
  | [], _, _, _, h => by have h : _ = [] := h; rw [h]; rfl
  | .none :: _, _, 0, _, h => by
    obtain ⟨o, t, rfl, h⟩ := h
    exact ⟨_, t, rfl, h⟩
  | some x :: _, _, 0, _, h => by
    obtain ⟨o, t, rfl, h1, h⟩ := h
    exact ⟨_, t, rfl, h⟩
  | .none :: _, _, i + 1, q, h => by
    obtain ⟨o, t, rfl, h⟩ := h
    exact ⟨o, _, rfl, h.unset i q⟩
  | some x :: _, _, i + 1, q, h => by
    obtain ⟨o, t, rfl, h1, h⟩ := h
    exact ⟨o, _, rfl, h1, h.unset i q⟩
theorem Mat.len : ∀ {Γ : Gam} {σ : L2.St}, Mat K M H Γ σ → Γ.length = σ.length
  | [], _, h => by have h : _ = [] := h; rw [h]; rfl
  | none :: _, _, h => by
    obtain ⟨o, t, rfl, h⟩ := h
    rw [List.length_cons, List.length_cons, h.len]
  | some x :: _, _, h => by
    obtain ⟨o, t, rfl, h1, h⟩ := h
    rw [List.length_cons, List.length_cons, h.len]
end
/-- what is raised -/
structure Exn where
  cls : Value
  ns : List Str
  ds : List D
def RepX (K : PySem.W.Frag) (M : Mem) (H : Hp) (e : Exn) (c : Value) (dx : Option Addr) : Prop :=
  c = e.cls ∧ ((dx = none ∧ e.ns = [] ∧ e.ds = []) ∨ ∃ p vs, dx = some p ∧ H p = some (.xd (e.ns.zip vs)) ∧ M p = none ∧ e.ns.length = e.ds.length ∧ Reps K M H e.ds vs)
abbrev Pst := D → Mem → Prop
abbrev Xst := Exn → Mem → Prop
abbrev X0 : Xst := fun _ _ => False
abbrev DE := Gam → Mem → Pst → Xst → Prop
abbrev DT := Gam → Mem → (Bool → Mem → Prop) → Xst → Prop
abbrev DA := Gam → Mem → (List D → Mem → Prop) → Xst → Prop
def KQ (K : PySem.W.Frag) (M : Mem) (H : Hp) (R : Pst) (Q : VK) : Prop := ∀ d M' v H', R d M' → Stp M H M' H' → Good K M' H' → Rep K M' H' d v → Q v H'
def KB (K : PySem.W.Frag) (M : Mem) (H : Hp) (R : Bool → Mem → Prop) (Q : Bool → Hp → Prop) : Prop := ∀ b M' H', R b M' → Stp M H M' H' → Good K M' H' → Q b H'
def KA (K : PySem.W.Frag) (M : Mem) (H : Hp) (R : List D → Mem → Prop) (Q : List V → Hp → Prop) : Prop := ∀ ds M' vs H', R ds M' → Stp M H M' H' → Good K M' H' → Reps K M' H' ds vs → Q vs H'
def KX (K : PySem.W.Frag) (M : Mem) (H : Hp) (R : Xst) (E : XK) : Prop := ∀ e M' c dx H', R e M' → Stp M H M' H' → Good K M' H' → RepX K M' H' e c dx → E c dx H'
section
variable {K : PySem.W.Frag} {M M' : Mem} {H H' : Hp}
theorem KQ.step {R : Pst} {Q : VK} (k : KQ K M H R Q) (s : Stp M H M' H') : KQ K M' H' R Q := fun d M2 v H2 r s2 g h => k d M2 v H2 r (s.trans s2) g h
theorem KB.step {R : Bool → Mem → Prop} {Q : Bool → Hp → Prop} (k : KB K M H R Q) (s : Stp M H M' H') : KB K M' H' R Q := fun d M2 H2 r s2 g => k d M2 H2 r (s.trans s2) g
theorem KA.step {R : List D → Mem → Prop} {Q : List V → Hp → Prop} (k : KA K M H R Q) (s : Stp M H M' H') : KA K M' H' R Q := fun d M2 v H2 r s2 g h => k d M2 v H2 r (s.trans s2) g h
theorem KX.step {R : Xst} {E : XK} (k : KX K M H R E) (s : Stp M H M' H') : KX K M' H' R E := fun d M2 c x H2 r s2 g h => k d M2 c x H2 r (s.trans s2) g h
theorem KX0 {E : XK} : KX K M H X0 E := fun _ _ _ _ _ h => h.elim
theorem KQ.now {R : Pst} {Q : VK} (k : KQ K M H R Q) (g : Good K M H) {d : D} {v : V} (h : R d M) (r : Rep K M H d v) : Q v H := k d M v H h (Stp.refl M H) g r
theorem KQ.same {R : Pst} {Q : VK} (k : KQ K M H R Q) {d : D} {v : V} (h : R d M) (s : Stp M H M H') (g : Good K M H') (r : Rep K M H' d v) : Q v H' := k d M v H' h s g r
/-- a new tuple, a new list -/
theorem KQ.tup {R : Pst} {Q : VK} (k : KQ K M H R Q) (g : Good K M H) {ds : List D} {vs : List V} (h : R (.tup ds) M) (r : Reps K M H ds vs) {p : Addr} (n : H p = none) : Q (.ref p) (upd H p (.tup vs)) :=
  k _ M _ _ h (stp_new g n) (good_new g n) ⟨p, vs, rfl, upd_same, g.free n, r.stp (stp_new g n)⟩
theorem KQ.lst {R : Pst} {Q : VK} (k : KQ K M H R Q) (g : Good K M H) {ds : List D} {vs : List V} (h : R (.lst ds) M) (r : Reps K M H ds vs) {p : Addr} (n : H p = none) : Q (.ref p) (upd H p (.lst vs)) :=
  k _ M _ _ h (stp_new g n) (good_new g n) ⟨p, vs, rfl, upd_same, g.free n, r.stp (stp_new g n)⟩
theorem Rep.tupS {ds : List D} {v : V} (h : Rep K M H (.tup ds) v) : ∃ a vs, v = .ref a ∧ SqT K H a vs ∧ Reps K M H ds vs := by
  obtain ⟨a, vs, e, h, _, r⟩ := h
  exact ⟨a, vs, e, .inl (.inl h), r⟩
theorem Rep.ktS {ds : List D} {v : V} (h : Rep K M H (.kt ds) v) : ∃ a vs, v = .ref a ∧ SqT K H a vs ∧ Reps K M H ds vs := by
  obtain ⟨a, vs, e, h, r⟩ := h
  exact ⟨a, vs, e, .inr h, r⟩
/-- what is a list, to be read -/
inductive LikeL (M : Mem) : D → List D → Prop
  | lst (ds) : LikeL M (.lst ds) ds
  | sl (ds) : LikeL M (.sl ds) ds
  | loc {a ds} (h : M a = some (.lst ds)) : LikeL M (.loc a) ds
theorem LikeL.sq {d : D} {ds : List D} {v : V} (l : LikeL M d ds) (g : Good K M H) (h : Rep K M H d v) : ∃ a vs, v = .ref a ∧ SqL K H a vs ∧ Reps K M H ds vs := by
  cases l with
  | lst => obtain ⟨a, vs, e, h, m, r⟩ := h; exact ⟨a, vs, e, .inl (.inl h), r⟩
  | sl => obtain ⟨a, vs, e, h, r⟩ := h; exact ⟨a, vs, e, h.imp And.left id, r⟩
  | loc q => obtain ⟨vs, h', r⟩ := g _ _ q; exact ⟨_, vs, h, .inl (.inl h'), r⟩
/-- a list that stands in the heap itself -/
inductive OwnL (M : Mem) : D → List D → Prop
  | lst (ds) : OwnL M (.lst ds) ds
  | loc {a ds} (h : M a = some (.lst ds)) : OwnL M (.loc a) ds
theorem OwnL.at {d : D} {ds : List D} {v : V} (l : OwnL M d ds) (g : Good K M H) (h : Rep K M H d v) : ∃ a vs, v = .ref a ∧ H a = some (.lst vs) ∧ Reps K M H ds vs := by
  cases l with
  | lst => obtain ⟨a, vs, e, h, m, r⟩ := h; exact ⟨a, vs, e, h, r⟩
  | loc q => obtain ⟨vs, h', r⟩ := g _ _ q; exact ⟨_, vs, h, h', r⟩
end

/-! ### lifting -/
def lE (K : PySem.W.Frag) (E : L2.St → XK) (w : DE) : TE := fun σ H Q => ∃ (Γ : Gam) (M : Mem) (R : Pst) (XR : Xst), Good K M H ∧ Mat K M H Γ σ ∧ w Γ M R XR ∧ KQ K M H R Q ∧ KX K M H XR (E σ)
def lT (K : PySem.W.Frag) (E : L2.St → XK) (w : DT) : TT := fun σ H Q => ∃ (Γ : Gam) (M : Mem) (R : Bool → Mem → Prop) (XR : Xst), Good K M H ∧ Mat K M H Γ σ ∧ w Γ M R XR ∧ KB K M H R Q ∧ KX K M H XR (E σ)
def lA (K : PySem.W.Frag) (E : L2.St → XK) (w : DA) : TA := fun σ H Q => ∃ (Γ : Gam) (M : Mem) (R : List D → Mem → Prop) (XR : Xst), Good K M H ∧ Mat K M H Γ σ ∧ w Γ M R XR ∧ KA K M H R Q ∧ KX K M H XR (E σ)
structure DEnds where
  nx : Gam → Mem → Prop
  rt : D → Mem → Prop
  bk : Gam → Mem → Prop
  ct : Gam → Mem → Prop
  xr : Exn → Gam → Mem → Prop
abbrev DS := DEnds → Gam → Mem → Prop
structure KD (K : PySem.W.Frag) (M : Mem) (H : Hp) (DD : DEnds) (D : Ends) (E : L2.St → XK) : Prop where
  nx : ∀ Γ M' σ H', DD.nx Γ M' → Stp M H M' H' → Good K M' H' → Mat K M' H' Γ σ → D.nx σ H'
  rt : KQ K M H DD.rt D.rt
  bk : ∀ Γ M' σ H', DD.bk Γ M' → Stp M H M' H' → Good K M' H' → Mat K M' H' Γ σ → D.bk σ H'
  ct : ∀ Γ M' σ H', DD.ct Γ M' → Stp M H M' H' → Good K M' H' → Mat K M' H' Γ σ → D.ct σ H'
  xr : ∀ e Γ M' c dx σ H', DD.xr e Γ M' → Stp M H M' H' → Good K M' H' → Mat K M' H' Γ σ → RepX K M' H' e c dx → E σ c dx H'
theorem KD.step {K : PySem.W.Frag} {M M' : Mem} {H H' : Hp} {DD : DEnds} {D : Ends} {E : L2.St → XK} (k : KD K M H DD D E) (s : Stp M H M' H') : KD K M' H' DD D E :=
  ⟨fun Γ M2 σ H2 r s2 g m => k.nx Γ M2 σ H2 r (s.trans s2) g m, k.rt.step s, fun Γ M2 σ H2 r s2 g m => k.bk Γ M2 σ H2 r (s.trans s2) g m, fun Γ M2 σ H2 r s2 g m => k.ct Γ M2 σ H2 r (s.trans s2) g m,
   fun e Γ M2 c x σ H2 r s2 g m h => k.xr e Γ M2 c x σ H2 r (s.trans s2) g m h⟩
theorem KD.kx {K : PySem.W.Frag} {M : Mem} {H : Hp} {DD : DEnds} {D : Ends} {E : L2.St → XK} (k : KD K M H DD D E) {Γ : Gam} {σ : L2.St} (m : Mat K M H Γ σ) : KX K M H (fun e M' => DD.xr e Γ M') (E σ) :=
  fun e M' c x H' r s g h => k.xr e Γ M' c x σ H' r s g (m.stp s) h
def lS (K : PySem.W.Frag) (E : L2.St → XK) (w : DS) : TS := fun D σ H => ∃ (Γ : Gam) (M : Mem) (DD : DEnds), Good K M H ∧ Mat K M H Γ σ ∧ w DD Γ M ∧ KD K M H DD D E
theorem PE.imp {X : Cx} {e : Expr} {t t' : TE} (h : PE X e t) (i : ∀ σ H Q, t' σ H Q → t σ H Q) : PE X e t' := ⟨fun pins s σ H Q I q => h.run pins s σ H Q I (i σ H Q q)⟩
theorem PT.imp {X : Cx} {e : Expr} {t t' : TT} (h : PT X e t) (i : ∀ σ H Q, t' σ H Q → t σ H Q) : PT X e t' := ⟨fun pins s σ H Q I q => h.run pins s σ H Q I (i σ H Q q)⟩
theorem PA.imp {X : Cx} {e : List Expr} {t t' : TA} (h : PA X e t) (i : ∀ σ H Q, t' σ H Q → t σ H Q) : PA X e t' := ⟨fun pos pins s σ H Q I q => h.run pos pins s σ H Q I (i σ H Q q)⟩
theorem PS.imp {X : Cx} {e : Stmt} {t t' : TS} (h : PS X e t) (i : ∀ D σ H, t' D σ H → t D σ H) : PS X e t' := ⟨fun pins s σ H Q I q => h.run pins s σ H Q I (i Q σ H q)⟩
theorem PSs.imp {X : Cx} {e : List Stmt} {t t' : TS} (h : PSs X e t) (i : ∀ D σ H, t' D σ H → t D σ H) : PSs X e t' := ⟨fun pins s σ H Q I q => h.run pins s σ H Q I (i Q σ H q)⟩
end DL
namespace DL
open PySem PySem.Spec PyProof.Rows L2

/-! ### what data is, read as a whole -/
mutual
def toP : D → PyData
  | .non => .none
  | .bl b => .bool b
  | .int i => .int i
  | .str x => .str x
  | .tup ds => .tuple (toPs ds)
  | .lst ds => .list (toPs ds)
  | .sl ds => .list (toPs ds)
  | .kt ds => .tuple (toPs ds)
  | .loc _ => .none
  | .obj _ _ _ => .none
  | .dK _ _ => .none
  | .dT _ _ => .none
def toPs : List D → List PyData
  | [] => []
  | d :: ds => toP d :: toPs ds
end
mutual
/-- None, bools, ints, texts, tuples and lists of such -/
def plain : D → Bool
  | .non => true
  | .bl _ => true
  | .int _ => true
  | .str _ => true
  | .tup ds => plains ds
  | .lst ds => plains ds
  | .sl ds => plains ds
  | .kt ds => plains ds
  | .loc _ => false
  | .obj _ _ _ => false
  | .dK _ _ => false
  | .dT _ _ => false
def plains : List D → Bool
  | [] => true
  | d :: ds => plain d && plains ds
end
section
variable {K : PySem.W.Frag} {M : Mem} {H : Hp}
mutual
theorem Rep.dp : ∀ {d : D} {v : V}, plain d = true → Rep K M H d v → Dp K H v (toP d)
  | .non, v, _, h => by have h : v = .non := h; subst h; exact .non
  | .bl b, v, _, h => by have h : v = .bl b := h; subst h; exact .bl b
  | .int i, v, _, h => by have h : v = .int i := h; subst h; exact .int i
  | .str x, v, _, h => by have h : v = .str x := h; subst h; exact .str x
  | .tup ds, v, p, h => by
    obtain ⟨a, vs, rfl, h, m, r⟩ := h
    exact .tup (.inl (.inl h)) (Reps.dp p r)
  | .kt ds, v, p, h => by
    obtain ⟨a, vs, rfl, h, r⟩ := h
    exact .tup (.inr h) (Reps.dp p r)
  | .lst ds, v, p, h => by
    obtain ⟨a, vs, rfl, h, m, r⟩ := h
    exact .lst (.inl (.inl h)) (Reps.dp p r)
  | .sl ds, v, p, h => by
    obtain ⟨a, vs, rfl, h, r⟩ := h
    exact .lst (h.imp And.left id) (Reps.dp p r)
  | .loc _, _, p, _ => by simp [plain] at p
  | .obj _ _ _, _, p, _ => by simp [plain] at p
  | .dK _ _, _, p, _ => by simp [plain] at p
  | .dT _ _, _, p, _ => by simp [plain] at p
theorem Reps.dp : ∀ {ds : List D} {vs : List V}, plains ds = true → Reps K M H ds vs → DpAll K H vs (toPs ds)
  | [], vs, _, h => by have h : vs = [] := h; subst h; exact .nil
  | d :: ds, vs, p, h => by
    obtain ⟨v, r, rfl, h1, h2⟩ := h
    have p : (plain d && plains ds) = true := p
    rw [Bool.and_eq_true] at p
    exact .cons (Rep.dp p.1 h1) (Reps.dp p.2 h2)
end
end
mutual
/-- == of data -/
def eqb : D → D → Bool
  | .non, .non => true
  | .bl a, .bl b => a == b
  | .bl a, .int j => (if a then 1 else 0) == j
  | .int i, .bl b => i == (if b then 1 else 0)
  | .int i, .int j => i == j
  | .str x, .str y => x == y
  | .tup xs, .tup ys => eqbs xs ys
  | .tup xs, .kt ys => eqbs xs ys
  | .kt xs, .tup ys => eqbs xs ys
  | .kt xs, .kt ys => eqbs xs ys
  | .lst xs, .lst ys => eqbs xs ys
  | .lst xs, .sl ys => eqbs xs ys
  | .sl xs, .lst ys => eqbs xs ys
  | .sl xs, .sl ys => eqbs xs ys
  | _, _ => false
def eqbs : List D → List D → Bool
  | [], [] => true
  | x :: xs, y :: ys => eqb x y && eqbs xs ys
  | _, _ => false
end
mutual
theorem eqv_eqb : ∀ (x y : D), plain x = true → plain y = true → PyData.eqv (toP x) (toP y) = eqb x y
  | .non, y, _, q => by cases y <;> first | rfl | (simp [plain] at q)
  | .bl a, y, _, q => by cases y <;> first | rfl | (simp [plain] at q)
  | .int a, y, _, q => by cases y <;> first | rfl | (simp [plain] at q)
  | .str a, y, _, q => by cases y <;> first | rfl | (simp [plain] at q)
  | .tup xs, y, p, q => by
    cases y with
    | tup ys => exact eqvs_eqbs xs ys p q
    | kt ys => exact eqvs_eqbs xs ys p q
    | _ => first | rfl | (simp [plain] at q)
  | .kt xs, y, p, q => by
    cases y with
    | tup ys => exact eqvs_eqbs xs ys p q
    | kt ys => exact eqvs_eqbs xs ys p q
    | _ => first | rfl | (simp [plain] at q)
  | .lst xs, y, p, q => by
    cases y with
    | lst ys => exact eqvs_eqbs xs ys p q
    | sl ys => exact eqvs_eqbs xs ys p q
    | _ => first | rfl | (simp [plain] at q)
  | .sl xs, y, p, q => by
    cases y with
    | lst ys => exact eqvs_eqbs xs ys p q
    | sl ys => exact eqvs_eqbs xs ys p q
    | _ => first | rfl | (simp [plain] at q)
  | .loc _, _, p, _ => by simp [plain] at p
  | .obj _ _ _, _, p, _ => by simp [plain] at p
  | .dK _ _, _, p, _ => by simp [plain] at p
  | .dT _ _, _, p, _ => by simp [plain] at p
theorem eqvs_eqbs : ∀ (xs ys : List D), plains xs = true → plains ys = true → PyData.eqvAll (toPs xs) (toPs ys) = eqbs xs ys
  | [], [], _, _ => rfl
  | [], _ :: _, _, _ => rfl
  | _ :: _, [], _, _ => rfl
  | x :: xs, y :: ys, p, q => by
    have p : (plain x && plains xs) = true := p
    have q : (plain y && plains ys) = true := q
    rw [Bool.and_eq_true] at p q
    show (PyData.eqv (toP x) (toP y) && PyData.eqvAll (toPs xs) (toPs ys)) = (eqb x y && eqbs xs ys)
    rw [eqv_eqb x y p.1 q.1, eqvs_eqbs xs ys p.2 q.2]
end
mutual
def noBl : D → Bool
  | .non => true
  | .int _ => true
  | .str _ => true
  | .tup ds => noBls ds
  | .lst ds => noBls ds
  | _ => false
def noBls : List D → Bool
  | [] => true
  | d :: ds => noBl d && noBls ds
end
mutual
theorem eqb_iff : ∀ (x y : D), noBl x = true → noBl y = true → (eqb x y = true ↔ x = y)
  | .non, y, _, q => by cases y <;> simp [eqb, noBl] at q ⊢
  | .int a, y, _, q => by cases y <;> simp [eqb, noBl] at q ⊢
  | .str a, y, _, q => by cases y <;> simp [eqb, noBl] at q ⊢
  | .tup xs, y, p, q => by
    cases y with
    | tup ys =>
      show eqbs xs ys = true ↔ _
      rw [eqbs_iff xs ys p q]
      exact ⟨fun e => by rw [e], fun e => by injection e⟩
    | _ => simp [eqb, noBl] at q ⊢
  | .lst xs, y, p, q => by
    cases y with
    | lst ys =>
      show eqbs xs ys = true ↔ _
      rw [eqbs_iff xs ys p q]
      exact ⟨fun e => by rw [e], fun e => by injection e⟩
    | _ => simp [eqb, noBl] at q ⊢
  | .sl _, _, p, _ => by simp [noBl] at p
  | .kt _, _, p, _ => by simp [noBl] at p
  | .bl _, _, p, _ => by simp [noBl] at p
  | .loc _, _, p, _ => by simp [noBl] at p
  | .obj _ _ _, _, p, _ => by simp [noBl] at p
  | .dK _ _, _, p, _ => by simp [noBl] at p
  | .dT _ _, _, p, _ => by simp [noBl] at p
theorem eqbs_iff : ∀ (xs ys : List D), noBls xs = true → noBls ys = true → (eqbs xs ys = true ↔ xs = ys)
  | [], [], _, _ => by simp [eqbs]
  | [], _ :: _, _, _ => by simp [eqbs]
  | _ :: _, [], _, _ => by simp [eqbs]
  | x :: xs, y :: ys, p, q => by
    have p : (noBl x && noBls xs) = true := p
    have q : (noBl y && noBls ys) = true := q
    rw [Bool.and_eq_true] at p q
    show (eqb x y && eqbs xs ys) = true ↔ _
    rw [Bool.and_eq_true, eqb_iff x y p.1 q.1, eqbs_iff xs ys p.2 q.2]
    exact ⟨fun e => by rw [e.1, e.2], fun e => by injection e with a b; exact ⟨a, b⟩⟩
end
theorem eqb_dec {x y : D} (p : noBl x = true) (q : noBl y = true) [Decidable (x = y)] : eqb x y = decide (x = y) := by
  rw [Bool.eq_iff_iff, eqb_iff x y p q]; simp
theorem noBls_ints : ∀ ns : List Int, noBls (ns.map D.int) = true
  | [] => rfl
  | _ :: ns => noBls_ints ns
theorem noBls_strs : ∀ ns : List Str, noBls (ns.map D.str) = true
  | [] => rfl
  | _ :: ns => noBls_strs ns
theorem map_int_inj {xs ys : List Int} : xs.map D.int = ys.map D.int ↔ xs = ys :=
  ⟨fun h => (List.map_inj_right (f := D.int) (fun _ _ e => by injection e)).mp h, fun h => by rw [h]⟩
theorem map_str_inj {xs ys : List Str} : xs.map D.str = ys.map D.str ↔ xs = ys :=
  ⟨fun h => (List.map_inj_right (f := D.str) (fun _ _ e => by injection e)).mp h, fun h => by rw [h]⟩
theorem eqbs_ints (xs ys : List Int) : eqbs (xs.map D.int) (ys.map D.int) = decide (xs = ys) := by
  rw [Bool.eq_iff_iff, eqbs_iff _ _ (noBls_ints _) (noBls_ints _), map_int_inj]; simp
theorem eqbs_strs (xs ys : List Str) : eqbs (xs.map D.str) (ys.map D.str) = decide (xs = ys) := by
  rw [Bool.eq_iff_iff, eqbs_iff _ _ (noBls_strs _) (noBls_strs _), map_str_inj]; simp

/-! ### operations by data -/
abbrev O2 := D → D → Mem → Pst → Prop
abbrev O1 := D → Mem → Pst → Prop
abbrev OC := List D → Mem → Pst → Prop
def lO (K : PySem.W.Frag) (r : O2) : R2 := fun vx vy H Q => ∃ (x y : D) (M : Mem) (R : Pst), Good K M H ∧ Rep K M H x vx ∧ Rep K M H y vy ∧ r x y M R ∧ KQ K M H R Q
def lU (K : PySem.W.Frag) (r : O1) : V → Hp → VK → Prop := fun vx H Q => ∃ (x : D) (M : Mem) (R : Pst), Good K M H ∧ Rep K M H x vx ∧ r x M R ∧ KQ K M H R Q
def lC (K : PySem.W.Frag) (r : OC) : List V → Hp → VK → Prop := fun vs H Q => ∃ (ds : List D) (M : Mem) (R : Pst), Good K M H ∧ Reps K M H ds vs ∧ r ds M R ∧ KQ K M H R Q
theorem OpR.imp {X : Cx} {f : Value → Value → Sem Value} {r r' : R2} (h : OpR X f r) (i : ∀ x y H Q, r' x y H Q → r x y H Q) : OpR X f r' := fun pins s σ H x y v u Q I rx ry q => h pins s σ H x y v u Q I rx ry (i x y H Q q)
theorem UnR.imp {X : Cx} {f : Value → Sem Value} {r r' : V → Hp → VK → Prop} (h : UnR X f r) (i : ∀ x H Q, r' x H Q → r x H Q) : UnR X f r' := fun pins s σ H x v Q I rx q => h pins s σ H x v Q I rx (i x H Q q)
theorem CallR.imp {X : Cx} {f : Value} {r r' : List V → Hp → VK → Prop} (h : CallR X f r) (i : ∀ x H Q, r' x H Q → r x H Q) : CallR X f r' := fun pins s σ H x v Q I rx q => h pins s σ H x v Q I rx (i x H Q q)
theorem IxR.imp {X : Cx} {r r' : R2} (h : IxR X r) (i : ∀ x y H Q, r' x y H Q → r x y H Q) : IxR X r' := fun va sl pins s σ H x y v u Q I rx ry q z => h va sl pins s σ H x y v u Q I rx ry (i x y H Q q) z
theorem SlR.imp {X : Cx} {r r' : V → Option Int → Option Int → Hp → VK → Prop} (h : SlR X r) (i : ∀ x lo hi H Q, r' x lo hi H Q → r x lo hi H Q) : SlR X r' :=
  fun pins s σ H x v vl vu lo hi sl Q I rx hs pl pu q => h pins s σ H x v vl vu lo hi sl Q I rx hs pl pu (i x lo hi H Q q)

/-- the list that a place or a value is -/
def getL (M : Mem) : D → Option (List D)
  | .lst ds => some ds
  | .sl ds => some ds
  | .loc a => match M a with
    | some (.lst ds) => some ds
    | _ => none
  | _ => none
def getO (M : Mem) : D → Option (List D)
  | .lst ds => some ds
  | .loc a => match M a with
    | some (.lst ds) => some ds
    | _ => none
  | _ => none
theorem getL_loc {M : Mem} {a : Addr} {ds : List D} (h : M a = some (.lst ds)) : getL M (.loc a) = some ds := by simp [getL, h]
theorem getO_loc {M : Mem} {a : Addr} {ds : List D} (h : M a = some (.lst ds)) : getO M (.loc a) = some ds := by simp [getO, h]
theorem getL_like {M : Mem} {d : D} {ds : List D} (h : getL M d = some ds) : LikeL M d ds := by
  cases d with
  | lst xs => cases h; exact .lst _
  | sl xs => cases h; exact .sl _
  | loc a =>
    simp only [getL] at h
    split at h
    · next e => cases h; exact .loc e
    · cases h
  | _ => cases h
theorem getO_own {M : Mem} {d : D} {ds : List D} (h : getO M d = some ds) : OwnL M d ds := by
  cases d with
  | lst xs => cases h; exact .lst _
  | loc a =>
    simp only [getO] at h
    split at h
    · next e => cases h; exact .loc e
    · cases h
  | _ => cases h
/-- a list or a tuple -/
def getS (M : Mem) : D → Option (List D)
  | .tup ds => some ds
  | .kt ds => some ds
  | d => getL M d

def oAdd : O2
  | .int i, .int j, M, R => R (.int (i + j)) M
  | .str x, .str y, M, R => x.length + y.length ≤ sizeLine ∧ R (.str (x ++ y)) M
  | .tup xs, .tup ys, M, R => xs.length + ys.length ≤ sizeLine ∧ R (.tup (xs ++ ys)) M
  | .int i, .bl b, M, R => R (.int (i + b2i b)) M
  | x, y, M, R => ∃ xs ys, getO M x = some xs ∧ getO M y = some ys ∧ xs.length + ys.length ≤ sizeLine ∧ R (.lst (xs ++ ys)) M
def oI (C : Int → Int → Prop) (g : Int → Int → D) : O2
  | .int i, .int j, M, R => C i j ∧ R (g i j) M
  | _, _, _, _ => False
def oI0 (g : Int → Int → D) : O2
  | .int i, .int j, M, R => R (g i j) M
  | _, _, _, _ => False
def oI1 (g : Int → D) : O1
  | .int i, M, R => R (g i) M
  | _, _, _ => False
section
variable {X : Cx}
theorem lo_int {f : Value → Value → Sem Value} {g : Int → Int → D} {g' : Int → Int → V} (h : OpR X f (rI0 g')) (e : ∀ M H i j, Rep X.K M H (g i j) (g' i j)) : OpR X f (lO X.K (oI0 g)) := OpR.imp h fun vx vy H Q q => by
  obtain ⟨x, y, M, R, gd, hx, hy, r, k⟩ := q
  cases x <;> cases y <;> first | exact False.elim r | skip
  exact ⟨_, _, hx, hy, k.now gd r (e M H _ _)⟩
theorem lo_intC {f : Value → Value → Sem Value} {C : Int → Int → Prop} {g : Int → Int → D} {g' : Int → Int → V} (h : OpR X f (rI C g')) (e : ∀ M H i j, Rep X.K M H (g i j) (g' i j)) : OpR X f (lO X.K (oI C g)) := OpR.imp h fun vx vy H Q q => by
  obtain ⟨x, y, M, R, gd, hx, hy, r, k⟩ := q
  cases x <;> cases y <;> first | exact False.elim r | skip
  exact ⟨_, _, hx, hy, r.1, k.now gd r.2 (e M H _ _)⟩
theorem lu_int {f : Value → Sem Value} {g : Int → D} {g' : Int → V} (h : UnR X f (rU g')) (e : ∀ M H i, Rep X.K M H (g i) (g' i)) : UnR X f (lU X.K (oI1 g)) := UnR.imp h fun vx H Q q => by
  obtain ⟨x, M, R, gd, hx, r, k⟩ := q
  cases x <;> first | exact False.elim r | skip
  exact ⟨_, hx, k.now gd r (e M H _)⟩
def oSub : O2 := oI0 fun i j => .int (i - j)
def oMul : O2 := oI CMul fun i j => .int (i * j)
def oMod : O2 := oI (fun _ j => 0 < j) fun i j => .int (i % j)
def oDiv : O2 := oI CDiv fun i j => .int (i / j)
def oPow : O2 := oI CPow fun i j => .int (i ^ j.toNat)
def oShl : O2 := oI CPow fun i j => .int (i * 2 ^ j.toNat)
def oShr : O2 := oI (fun _ j => 0 ≤ j) fun i j => .int (i / 2 ^ j.toNat)
def oAnd : O2 := oI0 fun i j => .int (Builtin.bitAnd i j)
def oOr : O2 := oI0 fun i j => .int (Builtin.bitOr i j)
def oXor : O2 := oI0 fun i j => .int (Builtin.bitXor i j)
def oNeg : O1 := oI1 fun i => .int (-i)
def oLt : O2 := oI0 fun i j => .bl (decide (i < j))
def oLe : O2 := oI0 fun i j => .bl (decide (i ≤ j))
def oGt : O2 := oI0 fun i j => .bl (decide (j < i))
def oGe : O2 := oI0 fun i j => .bl (decide (j ≤ i))
theorem lo_sub : OpR X (binaryOp .Sub) (lO X.K oSub) := lo_int op_sub fun _ _ _ _ => rfl
theorem lo_mul : OpR X (binaryOp .Mult) (lO X.K oMul) := lo_intC op_mul fun _ _ _ _ => rfl
theorem lo_mod : OpR X (binaryOp .Mod) (lO X.K oMod) := lo_intC op_mod fun _ _ _ _ => rfl
theorem lo_div : OpR X (binaryOp .FloorDiv) (lO X.K oDiv) := lo_intC op_fdiv fun _ _ _ _ => rfl
theorem lo_pow : OpR X (binaryOp .Pow) (lO X.K oPow) := lo_intC op_pow fun _ _ _ _ => rfl
theorem lo_shl : OpR X (binaryOp .LShift) (lO X.K oShl) := lo_intC op_shl fun _ _ _ _ => rfl
theorem lo_shr : OpR X (binaryOp .RShift) (lO X.K oShr) := lo_intC op_shr fun _ _ _ _ => rfl
theorem lo_and : OpR X (binaryOp .BitAnd) (lO X.K oAnd) := lo_int op_and fun _ _ _ _ => rfl
theorem lo_or : OpR X (binaryOp .BitOr) (lO X.K oOr) := lo_int op_or fun _ _ _ _ => rfl
theorem lo_xor : OpR X (binaryOp .BitXor) (lO X.K oXor) := lo_int op_xor fun _ _ _ _ => rfl
theorem lu_neg : UnR X (unaryOp .USub) (lU X.K oNeg) := lu_int un_neg fun _ _ _ => rfl
theorem lo_lt : OpR X (compareOp .Lt) (lO X.K oLt) := lo_int op_lt fun _ _ _ _ => rfl
theorem lo_le : OpR X (compareOp .LtE) (lO X.K oLe) := lo_int op_le fun _ _ _ _ => rfl
theorem lo_gt : OpR X (compareOp .Gt) (lO X.K oGt) := lo_int op_gt fun _ _ _ _ => rfl
theorem lo_ge : OpR X (compareOp .GtE) (lO X.K oGe) := lo_int op_ge fun _ _ _ _ => rfl
theorem Rep.seqT {M : Mem} {H : Hp} {ds : List D} {v : V} (h : Rep X.K M H (.tup ds) v) : ∃ a vs, v = .ref a ∧ SqT X.K H a vs ∧ Reps X.K M H ds vs := h.tupS
theorem lo_add : OpR X (binaryOp .Add) (lO X.K oAdd) := by
  refine OpR.imp (op_add.or (op_add_str.or (op_catA.or (op_add_ib.or op_cat)))) fun vx vy H Q q => ?_
  obtain ⟨x, y, M, R, gd, hx, hy, r, k⟩ := q
  have lists : (∃ xs ys, getO M x = some xs ∧ getO M y = some ys ∧ xs.length + ys.length ≤ sizeLine ∧ R (.lst (xs ++ ys)) M) → rCat vx vy H Q := fun ⟨xs, ys, e1, e2, hl, q⟩ => by
    obtain ⟨a, vs, rfl, ha, ra⟩ := (getO_own e1).at gd hx
    obtain ⟨b, ws, rfl, hb, rb⟩ := (getO_own e2).at gd hy
    exact ⟨a, b, vs, ws, rfl, rfl, ha, hb, by rw [← ra.len, ← rb.len]; exact hl, fun p hp => k.lst gd q (ra.append rb) hp⟩
  cases x <;> cases y <;> first
    | exact .inr (.inr (.inr (.inr (lists r))))
    | skip
  · exact .inr (.inr (.inr (.inl ⟨_, _, hx, hy, k.now gd r rfl⟩)))
  · exact .inl ⟨_, _, hx, hy, k.now gd r rfl⟩
  · exact .inr (.inl ⟨_, _, hx, hy, r.1, k.now gd r.2 rfl⟩)
  · refine .inr (.inr (.inl ?_))
    obtain ⟨a, vs, rfl, ha, ra⟩ := hx.tupS
    obtain ⟨b, ws, rfl, hb, rb⟩ := hy.tupS
    obtain ⟨hl, q⟩ := r
    refine ⟨a, b, vs, ws, rfl, rfl, ha, hb, by rw [← ra.len, ← rb.len]; exact hl, fun e => ?_, fun _ e => ?_, fun _ _ p hp => k.tup gd q (ra.append rb) hp⟩
    · subst e
      have e2 : ([] : List V).length = _ := ra.len.symm
      rw [List.eq_nil_of_length_eq_zero e2.symm] at q
      exact k.now gd q hy
    · subst e
      have e2 : ([] : List V).length = _ := rb.len.symm
      rw [List.eq_nil_of_length_eq_zero e2.symm, List.append_nil] at q
      exact k.now gd q hx

/-- data as it is read: a place's list taken out -/
def rdD (M : Mem) : D → D
  | .loc a => match M a with
    | some (.lst ds) => .lst ds
    | _ => .loc a
  | d => d
def oEq : O2 := fun x y M R => plain (rdD M x) = true ∧ plain (rdD M y) = true ∧ SeqAt.shaped (toP (rdD M x)) = true ∧ SeqAt.shaped (toP (rdD M y)) = true ∧ R (.bl (eqb (rdD M x) (rdD M y))) M
def oNe : O2 := fun x y M R => plain (rdD M x) = true ∧ plain (rdD M y) = true ∧ SeqAt.shaped (toP (rdD M x)) = true ∧ SeqAt.shaped (toP (rdD M y)) = true ∧ R (.bl (!eqb (rdD M x) (rdD M y))) M
theorem rdD_dp {K : PySem.W.Frag} {M : Mem} {H : Hp} {d : D} {v : V} (g : Good K M H) (p : plain (rdD M d) = true) (h : Rep K M H d v) : Dp K H v (toP (rdD M d)) := by
  cases d with
  | loc a =>
    simp only [rdD] at p ⊢
    split at p
    · next ds e =>
      obtain ⟨vs, h', r⟩ := g _ _ e
      have h : v = .ref a := h
      subst h
      exact .lst (.inl (.inl h')) (r.dp p)
    · simp [plain] at p
  | _ => exact h.dp p
theorem lo_eq (hu : X.A.units + 64 < cLine) : OpR X (compareOp .Eq) (lO X.K oEq) := OpR.imp (op_eqD hu) fun vx vy H Q q => by
  obtain ⟨x, y, M, R, gd, hx, hy, ⟨px, py, sx, sy, r⟩, k⟩ := q
  refine ⟨_, _, rdD_dp gd px hx, rdD_dp gd py hy, sx, sy, ?_⟩
  rw [eqv_eqb _ _ px py]
  exact k.now gd r rfl
theorem lo_ne (hu : X.A.units + 64 < cLine) : OpR X (compareOp .NotEq) (lO X.K oNe) := OpR.imp (op_neD hu) fun vx vy H Q q => by
  obtain ⟨x, y, M, R, gd, hx, hy, ⟨px, py, sx, sy, r⟩, k⟩ := q
  refine ⟨_, _, rdD_dp gd px hx, rdD_dp gd py hy, sx, sy, ?_⟩
  rw [eqv_eqb _ _ px py]
  exact k.now gd r rfl
def isNon : D → Bool
  | .non => true
  | _ => false
theorem isNon_rep {K : PySem.W.Frag} {M : Mem} {H : Hp} {d : D} {v : V} (h : Rep K M H d v) : decide (v = .non) = isNon d := by
  cases d
  case non => have h : v = .non := h; subst h; rfl
  case bl => have h : v = _ := h; subst h; rfl
  case int => have h : v = _ := h; subst h; rfl
  case str => have h : v = _ := h; subst h; rfl
  case loc => have h : v = _ := h; subst h; rfl
  case tup => obtain ⟨a, _, rfl, _⟩ := h; rfl
  case kt => obtain ⟨a, _, rfl, _⟩ := h; rfl
  case lst => obtain ⟨a, _, rfl, _⟩ := h; rfl
  case sl => obtain ⟨a, _, rfl, _⟩ := h; rfl
  case obj => obtain ⟨a, _, _, rfl, _⟩ := h; rfl
  case dK => obtain ⟨a, _, rfl, _⟩ := h; rfl
  case dT => obtain ⟨a, _, rfl, _⟩ := h; rfl
/-- is None, is not None; of two bools -/
def oIs : O2
  | x, .non, M, R => R (.bl (isNon x)) M
  | .bl a, .bl b, M, R => R (.bl (decide (a = b))) M
  | _, _, _, _ => False
def oIsNot : O2
  | x, .non, M, R => R (.bl (!isNon x)) M
  | .bl a, .bl b, M, R => R (.bl (!decide (a = b))) M
  | _, _, _, _ => False
theorem lo_is : OpR X (compareOp .Is) (lO X.K oIs) := OpR.imp (op_isN.or op_isBl) fun vx vy H Q q => by
  obtain ⟨x, y, M, R, gd, hx, hy, r, k⟩ := q
  cases y with
  | non =>
    have r : R (.bl (isNon x)) M := by cases x <;> exact r
    refine .inl ⟨hy, ?_⟩
    rw [isNon_rep hx]
    exact k.now gd r rfl
  | bl b =>
    cases x with
    | bl a => exact .inr ⟨a, b, hx, hy, k.now gd r rfl⟩
    | _ => exact False.elim r
  | _ => cases x <;> exact False.elim r
theorem lo_isnot : OpR X (compareOp .IsNot) (lO X.K oIsNot) := OpR.imp (op_notN.or op_notBl) fun vx vy H Q q => by
  obtain ⟨x, y, M, R, gd, hx, hy, r, k⟩ := q
  cases y with
  | non =>
    have r : R (.bl (!isNon x)) M := by cases x <;> exact r
    refine .inl ⟨hy, ?_⟩
    rw [isNon_rep hx]
    exact k.now gd r rfl
  | bl b =>
    cases x with
    | bl a => exact .inr ⟨a, b, hx, hy, k.now gd r rfl⟩
    | _ => exact False.elim r
  | _ => cases x <;> exact False.elim r
/-! ### items and slices -/
def oIx : O2
  | .str z, .int i, M, R => z.length ≤ sizeLine ∧ ∃ c, atI z.cps.toList i = some c ∧ R (.str ⟨#[c]⟩) M
  | x, .int i, M, R => ∃ ds d, getS M x = some ds ∧ atI ds i = some d ∧ R d M
  | _, _, _, _ => False
theorem Reps.at {K : PySem.W.Frag} {M : Mem} {H : Hp} {ds : List D} {vs : List V} {i : Int} {d : D} (h : Reps K M H ds vs) (e : atI ds i = some d) : ∃ v, atI vs i = some v ∧ Rep K M H d v := by
  unfold atI at e ⊢
  rw [← h.len]
  cases q : ixN ds.length i with
  | none => rw [q] at e; cases e
  | some j =>
    rw [q] at e
    exact h.get (i := j) e
theorem lo_ix : IxR X (lO X.K oIx) := IxR.imp ix_seq fun vx vy H Q q => by
  obtain ⟨x, y, M, R, gd, hx, hy, r, k⟩ := q
  cases y with
  | int i =>
    have hy : vy = .int i := hy
    subst hy
    have lists : ∀ {ds : List D}, LikeL M x ds → ∀ d, atI ds i = some d → R d M → rIxL X.K vx (.int i) H Q := fun l d e q => by
      obtain ⟨a, vs, rfl, ha, ra⟩ := l.sq gd hx
      obtain ⟨v, ev, rv⟩ := ra.at e
      exact ⟨a, vs, i, v, rfl, rfl, ha, ev, k.now gd q rv⟩
    cases x with
    | str z =>
      have hx : vx = .str z := hx
      subst hx
      obtain ⟨hl, c, e, q⟩ := r
      exact .inr (.inr ⟨z, i, c, rfl, rfl, hl, e, k.now gd q rfl⟩)
    | tup ds =>
      obtain ⟨a, vs, rfl, ha, ra⟩ := hx.tupS
      obtain ⟨ds', d, e0, e, q⟩ := r
      cases e0
      obtain ⟨v, ev, rv⟩ := ra.at e
      exact .inr (.inl ⟨a, vs, i, v, rfl, rfl, ha, ev, k.now gd q rv⟩)
    | kt ds =>
      obtain ⟨a, vs, rfl, ha, ra⟩ := hx.ktS
      obtain ⟨ds', d, e0, e, q⟩ := r
      cases e0
      obtain ⟨v, ev, rv⟩ := ra.at e
      exact .inr (.inl ⟨a, vs, i, v, rfl, rfl, ha, ev, k.now gd q rv⟩)
    | _ =>
      obtain ⟨ds, d, e0, e, q⟩ := r
      exact .inl (lists (getL_like e0) d e q)
  | _ => cases x <;> exact False.elim r
def cutD {α : Type} (xs : List α) (lo hi : Option Int) : List α := (xs.drop (HT.sIx xs.length 0 lo)).take (HT.sIx xs.length xs.length hi - HT.sIx xs.length 0 lo)
theorem Reps.cut {K : PySem.W.Frag} {M : Mem} {H : Hp} {ds : List D} {vs : List V} (h : Reps K M H ds vs) (lo hi : Option Int) : Reps K M H (cutD ds lo hi) (cutV vs lo hi) := by
  unfold cutD cutV
  rw [← h.len]
  exact (h.drop _).take _
abbrev OS := D → Option Int → Option Int → Mem → Pst → Prop
def oSl : OS
  | .tup xs, lo, hi, M, R => R (.tup (cutD xs lo hi)) M
  | x, lo, hi, M, R => ∃ xs, getL M x = some xs ∧ R (.lst (cutD xs lo hi)) M
def lSl (K : PySem.W.Frag) (r : OS) : V → Option Int → Option Int → Hp → VK → Prop := fun vx lo hi H Q => ∃ (x : D) (M : Mem) (R : Pst), Good K M H ∧ Rep K M H x vx ∧ r x lo hi M R ∧ KQ K M H R Q
theorem cut_whole {α : Type} {xs : List α} {lo hi : Option Int} (h : HT.sIx xs.length 0 lo = 0 ∧ HT.sIx xs.length xs.length hi = xs.length) : cutD xs lo hi = xs := by
  unfold cutD
  rw [h.1, h.2]
  simp
theorem lo_sl : SlR X (lSl X.K oSl) := SlR.imp (sl_tupA.or sl_list) fun vx lo hi H Q q => by
  obtain ⟨x, M, R, gd, hx, r, k⟩ := q
  have lists : (∃ xs, getL M x = some xs ∧ R (.lst (cutD xs lo hi)) M) → rSlL X.K vx lo hi H Q := fun ⟨xs, e, q⟩ => by
    obtain ⟨a, vs, rfl, ha, ra⟩ := (getL_like e).sq gd hx
    exact ⟨a, vs, rfl, ha, fun p hp => k.lst gd q (ra.cut lo hi) hp⟩
  cases x with
  | tup ds =>
    obtain ⟨a, vs, rfl, ha, ra⟩ := hx.tupS
    refine .inl ⟨a, vs, rfl, ha, fun e => ?_, fun _ p hp => k.tup gd r (ra.cut lo hi) hp⟩
    have r : R (.tup (cutD ds lo hi)) M := r
    rw [cut_whole (by rw [ra.len]; exact e)] at r
    exact k.now gd r hx
  | _ => exact .inr (lists r)
end
end DL
namespace DL
open PySem PySem.Spec PyProof.Rows L2

section
variable {X : Cx} {E : L2.St → XK} {a b c e o : Expr} {es : List Expr} {wa wb wc w wo : DE} {wA : DA} {pos : Pos} {u t : DT}

/-! ### names, constants, operators -/
def dVar (i : Nat) : DE := fun Γ M R _ => ∃ d, Γ[i]? = some (some d) ∧ R d M
theorem de_var {i : Nat} (h : PE X e (tVar i)) : PE X e (lE X.K E (dVar i)) := PE.imp h fun σ H Q ⟨Γ, M, R, XR, g, m, ⟨d, hd, r⟩, k, _⟩ => by
  obtain ⟨v, hv, rv⟩ := m.get hd
  exact ⟨v, hv, k.now g r rv⟩
theorem dv (i : Nat) {x : Str} {pos : Pos} (hN : X.N[i]? = some x := by rfl) (hv : Vis X.env.scope x := by first | exact Or.inl rfl | exact Or.inr (Or.inl rfl) | exact Or.inr (Or.inr rfl)) (hd : (x == ("__debug__" : Str)) = false := by decide)
    (hcd : (x == ("__classdict__" : Str)) = false := by decide) : PE X (.Name x pos) (lE X.K E (dVar i)) := de_var (pv i hN hv hd hcd)
def dC (d : D) : DE := fun _ M R _ => R d M
theorem de_c {d : D} {v : V} (h : PE X e (tC v)) (r : ∀ M H, Rep X.K M H d v) : PE X e (lE X.K E (dC d)) := PE.imp h fun σ H Q ⟨Γ, M, R, XR, g, m, q, k, _⟩ => k.now g q (r M H)
theorem de_int {i j pos} : PE X (.Constant (.int i) j pos) (lE X.K E (dC (.int i))) := de_c pe_int fun _ _ => rfl
theorem de_bl {i j pos} : PE X (.Constant (.bool i) j pos) (lE X.K E (dC (.bl i))) := de_c pe_bl fun _ _ => rfl
theorem de_non {j pos} : PE X (.Constant .none j pos) (lE X.K E (dC .non)) := de_c pe_non fun _ _ => rfl
theorem de_str {x j pos} : PE X (.Constant (.str x) j pos) (lE X.K E (dC (.str x))) := de_c pe_str fun _ _ => rfl
/-- a name of the module that holds a written value -/
theorem de_glob {x : Str} {d : D} {v : V} {u : Value} (hg : Gl X x) (hm : X.mg x = some u) (r : RelV v u) (rd : ∀ M H, Rep X.K M H d v) (hd : (x == ("__debug__" : Str)) = false := by decide) : PE X (.Name x pos) (lE X.K E (dC d)) :=
  de_c (pe_glob hg hm r hd) rd

def dOp (r : O2) (wa wb : DE) : DE := fun Γ M R XR => wa Γ M (fun x M1 => wb Γ M1 (fun y M2 => r x y M2 R) XR) XR
def dUn (r : O1) (wa : DE) : DE := fun Γ M R XR => wa Γ M (fun x M1 => r x M1 R) XR
theorem bin_imp {r : O2} {σ : L2.St} {H : Hp} {Q : VK} (h : lE X.K E (dOp r wa wb) σ H Q) : tOp (lO X.K r) (lE X.K E wa) (lE X.K E wb) σ H Q := by
  obtain ⟨Γ, M, R, XR, g, m, q, k, kx⟩ := h
  exact ⟨Γ, M, _, XR, g, m, q, fun x M1 vx H1 q1 s1 g1 r1 => ⟨Γ, M1, _, XR, g1, m.stp s1, q1, fun y M2 vy H2 q2 s2 g2 r2 => ⟨x, y, M2, R, g2, r1.stp s2, r2, q2, k.step (s1.trans s2)⟩, kx.step s1⟩, kx⟩
theorem de_op {op : Operator} {r : O2} (ho : OpR X (binaryOp op) (lO X.K r)) (ha : PE X a (lE X.K E wa)) (hb : PE X b (lE X.K E wb)) : PE X (.BinOp a op b pos) (lE X.K E (dOp r wa wb)) :=
  PE.imp (pe_op ho ha hb) fun _ _ _ => bin_imp
theorem de_un {op : UnaryOp} {r : O1} (ho : UnR X (unaryOp op) (lU X.K r)) (ha : PE X a (lE X.K E wa)) : PE X (.UnaryOp op a pos) (lE X.K E (dUn r wa)) :=
  PE.imp (pe_un ho ha) fun σ H Q ⟨Γ, M, R, XR, g, m, q, k, kx⟩ => ⟨Γ, M, _, XR, g, m, q, fun x M1 vx H1 q1 s1 g1 r1 => ⟨x, M1, R, g1, r1, q1, k.step s1⟩, kx⟩
theorem de_cmp {op : CmpOp} {r : O2} (ho : OpR X (compareOp op) (lO X.K r)) (ha : PE X a (lE X.K E wa)) (hb : PE X b (lE X.K E wb)) (hm : behindInMarks op b = false) : PE X (.Compare a [op] [b] pos) (lE X.K E (dOp r wa wb)) :=
  PE.imp (pe_cmpR ho ha hb hm) fun _ _ _ => bin_imp
def dB (w : DE) : DT := fun Γ M R XR => w Γ M (fun d M' => ∃ b, d = .bl b ∧ R b M') XR
theorem dt_cmp {op : CmpOp} {r : O2} (ho : OpR X (compareOp op) (lO X.K r)) (ha : PE X a (lE X.K E wa)) (hb : PE X b (lE X.K E wb)) (hm : behindInMarks op b = false) : PT X (.Compare a [op] [b] pos) (lT X.K E (dB (dOp r wa wb))) :=
  PT.imp (pt_cmpR ho ha hb hm) fun σ H Q ⟨Γ, M, R, XR, g, m, q, k, kx⟩ => bin_imp ⟨Γ, M, _, XR, g, m, q, fun d M' v H' ⟨b, e, q1⟩ s1 g1 r1 => by
    subst e
    have r1 : v = .bl b := r1
    exact ⟨b, r1, k _ _ _ q1 s1 g1⟩, kx⟩
theorem dt_val (h : PE X e (lE X.K E w)) (he : ∀ whole, isTrue e X.env whole = (do let v ← whole; standAt e.pos; holding [v] (truthy v)) := by intro _; rfl) : PT X e (lT X.K E (dB w)) :=
  PT.imp (pt_val h he) fun σ H Q ⟨Γ, M, R, XR, g, m, q, k, kx⟩ => ⟨Γ, M, _, XR, g, m, q, fun d M' v H' ⟨b, e, q1⟩ s1 g1 r1 => by
    subst e
    have r1 : v = .bl b := r1
    exact ⟨b, r1, k _ _ _ q1 s1 g1⟩, kx⟩
/-! chains -/
def dChain (r r' : O2) (wa wb wc : DE) : DE := fun Γ M R XR => wa Γ M (fun x M1 => wb Γ M1 (fun y M2 => r x y M2 (fun z M3 => ∃ k, z = .bl k ∧ (if k = true then wc Γ M3 (fun w M4 => r' y w M4 R) XR else R (.bl false) M3))) XR) XR
theorem chain_imp {r r' : O2} {σ : L2.St} {H : Hp} {Q : VK} (h : lE X.K E (dChain r r' wa wb wc) σ H Q) : tChain (lO X.K r) (lO X.K r') (lE X.K E wa) (lE X.K E wb) (lE X.K E wc) σ H Q := by
  obtain ⟨Γ, M, R, XR, g, m, q, k, kx⟩ := h
  refine ⟨Γ, M, _, XR, g, m, q, fun x M1 vx H1 q1 s1 g1 r1 => ⟨Γ, M1, _, XR, g1, m.stp s1, q1, fun y M2 vy H2 q2 s2 g2 r2 => ⟨x, y, M2, _, g2, r1.stp s2, r2, q2, fun z M3 vz H3 ⟨c, e, q3⟩ s3 g3 r3 => ?_⟩, kx.step s1⟩, kx⟩
  subst e
  refine ⟨c, r3, ?_⟩
  cases c with
  | true => exact ⟨Γ, M3, _, XR, g3, m.stp (s1.trans (s2.trans s3)), q3, fun w M4 vw H4 q4 s4 g4 r4 => ⟨y, w, M4, R, g4, r2.stp (s3.trans s4), r4, q4, k.step (s1.trans (s2.trans (s3.trans s4)))⟩, kx.step (s1.trans (s2.trans s3))⟩
  | false => exact k _ _ _ _ q3 (s1.trans (s2.trans s3)) g3 rfl
theorem de_chain {op op' : CmpOp} {r r' : O2} (ho : OpR X (compareOp op) (lO X.K r)) (ho' : OpR X (compareOp op') (lO X.K r')) (ha : PE X a (lE X.K E wa)) (hb : PE X b (lE X.K E wb)) (hc : PE X c (lE X.K E wc))
    (hm : lastMarks [op, op'] [b, c] = false := by rfl) : PE X (.Compare a [op, op'] [b, c] pos) (lE X.K E (dChain r r' wa wb wc)) := PE.imp (pe_chain ho ho' ha hb hc hm) fun _ _ _ => chain_imp
theorem dt_chain {op op' : CmpOp} {r r' : O2} (ho : OpR X (compareOp op) (lO X.K r)) (ho' : OpR X (compareOp op') (lO X.K r')) (ha : PE X a (lE X.K E wa)) (hb : PE X b (lE X.K E wb)) (hc : PE X c (lE X.K E wc))
    (hm : lastMarks [op, op'] [b, c] = false := by rfl) : PT X (.Compare a [op, op'] [b, c] pos) (lT X.K E (dB (dChain r r' wa wb wc))) := PT.imp (pt_chain ho ho' ha hb hc hm) fun σ H Q ⟨Γ, M, R, XR, g, m, q, k, kx⟩ => chain_imp ⟨Γ, M, _, XR, g, m, q, fun d M' v H' ⟨b, e, q1⟩ s1 g1 r1 => by
    subst e
    have r1 : v = .bl b := r1
    exact ⟨b, r1, k _ _ _ q1 s1 g1⟩, kx⟩
/-! ### truth -/
def dAnd (t u : DT) : DT := fun Γ M R XR => t Γ M (fun c M1 => if c = true then u Γ M1 R XR else R false M1) XR
def dOr (t u : DT) : DT := fun Γ M R XR => t Γ M (fun c M1 => if c = true then R true M1 else u Γ M1 R XR) XR
def dNot (t : DT) : DT := fun Γ M R XR => t Γ M (fun c M1 => R (!c) M1) XR
theorem PW.imp {t t' : TT} (h : PW X e t) (i : ∀ σ H Q, t' σ H Q → t σ H Q) : PW X e t' := ⟨fun wh pins s σ H Q I q => h.run wh pins s σ H Q I (i σ H Q q)⟩
variable {rest : List Expr}
theorem dw_and1 (ha : PT X a (lT X.K E t)) : PW X (.BoolOp .And [a] pos) (lT X.K E t) := pw_and1 ha
theorem dw_or1 (ha : PT X a (lT X.K E t)) : PW X (.BoolOp .Or [a] pos) (lT X.K E t) := pw_or1 ha
theorem dw_and (ha : PT X a (lT X.K E t)) (hb : PW X (.BoolOp .And (b :: rest) pos) (lT X.K E u)) : PW X (.BoolOp .And (a :: b :: rest) pos) (lT X.K E (dAnd t u)) :=
  PW.imp (pw_and ha hb) fun σ H Q ⟨Γ, M, R, XR, g, m, q, k, kx⟩ => ⟨Γ, M, _, XR, g, m, q, fun c M1 H1 q1 s1 g1 => by
    cases c with
    | true => exact ⟨Γ, M1, R, XR, g1, m.stp s1, q1, k.step s1, kx.step s1⟩
    | false => exact k _ _ _ q1 s1 g1, kx⟩
theorem dw_or (ha : PT X a (lT X.K E t)) (hb : PW X (.BoolOp .Or (b :: rest) pos) (lT X.K E u)) : PW X (.BoolOp .Or (a :: b :: rest) pos) (lT X.K E (dOr t u)) :=
  PW.imp (pw_or ha hb) fun σ H Q ⟨Γ, M, R, XR, g, m, q, k, kx⟩ => ⟨Γ, M, _, XR, g, m, q, fun c M1 H1 q1 s1 g1 => by
    cases c with
    | false => exact ⟨Γ, M1, R, XR, g1, m.stp s1, q1, k.step s1, kx.step s1⟩
    | true => exact k _ _ _ q1 s1 g1, kx⟩
theorem dt_not (ha : PT X a (lT X.K E t)) : PT X (.UnaryOp .Not a pos) (lT X.K E (dNot t)) :=
  PT.imp (pt_not ha) fun σ H Q ⟨Γ, M, R, XR, g, m, q, k, kx⟩ => ⟨Γ, M, _, XR, g, m, q, fun c M1 H1 q1 s1 g1 => k _ _ _ q1 s1 g1, kx⟩
/-- as values: bools -/
def dAndV (wa wb : DE) : DE := fun Γ M R XR => wa Γ M (fun x M1 => ∃ c, x = .bl c ∧ if c = true then wb Γ M1 R XR else R (.bl false) M1) XR
def dOrV (wa wb : DE) : DE := fun Γ M R XR => wa Γ M (fun x M1 => ∃ c, x = .bl c ∧ if c = true then R (.bl true) M1 else wb Γ M1 R XR) XR
def dNotV (wa : DE) : DE := fun Γ M R XR => wa Γ M (fun x M1 => ∃ c, x = .bl c ∧ R (.bl (!c)) M1) XR
theorem de_one {op} (h : PE X a (lE X.K E wa)) : PE X (.BoolOp op [a] pos) (lE X.K E wa) := pe_one h
theorem de_and (ha : PE X a (lE X.K E wa)) (hb : PE X (.BoolOp .And (b :: rest) pos) (lE X.K E wb)) : PE X (.BoolOp .And (a :: b :: rest) pos) (lE X.K E (dAndV wa wb)) :=
  PE.imp (pe_and ha hb) fun σ H Q ⟨Γ, M, R, XR, g, m, q, k, kx⟩ => ⟨Γ, M, _, XR, g, m, q, fun x M1 v H1 ⟨c, e, q1⟩ s1 g1 r1 => by
    subst e
    refine ⟨c, r1, ?_⟩
    cases c with
    | true => exact ⟨Γ, M1, R, XR, g1, m.stp s1, q1, k.step s1, kx.step s1⟩
    | false => exact k _ _ _ _ q1 s1 g1 rfl, kx⟩
theorem de_or (ha : PE X a (lE X.K E wa)) (hb : PE X (.BoolOp .Or (b :: rest) pos) (lE X.K E wb)) : PE X (.BoolOp .Or (a :: b :: rest) pos) (lE X.K E (dOrV wa wb)) :=
  PE.imp (pe_or ha hb) fun σ H Q ⟨Γ, M, R, XR, g, m, q, k, kx⟩ => ⟨Γ, M, _, XR, g, m, q, fun x M1 v H1 ⟨c, e, q1⟩ s1 g1 r1 => by
    subst e
    refine ⟨c, r1, ?_⟩
    cases c with
    | false => exact ⟨Γ, M1, R, XR, g1, m.stp s1, q1, k.step s1, kx.step s1⟩
    | true => exact k _ _ _ _ q1 s1 g1 rfl, kx⟩
theorem de_not (ha : PE X a (lE X.K E wa)) : PE X (.UnaryOp .Not a pos) (lE X.K E (dNotV wa)) :=
  PE.imp (pe_not ha) fun σ H Q ⟨Γ, M, R, XR, g, m, q, k, kx⟩ => ⟨Γ, M, _, XR, g, m, q, fun x M1 v H1 ⟨c, e, q1⟩ s1 g1 r1 => by
    subst e
    exact ⟨c, r1, k _ _ _ _ q1 s1 g1 rfl⟩, kx⟩
def dIf (t : DT) (wa wb : DE) : DE := fun Γ M R XR => t Γ M (fun c M1 => if c = true then wa Γ M1 R XR else wb Γ M1 R XR) XR
theorem de_if (hc : PT X c (lT X.K E t)) (ha : PE X a (lE X.K E wa)) (hb : PE X b (lE X.K E wb)) : PE X (.IfExp c a b pos) (lE X.K E (dIf t wa wb)) :=
  PE.imp (pe_ifExp hc ha hb) fun σ H Q ⟨Γ, M, R, XR, g, m, q, k, kx⟩ => ⟨Γ, M, _, XR, g, m, q, fun c M1 H1 q1 s1 g1 => by
    cases c with
    | true => exact ⟨Γ, M1, R, XR, g1, m.stp s1, q1, k.step s1, kx.step s1⟩
    | false => exact ⟨Γ, M1, R, XR, g1, m.stp s1, q1, k.step s1, kx.step s1⟩, kx⟩
/-! ### rows of arguments, displays -/
def dNil : DA := fun _ M R _ => R [] M
def dCons (w : DE) (wA : DA) : DA := fun Γ M R XR => w Γ M (fun x M1 => wA Γ M1 (fun xs M2 => R (x :: xs) M2) XR) XR
theorem da_nil : PA X [] (lA X.K E dNil) := PA.imp pa_nil fun σ H Q ⟨Γ, M, R, XR, g, m, q, k, kx⟩ => k _ _ _ _ q (Stp.refl M H) g rfl
theorem da_cons (ha : PE X e (lE X.K E w)) (hr : PA X es (lA X.K E wA)) (hs : starEach (e :: es) X.env = (false, eval e X.env) :: starEach es X.env := by rfl) : PA X (e :: es) (lA X.K E (dCons w wA)) :=
  PA.imp (pa_cons ha hr hs) fun σ H Q ⟨Γ, M, R, XR, g, m, q, k, kx⟩ => ⟨Γ, M, _, XR, g, m, q, fun x M1 vx H1 q1 s1 g1 r1 => ⟨Γ, M1, _, XR, g1, m.stp s1, q1, fun xs M2 vs H2 q2 s2 g2 r2 => k _ _ _ _ q2 (s1.trans s2) g2 ⟨vx, vs, rfl, r1.stp s2, r2⟩, kx.step s1⟩, kx⟩
def dTup (wA : DA) : DE := fun Γ M R XR => wA Γ M (fun ds M1 => ds.length ≤ sizeLine ∧ R (.tup ds) M1) XR
theorem de_tup {x1} (h : PA X es (lA X.K E wA)) : PE X (.Tuple es x1 pos) (lE X.K E (dTup wA)) :=
  PE.imp (pe_tup h) fun σ H Q ⟨Γ, M, R, XR, g, m, q, k, kx⟩ => ⟨Γ, M, _, XR, g, m, q, fun ds M1 vs H1 ⟨hl, q1⟩ s1 g1 r1 => ⟨by rw [← r1.len]; exact hl, fun p hp => (k.step s1).tup g1 q1 r1 hp⟩, kx⟩
def dLst (wA : DA) : DE := fun Γ M R XR => wA Γ M (fun ds M1 => ds.length ≤ sizeLine ∧ R (.lst ds) M1) XR
theorem de_lst (h : PA X es (lA X.K E wA)) : PE X (.List es pos) (lE X.K E (dLst wA)) :=
  PE.imp (pe_lst h) fun σ H Q ⟨Γ, M, R, XR, g, m, q, k, kx⟩ => ⟨Γ, M, _, XR, g, m, q, fun ds M1 vs H1 ⟨hl, q1⟩ s1 g1 r1 => ⟨by rw [← r1.len]; exact hl, fun p hp => (k.step s1).lst g1 q1 r1 hp⟩, kx⟩
theorem KQ.lstM {K : PySem.W.Frag} {M : Mem} {H : Hp} {R : Pst} {Q : VK} (k : KQ K M H R Q) (g : Good K M H) {ds : List D} {vs : List V} (r : Reps K M H ds vs) {p : Addr} (n : H p = none) (h : R (.loc p) (mup M p (.lst ds))) : Q (.ref p) (upd H p (.lst vs)) :=
  k _ _ _ _ h (stp_loc n) (good_loc g n ⟨vs, upd_same, r.stp (stp_loc n)⟩) rfl
/-- a list that is to change -/
def dLstM (wA : DA) : DE := fun Γ M R XR => wA Γ M (fun ds M1 => ds.length ≤ sizeLine ∧ ∀ p, M1 p = none → R (.loc p) (mup M1 p (.lst ds))) XR
theorem de_lstM (h : PA X es (lA X.K E wA)) : PE X (.List es pos) (lE X.K E (dLstM wA)) :=
  PE.imp (pe_lst h) fun σ H Q ⟨Γ, M, R, XR, g, m, q, k, kx⟩ => ⟨Γ, M, _, XR, g, m, q, fun ds M1 vs H1 ⟨hl, q1⟩ s1 g1 r1 => ⟨by rw [← r1.len]; exact hl, fun p hp => (k.step s1).lstM g1 r1 hp (q1 p (g1.free hp))⟩, kx⟩
/-! ### items, slices -/
theorem de_ix (ha : PE X a (lE X.K E wa)) (hb : PE X b (lE X.K E wb)) (hs : PlainIx b) : PE X (.Subscript a b pos) (lE X.K E (dOp oIx wa wb)) := PE.imp (pe_ix lo_ix ha hb hs) fun _ _ _ => bin_imp
abbrev DO := Gam → Mem → (Option Int → Mem → Prop) → Xst → Prop
def lPO (K : PySem.W.Frag) (E : L2.St → XK) (w : DO) : TO := fun σ H Q => ∃ (Γ : Gam) (M : Mem) (R : Option Int → Mem → Prop) (XR : Xst), Good K M H ∧ Mat K M H Γ σ ∧ w Γ M R XR ∧ (∀ o M' H', R o M' → Stp M H M' H' → Good K M' H' → Q o H') ∧ KX K M H XR (E σ)
def dNoP : DO := fun _ M R _ => R none M
def dPt (w : DE) : DO := fun Γ M R XR => w Γ M (fun d M1 => ∃ i, d = .int i ∧ R (some i) M1) XR
theorem PO.imp {X : Cx} {e : Option Expr} {t t' : TO} (h : PO X e t) (i : ∀ σ H Q, t' σ H Q → t σ H Q) : PO X e t' := by
  constructor
  intros
  apply h.run <;> first | assumption | (apply i; assumption)
theorem do_none : PO X none (lPO X.K E dNoP) := PO.imp po_none fun σ H Q ⟨Γ, M, R, XR, g, m, q, k, kx⟩ => k _ _ _ q (Stp.refl M H) g
theorem do_some (h : PE X e (lE X.K E w)) : PO X (some e) (lPO X.K E (dPt w)) := PO.imp (po_some h) fun σ H Q ⟨Γ, M, R, XR, g, m, q, k, kx⟩ => ⟨Γ, M, _, XR, g, m, q, fun d M1 v H1 ⟨i, e, q1⟩ s1 g1 r1 => by
  subst e
  exact ⟨i, r1, k _ _ _ q1 s1 g1⟩, kx⟩
def dSl (w : DE) (wl wh : DO) : DE := fun Γ M R XR => w Γ M (fun x M1 => wl Γ M1 (fun l M2 => wh Γ M2 (fun h M3 => oSl x l h M3 R) XR) XR) XR
theorem de_sl {lo hi : Option Expr} {p2 : Pos} {wl wh : DO} (he : PE X e (lE X.K E w)) (hl : PO X lo (lPO X.K E wl)) (hh : PO X hi (lPO X.K E wh)) : PE X (.Subscript e (.Slice lo hi none p2) pos) (lE X.K E (dSl w wl wh)) :=
  PE.imp (pe_slice lo_sl he hl hh) fun σ H Q ⟨Γ, M, R, XR, g, m, q, k, kx⟩ => ⟨Γ, M, _, XR, g, m, q, fun x M1 vx H1 q1 s1 g1 r1 => ⟨Γ, M1, _, XR, g1, m.stp s1, q1, fun l M2 H2 q2 s2 g2 => ⟨Γ, M2, _, XR, g2, m.stp (s1.trans s2), q2,
    fun h M3 H3 q3 s3 g3 => ⟨x, M3, R, g3, r1.stp (s2.trans s3), q3, k.step (s1.trans (s2.trans s3))⟩, kx.step (s1.trans s2)⟩, kx.step s1⟩, kx⟩
/-! ### calls of what is built in -/
def dCall (r : OC) (wA : DA) : DE := fun Γ M R XR => wA Γ M (fun ds M1 => r ds M1 R) XR
theorem cb_imp {r : OC} {σ : L2.St} {H : Hp} {Q : VK} (h : lE X.K E (dCall r wA) σ H Q) : tCB (lC X.K r) (lA X.K E wA) σ H Q := by
  obtain ⟨Γ, M, R, XR, g, m, q, k, kx⟩ := h
  exact ⟨Γ, M, _, XR, g, m, q, fun ds M1 vs H1 q1 s1 g1 r1 => ⟨ds, M1, R, g1, r1, q1, k.step s1⟩, kx⟩
theorem de_callB {r : OC} {id : String} {x : Str} {p : Pos} (hc : CallR X (.builtin id) (lC X.K r)) (hg : Gl X x) (hm : X.mg x = none) (hv : bootBuiltins x = some (.builtin id)) (ha : PA X (e :: es) (lA X.K E wA)) (hn : x ≠ "__name__" := by decide) (hdb : (x == ("__debug__" : Str)) = false := by decide)
    (he : starEach (e :: es) X.env = (false, eval e X.env) :: starEach es X.env := by rfl) (hpl : (backTo pos (starEach es X.env)).any (·.1) = false := by rfl) : PE X (.Call (.Name x p) (e :: es) [] pos) (lE X.K E (dCall r wA)) :=
  PE.imp (pe_callB hc hg hm hv ha hn hdb he hpl) fun _ _ _ => cb_imp
theorem de_callTy {r : OC} {T : String} {x : Str} {p : Pos} (hc : CallR X (.type T) (lC X.K r)) (hg : Gl X x) (hm : X.mg x = none) (hv : bootBuiltins x = some (.type T)) (ha : PA X (e :: es) (lA X.K E wA)) (hn : x ≠ "__name__" := by decide) (hdb : (x == ("__debug__" : Str)) = false := by decide)
    (he : starEach (e :: es) X.env = (false, eval e X.env) :: starEach es X.env := by rfl) (hpl : (backTo pos (starEach es X.env)).any (·.1) = false := by rfl) : PE X (.Call (.Name x p) (e :: es) [] pos) (lE X.K E (dCall r wA)) :=
  PE.imp (pe_callTy hc hg hm hv ha hn hdb he hpl) fun _ _ _ => cb_imp
theorem Reps.one {K : PySem.W.Frag} {M : Mem} {H : Hp} {d : D} {vs : List V} (h : Reps K M H [d] vs) : ∃ v, vs = [v] ∧ Rep K M H d v := by
  obtain ⟨v, r, rfl, h1, h2⟩ := h
  have h2 : r = [] := h2
  exact ⟨v, by rw [h2], h1⟩
theorem Reps.two {K : PySem.W.Frag} {M : Mem} {H : Hp} {d e : D} {vs : List V} (h : Reps K M H [d, e] vs) : ∃ v u, vs = [v, u] ∧ Rep K M H d v ∧ Rep K M H e u := by
  obtain ⟨v, r, rfl, h1, h2⟩ := h
  obtain ⟨u, e1, h3⟩ := Reps.one h2
  exact ⟨v, u, by rw [e1], h1, h3⟩
theorem getS_cases {M : Mem} {d : D} {xs : List D} (h : getS M d = some xs) : d = .tup xs ∨ d = .kt xs ∨ getL M d = some xs := by
  cases d
  case tup ds => exact .inl (by cases h; rfl)
  case kt ds => exact .inr (.inl (by cases h; rfl))
  all_goals exact .inr (.inr h)
theorem getS_sq {K : PySem.W.Frag} {M : Mem} {H : Hp} {d : D} {xs : List D} {v : V} (g : Good K M H) (h : getS M d = some xs) (r : Rep K M H d v) : ∃ a vs, v = .ref a ∧ (SqL K H a vs ∨ SqT K H a vs) ∧ Reps K M H xs vs := by
  rcases getS_cases h with e | e | e
  · subst e
    obtain ⟨a, vs, rfl, ha, ra⟩ := r.tupS
    exact ⟨a, vs, rfl, .inr ha, ra⟩
  · subst e
    obtain ⟨a, vs, rfl, ha, ra⟩ := r.ktS
    exact ⟨a, vs, rfl, .inr ha, ra⟩
  · obtain ⟨a, vs, rfl, ha, ra⟩ := (getL_like e).sq g r
    exact ⟨a, vs, rfl, .inl ha, ra⟩
/-- how many there are -/
def sizeD (M : Mem) : D → Option Nat
  | .dK ks _ => some ks.length
  | .dT ks _ => some ks.length
  | .loc a => match M a with
    | some (.lst ds) => some ds.length
    | some (.dK kvs) => some kvs.length
    | some (.dT kvs) => some kvs.length
    | _ => none
  | d => (getS M d).map List.length
def oLen : OC
  | [.str z], M, R => z.length ≤ sizeLine ∧ R (.int z.length) M
  | [d], M, R => ∃ n, sizeD M d = some n ∧ R (.int (n : Int)) M
  | _, _, _ => False
theorem zip_len {α β : Type} {l : List α} {ds : List D} {vs : List β} (h : l.length = ds.length) (h2 : ds.length = vs.length) : (l.zip vs).length = l.length := by
  rw [List.length_zip, ← h2, ← h, Nat.min_self]
theorem lc_len : CallR X (.builtin "len") (lC X.K oLen) := CallR.imp (call_len.or (call_lenD.or call_len_dT)) fun vs H Q ⟨ds, M, R, g, hr, q, k⟩ => by
  match ds, q with
  | [], q => exact False.elim q
  | _ :: _ :: _, q => exact False.elim (by simp [oLen] at q)
  | [d], q =>
    obtain ⟨v, rfl, h1⟩ := hr.one
    have seqs : (∃ xs, getS M d = some xs ∧ R (.int (xs.length : Nat)) M) → ∃ x n, [v] = [x] ∧ LenV X.K x H n ∧ Q (.int n) H := fun ⟨xs, e, q⟩ => by
      obtain ⟨a, vs, rfl, ha, ra⟩ := getS_sq g e h1
      refine ⟨_, _, rfl, ?_, k.now g q rfl⟩
      rcases ha with ha | ha
      · exact .inl ⟨vs, ha, ra.len⟩
      · exact .inr ⟨vs, ha, ra.len⟩
    cases d with
    | str z =>
      have h1 : v = .str z := h1
      subst h1
      exact .inl ⟨_, _, rfl, ⟨q.1, rfl⟩, k.now g q.2 rfl⟩
    | dK ks xs =>
      obtain ⟨a, vs, rfl, ha, m, l, r⟩ := h1
      obtain ⟨n, e, q⟩ := q
      cases e
      exact .inr (.inl ⟨a, _, rfl, ha, by rw [zip_len l r.len]; exact k.now g q rfl⟩)
    | dT ks xs =>
      obtain ⟨a, vs, rfl, ha, m, l, r⟩ := h1
      obtain ⟨n, e, q⟩ := q
      cases e
      exact .inr (.inr ⟨a, _, rfl, ha, by rw [zip_len l r.len]; exact k.now g q rfl⟩)
    | loc a =>
      have h1 : v = .ref a := h1
      subst h1
      obtain ⟨n, e, q⟩ := q
      simp only [sizeD] at e
      split at e
      · next xs e1 => cases e; exact .inl (seqs ⟨xs, by simp [getS, getL, e1], q⟩)
      · next kvs e1 =>
        cases e
        obtain ⟨vs, ha, r⟩ := g _ _ e1
        exact .inr (.inl ⟨a, _, rfl, ha, by rw [zip_len (by simp) r.len, List.length_map]; exact k.now g q rfl⟩)
      · next kvs e1 =>
        cases e
        obtain ⟨vs, ha, r⟩ := g _ _ e1
        exact .inr (.inr ⟨a, _, rfl, ha, by rw [zip_len (by simp) r.len, List.length_map]; exact k.now g q rfl⟩)
      · cases e
    | _ =>
      refine .inl (seqs ?_)
      obtain ⟨n, e, q⟩ := q
      simp only [sizeD, Option.map_eq_some_iff] at e
      obtain ⟨xs, e1, rfl⟩ := e
      exact ⟨xs, e1, q⟩
/-- int, abs, max, min, str of a number -/
def oInt : OC
  | [.int i], M, R => R (.int i) M
  | [.bl b], M, R => R (.int (if b then 1 else 0)) M
  | _, _, _ => False
theorem lc_int : CallR X (.type "int") (lC X.K oInt) := CallR.imp call_int1 fun vs H Q ⟨ds, M, R, g, hr, q, k⟩ => by
  match ds, q with
  | [.int i], q => obtain ⟨v, rfl, h1⟩ := hr.one; have h1 : v = .int i := h1; subst h1; exact .inl ⟨i, rfl, k.now g q rfl⟩
  | [.bl b], q => obtain ⟨v, rfl, h1⟩ := hr.one; have h1 : v = .bl b := h1; subst h1; exact .inr ⟨b, rfl, k.now g q rfl⟩
def oAbs : OC
  | [.int i], M, R => R (.int (if i < 0 then -i else i)) M
  | _, _, _ => False
theorem lc_abs : CallR X (.builtin "abs") (lC X.K oAbs) := CallR.imp call_abs fun vs H Q ⟨ds, M, R, g, hr, q, k⟩ => by
  match ds, q with
  | [.int i], q => obtain ⟨v, rfl, h1⟩ := hr.one; have h1 : v = .int i := h1; subst h1; exact ⟨i, rfl, k.now g q rfl⟩
def oMax2 : OC
  | [.int i, .int j], M, R => R (.int (if j > i then j else i)) M
  | _, _, _ => False
theorem lc_max2 (hc : X.calm = true) : CallR X (.builtin "max") (lC X.K oMax2) := CallR.imp (call_max2 hc) fun vs H Q ⟨ds, M, R, g, hr, q, k⟩ => by
  match ds, q with
  | [.int i, .int j], q => obtain ⟨v, u, rfl, h1, h2⟩ := hr.two; have h1 : v = .int i := h1; have h2 : u = .int j := h2; subst h1 h2; exact ⟨i, j, rfl, k.now g q rfl⟩
def oMin2 : OC
  | [.int i, .int j], M, R => R (.int (if j < i then j else i)) M
  | _, _, _ => False
theorem lc_min2 (hc : X.calm = true) : CallR X (.builtin "min") (lC X.K oMin2) := CallR.imp (call_min2 hc) fun vs H Q ⟨ds, M, R, g, hr, q, k⟩ => by
  match ds, q with
  | [.int i, .int j], q => obtain ⟨v, u, rfl, h1, h2⟩ := hr.two; have h1 : v = .int i := h1; have h2 : u = .int j := h2; subst h1 h2; exact ⟨i, j, rfl, k.now g q rfl⟩
def oStr : OC
  | [.int i], M, R => i.natAbs.log2 < 1920 ∧ R (.str (toString i)) M
  | _, _, _ => False
theorem lc_str : CallR X (.type "str") (lC X.K oStr) := CallR.imp call_str_int fun vs H Q ⟨ds, M, R, g, hr, q, k⟩ => by
  match ds, q with
  | [.int i], q => obtain ⟨v, rfl, h1⟩ := hr.one; have h1 : v = .int i := h1; subst h1; exact ⟨i, rfl, q.1, k.now g q.2 rfl⟩
/-- tuple(..), list(..) of a list or a tuple -/
def oTuple : OC
  | [.kt ds], M, R => R (.kt ds) M
  | [d], M, R => ∃ xs, getS M d = some xs ∧ R (.tup xs) M
  | _, _, _ => False
theorem lc_tuple : CallR X (.type "tuple") (lC X.K oTuple) := CallR.imp call_tuple_of fun vs H Q ⟨ds, M, R, g, hr, q, k⟩ => by
  match ds, q with
  | [], q => exact False.elim q
  | _ :: _ :: _, q => exact False.elim (by simp [oTuple] at q)
  | [d], q =>
    obtain ⟨v, rfl, h1⟩ := hr.one
    by_cases hk : ∃ ds, d = .kt ds
    · obtain ⟨ds, rfl⟩ := hk
      obtain ⟨a, vs, rfl, ha, ra⟩ := h1.ktS
      exact ⟨a, vs, rfl, .inr ⟨ha, k.now g q h1⟩⟩
    · have q' : ∃ xs, getS M d = some xs ∧ R (.tup xs) M := by
        cases d <;> first | exact q | exact absurd ⟨_, rfl⟩ hk
      clear q
      obtain ⟨xs, e, q⟩ := q'
      rcases getS_cases e with e | e | e
      · subst e
        obtain ⟨a, vs, rfl, ha, ra⟩ := h1.tupS
        exact ⟨a, vs, rfl, .inr ⟨ha, k.now g q h1⟩⟩
      · exact absurd ⟨_, e⟩ hk
      · obtain ⟨a, vs, rfl, ha, ra⟩ := (getL_like e).sq g h1
        exact ⟨a, vs, rfl, .inl ⟨ha, fun p hp => k.tup g q ra hp⟩⟩
def oList : OC
  | [d], M, R => ∃ xs, getS M d = some xs ∧ R (.lst xs) M
  | _, _, _ => False
theorem lc_list : CallR X (.type "list") (lC X.K oList) := CallR.imp call_list_of fun vs H Q ⟨ds, M, R, g, hr, q, k⟩ => by
  match ds, q with
  | [], q => exact False.elim q
  | _ :: _ :: _, q => exact False.elim q
  | [d], q =>
    obtain ⟨v, rfl, h1⟩ := hr.one
    obtain ⟨xs, e, q⟩ := q
    obtain ⟨a, vs, rfl, ha, ra⟩ := getS_sq g e h1
    exact ⟨a, vs, rfl, ha, fun p hp => k.lst g q ra hp⟩
def oListM : OC
  | [d], M, R => ∃ xs, getS M d = some xs ∧ ∀ p, M p = none → R (.loc p) (mup M p (.lst xs))
  | _, _, _ => False
theorem lc_listM : CallR X (.type "list") (lC X.K oListM) := CallR.imp call_list_of fun vs H Q ⟨ds, M, R, g, hr, q, k⟩ => by
  match ds, q with
  | [], q => exact False.elim q
  | _ :: _ :: _, q => exact False.elim q
  | [d], q =>
    obtain ⟨v, rfl, h1⟩ := hr.one
    obtain ⟨xs, e, q⟩ := q
    obtain ⟨a, vs, rfl, ha, ra⟩ := getS_sq g e h1
    exact ⟨a, vs, rfl, ha, fun p hp => k.lstM g ra hp (q p (g.free hp))⟩
/-- sum of a list of ints; any, all of a list of bools -/
def oSum : OC
  | [d], M, R => ∃ ns : List Int, getS M d = some (ns.map D.int) ∧ R (.int ns.sum) M
  | _, _, _ => False
def rSumU (K : PySem.W.Frag) : List V → Hp → VK → Prop := fun vs H Q => ∃ (a : Addr) (ns : List Int), vs = [V.ref a] ∧ SqT K H a (ns.map V.int) ∧ Q (.int ns.sum) H
theorem cr_sumU (hc : X.calm = true) : CallR X (.builtin "sum") (rSumU X.K) := by
  rintro pins s σ H vs us Q I r ⟨a, ns, rfl, hs, q⟩
  obtain ⟨its, rv, hl, _⟩ := I.tuple hs
  rw [Vals.ref1 r]
  obtain ⟨xs, e⟩ := rv.ints.allInts.items
  have hn : numsOf (intItems xs).toList = ns := by rw [← e]; exact rv.ints.numsOf
  rw [nums_intItems] at hn
  rw [e] at hl
  refine PySem.W.ktm_sumG (I.ok.hd hc) hl fun h' tk t' hk => ⟨.int ns.sum, H, I.kept hk, ⟨t', ?_⟩, q⟩
  rw [preSum_eq, List.take_of_length_le (by simp), hn]
theorem lc_sum (hc : X.calm = true) : CallR X (.builtin "sum") (lC X.K oSum) := CallR.imp ((cr_sum hc).or (cr_sumU hc)) fun vs H Q ⟨ds, M, R, g, hr, q, k⟩ => by
  match ds, q with
  | [], q => exact False.elim q
  | _ :: _ :: _, q => exact False.elim q
  | [d], q =>
    obtain ⟨v, rfl, h1⟩ := hr.one
    obtain ⟨xs, e, q⟩ := q
    obtain ⟨a, vs, rfl, ha, ra⟩ := getS_sq g e h1
    rcases ha with ha | ha
    · exact .inl ⟨a, xs, rfl, by rw [← ra.ints]; exact ha, k.now g q rfl⟩
    · exact .inr ⟨a, xs, rfl, by rw [← ra.ints]; exact ha, k.now g q rfl⟩
def oAny : OC
  | [d], M, R => ∃ bs : List Bool, getL M d = some (bs.map D.bl) ∧ R (.bl (bs.any id)) M
  | _, _, _ => False
theorem lc_any (hc : X.calm = true) : CallR X (.builtin "any") (lC X.K oAny) := CallR.imp (cr_any hc) fun vs H Q ⟨ds, M, R, g, hr, q, k⟩ => by
  match ds, q with
  | [], q => exact False.elim q
  | _ :: _ :: _, q => exact False.elim q
  | [d], q =>
    obtain ⟨v, rfl, h1⟩ := hr.one
    obtain ⟨xs, e, q⟩ := q
    obtain ⟨a, vs, rfl, ha, ra⟩ := (getL_like e).sq g h1
    exact ⟨a, xs, rfl, by rw [← ra.bls]; exact ha, k.now g q rfl⟩
def oAll : OC
  | [d], M, R => ∃ bs : List Bool, getL M d = some (bs.map D.bl) ∧ R (.bl (bs.all id)) M
  | _, _, _ => False
theorem lc_all (hc : X.calm = true) : CallR X (.builtin "all") (lC X.K oAll) := CallR.imp (cr_all hc) fun vs H Q ⟨ds, M, R, g, hr, q, k⟩ => by
  match ds, q with
  | [], q => exact False.elim q
  | _ :: _ :: _, q => exact False.elim q
  | [d], q =>
    obtain ⟨v, rfl, h1⟩ := hr.one
    obtain ⟨xs, e, q⟩ := q
    obtain ⟨a, vs, rfl, ha, ra⟩ := (getL_like e).sq g h1
    exact ⟨a, xs, rfl, by rw [← ra.bls]; exact ha, k.now g q rfl⟩
end
end DL
namespace DL
open PySem PySem.Spec PyProof.Rows L2

/-! ### what a for walks -/
/-- J gives the items, one by one, as long as G holds of the memory -/
def IW (K : PySem.W.Frag) (J : It) (ds : List D) (G : Mem → Prop) (M : Mem) (H : Hp) : Prop :=
  ∀ M' H', Stp M H M' H' → Good K M' H' → G M' → (∀ i, i < ds.length → J.go i H') ∧ J.stop ds.length H' ∧
    ∀ i x H'' d, ds[i]? = some d → J.yld i H' x H'' → Stp M' H' M' H'' ∧ Good K M' H'' ∧ Rep K M' H'' d x
abbrev DI := Gam → Mem → (List D → (Mem → Prop) → Mem → Prop) → Xst → Prop
def lI (K : PySem.W.Frag) (E : L2.St → XK) (w : DI) : TI := fun σ H Rt => ∃ (Γ : Gam) (M : Mem) (R : List D → (Mem → Prop) → Mem → Prop) (XR : Xst), Good K M H ∧ Mat K M H Γ σ ∧ w Γ M R XR ∧
  (∀ ds G M' J H', R ds G M' → Stp M H M' H' → Good K M' H' → IW K J ds G M' H' → Rt J H') ∧ KX K M H XR (E σ)
theorem PI.imp {X : Cx} {tg e : Expr} {t t' : TI} (h : PI X tg e t) (i : ∀ σ H Q, t' σ H Q → t σ H Q) : PI X tg e t' := ⟨fun pins s σ H Q I q => h.run pins s σ H Q I (i σ H Q q)⟩
section
variable {X : Cx} {E : L2.St → XK} {a b c e o tg : Expr} {es : List Expr} {wa wb wc w wo : DE} {wA : DA} {pos : Pos} {u t : DT}
/-- a list or a tuple -/
def iSeq (K : PySem.W.Frag) (tl : TE) : TI := fun σ H R => tl σ H fun x H1 => ∃ a, x = .ref a ∧ (((∃ xs, SqL K H1 a xs) ∧ R (Itl K a) H1) ∨ ((∃ xs, SqT K H1 a xs) ∧ R (Itt K a) H1))
theorem pi_seq {l : Expr} {tl : TE} (hl : PE X l tl) : PI X tg l (iSeq X.K tl) := by
  refine ⟨fun pins s σ H R I h => ?_⟩
  refine thn (hl.run pins s σ H _ I h) fun v s1 ⟨x, H1, I1, r1, q1⟩ => ?_
  obtain ⟨a, e, ⟨⟨xs, hq⟩, q⟩ | ⟨⟨xs, hq⟩, q⟩⟩ := q1
  · subst e
    cases r1
    obtain ⟨its, rv, p, hz⟩ := I1.list hq
    refine wpAny_pyIter_list p.isList ?_
    refine ⟨s1.heap.objs.size, [s1.heap.objs.size], _, _, H1, rfl, I1.kept (t' := s1.toks) fun b o e => Heap.get?_push_of_some _ e, turn_list a _, ⟨_, Heap.get?_push_size _ rfl, rfl, rfl⟩, fun b hb => ?_, q⟩
    have e : b = s1.heap.objs.size := by simpa using hb
    subst e
    exact I1.fpOk (Nat.le_refl _) (I1.hok.fresh (Nat.le_refl _))
  · subst e
    cases r1
    obtain ⟨its, rv, p, hz⟩ := I1.tuple hq
    refine wpAny_pyIter_tuple (show s1.heap.IsTuple a its.toArray from p) ?_
    refine ⟨s1.heap.objs.size, [s1.heap.objs.size], _, _, H1, rfl, I1.kept (t' := s1.toks) fun b o e => Heap.get?_push_of_some _ e, turn_tuple a _, ⟨_, Heap.get?_push_size _ rfl, rfl, rfl⟩, fun b hb => ?_, q⟩
    have e : b = s1.heap.objs.size := by simpa using hb
    subst e
    exact I1.fpOk (Nat.le_refl _) (I1.hok.fresh (Nat.le_refl _))
theorem iw_list {K : PySem.W.Frag} {M : Mem} {H : Hp} {d : D} {a : Addr} {ds : List D} (h : Rep K M H d (.ref a)) (l : getL M d = some ds) : IW K (Itl K a) ds (fun M' => getL M' d = some ds) M H := fun M' H' s g l' => by
  obtain ⟨a', vs, e, ha, ra⟩ := (getL_like l').sq g (h.stp s)
  cases e
  have w := walk_list (K := K) (a := a) (xs := vs)
  rw [ra.len]
  refine ⟨fun i hi => w.goes i H' hi ha, w.stops H' ha, fun i x H'' d' hd y => ?_⟩
  obtain ⟨v, hv, rv⟩ := ra.get hd
  obtain ⟨rfl, hx⟩ := w.yields i H' x H'' (List.getElem?_eq_some_iff.mp hv).1 ha y
  rw [hv] at hx; cases hx
  exact ⟨Stp.refl _ _, g, rv⟩
theorem iw_kt {K : PySem.W.Frag} {M : Mem} {H : Hp} {a : Addr} {ds : List D} (h : Rep K M H (.kt ds) (.ref a)) : IW K (Itt K a) ds (fun _ => True) M H := fun M' H' s g _ => by
  obtain ⟨a', vs, e, ha, ra⟩ := (h.stp s).ktS
  cases e
  have w := walk_tup (K := K) (a := a) (xs := vs)
  rw [ra.len]
  refine ⟨fun i hi => w.goes i H' hi ha, w.stops H' ha, fun i x H'' d' hd y => ?_⟩
  obtain ⟨v, hv, rv⟩ := ra.get hd
  obtain ⟨rfl, hx⟩ := w.yields i H' x H'' (List.getElem?_eq_some_iff.mp hv).1 ha y
  rw [hv] at hx; cases hx
  exact ⟨Stp.refl _ _, g, rv⟩
theorem iw_tup {K : PySem.W.Frag} {M : Mem} {H : Hp} {a : Addr} {ds : List D} (h : Rep K M H (.tup ds) (.ref a)) : IW K (Itt K a) ds (fun _ => True) M H := fun M' H' s g _ => by
  obtain ⟨a', vs, e, ha, ra⟩ := (h.stp s).tupS
  cases e
  have w := walk_tup (K := K) (a := a) (xs := vs)
  rw [ra.len]
  refine ⟨fun i hi => w.goes i H' hi ha, w.stops H' ha, fun i x H'' d' hd y => ?_⟩
  obtain ⟨v, hv, rv⟩ := ra.get hd
  obtain ⟨rfl, hx⟩ := w.yields i H' x H'' (List.getElem?_eq_some_iff.mp hv).1 ha y
  rw [hv] at hx; cases hx
  exact ⟨Stp.refl _ _, g, rv⟩
def iGo (d : D) (R : List D → (Mem → Prop) → Mem → Prop) (M : Mem) : Prop := match d with
  | .tup ds => R ds (fun _ => True) M
  | .kt ds => R ds (fun _ => True) M
  | .lst ds => R ds (fun _ => True) M
  | .sl ds => R ds (fun _ => True) M
  | d => ∃ ds, getL M d = some ds ∧ R ds (fun M' => getL M' d = some ds) M
def dIter (w : DE) : DI := fun Γ M R XR => w Γ M (fun d M1 => iGo d R M1) XR
theorem IW.wk {K : PySem.W.Frag} {J : It} {ds : List D} {G G' : Mem → Prop} {M : Mem} {H : Hp} (w : IW K J ds G M H) (h : ∀ M, G' M → G M) : IW K J ds G' M H := fun M' H' s g q => w M' H' s g (h M' q)
theorem di_seq (he : PE X e (lE X.K E w)) : PI X tg e (lI X.K E (dIter w)) := PI.imp (pi_seq he) fun σ H Rt ⟨Γ, M, R, XR, g, m, q, k, kx⟩ => ⟨Γ, M, _, XR, g, m, q, fun d M1 v H1 q1 s1 g1 r1 => by
  cases d with
  | tup ds =>
    obtain ⟨a, vs, rfl, ha, ra⟩ := r1.tupS
    exact ⟨a, rfl, .inr ⟨⟨_, ha⟩, k _ _ _ _ _ q1 s1 g1 (iw_tup r1)⟩⟩
  | kt ds =>
    obtain ⟨a, vs, rfl, ha, ra⟩ := r1.ktS
    exact ⟨a, rfl, .inr ⟨⟨_, ha⟩, k _ _ _ _ _ q1 s1 g1 (iw_kt r1)⟩⟩
  | lst ds =>
    obtain ⟨a, vs, rfl, ha, ra⟩ := (getL_like (M := M1) (show getL M1 (.lst ds) = some ds from rfl)).sq g1 r1
    exact ⟨a, rfl, .inl ⟨⟨_, ha⟩, k _ _ _ _ _ q1 s1 g1 ((iw_list r1 rfl).wk fun _ _ => rfl)⟩⟩
  | sl ds =>
    obtain ⟨a, vs, rfl, ha, ra⟩ := (getL_like (M := M1) (show getL M1 (.sl ds) = some ds from rfl)).sq g1 r1
    exact ⟨a, rfl, .inl ⟨⟨_, ha⟩, k _ _ _ _ _ q1 s1 g1 ((iw_list r1 rfl).wk fun _ _ => rfl)⟩⟩
  | _ =>
    obtain ⟨ds, e, q1⟩ := q1
    obtain ⟨a, vs, rfl, ha, ra⟩ := (getL_like e).sq g1 r1
    exact ⟨a, rfl, .inl ⟨⟨_, ha⟩, k _ _ _ _ _ q1 s1 g1 (iw_list r1 e)⟩⟩, kx⟩
/-- lo, lo + 1, .. -/
def rgs (lo : Int) (n : Nat) : List D := (List.range n).map fun (i : Nat) => D.int (lo + (i : Int))
theorem rgs_len {lo : Int} {n : Nat} : (rgs lo n).length = n := by simp [rgs]
theorem rgs_get {lo : Int} {n i : Nat} {d : D} (h : (rgs lo n)[i]? = some d) : i < n ∧ d = .int (lo + (i : Int)) := by
  have hi : i < n := by
    have := (List.getElem?_eq_some_iff.mp h).1
    rw [rgs_len] at this; exact this
  simp [rgs, hi] at h
  exact ⟨hi, h.symm⟩
theorem iw_range {K : PySem.W.Frag} {M : Mem} {H : Hp} {lo : Int} {n : Nat} : IW K (Itr lo n) (rgs lo n) (fun _ => True) M H := fun M' H' s g _ => by
  have w := walk_range (lo := lo) (n := n)
  rw [rgs_len]
  refine ⟨fun i hi => w.goes i H' hi trivial, w.stops H' trivial, fun i x H'' d hd y => ?_⟩
  obtain ⟨hi, rfl⟩ := rgs_get hd
  obtain ⟨rfl, rfl⟩ := w.yields i H' x H'' hi trivial y
  exact ⟨Stp.refl _ _, g, rfl⟩
def dRange1 (w : DE) : DI := fun Γ M R XR => w Γ M (fun d M1 => ∃ n, d = .int n ∧ (-(2 ^ 62) ≤ n ∧ n < 2 ^ 62) ∧ R (rgs 0 n.toNat) (fun _ => True) M1) XR
theorem di_range1 {p : Pos} (hg : Gl X "range") (hm : X.mg "range" = none) (ha : PE X a (lE X.K E w)) (hs : starEach [a] X.env = [(false, eval a X.env)] := by rfl) : PI X tg (.Call (.Name "range" p) [a] [] pos) (lI X.K E (dRange1 w)) :=
  PI.imp (pi_range1 hg hm (pa_cons ha pa_nil (by rw [hs]; rfl)) hs) fun σ H Rt ⟨Γ, M, R, XR, g, m, q, k, kx⟩ => ⟨Γ, M, _, XR, g, m, q, fun d M1 v H1 ⟨n, e, q0, q1⟩ s1 g1 r1 => by
    subst e
    have r1 : v = .int n := r1
    subst r1
    exact ⟨n, rfl, q0.1, q0.2, k _ _ _ _ _ q1 s1 g1 iw_range⟩, kx⟩
def dRange2 (wa wb : DE) : DI := fun Γ M R XR => wa Γ M (fun d M1 => wb Γ M1 (fun e M2 => ∃ lo hi, d = .int lo ∧ e = .int hi ∧ (-(2 ^ 62) ≤ lo ∧ lo < 2 ^ 62 ∧ -(2 ^ 62) ≤ hi ∧ hi < 2 ^ 62) ∧ R (rgs lo (hi - lo).toNat) (fun _ => True) M2) XR) XR
theorem di_range2 {p : Pos} (hg : Gl X "range") (hm : X.mg "range" = none) (ha : PE X a (lE X.K E wa)) (hb : PE X b (lE X.K E wb)) (hs : starEach [a, b] X.env = [(false, eval a X.env), (false, eval b X.env)] := by rfl) (hs2 : starEach [b] X.env = [(false, eval b X.env)] := by rfl) :
    PI X tg (.Call (.Name "range" p) [a, b] [] pos) (lI X.K E (dRange2 wa wb)) :=
  PI.imp (pi_range2 hg hm (pa_cons ha (pa_cons hb pa_nil hs2) (by rw [hs, hs2])) hs hs2) fun σ H Rt ⟨Γ, M, R, XR, g, m, q, k, kx⟩ => ⟨Γ, M, _, XR, g, m, q, fun d M1 v H1 q1 s1 g1 r1 =>
    ⟨Γ, M1, _, XR, g1, m.stp s1, q1, fun e M2 u H2 ⟨lo, hi, e1, e2, q0, q2⟩ s2 g2 r2 => by
      subst e1 e2
      have r1 : v = .int lo := r1
      have r2 : u = .int hi := r2
      subst r1 r2
      exact ⟨lo, hi, rfl, q0, k _ _ _ _ _ q2 (s1.trans s2) g2 iw_range⟩, kx.step s1⟩, kx⟩

/-! ### targets -/
abbrev DG := D → Gam → Mem → (Gam → Mem → Prop) → Prop
abbrev DGs := List D → Gam → Mem → (Gam → Mem → Prop) → Prop
def lG (K : PySem.W.Frag) (vs : List Nat) (w : DG) : TG := fun v σ H Q => ∃ (d : D) (Γ : Gam) (M : Mem) (R : Gam → Mem → Prop), Good K M H ∧ Mat K M H Γ σ ∧ Rep K M H d v ∧ w d Γ M R ∧
  ∀ Γ' M' σ' H', R Γ' M' → Stp M H M' H' → Good K M' H' → Mat K M' H' Γ' σ' → wipe σ' vs = wipe σ vs → Q σ' H'
def lGs (K : PySem.W.Frag) (vs : List Nat) (w : DGs) : TGs := fun us σ H Q => ∃ (ds : List D) (Γ : Gam) (M : Mem) (R : Gam → Mem → Prop), Good K M H ∧ Mat K M H Γ σ ∧ Reps K M H ds us ∧ w ds Γ M R ∧
  ∀ Γ' M' σ' H', R Γ' M' → Stp M H M' H' → Good K M' H' → Mat K M' H' Γ' σ' → wipe σ' vs = wipe σ vs → Q σ' H'
theorem PG.imp {X : Cx} {e : Expr} {t t' : TG} (h : PG X e t) (i : ∀ v σ H Q, t' v σ H Q → t v σ H Q) : PG X e t' := ⟨fun pins s σ H v u Q I r q => h.run pins s σ H v u Q I r (i v σ H Q q)⟩
theorem PGs.imp {X : Cx} {e : List Expr} {t t' : TGs} (h : PGs X e t) (i : ∀ v σ H Q, t' v σ H Q → t v σ H Q) : PGs X e t' := ⟨fun pins s σ H v u Q I r q => h.run pins s σ H v u Q I r (i v σ H Q q)⟩
theorem PG.or {X : Cx} {e : Expr} {t t' : TG} (h : PG X e t) (h' : PG X e t') : PG X e (fun v σ H Q => t v σ H Q ∨ t' v σ H Q) := ⟨fun pins s σ H v u Q I r q => q.elim (h.run pins s σ H v u Q I r) (h'.run pins s σ H v u Q I r)⟩
theorem wipe_len (σ : L2.St) (vs : List Nat) : (wipe σ vs).length = σ.length := wipe_length σ vs
theorem wipe_get (σ : L2.St) (i : Nat) : ∀ vs : List Nat, (wipe σ vs)[i]? = if i ∈ vs then (if i < σ.length then some none else none) else σ[i]?
  | [] => by simp [wipe]
  | v :: vs => by
    unfold wipe
    rw [List.getElem?_set]
    by_cases e : v = i
    · subst e
      simp [wipe_length]
    · simp only [e, if_false]
      rw [wipe_get σ i vs]
      have : (i ∈ v :: vs) ↔ i ∈ vs := by simp [List.mem_cons, Ne.symm e]
      simp only [this]
theorem wipe_set {σ : L2.St} {i : Nat} {x : Option V} {vs : List Nat} (h : i ∈ vs) : wipe (σ.set i x) vs = wipe σ vs := by
  apply List.ext_getElem?
  intro j
  rw [wipe_get, wipe_get]
  by_cases e : j ∈ vs
  · simp [e]
  · simp only [e, if_false]
    rw [List.getElem?_set_ne (fun z => e (by rw [← z]; exact h))]
theorem wipe_wipe (σ : L2.St) (vs : List Nat) : wipe (wipe σ vs) vs = wipe σ vs := by
  apply List.ext_getElem?
  intro j
  rw [wipe_get, wipe_get]
  by_cases e : j ∈ vs <;> simp [e, wipe_length]
def gWipe (Γ : Gam) : List Nat → Gam
  | [] => Γ
  | v :: vs => (gWipe Γ vs).set v none
theorem Mat.wipe {K : PySem.W.Frag} {M : Mem} {H : Hp} {Γ : Gam} {σ : L2.St} (m : Mat K M H Γ σ) : ∀ vs, Mat K M H (gWipe Γ vs) (L2.wipe σ vs)
  | [] => m
  | v :: vs => (m.wipe vs).unset v none
def dgName (i : Nat) : DG := fun d Γ M R => R (Γ.set i (some d)) M
theorem dg_name {i : Nat} {vs : List Nat} {x : Str} (hN : X.N.Nodup) (hi : X.N[i]? = some x) (hx : Loc X.env.scope x) (hv : i ∈ vs := by decide) (hf : X.fn x = true ∨ X.env.scope.names.lookup x = some .local := by first | exact .inl rfl | exact .inr rfl | assumption) : PG X (.Name x pos) (lG X.K vs (dgName i)) :=
  PG.imp (pg_name hN hi hx hf) fun v σ H Q ⟨d, Γ, M, R, g, m, r, q, k⟩ => k _ M _ H q (Stp.refl M H) g (m.set r i) (wipe_set hv)
def dgNil : DGs := fun ds Γ M R => ds = [] ∧ R Γ M
def dgCons (w : DG) (ws : DGs) : DGs := fun ds Γ M R => ∃ d r, ds = d :: r ∧ w d Γ M fun Γ' M' => ws r Γ' M' R
theorem dgs_nil {vs : List Nat} : PGs X [] (lGs X.K vs dgNil) := PGs.imp pgs_nil fun v σ H Q ⟨ds, Γ, M, R, g, m, r, ⟨e, q⟩, k⟩ => by
  subst e
  exact ⟨r, k _ M _ H q (Stp.refl M H) g m rfl⟩
theorem dgs_cons {vs : List Nat} {w : DG} {ws : DGs} (h1 : PG X e (lG X.K vs w)) (h2 : PGs X es (lGs X.K vs ws)) (hs : (assignEach (e :: es) X.env).map (·.2) = assign e X.env :: (assignEach es X.env).map (·.2) := by rfl) : PGs X (e :: es) (lGs X.K vs (dgCons w ws)) :=
  PGs.imp (pgs_cons h1 h2 hs) fun us σ H Q ⟨ds, Γ, M, R, g, m, r, ⟨d, t, e, q⟩, k⟩ => by
    subst e
    obtain ⟨v, vr, rfl, r1, r2⟩ := r
    exact ⟨v, vr, rfl, d, Γ, M, _, g, m, r1, q, fun Γ1 M1 σ1 H1 q1 s1 g1 m1 e1 => ⟨t, Γ1, M1, R, g1, m1, r2.stp s1, q1, fun Γ2 M2 σ2 H2 q2 s2 g2 m2 e2 => k _ _ _ _ q2 (s1.trans s2) g2 m2 (e2.trans e1)⟩⟩
/-- several targets, of a tuple or a list -/
def dgTup (n : Nat) (ws : DGs) : DG := fun d Γ M R => ∃ ds, getS M d = some ds ∧ ds.length = n ∧ ws ds Γ M R
theorem dg_tup {vs : List Nat} {k : Nat} {ws : DGs} {n : Nat} (hc : X.calm = true) (h : PGs X es (lGs X.K vs ws)) (hn : (assignEach es X.env).length = n := by rfl) (hst : (assignEach es X.env).findIdx? (·.1) = none := by rfl) : PG X (.Tuple es k pos) (lG X.K vs (dgTup n ws)) :=
  PG.imp (PG.or (pg_tup hc h hn hst) (pg_lst hc h hn hst)) fun v σ H Q ⟨d, Γ, M, R, g, m, r, ⟨ds, e, hl, q⟩, k⟩ => by
    rcases getS_cases e with e | e | e
    · subst e
      obtain ⟨a, us, rfl, ha, ra⟩ := r.tupS
      exact .inl ⟨a, us, rfl, ha, by rw [← ra.len]; exact hl, ds, Γ, M, R, g, m, ra, q, k⟩
    · subst e
      obtain ⟨a, us, rfl, ha, ra⟩ := r.ktS
      exact .inl ⟨a, us, rfl, ha, by rw [← ra.len]; exact hl, ds, Γ, M, R, g, m, ra, q, k⟩
    · obtain ⟨a, us, rfl, ha, ra⟩ := (getL_like e).sq g r
      exact .inr ⟨a, us, rfl, ha, by rw [← ra.len]; exact hl, ds, Γ, M, R, g, m, ra, q, k⟩
/-- o[i] = .. of a list that changes -/
def dgSub (wo wi : DE) : DG := fun d Γ M R => wo Γ M (fun x M1 => wi Γ M1 (fun y M2 => ∃ p ds i j, x = .loc p ∧ y = .int i ∧ M2 p = some (.lst ds) ∧ ixN ds.length i = some j ∧ R Γ (mup M2 p (.lst (ds.set j d)))) X0) X0
theorem dg_sub {vs : List Nat} (ho : PE X o (lE X.K (fun _ _ _ _ => False) wo)) (hi : PE X a (lE X.K (fun _ _ _ _ => False) wa)) (ha : ∀ v, assign (.Subscript o a pos) X.env v = (do
      let ov ← holding [v] (eval o X.env)
      let iv ← holding [v, ov] (eval a X.env)
      standAt pos
      holding [v, ov, iv] (setItem ov iv v)
      release [v, ov, iv] []) := by intro _; rfl) : PG X (.Subscript o a pos) (lG X.K vs (dgSub wo wa)) :=
  PG.imp (pg_sub ho hi set_list ha) fun v σ H Q ⟨d, Γ, M, R, g, m, r, q, k⟩ => ⟨Γ, M, _, X0, g, m, q, fun x M1 vx H1 q1 s1 g1 r1 => ⟨Γ, M1, _, X0, g1, m.stp s1, q1, fun y M2 vy H2 q2 s2 g2 r2 => by
    obtain ⟨p, ds, i, j, rfl, rfl, hp, hj, q2⟩ := q2
    have r1 : vx = .ref p := r1
    have r2 : vy = .int i := r2
    subst r1 r2
    obtain ⟨us, hH, ru⟩ := g2 _ _ hp
    have s : Stp M H (mup M2 p (.lst (ds.set j d))) (upd H2 p (.lst (us.set j v))) := (s1.trans s2).trans (stp_put hp)
    exact ⟨p, us, i, j, rfl, rfl, hH, by rw [← ru.len]; exact hj, k _ _ _ _ q2 s (good_put g2 hp ⟨_, upd_same, (ru.stp (stp_put hp)).set (r.stp s) j⟩) (m.stp s) rfl⟩, KX0⟩, KX0⟩

/-! ### statements -/
variable {st : Stmt} {sts body orelse : List Stmt} {s1 s2 wS wT : DS}
def dNext : DS := fun DD Γ M => DD.nx Γ M
def dSeq (a b : DS) : DS := fun DD Γ M => a { DD with nx := fun Γ' M' => b DD Γ' M' } Γ M
theorem KD.nxt {K : PySem.W.Frag} {M : Mem} {H : Hp} {DD : DEnds} {D : Ends} (k : KD K M H DD D E) {σ : L2.St} {Γ : Gam} (g : Good K M H) (m : Mat K M H Γ σ) (h : DD.nx Γ M) : D.nx σ H := k.nx _ _ _ _ h (Stp.refl M H) g m
theorem dss_nil : PSs X [] (lS X.K E dNext) := PSs.imp pss_nil fun D σ H ⟨Γ, M, DD, g, m, q, k⟩ => k.nxt g m q
theorem dss_cons (h1 : PS X st (lS X.K E s1)) (h2 : PSs X sts (lS X.K E s2)) : PSs X (st :: sts) (lS X.K E (dSeq s1 s2)) := PSs.imp (pss_cons h1 h2) fun D σ H ⟨Γ, M, DD, g, m, q, k⟩ =>
  ⟨Γ, M, _, g, m, q, ⟨fun Γ1 M1 σ1 H1 q1 t1 g1 m1 => ⟨Γ1, M1, DD, g1, m1, q1, k.step t1⟩, k.rt, k.bk, k.ct, k.xr⟩⟩
theorem dss_one (h1 : PS X st (lS X.K E s1)) : PSs X [st] (lS X.K E s1) := pss_one h1
theorem ds_pass : PS X (.Pass pos) (lS X.K E dNext) := PS.imp ps_pass fun D σ H ⟨Γ, M, DD, g, m, q, k⟩ => k.nxt g m q
def dBreak : DS := fun DD Γ M => DD.bk Γ M
def dCont : DS := fun DD Γ M => DD.ct Γ M
theorem ds_break : PS X (.Break pos) (lS X.K E dBreak) := PS.imp ps_break fun D σ H ⟨Γ, M, DD, g, m, q, k⟩ => k.bk _ _ _ _ q (Stp.refl M H) g m
theorem ds_cont : PS X (.Continue pos) (lS X.K E dCont) := PS.imp ps_continue fun D σ H ⟨Γ, M, DD, g, m, q, k⟩ => k.ct _ _ _ _ q (Stp.refl M H) g m
theorem ds_doc {x j pos pos'} : PS X (.Expr (.Constant (.str x) j pos) pos') (lS X.K E dNext) := PS.imp ps_doc fun D σ H ⟨Γ, M, DD, g, m, q, k⟩ => k.nxt g m q
def dNever : DS := fun _ _ _ => False
theorem ds_never : PS X st (lS X.K E dNever) := PS.imp ps_never fun D σ H ⟨Γ, M, DD, g, m, q, k⟩ => q
theorem dss_never : PSs X sts (lS X.K E dNever) := PSs.imp pss_never fun D σ H ⟨Γ, M, DD, g, m, q, k⟩ => q
def dDrop (w : DE) : DS := fun DD Γ M => w Γ M (fun _ M1 => DD.nx Γ M1) fun e M1 => DD.xr e Γ M1
theorem ds_expr (he : PE X e (lE X.K E w)) (hs : swapsWith e none pos.line X.env = pure false := by rfl) : PS X (.Expr e pos) (lS X.K E (dDrop w)) := PS.imp (ps_expr he hs) fun D σ H ⟨Γ, M, DD, g, m, q, k⟩ =>
  ⟨Γ, M, _, _, g, m, q, fun d M1 v H1 q1 t1 g1 r1 => k.nx _ _ _ _ q1 t1 g1 (m.stp t1), k.kx m⟩
def dRet (w : DE) : DS := fun DD Γ M => w Γ M DD.rt fun e M1 => DD.xr e Γ M1
theorem ds_ret (he : PE X e (lE X.K E w)) : PS X (.Return (some e) pos) (lS X.K E (dRet w)) := PS.imp (ps_ret he) fun D σ H ⟨Γ, M, DD, g, m, q, k⟩ => ⟨Γ, M, _, _, g, m, q, k.rt, k.kx m⟩
def dRetN : DS := fun DD _ M => DD.rt .non M
theorem ds_retN : PS X (.Return none pos) (lS X.K E dRetN) := PS.imp ps_retN fun D σ H ⟨Γ, M, DD, g, m, q, k⟩ => k.rt.now g q rfl
def dIfS (t : DT) (s1 s2 : DS) : DS := fun DD Γ M => t Γ M (fun b M1 => if b = true then s1 DD Γ M1 else s2 DD Γ M1) fun e M1 => DD.xr e Γ M1
theorem ds_if (hc : PT X c (lT X.K E t)) (ha : PSs X body (lS X.K E s1)) (hb : PSs X orelse (lS X.K E s2)) : PS X (.If c body orelse pos) (lS X.K E (dIfS t s1 s2)) := PS.imp (ps_if hc ha hb) fun D σ H ⟨Γ, M, DD, g, m, q, k⟩ =>
  ⟨Γ, M, _, _, g, m, q, fun b M1 H1 q1 t1 g1 => by
    cases b with
    | true => exact ⟨Γ, M1, DD, g1, m.stp t1, q1, k.step t1⟩
    | false => exact ⟨Γ, M1, DD, g1, m.stp t1, q1, k.step t1⟩, k.kx m⟩
def dAsg (w : DE) (g : DG) : DS := fun DD Γ M => w Γ M (fun d M1 => g d Γ M1 DD.nx) fun e M1 => DD.xr e Γ M1
theorem asg_imp {vs : List Nat} {gg : DG} {D : Ends} {σ : L2.St} {H : Hp} (h : lS X.K E (dAsg w gg) D σ H) : tAsg (lE X.K E w) (lG X.K vs gg) D σ H := by
  obtain ⟨Γ, M, DD, g, m, q, k⟩ := h
  exact ⟨Γ, M, _, _, g, m, q, fun d M1 v H1 q1 t1 g1 r1 => ⟨d, Γ, M1, DD.nx, g1, m.stp t1, r1, q1, fun Γ2 M2 σ2 H2 q2 t2 g2 m2 _ => k.nx _ _ _ _ q2 (t1.trans t2) g2 m2⟩, k.kx m⟩
theorem ds_asg {vs : List Nat} {gg : DG} (he : PE X e (lE X.K E w)) (hg : PG X tg (lG X.K vs gg)) (hs : swapsWithSole [tg] e pos.line X.env = pure false := by rfl) (hw : swappedStores [tg] e X.env = pure none := by rfl)
    (h1 : (assignEach [tg] X.env).map (·.2) = [assign tg X.env] := by rfl) : PS X (.Assign [tg] e pos) (lS X.K E (dAsg w gg)) := PS.imp (ps_asg he hg hs hw h1) fun _ _ _ => asg_imp
def dSet (i : Nat) (w : DE) : DS := fun DD Γ M => w Γ M (fun d M1 => DD.nx (Γ.set i (some d)) M1) fun e M1 => DD.xr e Γ M1
theorem ds_set {i : Nat} {x : Str} {pos' : Pos} (hN : X.N.Nodup) (hi : X.N[i]? = some x) (hx : Loc X.env.scope x) (he : PE X e (lE X.K E w)) (hs : swapsWith e (some (.Name x pos')) pos.line X.env = pure false := by rfl) (hf : X.fn x = true ∨ X.env.scope.names.lookup x = some .local := by first | exact .inl rfl | exact .inr rfl | assumption) :
    PS X (.Assign [.Name x pos'] e pos) (lS X.K E (dSet i w)) := PS.imp (ps_set hN hi hx he hs hf) fun D σ H ⟨Γ, M, DD, g, m, q, k⟩ => ⟨Γ, M, _, _, g, m, q, fun d M1 v H1 q1 t1 g1 r1 => k.nx _ _ _ _ q1 t1 g1 ((m.stp t1).set r1 i), k.kx m⟩
/-- a, b = x, y of plain local names -/
def dPar (i j : Nat) (wA : DA) : DS := fun DD Γ M => wA Γ M (fun ds M1 => ∃ d f, ds = [d, f] ∧ DD.nx ((Γ.set i (some d)).set j (some f)) M1) fun e M1 => DD.xr e Γ M1
theorem ds_par {i j : Nat} {x y : Str} {px py pt : Pos} {kt k2 pt2} (hc : X.calm = true) (hN : X.N.Nodup) (hi : X.N[i]? = some x) (hj : X.N[j]? = some y) (hij : i ≠ j)
    (hx : X.env.scope.names.lookup x = some .local) (hy : X.env.scope.names.lookup y = some .local) (ha : PA X [a, b] (lA X.K E wA))
    (hw : swappedStores [.Tuple [.Name x px, .Name y py] kt pt] (.Tuple [a, b] k2 pt2) X.env = pure (some [x, y]))
    (hs : swapsWithSole [.Tuple [.Name x px, .Name y py] kt pt] (.Tuple [a, b] k2 pt2) pos.line X.env = pure false := by rfl) :
    PS X (.Assign [.Tuple [.Name x px, .Name y py] kt pt] (.Tuple [a, b] k2 pt2) pos) (lS X.K E (dPar i j wA)) := PS.imp (ps_par hc hN hi hj hij hx hy ha hw hs) fun D σ H ⟨Γ, M, DD, g, m, q, k⟩ =>
  ⟨Γ, M, _, _, g, m, q, fun ds M1 vs H1 ⟨d, f, e, q1⟩ t1 g1 r1 => by
    subst e
    obtain ⟨v, u, rfl, h1, h2⟩ := r1.two
    exact ⟨v, u, rfl, k.nx _ _ _ _ q1 t1 g1 (((m.stp t1).set h1 i).set h2 j)⟩, k.kx m⟩
/-! x op= e -/
def dAug (i : Nat) (w : DE) (r : O2) : DS := fun DD Γ M => ∃ x, Γ[i]? = some (some x) ∧ w Γ M (fun d M1 => r x d M1 fun z M2 => DD.nx (Γ.set i (some z)) M2) fun e M1 => DD.xr e Γ M1
theorem ds_aug {i : Nat} {x : Str} {op : Operator} {r : O2} {pos' : Pos} (hN : X.N.Nodup) (hi : X.N[i]? = some x) (hx : Loc X.env.scope x) (he : PE X e (lE X.K E w)) (ho : OpR X (inplaceOp op) (lO X.K r)) (hf : X.fn x = true ∨ X.env.scope.names.lookup x = some .local := by first | exact .inl rfl | exact .inr rfl | assumption) :
    PS X (.AugAssign (.Name x pos') op e pos) (lS X.K E (dAug i w r)) := PS.imp (ps_aug hN hi hx he ho hf) fun D σ H ⟨Γ, M, DD, g, m, ⟨x, hx, q⟩, k⟩ => by
  obtain ⟨vx, hv, rx⟩ := m.get hx
  exact ⟨vx, hv, Γ, M, _, _, g, m, q, fun d M1 v H1 q1 t1 g1 r1 => ⟨x, d, M1, _, g1, rx.stp t1, r1, q1, fun z M2 vz H2 q2 t2 g2 r2 => k.nx _ _ _ _ q2 (t1.trans t2) g2 ((m.stp (t1.trans t2)).set r2 i)⟩, k.kx m⟩
/-- += -/
def oIAdd : O2
  | .int i, .int j, M, R => R (.int (i + j)) M
  | .str x, .str y, M, R => x.length + y.length ≤ sizeLine ∧ R (.str (x ++ y)) M
  | .loc p, y, M, R => ∃ xs ys, M p = some (.lst xs) ∧ getO M y = some ys ∧ xs.length + ys.length ≤ sizeLine ∧ R (.loc p) (mup M p (.lst (xs ++ ys)))
  | _, _, _, _ => False
theorem li_add : OpR X (inplaceOp .Add) (lO X.K oIAdd) := OpR.imp (iop_add.or (iop_add_str.or iop_ext)) fun vx vy H Q ⟨x, y, M, R, g, hx, hy, r, k⟩ => by
  cases x with
  | loc p =>
    obtain ⟨xs, ys, hp, e, hl, q⟩ := r
    have hx : vx = .ref p := hx
    subst hx
    obtain ⟨us, hH, ru⟩ := g _ _ hp
    obtain ⟨b, ws, rfl, hb, rb⟩ := (getO_own e).at g hy
    exact .inr (.inr ⟨p, b, us, ws, rfl, rfl, hH, hb, by rw [← ru.len, ← rb.len]; exact hl, k _ _ _ _ q (stp_put hp) (good_put g hp ⟨_, upd_same, (ru.append rb).stp (stp_put hp)⟩) rfl⟩)
  | int i =>
    cases y with
    | int j => exact .inl ⟨_, _, hx, hy, k.now g r rfl⟩
    | _ => exact False.elim r
  | str x =>
    cases y with
    | str y => exact .inr (.inl ⟨_, _, hx, hy, r.1, k.now g r.2 rfl⟩)
    | _ => exact False.elim r
  | _ => cases y <;> exact False.elim r
theorem li_sub : OpR X (inplaceOp .Sub) (lO X.K oSub) := lo_int iop_sub fun _ _ _ _ => rfl
theorem li_mul : OpR X (inplaceOp .Mult) (lO X.K oMul) := lo_intC iop_mul fun _ _ _ _ => rfl
/-! ### loops -/
def forGo (gg : DG) (b : DS) (G : Mem → Prop) (DD : DEnds) : List D → Gam → Mem → Prop
  | [], Γ, M => G M ∧ DD.nx Γ M
  | d :: ds, Γ, M => G M ∧ gg d Γ M fun Γ1 M1 => b { DD with nx := forGo gg b G DD ds, ct := forGo gg b G DD ds, bk := DD.nx } Γ1 M1
def dFor (wi : DI) (gg : DG) (b : DS) : DS := fun DD Γ M => wi Γ M (fun ds G M1 => forGo gg b G DD ds Γ M1) fun e M1 => DD.xr e Γ M1
theorem forGo_G {gg : DG} {b : DS} {G : Mem → Prop} {DD : DEnds} {ds : List D} {Γ : Gam} {M : Mem} (h : forGo gg b G DD ds Γ M) : G M := by
  cases ds with
  | nil => exact h.1
  | cons d ds => exact h.1
theorem ds_for {iter : Expr} {wi : DI} {gg : DG} {vs : List Nat} {bb : DS} (hp : PassesOwn (model X.prog X.w) X.A X.env X.xe) (hc : X.calm = true) (hi : PI X tg iter (lI X.K E wi)) (hg : PG X tg (lG X.K vs gg)) (hb : PSs X body (lS X.K E bb))
    (hs : ∀ x, foldedSetIterable iter X.env x = pure x := by intro _; rfl) : PS X (.For tg iter body [] pos) (lS X.K E (dFor wi gg bb)) := PS.imp (ps_for hp hc hi hg hb hs) fun D σ H ⟨Γ, M, DD, g, m, q, k⟩ => by
  refine ⟨Γ, M, _, _, g, m, q, fun ds G M1 J H1 q1 t1 g1 w => ?_, k.kx m⟩
  refine ⟨fun i n σ' H' => n = ds.length - i ∧ i ≤ ds.length ∧ ∃ Γ' M', Good X.K M' H' ∧ Mat X.K M' H' Γ' σ' ∧ Stp M1 H1 M' H' ∧ forGo gg bb G DD (ds.drop i) Γ' M', ⟨ds.length, by simp, Nat.zero_le _, Γ, M1, g1, m.stp t1, Stp.refl _ _, q1⟩, ?_⟩
  rintro i n σ' H' ⟨rfl, hi, Γ', M', g2, m2, t2, q2⟩
  obtain ⟨w1, w2, w3⟩ := w M' H' t2 g2 (forGo_G q2)
  by_cases hl : i < ds.length
  · refine .inr ⟨w1 i hl, fun σ'' H'' => ∃ Γ'' M'', Good X.K M'' H'' ∧ Mat X.K M'' H'' Γ'' σ'' ∧ Stp M1 H1 M'' H'' ∧ forGo gg bb G DD (ds.drop (i + 1)) Γ'' M'', fun σ'' H'' hn => ⟨ds.length - (i + 1), by omega, rfl, hl, hn⟩, fun x H'' y => ?_⟩
    obtain ⟨t3, g3, r3⟩ := w3 i x H'' ds[i] (List.getElem?_eq_getElem hl) y
    rw [List.drop_eq_getElem_cons hl] at q2
    refine ⟨ds[i], Γ', M', _, g3, m2.stp t3, r3, q2.2, fun Γ4 M4 σ4 H4 q4 t4 g4 m4 _ => ?_⟩
    refine ⟨Γ4, M4, _, g4, m4, q4, ?_⟩
    have tt := t1.trans (t2.trans (t3.trans t4))
    have kk := k.step tt
    exact ⟨fun Γ5 M5 σ5 H5 q5 t5 g5 m5 => ⟨Γ5, M5, g5, m5, t2.trans (t3.trans (t4.trans t5)), q5⟩, kk.rt, fun Γ5 M5 σ5 H5 q5 t5 g5 m5 => kk.nx _ _ _ _ q5 t5 g5 m5, fun Γ5 M5 σ5 H5 q5 t5 g5 m5 => ⟨Γ5, M5, g5, m5, t2.trans (t3.trans (t4.trans t5)), q5⟩, kk.xr⟩
  · have e : i = ds.length := by omega
    subst e
    rw [List.drop_length] at q2
    exact .inl ⟨w2, k.nx _ _ _ _ q2.2 (t1.trans t2) g2 m2⟩
def dWhile (t : DT) (b : DS) : DS := fun DD Γ M => ∃ W : Nat → Gam → Mem → Prop, (∃ n, W n Γ M) ∧ ∀ n Γ M, W n Γ M → t Γ M (fun c M1 => if c = true then b { DD with nx := fun Γ' M' => ∃ n', n' < n ∧ W n' Γ' M', ct := fun Γ' M' => ∃ n', n' < n ∧ W n' Γ' M', bk := DD.nx } Γ M1 else DD.nx Γ M1) fun e M1 => DD.xr e Γ M1
theorem ds_while {bb : DS} (hp : PassesOwn (model X.prog X.w) X.A X.env X.xe) (hc : PT X c (lT X.K E t)) (hb : PSs X body (lS X.K E bb)) : PS X (.While c body [] pos) (lS X.K E (dWhile t bb)) := PS.imp (ps_while hp hc hb) fun D σ H ⟨Γ, M, DD, g, m, ⟨W, ⟨n, hn⟩, hW⟩, k⟩ => by
  refine ⟨fun n σ' H' => ∃ Γ' M', Good X.K M' H' ∧ Mat X.K M' H' Γ' σ' ∧ Stp M H M' H' ∧ W n Γ' M', ⟨n, Γ, M, g, m, Stp.refl _ _, hn⟩, ?_⟩
  rintro n σ' H' ⟨Γ', M', g2, m2, t2, w2⟩
  refine ⟨Γ', M', _, _, g2, m2, hW n Γ' M' w2, fun c M1 H1 q1 t1 g1 => ?_, (k.step t2).kx m2⟩
  cases c with
  | true =>
    refine ⟨fun σ'' H'' => ∃ n', n' < n ∧ ∃ Γ'' M'', Good X.K M'' H'' ∧ Mat X.K M'' H'' Γ'' σ'' ∧ Stp M H M'' H'' ∧ W n' Γ'' M'', fun σ'' H'' ⟨n', hn', h⟩ => ⟨n', hn', h⟩, ?_⟩
    have kk := k.step (t2.trans t1)
    exact ⟨Γ', M1, _, g1, m2.stp t1, q1, ⟨fun Γ5 M5 σ5 H5 ⟨n', hn', q5⟩ t5 g5 m5 => ⟨n', hn', Γ5, M5, g5, m5, t2.trans (t1.trans t5), q5⟩, kk.rt, fun Γ5 M5 σ5 H5 q5 t5 g5 m5 => kk.nx _ _ _ _ q5 t5 g5 m5, fun Γ5 M5 σ5 H5 ⟨n', hn', q5⟩ t5 g5 m5 => ⟨n', hn', Γ5, M5, g5, m5, t2.trans (t1.trans t5), q5⟩, kk.xr⟩⟩
  | false => exact k.nx _ _ _ _ q1 (t2.trans t1) g1 (m2.stp t1)
end
end DL
namespace DL
open PySem PySem.Spec PyProof.Rows L2

section
variable {X : Cx} {E : L2.St → XK} {a b c e o tg : Expr} {es : List Expr} {wa wb wc w wo : DE} {wA : DA} {pos : Pos} {u t : DT}

/-! ### comprehensions -/
def dYes : DT := fun _ M R _ => R true M
theorem PTs.imp {X : Cx} {e : List Expr} {t t' : TT} (h : PTs X e t) (i : ∀ σ H Q, t' σ H Q → t σ H Q) : PTs X e t' := by
  constructor
  intros
  apply h.run <;> first | assumption | (apply i; assumption)
theorem dts_nil : PTs X [] (lT X.K E dYes) := PTs.imp pts_nil fun σ H Q ⟨Γ, M, R, XR, g, m, q, k, kx⟩ => k _ _ _ q (Stp.refl M H) g
theorem dts_one (h : PT X c (lT X.K E t)) : PTs X [c] (lT X.K E t) := pts_one h
/-- the list at D grows, item by item; F behind -/
def lcGo (gg : DG) (tt : DT) (te : DE) (G : Mem → Prop) (Γw : Gam) (A : Addr) (F : Mem → Prop) : List D → Mem → Prop
  | [], M => G M ∧ F M
  | d :: ds, M => G M ∧ gg d Γw M fun Γ1 M1 => tt Γ1 M1 (fun b M2 => if b = true then te Γ1 M2 (fun x M3 => ∃ acc, M3 A = some (.lst acc) ∧ acc.length < sizeLine ∧ lcGo gg tt te G Γw A F ds (mup M3 A (.lst (acc ++ [x])))) X0 else lcGo gg tt te G Γw A F ds M2) X0
def lcF (R : Pst) (A : Addr) (M : Mem) : Prop := ∃ acc, M A = some (.lst acc) ∧ R (.lst acc) (mdel M A)
def dLc (wi : DI) (gg : DG) (tt : DT) (te : DE) (vs : List Nat) : DE := fun Γ M R XR => wi Γ M (fun ds G M1 => ∀ A, M1 A = none → lcGo gg tt te G (gWipe Γ vs) A (lcF R A) ds (mup M1 A (.lst []))) XR
/-- a list that is to change -/
def dLcM (wi : DI) (gg : DG) (tt : DT) (te : DE) (vs : List Nat) : DE := fun Γ M R XR => wi Γ M (fun ds G M1 => ∀ A, M1 A = none → lcGo gg tt te G (gWipe Γ vs) A (fun M2 => R (.loc A) M2) ds (mup M1 A (.lst []))) XR
theorem lcGo_G {gg : DG} {tt : DT} {te : DE} {G : Mem → Prop} {Γ : Gam} {A : Addr} {F : Mem → Prop} {ds : List D} {M : Mem} (h : lcGo gg tt te G Γ A F ds M) : G M := by
  cases ds with
  | nil => exact h.1
  | cons d ds => exact h.1
/-- one walk of items, each put to the list at A -/
theorem lc_walk {K : PySem.W.Frag} {E : L2.St → XK} {gg : DG} {tt : DT} {te : DE} {vs : List Nat} {G : Mem → Prop} {Γ : Gam} {A : Addr} {F : Mem → Prop} {ds : List D} {M1 : Mem} {H1 : Hp} {J : It} {σ : L2.St} {Qd : Hp → Prop}
    (w : IW K J ds G M1 H1) (g : Good K M1 H1) (m : Mat K M1 H1 (gWipe Γ vs) (wipe σ vs)) (q : lcGo gg tt te G (gWipe Γ vs) A F ds M1)
    (hd : ∀ M' H', F M' → Stp M1 H1 M' H' → Good K M' H' → Qd H') :
    ∃ W : Nat → Nat → Hp → Prop, (∃ n, W 0 n H1) ∧ ∀ i n H, W i n H →
      (J.stop i H ∧ Qd H) ∨ (J.go i H ∧ ∃ Nx : Hp → Prop, (∀ H', Nx H' → ∃ m', m' < n ∧ W (i + 1) m' H') ∧ ∀ x H', J.yld i H x H' → lG K vs gg x (wipe σ vs) H' fun σ2 H2 => wipe σ2 vs = wipe σ vs ∧ lT K E tt σ2 H2 fun b H3 =>
        if b = true then lE K E te σ2 H3 fun y H4 => ∃ acc, H4 A = some (.lst acc) ∧ acc.length < sizeLine ∧ Nx (upd H4 A (.lst (acc ++ [y]))) else Nx H3) := by
  refine ⟨fun i n H' => n = ds.length - i ∧ i ≤ ds.length ∧ ∃ M', Good K M' H' ∧ Stp M1 H1 M' H' ∧ lcGo gg tt te G (gWipe Γ vs) A F (ds.drop i) M', ⟨ds.length, by simp, Nat.zero_le _, M1, g, Stp.refl _ _, q⟩, ?_⟩
  rintro i n H' ⟨rfl, hi, M', g2, t2, q2⟩
  obtain ⟨w1, w2, w3⟩ := w M' H' t2 g2 (lcGo_G q2)
  by_cases hl : i < ds.length
  · refine .inr ⟨w1 i hl, fun H'' => ∃ M'', Good K M'' H'' ∧ Stp M1 H1 M'' H'' ∧ lcGo gg tt te G (gWipe Γ vs) A F (ds.drop (i + 1)) M'', fun H'' hn => ⟨ds.length - (i + 1), by omega, rfl, hl, hn⟩, fun x H'' y => ?_⟩
    obtain ⟨t3, g3, r3⟩ := w3 i x H'' ds[i] (List.getElem?_eq_getElem hl) y
    rw [List.drop_eq_getElem_cons hl] at q2
    refine ⟨ds[i], gWipe Γ vs, M', _, g3, m.stp (t2.trans t3), r3, q2.2, fun Γ4 M4 σ4 H4 q4 t4 g4 m4 e4 => ⟨by rw [e4, wipe_wipe], ?_⟩⟩
    refine ⟨Γ4, M4, _, X0, g4, m4, q4, fun b M5 H5 q5 t5 g5 => ?_, KX0⟩
    have tt := t2.trans (t3.trans (t4.trans t5))
    cases b with
    | false => exact ⟨M5, g5, tt, q5⟩
    | true =>
      refine ⟨Γ4, M5, _, X0, g5, m4.stp t5, q5, fun x M6 v6 H6 ⟨acc, ha, hz, q6⟩ t6 g6 r6 => ?_, KX0⟩
      obtain ⟨us, hH, ru⟩ := g6 _ _ ha
      exact ⟨us, hH, by rw [← ru.len]; exact hz, mup M6 A (.lst (acc ++ [x])), good_put g6 ha ⟨_, upd_same, (ru.append (show Reps K M6 H6 [x] [v6] from ⟨v6, [], rfl, r6, rfl⟩)).stp (stp_put ha)⟩, tt.trans (t6.trans (stp_put ha)), q6⟩
  · have e : i = ds.length := by omega
    subst e
    rw [List.drop_length] at q2
    exact .inl ⟨w2, hd _ _ q2.2 t2 g2⟩
theorem IW.stp {K : PySem.W.Frag} {J : It} {ds : List D} {G : Mem → Prop} {M M' : Mem} {H H' : Hp} (w : IW K J ds G M H) (s : Stp M H M' H') : IW K J ds G M' H' := fun M2 H2 s2 g q => w M2 H2 (s.trans s2) g q
theorem lcF_done {K : PySem.W.Frag} {M0 : Mem} {H0 : Hp} {R : Pst} {Q : VK} {A : Addr} (k : KQ K M0 H0 R Q) {M' : Mem} {H' : Hp} (f : lcF R A M') (t : Stp M0 H0 M' H') (g : Good K M' H') : Q (.ref A) H' := by
  obtain ⟨acc, ha, q⟩ := f
  exact k _ _ _ _ q (t.trans (stp_sub sub_del)) (good_sub sub_del g) (freeze_lst g ha)
variable {elt iter : Expr} {ifs : List Expr} {scope : Scope} {own : List (Str × Nat)} {wi : DI} {gg : DG} {tt : DT} {te : DE}
theorem lc_imp {vs : List Nat} {σ : L2.St} {H : Hp} {Q : VK} (h : lE X.K E (dLc wi gg tt te vs) σ H Q) : tLc (lI X.K E wi) (lG X.K vs gg) (lT X.K E tt) (lE X.K E te) vs σ H Q := by
  obtain ⟨Γ, M, R, XR, g, m, q, k, kx⟩ := h
  refine ⟨Γ, M, _, XR, g, m, q, fun ds G M1 J H1 q1 t1 g1 w A hA => ?_, kx⟩
  have hM := g1.free hA
  have t2 : Stp M1 H1 (mup M1 A (.lst [])) (upd H1 A (.lst [])) := stp_loc hA
  have g2 : Good X.K (mup M1 A (.lst [])) (upd H1 A (.lst [])) := good_loc g1 hA ⟨[], upd_same, rfl⟩
  exact lc_walk (Γ := Γ) (w.stp t2) g2 ((m.stp (t1.trans t2)).wipe vs) (q1 A hM) fun M' H' f t' g' => lcF_done (k.step (t1.trans t2)) f t' g'
theorem lcM_imp {vs : List Nat} {σ : L2.St} {H : Hp} {Q : VK} (h : lE X.K E (dLcM wi gg tt te vs) σ H Q) : tLc (lI X.K E wi) (lG X.K vs gg) (lT X.K E tt) (lE X.K E te) vs σ H Q := by
  obtain ⟨Γ, M, R, XR, g, m, q, k, kx⟩ := h
  refine ⟨Γ, M, _, XR, g, m, q, fun ds G M1 J H1 q1 t1 g1 w A hA => ?_, kx⟩
  have hM := g1.free hA
  have t2 : Stp M1 H1 (mup M1 A (.lst [])) (upd H1 A (.lst [])) := stp_loc hA
  have g2 : Good X.K (mup M1 A (.lst [])) (upd H1 A (.lst [])) := good_loc g1 hA ⟨[], upd_same, rfl⟩
  exact lc_walk (Γ := Γ) (w.stp t2) g2 ((m.stp (t1.trans t2)).wipe vs) (q1 A hM) fun M' H' f t' g' => k _ _ _ _ f (t1.trans (t2.trans t')) g' rfl
abbrev Blk (X : Cx) (scope : Scope) (P : Cx → Prop) : Prop := ∀ (s : Shared) (H : Hp) (C : Addr) (cl : List (Str × Addr)) (fp : List Addr), P (X.blk s H scope (compEnvC scope cl C X.env) fp)
theorem de_lc {vs : List Nat} (hc : X.calm = true) (hN : X.N.Nodup) (hi : PI X tg iter (lI X.K E wi)) (ok : BlkOk X.N X.env.scope scope own)
    (hg : ∀ (s : Shared) (H : Hp) (C : Addr) (cl : List (Str × Addr)) (fp : List Addr), PG (X.blk s H scope (compEnvC scope cl C X.env) fp) tg (lG X.K (vs) gg)) (ht : ∀ (s : Shared) (H : Hp) (C : Addr) (cl : List (Str × Addr)) (fp : List Addr), PTs (X.blk s H scope (compEnvC scope cl C X.env) fp) ifs (lT X.K E tt))
    (he : ∀ (s : Shared) (H : Hp) (C : Addr) (cl : List (Str × Addr)) (fp : List Addr), PE (X.blk s H scope (compEnvC scope cl C X.env) fp) elt (lE X.K E te)) (hs : ∀ x, foldedSetIterable iter X.env x = pure x := by intro _; rfl) (hvs : own.map (·.2) = vs := by rfl) :
    PE X (.ListComp elt [⟨tg, iter, ifs, 0⟩] scope pos) (lE X.K E (dLc wi gg tt te (vs))) := by
  subst hvs
  exact PE.imp (pe_lc hc hN hi ok hg ht he hs) fun _ _ _ => lc_imp
theorem de_lcM {vs : List Nat} (hc : X.calm = true) (hN : X.N.Nodup) (hi : PI X tg iter (lI X.K E wi)) (ok : BlkOk X.N X.env.scope scope own)
    (hg : ∀ (s : Shared) (H : Hp) (C : Addr) (cl : List (Str × Addr)) (fp : List Addr), PG (X.blk s H scope (compEnvC scope cl C X.env) fp) tg (lG X.K (vs) gg)) (ht : ∀ (s : Shared) (H : Hp) (C : Addr) (cl : List (Str × Addr)) (fp : List Addr), PTs (X.blk s H scope (compEnvC scope cl C X.env) fp) ifs (lT X.K E tt))
    (he : ∀ (s : Shared) (H : Hp) (C : Addr) (cl : List (Str × Addr)) (fp : List Addr), PE (X.blk s H scope (compEnvC scope cl C X.env) fp) elt (lE X.K E te)) (hs : ∀ x, foldedSetIterable iter X.env x = pure x := by intro _; rfl) (hvs : own.map (·.2) = vs := by rfl) :
    PE X (.ListComp elt [⟨tg, iter, ifs, 0⟩] scope pos) (lE X.K E (dLcM wi gg tt te (vs))) := by
  subst hvs
  exact PE.imp (pe_lc hc hN hi ok hg ht he hs) fun _ _ _ => lcM_imp
theorem ds_setLc {vs : List Nat} {i : Nat} {y : Str} {py spos : Pos} (hc : X.calm = true) (hN : X.N.Nodup) (hy : X.N[i]? = some y) (hyl : X.env.scope.names.lookup y = some .local)
    (hsw : swapsWith (.ListComp elt [⟨tg, iter, ifs, 0⟩] scope pos) (some (.Name y py)) spos.line X.env = pure true) (hi : PI X tg iter (lI X.K E wi)) (ok : BlkOk X.N X.env.scope scope own)
    (hg : ∀ (s : Shared) (H : Hp) (C : Addr) (cl : List (Str × Addr)) (fp : List Addr), PG (X.blk s H scope (compEnvC scope cl C X.env) fp) tg (lG X.K (vs) gg)) (ht : ∀ (s : Shared) (H : Hp) (C : Addr) (cl : List (Str × Addr)) (fp : List Addr), PTs (X.blk s H scope (compEnvC scope cl C X.env) fp) ifs (lT X.K E tt))
    (he : ∀ (s : Shared) (H : Hp) (C : Addr) (cl : List (Str × Addr)) (fp : List Addr), PE (X.blk s H scope (compEnvC scope cl C X.env) fp) elt (lE X.K E te)) (hs : ∀ x, foldedSetIterable iter X.env x = pure x := by intro _; rfl) (hvs : own.map (·.2) = vs := by rfl) :
    PS X (.Assign [.Name y py] (.ListComp elt [⟨tg, iter, ifs, 0⟩] scope pos) spos) (lS X.K E (dSet i (dLc wi gg tt te (vs)))) := by
  subst hvs
  exact PS.imp (ps_setLc hc hN hy hyl hsw hi ok hg ht he hs) fun D σ H ⟨Γ, M, DD, g, m, q, k⟩ =>
  lc_imp ⟨Γ, M, _, _, g, m, q, fun d M1 v H1 q1 t1 g1 r1 => k.nx _ _ _ _ q1 t1 g1 ((m.stp t1).set r1 i), k.kx m⟩
theorem ds_setLcM {vs : List Nat} {i : Nat} {y : Str} {py spos : Pos} (hc : X.calm = true) (hN : X.N.Nodup) (hy : X.N[i]? = some y) (hyl : X.env.scope.names.lookup y = some .local)
    (hsw : swapsWith (.ListComp elt [⟨tg, iter, ifs, 0⟩] scope pos) (some (.Name y py)) spos.line X.env = pure true) (hi : PI X tg iter (lI X.K E wi)) (ok : BlkOk X.N X.env.scope scope own)
    (hg : ∀ (s : Shared) (H : Hp) (C : Addr) (cl : List (Str × Addr)) (fp : List Addr), PG (X.blk s H scope (compEnvC scope cl C X.env) fp) tg (lG X.K (vs) gg)) (ht : ∀ (s : Shared) (H : Hp) (C : Addr) (cl : List (Str × Addr)) (fp : List Addr), PTs (X.blk s H scope (compEnvC scope cl C X.env) fp) ifs (lT X.K E tt))
    (he : ∀ (s : Shared) (H : Hp) (C : Addr) (cl : List (Str × Addr)) (fp : List Addr), PE (X.blk s H scope (compEnvC scope cl C X.env) fp) elt (lE X.K E te)) (hs : ∀ x, foldedSetIterable iter X.env x = pure x := by intro _; rfl) (hvs : own.map (·.2) = vs := by rfl) :
    PS X (.Assign [.Name y py] (.ListComp elt [⟨tg, iter, ifs, 0⟩] scope pos) spos) (lS X.K E (dSet i (dLcM wi gg tt te (vs)))) := by
  subst hvs
  exact PS.imp (ps_setLc hc hN hy hyl hsw hi ok hg ht he hs) fun D σ H ⟨Γ, M, DD, g, m, q, k⟩ =>
  lcM_imp ⟨Γ, M, _, _, g, m, q, fun d M1 v H1 q1 t1 g1 r1 => k.nx _ _ _ _ q1 t1 g1 ((m.stp t1).set r1 i), k.kx m⟩
/-! two clauses -/
def lc2Go (gg : DG) (tt : DT) (wi1 : DI) (gg1 : DG) (tt1 : DT) (te : DE) (G : Mem → Prop) (Γw : Gam) (vs1 : List Nat) (A : Addr) (F : Mem → Prop) : List D → Mem → Prop
  | [], M => G M ∧ F M
  | d :: ds, M => G M ∧ gg d Γw M fun Γ1 M1 => tt Γ1 M1 (fun b M2 => if b = true then wi1 Γ1 M2 (fun es G1 M3 => lcGo gg1 tt1 te G1 (gWipe Γ1 vs1) A (lc2Go gg tt wi1 gg1 tt1 te G Γw vs1 A F ds) es M3) X0 else lc2Go gg tt wi1 gg1 tt1 te G Γw vs1 A F ds M2) X0
def dLc2 (wi : DI) (gg : DG) (tt : DT) (wi1 : DI) (gg1 : DG) (tt1 : DT) (te : DE) (vs vs1 : List Nat) : DE := fun Γ M R XR => wi Γ M (fun ds G M1 => ∀ A, M1 A = none → lc2Go gg tt wi1 gg1 tt1 te G (gWipe Γ vs) vs1 A (lcF R A) ds (mup M1 A (.lst []))) XR
theorem lc2Go_G {gg : DG} {tt : DT} {wi1 : DI} {gg1 : DG} {tt1 : DT} {te : DE} {G : Mem → Prop} {Γ : Gam} {vs1 : List Nat} {A : Addr} {F : Mem → Prop} {ds : List D} {M : Mem} (h : lc2Go gg tt wi1 gg1 tt1 te G Γ vs1 A F ds M) : G M := by
  cases ds with
  | nil => exact h.1
  | cons d ds => exact h.1
variable {tg1 iter1 : Expr} {ifs1 : List Expr} {vs1 : List Nat} {wi1 : DI} {gg1 : DG} {tt1 : DT}
theorem lc2_imp {vs : List Nat} {σ : L2.St} {H : Hp} {Q : VK} (h : lE X.K E (dLc2 wi gg tt wi1 gg1 tt1 te vs vs1) σ H Q) : tLc2 (lI X.K E wi) (lG X.K vs gg) (lT X.K E tt) (lI X.K E wi1) (lG X.K vs1 gg1) (lT X.K E tt1) (lE X.K E te) vs vs1 σ H Q := by
  obtain ⟨Γ, M, R, XR, g, m, q, k, kx⟩ := h
  refine ⟨Γ, M, _, XR, g, m, q, fun ds G M1 J H1 q1 t1 g1 w A hA => ?_, kx⟩
  have hM := g1.free hA
  have t2 : Stp M1 H1 (mup M1 A (.lst [])) (upd H1 A (.lst [])) := stp_loc hA
  have g2 : Good X.K (mup M1 A (.lst [])) (upd H1 A (.lst [])) := good_loc g1 hA ⟨[], upd_same, rfl⟩
  have m2 := (m.stp (t1.trans t2)).wipe vs
  have w := w.stp t2
  have k := k.step (t1.trans t2)
  have q := q1 A hM
  clear q1 kx g1 hM
  generalize mup M1 A (.lst []) = M2 at t2 g2 m2 w k q
  generalize upd H1 A (.lst []) = H2 at t2 g2 m2 w k ⊢
  refine ⟨fun i n H' => n = ds.length - i ∧ i ≤ ds.length ∧ ∃ M', Good X.K M' H' ∧ Stp M2 H2 M' H' ∧ lc2Go gg tt wi1 gg1 tt1 te G (gWipe Γ vs) vs1 A (lcF R A) (ds.drop i) M', ⟨ds.length, by simp, Nat.zero_le _, M2, g2, Stp.refl _ _, q⟩, ?_⟩
  rintro i n H' ⟨rfl, hi, M', g3, t3, q3⟩
  obtain ⟨w1, w2, w3⟩ := w M' H' t3 g3 (lc2Go_G q3)
  by_cases hl : i < ds.length
  · refine .inr ⟨w1 i hl, fun H'' => ∃ M'', Good X.K M'' H'' ∧ Stp M2 H2 M'' H'' ∧ lc2Go gg tt wi1 gg1 tt1 te G (gWipe Γ vs) vs1 A (lcF R A) (ds.drop (i + 1)) M'', fun H'' hn => ⟨ds.length - (i + 1), by omega, rfl, hl, hn⟩, fun x H'' y => ?_⟩
    obtain ⟨t4, g4, r4⟩ := w3 i x H'' ds[i] (List.getElem?_eq_getElem hl) y
    rw [List.drop_eq_getElem_cons hl] at q3
    refine ⟨ds[i], gWipe Γ vs, M', _, g4, m2.stp (t3.trans t4), r4, q3.2, fun Γ5 M5 σ5 H5 q5 t5 g5 m5 e5 => ⟨by rw [e5, wipe_wipe], ?_⟩⟩
    refine ⟨Γ5, M5, _, X0, g5, m5, q5, fun b M6 H6 q6 t6 g6 => ?_, KX0⟩
    have tt := t3.trans (t4.trans (t5.trans t6))
    cases b with
    | false => exact ⟨M6, g6, tt, q6⟩
    | true =>
      refine ⟨Γ5, M6, _, X0, g6, m5.stp t6, q6, fun es G1 M7 J1 H7 q7 t7 g7 w7 => ?_, KX0⟩
      exact lc_walk (Γ := Γ5) w7 g7 ((m5.stp (t6.trans t7)).wipe vs1) q7 fun M8 H8 f t8 g8 => ⟨M8, g8, tt.trans (t7.trans t8), f⟩
  · have e : i = ds.length := by omega
    subst e
    rw [List.drop_length] at q3
    exact .inl ⟨w2, lcF_done (k.step t3) q3.2 (Stp.refl _ _) g3⟩
theorem de_lc2 {vs : List Nat} (hc : X.calm = true) (hN : X.N.Nodup) (hi : PI X tg iter (lI X.K E wi)) (ok : BlkOk X.N X.env.scope scope own) (hv : ∀ i ∈ vs1, i ∈ vs)
    (hg : ∀ (s : Shared) (H : Hp) (C : Addr) (cl : List (Str × Addr)) (fp : List Addr), PG (X.blk s H scope (compEnvC scope cl C X.env) fp) tg (lG X.K (vs) gg)) (ht : ∀ (s : Shared) (H : Hp) (C : Addr) (cl : List (Str × Addr)) (fp : List Addr), PTs (X.blk s H scope (compEnvC scope cl C X.env) fp) ifs (lT X.K E tt))
    (hi1 : ∀ (s : Shared) (H : Hp) (C : Addr) (cl : List (Str × Addr)) (fp : List Addr), PI (X.blk s H scope (compEnvC scope cl C X.env) fp) tg1 iter1 (lI X.K E wi1))
    (hg1 : ∀ (s : Shared) (H : Hp) (C : Addr) (cl : List (Str × Addr)) (fp : List Addr), PG (X.blk s H scope (compEnvC scope cl C X.env) fp) tg1 (lG X.K vs1 gg1)) (ht1 : ∀ (s : Shared) (H : Hp) (C : Addr) (cl : List (Str × Addr)) (fp : List Addr), PTs (X.blk s H scope (compEnvC scope cl C X.env) fp) ifs1 (lT X.K E tt1))
    (he : ∀ (s : Shared) (H : Hp) (C : Addr) (cl : List (Str × Addr)) (fp : List Addr), PE (X.blk s H scope (compEnvC scope cl C X.env) fp) elt (lE X.K E te)) (hs : ∀ x, foldedSetIterable iter X.env x = pure x := by intro _; rfl) (hs1 : ∀ env x, foldedSetIterable iter1 env x = pure x := by intro _ _; rfl) (hvs : own.map (·.2) = vs := by rfl) :
    PE X (.ListComp elt [⟨tg, iter, ifs, 0⟩, ⟨tg1, iter1, ifs1, 0⟩] scope pos) (lE X.K E (dLc2 wi gg tt wi1 gg1 tt1 te (vs) vs1)) := by
  subst hvs
  exact PE.imp (pe_lc2 hc hN hi ok hv hg ht hi1 hg1 ht1 he hs hs1) fun _ _ _ => lc2_imp
theorem ds_setLc2 {vs : List Nat} {i : Nat} {y : Str} {py spos : Pos} (hc : X.calm = true) (hN : X.N.Nodup) (hy : X.N[i]? = some y) (hyl : X.env.scope.names.lookup y = some .local)
    (hsw : swapsWith (.ListComp elt [⟨tg, iter, ifs, 0⟩, ⟨tg1, iter1, ifs1, 0⟩] scope pos) (some (.Name y py)) spos.line X.env = pure true) (hi : PI X tg iter (lI X.K E wi)) (ok : BlkOk X.N X.env.scope scope own) (hv : ∀ i ∈ vs1, i ∈ vs)
    (hg : ∀ (s : Shared) (H : Hp) (C : Addr) (cl : List (Str × Addr)) (fp : List Addr), PG (X.blk s H scope (compEnvC scope cl C X.env) fp) tg (lG X.K (vs) gg)) (ht : ∀ (s : Shared) (H : Hp) (C : Addr) (cl : List (Str × Addr)) (fp : List Addr), PTs (X.blk s H scope (compEnvC scope cl C X.env) fp) ifs (lT X.K E tt))
    (hi1 : ∀ (s : Shared) (H : Hp) (C : Addr) (cl : List (Str × Addr)) (fp : List Addr), PI (X.blk s H scope (compEnvC scope cl C X.env) fp) tg1 iter1 (lI X.K E wi1))
    (hg1 : ∀ (s : Shared) (H : Hp) (C : Addr) (cl : List (Str × Addr)) (fp : List Addr), PG (X.blk s H scope (compEnvC scope cl C X.env) fp) tg1 (lG X.K vs1 gg1)) (ht1 : ∀ (s : Shared) (H : Hp) (C : Addr) (cl : List (Str × Addr)) (fp : List Addr), PTs (X.blk s H scope (compEnvC scope cl C X.env) fp) ifs1 (lT X.K E tt1))
    (he : ∀ (s : Shared) (H : Hp) (C : Addr) (cl : List (Str × Addr)) (fp : List Addr), PE (X.blk s H scope (compEnvC scope cl C X.env) fp) elt (lE X.K E te)) (hs : ∀ x, foldedSetIterable iter X.env x = pure x := by intro _; rfl) (hs1 : ∀ env x, foldedSetIterable iter1 env x = pure x := by intro _ _; rfl) (hvs : own.map (·.2) = vs := by rfl) :
    PS X (.Assign [.Name y py] (.ListComp elt [⟨tg, iter, ifs, 0⟩, ⟨tg1, iter1, ifs1, 0⟩] scope pos) spos) (lS X.K E (dSet i (dLc2 wi gg tt wi1 gg1 tt1 te (vs) vs1))) := by
  subst hvs
  exact PS.imp (ps_setLc2 hc hN hy hyl hsw hi ok hv hg ht hi1 hg1 ht1 he hs hs1) fun D σ H ⟨Γ, M, DD, g, m, q, k⟩ =>
  lc2_imp ⟨Γ, M, _, _, g, m, q, fun d M1 v H1 q1 t1 g1 r1 => k.nx _ _ _ _ q1 t1 g1 ((m.stp t1).set r1 i), k.kx m⟩

/-! ### a def and its calls -/
abbrev DSp := List D → Mem → Pst → Xst → Prop
def lSp (K : PySem.W.Frag) (sp : DSp) : Sp := fun vs H Q E => ∃ (ds : List D) (M : Mem) (R : Pst) (XR : Xst), Good K M H ∧ Reps K M H ds vs ∧ sp ds M R XR ∧ KQ K M H R Q ∧ KX K M H XR E
def dFn (sp : DSp) (dds : List D) (wA : DA) : DE := fun Γ M R XR => wA Γ M (fun ds M1 => sp (ds ++ dds) M1 R X0) XR
def startG (N : List Str) (ds : List D) : Gam := ds.map some ++ List.replicate (N.length - ds.length) none
def retTo (R : Pst) (XR : Xst) : DEnds where
  nx := fun _ M => ∃ M', Sub M' M ∧ R .non M'
  rt := fun d M => ∃ M', Sub M' M ∧ R d M'
  bk := fun _ _ => False
  ct := fun _ _ => False
  xr := fun e _ M => ∃ M', Sub M' M ∧ XR e M'
theorem mat_start {K : PySem.W.Frag} {M : Mem} {H : Hp} (k : Nat) : ∀ {ds : List D} {vs : List V}, Reps K M H ds vs → Mat K M H (ds.map some ++ List.replicate k none) (vs.map some ++ List.replicate k none)
  | [], vs, h => by
    have h : vs = [] := h
    subst h
    induction k with
    | zero => rfl
    | succ k ih => exact ⟨_, _, rfl, ih⟩
  | d :: ds, vs, h => by
    obtain ⟨v, r, rfl, h1, h2⟩ := h
    exact ⟨v, _, rfl, h1, mat_start k h2⟩
variable {P : Program} {wd : World} {K : PySem.W.Frag} {mg : Str → Option Value} {base : Heap} {k : Nat} {f : Addr} {fd : FuncData} {ps : List Str} {sp : DSp} {x : Str} {p : Pos} {dds : List D} {ds : List Value}
theorem lSp_len (len : ∀ ds M R XR, sp ds M R XR → ds.length = ps.length) : ∀ vs H Q E, lSp K sp vs H Q E → vs.length = ps.length := fun vs H Q E ⟨ds, M, R, XR, g, r, q, _⟩ => by rw [← r.len]; exact len _ _ _ _ q
theorem fn0 {x qual : Str} {st : Stmt} {N : List Str} (F : Fun K x qual st f fd) (S : FnScope N ps (defScope st)) (len : ∀ ds M R XR, sp ds M R XR → ds.length = ps.length)
    (hb : ∃ wb : DS, (∀ (cdv : Value) (A : Around) (outer : List Env) (s : Shared) (H : Hp) (E : XK), Room k (A.deeper (envOfC qual (defScope st) s.heap.objs.size f cdv)) → PSs (cxOf CX0 P wd K mg base N qual (defScope st) f cdv A outer s H E).nox (defBody st) (lS K (fun _ _ _ _ => False) wb)) ∧
      ∀ ds M R, sp ds M R X0 → wb (retTo R X0) (startG N ds) M)
    (nox : ∀ ds M R XR, sp ds M R XR → sp ds M R X0) : FnOk P wd K mg base CX0 (k + 1) f fd ps (lSp K sp) := by
  obtain ⟨wb, h1, h2⟩ := hb
  refine F.ok S (lSp_len len) fun cdv A outer s H vs Q E hr ⟨ds, M, R, XR, g, r, q, kq, kx⟩ => ⟨_, h1 cdv A outer s H E hr, ?_⟩
  have hl : vs.length = ds.length := r.len.symm
  refine ⟨_, M, _, g, ?_, h2 ds M R (nox _ _ _ _ q), ?_⟩
  · unfold startG L2.start
    rw [hl]
    exact mat_start _ r
  · exact ⟨fun Γ M1 σ H1 ⟨M2, sb, q1⟩ t1 g1 m1 => kq _ _ _ _ q1 (t1.trans (stp_sub sb)) (good_sub sb g1) rfl, fun d M1 v H1 ⟨M2, sb, q1⟩ t1 g1 r1 => kq _ _ _ _ q1 (t1.trans (stp_sub sb)) (good_sub sb g1) (r1.stp (stp_sub sb)), fun _ _ _ _ h => h.elim, fun _ _ _ _ h => h.elim, fun _ _ _ _ _ _ _ ⟨_, _, h⟩ => h.elim⟩
theorem Reps.vals {M : Mem} {H : Hp} {ds es : List D} {vs ws : List V} (h : Reps K M H ds vs) (h2 : Reps K M H es ws) : Reps K M H (ds ++ es) (vs ++ ws) := h.append h2
theorem fn_imp {dvs : List V} {σ : L2.St} {H : Hp} {Q : VK} (hdd : ∀ M H, Reps X.K M H dds dvs) (h : lE X.K E (dFn sp dds wA) σ H Q) : tCall (lSp X.K sp) dvs E0 (lA X.K E wA) σ H Q := by
  obtain ⟨Γ, M, R, XR, g, m, q, k, kx⟩ := h
  exact ⟨Γ, M, _, XR, g, m, q, fun ds M1 vs H1 q1 t1 g1 r1 => ⟨_, M1, R, X0, g1, r1.append (hdd _ _), q1, k.step t1, KX0⟩, kx⟩
theorem de_call (F : FnOk X.prog X.w X.K X.mg X.base CX0 k f fd ps (lSp X.K sp)) (hr : Room k X.A) (hg : Gl X x) (hm : X.mg x = some (.ref f)) (hk : PySem.W.keepIn X.K (.ref f) = true) (hb : Binds X.K fd ps [])
    (ha : PA X (e :: es) (lA X.K E wA)) (hdb : (x == ("__debug__" : Str)) = false := by decide) (he : starEach (e :: es) X.env = (false, eval e X.env) :: starEach es X.env := by rfl) (hpl : (backTo pos (starEach es X.env)).any (·.1) = false := by rfl) :
    PE X (.Call (.Name x p) (e :: es) [] pos) (lE X.K E (dFn sp [] wA)) := PE.imp (pe_call F hr hg hm hk hb .nil pass0 ha hdb he hpl) fun _ _ _ h => fn_imp (dds := []) (dvs := []) (fun _ _ => rfl) h
theorem de_call00 (F : FnOk X.prog X.w X.K X.mg X.base CX0 k f fd ps (lSp X.K sp)) (hr : Room k X.A) (hg : Gl X x) (hm : X.mg x = some (.ref f)) (hk : PySem.W.keepIn X.K (.ref f) = true) (hb : Binds X.K fd ps []) (hdb : (x == ("__debug__" : Str)) = false := by decide) :
    PE X (.Call (.Name x p) [] [] pos) (lE X.K E (dFn sp [] dNil)) := PE.imp (pe_call0 F hr hg hm hk hb .nil pass0 hdb) fun σ H Q ⟨Γ, M, R, XR, g, m, q, k, kx⟩ => ⟨[], M, R, X0, g, rfl, q, k, KX0⟩
/-- a list, a dict, an instance that no more changes -/
def dFrz (w : DE) : DE := fun Γ M R XR => w Γ M (fun d M1 => ∃ a, d = .loc a ∧ match M1 a with
  | some (.lst ds) => R (.lst ds) (mdel M1 a)
  | some (.ins C fs) => R (.obj C (fs.map (·.1)) (fs.map (·.2))) (mdel M1 a)
  | some (.dK kvs) => R (.dK (kvs.map (·.1)) (kvs.map (·.2))) (mdel M1 a)
  | some (.dT kvs) => R (.dT (kvs.map (·.1)) (kvs.map (·.2))) (mdel M1 a)
  | none => False) XR
theorem de_frz (h : PE X e (lE X.K E w)) : PE X e (lE X.K E (dFrz w)) := PE.imp h fun σ H Q ⟨Γ, M, R, XR, g, m, q, k, kx⟩ => ⟨Γ, M, _, XR, g, m, q, fun d M1 v H1 ⟨a, e, q1⟩ t1 g1 r1 => by
  subst e
  have r1 : v = .ref a := r1
  subst r1
  split at q1
  · next ds e => exact k _ _ _ _ q1 (t1.trans (stp_sub sub_del)) (good_sub sub_del g1) (freeze_lst g1 e)
  · next C fs e => exact k _ _ _ _ q1 (t1.trans (stp_sub sub_del)) (good_sub sub_del g1) (freeze_ins g1 e)
  · next kvs e => exact k _ _ _ _ q1 (t1.trans (stp_sub sub_del)) (good_sub sub_del g1) (freeze_dK g1 e)
  · next kvs e => exact k _ _ _ _ q1 (t1.trans (stp_sub sub_del)) (good_sub sub_del g1) (freeze_dT g1 e)
  · exact q1.elim, kx⟩
end
end DL
namespace DLS
open PySem PySem.Spec PyProof.Rows L2

/-- each once, as first met -/
def met (xs : List Str) : Nat → List Str
  | 0 => []
  | i + 1 => if (met xs i).any (· == xs.getD i Str.empty) = true then met xs i else met xs i ++ [xs.getD i Str.empty]
theorem met_len (xs : List Str) : ∀ i, (met xs i).length ≤ i
  | 0 => Nat.le_refl _
  | i + 1 => by
    have h := met_len xs i
    unfold met; split
    · omega
    · rw [List.length_append]; simp; omega
theorem met_any (xs : List Str) (i : Nat) (k : Str) : (met xs (i + 1)).any (· == k) = ((met xs i).any (· == k) || decide (k = xs.getD i Str.empty)) := by
  have e : ∀ a b : Str, (a == b) = decide (b = a) := fun a b => by
    by_cases h : b = a
    · subst h; simp
    · rw [decide_eq_false h]; exact beq_eq_false_iff_ne.mpr (Ne.symm h)
  show (if (met xs i).any (· == xs.getD i Str.empty) = true then met xs i else met xs i ++ [xs.getD i Str.empty]).any _ = _
  split
  · next h =>
    by_cases hk : k = xs.getD i Str.empty
    · rw [hk, h]; simp
    · rw [decide_eq_false hk, Bool.or_false]
  · rw [List.any_append]
    simp only [List.any_cons, List.any_nil, Bool.or_false]
    rw [e]
theorem met_count (xs : List Str) (i : Nat) : (met xs (i + 1)).length = if (met xs i).any (· == xs.getD i Str.empty) = true then (met xs i).length else (met xs i).length + 1 := by
  show (if (met xs i).any (· == xs.getD i Str.empty) = true then met xs i else met xs i ++ [xs.getD i Str.empty]).length = _
  split
  · rfl
  · rw [List.length_append]; rfl
theorem met_nodup {xs : List Str} (h : xs.Nodup) : ∀ i, i ≤ xs.length → met xs i = xs.take i
  | 0, _ => by simp [met]
  | i + 1, hi => by
    have ih := met_nodup h i (by omega)
    unfold met
    have hl : i < xs.length := hi
    have eg : xs.getD i Str.empty = xs[i] := by simp [List.getD, hl]
    rw [ih, eg, if_neg, List.take_add_one, List.getElem?_eq_getElem hl]
    · rfl
    · intro q
      rw [List.any_eq_true] at q
      obtain ⟨x, hx, q⟩ := q
      have q : x = xs[i] := by simpa using q
      subst q
      obtain ⟨j, hj, ej⟩ := List.mem_iff_getElem.mp hx
      rw [List.length_take] at hj
      rw [List.getElem_take] at ej
      have := (List.getElem_inj h).mp ej
      omega

section
variable {prog : Program} {w : World} {A : Around} {R : Result → Shared → Prop} {I : Addr} {fp wr : List Addr} {G : Array GenState → Array GenState → Prop} {n : Nat} {Pi : Nat → Value → Prop} {Sa : Nat → Shared → Prop}
abbrev SetM (prog : Program) (w : World) (h : Heap) (S : Addr) (ys : List Str) : Prop := h.SetOf (PySem.strKind prog w) S (fun k => ys.any (· == k)) ys.length
/-- the loop that fills the set, from turn i on -/
theorem fill (W : WalksS prog w A.in1 I fp wr G n Pi Sa) (S : Addr) (out : S ∉ fp) (xs : List Str) (room : n + 1 < scanBound) (val : ∀ i v, Pi i v → ∃ t, v = .str (xs.getD i Str.empty) t) :
    ∀ (j i : Nat) (s : Shared), i + j = n → Sa i s → SetM prog w s.heap S (met xs i) → (∀ s', Moved (S :: wr) G s s' → SetM prog w s'.heap S (met xs n) → R (.ok (.ret .none)) s') →
      codeAny (model prog w) A (.builtin "set.update.loop" ⟨[.ref S, .ref I], []⟩) R s := by
  have notw : S ∉ wr := fun q => out (W.sub _ q)
  have more : ∀ b ∈ wr, b ∈ S :: wr := fun _ => List.mem_cons_of_mem _
  have carry : ∀ {s s' : Shared} {ys : List Str}, Moved wr G s s' → SetM prog w s.heap S ys → SetM prog w s'.heap S ys := fun mv ⟨o, es, ep, t, at_, q⟩ => ⟨o, es, ep, t, mv.heap S _ notw at_, q⟩
  intro j
  induction j with
  | zero =>
    intro i s e hst hS done
    obtain rfl : i = n := by omega
    refine codeAny_builtin PyProof.Rows.F.entry_set_update_loop ?_ ; rw [Around.under_plainId PyProof.Rows.F.plain_set_update_loop _] ; show wpAny _ A.in1 (pyNext (.ref I) >>= _) _ _ s
    exact wpAny_bind (W.done s _ _ hst fun s' mv => wpAny_pure (done s' (mv.mono more) (carry mv hS)))
  | succ j ih =>
    intro i s e hst hS done
    have lt : i < n := by omega
    refine codeAny_builtin PyProof.Rows.F.entry_set_update_loop ?_ ; rw [Around.under_plainId PyProof.Rows.F.plain_set_update_loop _] ; show wpAny _ A.in1 (pyNext (.ref I) >>= _) _ _ s
    refine wpAny_bind (W.item i s _ _ lt hst fun v s' hP hst' mv => ?_)
    obtain ⟨t, rfl⟩ := val i v hP
    show wpAny _ A.in1 (holding [Value.str (xs.getD i Str.empty) t] (setAdd S (.str (xs.getD i Str.empty) t)) >>= _) _ _ s'
    refine wpAny_bind (wpAny_holding ?_)
    unfold setAdd
    refine wpAny_holding (wpAny_bind ((PySem.strKind prog w).pyHash (k := xs.getD i Str.empty) (strKind_is _ _ _ _) ?_))
    have hS1 : SetM prog w s'.heap S (met xs i) := carry mv hS
    have room' : (met xs i).length + 1 < scanBound := by have := met_len xs i; omega
    refine wpAny_setAddHashed_of (knd := PySem.strKind prog w) (s := { s' with toks := s'.toks + 1 }) (strKind_is _ _ _ _) rfl hS1 room' fun h' sb S2 => ?_
    have S3 : SetM prog w h' S (met xs (i + 1)) := PyProof.Rows.SetOf_congr S2 (fun k => (met_any xs i k).symm) (met_count xs i).symm
    refine wpAny_pure ⟨plainId_quiet PyProof.Rows.F.plain_set_update_loop _, ih (i + 1) _ (by omega) (W.frame _ s' _ _ hst' (Nat.le_succ _) fun b hb o q => ?_) S3 fun s'' mv2 S4 => ?_⟩
    · rw [sb.2 b (fun z => out (by rw [← z]; exact hb))]; exact q
    · refine done s'' (Moved.trans W.gtrans ((mv.mono more).then_heap (Nat.le_succ _) fun b o hb q => ?_) mv2) S4
      rw [sb.2 b (fun z => hb (by rw [z]; exact List.mem_cons_self))]; exact q
end
section
variable {prog : Program} {w : World} {A : Around} {E : Value → Shared → Prop} {s : Shared}
abbrev nset (led : Bool) : Obj := { cls := .type "set", dict := none, data := .set #[] 0 (.fresh 0 0 led) }
set_option maxHeartbeats 3200000 in
theorem call_set_strs {l : Addr} {its : Array Value} {xs : List Str} {Q : Value → Shared → Prop} (hh : A.handled = none) (hl : s.heap.IsList l its) (hi : StrsAre its.toList xs) (room : its.size + 1 < scanBound)
    (h : ∀ (h' : Heap) (tk : Nat), SetM prog w h' s.heap.objs.size (met xs its.size) → (∀ b o, b < s.heap.objs.size → s.heap.get? b = some o → h'.get? b = some o) → Q (.ref s.heap.objs.size) { s with heap := h', toks := tk }) :
    wpAny (model prog w) A (call (.type "set") [.ref l]) Q E s := by
  have cs := PySem.F.called_set
  obtain ⟨c, tl, hmro⟩ := cs.mro
  have h1 := cs.made; have h2 := cs.sub; have h3 := cs.notType; have h4 := cs.canCreate
  have h5 := PySem.F.typeCall_set_1 (.ref l)
  refine wpAny_call (codeAny_of_tree ?_) ; show wpAny _ _ (callAny (.type "set") _) _ _ _ ; refine wpAny_pure ⟨Code.quiet_builtin _ (by decide +kernel), codeAny_builtin PySem.F.entry_type_call ?_⟩ ; rw [Around.under_plain (weight_type_call_type "set" [.ref l] []) rfl]
  repeat (any_goals (first | assumption | wp_step))
  refine codeAny_mono (code_set_new_1 (.ref l) (E := E) (Q₁ := fun obj s₁ => ∃ led : Bool, obj = .ref s.heap.objs.size ∧ s₁ = { s with heap := s.heap.push (nset led) }) fun led => ⟨led, rfl, rfl⟩) fun r s₁ hr => ?_
  match r, hr with
  | .error e, hr => exact hr
  | .ok (.ret obj), hr =>
    obtain ⟨led, rfl, rfl⟩ := hr
    have atS : (s.heap.push (nset led)).get? s.heap.objs.size = some (nset led) := Heap.get?_push_size _ rfl
    have isT : Shared.TypeIs { s with heap := s.heap.push (nset led) } (.ref s.heap.objs.size) "set" := ⟨_, atS, rfl⟩
    have k1 := cs.init.lookup
    have k2 := cs.init.bind (.ref s.heap.objs.size)
    repeat (any_goals (first | assumption | wp_step))
    refine codeAny_mono (codeAny_call_builtin (R := wants (fun r s₂ => r = .none ∧ ∃ h' tk, s₂ = { s with heap := h', toks := tk } ∧ SetM prog w h' s.heap.objs.size (met xs its.size) ∧
      (∀ b o, b < s.heap.objs.size → s.heap.get? b = some o → h'.get? b = some o)) E) cs.init.plain PySem.F.entry_set_init (check_set_init_1 isT ?_)) fun r₂ s₂ hr₂ => ?_
    · obtain ⟨⟨oc, od, odt, osl⟩, hol, hcl, nl, hdl⟩ := hl
      simp only at hcl hdl
      subst hcl hdl
      have isL : (s.heap.push (nset led)).IsList l its := ⟨_, Heap.get?_push_of_some _ hol, rfl, nl, rfl⟩
      have hol' := Heap.get?_push_of_some (nset led) hol
      have n1 := PySem.F.sub_list_set; have n2 := PySem.F.sub_list_frozenset
      have n3 : (Value.type "list" == Value.type "dict") = false := by decide
      unfold Builtin.«set.__init__» noKeywords Builtin.Frozenset.updateFrom
      generalize hPI : pyIter = PI
      wp_walk
      subst hPI
      refine wpAny_pyIter_list isL ?_ ; refine wpAny_bind (wpAny_runValue ?_)
      have lS : l < s.heap.objs.size := Heap.lt_size hol
      have h3' : A.in1.in1.in1.handled = none := by simp [hh]
      have sz : (s.heap.push (nset led)).objs.size = s.heap.objs.size + 1 := Heap.size_push _ _
      have apart : l ≠ (s.heap.push (nset led)).objs.size := by rw [sz]; exact Nat.ne_of_lt (Nat.lt_succ_of_lt lS)
      have out : s.heap.objs.size ∉ [(s.heap.push (nset led)).objs.size, l] := by
        rw [sz]; simp only [List.mem_cons, List.not_mem_nil, or_false, not_or]
        exact ⟨Nat.ne_of_lt (Nat.lt_succ_self _), Nat.ne_of_gt lS⟩
      have val : ∀ (i : Nat) (v : Value), its[i]? = some v → ∃ t, v = .str (xs.getD i Str.empty) t := fun i v hv => SS.strs_at hi i v (by rw [Array.getElem?_toList]; exact hv)
      refine fill ((Walks.list h3' _ l apart its).toS) s.heap.objs.size out xs room val its.size 0 _ (Nat.zero_add _) ⟨⟨_, Heap.get?_push_size _ rfl, rfl, rfl⟩, isL.push _⟩ ?_ ?_
      · refine PyProof.Rows.SetOf_congr ((PyProof.Rows.setObjOf_fresh (knd := PySem.strKind prog w) led).setOf (Heap.get?_push_of_some _ atS) (by unfold scanBound; omega)) (fun _ => rfl) rfl
      · rintro ⟨h', g', d', tk', os'⟩ mv S9
        obtain rfl : g' = s.gens := mv.gens
        obtain rfl : d' = s.drawn := mv.drawn
        obtain rfl : os' = s.os := mv.os
        show wpAny _ _ _ _ _ _
        refine wpAny_pure (show wpAny _ _ (ret Value.none) _ _ _ from wpAny_pure ⟨rfl, h', tk', rfl, S9, fun b o hb q => ?_⟩)
        have d1 : b ≠ s.heap.objs.size := Nat.ne_of_lt hb
        have d2 : b ≠ (s.heap.push (nset led)).objs.size := by rw [sz]; exact Nat.ne_of_lt (Nat.lt_succ_of_lt hb)
        exact mv.heap b o (by simp only [List.mem_cons, List.not_mem_nil, or_false, not_or]; exact ⟨d1, d2⟩) (Heap.get?_push_of_some _ (Heap.get?_push_of_some _ q))
    · match r₂, hr₂ with
      | .error e, hr₂ => exact hr₂
      | .ok (.ret r), hr₂ =>
        obtain ⟨rfl, h', tk, rfl, S9, kept⟩ := hr₂
        repeat (any_goals (first | assumption | wp_step))
        exact h _ _ S9 kept
end
end DLS
namespace DL
open PySem PySem.Spec PyProof.Rows L2
theorem bt_len : bootBuiltins "len" = some (.builtin "len") := by decide +kernel
theorem bt_abs : bootBuiltins "abs" = some (.builtin "abs") := by decide +kernel
theorem bt_sum : bootBuiltins "sum" = some (.builtin "sum") := by decide +kernel
theorem bt_any : bootBuiltins "any" = some (.builtin "any") := by decide +kernel
theorem bt_all : bootBuiltins "all" = some (.builtin "all") := by decide +kernel
theorem bt_max : bootBuiltins "max" = some (.builtin "max") := by decide +kernel
theorem bt_min : bootBuiltins "min" = some (.builtin "min") := by decide +kernel
theorem bt_sorted : bootBuiltins "sorted" = some (.builtin "sorted") := by decide +kernel
theorem bt_isinstance : bootBuiltins "isinstance" = some (.builtin "isinstance") := by decide +kernel
theorem bt_int : bootBuiltins "int" = some (.type "int") := by decide +kernel
theorem bt_tuple : bootBuiltins "tuple" = some (.type "tuple") := by decide +kernel
theorem bt_list : bootBuiltins "list" = some (.type "list") := by decide +kernel
theorem bt_str : bootBuiltins "str" = some (.type "str") := by decide +kernel
theorem bt_bool : bootBuiltins "bool" = some (.type "bool") := by decide +kernel
theorem bt_set : bootBuiltins "set" = some (.type "set") := by decide +kernel

section
variable {X : Cx} {E : L2.St → XK} {a b c e o tg : Expr} {es : List Expr} {wa wb wc w wo wd wk wv : DE} {wA : DA} {pos : Pos} {u t : DT}
/-! ### a list that changes -/
def dAppend (wo wa : DE) : DE := fun Γ M R XR => wo Γ M (fun x M1 => ∃ p ds0, x = .loc p ∧ M1 p = some (.lst ds0) ∧ wa Γ M1 (fun y M2 => ∃ ds, M2 p = some (.lst ds) ∧ ds.length < sizeLine ∧ R .non (mup M2 p (.lst (ds ++ [y])))) XR) XR
theorem Reps.one_mk {K : PySem.W.Frag} {M : Mem} {H : Hp} {d : D} {v : V} (h : Rep K M H d v) : Reps K M H [d] [v] := ⟨v, [], rfl, h, rfl⟩
theorem append_imp {σ : L2.St} {H : Hp} {Q : VK} (h : lE X.K E (dAppend wo wa) σ H Q) : tBM X.K "list" rAppend (lE X.K E wo) (tCons (lE X.K E wa) tNil) σ H Q := by
  obtain ⟨Γ, M, R, XR, g, m, q, k, kx⟩ := h
  refine ⟨Γ, M, _, XR, g, m, q, fun x M1 vx H1 ⟨p, ds0, ex, hp, q1⟩ s1 g1 r1 => ?_, kx⟩
  subst ex
  have r1 : vx = .ref p := r1
  subst r1
  obtain ⟨us0, hH, _⟩ := g1 _ _ hp
  refine ⟨.inl ⟨rfl, _, SqL.of hH⟩, Γ, M1, _, XR, g1, m.stp s1, q1, fun y M2 vy H2 ⟨ds, hp2, hl, q2⟩ s2 g2 r2 => ?_, kx.step s1⟩
  obtain ⟨us, hH2, ru⟩ := g2 _ _ hp2
  exact ⟨p, us, vy, rfl, rfl, hH2, by rw [← ru.len]; exact hl, k _ _ _ _ q2 (s1.trans (s2.trans (stp_put hp2))) (good_put g2 hp2 ⟨_, upd_same, (ru.append (Reps.one_mk r2)).stp (stp_put hp2)⟩) rfl⟩
theorem de_append {apos cpos : Pos} (ho : PE X o (lE X.K E wo)) (ha : PE X a (lE X.K E wa)) (hbase : attributeBase o "append" X.env (eval o X.env) = eval o X.env := by rfl)
    (hfew : ((backTo cpos (starEach [a] X.env)).all (fun x => !x.1) && (backToKw cpos (keywordEach [] X.env)).all (fun x => x.1.isSome) && decide ([a].length + ([] : List Keyword).length + (if ([] : List Keyword).isEmpty then 0 else 1) < 30)) = true := by rfl)
    (hline : (apos.endLine == cpos.line) = true := by rfl) (hs : starEach [a] X.env = (false, eval a X.env) :: starEach [] X.env := by rfl) (hplain : (backTo cpos (starEach [] X.env)).any (·.1) = false := by rfl) :
    PE X (.Call (.Attribute o "append" apos) [a] [] cpos) (lE X.K E (dAppend wo wa)) :=
  PE.imp (pe_bm PySem.F.plainAttrs_list PySem.F.slot_list_append PySem.F.type_list_append mt_append ho (pa_cons ha pa_nil hs) hbase hfew hline hs hplain) fun _ _ _ => append_imp
/-! ### dicts -/
variable {κ : Type} [DecidableEq κ]
def look {α : Type} (kvs : List (κ × α)) (k : κ) : Option α := (kvs.find? fun kv => decide (kv.1 = k)).map (·.2)
def put {α : Type} (kvs : List (κ × α)) (k : κ) (v : α) : List (κ × α) :=
  if (kvs.any fun kv => decide (kv.1 = k)) = true then kvs.map (fun kv => if kv.1 = k then (kv.1, v) else kv) else kvs ++ [(k, v)]
def keyK : D → Option Key
  | .int i => some (.inl i)
  | .str x => some (.inr x)
  | _ => none
def keyT : D → Option (List Key)
  | .tup ds => ds.mapM keyK
  | _ => none
/-- a dict's pairs, keys ints and texts; keys rows of such -/
def pairsK (M : Mem) : D → Option (List (Key × D))
  | .dK ks ds => some (ks.zip ds)
  | .loc a => match M a with
    | some (.dK kvs) => some kvs
    | _ => none
  | _ => none
def pairsT (M : Mem) : D → Option (List (List Key × D))
  | .dT ks ds => some (ks.zip ds)
  | .loc a => match M a with
    | some (.dT kvs) => some kvs
    | _ => none
  | _ => none
/-- what a dict has at a key: none where there is no such dict or key -/
def dget (M : Mem) (x y : D) : Option (Option D) :=
  match pairsT M x with
  | some kvs => (keyT y).map (look kvs)
  | none => match pairsK M x with
    | some kvs => (keyK y).map (look kvs)
    | none => none
def dput (M : Mem) (x y v : D) : Option Mem :=
  match x with
  | .loc a => match M a with
    | some (.dT kvs) => if kvs.length < sizeLine then (keyT y).map fun k => mup M a (.dT (put kvs k v)) else none
    | some (.dK kvs) => if kvs.length < sizeLine then (keyK y).map fun k => mup M a (.dK (put kvs k v)) else none
    | _ => none
  | _ => none
theorem keyK_rep {K : PySem.W.Frag} {M : Mem} {H : Hp} {y : D} {k : Key} {v : V} (e : keyK y = some k) (r : Rep K M H y v) : v = kV k := by
  cases y <;> simp [keyK] at e
  · subst e; exact r
  · subst e; exact r
theorem keyT_reps {K : PySem.W.Frag} {M : Mem} {H : Hp} : ∀ {ds : List D} {k : List Key} {vs : List V}, ds.mapM keyK = some k → Reps K M H ds vs → vs = k.map kV
  | [], k, vs, e, r => by
    have r : vs = [] := r
    simp at e
    rw [r, e]; rfl
  | d :: ds, k, vs, e, r => by
    obtain ⟨v, t, rfl, r1, r2⟩ := r
    rw [List.mapM_cons] at e
    cases h1 : keyK d with
    | none => rw [h1] at e; cases e
    | some k1 =>
      cases h2 : ds.mapM keyK with
      | none => rw [h1, h2] at e; cases e
      | some k2 =>
        rw [h1, h2] at e
        have e : some (k1 :: k2) = some k := e
        cases e
        rw [keyK_rep h1 r1, keyT_reps h2 r2]; rfl
theorem keyT_rep {K : PySem.W.Frag} {M : Mem} {H : Hp} {y : D} {k : List Key} {v : V} (e : keyT y = some k) (r : Rep K M H y v) : ∃ b, v = .ref b ∧ H b = some (.tup (k.map kV)) := by
  cases y <;> simp only [keyT] at e <;> try cases e
  obtain ⟨b, vs, rfl, hb, _, rr⟩ := r
  exact ⟨b, rfl, by rw [hb, keyT_reps e rr]⟩
theorem look_rep {K : PySem.W.Frag} {M : Mem} {H : Hp} (k : κ) : ∀ {kvs : List (κ × D)} {vs : List V}, Reps K M H (kvs.map (·.2)) vs → (look kvs k = none ∧ valV ((kvs.map (·.1)).zip vs) k = none) ∨ ∃ d v, look kvs k = some d ∧ valV ((kvs.map (·.1)).zip vs) k = some v ∧ Rep K M H d v
  | [], vs, r => .inl ⟨rfl, rfl⟩
  | (j, d) :: kvs, vs, r => by
    obtain ⟨v, t, rfl, r1, r2⟩ := r
    by_cases e : j = k
    · exact .inr ⟨d, v, by simp [look, e], valV_pos (p := (j, v)) e, r1⟩
    · have e1 : look ((j, d) :: kvs) k = look kvs k := by simp [look, e]
      have e2 : valV (((j :: kvs.map (·.1))).zip (v :: t)) k = valV ((kvs.map (·.1)).zip t) k := valV_neg (p := (j, v)) e
      rw [e1]
      show (look kvs k = none ∧ valV (((j :: kvs.map (·.1))).zip (v :: t)) k = none) ∨ ∃ d' v', look kvs k = some d' ∧ valV (((j :: kvs.map (·.1))).zip (v :: t)) k = some v' ∧ Rep K M H d' v'
      rw [e2]
      exact look_rep k r2
theorem pairsT_at {K : PySem.W.Frag} {M : Mem} {H : Hp} {x : D} {kvs : List (List Key × D)} {v : V} (g : Good K M H) (e : pairsT M x = some kvs) (r : Rep K M H x v) : ∃ a vs, v = .ref a ∧ H a = some (.dT ((kvs.map (·.1)).zip vs)) ∧ Reps K M H (kvs.map (·.2)) vs := by
  cases x <;> simp only [pairsT] at e <;> try cases e
  case dT ks ds =>
    obtain ⟨a, vs, rfl, ha, m, l, rr⟩ := r
    exact ⟨a, vs, rfl, by rw [ha, List.map_fst_zip (by omega)], by rw [List.map_snd_zip (by omega)]; exact rr⟩
  case loc a =>
    split at e
    · next q =>
      cases e
      obtain ⟨vs, ha, rr⟩ := g _ _ q
      exact ⟨a, vs, r, ha, rr⟩
    · cases e
theorem pairsK_at {K : PySem.W.Frag} {M : Mem} {H : Hp} {x : D} {kvs : List (Key × D)} {v : V} (g : Good K M H) (e : pairsK M x = some kvs) (r : Rep K M H x v) : ∃ a vs, v = .ref a ∧ H a = some (.dK ((kvs.map (·.1)).zip vs)) ∧ Reps K M H (kvs.map (·.2)) vs := by
  cases x <;> simp only [pairsK] at e <;> try cases e
  case dK ks ds =>
    obtain ⟨a, vs, rfl, ha, m, l, rr⟩ := r
    exact ⟨a, vs, rfl, by rw [ha, List.map_fst_zip (by omega)], by rw [List.map_snd_zip (by omega)]; exact rr⟩
  case loc a =>
    split at e
    · next q =>
      cases e
      obtain ⟨vs, ha, rr⟩ := g _ _ q
      exact ⟨a, vs, r, ha, rr⟩
    · cases e
theorem dget_at {K : PySem.W.Frag} {M : Mem} {H : Hp} {x y : D} {r : Option D} {vx vy : V} (g : Good K M H) (e : dget M x y = some r) (rx : Rep K M H x vx) (ry : Rep K M H y vy) :
    ∃ a o, vx = .ref a ∧ DGet H a vy o ∧ o.isSome = r.isSome ∧ ∀ d, r = some d → ∃ v, o = some v ∧ Rep K M H d v := by
  unfold dget at e
  split at e
  · next kvs e1 =>
    cases e2 : keyT y with
    | none => rw [e2] at e; cases e
    | some k =>
      rw [e2] at e
      have e : some (look kvs k) = some r := e
      cases e
      obtain ⟨a, vs, rfl, ha, rr⟩ := pairsT_at g e1 rx
      obtain ⟨b, rfl, hb⟩ := keyT_rep e2 ry
      refine ⟨a, _, rfl, DGet.t ha hb, ?_⟩
      rcases look_rep k rr with ⟨h1, h2⟩ | ⟨d, v, h1, h2, h3⟩
      · rw [h1, h2]; exact ⟨rfl, fun _ z => by cases z⟩
      · rw [h1, h2]; exact ⟨rfl, fun _ z => by cases z; exact ⟨v, rfl, h3⟩⟩
  · split at e
    · next kvs e1 =>
      cases e2 : keyK y with
      | none => rw [e2] at e; cases e
      | some k =>
        rw [e2] at e
        have e : some (look kvs k) = some r := e
        cases e
        obtain ⟨a, vs, rfl, ha, rr⟩ := pairsK_at g e1 rx
        have hk := keyK_rep e2 ry
        subst hk
        refine ⟨a, _, rfl, DGet.k ha, ?_⟩
        rcases look_rep k rr with ⟨h1, h2⟩ | ⟨d, v, h1, h2, h3⟩
        · rw [h1, h2]; exact ⟨rfl, fun _ z => by cases z⟩
        · rw [h1, h2]; exact ⟨rfl, fun _ z => by cases z; exact ⟨v, rfl, h3⟩⟩
    · cases e
theorem any_zip (k : κ) : ∀ {kvs : List (κ × D)} {vs : List V}, (kvs.map (·.2)).length = vs.length → (((kvs.map (·.1)).zip vs).any fun kv => decide (kv.1 = k)) = (kvs.any fun kv => decide (kv.1 = k))
  | [], [], _ => rfl
  | [], _ :: _, h => by simp at h
  | _ :: _, [], h => by simp at h
  | (j, d) :: kvs, v :: vs, h => by
    have ih := any_zip k (kvs := kvs) (vs := vs) (by simpa using h)
    rw [List.map_cons, List.zip_cons_cons, List.any_cons, List.any_cons, ih]
theorem put_rep {K : PySem.W.Frag} {M : Mem} {H : Hp} (k : κ) {d : D} {v : V} (r : Rep K M H d v) {kvs : List (κ × D)} {vs : List V} (rr : Reps K M H (kvs.map (·.2)) vs) : ∃ ws, putK ((kvs.map (·.1)).zip vs) k v = ((put kvs k d).map (·.1)).zip ws ∧ Reps K M H ((put kvs k d).map (·.2)) ws := by
  unfold putK put
  rw [any_zip k rr.len]
  split
  · have go : ∀ {kvs : List (κ × D)} {vs : List V}, Reps K M H (kvs.map (·.2)) vs → ∃ ws, (((kvs.map (·.1)).zip vs).map fun kv => if kv.1 = k then (kv.1, v) else kv) = ((kvs.map fun kv => if kv.1 = k then (kv.1, d) else kv).map (·.1)).zip ws ∧ Reps K M H ((kvs.map fun kv => if kv.1 = k then (kv.1, d) else kv).map (·.2)) ws := by
      intro kvs
      induction kvs with
      | nil => intro vs q; exact ⟨[], rfl, rfl⟩
      | cons p kvs ih =>
        intro vs q
        obtain ⟨j, x⟩ := p
        obtain ⟨y, t, rfl, r1, r2⟩ := q
        obtain ⟨ws, e, rw'⟩ := ih r2
        by_cases h : j = k
        · refine ⟨v :: ws, ?_, ?_⟩
          · simp only [List.map_cons, List.zip_cons_cons, h, if_true] at e ⊢
            rw [e]
          · simp only [List.map_cons, h, if_true]
            exact ⟨v, ws, rfl, r, rw'⟩
        · refine ⟨y :: ws, ?_, ?_⟩
          · simp only [List.map_cons, List.zip_cons_cons, h, if_false] at e ⊢
            rw [e]
          · simp only [List.map_cons, h, if_false]
            exact ⟨y, ws, rfl, r1, rw'⟩
    exact go rr
  · refine ⟨vs ++ [v], ?_, ?_⟩
    · rw [List.map_append, List.zip_append (by simpa using rr.len)]; rfl
    · rw [List.map_append]; exact rr.append (Reps.one_mk r)
def dDNewT : DE := fun _ M R _ => ∀ p, M p = none → R (.loc p) (mup M p (.dT []))
theorem de_dnewT : PE X (.Dict [] [] pos) (lE X.K E dDNewT) := PE.imp pe_dnewT fun σ H Q ⟨Γ, M, R, XR, g, m, q, k, kx⟩ p hp => k _ _ _ _ (q p (g.free hp)) (stp_loc hp) (good_loc g hp ⟨[], upd_same, rfl⟩) rfl
def dDNewK : DE := fun _ M R _ => ∀ p, M p = none → R (.loc p) (mup M p (.dK []))
theorem de_dnewK : PE X (.Dict [] [] pos) (lE X.K E dDNewK) := PE.imp pe_dnewK fun σ H Q ⟨Γ, M, R, XR, g, m, q, k, kx⟩ p hp => k _ _ _ _ (q p (g.free hp)) (stp_loc hp) (good_loc g hp ⟨[], upd_same, rfl⟩) rfl
def dDIn (wk wd : DE) : DE := fun Γ M R XR => wk Γ M (fun y M1 => wd Γ M1 (fun x M2 => ∃ o, dget M2 x y = some o ∧ R (.bl o.isSome) M2) XR) XR
def dDNotIn (wk wd : DE) : DE := fun Γ M R XR => wk Γ M (fun y M1 => wd Γ M1 (fun x M2 => ∃ o, dget M2 x y = some o ∧ R (.bl (!o.isSome)) M2) XR) XR
def dDGet (wd wk : DE) : DE := fun Γ M R XR => wd Γ M (fun x M1 => wk Γ M1 (fun y M2 => ∃ d, dget M2 x y = some (some d) ∧ R d M2) XR) XR
theorem din_imp {σ : L2.St} {H : Hp} {Q : VK} (h : lE X.K E (dDIn wk wd) σ H Q) : tDIn (lE X.K E wk) (lE X.K E wd) σ H Q := by
  obtain ⟨Γ, M, R, XR, g, m, q, k, kx⟩ := h
  refine ⟨Γ, M, _, XR, g, m, q, fun y M1 vy H1 q1 s1 g1 r1 => ⟨Γ, M1, _, XR, g1, m.stp s1, q1, fun x M2 vx H2 ⟨o, e, q2⟩ s2 g2 r2 => ?_, kx.step s1⟩, kx⟩
  obtain ⟨a, o', rfl, hg, e2, _⟩ := dget_at g2 e r2 (r1.stp s2)
  exact ⟨a, o', rfl, hg, by rw [e2]; exact k _ _ _ _ q2 (s1.trans s2) g2 rfl⟩
theorem dnotin_imp {σ : L2.St} {H : Hp} {Q : VK} (h : lE X.K E (dDNotIn wk wd) σ H Q) : tDNotIn (lE X.K E wk) (lE X.K E wd) σ H Q := by
  obtain ⟨Γ, M, R, XR, g, m, q, k, kx⟩ := h
  refine ⟨Γ, M, _, XR, g, m, q, fun y M1 vy H1 q1 s1 g1 r1 => ⟨Γ, M1, _, XR, g1, m.stp s1, q1, fun x M2 vx H2 ⟨o, e, q2⟩ s2 g2 r2 => ?_, kx.step s1⟩, kx⟩
  obtain ⟨a, o', rfl, hg, e2, _⟩ := dget_at g2 e r2 (r1.stp s2)
  exact ⟨a, o', rfl, hg, by rw [e2]; exact k _ _ _ _ q2 (s1.trans s2) g2 rfl⟩
theorem de_din (hu : X.A.units + 1 < cLine) (hi : PE X a (lE X.K E wk)) (ho : PE X o (lE X.K E wd)) (h1 : behindInMarks .In o = false := by rfl) : PE X (.Compare a [.In] [o] pos) (lE X.K E (dDIn wk wd)) := PE.imp (pe_cmp (pc_din hu hi ho) h1) fun _ _ _ => din_imp
theorem de_dnotin (hu : X.A.units + 1 < cLine) (hi : PE X a (lE X.K E wk)) (ho : PE X o (lE X.K E wd)) (h1 : behindInMarks .NotIn o = false := by rfl) : PE X (.Compare a [.NotIn] [o] pos) (lE X.K E (dDNotIn wk wd)) := PE.imp (pe_cmp (pc_dnotin hu hi ho) h1) fun _ _ _ => dnotin_imp
theorem dt_din (hu : X.A.units + 1 < cLine) (hi : PE X a (lE X.K E wk)) (ho : PE X o (lE X.K E wd)) (h1 : behindInMarks .In o = false := by rfl) : PT X (.Compare a [.In] [o] pos) (lT X.K E (dB (dDIn wk wd))) := PT.imp (pt_cmp (pc_din hu hi ho) h1) fun σ H Q ⟨Γ, M, R, XR, g, m, q, k, kx⟩ => din_imp ⟨Γ, M, _, XR, g, m, q, fun d M' v H' ⟨b, e, q1⟩ s1 g1 r1 => by
    subst e
    have r1 : v = .bl b := r1
    exact ⟨b, r1, k _ _ _ q1 s1 g1⟩, kx⟩
theorem dt_dnotin (hu : X.A.units + 1 < cLine) (hi : PE X a (lE X.K E wk)) (ho : PE X o (lE X.K E wd)) (h1 : behindInMarks .NotIn o = false := by rfl) : PT X (.Compare a [.NotIn] [o] pos) (lT X.K E (dB (dDNotIn wk wd))) := PT.imp (pt_cmp (pc_dnotin hu hi ho) h1) fun σ H Q ⟨Γ, M, R, XR, g, m, q, k, kx⟩ => dnotin_imp ⟨Γ, M, _, XR, g, m, q, fun d M' v H' ⟨b, e, q1⟩ s1 g1 r1 => by
    subst e
    have r1 : v = .bl b := r1
    exact ⟨b, r1, k _ _ _ q1 s1 g1⟩, kx⟩
theorem de_dget (hu : X.A.units + 1 < cLine) (ho : PE X o (lE X.K E wd)) (hi : PE X a (lE X.K E wk)) (hs : NoSl a) : PE X (.Subscript o a pos) (lE X.K E (dDGet wd wk)) := PE.imp (pe_dget hu ho hi hs) fun σ H Q ⟨Γ, M, R, XR, g, m, q, k, kx⟩ =>
  ⟨Γ, M, _, XR, g, m, q, fun x M1 vx H1 q1 s1 g1 r1 => ⟨Γ, M1, _, XR, g1, m.stp s1, q1, fun y M2 vy H2 ⟨d, e, q2⟩ s2 g2 r2 => by
    obtain ⟨a, o', rfl, hg, e2, e3⟩ := dget_at g2 e (r1.stp s2) r2
    obtain ⟨v, rfl, rv⟩ := e3 d rfl
    exact ⟨a, v, rfl, hg, k _ _ _ _ q2 (s1.trans s2) g2 rv⟩, kx.step s1⟩, kx⟩
def dDPut (wd wk wv : DE) : DS := fun DD Γ M => wv Γ M (fun v M1 => wd Γ M1 (fun x M2 => wk Γ M2 (fun y M3 => ∃ M4, dput M3 x y v = some M4 ∧ DD.nx Γ M4) fun e M3 => DD.xr e Γ M3) fun e M3 => DD.xr e Γ M3) fun e M3 => DD.xr e Γ M3
theorem ds_dput {pos' : Pos} (hu : X.A.units + 1 < cLine) (ho : PE X o (lE X.K E wd)) (hi : PE X a (lE X.K E wk)) (hv : PE X b (lE X.K E wv)) (hs : swapsWith b (some (.Subscript o a pos')) pos.line X.env = pure false) :
    PS X (.Assign [.Subscript o a pos'] b pos) (lS X.K E (dDPut wd wk wv)) := PS.imp (ps_dput hu ho hi hv hs) fun D σ H ⟨Γ, M, DD, g, m, q, k⟩ => by
  refine ⟨Γ, M, _, _, g, m, q, fun v M1 vv H1 q1 s1 g1 r1 => ⟨Γ, M1, _, _, g1, m.stp s1, q1, fun x M2 vx H2 q2 s2 g2 r2 => ⟨Γ, M2, _, _, g2, m.stp (s1.trans s2), q2, fun y M3 vy H3 ⟨M4, e, q3⟩ s3 g3 r3 => ?_, (k.step (s1.trans s2)).kx (m.stp (s1.trans s2))⟩, (k.step s1).kx (m.stp s1)⟩, k.kx m⟩
  have st := s1.trans (s2.trans s3)
  obtain ⟨p, rfl⟩ : ∃ p, x = .loc p := by cases x <;> first | exact ⟨_, rfl⟩ | (simp [dput] at e)
  simp only [dput] at e
  · have r2 : vx = .ref p := r2
    subst r2
    split at e
    · next kvs hp =>
      split at e
      · next hl =>
        cases e2 : keyT y with
        | none => rw [e2] at e; cases e
        | some kk =>
          rw [e2] at e
          have e : some (mup M3 p (.dT (put kvs kk v))) = some M4 := e
          cases e
          obtain ⟨vs, hH, rr⟩ := g3 _ _ hp
          obtain ⟨b, rfl, hb⟩ := keyT_rep e2 r3
          obtain ⟨ws, e4, rw4⟩ := put_rep kk (r1.stp (s2.trans s3)) rr
          refine ⟨p, _, rfl, .inr ⟨_, kk, b, hH, rfl, hb, by rw [zip_len (by simp) rr.len, List.length_map]; exact hl, rfl⟩, ?_⟩
          rw [e4]
          exact k.nx _ _ _ _ q3 (st.trans (stp_put hp)) (good_put g3 hp ⟨ws, upd_same, rw4.stp (stp_put hp)⟩) (m.stp (st.trans (stp_put hp)))
      · cases e
    · next kvs hp =>
      split at e
      · next hl =>
        cases e2 : keyK y with
        | none => rw [e2] at e; cases e
        | some kk =>
          rw [e2] at e
          have e : some (mup M3 p (.dK (put kvs kk v))) = some M4 := e
          cases e
          obtain ⟨vs, hH, rr⟩ := g3 _ _ hp
          have hk := keyK_rep e2 r3
          subst hk
          obtain ⟨ws, e4, rw4⟩ := put_rep kk (r1.stp (s2.trans s3)) rr
          refine ⟨p, _, rfl, .inl ⟨_, kk, hH, rfl, by rw [zip_len (by simp) rr.len, List.length_map]; exact hl, rfl⟩, ?_⟩
          rw [e4]
          exact k.nx _ _ _ _ q3 (st.trans (stp_put hp)) (good_put g3 hp ⟨ws, upd_same, rw4.stp (stp_put hp)⟩) (m.stp (st.trans (stp_put hp)))
      · cases e
    · cases e
end
end DL
namespace DL
open PySem PySem.Spec PyProof.Rows L2
section
variable {X : Cx} {E : L2.St → XK} {a b c e o tg : Expr} {es : List Expr} {wa wb wc w wo wd wk wv : DE} {wA : DA} {pos : Pos} {u t : DT}
/-- the built-in class of data -/
def tyD (M : Mem) : D → Option String
  | .non => some "NoneType"
  | .bl _ => some "bool"
  | .int _ => some "int"
  | .str _ => some "str"
  | .tup _ => some "tuple"
  | .lst _ => some "list"
  | .dK _ _ => some "dict"
  | .dT _ _ => some "dict"
  | .loc a => match M a with
    | some (.lst _) => some "list"
    | some (.dK _) => some "dict"
    | some (.dT _) => some "dict"
    | _ => none
  | _ => none
theorem tyD_ok {K : PySem.W.Frag} {M : Mem} {H : Hp} {d : D} {v : V} {T : String} (g : Good K M H) (r : Rep K M H d v) (h : tyD M d = some T) : TyX K H v (.type T) := by
  cases d <;> simp only [tyD] at h <;> try cases h
  case non => have r : v = _ := r; subst r; exact .base .non
  case bl => have r : v = _ := r; subst r; exact .base (.bl _)
  case int => have r : v = _ := r; subst r; exact .base (.int _)
  case str => have r : v = _ := r; subst r; exact .base (.str _)
  case tup => obtain ⟨a, vs, rfl, ha, _⟩ := r; exact .base (.tup ha)
  case lst => obtain ⟨a, vs, rfl, ha, _⟩ := r; exact .base (.lst ha)
  case dK => obtain ⟨a, vs, rfl, ha, _⟩ := r; exact .base (.dK ha)
  case dT => obtain ⟨a, vs, rfl, ha, _⟩ := r; exact .base (.dT ha)
  case loc a =>
    have r : v = .ref a := r
    subst r
    split at h
    · next q => cases h; obtain ⟨vs, ha, _⟩ := g _ _ q; exact .base (.lst ha)
    · next q => cases h; obtain ⟨vs, ha, _⟩ := g _ _ q; exact .base (.dK ha)
    · next q => cases h; obtain ⟨vs, ha, _⟩ := g _ _ q; exact .base (.dT ha)
    · cases h
/-- isinstance(x, T), T a built-in class -/
def dIsi (T : String) (w : DE) : DE := fun Γ M R XR => w Γ M (fun d M1 => ∃ t b, tyD M1 d = some t ∧ kitB t T = some b ∧ R (.bl b) M1) XR
theorem de_isi {T : String} {x : Str} {p p2 : Pos} (hg : Gl X "isinstance") (hm : X.mg "isinstance" = none) (hg2 : Gl X x) (hm2 : X.mg x = none) (hv : bootBuiltins x = some (.type T)) (ha : PE X a (lE X.K E w))
    (hn : x ≠ "__name__" := by decide) (hd : (x == ("__debug__" : Str)) = false := by decide)
    (he : starEach [a, .Name x p2] X.env = (false, eval a X.env) :: starEach [.Name x p2] X.env := by rfl) (he2 : starEach [.Name x p2] X.env = (false, eval (.Name x p2) X.env) :: starEach [] X.env := by rfl) (hpl : (backTo pos (starEach [.Name x p2] X.env)).any (·.1) = false := by rfl) :
    PE X (.Call (.Name "isinstance" p) [a, .Name x p2] [] pos) (lE X.K E (dIsi T w)) :=
  PE.imp (pe_callB call_isi hg hm bt_isinstance (pa_cons ha (pa_cons (pe_bltn (v := .ty T) hg2 hm2 hv rfl hn hd) pa_nil he2) he) (by decide) (by decide) he hpl) fun σ H Q ⟨Γ, M, R, XR, g, m, q, k, kx⟩ =>
    ⟨Γ, M, _, XR, g, m, q, fun d M1 v H1 ⟨t, b, e1, e2, q1⟩ s1 g1 r1 => ⟨v, .ty T, _, _, b, rfl, .ty T, tyD_ok g1 r1 e1, kit_ty e2, k _ _ _ _ q1 s1 g1 rfl⟩, kx⟩
/-- len(set(xs)) of texts that are all unlike -/
def dLenSet (w : DE) : DE := fun Γ M R XR => w Γ M (fun d M1 => ∃ xs : List Str, getL M1 d = some (xs.map D.str) ∧ xs.length ≤ 4000 ∧ R (.int ((DLS.met xs xs.length).length : Nat)) M1) XR
theorem de_lenSet {p p2 q : Pos} (hc : X.calm = true) (hg : Gl X "len") (hm : X.mg "len" = none) (hg2 : Gl X "set") (hm2 : X.mg "set" = none) (ha : PE X a (lE X.K E w)) (na : starEach [a] X.env = (false, eval a X.env) :: starEach [] X.env := by rfl) :
    PE X (.Call (.Name "len" p) [.Call (.Name "set" p2) [a] [] q] [] pos) (lE X.K E (dLenSet w)) := by
  refine ⟨fun pins s σ H Q I ⟨Γ, M, R, XR, g, m, h, k, kx⟩ => ?_⟩
  refine Call_ (ld_blt I hg hm PySem.boot_len (PyProof.Rows.callWith_builtin1 (PyProof.Rows.args_cons ?_ rfl) rfl rfl))
  refine Call_ (ld_blt I hg2 hm2 bt_set (PyProof.Rows.callWith_type1 (PyProof.Rows.args_cons (thn (ha.run pins s σ H (fun v H1 => ∃ (xs : List Str) (l : Addr), v = .ref l ∧ SqL X.K H1 l (xs.map V.str) ∧ xs.length ≤ 4000 ∧ Q (.int ((DLS.met xs xs.length).length : Nat)) H1) I
    ⟨Γ, M, _, XR, g, m, h, fun d M1 v H1 ⟨xs, e, hl, q1⟩ s1 g1 r1 => ?_, kx⟩) fun v s1 ⟨x, H1, I1, r1, xs, l, e, hq, hl, q1⟩ => PyProof.Rows.args_nil ?_) na) na rfl))
  · obtain ⟨a, vs, rfl, hS, rr⟩ := (getL_like e).sq g1 r1
    have ev := rr.strs
    subst ev
    exact ⟨xs, a, rfl, hS, hl, k _ _ _ _ q1 s1 g1 rfl⟩
  · subst e
    cases r1
    obtain ⟨its, r, pl, hz⟩ := I1.list hq
    have sz : its.toArray.size = xs.length := by rw [List.size_toArray, ← r.length, List.length_map]
    refine DLS.call_set_strs (I1.ok.hd hc) pl.isList (by simpa using r.strs) (by rw [sz]; unfold scanBound; omega) fun h' tk hS hk => PyProof.Rows.args_nil ?_
    rw [sz] at hS
    have hm := DLS.met_len xs xs.length
    obtain ⟨o, es, ep, t, ho, hex, hd, _, _, _, hf, hn⟩ := hS
    have I2 : Inv X pins σ H1 { s1 with heap := h', toks := tk } := I1.kept fun b o e => hk b o (Heap.lt_size e) e
    exact call_len_set ho hex hd hf (by rw [hn]; omega) ⟨.int _, H1, I2.tok _, ⟨_, by rw [hn]⟩, q1⟩
end
end DL
namespace DL
open PySem PySem.Spec PyProof.Rows L2

/-! ### how readings are shown -/
theorem rt_here {R : Pst} {d : D} {M : Mem} (h : R d M) : (retTo R X0).rt d M := ⟨M, Sub.refl M, h⟩
theorem rt_sub {R : Pst} {d : D} {M M' : Mem} (s : Sub M' M) (h : R d M') : (retTo R X0).rt d M := ⟨M', s, h⟩
theorem nx_here {R : Pst} {Γ : Gam} {M : Mem} (h : R .non M) : (retTo R X0).nx Γ M := ⟨M, Sub.refl M, h⟩
/-- a loop, by what holds ahead of each turn -/
theorem for_inv {gg : DG} {b : DS} {G : Mem → Prop} {DD : DEnds} {ds : List D} {Γ : Gam} {M : Mem} (I : Nat → Gam → Mem → Prop) (h0 : I 0 Γ M) (hG : ∀ i Γ M, I i Γ M → G M)
    (hs : ∀ i d Γ M (N : Gam → Mem → Prop), ds[i]? = some d → I i Γ M → (∀ Γ' M', I (i + 1) Γ' M' → N Γ' M') → gg d Γ M fun Γ1 M1 => b { DD with nx := N, ct := N, bk := DD.nx } Γ1 M1) (hd : ∀ Γ M, I ds.length Γ M → DD.nx Γ M) : forGo gg b G DD ds Γ M := by
  have key : ∀ (es : List D) (i : Nat) (Γ : Gam) (M : Mem), ds.drop i = es → I i Γ M → i ≤ ds.length → forGo gg b G DD es Γ M := by
    intro es
    induction es with
    | nil =>
      intro i Γ M e hi hl
      have : ds.length ≤ i := List.drop_eq_nil_iff.mp e
      have : i = ds.length := by omega
      subst this
      exact ⟨hG _ _ _ hi, hd _ _ hi⟩
    | cons d es ih =>
      intro i Γ M e hi hl
      have hlt : i < ds.length := by
        by_cases h : i < ds.length
        · exact h
        · rw [List.drop_of_length_le (by omega)] at e; cases e
      rw [List.drop_eq_getElem_cons hlt] at e
      injection e with e1 e2
      exact ⟨hG _ _ _ hi, hs i d Γ M _ (by rw [List.getElem?_eq_getElem hlt, e1]) hi fun Γ' M' h' => ih (i + 1) Γ' M' e2 h' hlt⟩
  exact key ds 0 Γ M (by simp) h0 (Nat.zero_le _)
/-- one turn of a comprehension: from the memory M' the item d gives f d and leaves the memory -/
def Gives (gg : DG) (tt : DT) (te : DE) (Γw : Gam) (M' : Mem) (d x : D) : Prop :=
  ∀ (K : Pst) (F : Mem → Prop), K x M' → gg d Γw M' fun Γ1 M1 => tt Γ1 M1 (fun b M2 => if b = true then te Γ1 M2 K X0 else F M2) X0
/-- the item is left out -/
def Skips (gg : DG) (tt : DT) (te : DE) (Γw : Gam) (M' : Mem) (d : D) : Prop :=
  ∀ (K : Pst) (F : Mem → Prop), F M' → gg d Γw M' fun Γ1 M1 => tt Γ1 M1 (fun b M2 => if b = true then te Γ1 M2 K X0 else F M2) X0
theorem sub_up {M : Mem} {A : Addr} {o : MO} (h : M A = none) : Sub M (mup M A o) := sub_new h
theorem mdel_mup {M : Mem} {A : Addr} {o : MO} (h : M A = none) : mdel (mup M A o) A = M := by
  funext b
  by_cases e : b = A
  · rw [e, mdel_same, h]
  · rw [mdel_ne e, mup_ne e]
/-- pure items -/
theorem lc_map {gg : DG} {tt : DT} {te : DE} {Γw : Gam} {ds : List D} {M : Mem} {F : Addr → Mem → Prop} (f : D → D) (hl : ds.length ≤ sizeLine) (h : ∀ d ∈ ds, ∀ M', Sub M M' → Gives gg tt te Γw M' d (f d))
    (q : ∀ A, M A = none → F A (mup M A (.lst (ds.map f)))) : ∀ A, M A = none → lcGo gg tt te (fun _ => True) Γw A (F A) ds (mup M A (.lst [])) := fun A hA => by
  have key : ∀ (es done : List D), done ++ es = ds → lcGo gg tt te (fun _ => True) Γw A (F A) es (mup M A (.lst (done.map f))) := by
    intro es
    induction es with
    | nil =>
      intro done e
      rw [List.append_nil] at e
      exact ⟨trivial, by rw [e]; exact q A hA⟩
    | cons d es ih =>
      intro done e
      refine ⟨trivial, h d (by rw [← e]; simp) _ (sub_up hA) _ _ ?_⟩
      have hz := congrArg List.length e
      rw [List.length_append, List.length_cons] at hz
      refine ⟨done.map f, mup_same, by rw [List.length_map]; omega, ?_⟩
      rw [mup_mup]
      have := ih (done ++ [d]) (by rw [← e]; simp)
      rw [List.map_append] at this
      exact this
  exact key ds [] rfl
/-- frozen: F is lcF R -/
theorem lcF_mk {R : Pst} {M : Mem} {A : Addr} {ds : List D} (h : M A = none) (q : R (.lst ds) M) : lcF R A (mup M A (.lst ds)) := ⟨ds, mup_same, by rw [mdel_mup h]; exact q⟩
/-- pure items, some left out -/
theorem lc_filter {gg : DG} {tt : DT} {te : DE} {Γw : Gam} {ds : List D} {M : Mem} {F : Addr → Mem → Prop} (p : D → Bool) (f : D → D) (hl : ds.length ≤ sizeLine)
    (h : ∀ d ∈ ds, p d = true → ∀ M', Sub M M' → Gives gg tt te Γw M' d (f d)) (h' : ∀ d ∈ ds, p d = false → ∀ M', Sub M M' → Skips gg tt te Γw M' d)
    (q : ∀ A, M A = none → F A (mup M A (.lst ((ds.filter p).map f)))) : ∀ A, M A = none → lcGo gg tt te (fun _ => True) Γw A (F A) ds (mup M A (.lst [])) := fun A hA => by
  have key : ∀ (es done : List D), done ++ es = ds → lcGo gg tt te (fun _ => True) Γw A (F A) es (mup M A (.lst ((done.filter p).map f))) := by
    intro es
    induction es with
    | nil =>
      intro done e
      rw [List.append_nil] at e
      exact ⟨trivial, by rw [e]; exact q A hA⟩
    | cons d es ih =>
      intro done e
      have hm : d ∈ ds := by rw [← e]; simp
      have hz := congrArg List.length e
      rw [List.length_append, List.length_cons] at hz
      have hf := List.length_filter_le p done
      have nxt := ih (done ++ [d]) (by rw [← e]; simp)
      rw [List.filter_append] at nxt
      cases hp : p d with
      | true =>
        refine ⟨trivial, h d hm hp _ (sub_up hA) _ _ ⟨_, mup_same, by rw [List.length_map]; omega, ?_⟩⟩
        rw [mup_mup]
        simp only [List.filter_cons, hp, if_true, List.filter_nil, List.map_append, List.map_cons, List.map_nil] at nxt
        exact nxt
      | false =>
        refine ⟨trivial, h' d hm hp _ (sub_up hA) _ _ ?_⟩
        simp only [List.filter_cons, hp, Bool.false_eq_true, if_false, List.filter_nil, List.append_nil] at nxt
        exact nxt
  exact key ds [] rfl
/-- two clauses of pure items -/
theorem lc_map2 {gg : DG} {tt : DT} {wi1 : DI} {gg1 : DG} {tt1 : DT} {te : DE} {Γw : Gam} {vs1 : List Nat} {ds : List D} {M : Mem} {F : Addr → Mem → Prop} (f : D → List D) (hl : (ds.flatMap f).length ≤ sizeLine)
    (h : ∀ d ∈ ds, ∀ M', Sub M M' → ∀ (F' : Mem → Prop), gg d Γw M' fun Γ1 M1 => tt Γ1 M1 (fun b M2 => if b = true then wi1 Γ1 M2 (fun es G1 M3 => M3 = M' ∧ ∃ g : D → D, es.map g = f d ∧ G1 = (fun _ => True) ∧ ∀ e ∈ es, ∀ M'', Sub M M'' → Gives gg1 tt1 te (gWipe Γ1 vs1) M'' e (g e)) X0 else F' M2) X0)
    (mono : ∀ Γ M (R R' : List D → (Mem → Prop) → Mem → Prop), (∀ a b c, R a b c → R' a b c) → wi1 Γ M R X0 → wi1 Γ M R' X0)
    (monot : ∀ d Γ M (R R' : Gam → Mem → Prop), (∀ a b, R a b → R' a b) → gg d Γ M R → gg d Γ M R') (monoT : ∀ Γ M (R R' : Bool → Mem → Prop), (∀ a b, R a b → R' a b) → tt Γ M R X0 → tt Γ M R' X0)
    (q : ∀ A, M A = none → F A (mup M A (.lst (ds.flatMap f)))) : ∀ A, M A = none → lc2Go gg tt wi1 gg1 tt1 te (fun _ => True) Γw vs1 A (F A) ds (mup M A (.lst [])) := fun A hA => by
  have key : ∀ (es done : List D), done ++ es = ds → lc2Go gg tt wi1 gg1 tt1 te (fun _ => True) Γw vs1 A (F A) es (mup M A (.lst (done.flatMap f))) := by
    intro es
    induction es with
    | nil =>
      intro done e
      rw [List.append_nil] at e
      exact ⟨trivial, by rw [e]; exact q A hA⟩
    | cons d es ih =>
      intro done e
      have hm : d ∈ ds := by rw [← e]; simp
      have nxt := ih (done ++ [d]) (by rw [← e]; simp)
      rw [List.flatMap_append] at nxt
      simp only [List.flatMap_cons, List.flatMap_nil, List.append_nil] at nxt
      refine ⟨trivial, monot _ _ _ _ _ (fun Γ1 M1 hh => ?_) (h d hm _ (sub_up hA) fun M2 => lc2Go gg tt wi1 gg1 tt1 te (fun _ => True) Γw vs1 A (F A) es M2)⟩
      refine monoT _ _ _ _ (fun b M2 hh => ?_) hh
      cases b with
      | false => exact hh
      | true =>
        refine mono _ _ _ _ (fun xs G1 M3 hh => ?_) hh
        obtain ⟨rfl, g, eg, rfl, hgv⟩ := hh
        have hz : (done.flatMap f).length + (f d).length ≤ (ds.flatMap f).length := by
          rw [← e, List.flatMap_append, List.flatMap_cons]
          simp only [List.length_append]; omega
        rw [← eg] at nxt hz
        have inner : ∀ (ys dn : List D), dn ++ ys = xs → lcGo gg1 tt1 te (fun _ => True) (gWipe Γ1 vs1) A (lc2Go gg tt wi1 gg1 tt1 te (fun _ => True) Γw vs1 A (F A) es) ys (mup M A (.lst (done.flatMap f ++ dn.map g))) := by
          intro ys
          induction ys with
          | nil =>
            intro dn e'
            rw [List.append_nil] at e'
            exact ⟨trivial, by rw [e']; exact nxt⟩
          | cons y ys ihy =>
            intro dn e'
            have hzz := congrArg List.length e'
            rw [List.length_append, List.length_cons] at hzz
            rw [List.length_map] at hz
            refine ⟨trivial, hgv y (by rw [← e']; simp) _ (sub_up hA) _ _ ⟨_, mup_same, by rw [List.length_append, List.length_map]; omega, ?_⟩⟩
            rw [mup_mup, List.append_assoc]
            have := ihy (dn ++ [y]) (by rw [← e']; simp)
            rw [List.map_append] at this
            exact this
        have := inner xs [] rfl
        rw [List.map_nil, List.append_nil] at this
        exact this
  exact key ds [] rfl

/-! ranges -/
theorem rgs_mem {lo : Int} {n : Nat} {d : D} (h : d ∈ rgs lo n) : ∃ i, i < n ∧ d = .int (lo + (i : Int)) := by
  obtain ⟨i, hi, e⟩ := List.mem_iff_getElem.mp h
  obtain ⟨h1, h2⟩ := rgs_get (by rw [List.getElem?_eq_getElem hi, e] : (rgs lo n)[i]? = some d)
  exact ⟨i, h1, h2⟩
theorem rgs_map {lo : Int} {n : Nat} (f : D → D) : (rgs lo n).map f = (List.range n).map fun (i : Nat) => f (.int (lo + (i : Int))) := by
  unfold rgs; rw [List.map_map]; rfl
def onI (f : Nat → D) : D → D
  | .int i => f i.toNat
  | d => d
theorem lc_rg {gg : DG} {tt : DT} {te : DE} {Γw : Gam} {n : Nat} {m : Int} {M : Mem} {F : Addr → Mem → Prop} (f : Nat → D) (e : m = (n : Int)) (hl : n ≤ 100000) (h : ∀ i, i < n → ∀ M', Sub M M' → Gives gg tt te Γw M' (.int (i : Int)) (f i))
    (q : ∀ A, M A = none → F A (mup M A (.lst ((List.range n).map f)))) : ∀ A, M A = none → lcGo gg tt te (fun _ => True) Γw A (F A) (rgs 0 m.toNat) (mup M A (.lst [])) := by
  have e1 : m.toNat = n := by omega
  rw [e1]
  refine lc_map (onI f) (by rw [rgs_len]; exact Nat.le_trans hl (by decide)) (fun d hd M' sb => ?_) ?_
  · obtain ⟨i, hi, rfl⟩ := rgs_mem hd
    have := h i hi M' sb
    simp only [Int.zero_add]
    exact this
  · have e2 : (rgs 0 n).map (onI f) = (List.range n).map f := by
      rw [rgs_map]
      apply List.map_congr_left
      intro i _
      show f (0 + (i : Int)).toNat = f i
      rw [Int.zero_add]; rfl
    rw [e2]; exact q
theorem for_rg {gg : DG} {b : DS} {G : Mem → Prop} {DD : DEnds} {n : Nat} {m : Int} {Γ : Gam} {M : Mem} (I : Nat → Gam → Mem → Prop) (e : m = (n : Int)) (h0 : I 0 Γ M) (hG : ∀ i Γ M, I i Γ M → G M)
    (hs : ∀ i Γ M (N : Gam → Mem → Prop), i < n → I i Γ M → (∀ Γ' M', I (i + 1) Γ' M' → N Γ' M') → gg (.int (i : Int)) Γ M fun Γ1 M1 => b { DD with nx := N, ct := N, bk := DD.nx } Γ1 M1) (hd : ∀ Γ M, I n Γ M → DD.nx Γ M) : forGo gg b G DD (rgs 0 m.toNat) Γ M := by
  have e1 : m.toNat = n := by omega
  rw [e1]
  refine for_inv I h0 hG (fun i d Γ M N hi hI hN => ?_) (by rw [rgs_len]; exact hd)
  obtain ⟨h1, rfl⟩ := rgs_get hi
  rw [Int.zero_add]
  exact hs i Γ M N h1 hI hN

/-- a list that grows on -/
theorem lc_grow {gg : DG} {tt : DT} {te : DE} {Γw : Gam} {n : Nat} {m : Int} {M : Mem} {A : Addr} {N : Mem → Prop} {acc : List D} (f : Nat → D) (e : m = (n : Int)) (hA : M A = none) (hl : acc.length + n ≤ 100000)
    (h : ∀ i, i < n → ∀ M', Sub M M' → Gives gg tt te Γw M' (.int (i : Int)) (f i)) (q : N (mup M A (.lst (acc ++ (List.range n).map f)))) : lcGo gg tt te (fun _ => True) Γw A N (rgs 0 m.toNat) (mup M A (.lst acc)) := by
  have e1 : m.toNat = n := by omega
  rw [e1]
  have key : ∀ (k j : Nat), j + k = n → lcGo gg tt te (fun _ => True) Γw A N ((rgs 0 n).drop j) (mup M A (.lst (acc ++ (List.range j).map f))) := by
    intro k
    induction k with
    | zero =>
      intro j e
      have e : j = n := by omega
      subst e
      rw [List.drop_of_length_le (by rw [rgs_len]; omega)]
      exact ⟨trivial, q⟩
    | succ k ih =>
      intro j e
      have hj : j < (rgs 0 n).length := by rw [rgs_len]; omega
      have hx : (rgs 0 n)[j] = .int (j : Int) := by simp [rgs]
      rw [List.drop_eq_getElem_cons hj, hx]
      refine ⟨trivial, h j (by omega) _ (sub_up hA) _ _ ⟨_, mup_same, ?_, ?_⟩⟩
      · rw [List.length_append, List.length_map, List.length_range]
        exact Nat.lt_of_le_of_lt (show _ ≤ 100000 by omega) (by decide)
      · have := ih (j + 1) (by omega)
        rw [List.range_succ, List.map_append, ← List.append_assoc] at this
        rw [mup_mup]
        exact this
  have := key n 0 (by omega)
  simp only [List.drop_zero, List.range_zero, List.map_nil, List.append_nil] at this
  exact this
/-- two clauses, the first over a range -/
theorem lc2_rg {gg : DG} {tt : DT} {wi1 : DI} {gg1 : DG} {tt1 : DT} {te : DE} {Γw : Gam} {vs1 : List Nat} {A : Addr} {F : Mem → Prop} {n : Nat} {m : Int} (P : Nat → Mem) (e : m = (n : Int))
    (hs : ∀ i, i < n → ∀ (N : Mem → Prop), N (P (i + 1)) → gg (.int (i : Int)) Γw (P i) fun Γ1 M1 => tt Γ1 M1 (fun b M2 => if b = true then wi1 Γ1 M2 (fun es G1 M3 => lcGo gg1 tt1 te G1 (gWipe Γ1 vs1) A N es M3) X0 else N M2) X0)
    (hd : F (P n)) : lc2Go gg tt wi1 gg1 tt1 te (fun _ => True) Γw vs1 A F (rgs 0 m.toNat) (P 0) := by
  have e1 : m.toNat = n := by omega
  rw [e1]
  have key : ∀ (k j : Nat), j + k = n → lc2Go gg tt wi1 gg1 tt1 te (fun _ => True) Γw vs1 A F ((rgs 0 n).drop j) (P j) := by
    intro k
    induction k with
    | zero =>
      intro j e
      have e : j = n := by omega
      subst e
      rw [List.drop_of_length_le (by rw [rgs_len]; omega)]
      exact ⟨trivial, hd⟩
    | succ k ih =>
      intro j e
      have hj : j < (rgs 0 n).length := by rw [rgs_len]; omega
      have hx : (rgs 0 n)[j] = .int (j : Int) := by simp [rgs]
      rw [List.drop_eq_getElem_cons hj, hx]
      exact ⟨trivial, hs j (by omega) _ (ih (j + 1) (by omega))⟩
  have := key n 0 (by omega)
  rw [List.drop_zero] at this
  exact this

/-! ### draws -/
structure Tape where
  ns : List Int
  p : Nat
  c : Int
  s : Int
def tobj (t : Tape) : MO := .lst [.lst (t.ns.map D.int), .int t.p, .int t.c, .int t.s]
/-- M' is M, but for the tape at a -/
def Tt (a : Addr) (M M' : Mem) : Prop := ∃ t, M' = mup M a (tobj t)
theorem Tt.refl {a : Addr} {M : Mem} {t : Tape} (h : M a = some (tobj t)) : Tt a M M := ⟨t, (mup_self h).symm⟩
theorem Tt.at {a : Addr} {M M' : Mem} (h : Tt a M M') : ∃ t, M' a = some (tobj t) := by
  obtain ⟨t, rfl⟩ := h
  exact ⟨t, mup_same⟩
theorem Tt.put {a : Addr} {M M' : Mem} (h : Tt a M M') (t : Tape) : Tt a M (mup M' a (tobj t)) := by
  obtain ⟨t', rfl⟩ := h
  exact ⟨t, mup_mup⟩
theorem Tt.trans {a : Addr} {M M1 M2 : Mem} (h : Tt a M M1) (h2 : Tt a M1 M2) : Tt a M M2 := by
  obtain ⟨t', rfl⟩ := h2
  exact h.put t'
/-- what a draw asks and gives: a number below many, another tape -/
def spDraw : DSp
  | [.loc a, .int many], M, R, _ => (∃ t, M a = some (tobj t)) ∧ 0 < many ∧ many < 1073741824 ∧ ∀ d t', 0 ≤ d → d < many → R (.int d) (mup M a (tobj t'))
  | _, _, _, _ => False
theorem mup_comm {M : Mem} {a b : Addr} {o u : MO} (h : a ≠ b) : mup (mup M a o) b u = mup (mup M b u) a o := by
  funext x
  by_cases e : x = b
  · subst e; rw [mup_same, mup_ne (Ne.symm h), mup_same]
  · rw [mup_ne e]
    by_cases e2 : x = a
    · subst e2; rw [mup_same, mup_same]
    · rw [mup_ne e2, mup_ne e2, mup_ne e]
/-- items each of which draws -/
theorem lc_draws {gg : DG} {tt : DT} {te : DE} {Γw : Gam} {ds : List D} {M : Mem} {a : Addr} {F : Addr → Mem → Prop} (P : D → D → Prop) (ht : ∃ t, M a = some (tobj t)) (hl : ds.length ≤ sizeLine)
    (h : ∀ d ∈ ds, ∀ M', Sub (mdel M a) M' → (∃ t, M' a = some (tobj t)) → ∀ (K : Pst) (F : Mem → Prop), (∀ x t', P d x → K x (mup M' a (tobj t'))) → gg d Γw M' fun Γ1 M1 => tt Γ1 M1 (fun b M2 => if b = true then te Γ1 M2 K X0 else F M2) X0)
    (q : ∀ A xs t', M A = none → A ≠ a → Paired P ds xs → F A (mup (mup M a (tobj t')) A (.lst xs))) : ∀ A, M A = none → lcGo gg tt te (fun _ => True) Γw A (F A) ds (mup M A (.lst [])) := fun A hA => by
  obtain ⟨t0, ht⟩ := ht
  have ne : A ≠ a := fun z => by rw [z, ht] at hA; cases hA
  have snoc : ∀ {xs ys : List D} {x y : D}, Paired P xs ys → P x y → Paired P (xs ++ [x]) (ys ++ [y]) := fun {xs ys x y} p r => by
    induction p with
    | nil => exact .cons r .nil
    | cons s _ ih => exact .cons s ih
  have key : ∀ (es done acc : List D) (t : Tape), done ++ es = ds → Paired P done acc → lcGo gg tt te (fun _ => True) Γw A (F A) es (mup (mup M a (tobj t)) A (.lst acc)) := by
    intro es
    induction es with
    | nil =>
      intro done acc t e p
      rw [List.append_nil] at e
      exact ⟨trivial, q A acc t hA ne (by rw [← e]; exact p)⟩
    | cons d es ih =>
      intro done acc t e p
      have hz := congrArg List.length e
      rw [List.length_append, List.length_cons] at hz
      have hpl := Paired.length p
      have sb : Sub (mdel M a) (mup (mup M a (tobj t)) A (.lst acc)) := fun b o hb => by
        by_cases e1 : b = a
        · rw [e1, mdel_same] at hb; cases hb
        · rw [mdel_ne e1] at hb
          by_cases e2 : b = A
          · rw [e2, hA] at hb; cases hb
          · rw [mup_ne e2, mup_ne e1]; exact hb
      refine ⟨trivial, h d (by rw [← e]; simp) _ sb ⟨t, by rw [mup_ne (Ne.symm ne), mup_same]⟩ _ _ fun x t' px => ⟨acc, by rw [mup_ne ne, mup_same], by omega, ?_⟩⟩
      rw [mup_comm (b := a) ne, mup_mup, mup_mup]
      exact ih (done ++ [d]) (acc ++ [x]) t' (by rw [← e]; simp) (snoc p px)
  have := key ds [] [] t0 rfl .nil
  rw [mup_self ht] at this
  exact this
end DL
namespace DL
open PySem PySem.Spec PyProof.Rows L2
/-! ### one step of a reading -/
section
variable {Γ : Gam} {M : Mem} {R : Pst} {XR : Xst} {wa wb wc w wo wd wk wv : DE} {wA : DA} {t u : DT} {DD : DEnds} {s1 s2 s : DS} {d x y z : D} {RT : Bool → Mem → Prop} {RA : List D → Mem → Prop} {i j : Int} {n m : Nat}
theorem x_seq (h : s1 { DD with nx := fun Γ' M' => s2 DD Γ' M' } Γ M) : dSeq s1 s2 DD Γ M := h
theorem x_next (h : DD.nx Γ M) : dNext DD Γ M := h
theorem x_brk (h : DD.bk Γ M) : dBreak DD Γ M := h
theorem x_cont (h : DD.ct Γ M) : dCont DD Γ M := h
theorem x_set (h : w Γ M (fun d M1 => DD.nx (Γ.set n (some d)) M1) fun e M1 => DD.xr e Γ M1) : dSet n w DD Γ M := h
theorem x_ret (h : w Γ M DD.rt fun e M1 => DD.xr e Γ M1) : dRet w DD Γ M := h
theorem x_retN (h : DD.rt .non M) : dRetN DD Γ M := h
theorem x_drop (h : w Γ M (fun _ M1 => DD.nx Γ M1) fun e M1 => DD.xr e Γ M1) : dDrop w DD Γ M := h
theorem x_ifS (h : t Γ M (fun b M1 => if b = true then s1 DD Γ M1 else s2 DD Γ M1) fun e M1 => DD.xr e Γ M1) : dIfS t s1 s2 DD Γ M := h
theorem x_asg {g : DG} (h : w Γ M (fun d M1 => g d Γ M1 DD.nx) fun e M1 => DD.xr e Γ M1) : dAsg w g DD Γ M := h
theorem x_par {a b : Nat} (h : wA Γ M (fun ds M1 => ∃ d f, ds = [d, f] ∧ DD.nx ((Γ.set a (some d)).set b (some f)) M1) fun e M1 => DD.xr e Γ M1) : dPar a b wA DD Γ M := h
theorem x_par2 {P : D → D → Mem → Prop} (h : P x y M) : ∃ d f, [x, y] = [d, f] ∧ P d f M := ⟨x, y, rfl, h⟩
theorem x_for {wi : DI} {gg : DG} {b : DS} (h : wi Γ M (fun ds G M1 => forGo gg b G DD ds Γ M1) fun e M1 => DD.xr e Γ M1) : dFor wi gg b DD Γ M := h
theorem x_aug {r : O2} (hx : Γ[n]? = some (some x)) (h : w Γ M (fun d M1 => r x d M1 fun z M2 => DD.nx (Γ.set n (some z)) M2) fun e M1 => DD.xr e Γ M1) : dAug n w r DD Γ M := ⟨x, hx, h⟩
theorem x_var (hx : Γ[n]? = some (some d)) (h : R d M) : dVar n Γ M R XR := ⟨d, hx, h⟩
theorem x_c (h : R d M) : dC d Γ M R XR := h
theorem x_op {r : O2} (h : wa Γ M (fun x M1 => wb Γ M1 (fun y M2 => r x y M2 R) XR) XR) : dOp r wa wb Γ M R XR := h
theorem x_un {r : O1} (h : wa Γ M (fun x M1 => r x M1 R) XR) : dUn r wa Γ M R XR := h
theorem x_B (h : w Γ M (fun d M' => ∃ b, d = .bl b ∧ RT b M') XR) : dB w Γ M RT XR := h
theorem x_b {b : Bool} {P : Bool → Mem → Prop} (h : P b M) : ∃ c, D.bl b = .bl c ∧ P c M := ⟨b, rfl, h⟩
theorem x_chain {r r' : O2} (h : wa Γ M (fun x M1 => wb Γ M1 (fun y M2 => r x y M2 (fun z M3 => ∃ k, z = .bl k ∧ (if k = true then wc Γ M3 (fun w M4 => r' y w M4 R) XR else R (.bl false) M3))) XR) XR) : dChain r r' wa wb wc Γ M R XR := h
theorem x_and (h : t Γ M (fun c M1 => if c = true then u Γ M1 RT XR else RT false M1) XR) : dAnd t u Γ M RT XR := h
theorem x_or (h : t Γ M (fun c M1 => if c = true then RT true M1 else u Γ M1 RT XR) XR) : dOr t u Γ M RT XR := h
theorem x_not (h : t Γ M (fun c M1 => RT (!c) M1) XR) : dNot t Γ M RT XR := h
theorem x_andV (h : wa Γ M (fun x M1 => ∃ c, x = .bl c ∧ if c = true then wb Γ M1 R XR else R (.bl false) M1) XR) : dAndV wa wb Γ M R XR := h
theorem x_orV (h : wa Γ M (fun x M1 => ∃ c, x = .bl c ∧ if c = true then R (.bl true) M1 else wb Γ M1 R XR) XR) : dOrV wa wb Γ M R XR := h
theorem x_notV (h : wa Γ M (fun x M1 => ∃ c, x = .bl c ∧ R (.bl (!c)) M1) XR) : dNotV wa Γ M R XR := h
theorem x_if (h : t Γ M (fun c M1 => if c = true then wa Γ M1 R XR else wb Γ M1 R XR) XR) : dIf t wa wb Γ M R XR := h
theorem x_nil (h : RA [] M) : dNil Γ M RA XR := h
theorem x_cons (h : w Γ M (fun x M1 => wA Γ M1 (fun xs M2 => RA (x :: xs) M2) XR) XR) : dCons w wA Γ M RA XR := h
theorem x_tup (h : wA Γ M (fun ds M1 => ds.length ≤ sizeLine ∧ R (.tup ds) M1) XR) : dTup wA Γ M R XR := h
theorem x_lst (h : wA Γ M (fun ds M1 => ds.length ≤ sizeLine ∧ R (.lst ds) M1) XR) : dLst wA Γ M R XR := h
theorem x_len {P : List D → Mem → Prop} {ds : List D} (hl : ds.length ≤ sizeLine) (h : P ds M) : ds.length ≤ sizeLine ∧ P ds M := ⟨hl, h⟩
theorem x_sz {ds : List D} {P : Prop} (hl : ds.length ≤ 1000) (h : P) : ds.length ≤ sizeLine ∧ P := ⟨Nat.le_trans hl (by decide), h⟩
theorem x_lstM (h : wA Γ M (fun ds M1 => ds.length ≤ sizeLine ∧ ∀ p, M1 p = none → R (.loc p) (mup M1 p (.lst ds))) XR) : dLstM wA Γ M R XR := h
theorem x_sl {wl wh : DO} (h : w Γ M (fun x M1 => wl Γ M1 (fun l M2 => wh Γ M2 (fun h M3 => oSl x l h M3 R) XR) XR) XR) : dSl w wl wh Γ M R XR := h
theorem x_noP {RO : Option Int → Mem → Prop} (h : RO none M) : dNoP Γ M RO XR := h
theorem x_pt {RO : Option Int → Mem → Prop} (h : w Γ M (fun d M1 => ∃ i, d = .int i ∧ RO (some i) M1) XR) : dPt w Γ M RO XR := h
theorem x_i {P : Int → Mem → Prop} (h : P i M) : ∃ k, D.int i = .int k ∧ P k M := ⟨i, rfl, h⟩
theorem x_call {r : OC} (h : wA Γ M (fun ds M1 => r ds M1 R) XR) : dCall r wA Γ M R XR := h
theorem x_fn {sp : DSp} {dds : List D} (h : wA Γ M (fun ds M1 => sp (ds ++ dds) M1 R X0) XR) : dFn sp dds wA Γ M R XR := h
theorem x_range1 {RI : List D → (Mem → Prop) → Mem → Prop} (h : w Γ M (fun d M1 => ∃ n, d = .int n ∧ (-(2 ^ 62) ≤ n ∧ n < 2 ^ 62) ∧ RI (rgs 0 n.toNat) (fun _ => True) M1) XR) : dRange1 w Γ M RI XR := h
theorem x_rg {P : Int → Mem → Prop} (hb : 0 ≤ i ∧ i < 1000000000) (h : P i M) : ∃ n, D.int i = .int n ∧ (-(2 ^ 62) ≤ n ∧ n < 2 ^ 62) ∧ P n M := ⟨i, rfl, by omega, h⟩
theorem x_bd {n : Int} {P : Prop} (hb : 0 ≤ n ∧ n < 1000000000) (h : P) : (-(2 ^ 62) ≤ n ∧ n < 2 ^ 62) ∧ P := ⟨by omega, h⟩
theorem x_iter {RI : List D → (Mem → Prop) → Mem → Prop} (h : w Γ M (fun d M1 => iGo d RI M1) XR) : dIter w Γ M RI XR := h
theorem x_go_tup {RI : List D → (Mem → Prop) → Mem → Prop} {ds : List D} (h : RI ds (fun _ => True) M) : iGo (.tup ds) RI M := h
theorem x_go_lst {RI : List D → (Mem → Prop) → Mem → Prop} {ds : List D} (h : RI ds (fun _ => True) M) : iGo (.lst ds) RI M := h
theorem x_lc {wi : DI} {gg : DG} {tt : DT} {te : DE} {vs : List Nat} (h : wi Γ M (fun ds G M1 => ∀ A, M1 A = none → lcGo gg tt te G (gWipe Γ vs) A (lcF R A) ds (mup M1 A (.lst []))) XR) : dLc wi gg tt te vs Γ M R XR := h
theorem x_lcM {wi : DI} {gg : DG} {tt : DT} {te : DE} {vs : List Nat} (h : wi Γ M (fun ds G M1 => ∀ A, M1 A = none → lcGo gg tt te G (gWipe Γ vs) A (fun M2 => R (.loc A) M2) ds (mup M1 A (.lst []))) XR) : dLcM wi gg tt te vs Γ M R XR := h
theorem x_lc2 {wi : DI} {gg : DG} {tt : DT} {wi1 : DI} {gg1 : DG} {tt1 : DT} {te : DE} {vs vs1 : List Nat} (h : wi Γ M (fun ds G M1 => ∀ A, M1 A = none → lc2Go gg tt wi1 gg1 tt1 te G (gWipe Γ vs) vs1 A (lcF R A) ds (mup M1 A (.lst []))) XR) : dLc2 wi gg tt wi1 gg1 tt1 te vs vs1 Γ M R XR := h
theorem x_yes (h : RT true M) : dYes Γ M RT XR := h
theorem x_gName {RG : Gam → Mem → Prop} (h : RG (Γ.set n (some d)) M) : dgName n d Γ M RG := h
theorem x_gTup {RG : Gam → Mem → Prop} {ws : DGs} {ds : List D} (hl : ds.length = n) (h : ws ds Γ M RG) : dgTup n ws (.tup ds) Γ M RG := ⟨ds, rfl, hl, h⟩
theorem x_gTupL {RG : Gam → Mem → Prop} {ws : DGs} {ds : List D} (hl : ds.length = n) (h : ws ds Γ M RG) : dgTup n ws (.lst ds) Γ M RG := ⟨ds, rfl, hl, h⟩
theorem x_gCons {RG : Gam → Mem → Prop} {g : DG} {ws : DGs} {ds : List D} (h : g d Γ M fun Γ' M' => ws ds Γ' M' RG) : dgCons g ws (d :: ds) Γ M RG := ⟨d, ds, rfl, h⟩
theorem x_gNil {RG : Gam → Mem → Prop} (h : RG Γ M) : dgNil [] Γ M RG := ⟨rfl, h⟩
/-! operators on data -/
theorem x_add_i (h : R (.int (i + j)) M) : oAdd (.int i) (.int j) M R := h
theorem x_add_t {a b : List D} (hl : a.length + b.length ≤ sizeLine) (h : R (.tup (a ++ b)) M) : oAdd (.tup a) (.tup b) M R := ⟨hl, h⟩
theorem x_add_s {a b : Str} (hl : a.length + b.length ≤ sizeLine) (h : R (.str (a ++ b)) M) : oAdd (.str a) (.str b) M R := ⟨hl, h⟩
theorem x_add_l {a b : List D} (hl : a.length + b.length ≤ sizeLine) (h : R (.lst (a ++ b)) M) : oAdd (.lst a) (.lst b) M R := ⟨a, b, rfl, rfl, hl, h⟩
theorem x_sub (h : R (.int (i - j)) M) : oSub (.int i) (.int j) M R := h
theorem x_mul (hc : CMul i j) (h : R (.int (i * j)) M) : oMul (.int i) (.int j) M R := ⟨hc, h⟩
theorem x_mul' (hc : (-(2 ^ 64) < i ∧ i < 2 ^ 64) ∨ (-(2 ^ 64) < j ∧ j < 2 ^ 64)) (h : R (.int (i * j)) M) : oMul (.int i) (.int j) M R := ⟨hc, h⟩
theorem x_mod (hc : 0 < j) (h : R (.int (i % j)) M) : oMod (.int i) (.int j) M R := ⟨hc, h⟩
theorem x_div (hc : 0 < j ∧ j < 1073741824) (h : R (.int (i / j)) M) : oDiv (.int i) (.int j) M R := ⟨hc, h⟩
theorem x_pow (hc : 0 ≤ j ∧ j ≤ 1000000 ∧ i.natAbs < 2 ^ 64) (h : R (.int (i ^ j.toNat)) M) : oPow (.int i) (.int j) M R := ⟨hc, h⟩
theorem x_shl (hc : 0 ≤ j ∧ j ≤ 1000000 ∧ i.natAbs < 2 ^ 64) (h : R (.int (i * 2 ^ j.toNat)) M) : oShl (.int i) (.int j) M R := ⟨hc, h⟩
theorem x_shr (hc : 0 ≤ j) (h : R (.int (i / 2 ^ j.toNat)) M) : oShr (.int i) (.int j) M R := ⟨hc, h⟩
theorem x_band (h : R (.int (Builtin.bitAnd i j)) M) : oAnd (.int i) (.int j) M R := h
theorem x_bor (h : R (.int (Builtin.bitOr i j)) M) : oOr (.int i) (.int j) M R := h
theorem x_bxor (h : R (.int (Builtin.bitXor i j)) M) : oXor (.int i) (.int j) M R := h
theorem x_neg (h : R (.int (-i)) M) : oNeg (.int i) M R := h
theorem x_lt (h : R (.bl (decide (i < j))) M) : oLt (.int i) (.int j) M R := h
theorem x_le (h : R (.bl (decide (i ≤ j))) M) : oLe (.int i) (.int j) M R := h
theorem x_gt (h : R (.bl (decide (j < i))) M) : oGt (.int i) (.int j) M R := h
theorem x_ge (h : R (.bl (decide (j ≤ i))) M) : oGe (.int i) (.int j) M R := h
theorem x_eqI (h : R (.bl (i == j)) M) : oEq (.int i) (.int j) M R := ⟨rfl, rfl, rfl, rfl, h⟩
theorem x_neI (h : R (.bl (!(i == j))) M) : oNe (.int i) (.int j) M R := ⟨rfl, rfl, rfl, rfl, h⟩
theorem x_isN (h : R (.bl (isNon x)) M) : oIs x .non M R := by cases x <;> exact h
theorem x_isnotN (h : R (.bl (!isNon x)) M) : oIsNot x .non M R := by cases x <;> exact h
theorem x_isB {a b : Bool} (h : R (.bl (decide (a = b))) M) : oIs (.bl a) (.bl b) M R := h
theorem x_isnotB {a b : Bool} (h : R (.bl (!decide (a = b))) M) : oIsNot (.bl a) (.bl b) M R := h
theorem at_toNat {α : Type} {xs : List α} {i : Int} {v : α} (h0 : 0 ≤ i) (h : xs[i.toNat]? = some v) : atI xs i = some v := by
  have := atI_nat (xs := xs) (j := i.toNat) h
  rw [Int.toNat_of_nonneg h0] at this
  exact this
theorem x_ix_t {ds : List D} (h0 : 0 ≤ i) (hd : ds[i.toNat]? = some d) (h : R d M) : oIx (.tup ds) (.int i) M R := ⟨ds, d, rfl, at_toNat h0 hd, h⟩
theorem x_ix_k {ds : List D} (h0 : 0 ≤ i) (hd : ds[i.toNat]? = some d) (h : R d M) : oIx (.kt ds) (.int i) M R := ⟨ds, d, rfl, at_toNat h0 hd, h⟩
theorem x_ix_l {ds : List D} (h0 : 0 ≤ i) (hd : ds[i.toNat]? = some d) (h : R d M) : oIx (.lst ds) (.int i) M R := ⟨ds, d, rfl, at_toNat h0 hd, h⟩
theorem x_ix_loc {a : Addr} {ds : List D} (hm : M a = some (.lst ds)) (h0 : 0 ≤ i) (hd : ds[i.toNat]? = some d) (h : R d M) : oIx (.loc a) (.int i) M R := ⟨ds, d, getL_loc hm, at_toNat h0 hd, h⟩
theorem x_int (h : R (.int i) M) : oInt [.int i] M R := h
theorem x_intB {b : Bool} (h : R (.int (if b then 1 else 0)) M) : oInt [.bl b] M R := h
theorem x_abs (h : R (.int (if i < 0 then -i else i)) M) : oAbs [.int i] M R := h
theorem x_len_t {ds : List D} (h : R (.int (ds.length : Nat)) M) : oLen [.tup ds] M R := ⟨_, rfl, h⟩
theorem x_len_l {ds : List D} (h : R (.int (ds.length : Nat)) M) : oLen [.lst ds] M R := ⟨_, rfl, h⟩
theorem x_len_loc {a : Addr} {ds : List D} (hm : M a = some (.lst ds)) (h : R (.int (ds.length : Nat)) M) : oLen [.loc a] M R := ⟨_, by simp [sizeD, hm], h⟩
theorem x_tuple_t {ds : List D} (h : R (.tup ds) M) : oTuple [.tup ds] M R := ⟨_, rfl, h⟩
theorem x_tuple_l {ds : List D} (h : R (.tup ds) M) : oTuple [.lst ds] M R := ⟨_, rfl, h⟩
theorem x_tuple_loc {a : Addr} {ds : List D} (hm : M a = some (.lst ds)) (h : R (.tup ds) M) : oTuple [.loc a] M R := ⟨_, by simp [getS, getL, hm], h⟩
theorem x_list_t {ds : List D} (h : R (.lst ds) M) : oList [.tup ds] M R := ⟨_, rfl, h⟩
theorem x_list_l {ds : List D} (h : R (.lst ds) M) : oList [.lst ds] M R := ⟨_, rfl, h⟩
theorem x_list_s {ds : List D} (h : R (.lst ds) M) : oList [.sl ds] M R := ⟨_, rfl, h⟩
theorem x_str (hb : i.natAbs.log2 < 1920) (h : R (.str (toString i)) M) : oStr [.int i] M R := ⟨hb, h⟩
theorem x_sum_l {ns : List Int} {ds : List D} (e : ds = ns.map D.int) (h : R (.int ns.sum) M) : oSum [.lst ds] M R := ⟨ns, by rw [e]; rfl, h⟩
theorem x_sum_t {ns : List Int} {ds : List D} (e : ds = ns.map D.int) (h : R (.int ns.sum) M) : oSum [.tup ds] M R := ⟨ns, by rw [e]; rfl, h⟩
theorem x_sl_t {xs : List D} {lo hi : Option Int} (h : R (.tup (cutD xs lo hi)) M) : oSl (.tup xs) lo hi M R := h
theorem x_sl_l {xs : List D} {lo hi : Option Int} (h : R (.lst (cutD xs lo hi)) M) : oSl (.lst xs) lo hi M R := ⟨xs, rfl, h⟩
theorem x_sl_loc {a : Addr} {xs : List D} {lo hi : Option Int} (hm : M a = some (.lst xs)) (h : R (.lst (cutD xs lo hi)) M) : oSl (.loc a) lo hi M R := ⟨xs, getL_loc hm, h⟩
theorem x_iadd_i (h : R (.int (i + j)) M) : oIAdd (.int i) (.int j) M R := h
theorem x_iadd_l {a : Addr} {xs ys : List D} (hm : M a = some (.lst xs)) (hl : xs.length + ys.length ≤ sizeLine) (h : R (.loc a) (mup M a (.lst (xs ++ ys)))) : oIAdd (.loc a) (.lst ys) M R := ⟨xs, ys, hm, rfl, hl, h⟩
theorem x_app {a : Addr} {xs : List D} (hm : M a = some (.lst xs)) (h : wa Γ M (fun y M2 => ∃ ds, M2 a = some (.lst ds) ∧ ds.length < sizeLine ∧ R .non (mup M2 a (.lst (ds ++ [y])))) XR) (ho : wo = dVar n) (hx : Γ[n]? = some (some (.loc a))) : dAppend wo wa Γ M R XR := by
  subst ho; exact ⟨.loc a, hx, a, xs, rfl, hm, h⟩
theorem x_append (h : wo Γ M (fun x M1 => ∃ p ds0, x = .loc p ∧ M1 p = some (.lst ds0) ∧ wa Γ M1 (fun y M2 => ∃ ds, M2 p = some (.lst ds) ∧ ds.length < sizeLine ∧ R .non (mup M2 p (.lst (ds ++ [y])))) XR) XR) : dAppend wo wa Γ M R XR := h
theorem x_isi {T : String} (h : w Γ M (fun d M1 => ∃ t b, tyD M1 d = some t ∧ kitB t T = some b ∧ R (.bl b) M1) XR) : dIsi T w Γ M R XR := h
theorem x_din (h : wk Γ M (fun y M1 => wd Γ M1 (fun x M2 => ∃ o, dget M2 x y = some o ∧ R (.bl o.isSome) M2) XR) XR) : dDIn wk wd Γ M R XR := h
theorem x_dnotin (h : wk Γ M (fun y M1 => wd Γ M1 (fun x M2 => ∃ o, dget M2 x y = some o ∧ R (.bl (!o.isSome)) M2) XR) XR) : dDNotIn wk wd Γ M R XR := h
theorem x_dgetE (h : wd Γ M (fun x M1 => wk Γ M1 (fun y M2 => ∃ d, dget M2 x y = some (some d) ∧ R d M2) XR) XR) : dDGet wd wk Γ M R XR := h
theorem x_dput (h : wv Γ M (fun v M1 => wd Γ M1 (fun x M2 => wk Γ M2 (fun y M3 => ∃ M4, dput M3 x y v = some M4 ∧ DD.nx Γ M4) fun e M3 => DD.xr e Γ M3) fun e M3 => DD.xr e Γ M3) fun e M3 => DD.xr e Γ M3) : dDPut wd wk wv DD Γ M := h
theorem x_gSub {wi : DE} {RG : Gam → Mem → Prop} (h : wo Γ M (fun x M1 => wi Γ M1 (fun y M2 => ∃ p ds i j, x = .loc p ∧ y = .int i ∧ M2 p = some (.lst ds) ∧ ixN ds.length i = some j ∧ RG Γ (mup M2 p (.lst (ds.set j d)))) X0) X0) : dgSub wo wi d Γ M RG := h
theorem x_put1 {a : Addr} {ds : List D} {P : Mem → Prop} (hm : M a = some (.lst ds)) (h0 : 0 ≤ i) (hk : i.toNat < ds.length) (h : P (mup M a (.lst (ds.set i.toNat d)))) : ∃ p ds' i' j, D.loc a = .loc p ∧ D.int i = .int i' ∧ M p = some (.lst ds') ∧ ixN ds'.length i' = some j ∧ P (mup M p (.lst (ds'.set j d))) :=
  ⟨a, ds, i, i.toNat, rfl, rfl, hm, by unfold ixN; rw [if_pos h0, if_pos (by omega)], h⟩
end
/-- what holds between two statements -/
theorem cut_seq {s1 s2 : DS} {DD : DEnds} {Γ : Gam} {M : Mem} (I : Gam → Mem → Prop) (h1 : ∀ N : Gam → Mem → Prop, (∀ Γ' M', I Γ' M' → N Γ' M') → s1 { DD with nx := N } Γ M) (h2 : ∀ Γ' M', I Γ' M' → s2 DD Γ' M') : dSeq s1 s2 DD Γ M := h1 _ h2
/-! both ways of a test -/
theorem x_T {A B : Prop} (h : A) : if true = true then A else B := by rw [if_pos rfl]; exact h
theorem x_F {A B : Prop} (h : B) : if false = true then A else B := by rw [if_neg Bool.false_ne_true]; exact h
theorem x_yesD {p A B : Prop} [Decidable p] (hp : p) (h : A) : if decide p = true then A else B := by rw [if_pos (decide_eq_true hp)]; exact h
theorem x_noD {p A B : Prop} [Decidable p] (hp : ¬ p) (h : B) : if decide p = true then A else B := by rw [if_neg (by simpa using hp)]; exact h
theorem x_both {p A B : Prop} [Decidable p] (h1 : p → A) (h2 : ¬ p → B) : if decide p = true then A else B := by
  by_cases hp : p
  · exact x_yesD hp (h1 hp)
  · exact x_noD hp (h2 hp)
theorem x_bothB {b : Bool} {A B : Prop} (h1 : b = true → A) (h2 : b = false → B) : if b = true then A else B := by
  cases b with
  | true => exact x_T (h1 rfl)
  | false => exact x_F (h2 rfl)
theorem x_bothE {i j : Int} {A B : Prop} (h1 : i = j → A) (h2 : ¬ i = j → B) : if (i == j) = true then A else B := by
  by_cases hp : i = j
  · rw [if_pos (by simpa using hp)]; exact h1 hp
  · rw [if_neg (by simpa using hp)]; exact h2 hp
theorem x_bothN {i j : Int} {A B : Prop} (h1 : ¬ i = j → A) (h2 : i = j → B) : if (!(i == j)) = true then A else B := by
  by_cases hp : i = j
  · rw [if_neg (by simpa using hp)]; exact h2 hp
  · rw [if_pos (by simpa using hp)]; exact h1 hp
end DL
namespace DL
open PySem PySem.Spec PyProof.Rows L2
/-! ### data that == goes over: depth below n -/
mutual
def okD : Nat → D → Bool
  | _, .non => true
  | _, .bl _ => true
  | _, .int _ => true
  | _, .str x => PyData.strOk x
  | n, .tup ds => match n with
    | 0 => false
    | n + 1 => okDs n ds
  | n, .lst ds => match n with
    | 0 => false
    | n + 1 => okDs n ds
  | n, .sl ds => match n with
    | 0 => false
    | n + 1 => okDs n ds
  | n, .kt ds => match n with
    | 0 => false
    | n + 1 => okDs n ds
  | _, .loc _ => false
  | _, .obj _ _ _ => false
  | _, .dK _ _ => false
  | _, .dT _ _ => false
def okDs : Nat → List D → Bool
  | _, [] => true
  | n, d :: ds => okD n d && okDs n ds
end
mutual
theorem okD_all : ∀ (d : D) (n : Nat), okD n d = true → plain d = true ∧ (toP d).canLay0 = true ∧ (toP d).depth ≤ n
  | .non, n, _ => ⟨rfl, rfl, Nat.zero_le _⟩
  | .bl _, n, _ => ⟨rfl, rfl, Nat.zero_le _⟩
  | .int _, n, _ => ⟨rfl, rfl, Nat.zero_le _⟩
  | .str x, n, h => ⟨rfl, h, Nat.zero_le _⟩
  | .tup ds, 0, h => by cases h
  | .tup ds, n + 1, h => okDs_all ds n h |>.imp id fun q => ⟨q.1, Nat.succ_le_succ q.2⟩
  | .lst ds, 0, h => by cases h
  | .lst ds, n + 1, h => okDs_all ds n h |>.imp id fun q => ⟨q.1, Nat.succ_le_succ q.2⟩
  | .sl ds, 0, h => by cases h
  | .sl ds, n + 1, h => okDs_all ds n h |>.imp id fun q => ⟨q.1, Nat.succ_le_succ q.2⟩
  | .kt ds, 0, h => by cases h
  | .kt ds, n + 1, h => okDs_all ds n h |>.imp id fun q => ⟨q.1, Nat.succ_le_succ q.2⟩
  | .loc _, _, h => by cases h
  | .obj _ _ _, _, h => by cases h
  | .dK _ _, _, h => by cases h
  | .dT _ _, _, h => by cases h
theorem okDs_all : ∀ (ds : List D) (n : Nat), okDs n ds = true → plains ds = true ∧ PyData.canLayAll0 (toPs ds) = true ∧ PyData.depthAll (toPs ds) ≤ n
  | [], n, _ => ⟨rfl, rfl, Nat.zero_le _⟩
  | d :: ds, n, h => by
    have h : (okD n d && okDs n ds) = true := h
    rw [Bool.and_eq_true] at h
    obtain ⟨a1, a2, a3⟩ := okD_all d n h.1
    obtain ⟨b1, b2, b3⟩ := okDs_all ds n h.2
    refine ⟨?_, ?_, ?_⟩
    · show (plain d && plains ds) = true
      rw [a1, b1]; rfl
    · show ((toP d).canLay0 && PyData.canLayAll0 (toPs ds)) = true
      rw [a2, b2]; rfl
    · show max (toP d).depth (PyData.depthAll (toPs ds)) ≤ n
      exact Nat.max_le.mpr ⟨a3, b3⟩
end
theorem okDs_of {n : Nat} : ∀ {ds : List D}, (∀ d ∈ ds, okD n d = true) → okDs n ds = true
  | [], _ => rfl
  | d :: ds, h => by
    show (okD n d && okDs n ds) = true
    rw [h d List.mem_cons_self, okDs_of fun x hx => h x (List.mem_cons_of_mem _ hx)]; rfl
theorem okD_shaped {d : D} (h : okD 64 d = true) : plain d = true ∧ SeqAt.shaped (toP d) = true := by
  obtain ⟨a, b, c⟩ := okD_all d 64 h
  exact ⟨a, by unfold SeqAt.shaped; rw [b, decide_eq_true c]; rfl⟩
theorem rdD_ok {M : Mem} {d : D} (h : okD 64 d = true) : rdD M d = d := by cases d <;> first | rfl | (simp [okD] at h)
section
variable {M : Mem} {R : Pst} {x y : D}
theorem x_eq (hx : okD 64 x = true) (hy : okD 64 y = true) (h : R (.bl (eqb x y)) M) : oEq x y M R := by
  unfold oEq
  rw [rdD_ok hx, rdD_ok hy]
  exact ⟨(okD_shaped hx).1, (okD_shaped hy).1, (okD_shaped hx).2, (okD_shaped hy).2, h⟩
theorem x_ne (hx : okD 64 x = true) (hy : okD 64 y = true) (h : R (.bl (!eqb x y)) M) : oNe x y M R := by
  unfold oNe
  rw [rdD_ok hx, rdD_ok hy]
  exact ⟨(okD_shaped hx).1, (okD_shaped hy).1, (okD_shaped hx).2, (okD_shaped hy).2, h⟩
theorem rdD_loc {a : Addr} {ds : List D} (hm : M a = some (.lst ds)) : rdD M (.loc a) = .lst ds := by simp [rdD, hm]
theorem x_ne_loc {a : Addr} {ds : List D} (hm : M a = some (.lst ds)) (hx : okD 64 (.lst ds) = true) (hy : okD 64 y = true) (h : R (.bl (!eqb (.lst ds) y)) M) : oNe (.loc a) y M R := by
  unfold oNe
  rw [rdD_loc hm, rdD_ok hy]
  exact ⟨(okD_shaped hx).1, (okD_shaped hy).1, (okD_shaped hx).2, (okD_shaped hy).2, h⟩
end
theorem x_nT {A B : Prop} (h : B) : if (!true) = true then A else B := h
theorem x_nF {A B : Prop} (h : A) : if (!false) = true then A else B := h
theorem dget_T {M : Mem} {a : Addr} {kvs : List (List Key × D)} {k : List Key} {y : D} (hm : M a = some (.dT kvs)) (hk : keyT y = some k) : dget M (.loc a) y = some (look kvs k) := by
  have e : pairsT M (.loc a) = some kvs := by simp [pairsT, hm]
  unfold dget
  rw [e]
  show (keyT y).map (look kvs) = _
  rw [hk]; rfl
theorem dput_T {M : Mem} {a : Addr} {kvs : List (List Key × D)} {k : List Key} {y v : D} (hm : M a = some (.dT kvs)) (hk : keyT y = some k) (hl : kvs.length < sizeLine) : dput M (.loc a) y v = some (mup M a (.dT (put kvs k v))) := by
  simp only [dput, hm, if_pos hl, hk, Option.map_some]
theorem x_len_dT {M : Mem} {R : Pst} {a : Addr} {kvs : List (List Key × D)} (hm : M a = some (.dT kvs)) (h : R (.int (kvs.length : Nat)) M) : oLen [.loc a] M R := ⟨_, by simp [sizeD, hm], h⟩
theorem look_none {κ α : Type} [DecidableEq κ] {kvs : List (κ × α)} {k : κ} (h : ∀ p ∈ kvs, p.1 ≠ k) : look kvs k = none := by
  unfold look
  rw [List.find?_eq_none.mpr fun p hp => by simpa using h p hp]; rfl
theorem put_new {κ α : Type} [DecidableEq κ] {kvs : List (κ × α)} {k : κ} {v : α} (h : ∀ p ∈ kvs, p.1 ≠ k) : put kvs k v = kvs ++ [(k, v)] := by
  unfold put
  rw [if_neg]
  intro q
  rw [List.any_eq_true] at q
  obtain ⟨p, hp, e⟩ := q
  exact h p hp (by simpa using e)
/-! rows of numbers -/
def nD (ns : List Nat) : List D := ns.map fun (n : Nat) => D.int (n : Int)
theorem nD_app (a b : List Nat) : nD (a ++ b) = nD a ++ nD b := List.map_append
theorem nD_len (a : List Nat) : (nD a).length = a.length := List.length_map _
theorem nD_range (n : Nat) (f : Nat → Nat) : nD ((List.range n).map f) = (List.range n).map fun k => D.int ((f k : Nat) : Int) := by
  unfold nD; rw [List.map_map]; rfl
theorem nD_ints (a : List Nat) : nD a = (a.map fun (n : Nat) => (n : Int)).map D.int := by unfold nD; rw [List.map_map]; rfl
theorem okDs_nD {k : Nat} (a : List Nat) : okDs k (nD a) = true := okDs_of fun d h => by
  obtain ⟨n, _, rfl⟩ := List.mem_map.mp h
  rfl
theorem okD_nDt (a : List Nat) : okD 64 (.tup (nD a)) = true := okDs_nD (k := 63) a
theorem okD_nDl (a : List Nat) : okD 64 (.lst (nD a)) = true := okDs_nD (k := 63) a
theorem nD_inj {a b : List Nat} : nD a = nD b ↔ a = b := by
  unfold nD
  refine ⟨fun h => ?_, fun h => by rw [h]⟩
  refine (List.map_inj_right (f := fun (n : Nat) => D.int (n : Int)) (fun _ _ e => ?_)).mp h
  injection e with e; omega
theorem eqbs_nD (a b : List Nat) : eqbs (nD a) (nD b) = decide (a = b) := by
  rw [nD_ints, nD_ints, eqbs_ints]
  refine decide_eq_decide.mpr ⟨fun h => ?_, fun h => by rw [h]⟩
  exact nD_inj.mp (by rw [nD_ints, nD_ints, h])
theorem sum_cast (a : List Nat) : (a.map fun (n : Nat) => (n : Int)).sum = ((a.sum : Nat) : Int) := by
  induction a with
  | nil => rfl
  | cons n a ih => rw [List.map_cons, List.sum_cons, ih, List.sum_cons]; omega
theorem nD_get {a : List Nat} {i : Nat} (h : i < a.length) : (nD a)[i]? = some (.int ((a.getD i 0 : Nat) : Int)) := by simp [nD, h]
theorem nD_take (a : List Nat) (n : Nat) : (nD a).take n = nD (a.take n) := by unfold nD; rw [List.map_take]
theorem nD_drop (a : List Nat) (n : Nat) : (nD a).drop n = nD (a.drop n) := by unfold nD; rw [List.map_drop]
theorem cut_to {α : Type} (xs : List α) (n : Nat) : cutD xs none (some (n : Int)) = xs.take n := by
  unfold cutD
  rw [HT.sIx_none, HT.sIx_nat, List.drop_zero, Nat.sub_zero]
  by_cases h : n ≤ xs.length
  · rw [Nat.min_eq_left h]
  · rw [Nat.min_eq_right (by omega), List.take_of_length_le (Nat.le_refl _), List.take_of_length_le (by omega)]
theorem cut_from {α : Type} (xs : List α) (n : Nat) : cutD xs (some (n : Int)) none = xs.drop n := by
  unfold cutD
  rw [HT.sIx_none, HT.sIx_nat]
  by_cases h : n ≤ xs.length
  · rw [Nat.min_eq_left h, List.take_of_length_le (by rw [List.length_drop]; omega)]
  · rw [Nat.min_eq_right (by omega), List.drop_length, List.drop_of_length_le (by omega)]; simp
theorem cut_in {α : Type} (xs : List α) (n m : Nat) : cutD xs (some (n : Int)) (some (m : Int)) = (xs.take m).drop n := by
  unfold cutD
  rw [HT.sIx_nat, HT.sIx_nat]
  by_cases h : n ≤ xs.length
  · by_cases h2 : m ≤ xs.length
    · rw [Nat.min_eq_left h, Nat.min_eq_left h2, List.drop_take]
    · rw [Nat.min_eq_left h, Nat.min_eq_right (by omega), List.take_of_length_le (l := xs) (by omega), List.take_of_length_le (by rw [List.length_drop]; omega)]
  · rw [Nat.min_eq_right (a := n) (by omega), List.drop_length, List.drop_of_length_le (by rw [List.length_take]; omega)]; simp
theorem band1 (x : Int) : Builtin.bitAnd x 1 = x % 2 := PySem.W.kbt_mask x 1
def bitN (w j : Nat) : Nat := w / 2 ^ j % 2
theorem bit_cast (w j : Nat) : Builtin.bitAnd ((w : Int) / 2 ^ (j : Int).toNat) 1 = ((bitN w j : Nat) : Int) := by
  rw [band1]
  show (w : Int) / 2 ^ j % 2 = _
  unfold bitN
  rw [Int.natCast_emod, Int.natCast_ediv, Int.natCast_pow]; rfl
end DL
namespace Law
open PySem PySem.Spec PyProof.Rows L2 DL
/-! ### queues as plain rows -/
def moreN (n room : Nat) : List Nat := (List.range room).map fun k => if k < n then 1 else 0
def wordN (w width : Nat) : List Nat := (List.range width).map fun j => bitN w j
def rowsN (ws : List Nat) (width m : Nat) : List Nat := (List.range m).flatMap fun k => wordN (ws.getD k 0) width
def qbits (ws : List Nat) (room width : Nat) : List Nat := moreN ws.length room ++ rowsN ws width room
theorem rowsN_succ (ws : List Nat) (width m : Nat) : rowsN ws width (m + 1) = rowsN ws width m ++ wordN (ws.getD m 0) width := by
  unfold rowsN
  rw [List.range_succ, List.flatMap_append]
  simp
theorem wordN_len (w width : Nat) : (wordN w width).length = width := by simp [wordN]
theorem moreN_len (n room : Nat) : (moreN n room).length = room := by simp [moreN]
theorem rowsN_len (ws : List Nat) (width : Nat) : ∀ m, (rowsN ws width m).length = m * width
  | 0 => by simp [rowsN]
  | m + 1 => by rw [rowsN_succ, List.length_append, rowsN_len ws width m, wordN_len, Nat.succ_mul]
theorem qbits_len (ws : List Nat) (room width : Nat) : (qbits ws room width).length = room * (1 + width) := by
  unfold qbits
  rw [List.length_append, moreN_len, rowsN_len, Nat.mul_add, Nat.mul_one]
def wordOf (bits : List Nat) (at_ width : Nat) : Nat := ((List.range width).map fun j => bits.getD (at_ + j) 0 * 2 ^ j).sum
def qwords (bits : List Nat) (room width m : Nat) : List Nat := (List.range m).map fun k => wordOf bits (room + k * width) width
def qlen (bits : List Nat) (room : Nat) : Nat := (bits.take room).sum
def unq (bits : List Nat) (room width : Nat) : Option (List Nat) :=
  if bits = qbits ((qwords bits room width room).take (qlen bits room)) room width then some ((qwords bits room width room).take (qlen bits room)) else none
def unqD : Option (List Nat) → D
  | none => .non
  | some ws => .tup (nD ws)
theorem qwords_succ (bits : List Nat) (room width m : Nat) : qwords bits room width (m + 1) = qwords bits room width m ++ [wordOf bits (room + m * width) width] := by
  unfold qwords
  rw [List.range_succ, List.map_append]; rfl
theorem qwords_len (bits : List Nat) (room width m : Nat) : (qwords bits room width m).length = m := by simp [qwords]
/-! ### what the defs promise -/
abbrev sp_law_draw : DSp := spDraw
def sp_queue_bits : DSp
  | [x, .int r, .int w], M, R, _ => ∃ (ws : List Nat) (room width : Nat), (x = .tup (nD ws) ∨ x = .lst (nD ws)) ∧ r = room ∧ w = width ∧ room ≤ 100 ∧ width ≤ 100 ∧ R (.tup (nD (qbits ws room width))) M
  | _, _, _, _ => False
def sp_queue_of_bits : DSp
  | [.tup xs, .int r, .int w], M, R, _ => ∃ (bits : List Nat) (room width : Nat), xs = nD bits ∧ r = room ∧ w = width ∧ room ≤ 100 ∧ width ≤ 100 ∧ bits.length = room * (1 + width) ∧ (∀ b ∈ bits, b ≤ 1) ∧ R (unqD (unq bits room width)) M
  | _, _, _, _ => False
def sN (k : Nat) : Str := Str.ofString (toString (k : Int))
def qname1 (name : Str) (k : Nat) : Str := name ++ Str.ofString ".more" ++ sN k
def qname2 (name : Str) (k j : Nat) : Str := name ++ Str.ofString "." ++ sN k ++ Str.ofString "." ++ sN j
def qnames (name : Str) (room width : Nat) : List Str := (List.range room).map (qname1 name) ++ (List.range room).flatMap fun k => (List.range width).map (qname2 name k)
def sD (xs : List Str) : List D := xs.map D.str
def sp_queue_names : DSp
  | [.str name, .int r, .int w], M, R, _ => ∃ (room width : Nat), r = room ∧ w = width ∧ room ≤ 8 ∧ width ≤ 8 ∧ name.length ≤ 100 ∧ R (.lst (sD (qnames name room width))) M
  | _, _, _, _ => False
def bn (n many : Nat) : List Nat := (List.range many).map fun k => bitN n k
theorem bitN_le (w j : Nat) : bitN w j ≤ 1 := by unfold bitN; omega
theorem bitN_test (w j : Nat) : bitN w j = if w.testBit j = true then 1 else 0 := by
  unfold bitN
  rw [Nat.testBit_eq_decide_div_mod_eq]
  by_cases h : w / 2 ^ j % 2 = 1
  · rw [h]; simp
  · rw [if_neg (by simpa using h)]; omega
theorem bn_inj {n m many : Nat} (hn : n < 2 ^ many) (hm : m < 2 ^ many) (h : bn n many = bn m many) : n = m := by
  apply Nat.eq_of_testBit_eq
  intro j
  by_cases hj : j < many
  · have e : (bn n many)[j]? = (bn m many)[j]? := by rw [h]
    simp only [bn, List.getElem?_map, List.getElem?_range hj, Option.map_some, Option.some.injEq] at e
    rw [bitN_test, bitN_test] at e
    cases h1 : n.testBit j <;> cases h2 : m.testBit j <;> simp [h1, h2] at e ⊢
  · rw [Nat.testBit_lt_two_pow (Nat.lt_of_lt_of_le hn (Nat.pow_le_pow_right (by omega) (by omega))), Nat.testBit_lt_two_pow (Nat.lt_of_lt_of_le hm (Nat.pow_le_pow_right (by omega) (by omega)))]
theorem unq_some {bits ws : List Nat} {room width : Nat} (h : unq bits room width = some ws) : bits = qbits ws room width ∧ ws = (qwords bits room width room).take (qlen bits room) := by
  unfold unq at h
  split at h
  · next e => cases h; exact ⟨e, rfl⟩
  · cases h
theorem wordOf_lt {bits : List Nat} (hb : ∀ b ∈ bits, b ≤ 1) (a : Nat) : ∀ w, wordOf bits a w < 2 ^ w
  | 0 => by simp [wordOf]
  | w + 1 => by
    have ih := wordOf_lt hb a w
    have e : wordOf bits a (w + 1) = wordOf bits a w + bits.getD (a + w) 0 * 2 ^ w := by
      unfold wordOf
      rw [List.range_succ, List.map_append, List.sum_append]
      simp
    have hl : bits.getD (a + w) 0 ≤ 1 := by
      by_cases h : a + w < bits.length
      · have e : bits.getD (a + w) 0 = bits[a + w] := by simp [List.getD, h]
        rw [e]; exact hb _ (List.getElem_mem h)
      · have e : bits.getD (a + w) 0 = 0 := by simp [List.getD_eq_getElem?_getD, List.getElem?_eq_none (by omega : bits.length ≤ a + w)]
        omega
    rw [e, Nat.pow_succ]
    have := Nat.mul_le_mul_right (2 ^ w) hl
    omega
theorem unq_lt {bits ws : List Nat} {room width : Nat} (hb : ∀ b ∈ bits, b ≤ 1) (h : unq bits room width = some ws) : ∀ w ∈ ws, w < 2 ^ width := fun w hw => by
  rw [(unq_some h).2] at hw
  obtain ⟨k, _, rfl⟩ := List.mem_map.mp (List.mem_of_mem_take hw)
  exact wordOf_lt hb _ _
theorem unq_len {bits ws : List Nat} {room width : Nat} (h : unq bits room width = some ws) : ws.length ≤ room := by
  rw [(unq_some h).2, List.length_take, qwords_len]
  exact Nat.min_le_right _ _
theorem bn_le (n many : Nat) : ∀ b ∈ bn n many, b ≤ 1 := fun b hb => by
  obtain ⟨k, _, rfl⟩ := List.mem_map.mp hb
  exact bitN_le _ _
theorem bn_len (n many : Nat) : (bn n many).length = many := by simp [bn]
def kN (ws : List Nat) : List Key := ws.map fun (w : Nat) => Sum.inl (w : Int)
theorem kN_inj {a b : List Nat} (h : kN a = kN b) : a = b :=
  (List.map_inj_right (f := fun (n : Nat) => (Sum.inl (n : Int) : Key)) (fun _ _ e => by injection e with e; omega)).mp h
def metAt (room width : Nat) (i : Nat) : List (List Key × D) :=
  (List.range i).filterMap fun n => (unq (bn n (room * (1 + width))) room width).map fun ws => (kN ws, .tup (nD (bn n (room * (1 + width)))))
theorem metAt_succ (room width i : Nat) : metAt room width (i + 1) = metAt room width i ++ (match unq (bn i (room * (1 + width))) room width with | none => [] | some ws => [(kN ws, .tup (nD (bn i (room * (1 + width)))))]) := by
  unfold metAt
  rw [List.range_succ, List.filterMap_append]
  congr 1
  simp only [List.filterMap_cons, List.filterMap_nil]
  cases unq (bn i (room * (1 + width))) room width <;> rfl
theorem metAt_new {room width i : Nat} {ws : List Nat} (hi : i < 2 ^ (room * (1 + width))) (h : unq (bn i (room * (1 + width))) room width = some ws) : ∀ p ∈ metAt room width i, p.1 ≠ kN ws := fun p hp e => by
  obtain ⟨n, hn, hq⟩ := List.mem_filterMap.mp hp
  have hn : n < i := List.mem_range.mp hn
  cases hu : unq (bn n (room * (1 + width))) room width with
  | none => rw [hu] at hq; cases hq
  | some vs =>
    rw [hu] at hq
    cases hq
    have e : vs = ws := kN_inj e
    subst e
    have := bn_inj (by omega) hi ((unq_some hu).1.trans (unq_some h).1.symm)
    omega
def cases7 : List (Nat × Nat) := [(1, 1), (1, 8), (2, 1), (2, 3), (3, 1), (3, 2), (4, 1)]
theorem count7 : ∀ p ∈ cases7, ((List.range (2 ^ (p.1 * (1 + p.2)))).filterMap fun n => unq (bn n (p.1 * (1 + p.2))) p.1 p.2).length = ((List.range (p.1 + 1)).map fun k => 2 ^ (p.2 * k)).sum := by decide +kernel
theorem small7 : ∀ p ∈ cases7, p.1 ≤ 4 ∧ p.2 ≤ 8 ∧ 2 ^ (p.1 * (1 + p.2)) ≤ 512 ∧ p.1 * (1 + p.2) ≤ 9 := by decide
theorem metAt_len (room width i : Nat) : (metAt room width i).length = ((List.range i).filterMap fun n => unq (bn n (room * (1 + width))) room width).length := by
  unfold metAt
  induction i with
  | zero => rfl
  | succ i ih =>
    rw [List.range_succ, List.filterMap_append, List.filterMap_append, List.length_append, List.length_append, ih]
    congr 1
    simp only [List.filterMap_cons, List.filterMap_nil]
    cases unq (bn i (room * (1 + width))) room width <;> rfl
def sp_law_all : DSp
  | [.int r, .int w], M, R, _ => ∃ room width : Nat, (room, width) ∈ cases7 ∧ r = room ∧ w = width ∧ R (.bl true) M
  | _, _, _, _ => False
theorem sN_small : ∀ k, k < 16 → (sN k).length ≤ 2 := by decide +kernel
end Law
namespace Law
open PySem PySem.Spec PyProof.Rows L2 DL
local macro_rules | `(tactic| walk_at "x1") => `(tactic| first
  | with_reducible refine x_seq ?_ | with_reducible refine x_set ?_ | with_reducible refine x_ret ?_ | with_reducible refine x_ifS ?_ | with_reducible refine x_next ?_ | with_reducible refine x_asg ?_ | with_reducible refine x_drop ?_ | with_reducible refine x_for ?_ | with_reducible refine x_par ?_ | with_reducible refine ⟨_, _, rfl, ?_⟩
  | with_reducible refine x_op ?_ | ((with_reducible refine x_var (d := ?d) ?hx ?_); case hx => exact rfl) | with_reducible refine x_c ?_ | with_reducible refine x_B ?_ | with_reducible refine ⟨_, rfl, ?_⟩ | with_reducible refine x_call ?_ | with_reducible refine x_cons ?_ | with_reducible refine x_nil ?_ | with_reducible refine x_fn ?_
  | with_reducible refine x_if ?_ | with_reducible refine x_and ?_ | with_reducible refine x_or ?_ | with_reducible refine x_not ?_ | with_reducible refine x_andV ?_ | with_reducible refine x_orV ?_ | with_reducible refine x_notV ?_ | with_reducible refine x_chain ?_ | with_reducible refine x_un ?_
  | with_reducible refine x_tup ?_ | with_reducible refine x_lst ?_ | with_reducible refine x_lstM ?_ | with_reducible refine x_sz (by decide) ?_ | with_reducible refine x_sl ?_ | with_reducible refine x_noP ?_ | with_reducible refine x_pt ?_
  | with_reducible refine x_range1 ?_ | with_reducible refine x_iter ?_ | with_reducible refine x_go_tup ?_ | with_reducible refine x_go_lst ?_ | with_reducible refine x_lc ?_ | with_reducible refine x_lcM ?_ | with_reducible refine x_lc2 ?_ | with_reducible refine x_yes ?_ | with_reducible refine x_gName ?_ | with_reducible refine x_gSub ?_
  | ((with_reducible refine x_gTup ?hx ?_); case hx => exact rfl) | ((with_reducible refine x_gTupL ?hx ?_); case hx => exact rfl) | with_reducible refine x_gCons ?_ | with_reducible refine x_gNil ?_ | with_reducible refine x_retN ?_ | with_reducible refine x_brk ?_ | with_reducible refine x_cont ?_
  | with_reducible refine x_add_i ?_ | with_reducible refine x_sub ?_ | with_reducible refine x_band ?_ | with_reducible refine x_bor ?_ | with_reducible refine x_bxor ?_ | with_reducible refine x_neg ?_ | with_reducible refine x_lt ?_ | with_reducible refine x_le ?_ | with_reducible refine x_gt ?_ | with_reducible refine x_ge ?_ | with_reducible refine x_eqI ?_ | with_reducible refine x_neI ?_
  | with_reducible refine x_isN ?_ | with_reducible refine x_isnotN ?_ | with_reducible refine x_isB ?_ | with_reducible refine x_isnotB ?_ | with_reducible refine x_int ?_ | with_reducible refine x_intB ?_ | with_reducible refine x_abs ?_ | with_reducible refine x_len_t ?_ | with_reducible refine x_len_l ?_ | with_reducible refine x_tuple_t ?_ | with_reducible refine x_tuple_l ?_ | with_reducible refine x_list_t ?_ | with_reducible refine x_list_l ?_ | with_reducible refine x_list_s ?_
  | with_reducible refine x_sl_t ?_ | with_reducible refine x_sl_l ?_ | with_reducible refine x_iadd_i ?_ | with_reducible refine x_isi ?_ | with_reducible refine x_din ?_ | with_reducible refine x_dnotin ?_ | with_reducible refine x_dgetE ?_ | with_reducible refine x_dput ?_ | with_reducible refine x_append ?_
  | with_reducible refine x_T ?_ | with_reducible refine x_F ?_ | with_reducible refine x_nT ?_ | with_reducible refine x_nF ?_)
local macro_rules | `(tactic| walk_at "x2") => `(tactic| first
  | with_reducible refine x_bd (by omega) ?_ | with_reducible refine x_mod (by omega) ?_ | with_reducible refine x_div (by omega) ?_ | with_reducible refine x_shr (by omega) ?_ | with_reducible refine x_mul' (by omega) ?_ | with_reducible refine x_pow (by decide) ?_
  | ((with_reducible refine x_aug (x := ?d) ?hx ?_); case hx => exact rfl)
  | ((with_reducible refine x_ix_t (d := ?d) ?h0 ?hx ?_); (case h0 => omega); case hx => walk_at "at")
  | ((with_reducible refine x_ix_l (d := ?d) ?h0 ?hx ?_); (case h0 => omega); case hx => walk_at "at")
  | ((with_reducible refine x_ix_loc (ds := ?ds) (d := ?d) ?hm ?h0 ?hx ?_); (case hm => walk_at "m"); (case h0 => omega); case hx => walk_at "at")
  | ((with_reducible refine x_len_loc (ds := ?ds) ?hm ?_); case hm => walk_at "m") | ((with_reducible refine x_tuple_loc (ds := ?ds) ?hm ?_); case hm => walk_at "m") | ((with_reducible refine x_sl_loc (xs := ?ds) ?hm ?_); case hm => walk_at "m")
  | ((with_reducible refine ⟨_, ?ds, rfl, ?hm, ?_⟩); case hm => walk_at "m")
  | ((with_reducible refine ⟨_, ?ds, _, ?j, rfl, rfl, ?hm, ?hj, ?_⟩); (case hm => walk_at "m"); (case hj => walk_at "j")))
local macro_rules | `(tactic| walk_at "j") => `(tactic| exact rfl)
local macro_rules | `(tactic| walk_at "at") => `(tactic| first | exact rfl | assumption)
local macro_rules | `(tactic| walk_at "lt") => `(tactic| first | decide | omega | (simp; omega))
local macro_rules | `(tactic| walk_at "m") => `(tactic| first | exact mup_same | assumption)
local macro_rules | `(tactic| walk_at "x") => `(tactic| repeat (first | walk_at "x1" | walk_at "x2"))

abbrev N_law_draw : List Str := ["tape", "many", "cell", "digit"]
def w_law_draw : DS := (dSeq (dIfS (dB (dOp oEq (dOp oIx (dVar 0) (dC (.int 2))) (dC (.int 0)))) (dSeq (dSet 2 (dIf (dB (dOp oLt (dOp oIx (dVar 0) (dC (.int 1))) (dCall oLen (dCons (dOp oIx (dVar 0) (dC (.int 0))) dNil)))) (dCall oAbs (dCons (dCall oInt (dCons (dOp oIx (dOp oIx (dVar 0) (dC (.int 0))) (dOp oIx (dVar 0) (dC (.int 1)))) dNil)) dNil)) (dC (.int 0))))
    (dSeq (dAsg (dOp oAdd (dOp oIx (dVar 0) (dC (.int 1))) (dC (.int 1))) (dgSub (dVar 0) (dC (.int 1))))
    (dSeq (dAsg (dOp oMod (dCall oInt (dCons (dOp oAdd (dOp oAdd (dOp oMul (dOp oIx (dVar 0) (dC (.int 3))) (dC (.int 48271))) (dOp oMul (dVar 2) (dC (.int 7919)))) (dC (.int 12345))) dNil)) (dC (.int 2147483647))) (dgSub (dVar 0) (dC (.int 3))))
    (dAsg (dIf (dB (dOp oGe (dVar 2) (dOp oPow (dC (.int 10)) (dC (.int 18))))) (dVar 2) (dC (.int 0))) (dgSub (dVar 0) (dC (.int 2))))))) dNext)
    (dSeq (dIfS (dB (dOp oGt (dOp oIx (dVar 0) (dC (.int 2))) (dC (.int 0)))) (dSeq (dSet 3 (dOp oMod (dCall oInt (dCons (dOp oIx (dVar 0) (dC (.int 2))) dNil)) (dVar 1)))
    (dSeq (dAsg (dOp oDiv (dCall oInt (dCons (dOp oIx (dVar 0) (dC (.int 2))) dNil)) (dVar 1)) (dgSub (dVar 0) (dC (.int 2))))
    (dRet (dVar 3)))) dNext)
    (dRet (dOp oMod (dCall oInt (dCons (dOp oDiv (dOp oIx (dVar 0) (dC (.int 3))) (dC (.int 7))) dNil)) (dVar 1)))))
theorem rd_law_draw : ∀ ds M R, sp_law_draw ds M R X0 → w_law_draw (retTo R X0) (startG N_law_draw ds) M := fun ds M R h => by
  match ds, h with
  | [.loc a, .int many], h =>
    obtain ⟨⟨t, ht⟩, h1, h2, q⟩ := h
    show w_law_draw (retTo R X0) [some (.loc a), some (.int many), none, none] M
    unfold w_law_draw
    refine cut_seq (fun Γ' M' => ∃ o t', Γ' = [some (.loc a), some (.int many), o, none] ∧ M' = mup M a (tobj t')) (fun N hN => ?_) (fun Γ' M' hI => ?_)
    · have ht' := ht
      unfold tobj at ht
      walk_at "x"
      refine x_bothE (fun e => ?_) (fun e => ?_)
      · walk_at "x"
        refine x_both (fun e2 => ?_) (fun e2 => ?_)
        · have hl : t.p < t.ns.length := by rw [List.length_map] at e2; omega
          have hg : (t.ns.map D.int)[(t.p : Int).toNat]? = some (.int t.ns[t.p]) := by simp [hl]
          walk_at "x"
          generalize (if t.ns[t.p] < 0 then -t.ns[t.p] else t.ns[t.p]) = cell
          walk_at "x"
          refine x_both (fun e3 => ?_) (fun e3 => ?_)
          · walk_at "x"
            exact hN _ _ ⟨_, ⟨t.ns, t.p + 1, cell, (t.s * 48271 + cell * 7919 + 12345) % 2147483647⟩, rfl, by rw [mup_mup, mup_mup]; rfl⟩
          · walk_at "x"
            exact hN _ _ ⟨_, ⟨t.ns, t.p + 1, 0, (t.s * 48271 + cell * 7919 + 12345) % 2147483647⟩, rfl, by rw [mup_mup, mup_mup]; rfl⟩
        · walk_at "x"
          refine x_noD (by decide) ?_
          walk_at "x"
          exact hN _ _ ⟨_, ⟨t.ns, t.p + 1, 0, (t.s * 48271 + 0 * 7919 + 12345) % 2147483647⟩, rfl, by rw [mup_mup, mup_mup]; rfl⟩
      · walk_at "x"
        exact hN _ _ ⟨_, t, rfl, (mup_self ht').symm⟩
    · obtain ⟨o, t', rfl, rfl⟩ := hI
      unfold tobj
      walk_at "x"
      refine x_both (fun e => ?_) (fun e => ?_)
      · walk_at "x"
        refine rt_here ?_
        rw [mup_mup]
        exact q _ ⟨t'.ns, t'.p, t'.c / many, t'.s⟩ (Int.emod_nonneg _ (by omega)) (Int.emod_lt_of_pos _ h1)
      · walk_at "x"
        exact rt_here (q _ t' (Int.emod_nonneg _ (by omega)) (Int.emod_lt_of_pos _ h1))
end Law
namespace Law
open PySem PySem.Spec PyProof.Rows L2 DL
local macro_rules | `(tactic| walk_at "x1") => `(tactic| first
  | with_reducible refine x_seq ?_ | with_reducible refine x_set ?_ | with_reducible refine x_ret ?_ | with_reducible refine x_ifS ?_ | with_reducible refine x_next ?_ | with_reducible refine x_asg ?_ | with_reducible refine x_drop ?_ | with_reducible refine x_for ?_ | with_reducible refine x_par ?_ | with_reducible refine ⟨_, _, rfl, ?_⟩
  | with_reducible refine x_op ?_ | ((with_reducible refine x_var (d := ?d) ?hx ?_); case hx => exact rfl) | with_reducible refine x_c ?_ | with_reducible refine x_B ?_ | with_reducible refine ⟨_, rfl, ?_⟩ | with_reducible refine x_call ?_ | with_reducible refine x_cons ?_ | with_reducible refine x_nil ?_ | with_reducible refine x_fn ?_
  | with_reducible refine x_if ?_ | with_reducible refine x_and ?_ | with_reducible refine x_or ?_ | with_reducible refine x_not ?_ | with_reducible refine x_andV ?_ | with_reducible refine x_orV ?_ | with_reducible refine x_notV ?_ | with_reducible refine x_chain ?_ | with_reducible refine x_un ?_
  | with_reducible refine x_tup ?_ | with_reducible refine x_lst ?_ | with_reducible refine x_lstM ?_ | with_reducible refine x_sz (by decide) ?_ | with_reducible refine x_sl ?_ | with_reducible refine x_noP ?_ | with_reducible refine x_pt ?_
  | with_reducible refine x_range1 ?_ | with_reducible refine x_iter ?_ | with_reducible refine x_go_tup ?_ | with_reducible refine x_go_lst ?_ | with_reducible refine x_lc ?_ | with_reducible refine x_lcM ?_ | with_reducible refine x_lc2 ?_ | with_reducible refine x_yes ?_ | with_reducible refine x_gName ?_ | with_reducible refine x_gSub ?_
  | ((with_reducible refine x_gTup ?hx ?_); case hx => exact rfl) | ((with_reducible refine x_gTupL ?hx ?_); case hx => exact rfl) | with_reducible refine x_gCons ?_ | with_reducible refine x_gNil ?_ | with_reducible refine x_retN ?_ | with_reducible refine x_brk ?_ | with_reducible refine x_cont ?_
  | with_reducible refine x_add_i ?_ | with_reducible refine x_sub ?_ | with_reducible refine x_band ?_ | with_reducible refine x_bor ?_ | with_reducible refine x_bxor ?_ | with_reducible refine x_neg ?_ | with_reducible refine x_lt ?_ | with_reducible refine x_le ?_ | with_reducible refine x_gt ?_ | with_reducible refine x_ge ?_ | with_reducible refine x_eqI ?_ | with_reducible refine x_neI ?_
  | with_reducible refine x_isN ?_ | with_reducible refine x_isnotN ?_ | with_reducible refine x_isB ?_ | with_reducible refine x_isnotB ?_ | with_reducible refine x_int ?_ | with_reducible refine x_intB ?_ | with_reducible refine x_abs ?_ | with_reducible refine x_len_t ?_ | with_reducible refine x_len_l ?_ | with_reducible refine x_tuple_t ?_ | with_reducible refine x_tuple_l ?_ | with_reducible refine x_list_t ?_ | with_reducible refine x_list_l ?_ | with_reducible refine x_list_s ?_
  | with_reducible refine x_sl_t ?_ | with_reducible refine x_sl_l ?_ | with_reducible refine x_iadd_i ?_ | with_reducible refine x_isi ?_ | with_reducible refine x_din ?_ | with_reducible refine x_dnotin ?_ | with_reducible refine x_dgetE ?_ | with_reducible refine x_dput ?_ | with_reducible refine x_append ?_
  | with_reducible refine x_T ?_ | with_reducible refine x_F ?_ | with_reducible refine x_nT ?_ | with_reducible refine x_nF ?_)
local macro_rules | `(tactic| walk_at "x2") => `(tactic| first
  | with_reducible refine x_bd (by omega) ?_ | with_reducible refine x_mod (by omega) ?_ | with_reducible refine x_div (by omega) ?_ | with_reducible refine x_shr (by omega) ?_ | with_reducible refine x_mul' (by omega) ?_ | with_reducible refine x_pow (by decide) ?_
  | ((with_reducible refine x_aug (x := ?d) ?hx ?_); case hx => exact rfl)
  | ((with_reducible refine x_ix_t (d := ?d) ?h0 ?hx ?_); (case h0 => omega); case hx => walk_at "at")
  | ((with_reducible refine x_ix_l (d := ?d) ?h0 ?hx ?_); (case h0 => omega); case hx => walk_at "at")
  | ((with_reducible refine x_ix_loc (ds := ?ds) (d := ?d) ?hm ?h0 ?hx ?_); (case hm => walk_at "m"); (case h0 => omega); case hx => walk_at "at")
  | ((with_reducible refine x_len_loc (ds := ?ds) ?hm ?_); case hm => walk_at "m") | ((with_reducible refine x_tuple_loc (ds := ?ds) ?hm ?_); case hm => walk_at "m") | ((with_reducible refine x_sl_loc (xs := ?ds) ?hm ?_); case hm => walk_at "m")
  | ((with_reducible refine ⟨_, ?ds, rfl, ?hm, ?_⟩); case hm => walk_at "m")
  | ((with_reducible refine ⟨_, ?ds, _, ?j, rfl, rfl, ?hm, ?hj, ?_⟩); (case hm => walk_at "m"); (case hj => walk_at "j")))
local macro_rules | `(tactic| walk_at "j") => `(tactic| exact rfl)
local macro_rules | `(tactic| walk_at "at") => `(tactic| first | exact rfl | assumption)
local macro_rules | `(tactic| walk_at "lt") => `(tactic| first | decide | omega | (simp; omega))
local macro_rules | `(tactic| walk_at "m") => `(tactic| first | exact mup_same | assumption)
local macro_rules | `(tactic| walk_at "x") => `(tactic| repeat (first | walk_at "x1" | walk_at "x2"))

def IsRow (x : D) (ws : List Nat) : Prop := x = .tup (nD ws) ∨ x = .lst (nD ws)
theorem len_of {x : D} {ws : List Nat} {M : Mem} {R : Pst} (hx : IsRow x ws) (h : R (.int (ws.length : Nat)) M) : oLen [x] M R := by
  rcases hx with rfl | rfl
  · exact x_len_t (by rw [nD_len]; exact h)
  · exact x_len_l (by rw [nD_len]; exact h)
theorem ix_of {x : D} {ws : List Nat} {M : Mem} {R : Pst} {i : Nat} (hx : IsRow x ws) (hi : i < ws.length) (h : R (.int ((ws.getD i 0 : Nat) : Int)) M) : oIx x (.int (i : Int)) M R := by
  rcases hx with rfl | rfl
  · exact x_ix_t (by omega) (nD_get hi) h
  · exact x_ix_l (by omega) (nD_get hi) h
abbrev N_queue_bits : List Str := ["words", "room", "width", "found", "k", "word", "j"]
def w_queue_bits : DS := (dSeq (dSet 3 (dLcM (dRange1 (dVar 1)) (dgName 4) dYes (dCall oInt (dCons (dOp oLt (dVar 4) (dCall oLen (dCons (dVar 0) dNil))) dNil)) [4]))
    (dSeq (dFor (dRange1 (dVar 1)) (dgName 4) (dSeq (dSet 5 (dIf (dB (dOp oLt (dVar 4) (dCall oLen (dCons (dVar 0) dNil)))) (dOp oIx (dVar 0) (dVar 4)) (dC (.int 0))))
    (dAug 3 (dLc (dRange1 (dVar 2)) (dgName 6) dYes (dOp oAnd (dOp oShr (dVar 5) (dVar 6)) (dC (.int 1))) [6]) oIAdd)))
    (dRet (dCall oTuple (dCons (dVar 3) dNil)))))
theorem rd_queue_bits : ∀ ds M R, sp_queue_bits ds M R X0 → w_queue_bits (retTo R X0) (startG N_queue_bits ds) M := fun ds M R h => by
  match ds, h with
  | [x, .int r, .int w], h =>
    obtain ⟨ws, room, width, hx, rfl, rfl, h1, h2, q⟩ := h
    have hx : IsRow x ws := hx
    show w_queue_bits (retTo R X0) [some x, some (.int room), some (.int width), none, none, none, none] M
    unfold w_queue_bits
    walk_at "x"
    refine lc_rg (n := room) (fun k => .int ((if k < ws.length then 1 else 0 : Nat) : Int)) rfl (by omega) (fun i hi M' sb K F hK => ?_) (fun A hA => ?_)
    · walk_at "x"
      refine len_of hx ?_
      walk_at "x"
      by_cases hlt : i < ws.length
      · rw [if_pos hlt] at hK
        rw [if_pos (by simpa using hlt)]
        exact hK
      · rw [if_neg hlt] at hK
        rw [if_neg (by simpa using hlt)]
        exact hK
    · walk_at "x"
      refine for_rg (n := room) (fun i Γ' M' => ∃ o4 o5, Γ' = [some x, some (.int room), some (.int width), some (.loc A), o4, o5, none] ∧ M' = mup M A (.lst (nD (moreN ws.length room ++ rowsN ws width i)))) rfl ⟨_, _, rfl, ?_⟩ (fun _ _ _ _ => trivial) (fun i Γ' M' N hi hI hN => ?_) (fun Γ' M' hI => ?_)
      · rw [← nD_range]
        simp [rowsN, moreN]
      · obtain ⟨o4, o5, rfl, rfl⟩ := hI
        refine cut_seq (fun Γ' M' => Γ' = [some x, some (.int room), some (.int width), some (.loc A), some (.int i), some (.int ((ws.getD i 0 : Nat) : Int)), none] ∧ M' = mup M A (.lst (nD (moreN ws.length room ++ rowsN ws width i)))) (fun N1 hN1 => ?_) (fun Γ' M' hI => ?_)
        · walk_at "x"
          refine len_of hx ?_
          walk_at "x"
          refine x_both (fun hlt => ?_) (fun hlt => ?_)
          · have hlt : i < ws.length := by omega
            walk_at "x"
            refine ix_of hx hlt ?_
            walk_at "x"
            exact hN1 _ _ ⟨rfl, rfl⟩
          · have hlt : ws.length ≤ i := by omega
            walk_at "x"
            refine hN1 _ _ ⟨?_, rfl⟩
            have e0 : ws.getD i 0 = 0 := by simp [List.getD_eq_getElem?_getD, List.getElem?_eq_none hlt]
            rw [e0]; rfl
        · obtain ⟨rfl, rfl⟩ := hI
          generalize hw : ws.getD i 0 = wd
          walk_at "x"
          refine lc_rg (n := width) (fun j => .int ((bitN wd j : Nat) : Int)) rfl (by omega) (fun j hj M' sb K F hK => ?_) (fun B hB => lcF_mk hB ?_)
          · walk_at "x"
            rw [bit_cast]
            exact hK
          · refine x_iadd_l mup_same ?_ ?_
            · rw [nD_len, List.length_append, moreN_len, rowsN_len, List.length_map, List.length_range]
              have : i * width ≤ 100 * 100 := Nat.mul_le_mul (by omega) h2
              exact Nat.le_trans (show _ ≤ 10300 by omega) (by decide)
            · refine hN _ _ ⟨_, _, rfl, ?_⟩
              rw [mup_mup, rowsN_succ, hw, ← List.append_assoc, nD_app _ (wordN wd width)]
              unfold wordN
              rw [nD_range]
      · obtain ⟨o4, o5, rfl, rfl⟩ := hI
        walk_at "x"
        exact rt_sub (sub_new hA) q
end Law
namespace Law
open PySem PySem.Spec PyProof.Rows L2 DL
local macro_rules | `(tactic| walk_at "x1") => `(tactic| first
  | with_reducible refine x_seq ?_ | with_reducible refine x_set ?_ | with_reducible refine x_ret ?_ | with_reducible refine x_ifS ?_ | with_reducible refine x_next ?_ | with_reducible refine x_asg ?_ | with_reducible refine x_drop ?_ | with_reducible refine x_for ?_ | with_reducible refine x_par ?_ | with_reducible refine ⟨_, _, rfl, ?_⟩
  | with_reducible refine x_op ?_ | ((with_reducible refine x_var (d := ?d) ?hx ?_); case hx => exact rfl) | with_reducible refine x_c ?_ | with_reducible refine x_B ?_ | with_reducible refine ⟨_, rfl, ?_⟩ | with_reducible refine x_call ?_ | with_reducible refine x_cons ?_ | with_reducible refine x_nil ?_ | with_reducible refine x_fn ?_
  | with_reducible refine x_if ?_ | with_reducible refine x_and ?_ | with_reducible refine x_or ?_ | with_reducible refine x_not ?_ | with_reducible refine x_andV ?_ | with_reducible refine x_orV ?_ | with_reducible refine x_notV ?_ | with_reducible refine x_chain ?_ | with_reducible refine x_un ?_
  | with_reducible refine x_tup ?_ | with_reducible refine x_lst ?_ | with_reducible refine x_lstM ?_ | with_reducible refine x_sz (by decide) ?_ | with_reducible refine x_sl ?_ | with_reducible refine x_noP ?_ | with_reducible refine x_pt ?_
  | with_reducible refine x_range1 ?_ | with_reducible refine x_iter ?_ | with_reducible refine x_go_tup ?_ | with_reducible refine x_go_lst ?_ | with_reducible refine x_lc ?_ | with_reducible refine x_lcM ?_ | with_reducible refine x_lc2 ?_ | with_reducible refine x_yes ?_ | with_reducible refine x_gName ?_ | with_reducible refine x_gSub ?_
  | ((with_reducible refine x_gTup ?hx ?_); case hx => exact rfl) | ((with_reducible refine x_gTupL ?hx ?_); case hx => exact rfl) | with_reducible refine x_gCons ?_ | with_reducible refine x_gNil ?_ | with_reducible refine x_retN ?_ | with_reducible refine x_brk ?_ | with_reducible refine x_cont ?_
  | with_reducible refine x_add_i ?_ | with_reducible refine x_sub ?_ | with_reducible refine x_band ?_ | with_reducible refine x_bor ?_ | with_reducible refine x_bxor ?_ | with_reducible refine x_neg ?_ | with_reducible refine x_lt ?_ | with_reducible refine x_le ?_ | with_reducible refine x_gt ?_ | with_reducible refine x_ge ?_ | with_reducible refine x_eqI ?_ | with_reducible refine x_neI ?_
  | with_reducible refine x_isN ?_ | with_reducible refine x_isnotN ?_ | with_reducible refine x_isB ?_ | with_reducible refine x_isnotB ?_ | with_reducible refine x_int ?_ | with_reducible refine x_intB ?_ | with_reducible refine x_abs ?_ | with_reducible refine x_len_t ?_ | with_reducible refine x_len_l ?_ | with_reducible refine x_tuple_t ?_ | with_reducible refine x_tuple_l ?_ | with_reducible refine x_list_t ?_ | with_reducible refine x_list_l ?_ | with_reducible refine x_list_s ?_
  | with_reducible refine x_sl_t ?_ | with_reducible refine x_sl_l ?_ | with_reducible refine x_iadd_i ?_ | with_reducible refine x_isi ?_ | with_reducible refine x_din ?_ | with_reducible refine x_dnotin ?_ | with_reducible refine x_dgetE ?_ | with_reducible refine x_dput ?_ | with_reducible refine x_append ?_
  | with_reducible refine x_T ?_ | with_reducible refine x_F ?_ | with_reducible refine x_nT ?_ | with_reducible refine x_nF ?_)
local macro_rules | `(tactic| walk_at "x2") => `(tactic| first
  | with_reducible refine x_bd (by omega) ?_ | with_reducible refine x_mod (by omega) ?_ | with_reducible refine x_div (by omega) ?_ | with_reducible refine x_shr (by omega) ?_ | with_reducible refine x_mul' (by omega) ?_ | with_reducible refine x_pow (by decide) ?_
  | ((with_reducible refine x_aug (x := ?d) ?hx ?_); case hx => exact rfl)
  | ((with_reducible refine x_ix_t (d := ?d) ?h0 ?hx ?_); (case h0 => omega); case hx => walk_at "at")
  | ((with_reducible refine x_ix_l (d := ?d) ?h0 ?hx ?_); (case h0 => omega); case hx => walk_at "at")
  | ((with_reducible refine x_ix_loc (ds := ?ds) (d := ?d) ?hm ?h0 ?hx ?_); (case hm => walk_at "m"); (case h0 => omega); case hx => walk_at "at")
  | ((with_reducible refine x_len_loc (ds := ?ds) ?hm ?_); case hm => walk_at "m") | ((with_reducible refine x_tuple_loc (ds := ?ds) ?hm ?_); case hm => walk_at "m") | ((with_reducible refine x_sl_loc (xs := ?ds) ?hm ?_); case hm => walk_at "m")
  | ((with_reducible refine ⟨_, ?ds, rfl, ?hm, ?_⟩); case hm => walk_at "m")
  | ((with_reducible refine ⟨_, ?ds, _, ?j, rfl, rfl, ?hm, ?hj, ?_⟩); (case hm => walk_at "m"); (case hj => walk_at "j")))
local macro_rules | `(tactic| walk_at "j") => `(tactic| exact rfl)
local macro_rules | `(tactic| walk_at "at") => `(tactic| first | exact rfl | assumption)
local macro_rules | `(tactic| walk_at "lt") => `(tactic| first | decide | omega | (simp; omega))
local macro_rules | `(tactic| walk_at "m") => `(tactic| first | exact mup_same | assumption)
local macro_rules | `(tactic| walk_at "x") => `(tactic| repeat (first | walk_at "x1" | walk_at "x2"))

abbrev N_queue_of_bits : List Str := ["bits", "room", "width", "length", "words", "k", "at", "j"]
def w_queue_of_bits : DS := (dSeq (dSet 3 (dCall oSum (dCons (dSl (dVar 0) dNoP (dPt (dVar 1))) dNil)))
    (dSeq (dSet 4 (dLstM dNil))
    (dSeq (dFor (dRange1 (dVar 1)) (dgName 5) (dSeq (dSet 6 (dOp oAdd (dVar 1) (dOp oMul (dVar 5) (dVar 2))))
    (dDrop (dAppend (dVar 4) (dCall oSum (dCons (dLc (dRange1 (dVar 2)) (dgName 7) dYes (dOp oShl (dOp oIx (dVar 0) (dOp oAdd (dVar 6) (dVar 7))) (dVar 7)) [7]) dNil))))))
    (dSeq (dIfS (dB (dOp oNe (dCall oTuple (dCons (dVar 0) dNil)) (dFn sp_queue_bits [] (dCons (dSl (dVar 4) dNoP (dPt (dVar 3))) (dCons (dVar 1) (dCons (dVar 2) dNil)))))) (dRet (dC .non)) dNext)
    (dRet (dCall oTuple (dCons (dSl (dVar 4) dNoP (dPt (dVar 3))) dNil)))))))
theorem rd_queue_of_bits : ∀ ds M R, sp_queue_of_bits ds M R X0 → w_queue_of_bits (retTo R X0) (startG N_queue_of_bits ds) M := fun ds M R h => by
  match ds, h with
  | [.tup xs, .int r, .int w], h =>
    obtain ⟨bits, room, width, rfl, rfl, rfl, h1, h2, hlen, hbit, q⟩ := h
    show w_queue_of_bits (retTo R X0) [some (.tup (nD bits)), some (.int room), some (.int width), none, none, none, none, none] M
    unfold w_queue_of_bits
    walk_at "x"
    rw [cut_to]
    refine x_sum_t (ns := (bits.take room).map fun (n : Nat) => (n : Int)) (by rw [nD_take, nD_ints]) ?_
    rw [sum_cast]
    walk_at "x"
    intro A hA
    walk_at "x"
    refine for_rg (n := room) (fun i Γ' M' => ∃ o5 o6, Γ' = [some (.tup (nD bits)), some (.int room), some (.int width), some (.int ((qlen bits room : Nat) : Int)), some (.loc A), o5, o6, none] ∧ M' = mup M A (.lst (nD (qwords bits room width i)))) rfl ⟨_, _, rfl, rfl⟩ (fun _ _ _ _ => trivial) (fun i Γ' M' N hi hI hN => ?_) (fun Γ' M' hI => ?_)
    · obtain ⟨o5, o6, rfl, rfl⟩ := hI
      walk_at "x"
      have hpos : room + (i + 1) * width ≤ bits.length := by
        rw [hlen, Nat.mul_add, Nat.mul_one]
        have := Nat.mul_le_mul_right width (show i + 1 ≤ room by omega)
        omega
      have hat : ((room : Int) + (i : Int) * (width : Int)) = ((room + i * width : Nat) : Int) := by simp
      rw [Nat.succ_mul] at hpos
      rw [hat]
      generalize hat' : room + i * width = at0 at hpos
      refine lc_rg (n := width) (fun j => .int ((bits.getD (at0 + j) 0 * 2 ^ j : Nat) : Int)) rfl (by omega) (fun j hj M' sb K F hK => ?_) (fun B hB => lcF_mk hB ?_)
      · have hg : (nD bits)[((at0 : Int) + (j : Int)).toNat]? = some (.int ((bits.getD (at0 + j) 0 : Nat) : Int)) := by
          have : ((at0 : Int) + (j : Int)).toNat = at0 + j := by omega
          rw [this]
          exact nD_get (by omega)
        have hb : bits.getD (at0 + j) 0 ≤ 1 := by
          have hl : at0 + j < bits.length := by omega
          have e : bits.getD (at0 + j) 0 = bits[at0 + j] := by simp [List.getD, hl]
          rw [e]; exact hbit _ (List.getElem_mem hl)
        walk_at "x"
        refine x_shl ⟨by omega, by omega, ?_⟩ ?_
        · have : ((bits.getD (at0 + j) 0 : Nat) : Int).natAbs ≤ 1 := by simpa using hb
          omega
        · have e : (((bits.getD (at0 + j) 0 : Nat) : Int) * 2 ^ (j : Int).toNat) = ((bits.getD (at0 + j) 0 * 2 ^ j : Nat) : Int) := by
            show ((bits.getD (at0 + j) 0 : Nat) : Int) * 2 ^ j = _
            rw [Int.natCast_mul, Int.natCast_pow]; rfl
          rw [e]
          exact hK
      · walk_at "x"
        refine x_sum_l (ns := ((List.range width).map fun j => bits.getD (at0 + j) 0 * 2 ^ j).map fun (n : Nat) => (n : Int)) (by rw [← nD_range, nD_ints]) ?_
        rw [sum_cast]
        refine ⟨_, mup_same, ?_, ?_⟩
        · rw [nD_len, qwords_len]
          exact Nat.lt_of_le_of_lt (show i ≤ 100 by omega) (by decide)
        · refine hN _ _ ⟨_, _, rfl, ?_⟩
          rw [mup_mup, qwords_succ, nD_app, hat']
          rfl
    · obtain ⟨o5, o6, rfl, rfl⟩ := hI
      walk_at "x"
      have hcut : cutD (nD (qwords bits room width room)) none (some ((qlen bits room : Nat) : Int)) = nD ((qwords bits room width room).take (qlen bits room)) := by rw [cut_to, nD_take]
      rw [hcut]
      refine ⟨_, room, width, .inr rfl, rfl, rfl, h1, h2, ?_⟩
      refine x_ne (okD_nDt _) (okD_nDt _) ?_
      have he : eqb (D.tup (nD bits)) (.tup (nD (qbits ((qwords bits room width room).take (qlen bits room)) room width))) = decide (bits = qbits ((qwords bits room width room).take (qlen bits room)) room width) := eqbs_nD _ _
      rw [he]
      walk_at "x"
      unfold unq at q
      by_cases hq : bits = qbits ((qwords bits room width room).take (qlen bits room)) room width
      · rw [if_pos hq] at q
        rw [decide_eq_true hq]
        show if false = true then _ else _
        walk_at "x"
        rw [hcut]
        walk_at "x"
        exact rt_sub (sub_new hA) q
      · rw [if_neg hq] at q
        rw [decide_eq_false hq]
        show if true = true then _ else _
        walk_at "x"
        exact rt_sub (sub_new hA) q
end Law
namespace Law
open PySem PySem.Spec PyProof.Rows L2 DL
local macro_rules | `(tactic| walk_at "x1") => `(tactic| first
  | with_reducible refine x_seq ?_ | with_reducible refine x_set ?_ | with_reducible refine x_ret ?_ | with_reducible refine x_ifS ?_ | with_reducible refine x_next ?_ | with_reducible refine x_asg ?_ | with_reducible refine x_drop ?_ | with_reducible refine x_for ?_ | with_reducible refine x_par ?_ | with_reducible refine ⟨_, _, rfl, ?_⟩
  | with_reducible refine x_op ?_ | ((with_reducible refine x_var (d := ?d) ?hx ?_); case hx => exact rfl) | with_reducible refine x_c ?_ | with_reducible refine x_B ?_ | with_reducible refine ⟨_, rfl, ?_⟩ | with_reducible refine x_call ?_ | with_reducible refine x_cons ?_ | with_reducible refine x_nil ?_ | with_reducible refine x_fn ?_
  | with_reducible refine x_if ?_ | with_reducible refine x_and ?_ | with_reducible refine x_or ?_ | with_reducible refine x_not ?_ | with_reducible refine x_andV ?_ | with_reducible refine x_orV ?_ | with_reducible refine x_notV ?_ | with_reducible refine x_chain ?_ | with_reducible refine x_un ?_
  | with_reducible refine x_tup ?_ | with_reducible refine x_lst ?_ | with_reducible refine x_lstM ?_ | with_reducible refine x_sz (by decide) ?_ | with_reducible refine x_sl ?_ | with_reducible refine x_noP ?_ | with_reducible refine x_pt ?_
  | with_reducible refine x_range1 ?_ | with_reducible refine x_iter ?_ | with_reducible refine x_go_tup ?_ | with_reducible refine x_go_lst ?_ | with_reducible refine x_lc ?_ | with_reducible refine x_lcM ?_ | with_reducible refine x_lc2 ?_ | with_reducible refine x_yes ?_ | with_reducible refine x_gName ?_ | with_reducible refine x_gSub ?_
  | ((with_reducible refine x_gTup ?hx ?_); case hx => exact rfl) | ((with_reducible refine x_gTupL ?hx ?_); case hx => exact rfl) | with_reducible refine x_gCons ?_ | with_reducible refine x_gNil ?_ | with_reducible refine x_retN ?_ | with_reducible refine x_brk ?_ | with_reducible refine x_cont ?_
  | with_reducible refine x_add_i ?_ | with_reducible refine x_sub ?_ | with_reducible refine x_band ?_ | with_reducible refine x_bor ?_ | with_reducible refine x_bxor ?_ | with_reducible refine x_neg ?_ | with_reducible refine x_lt ?_ | with_reducible refine x_le ?_ | with_reducible refine x_gt ?_ | with_reducible refine x_ge ?_ | with_reducible refine x_eqI ?_ | with_reducible refine x_neI ?_
  | with_reducible refine x_isN ?_ | with_reducible refine x_isnotN ?_ | with_reducible refine x_isB ?_ | with_reducible refine x_isnotB ?_ | with_reducible refine x_int ?_ | with_reducible refine x_intB ?_ | with_reducible refine x_abs ?_ | with_reducible refine x_len_t ?_ | with_reducible refine x_len_l ?_ | with_reducible refine x_tuple_t ?_ | with_reducible refine x_tuple_l ?_ | with_reducible refine x_list_t ?_ | with_reducible refine x_list_l ?_ | with_reducible refine x_list_s ?_
  | with_reducible refine x_sl_t ?_ | with_reducible refine x_sl_l ?_ | with_reducible refine x_iadd_i ?_ | with_reducible refine x_isi ?_ | with_reducible refine x_din ?_ | with_reducible refine x_dnotin ?_ | with_reducible refine x_dgetE ?_ | with_reducible refine x_dput ?_ | with_reducible refine x_append ?_
  | with_reducible refine x_T ?_ | with_reducible refine x_F ?_ | with_reducible refine x_nT ?_ | with_reducible refine x_nF ?_)
local macro_rules | `(tactic| walk_at "x2") => `(tactic| first
  | with_reducible refine x_bd (by omega) ?_ | with_reducible refine x_mod (by omega) ?_ | with_reducible refine x_div (by omega) ?_ | with_reducible refine x_shr (by omega) ?_ | with_reducible refine x_mul' (by omega) ?_ | with_reducible refine x_pow (by decide) ?_
  | ((with_reducible refine x_aug (x := ?d) ?hx ?_); case hx => exact rfl)
  | ((with_reducible refine x_ix_t (d := ?d) ?h0 ?hx ?_); (case h0 => omega); case hx => walk_at "at")
  | ((with_reducible refine x_ix_l (d := ?d) ?h0 ?hx ?_); (case h0 => omega); case hx => walk_at "at")
  | ((with_reducible refine x_ix_loc (ds := ?ds) (d := ?d) ?hm ?h0 ?hx ?_); (case hm => walk_at "m"); (case h0 => omega); case hx => walk_at "at")
  | ((with_reducible refine x_len_loc (ds := ?ds) ?hm ?_); case hm => walk_at "m") | ((with_reducible refine x_tuple_loc (ds := ?ds) ?hm ?_); case hm => walk_at "m") | ((with_reducible refine x_sl_loc (xs := ?ds) ?hm ?_); case hm => walk_at "m")
  | ((with_reducible refine ⟨_, ?ds, rfl, ?hm, ?_⟩); case hm => walk_at "m")
  | ((with_reducible refine ⟨_, ?ds, _, ?j, rfl, rfl, ?hm, ?hj, ?_⟩); (case hm => walk_at "m"); (case hj => walk_at "j")))
local macro_rules | `(tactic| walk_at "j") => `(tactic| exact rfl)
local macro_rules | `(tactic| walk_at "at") => `(tactic| first | exact rfl | assumption)
local macro_rules | `(tactic| walk_at "lt") => `(tactic| first | decide | omega | (simp; omega))
local macro_rules | `(tactic| walk_at "m") => `(tactic| first | exact mup_same | assumption)
local macro_rules | `(tactic| walk_at "x") => `(tactic| repeat (first | walk_at "x1" | walk_at "x2"))

abbrev N_queue_names : List Str := ["name", "room", "width", "found", "k", "j"]
def w_queue_names : DS := (dSeq (dSet 3 (dLc (dRange1 (dVar 1)) (dgName 4) dYes (dOp oAdd (dOp oAdd (dVar 0) (dC (.str ".more"))) (dCall oStr (dCons (dVar 4) dNil))) [4]))
    (dRet (dOp oAdd (dVar 3) (dLc2 (dRange1 (dVar 1)) (dgName 4) dYes (dRange1 (dVar 2)) (dgName 5) dYes (dOp oAdd (dOp oAdd (dOp oAdd (dOp oAdd (dVar 0) (dC (.str "."))) (dCall oStr (dCons (dVar 4) dNil))) (dC (.str "."))) (dCall oStr (dCons (dVar 5) dNil))) [4, 5] [5]))))
theorem len_app (a b : Str) : (a ++ b).length = a.length + b.length := PySem.Str.length_append a b
theorem flat_len {α : Type} (f : Nat → Nat → α) (w : Nat) : ∀ n, ((List.range n).flatMap fun k => (List.range w).map (f k)).length = n * w
  | 0 => by simp
  | n + 1 => by
    rw [List.range_succ, List.flatMap_append, List.length_append, flat_len f w n, Nat.succ_mul]
    simp
theorem rd_queue_names : ∀ ds M R, sp_queue_names ds M R X0 → w_queue_names (retTo R X0) (startG N_queue_names ds) M := fun ds M R h => by
  match ds, h with
  | [.str name, .int r, .int w], h =>
    obtain ⟨room, width, rfl, rfl, h1, h2, h3, q⟩ := h
    show w_queue_names (retTo R X0) [some (.str name), some (.int room), some (.int width), none, none, none] M
    unfold w_queue_names
    have lm : (Str.ofString ".more").length = 5 := by decide
    have lp : (Str.ofString ".").length = 1 := by decide
    have bd : ∀ n : Nat, n ≤ 1000 → n ≤ sizeLine := fun n h => Nat.le_trans h (by decide)
    walk_at "x"
    refine lc_rg (n := room) (fun k => .str (qname1 name k)) rfl (by omega) (fun k hk M' sb K F hK => ?_) (fun A hA => lcF_mk hA ?_)
    · have l1 := sN_small k (by omega)
      walk_at "x"
      refine x_add_s (bd _ (by omega)) ?_
      walk_at "x"
      refine x_str (Nat.lt_of_le_of_lt (Nat.log2_le_self _) (by omega)) ?_
      walk_at "x"
      exact x_add_s (bd _ (by rw [len_app]; show _ + (sN k).length ≤ _; omega)) hK
    · walk_at "x"
      intro A hA
      refine lc2_rg (n := room) (fun i => mup M A (.lst ((List.range i).flatMap fun k => (List.range width).map fun j => .str (qname2 name k j)))) rfl (fun k hk N hN => ?_) (lcF_mk hA ?_)
      · have l1 := sN_small k (by omega)
        walk_at "x"
        refine lc_grow (n := width) (fun j => .str (qname2 name k j)) rfl hA ?_ (fun j hj M' sb K F hK => ?_) ?_
        · rw [flat_len]
          have : k * width ≤ 8 * 8 := Nat.mul_le_mul (by omega) h2
          omega
        · have l2 := sN_small j (by omega)
          walk_at "x"
          refine x_add_s (bd _ (by omega)) ?_
          walk_at "x"
          refine x_str (Nat.lt_of_le_of_lt (Nat.log2_le_self _) (by omega)) ?_
          refine x_add_s (bd _ (by rw [len_app]; show _ + (sN k).length ≤ _; omega)) ?_
          walk_at "x"
          refine x_add_s (bd _ (by rw [len_app, len_app]; show _ + (sN k).length + _ ≤ _; omega)) ?_
          walk_at "x"
          refine x_str (Nat.lt_of_le_of_lt (Nat.log2_le_self _) (by omega)) ?_
          exact x_add_s (bd _ (by rw [len_app, len_app, len_app]; show _ + (sN k).length + _ + (sN j).length ≤ _; omega)) hK
        · rw [List.range_succ, List.flatMap_append] at hN
          simp only [List.flatMap_cons, List.flatMap_nil, List.append_nil] at hN
          exact hN
      · refine x_add_l ?_ (rt_here ?_)
        · rw [flat_len, List.length_map, List.length_range]
          have : room * width ≤ 8 * 8 := Nat.mul_le_mul h1 h2
          exact bd _ (by omega)
        · have e : (List.range room).map (fun k => D.str (qname1 name k)) ++ ((List.range room).flatMap fun k => (List.range width).map fun j => D.str (qname2 name k j)) = sD (qnames name room width) := by
            unfold sD qnames
            rw [List.map_append, List.map_map, List.map_flatMap]
            simp only [List.map_map]
            rfl
          rw [e]
          exact q
end Law
namespace Law
open PySem PySem.Spec PyProof.Rows L2 DL
local macro_rules | `(tactic| walk_at "x1") => `(tactic| first
  | with_reducible refine x_seq ?_ | with_reducible refine x_set ?_ | with_reducible refine x_ret ?_ | with_reducible refine x_ifS ?_ | with_reducible refine x_next ?_ | with_reducible refine x_asg ?_ | with_reducible refine x_drop ?_ | with_reducible refine x_for ?_ | with_reducible refine x_par ?_ | with_reducible refine ⟨_, _, rfl, ?_⟩
  | with_reducible refine x_op ?_ | ((with_reducible refine x_var (d := ?d) ?hx ?_); case hx => exact rfl) | with_reducible refine x_c ?_ | with_reducible refine x_B ?_ | with_reducible refine ⟨_, rfl, ?_⟩ | with_reducible refine x_call ?_ | with_reducible refine x_cons ?_ | with_reducible refine x_nil ?_ | with_reducible refine x_fn ?_
  | with_reducible refine x_if ?_ | with_reducible refine x_and ?_ | with_reducible refine x_or ?_ | with_reducible refine x_not ?_ | with_reducible refine x_andV ?_ | with_reducible refine x_orV ?_ | with_reducible refine x_notV ?_ | with_reducible refine x_chain ?_ | with_reducible refine x_un ?_
  | with_reducible refine x_tup ?_ | with_reducible refine x_lst ?_ | with_reducible refine x_lstM ?_ | with_reducible refine x_sz (by decide) ?_ | with_reducible refine x_sl ?_ | with_reducible refine x_noP ?_ | with_reducible refine x_pt ?_
  | with_reducible refine x_range1 ?_ | with_reducible refine x_iter ?_ | with_reducible refine x_go_tup ?_ | with_reducible refine x_go_lst ?_ | with_reducible refine x_lc ?_ | with_reducible refine x_lcM ?_ | with_reducible refine x_lc2 ?_ | with_reducible refine x_yes ?_ | with_reducible refine x_gName ?_ | with_reducible refine x_gSub ?_
  | ((with_reducible refine x_gTup ?hx ?_); case hx => exact rfl) | ((with_reducible refine x_gTupL ?hx ?_); case hx => exact rfl) | with_reducible refine x_gCons ?_ | with_reducible refine x_gNil ?_ | with_reducible refine x_retN ?_ | with_reducible refine x_brk ?_ | with_reducible refine x_cont ?_
  | with_reducible refine x_add_i ?_ | with_reducible refine x_sub ?_ | with_reducible refine x_band ?_ | with_reducible refine x_bor ?_ | with_reducible refine x_bxor ?_ | with_reducible refine x_neg ?_ | with_reducible refine x_lt ?_ | with_reducible refine x_le ?_ | with_reducible refine x_gt ?_ | with_reducible refine x_ge ?_ | with_reducible refine x_eqI ?_ | with_reducible refine x_neI ?_
  | with_reducible refine x_isN ?_ | with_reducible refine x_isnotN ?_ | with_reducible refine x_isB ?_ | with_reducible refine x_isnotB ?_ | with_reducible refine x_int ?_ | with_reducible refine x_intB ?_ | with_reducible refine x_abs ?_ | with_reducible refine x_len_t ?_ | with_reducible refine x_len_l ?_ | with_reducible refine x_tuple_t ?_ | with_reducible refine x_tuple_l ?_ | with_reducible refine x_list_t ?_ | with_reducible refine x_list_l ?_ | with_reducible refine x_list_s ?_
  | with_reducible refine x_sl_t ?_ | with_reducible refine x_sl_l ?_ | with_reducible refine x_iadd_i ?_ | with_reducible refine x_isi ?_ | with_reducible refine x_din ?_ | with_reducible refine x_dnotin ?_ | with_reducible refine x_dgetE ?_ | with_reducible refine x_dput ?_ | with_reducible refine x_append ?_
  | with_reducible refine x_T ?_ | with_reducible refine x_F ?_ | with_reducible refine x_nT ?_ | with_reducible refine x_nF ?_)
local macro_rules | `(tactic| walk_at "x2") => `(tactic| first
  | with_reducible refine x_bd (by omega) ?_ | with_reducible refine x_mod (by omega) ?_ | with_reducible refine x_div (by omega) ?_ | with_reducible refine x_shr (by omega) ?_ | with_reducible refine x_mul' (by omega) ?_ | with_reducible refine x_pow (by decide) ?_
  | ((with_reducible refine x_aug (x := ?d) ?hx ?_); case hx => exact rfl)
  | ((with_reducible refine x_ix_t (d := ?d) ?h0 ?hx ?_); (case h0 => omega); case hx => walk_at "at")
  | ((with_reducible refine x_ix_l (d := ?d) ?h0 ?hx ?_); (case h0 => omega); case hx => walk_at "at")
  | ((with_reducible refine x_ix_loc (ds := ?ds) (d := ?d) ?hm ?h0 ?hx ?_); (case hm => walk_at "m"); (case h0 => omega); case hx => walk_at "at")
  | ((with_reducible refine x_len_loc (ds := ?ds) ?hm ?_); case hm => walk_at "m") | ((with_reducible refine x_tuple_loc (ds := ?ds) ?hm ?_); case hm => walk_at "m") | ((with_reducible refine x_sl_loc (xs := ?ds) ?hm ?_); case hm => walk_at "m")
  | ((with_reducible refine ⟨_, ?ds, rfl, ?hm, ?_⟩); case hm => walk_at "m")
  | ((with_reducible refine ⟨_, ?ds, _, ?j, rfl, rfl, ?hm, ?hj, ?_⟩); (case hm => walk_at "m"); (case hj => walk_at "j")))
local macro_rules | `(tactic| walk_at "j") => `(tactic| exact rfl)
local macro_rules | `(tactic| walk_at "at") => `(tactic| first | exact rfl | assumption)
local macro_rules | `(tactic| walk_at "lt") => `(tactic| first | decide | omega | (simp; omega))
local macro_rules | `(tactic| walk_at "m") => `(tactic| first | exact mup_same | assumption)
local macro_rules | `(tactic| walk_at "x") => `(tactic| repeat (first | walk_at "x1" | walk_at "x2"))

abbrev N_law_all : List Str := ["room", "width", "many", "met", "number", "bits", "words", "k", "word"]
def w_law_all : DS := (dSeq (dSet 2 (dOp oMul (dVar 0) (dOp oAdd (dC (.int 1)) (dVar 1))))
    (dSeq (dSet 3 dDNewT)
    (dSeq (dFor (dRange1 (dOp oShl (dC (.int 1)) (dVar 2))) (dgName 4) (dSeq (dSet 5 (dCall oTuple (dCons (dLc (dRange1 (dVar 2)) (dgName 7) dYes (dOp oAnd (dOp oShr (dVar 4) (dVar 7)) (dC (.int 1))) [7]) dNil)))
    (dSeq (dSet 6 (dFn sp_queue_of_bits [] (dCons (dVar 5) (dCons (dVar 0) (dCons (dVar 1) dNil)))))
    (dSeq (dIfS (dB (dOp oIs (dVar 6) (dC .non))) dCont dNext)
    (dSeq (dIfS (dOr (dNot (dB (dIsi "tuple" (dVar 6)))) (dOr (dB (dDIn (dVar 6) (dVar 3))) (dOr (dB (dOp oNe (dFn sp_queue_bits [] (dCons (dVar 6) (dCons (dVar 0) (dCons (dVar 1) dNil)))) (dVar 5))) (dB (dOp oNe (dLc (dIter (dVar 6)) (dgName 8) (dNot (dB (dChain oLe oLt (dC (.int 0)) (dVar 8) (dOp oShl (dC (.int 1)) (dVar 1))))) (dVar 8) [8]) (dLst dNil)))))) (dRet (dC (.bl false))) dNext)
    (dDPut (dVar 3) (dVar 6) (dVar 5)))))))
    (dRet (dOp oEq (dCall oLen (dCons (dVar 3) dNil)) (dCall oSum (dCons (dLc (dRange1 (dOp oAdd (dVar 0) (dC (.int 1)))) (dgName 7) dYes (dOp oShl (dC (.int 1)) (dOp oMul (dVar 1) (dVar 7))) [7]) dNil)))))))
theorem keyT_nD (ws : List Nat) : keyT (.tup (nD ws)) = some (kN ws) := by
  show (nD ws).mapM keyK = some (kN ws)
  induction ws with
  | nil => rfl
  | cons w ws ih =>
    show List.mapM keyK (D.int (w : Int) :: nD ws) = _
    rw [List.mapM_cons, ih]; rfl
theorem rd_law_all : ∀ ds M R, sp_law_all ds M R X0 → w_law_all (retTo R X0) (startG N_law_all ds) M := fun ds M R h => by
  match ds, h with
  | [.int r, .int w], h =>
    obtain ⟨room, width, hc, rfl, rfl, q⟩ := h
    obtain ⟨h1, h2, h3, h4⟩ := small7 _ hc
    have cnt := count7 _ hc
    simp only at h1 h2 h3 h4 cnt
    show w_law_all (retTo R X0) [some (.int room), some (.int width), none, none, none, none, none, none, none] M
    unfold w_law_all
    walk_at "x"
    have em : ((room : Int) * (1 + (width : Int))) = ((room * (1 + width) : Nat) : Int) := by simp
    rw [em]
    rw [← metAt_len] at cnt
    generalize hmany : room * (1 + width) = many at h3 h4 cnt ⊢
    intro A hA
    walk_at "x"
    refine x_shl ⟨by omega, by omega, by decide⟩ ?_
    have e1 : (1 : Int) * 2 ^ (many : Int).toNat = ((2 ^ many : Nat) : Int) := by
      rw [Int.one_mul, Int.natCast_pow]; rfl
    rw [e1]
    generalize htot : 2 ^ many = tot at h3 cnt ⊢
    walk_at "x"
    refine for_rg (n := tot) (fun i Γ' M' => ∃ o4 o5 o6 o7, Γ' = [some (.int room), some (.int width), some (.int many), some (.loc A), o4, o5, o6, o7, none] ∧ M' = mup M A (.dT (metAt room width i))) rfl ⟨_, _, _, _, rfl, rfl⟩ (fun _ _ _ _ => trivial) (fun i Γ' M' N hi hI hN => ?_) (fun Γ' M' hI => ?_)
    · obtain ⟨o4, o5, o6, o7, rfl, rfl⟩ := hI
      walk_at "x"
      refine lc_rg (n := many) (fun k => .int ((bitN i k : Nat) : Int)) rfl (by omega) (fun k hk M' sb K F hK => ?_) (fun B hB => lcF_mk hB ?_)
      · walk_at "x"
        rw [bit_cast]
        exact hK
      · rw [← nD_range, show nD ((List.range many).map fun k => bitN i k) = nD (bn i many) from rfl]
        walk_at "x"
        refine ⟨bn i many, room, width, rfl, rfl, rfl, by omega, by omega, by rw [bn_len, hmany], bn_le _ _, ?_⟩
        have hnx := metAt_succ room width i
        rw [hmany] at hnx
        cases hu : unq (bn i many) room width with
        | none =>
          rw [hu] at hnx
          walk_at "x"
          exact hN _ _ ⟨_, _, _, _, rfl, by rw [hnx, List.append_nil]⟩
        | some ws =>
          rw [hu] at hnx
          have hnew := metAt_new (room := room) (width := width) (i := i) (ws := ws) (by rw [hmany, htot]; exact hi) (by rw [hmany]; exact hu)
          have hlt := unq_lt (bn_le i many) hu
          have hq := (unq_some hu).1
          rw [show unqD (some ws) = .tup (nD ws) from rfl]
          walk_at "x"
          refine x_F ?_
          walk_at "x"
          refine ⟨"tuple", true, rfl, by decide +kernel, ?_⟩
          walk_at "x"
          refine ⟨none, by rw [dget_T mup_same (keyT_nD ws), look_none hnew], ?_⟩
          walk_at "x"
          show if false = true then _ else _
          walk_at "x"
          refine ⟨ws, room, width, .inl rfl, rfl, rfl, by omega, by omega, ?_⟩
          walk_at "x"
          refine x_ne (okD_nDt _) (okD_nDt _) ?_
          rw [show eqb (D.tup (nD (qbits ws room width))) (.tup (nD (bn i many))) = true from by
            show eqbs _ _ = true
            rw [eqbs_nD, ← hq]; simp]
          walk_at "x"
          refine lc_filter (fun _ => false) id (by rw [nD_len]; exact Nat.le_trans (unq_len hu) (Nat.le_trans h1 (by decide))) (fun _ _ z => by cases z) (fun d hd _ M' sb K F hF => ?_) (fun B hB => lcF_mk hB ?_)
          · obtain ⟨w, hw, rfl⟩ := List.mem_map.mp hd
            have hw := hlt w hw
            walk_at "x"
            refine x_yesD (by omega) ?_
            walk_at "x"
            refine x_shl ⟨by omega, by omega, by decide⟩ ?_
            have e2 : (1 : Int) * 2 ^ (width : Int).toNat = ((2 ^ width : Nat) : Int) := by
              rw [Int.one_mul, Int.natCast_pow]; rfl
            rw [e2]
            walk_at "x"
            rw [decide_eq_true (show (w : Int) < ((2 ^ width : Nat) : Int) by omega)]
            walk_at "x"
            exact hF
          · walk_at "x"
            have e3 : List.map id (List.filter (fun _ => false) (nD ws)) = [] := by simp
            rw [e3]
            refine x_ne (by decide) (by decide) ?_
            walk_at "x"
            show if false = true then _ else _
            walk_at "x"
            refine ⟨_, dput_T mup_same (keyT_nD ws) ?_, ?_⟩
            · refine Nat.lt_of_le_of_lt (m := 1000) ?_ (by decide)
              rw [metAt_len]
              refine Nat.le_trans (List.length_filterMap_le _ _) ?_
              rw [List.length_range]; omega
            · refine hN _ _ ⟨_, _, _, _, rfl, ?_⟩
              rw [mup_mup, put_new hnew, hnx]
    · obtain ⟨o4, o5, o6, o7, rfl, rfl⟩ := hI
      walk_at "x"
      refine x_len_dT mup_same ?_
      walk_at "x"
      have e4 : (room : Int) + 1 = ((room + 1 : Nat) : Int) := by omega
      refine lc_rg (n := room + 1) (fun k => .int ((2 ^ (width * k) : Nat) : Int)) e4 (by omega) (fun k hk M' sb K F hK => ?_) (fun B hB => lcF_mk hB ?_)
      · walk_at "x"
        have hw : (width : Int) * (k : Int) = ((width * k : Nat) : Int) := by simp
        rw [hw]
        have hb : width * k ≤ 8 * 4 := Nat.mul_le_mul h2 (by omega)
        refine x_shl ⟨by omega, by omega, by decide⟩ ?_
        have e2 : (1 : Int) * 2 ^ ((width * k : Nat) : Int).toNat = ((2 ^ (width * k) : Nat) : Int) := by
          rw [Int.one_mul, Int.natCast_pow]; rfl
        rw [e2]
        exact hK
      · walk_at "x"
        refine x_sum_l (ns := ((List.range (room + 1)).map fun k => 2 ^ (width * k)).map fun (n : Nat) => (n : Int)) (by rw [← nD_range, nD_ints]) ?_
        rw [sum_cast, cnt]
        walk_at "x"
        rw [beq_self_eq_true]
        exact rt_sub (sub_new hA) q
end Law
namespace Law
open PySem PySem.Spec PyProof.Rows L2 DL
theorem getD_map_range (f : Nat → Nat) {n k : Nat} (h : k < n) : ((List.range n).map f).getD k 0 = f k := by simp [List.getD, h]
theorem getD_app_l {a b : List Nat} {k : Nat} (h : k < a.length) : (a ++ b).getD k 0 = a.getD k 0 := by
  simp [List.getD, List.getElem?_append_left h]
theorem getD_app_r {a b : List Nat} {k : Nat} : (a ++ b).getD (a.length + k) 0 = b.getD k 0 := by
  simp [List.getD, List.getElem?_append_right]
theorem getD_out {a : List Nat} {k : Nat} (h : a.length ≤ k) : a.getD k 0 = 0 := by simp [List.getD_eq_getElem?_getD, List.getElem?_eq_none h]
theorem ext_getD {a b : List Nat} (hl : a.length = b.length) (h : ∀ k, k < a.length → a.getD k 0 = b.getD k 0) : a = b := by
  apply List.ext_getElem hl
  intro i h1 h2
  have := h i h1
  simpa [List.getD, h1, h2] using this
theorem getD_set {a : List Nat} {i k x : Nat} (hi : i < a.length) : (a.set i x).getD k 0 = if k = i then x else a.getD k 0 := by
  by_cases e : k = i
  · subst e; simp [List.getD, hi]
  · rw [if_neg e]
    simp [List.getD, List.getElem?_set_ne (Ne.symm e)]
theorem qb_flag (ws : List Nat) {room width k : Nat} (h : k < room) : (qbits ws room width).getD k 0 = if k < ws.length then 1 else 0 := by
  unfold qbits
  rw [getD_app_l (by rw [moreN_len]; exact h)]
  exact getD_map_range _ h
theorem rows_get (ws : List Nat) (width j : Nat) (hj : j < width) : ∀ m k, k < m → (rowsN ws width m).getD (k * width + j) 0 = bitN (ws.getD k 0) j
  | 0, k, h => by omega
  | m + 1, k, h => by
    rw [rowsN_succ]
    by_cases e : k < m
    · have : k * width + j < m * width := by
        have := Nat.mul_le_mul_right width (show k + 1 ≤ m by omega)
        rw [Nat.succ_mul] at this; omega
      rw [getD_app_l (by rw [rowsN_len]; exact this)]
      exact rows_get ws width j hj m k e
    · have e : k = m := by omega
      subst e
      have e2 : k * width + j = (rowsN ws width k).length + j := by rw [rowsN_len]
      rw [e2, getD_app_r]
      exact getD_map_range _ hj
theorem qb_row (ws : List Nat) {room width k j : Nat} (h : k < room) (hj : j < width) : (qbits ws room width).getD (room + (k * width + j)) 0 = bitN (ws.getD k 0) j := by
  unfold qbits
  have := getD_app_r (a := moreN ws.length room) (b := rowsN ws width room) (k := k * width + j)
  rw [moreN_len] at this
  rw [this]
  exact rows_get ws width j hj room k h
/-- a place in a row of bits: a flag, or a word's bit -/
theorem place_of {room width k : Nat} (h : k < room * (1 + width)) : k < room ∨ ∃ q j, q < room ∧ j < width ∧ k = room + (q * width + j) := by
  by_cases e : k < room
  · exact .inl e
  · refine .inr ?_
    rw [Nat.mul_add, Nat.mul_one] at h
    have hw : 0 < width := by
      rcases Nat.eq_zero_or_pos width with z | z
      · rw [z] at h; omega
      · exact z
    refine ⟨(k - room) / width, (k - room) % width, ?_, Nat.mod_lt _ hw, ?_⟩
    · exact Nat.div_lt_of_lt_mul (by rw [Nat.mul_comm]; omega)
    · have := Nat.div_add_mod (k - room) width
      rw [Nat.mul_comm] at this
      omega
theorem bits_ext {a b : List Nat} {room width : Nat} (ha : a.length = room * (1 + width)) (hb : b.length = room * (1 + width)) (h1 : ∀ k, k < room → a.getD k 0 = b.getD k 0)
    (h2 : ∀ q j, q < room → j < width → a.getD (room + (q * width + j)) 0 = b.getD (room + (q * width + j)) 0) : a = b := ext_getD (by omega) fun k hk => by
  rcases place_of (by rw [← ha]; exact hk) with h | ⟨q, j, hq, hj, rfl⟩
  · exact h1 k h
  · exact h2 q j hq hj
theorem sum_bits (w : Nat) : ∀ n, ((List.range n).map fun j => bitN w j * 2 ^ j).sum = w % 2 ^ n
  | 0 => by simp [Nat.mod_one]
  | n + 1 => by
    rw [List.range_succ, List.map_append, List.sum_append, sum_bits w n]
    simp only [List.map_cons, List.map_nil, List.sum_cons, List.sum_nil, Nat.add_zero]
    unfold bitN
    rw [Nat.pow_succ, Nat.mod_mul, Nat.mul_comm (2 ^ n)]
theorem sum_flags (n : Nat) : ∀ m, ((List.range m).map fun k => if k < n then 1 else 0).sum = min n m
  | 0 => by simp
  | m + 1 => by
    rw [List.range_succ, List.map_append, List.sum_append, sum_flags n m]
    simp only [List.map_cons, List.map_nil, List.sum_cons, List.sum_nil, Nat.add_zero]
    split <;> omega
/-- the bits of a queue tell it -/
theorem unq_qbits {ws : List Nat} {room width : Nat} (hl : ws.length ≤ room) (hw : ∀ w ∈ ws, w < 2 ^ width) : unq (qbits ws room width) room width = some ws := by
  have e1 : qlen (qbits ws room width) room = ws.length := by
    unfold qlen qbits
    rw [List.take_append_of_le_length (by rw [moreN_len]; exact Nat.le_refl _), List.take_of_length_le (by rw [moreN_len]; exact Nat.le_refl _)]
    unfold moreN
    rw [sum_flags]
    omega
  have e2 : (qwords (qbits ws room width) room width room).take ws.length = ws := by
    apply ext_getD
    · rw [List.length_take, qwords_len]; omega
    · intro k hk
      rw [List.length_take, qwords_len] at hk
      have hk1 : k < ws.length := by omega
      have : ((qwords (qbits ws room width) room width room).take ws.length).getD k 0 = (qwords (qbits ws room width) room width room).getD k 0 := by
        simp [List.getD, List.getElem?_take, hk1]
      rw [this]
      unfold qwords
      rw [getD_map_range _ (by omega)]
      unfold wordOf
      have : (List.range width).map (fun j => (qbits ws room width).getD (room + k * width + j) 0 * 2 ^ j) = (List.range width).map fun j => bitN (ws.getD k 0) j * 2 ^ j := by
        apply List.map_congr_left
        intro j hj
        rw [Nat.add_assoc, qb_row ws (by omega) (List.mem_range.mp hj)]
      rw [this, sum_bits]
      apply Nat.mod_eq_of_lt
      have e : ws.getD k 0 = ws[k] := by simp [List.getD, hk1]
      rw [e]
      exact hw _ (List.getElem_mem hk1)
  unfold unq
  rw [e1, e2, if_pos rfl]
/-! ### one bit turned -/
def flip (bits : List Nat) (i : Nat) : List Nat := bits.set i (1 - bits.getD i 0)
def dueOf (ws : List Nat) (room width i : Nat) : Option (List Nat) :=
  if i < room then (if i = ws.length then some (ws ++ [0]) else if i + 1 = ws.length ∧ ws.getD i 0 = 0 then some (ws.take i) else none)
  else if (i - room) / width < ws.length then some (ws.set ((i - room) / width) (ws.getD ((i - room) / width) 0 ^^^ 2 ^ ((i - room) % width))) else none
theorem bitN_xor (w i j : Nat) : bitN (w ^^^ 2 ^ i) j = if j = i then 1 - bitN w j else bitN w j := by
  rw [bitN_test, bitN_test, Nat.testBit_xor, Nat.testBit_two_pow]
  by_cases e : j = i
  · subst e
    rw [if_pos rfl]
    cases w.testBit j <;> simp
  · rw [if_neg e]
    have : decide (i = j) = false := decide_eq_false (fun z => e z.symm)
    rw [this]
    cases w.testBit j <;> simp
theorem flip_len (bits : List Nat) (i : Nat) : (flip bits i).length = bits.length := List.length_set
theorem bitN_zero (j : Nat) : bitN 0 j = 0 := by simp [bitN]
theorem zsum : ∀ xs : List Nat, (xs.map fun _ => 0).sum = 0
  | [] => rfl
  | _ :: xs => by rw [List.map_cons, List.sum_cons, zsum xs]
theorem zero_of_bits {w width : Nat} (hw : w < 2 ^ width) (h : ∀ j, j < width → bitN w j = 0) : w = 0 := by
  have := sum_bits w width
  rw [Nat.mod_eq_of_lt hw] at this
  rw [← this]
  have e : (List.range width).map (fun j => bitN w j * 2 ^ j) = (List.range width).map fun _ => 0 := List.map_congr_left fun j hj => by rw [h j (List.mem_range.mp hj), Nat.zero_mul]
  rw [e, zsum]
theorem turned {ws : List Nat} {room width i : Nat} (hl : ws.length ≤ room) (hw : ∀ w ∈ ws, w < 2 ^ width) (hi : i < room * (1 + width)) : unq (flip (qbits ws room width) i) room width = dueOf ws room width i := by
  have hlen : i < (qbits ws room width).length := by rw [qbits_len]; exact hi
  have fl : ∀ k, (flip (qbits ws room width) i).getD k 0 = if k = i then 1 - (qbits ws room width).getD i 0 else (qbits ws room width).getD k 0 := fun k => getD_set hlen
  have wd : ∀ k, ws.getD k 0 < 2 ^ width := fun k => by
    by_cases e : k < ws.length
    · have e2 : ws.getD k 0 = ws[k] := by simp [List.getD, e]
      rw [e2]; exact hw _ (List.getElem_mem e)
    · rw [getD_out (by omega)]; exact Nat.pos_of_ne_zero (by simp)
  -- what shows that it is this queue
  have is : ∀ vs : List Nat, vs.length ≤ room → (∀ w ∈ vs, w < 2 ^ width) → (∀ k, k < room → (flip (qbits ws room width) i).getD k 0 = if k < vs.length then 1 else 0) →
      (∀ q j, q < room → j < width → (flip (qbits ws room width) i).getD (room + (q * width + j)) 0 = bitN (vs.getD q 0) j) → unq (flip (qbits ws room width) i) room width = some vs := fun vs h1 h2 h3 h4 => by
    have : flip (qbits ws room width) i = qbits vs room width := bits_ext (by rw [flip_len, qbits_len]) (qbits_len _ _ _) (fun k hk => by rw [h3 k hk, qb_flag vs hk]) (fun q j hq hj => by rw [h4 q j hq hj, qb_row vs hq hj])
    rw [this]
    exact unq_qbits h1 h2
  -- what shows that it is none
  have no : (∀ vs : List Nat, vs.length ≤ room → (∀ k, k < room → (flip (qbits ws room width) i).getD k 0 = if k < vs.length then 1 else 0) →
      (∀ q j, q < room → j < width → (flip (qbits ws room width) i).getD (room + (q * width + j)) 0 = bitN (vs.getD q 0) j) → False) → unq (flip (qbits ws room width) i) room width = none := fun h => by
    cases e : unq (flip (qbits ws room width) i) room width with
    | none => rfl
    | some vs =>
      refine (h vs (unq_len e) (fun k hk => ?_) (fun q j hq hj => ?_)).elim
      · rw [(unq_some e).1, qb_flag vs hk]
      · rw [(unq_some e).1, qb_row vs hq hj]
  unfold dueOf
  by_cases hir : i < room
  · rw [if_pos hir]
    have row : ∀ q j, q < room → j < width → (flip (qbits ws room width) i).getD (room + (q * width + j)) 0 = bitN (ws.getD q 0) j := fun q j hq hj => by
      rw [fl, if_neg (by omega), qb_row ws hq hj]
    have flag : ∀ k, k < room → (flip (qbits ws room width) i).getD k 0 = if k = i then 1 - (if i < ws.length then 1 else 0) else if k < ws.length then 1 else 0 := fun k hk => by
      rw [fl, qb_flag ws hir, qb_flag ws hk]
    by_cases e1 : i = ws.length
    · rw [if_pos e1]
      refine is _ (by simp; omega) (fun w hm => ?_) (fun k hk => ?_) (fun q j hq hj => ?_)
      · rcases List.mem_append.mp hm with h | h
        · exact hw w h
        · rw [List.mem_singleton.mp h]; exact Nat.pos_of_ne_zero (by simp)
      · rw [flag k hk, List.length_append, List.length_singleton]
        by_cases e : k = i
        · rw [if_pos e, if_neg (by omega), if_pos (by omega)]
        · rw [if_neg e]
          by_cases h : k < ws.length
          · rw [if_pos h, if_pos (by omega)]
          · rw [if_neg h, if_neg (by omega)]
      · rw [row q j hq hj]
        by_cases h : q < ws.length
        · rw [getD_app_l h]
        · rw [getD_out (by omega : ws.length ≤ q)]
          by_cases h2 : q = ws.length
          · have : (ws ++ [0]).getD q 0 = 0 := by
              have := getD_app_r (a := ws) (b := [0]) (k := 0)
              rw [h2]; simpa using this
            rw [this]
          · rw [getD_out (by simp; omega)]
    · rw [if_neg e1]
      by_cases e2 : i + 1 = ws.length ∧ ws.getD i 0 = 0
      · rw [if_pos e2]
        obtain ⟨e2, e3⟩ := e2
        have lt : (ws.take i).length = i := by rw [List.length_take]; omega
        refine is _ (by omega) (fun w hm => hw w (List.mem_of_mem_take hm)) (fun k hk => ?_) (fun q j hq hj => ?_)
        · rw [flag k hk, lt]
          by_cases e : k = i
          · rw [if_pos e, if_pos (by omega), if_neg (by omega)]
          · rw [if_neg e]
            by_cases h : k < ws.length
            · rw [if_pos h, if_pos (by omega)]
            · rw [if_neg h, if_neg (by omega)]
        · rw [row q j hq hj]
          by_cases h : q < i
          · have : (ws.take i).getD q 0 = ws.getD q 0 := by simp [List.getD, List.getElem?_take, h]
            rw [this]
          · rw [getD_out (by omega : (ws.take i).length ≤ q)]
            by_cases h2 : q = i
            · rw [h2, e3]
            · rw [getD_out (by omega)]
      · rw [if_neg e2]
        refine no fun vs h1 h2 h3 => ?_
        have f : ∀ k, k < room → (if k = i then 1 - (if i < ws.length then 1 else 0) else if k < ws.length then 1 else 0) = if k < vs.length then 1 else 0 := fun k hk => by rw [← flag k hk, h2 k hk]
        have fi := f i hir
        rw [if_pos rfl] at fi
        by_cases h : i < ws.length
        · rw [if_pos h] at fi
          have hv : vs.length ≤ i := by
            by_cases q : i < vs.length
            · rw [if_pos q] at fi; omega
            · omega
          by_cases h4 : i + 1 = ws.length
          · have hz : ws.getD i 0 = 0 := zero_of_bits (wd i) fun j hj => by
              have := (row i j hir hj).symm.trans (h3 i j hir hj)
              rw [this, getD_out hv, bitN_zero]
            exact e2 ⟨h4, hz⟩
          · have := f (i + 1) (by omega)
            rw [if_neg (by omega), if_pos (by omega), if_neg (by omega)] at this
            omega
        · rw [if_neg h] at fi
          have hv : i < vs.length := by
            by_cases q : i < vs.length
            · exact q
            · rw [if_neg q] at fi; omega
          have := f ws.length (by omega)
          rw [if_neg (by omega), if_neg (by omega), if_pos (by omega)] at this
          omega
  · rw [if_neg hir]
    obtain ⟨p, b, hp, hb, rfl⟩ : ∃ q j, q < room ∧ j < width ∧ i = room + (q * width + j) := by
      rcases place_of hi with h | h
      · exact absurd h hir
      · exact h
    have hw0 : 0 < width := by omega
    have ep : (room + (p * width + b) - room) / width = p := by
      rw [Nat.add_sub_cancel_left, Nat.mul_comm, Nat.mul_add_div hw0, Nat.div_eq_of_lt hb]; rfl
    have eb : (room + (p * width + b) - room) % width = b := by
      rw [Nat.add_sub_cancel_left, Nat.mul_comm, Nat.mul_add_mod, Nat.mod_eq_of_lt hb]
    rw [ep, eb]
    have flag : ∀ k, k < room → (flip (qbits ws room width) (room + (p * width + b))).getD k 0 = if k < ws.length then 1 else 0 := fun k hk => by
      rw [fl, if_neg (by omega), qb_flag ws hk]
    have row : ∀ q j, q < room → j < width → (flip (qbits ws room width) (room + (p * width + b))).getD (room + (q * width + j)) 0 = if q = p ∧ j = b then 1 - bitN (ws.getD p 0) b else bitN (ws.getD q 0) j := fun q j hq hj => by
      rw [fl, qb_row ws hp hb, qb_row ws hq hj]
      by_cases e : q = p ∧ j = b
      · rw [if_pos e, if_pos (by rw [e.1, e.2])]
      · rw [if_neg e, if_neg]
        intro z
        apply e
        have z : q * width + j = p * width + b := by omega
        have e1 : q = p := by
          have a1 : (q * width + j) / width = q := by rw [Nat.mul_comm, Nat.mul_add_div hw0, Nat.div_eq_of_lt hj]; rfl
          have a2 : (p * width + b) / width = p := by rw [Nat.mul_comm, Nat.mul_add_div hw0, Nat.div_eq_of_lt hb]; rfl
          rw [← a1, ← a2, z]
        exact ⟨e1, by rw [e1] at z; omega⟩
    by_cases h : p < ws.length
    · rw [if_pos h]
      refine is _ (by rw [List.length_set]; exact hl) (fun w hm => ?_) (fun k hk => by rw [flag k hk, List.length_set]) (fun q j hq hj => ?_)
      · rcases List.mem_or_eq_of_mem_set hm with h | h
        · exact hw w h
        · rw [h]
          exact Nat.xor_lt_two_pow (wd p) (Nat.pow_lt_pow_right (by omega) hb)
      · rw [row q j hq hj, getD_set h]
        by_cases e : q = p
        · rw [if_pos e, bitN_xor]
          by_cases e2 : j = b
          · rw [if_pos ⟨e, e2⟩, if_pos e2, e2]
          · rw [if_neg (fun z => e2 z.2), if_neg e2, e]
        · rw [if_neg (fun z => e z.1), if_neg e]
    · rw [if_neg h]
      refine no fun vs h1 h2 h3 => ?_
      have a := (row p b hp hb).symm.trans (h3 p b hp hb)
      rw [if_pos ⟨rfl, rfl⟩, getD_out (by omega : ws.length ≤ p), bitN_zero] at a
      have hv : vs.length ≤ p := by
        by_cases q : p < vs.length
        · have := (flag p hp).symm.trans (h2 p hp)
          rw [if_neg h, if_pos q] at this
          omega
        · omega
      rw [getD_out hv, bitN_zero] at a
      omega
end Law
namespace Law
open PySem PySem.Spec PyProof.Rows L2 DL
local macro_rules | `(tactic| walk_at "x1") => `(tactic| first
  | with_reducible refine x_seq ?_ | with_reducible refine x_set ?_ | with_reducible refine x_ret ?_ | with_reducible refine x_ifS ?_ | with_reducible refine x_next ?_ | with_reducible refine x_asg ?_ | with_reducible refine x_drop ?_ | with_reducible refine x_for ?_ | with_reducible refine x_par ?_ | with_reducible refine ⟨_, _, rfl, ?_⟩
  | with_reducible refine x_op ?_ | ((with_reducible refine x_var (d := ?d) ?hx ?_); case hx => exact rfl) | with_reducible refine x_c ?_ | with_reducible refine x_B ?_ | with_reducible refine ⟨_, rfl, ?_⟩ | with_reducible refine x_call ?_ | with_reducible refine x_cons ?_ | with_reducible refine x_nil ?_ | with_reducible refine x_fn ?_
  | with_reducible refine x_if ?_ | with_reducible refine x_and ?_ | with_reducible refine x_or ?_ | with_reducible refine x_not ?_ | with_reducible refine x_andV ?_ | with_reducible refine x_orV ?_ | with_reducible refine x_notV ?_ | with_reducible refine x_chain ?_ | with_reducible refine x_un ?_
  | with_reducible refine x_tup ?_ | with_reducible refine x_lst ?_ | with_reducible refine x_lstM ?_ | with_reducible refine x_sz (by decide) ?_ | with_reducible refine x_sl ?_ | with_reducible refine x_noP ?_ | with_reducible refine x_pt ?_
  | with_reducible refine x_range1 ?_ | with_reducible refine x_iter ?_ | with_reducible refine x_go_tup ?_ | with_reducible refine x_go_lst ?_ | with_reducible refine x_lc ?_ | with_reducible refine x_lcM ?_ | with_reducible refine x_lc2 ?_ | with_reducible refine x_yes ?_ | with_reducible refine x_gName ?_ | with_reducible refine x_gSub ?_
  | ((with_reducible refine x_gTup ?hx ?_); case hx => exact rfl) | ((with_reducible refine x_gTupL ?hx ?_); case hx => exact rfl) | with_reducible refine x_gCons ?_ | with_reducible refine x_gNil ?_ | with_reducible refine x_retN ?_ | with_reducible refine x_brk ?_ | with_reducible refine x_cont ?_
  | with_reducible refine x_add_i ?_ | with_reducible refine x_sub ?_ | with_reducible refine x_band ?_ | with_reducible refine x_bor ?_ | with_reducible refine x_bxor ?_ | with_reducible refine x_neg ?_ | with_reducible refine x_lt ?_ | with_reducible refine x_le ?_ | with_reducible refine x_gt ?_ | with_reducible refine x_ge ?_ | with_reducible refine x_eqI ?_ | with_reducible refine x_neI ?_
  | with_reducible refine x_isN ?_ | with_reducible refine x_isnotN ?_ | with_reducible refine x_isB ?_ | with_reducible refine x_isnotB ?_ | with_reducible refine x_int ?_ | with_reducible refine x_intB ?_ | with_reducible refine x_abs ?_ | with_reducible refine x_len_t ?_ | with_reducible refine x_len_l ?_ | with_reducible refine x_tuple_t ?_ | with_reducible refine x_tuple_l ?_ | with_reducible refine x_list_t ?_ | with_reducible refine x_list_l ?_ | with_reducible refine x_list_s ?_
  | with_reducible refine x_sl_t ?_ | with_reducible refine x_sl_l ?_ | with_reducible refine x_iadd_i ?_ | with_reducible refine x_isi ?_ | with_reducible refine x_din ?_ | with_reducible refine x_dnotin ?_ | with_reducible refine x_dgetE ?_ | with_reducible refine x_dput ?_ | with_reducible refine x_append ?_
  | with_reducible refine x_T ?_ | with_reducible refine x_F ?_ | with_reducible refine x_nT ?_ | with_reducible refine x_nF ?_)
local macro_rules | `(tactic| walk_at "x2") => `(tactic| first
  | with_reducible refine x_bd (by omega) ?_ | with_reducible refine x_mod (by omega) ?_ | with_reducible refine x_div (by omega) ?_ | with_reducible refine x_shr (by omega) ?_ | with_reducible refine x_mul' (by omega) ?_ | with_reducible refine x_pow (by decide) ?_
  | ((with_reducible refine x_aug (x := ?d) ?hx ?_); case hx => exact rfl)
  | ((with_reducible refine x_ix_t (d := ?d) ?h0 ?hx ?_); (case h0 => omega); case hx => walk_at "at")
  | ((with_reducible refine x_ix_l (d := ?d) ?h0 ?hx ?_); (case h0 => omega); case hx => walk_at "at")
  | ((with_reducible refine x_ix_loc (ds := ?ds) (d := ?d) ?hm ?h0 ?hx ?_); (case hm => walk_at "m"); (case h0 => omega); case hx => walk_at "at")
  | ((with_reducible refine x_len_loc (ds := ?ds) ?hm ?_); case hm => walk_at "m") | ((with_reducible refine x_tuple_loc (ds := ?ds) ?hm ?_); case hm => walk_at "m") | ((with_reducible refine x_sl_loc (xs := ?ds) ?hm ?_); case hm => walk_at "m")
  | ((with_reducible refine ⟨_, ?ds, rfl, ?hm, ?_⟩); case hm => walk_at "m")
  | ((with_reducible refine ⟨_, ?ds, _, ?j, rfl, rfl, ?hm, ?hj, ?_⟩); (case hm => walk_at "m"); (case hj => walk_at "j")))
local macro_rules | `(tactic| walk_at "j") => `(tactic| exact rfl)
local macro_rules | `(tactic| walk_at "at") => `(tactic| first | exact rfl | assumption)
local macro_rules | `(tactic| walk_at "lt") => `(tactic| first | decide | omega | (simp; omega))
local macro_rules | `(tactic| walk_at "m") => `(tactic| first | exact mup_same | assumption)
local macro_rules | `(tactic| walk_at "x") => `(tactic| repeat (first | walk_at "x1" | walk_at "x2"))

def sp_law_turned : DSp
  | [.lst xs, .int r, .int w], M, R, _ => ∃ (ws : List Nat) (room width : Nat), xs = nD ws ∧ r = room ∧ w = width ∧ room ≤ 8 ∧ 1 ≤ width ∧ width ≤ 8 ∧ ws.length ≤ room ∧ (∀ w ∈ ws, w < 2 ^ width) ∧ R (.bl true) M
  | _, _, _, _ => False
abbrev N_law_turned : List Str := ["words", "room", "width", "bits", "at", "other", "told", "place", "due"]
def w_law_turned : DS := (dSeq (dSet 3 (dFn sp_queue_bits [] (dCons (dCall oTuple (dCons (dVar 0) dNil)) (dCons (dVar 1) (dCons (dVar 2) dNil)))))
    (dSeq (dFor (dRange1 (dCall oLen (dCons (dVar 3) dNil))) (dgName 4) (dSeq (dSet 5 (dOp oAdd (dOp oAdd (dSl (dVar 3) dNoP (dPt (dVar 4))) (dTup (dCons (dOp oSub (dC (.int 1)) (dOp oIx (dVar 3) (dVar 4))) dNil))) (dSl (dVar 3) (dPt (dOp oAdd (dVar 4) (dC (.int 1)))) dNoP)))
    (dSeq (dPar 6 7 (dCons (dFn sp_queue_of_bits [] (dCons (dVar 5) (dCons (dVar 1) (dCons (dVar 2) dNil)))) (dCons (dOp oDiv (dOp oSub (dVar 4) (dVar 1)) (dVar 2)) dNil)))
    (dSeq (dIfS (dB (dOp oLt (dVar 4) (dVar 1))) (dSeq (dSet 8 (dC .non))
    (dIfS (dB (dOp oEq (dVar 4) (dCall oLen (dCons (dVar 0) dNil)))) (dSet 8 (dOp oAdd (dCall oTuple (dCons (dVar 0) dNil)) (dTup (dCons (dC (.int 0)) dNil)))) (dIfS (dAnd (dB (dOp oEq (dVar 4) (dOp oSub (dCall oLen (dCons (dVar 0) dNil)) (dC (.int 1))))) (dB (dOp oEq (dOp oIx (dVar 0) (dUn oNeg (dC (.int 1)))) (dC (.int 0))))) (dSet 8 (dCall oTuple (dCons (dSl (dVar 0) dNoP (dPt (dUn oNeg (dC (.int 1))))) dNil))) dNext))) (dIfS (dB (dOp oLt (dVar 7) (dCall oLen (dCons (dVar 0) dNil)))) (dSet 8 (dOp oAdd (dOp oAdd (dCall oTuple (dCons (dSl (dVar 0) dNoP (dPt (dVar 7))) dNil)) (dTup (dCons (dOp oXor (dOp oIx (dVar 0) (dVar 7)) (dOp oShl (dC (.int 1)) (dOp oMod (dOp oSub (dVar 4) (dVar 1)) (dVar 2)))) dNil))) (dCall oTuple (dCons (dSl (dVar 0) (dPt (dOp oAdd (dVar 7) (dC (.int 1)))) dNoP) dNil)))) (dSet 8 (dC .non))))
    (dIfS (dOr (dB (dOp oNe (dVar 6) (dVar 8))) (dB (dOp oNe (dOp oIs (dVar 6) (dC .non)) (dOp oIs (dVar 8) (dC .non))))) (dRet (dC (.bl false))) dNext)))))
    (dRet (dC (.bl true)))))
theorem flip_eq {B : List Nat} {i : Nat} (hi : i < B.length) (hb : B.getD i 0 ≤ 1) : nD (B.take i) ++ [D.int (1 - ((B.getD i 0 : Nat) : Int))] ++ nD (B.drop (i + 1)) = nD (flip B i) := by
  have e : D.int (1 - ((B.getD i 0 : Nat) : Int)) = D.int ((1 - B.getD i 0 : Nat) : Int) := by congr 1; omega
  rw [e]
  unfold flip
  rw [List.set_eq_take_append_cons_drop, if_pos hi]
  simp [nD]
theorem okD_unq (o : Option (List Nat)) : okD 64 (unqD o) = true := by
  cases o with
  | none => rfl
  | some ws => exact okD_nDt ws
theorem eqb_unq (o : Option (List Nat)) : eqb (unqD o) (unqD o) = true := by
  cases o with
  | none => rfl
  | some ws => show eqbs (nD ws) (nD ws) = true; rw [eqbs_nD, decide_eq_true rfl]
theorem x_ix_last {ws : List Nat} {i : Nat} {M : Mem} {R : Pst} (h : i + 1 = ws.length) (q : R (.int ((ws.getD i 0 : Nat) : Int)) M) : oIx (.lst (nD ws)) (.int (-1)) M R := by
  refine ⟨nD ws, _, rfl, ?_, q⟩
  have : (nD ws).length = i + 1 := by rw [nD_len, h]
  unfold atI ixN
  rw [this, if_neg (by omega), if_pos (by omega)]
  have e : ((-1 : Int) + ((i + 1 : Nat) : Int)).toNat = i := by omega
  simp only [Option.bind]
  rw [e]
  exact nD_get (by omega)
theorem cut_last {α : Type} {xs : List α} {i : Nat} (h : i + 1 = xs.length) : DL.cutD xs none (some (-1)) = xs.take i := by
  unfold DL.cutD
  have : HT.sIx xs.length xs.length (some (-1)) = i := by
    simp [HT.sIx]; omega
  rw [HT.sIx_none, this, List.drop_zero, Nat.sub_zero]
theorem qbits_le (ws : List Nat) (room width : Nat) : ∀ b ∈ qbits ws room width, b ≤ 1 := fun b hb => by
  rcases List.mem_append.mp hb with h | h
  · obtain ⟨k, _, rfl⟩ := List.mem_map.mp h
    show (if _ then 1 else 0) ≤ 1
    split <;> omega
  · obtain ⟨k, _, hk⟩ := List.mem_flatMap.mp h
    obtain ⟨j, _, rfl⟩ := List.mem_map.mp hk
    exact bitN_le _ _
theorem flip_le {B : List Nat} (h : ∀ b ∈ B, b ≤ 1) (i : Nat) : ∀ b ∈ flip B i, b ≤ 1 := fun b hb => by
  rcases List.mem_or_eq_of_mem_set hb with q | q
  · exact h b q
  · by_cases hi : i < B.length
    · omega
    · omega
theorem set_eq {ws : List Nat} {p x : Nat} (hp : p < ws.length) : D.tup (nD (ws.take p) ++ [D.int (x : Int)] ++ nD (ws.drop (p + 1))) = unqD (some (ws.set p x)) := by
  show _ = D.tup (nD (ws.set p x))
  rw [List.set_eq_take_append_cons_drop, if_pos hp]
  simp [nD]
theorem x_addT {a b : List D} {M : Mem} {R : Pst} (hl : a.length + b.length ≤ 1000) (h : R (.tup (a ++ b)) M) : oAdd (.tup a) (.tup b) M R := ⟨Nat.le_trans hl (by decide), h⟩
theorem rd_law_turned : ∀ ds M R, sp_law_turned ds M R X0 → w_law_turned (retTo R X0) (startG N_law_turned ds) M := fun ds M R h => by
  match ds, h with
  | [.lst xs, .int r, .int w], h =>
    obtain ⟨ws, room, width, rfl, rfl, rfl, h1, h20, h2, h3, h4, q⟩ := h
    show w_law_turned (retTo R X0) [some (.lst (nD ws)), some (.int room), some (.int width), none, none, none, none, none, none] M
    unfold w_law_turned
    walk_at "x"
    refine ⟨ws, room, width, .inl rfl, rfl, rfl, by omega, by omega, ?_⟩
    have tn := fun i (hi : i < room * (1 + width)) => turned (i := i) h3 h4 hi
    have hB1 : (qbits ws room width).length = room * (1 + width) := qbits_len _ _ _
    have hB2 := qbits_le ws room width
    rw [← hB1] at tn
    generalize qbits ws room width = B at tn hB1 hB2 ⊢
    have hmx : room * (1 + width) ≤ 8 * 9 := Nat.mul_le_mul h1 (by omega)
    walk_at "x"
    rw [nD_len]
    refine x_bd ⟨by omega, by omega⟩ ?_
    refine for_rg (n := B.length) (fun i Γ' M' => ∃ o4 o5 o6 o7 o8, Γ' = [some (.lst (nD ws)), some (.int room), some (.int width), some (.tup (nD B)), o4, o5, o6, o7, o8] ∧ M' = M) rfl ⟨_, _, _, _, _, rfl, rfl⟩ (fun _ _ _ _ => trivial) (fun i Γ' M' N hi hI hN => ?_) (fun Γ' M' hI => ?_)
    · obtain ⟨o4, o5, o6, o7, o8, rfl, rfl⟩ := hI
      have hN1 : ∀ (DD : DEnds) Γ2 M2, (∀ Γ M, N Γ M → DD.nx Γ M) → (∃ o5 o7, Γ2 = [some (.lst (nD ws)), some (.int room), some (.int width), some (.tup (nD B)), some (.int i), o5, some (unqD (dueOf ws room width i)), o7, some (unqD (dueOf ws room width i))] ∧ M2 = M') → dIfS (dOr (dB (dOp oNe (dVar 6) (dVar 8))) (dB (dOp oNe (dOp oIs (dVar 6) (dC .non)) (dOp oIs (dVar 8) (dC .non))))) (dRet (dC (.bl false))) dNext DD Γ2 M2 := fun DD Γ2 M2 hDD hI => by
        obtain ⟨o5, o7, rfl, rfl⟩ := hI
        walk_at "x"
        refine x_ne (okD_unq _) (okD_unq _) ?_
        rw [eqb_unq]
        walk_at "x"
        refine x_ne rfl rfl ?_
        rw [show eqb (D.bl (isNon (unqD (dueOf ws room width i)))) (D.bl (isNon (unqD (dueOf ws room width i)))) = true from by generalize isNon _ = b; cases b <;> rfl]
        walk_at "x"
        exact hDD _ _ (hN _ _ ⟨_, _, _, _, _, rfl, rfl⟩)
      have ti := tn i hi
      obtain ⟨o, ho⟩ : ∃ o, o = dueOf ws room width i := ⟨_, rfl⟩
      rw [← ho] at ti hN1
      have hw0 : (0 : Int) < (width : Int) := by omega
      have hbi : B.getD i 0 ≤ 1 := by
        have e : B.getD i 0 = B[i] := by simp [List.getD, hi]
        rw [e]; exact hB2 _ (List.getElem_mem hi)
      walk_at "x"
      rw [cut_to, nD_take]
      walk_at "x"
      refine x_ix_t (d := .int ((B.getD i 0 : Nat) : Int)) (by omega) (nD_get hi) ?_
      walk_at "x"
      try refine x_sz (ds := [_]) (Nat.le_of_ble_eq_true rfl) ?_
      refine x_addT ?h ?_
      case h => simp [nD]; omega
      walk_at "x"
      rw [show ((i : Int) + 1) = ((i + 1 : Nat) : Int) from by omega, cut_from, nD_drop]
      try refine x_sz (ds := [_]) (Nat.le_of_ble_eq_true rfl) ?_
      refine x_addT ?h ?_
      case h => simp [nD]; omega
      rw [flip_eq hi hbi]
      walk_at "x"
      refine ⟨flip B i, room, width, rfl, rfl, rfl, by omega, by omega, by rw [flip_len, hB1], flip_le hB2 i, ?_⟩
      rw [ti]
      walk_at "x"
      unfold dueOf at ho
      refine x_both (fun hir => ?_) (fun hir => ?_)
      · have hir : i < room := by omega
        rw [if_pos hir] at ho
        walk_at "x"
        rw [nD_len]
        refine x_bothE (fun he => ?_) (fun he => ?_)
        · have he : i = ws.length := by omega
          rw [if_pos he] at ho
          walk_at "x"
          try refine x_sz (ds := [_]) (Nat.le_of_ble_eq_true rfl) ?_
          refine x_addT ?h ?_
          case h => simp [nD]; omega
          subst ho
          rw [show unqD (some (ws ++ [0])) = .tup (nD ws ++ [.int 0]) from by show D.tup (nD (ws ++ [0])) = _; rw [nD_app]; rfl] at hN1 ⊢
          exact hN1 _ _ _ (fun _ _ z => z) ⟨_, _, rfl, rfl⟩
        · have he : ¬ i = ws.length := by omega
          rw [if_neg he] at ho
          walk_at "x"
          rw [nD_len]
          refine x_bothE (fun hl => ?_) (fun hl => ?_)
          · have hl : i + 1 = ws.length := by omega
            walk_at "x"
            refine x_ix_last hl ?_
            walk_at "x"
            refine x_bothE (fun hz => ?_) (fun hz => ?_)
            · rw [if_pos ⟨hl, by omega⟩] at ho
              walk_at "x"
              rw [cut_last (by rw [nD_len]; exact hl), nD_take]
              subst ho
              refine x_ne (okD_unq _) (okD_nDt _) ?_
              rw [show eqb (unqD (some (ws.take i))) (.tup (nD (ws.take i))) = true from eqb_unq (some (ws.take i))]
              walk_at "x"
              refine x_ne rfl rfl ?_
              rw [show eqb (D.bl (isNon (unqD (some (ws.take i))))) (D.bl (isNon (D.tup (nD (ws.take i))))) = true from rfl]
              walk_at "x"
              exact hN _ _ ⟨_, _, _, _, _, rfl, rfl⟩
            · rw [if_neg (fun z => hz (by omega))] at ho
              try with_reducible refine x_F ?_
              with_reducible refine x_next ?_
              subst ho
              exact hN1 _ _ _ (fun _ _ z => z) ⟨_, _, rfl, rfl⟩
          · rw [if_neg (fun z => hl (by omega))] at ho
            try with_reducible refine x_F ?_
            with_reducible refine x_next ?_
            subst ho
            exact hN1 _ _ _ (fun _ _ z => z) ⟨_, _, rfl, rfl⟩
      · have hir : ¬ i < room := by omega
        rw [if_neg hir] at ho
        have ep : ((i : Int) - (room : Int)) / (width : Int) = (((i - room) / width : Nat) : Int) := by
          rw [show (i : Int) - (room : Int) = ((i - room : Nat) : Int) from by omega, Int.natCast_ediv]
        have em : ((i : Int) - (room : Int)) % (width : Int) = (((i - room) % width : Nat) : Int) := by
          rw [show (i : Int) - (room : Int) = ((i - room : Nat) : Int) from by omega, Int.natCast_emod]
        have hm : (i - room) % width < width := Nat.mod_lt _ (by omega)
        rw [ep]
        generalize (i - room) / width = p at ho ep ⊢
        walk_at "x"
        rw [nD_len]
        refine x_both (fun hp => ?_) (fun hp => ?_)
        · have hp : p < ws.length := by omega
          rw [if_pos hp] at ho
          walk_at "x"
          rw [cut_to, nD_take]
          walk_at "x"
          refine x_ix_l (d := .int ((ws.getD p 0 : Nat) : Int)) (by omega) (nD_get hp) ?_
          walk_at "x"
          rw [em]
          refine x_shl ⟨by omega, by omega, by decide⟩ ?_
          rw [show (1 : Int) * 2 ^ (((i - room) % width : Nat) : Int).toNat = ((2 ^ ((i - room) % width) : Nat) : Int) from by rw [Int.one_mul, Int.natCast_pow]; rfl]
          walk_at "x"
          rw [Bits.bitXor_pp (Int.natCast_nonneg _) (Int.natCast_nonneg _), Int.toNat_natCast, Int.toNat_natCast]
          try refine x_sz (ds := [_]) (Nat.le_of_ble_eq_true rfl) ?_
          refine x_addT ?h ?_
          case h => simp [nD]; omega
          walk_at "x"
          rw [show ((p : Int) + 1) = ((p + 1 : Nat) : Int) from by omega, cut_from, nD_drop]
          walk_at "x"
          try refine x_sz (ds := [_]) (Nat.le_of_ble_eq_true rfl) ?_
          refine x_addT ?h ?_
          case h => simp [nD]; omega
          subst ho
          rw [← set_eq hp] at hN1 ⊢
          exact hN1 _ _ _ (fun _ _ z => z) ⟨_, _, rfl, rfl⟩
        · have hp : ¬ p < ws.length := by omega
          rw [if_neg hp] at ho
          refine x_set ?_
          refine x_c ?_
          subst ho
          exact hN1 _ _ _ (fun _ _ z => z) ⟨_, _, rfl, rfl⟩
    · obtain ⟨o4, o5, o6, o7, o8, rfl, rfl⟩ := hI
      walk_at "x"
      exact rt_here q
end Law
namespace Law
open PySem PySem.Spec PyProof.Rows L2 DL
def suf1 (k : Nat) : Str := Str.ofString ".more" ++ sN k
def suf2 (k j : Nat) : Str := Str.ofString "." ++ (sN k ++ (Str.ofString "." ++ sN j))
def sufs (room width : Nat) : List Str := (List.range room).map suf1 ++ (List.range room).flatMap fun k => (List.range width).map (suf2 k)
theorem sufs_nodup : ∀ r, r < 5 → ∀ w, w < 9 → (sufs r w).Nodup := by decide +kernel
theorem qnames_pre (name : Str) (room width : Nat) : qnames name room width = (sufs room width).map (name ++ ·) := by
  unfold qnames sufs
  rw [List.map_append, List.map_map, List.map_flatMap]
  congr 1
  · apply List.map_congr_left
    intro k _
    exact Str.append_assoc _ _ _
  · congr 1
    funext k
    rw [List.map_map]
    apply List.map_congr_left
    intro j _
    show name ++ _ ++ sN k ++ _ ++ sN j = _
    rw [Str.append_assoc, Str.append_assoc, Str.append_assoc]; rfl
theorem app_inj {n a b : Str} (h : n ++ a = n ++ b) : a = b := by
  have : (n ++ a).cps = (n ++ b).cps := by rw [h]
  rw [Str.cps_append, Str.cps_append] at this
  cases a; cases b
  congr 1
  exact Array.append_right_inj _ |>.mp this
theorem qnames_nodup (name : Str) {room width : Nat} (h1 : room ≤ 4) (h2 : width ≤ 8) : (qnames name room width).Nodup := by
  rw [qnames_pre]
  exact List.Pairwise.map _ (fun a b h e => h (app_inj e)) (sufs_nodup room (by omega) width (by omega))
/-! the number -/
def numTo (ws : List Nat) (width m : Nat) : Nat := ((List.range m).map fun k => ws.getD k 0 * 2 ^ (k * width)).sum
theorem numTo_succ (ws : List Nat) (width m : Nat) : numTo ws width (m + 1) = numTo ws width m + ws.getD m 0 * 2 ^ (m * width) := by
  unfold numTo
  rw [List.range_succ, List.map_append, List.sum_append]
  simp
theorem numTo_out (ws : List Nat) (width : Nat) : ∀ d, numTo ws width (ws.length + d) = numTo ws width ws.length
  | 0 => rfl
  | d + 1 => by
    rw [← Nat.add_assoc, numTo_succ, numTo_out ws width d, getD_out (by omega), Nat.zero_mul, Nat.add_zero]
theorem sum_shift (c : Nat) (f : Nat → Nat) : ∀ n, ((List.range n).map fun j => c * f j).sum = c * ((List.range n).map f).sum
  | 0 => by simp
  | n + 1 => by
    rw [List.range_succ, List.map_append, List.map_append, List.sum_append, List.sum_append, sum_shift c f n]
    simp [Nat.mul_add]
theorem number_rows {ws : List Nat} {room width : Nat} (hw : ∀ w ∈ ws, w < 2 ^ width) : ∀ m, m ≤ room → ((List.range (m * width)).map fun k => (qbits ws room width).getD (room + k) 0 * 2 ^ k).sum = numTo ws width m
  | 0, _ => by simp [numTo]
  | m + 1, h => by
    rw [Nat.succ_mul, List.range_add, List.map_append, List.sum_append, number_rows hw m (by omega), numTo_succ, List.map_map]
    congr 1
    have : (List.range width).map ((fun k => (qbits ws room width).getD (room + k) 0 * 2 ^ k) ∘ fun x => m * width + x) = (List.range width).map fun j => 2 ^ (m * width) * (bitN (ws.getD m 0) j * 2 ^ j) := by
      apply List.map_congr_left
      intro j hj
      show (qbits ws room width).getD (room + (m * width + j)) 0 * 2 ^ (m * width + j) = _
      rw [qb_row ws (by omega) (List.mem_range.mp hj), Nat.pow_add, Nat.mul_left_comm]
    rw [this, sum_shift, sum_bits, Nat.mul_comm]
    congr 1
    apply Nat.mod_eq_of_lt
    by_cases e : m < ws.length
    · have e2 : ws.getD m 0 = ws[m] := by simp [List.getD, e]
      rw [e2]; exact hw _ (List.getElem_mem e)
    · rw [getD_out (by omega)]; exact Nat.pos_of_ne_zero (by simp)
theorem number_law {ws : List Nat} {room width : Nat} (hl : ws.length ≤ room) (hw : ∀ w ∈ ws, w < 2 ^ width) : ((List.range (room * width)).map fun k => (qbits ws room width).getD (room + k) 0 * 2 ^ k).sum = ((List.range ws.length).map fun k => ws.getD k 0 * 2 ^ (k * width)).sum := by
  rw [number_rows hw room (Nat.le_refl _)]
  obtain ⟨d, rfl⟩ := Nat.exists_eq_add_of_le hl
  exact numTo_out ws width d
theorem flags_sum {ws : List Nat} {room width : Nat} (hl : ws.length ≤ room) : ((qbits ws room width).take room).sum = ws.length := by
  unfold qbits
  rw [List.take_append_of_le_length (by rw [moreN_len]; exact Nat.le_refl _), List.take_of_length_le (by rw [moreN_len]; exact Nat.le_refl _)]
  unfold moreN
  rw [sum_flags]
  omega
/-! the rows of texts -/
theorem okD_sDl {xs : List Str} (h : ∀ x ∈ xs, PyData.strOk x = true) : okD 64 (.lst (sD xs)) = true := okDs_of (n := 63) fun d hd => by
  obtain ⟨n, hn, rfl⟩ := List.mem_map.mp hd
  exact h n hn
theorem strOk_app {a b : Str} (ha : PyData.strOk a = true) (hb : PyData.strOk b = true) : PyData.strOk (a ++ b) = true := by
  unfold PyData.strOk at *
  rw [Str.cps_append, Array.all_append, ha, hb]; rfl
theorem sufs_ok : ∀ r, r < 5 → ∀ w, w < 9 → (sufs r w).all PyData.strOk = true := by decide +kernel
theorem names_ok : ∀ i, i < 6 → PyData.strOk (Str.ofString "n" ++ sN i) = true := by decide +kernel
theorem qnames_ok {i room width : Nat} (h : i < 6) (h1 : room ≤ 4) (h2 : width ≤ 8) : ∀ x ∈ qnames (Str.ofString "n" ++ sN i) room width, PyData.strOk x = true := fun x hx => by
  rw [qnames_pre] at hx
  obtain ⟨y, hy, rfl⟩ := List.mem_map.mp hx
  exact strOk_app (names_ok i h) (List.all_eq_true.mp (sufs_ok room (by omega) width (by omega)) y hy)
theorem eqbs_sD : ∀ xs : List Str, eqbs (sD xs) (sD xs) = true
  | [] => rfl
  | x :: xs => by
    show (eqb (.str x) (.str x) && eqbs (sD xs) (sD xs)) = true
    rw [eqbs_sD xs]
    show (decide (x = x) && true) = true
    simp
theorem case_at {i : Nat} (h : i < 7) : ∃ p ∈ cases7, [D.tup [.int 1, .int 1], .tup [.int 1, .int 8], .tup [.int 2, .int 1], .tup [.int 2, .int 3], .tup [.int 3, .int 1], .tup [.int 3, .int 2], .tup [.int 4, .int 1]][i]? = some (.tup [.int (p.1 : Nat), .int (p.2 : Nat)]) := by
  match i, h with
  | 0, _ => exact ⟨(1, 1), by decide, rfl⟩
  | 1, _ => exact ⟨(1, 8), by decide, rfl⟩
  | 2, _ => exact ⟨(2, 1), by decide, rfl⟩
  | 3, _ => exact ⟨(2, 3), by decide, rfl⟩
  | 4, _ => exact ⟨(3, 1), by decide, rfl⟩
  | 5, _ => exact ⟨(3, 2), by decide, rfl⟩
  | 6, _ => exact ⟨(4, 1), by decide, rfl⟩
theorem word_at {i : Nat} {d : Int} {width : Nat} (h : i < 3) (h0 : 0 ≤ d) (hd : d < ((2 ^ width : Nat) : Int)) : ∃ w : Nat, w < 2 ^ width ∧ [D.int 0, .int d, .int (((2 ^ width : Nat) : Int) - 1)][i]? = some (.int w) := by
  have hp : 0 < 2 ^ width := Nat.pos_of_ne_zero (by simp)
  match i, h with
  | 0, _ => exact ⟨0, hp, rfl⟩
  | 1, _ =>
    refine ⟨d.toNat, by omega, ?_⟩
    show some (D.int d) = _
    congr 2; omega
  | 2, _ =>
    refine ⟨2 ^ width - 1, by omega, ?_⟩
    show some (D.int (((2 ^ width : Nat) : Int) - 1)) = _
    congr 2; omega
theorem paired_words {width : Nat} {ds xs : List D} (h : Paired (fun _ x => ∃ w : Nat, w < 2 ^ width ∧ x = D.int w) ds xs) : ∃ ws : List Nat, xs = nD ws ∧ ws.length = ds.length ∧ ∀ w ∈ ws, w < 2 ^ width := by
  induction h with
  | nil => exact ⟨[], rfl, rfl, fun _ z => by cases z⟩
  | cons r _ ih =>
    obtain ⟨w, hw, rfl⟩ := r
    obtain ⟨ws, rfl, hl, ha⟩ := ih
    refine ⟨w :: ws, rfl, by simp [hl], fun x hx => ?_⟩
    rcases List.mem_cons.mp hx with rfl | h
    · exact hw
    · exact ha x h
end Law
namespace Law
open PySem PySem.Spec PyProof.Rows L2 DL
local macro_rules | `(tactic| walk_at "x1") => `(tactic| first
  | with_reducible refine x_seq ?_ | with_reducible refine x_set ?_ | with_reducible refine x_ret ?_ | with_reducible refine x_ifS ?_ | with_reducible refine x_next ?_ | with_reducible refine x_asg ?_ | with_reducible refine x_drop ?_ | with_reducible refine x_for ?_ | with_reducible refine x_par ?_ | with_reducible refine ⟨_, _, rfl, ?_⟩
  | with_reducible refine x_op ?_ | ((with_reducible refine x_var (d := ?d) ?hx ?_); case hx => exact rfl) | with_reducible refine x_c ?_ | with_reducible refine x_B ?_ | with_reducible refine ⟨_, rfl, ?_⟩ | with_reducible refine x_call ?_ | with_reducible refine x_cons ?_ | with_reducible refine x_nil ?_ | with_reducible refine x_fn ?_
  | with_reducible refine x_if ?_ | with_reducible refine x_and ?_ | with_reducible refine x_or ?_ | with_reducible refine x_not ?_ | with_reducible refine x_andV ?_ | with_reducible refine x_orV ?_ | with_reducible refine x_notV ?_ | with_reducible refine x_chain ?_ | with_reducible refine x_un ?_
  | with_reducible refine x_tup ?_ | with_reducible refine x_lst ?_ | with_reducible refine x_lstM ?_ | with_reducible refine x_sz (by decide) ?_ | with_reducible refine x_sl ?_ | with_reducible refine x_noP ?_ | with_reducible refine x_pt ?_
  | with_reducible refine x_range1 ?_ | with_reducible refine x_iter ?_ | with_reducible refine x_go_tup ?_ | with_reducible refine x_go_lst ?_ | with_reducible refine x_lc ?_ | with_reducible refine x_lcM ?_ | with_reducible refine x_lc2 ?_ | with_reducible refine x_yes ?_ | with_reducible refine x_gName ?_ | with_reducible refine x_gSub ?_
  | ((with_reducible refine x_gTup ?hx ?_); case hx => exact rfl) | ((with_reducible refine x_gTupL ?hx ?_); case hx => exact rfl) | with_reducible refine x_gCons ?_ | with_reducible refine x_gNil ?_ | with_reducible refine x_retN ?_ | with_reducible refine x_brk ?_ | with_reducible refine x_cont ?_
  | with_reducible refine x_add_i ?_ | with_reducible refine x_sub ?_ | with_reducible refine x_band ?_ | with_reducible refine x_bor ?_ | with_reducible refine x_bxor ?_ | with_reducible refine x_neg ?_ | with_reducible refine x_lt ?_ | with_reducible refine x_le ?_ | with_reducible refine x_gt ?_ | with_reducible refine x_ge ?_ | with_reducible refine x_eqI ?_ | with_reducible refine x_neI ?_
  | with_reducible refine x_isN ?_ | with_reducible refine x_isnotN ?_ | with_reducible refine x_isB ?_ | with_reducible refine x_isnotB ?_ | with_reducible refine x_int ?_ | with_reducible refine x_intB ?_ | with_reducible refine x_abs ?_ | with_reducible refine x_len_t ?_ | with_reducible refine x_len_l ?_ | with_reducible refine x_tuple_t ?_ | with_reducible refine x_tuple_l ?_ | with_reducible refine x_list_t ?_ | with_reducible refine x_list_l ?_ | with_reducible refine x_list_s ?_
  | with_reducible refine x_sl_t ?_ | with_reducible refine x_sl_l ?_ | with_reducible refine x_iadd_i ?_ | with_reducible refine x_isi ?_ | with_reducible refine x_din ?_ | with_reducible refine x_dnotin ?_ | with_reducible refine x_dgetE ?_ | with_reducible refine x_dput ?_ | with_reducible refine x_append ?_
  | with_reducible refine x_T ?_ | with_reducible refine x_F ?_ | with_reducible refine x_nT ?_ | with_reducible refine x_nF ?_)
local macro_rules | `(tactic| walk_at "x2") => `(tactic| first
  | with_reducible refine x_bd (by omega) ?_ | with_reducible refine x_mod (by omega) ?_ | with_reducible refine x_div (by omega) ?_ | with_reducible refine x_shr (by omega) ?_ | with_reducible refine x_mul' (by omega) ?_ | with_reducible refine x_pow (by decide) ?_
  | ((with_reducible refine x_aug (x := ?d) ?hx ?_); case hx => exact rfl)
  | ((with_reducible refine x_ix_t (d := ?d) ?h0 ?hx ?_); (case h0 => omega); case hx => walk_at "at")
  | ((with_reducible refine x_ix_l (d := ?d) ?h0 ?hx ?_); (case h0 => omega); case hx => walk_at "at")
  | ((with_reducible refine x_ix_loc (ds := ?ds) (d := ?d) ?hm ?h0 ?hx ?_); (case hm => walk_at "m"); (case h0 => omega); case hx => walk_at "at")
  | ((with_reducible refine x_len_loc (ds := ?ds) ?hm ?_); case hm => walk_at "m") | ((with_reducible refine x_tuple_loc (ds := ?ds) ?hm ?_); case hm => walk_at "m") | ((with_reducible refine x_sl_loc (xs := ?ds) ?hm ?_); case hm => walk_at "m")
  | ((with_reducible refine ⟨_, ?ds, rfl, ?hm, ?_⟩); case hm => walk_at "m")
  | ((with_reducible refine ⟨_, ?ds, _, ?j, rfl, rfl, ?hm, ?hj, ?_⟩); (case hm => walk_at "m"); (case hj => walk_at "j")))
local macro_rules | `(tactic| walk_at "j") => `(tactic| exact rfl)
local macro_rules | `(tactic| walk_at "at") => `(tactic| first | exact rfl | assumption)
local macro_rules | `(tactic| walk_at "lt") => `(tactic| first | decide | omega | (simp; omega))
local macro_rules | `(tactic| walk_at "m") => `(tactic| first | exact mup_same | assumption)
local macro_rules | `(tactic| walk_at "x") => `(tactic| repeat (first | walk_at "x1" | walk_at "x2"))

def sp_law : DSp
  | [.sl xs], M, R, _ => ∃ ns : List Int, xs = ns.map D.int ∧ R (.bl true) M
  | _, _, _, _ => False
abbrev N_law : List Str := ["script", "tape", "room", "width", "turn", "words", "names", "own", "k", "bits", "number", "j"]
def w_law : DS := (dSeq (dSet 1 (dLstM (dCons (dCall oList (dCons (dVar 0) dNil)) (dCons (dC (.int 0)) (dCons (dC (.int 0)) (dCons (dC (.int 40)) dNil))))))
    (dSeq (dAsg (dOp oIx (dTup (dCons (dTup (dCons (dC (.int 1)) (dCons (dC (.int 1)) dNil))) (dCons (dTup (dCons (dC (.int 1)) (dCons (dC (.int 8)) dNil))) (dCons (dTup (dCons (dC (.int 2)) (dCons (dC (.int 1)) dNil))) (dCons (dTup (dCons (dC (.int 2)) (dCons (dC (.int 3)) dNil))) (dCons (dTup (dCons (dC (.int 3)) (dCons (dC (.int 1)) dNil))) (dCons (dTup (dCons (dC (.int 3)) (dCons (dC (.int 2)) dNil))) (dCons (dTup (dCons (dC (.int 4)) (dCons (dC (.int 1)) dNil))) dNil)))))))) (dFn sp_law_draw [] (dCons (dVar 1) (dCons (dC (.int 7)) dNil)))) (dgTup 2 (dgCons (dgName 2) (dgCons (dgName 3) dgNil))))
    (dSeq (dIfS (dNot (dB (dFn sp_law_all [] (dCons (dVar 2) (dCons (dVar 3) dNil))))) (dRet (dC (.bl false))) dNext)
    (dSeq (dFor (dRange1 (dC (.int 6))) (dgName 4) (dSeq (dAsg (dTup (dCons (dOp oAdd (dC (.int 1)) (dFn sp_law_draw [] (dCons (dVar 1) (dCons (dC (.int 4)) dNil)))) (dCons (dOp oAdd (dC (.int 1)) (dFn sp_law_draw [] (dCons (dVar 1) (dCons (dC (.int 8)) dNil)))) dNil))) (dgTup 2 (dgCons (dgName 2) (dgCons (dgName 3) dgNil))))
    (dSeq (dSet 5 (dLc (dRange1 (dFn sp_law_draw [] (dCons (dVar 1) (dCons (dOp oAdd (dVar 2) (dC (.int 1))) dNil)))) (dgName 8) dYes (dOp oIx (dTup (dCons (dC (.int 0)) (dCons (dFn sp_law_draw [] (dCons (dVar 1) (dCons (dOp oShl (dC (.int 1)) (dVar 3)) dNil))) (dCons (dOp oSub (dOp oShl (dC (.int 1)) (dVar 3)) (dC (.int 1))) dNil)))) (dFn sp_law_draw [] (dCons (dVar 1) (dCons (dC (.int 3)) dNil)))) [8]))
    (dSeq (dSet 6 (dFn sp_queue_names [] (dCons (dOp oAdd (dC (.str "n")) (dCall oStr (dCons (dVar 4) dNil))) (dCons (dVar 2) (dCons (dVar 3) dNil)))))
    (dSeq (dIfS (dOr (dNot (dB (dFn sp_law_turned [] (dCons (dVar 5) (dCons (dVar 2) (dCons (dVar 3) dNil)))))) (dOr (dB (dOp oNe (dCall oLen (dCons (dVar 6) dNil)) (dOp oMul (dVar 2) (dOp oAdd (dC (.int 1)) (dVar 3))))) (dB (dOp oNe (dLenSet (dVar 6)) (dCall oLen (dCons (dVar 6) dNil)))))) (dRet (dC (.bl false))) dNext)
    (dSeq (dSet 7 (dLc (dRange1 (dVar 2)) (dgName 8) dYes (dOp oAdd (dOp oAdd (dOp oAdd (dC (.str "n")) (dCall oStr (dCons (dVar 4) dNil))) (dC (.str ".more"))) (dCall oStr (dCons (dVar 8) dNil))) [8]))
    (dSeq (dFor (dRange1 (dVar 2)) (dgName 8) (dSet 7 (dOp oAdd (dVar 7) (dLc (dRange1 (dVar 3)) (dgName 11) dYes (dOp oAdd (dOp oAdd (dOp oAdd (dOp oAdd (dOp oAdd (dC (.str "n")) (dCall oStr (dCons (dVar 4) dNil))) (dC (.str "."))) (dCall oStr (dCons (dVar 8) dNil))) (dC (.str "."))) (dCall oStr (dCons (dVar 11) dNil))) [11]))))
    (dSeq (dIfS (dB (dOp oNe (dVar 6) (dVar 7))) (dRet (dC (.bl false))) dNext)
    (dSeq (dSet 9 (dFn sp_queue_bits [] (dCons (dCall oTuple (dCons (dVar 5) dNil)) (dCons (dVar 2) (dCons (dVar 3) dNil)))))
    (dSeq (dSet 10 (dCall oSum (dCons (dLc (dRange1 (dOp oMul (dVar 2) (dVar 3))) (dgName 8) dYes (dOp oShl (dOp oIx (dVar 9) (dOp oAdd (dVar 2) (dVar 8))) (dVar 8)) [8]) dNil)))
    (dIfS (dOr (dB (dOp oNe (dCall oSum (dCons (dSl (dVar 9) dNoP (dPt (dVar 2))) dNil)) (dCall oLen (dCons (dVar 5) dNil)))) (dB (dOp oNe (dVar 10) (dCall oSum (dCons (dLc (dRange1 (dCall oLen (dCons (dVar 5) dNil))) (dgName 8) dYes (dOp oShl (dOp oIx (dVar 5) (dVar 8)) (dOp oMul (dVar 8) (dVar 3))) [8]) dNil))))) (dRet (dC (.bl false))) dNext)))))))))))
    (dRet (dC (.bl true)))))))
theorem qnames_len (name : Str) (room width : Nat) : (qnames name room width).length = room * (1 + width) := by
  unfold qnames
  rw [List.length_append, List.length_map, List.length_range, flat_len, Nat.mul_add, Nat.mul_one]
theorem x_lenSet {w : DE} {Γ : Gam} {M : Mem} {R : Pst} {XR : Xst} (h : w Γ M (fun d M1 => ∃ xs : List Str, getL M1 d = some (xs.map D.str) ∧ xs.length ≤ 4000 ∧ R (.int ((DLS.met xs xs.length).length : Nat)) M1) XR) : dLenSet w Γ M R XR := h
theorem shl_cast (n k : Nat) : ((n : Nat) : Int) * 2 ^ ((k : Nat) : Int).toNat = ((n * 2 ^ k : Nat) : Int) := by
  show (n : Int) * 2 ^ k = _
  rw [Int.natCast_mul, Int.natCast_pow]; rfl
theorem rd_law : ∀ ds M R, sp_law ds M R X0 → w_law (retTo R X0) (startG N_law ds) M := fun ds M R h => by
  match ds, h with
  | [.sl xs], h =>
    obtain ⟨ns, rfl, q⟩ := h
    show w_law (retTo R X0) [some (.sl (ns.map D.int)), none, none, none, none, none, none, none, none, none, none, none] M
    unfold w_law
    walk_at "x"
    refine x_sz (Nat.le_of_ble_eq_true rfl) ?_
    intro A hA
    have e0 : mup M A (.lst [.lst (ns.map D.int), .int 0, .int 0, .int 40]) = mup M A (tobj ⟨ns, 0, 0, 40⟩) := rfl
    rw [e0]
    walk_at "x"
    refine ⟨⟨_, mup_same⟩, by decide, by decide, fun d t' h0 h1 => ?_⟩
    rw [mup_mup]
    obtain ⟨p, hc, hp⟩ := case_at (i := d.toNat) (by omega)
    obtain ⟨room, width⟩ := p
    walk_at "x"
    refine ⟨room, width, hc, rfl, rfl, ?_⟩
    walk_at "x"
    refine for_rg (n := 6) (fun i Γ' M' => ∃ o2 o3 o4 o5 o6 o7 o8 o9 o10 t, Γ' = [some (.sl (ns.map D.int)), some (.loc A), o2, o3, o4, o5, o6, o7, o8, o9, o10, none] ∧ M' = mup M A (tobj t)) rfl ⟨_, _, _, _, _, _, _, _, _, _, rfl, rfl⟩ (fun _ _ _ _ => trivial) (fun i Γ' M' N hi hI hN => ?_) (fun Γ' M' hI => ?_)
    · obtain ⟨o2, o3, o4, o5, o6, o7, o8, o9, o10, t, rfl, rfl⟩ := hI
      clear hc hp h0 h1 e0 d t' room width
      walk_at "x"
      refine ⟨⟨_, mup_same⟩, by decide, by decide, fun d t1 h0 h1 => ?_⟩
      rw [mup_mup]
      walk_at "x"
      refine ⟨⟨_, mup_same⟩, by decide, by decide, fun e t2 h2 h3 => ?_⟩
      rw [mup_mup]
      obtain ⟨room, hr⟩ : ∃ room : Nat, 1 + d = (room : Int) := ⟨(1 + d).toNat, by omega⟩
      obtain ⟨width, hw⟩ : ∃ width : Nat, 1 + e = (width : Int) := ⟨(1 + e).toNat, by omega⟩
      rw [hr]
      refine x_add_i ?_
      rw [hw]
      walk_at "x"
      refine x_sz (Nat.le_of_ble_eq_true rfl) ?_
      have b1 : room ≤ 4 := by omega
      have b10 : 1 ≤ room := by omega
      have b2 : width ≤ 8 := by omega
      have b20 : 1 ≤ width := by omega
      clear h0 h1 h2 h3 hr hw d e t t1
      walk_at "x"
      refine ⟨⟨_, mup_same⟩, by omega, by omega, fun d t h0 h1 => ?_⟩
      rw [mup_mup]
      obtain ⟨n, rfl⟩ : ∃ n : Nat, d = (n : Int) := ⟨d.toNat, by omega⟩
      walk_at "x"
      refine lc_draws (a := A) (fun _ x => ∃ w : Nat, w < 2 ^ width ∧ x = D.int w) ⟨_, mup_same⟩ ?_ (fun d hd M' sb ht K F hK => ?_) (fun B xs t' hB hne hpr => ?_)
      · rw [rgs_len]; exact Nat.le_trans (show _ ≤ 1000 by omega) (by decide)
      · obtain ⟨t1, ht⟩ := ht
        have hp : 2 ^ width ≤ 2 ^ 8 := Nat.pow_le_pow_right (by decide) b2
        have hp0 : 0 < 2 ^ width := Nat.pos_of_ne_zero (by simp)
        have e2 : (1 : Int) * 2 ^ (width : Int).toNat = ((2 ^ width : Nat) : Int) := by
          rw [Int.one_mul, Int.natCast_pow]; rfl
        have wat := fun i d => word_at (i := i) (d := d) (width := width)
        walk_at "x"
        refine x_shl ⟨by omega, by omega, by decide⟩ ?_
        rw [e2]
        walk_at "x"
        refine ⟨⟨_, ht⟩, by omega, by omega, fun c t1 h2 h3 => ?_⟩
        walk_at "x"
        refine x_shl ⟨by omega, by omega, by decide⟩ ?_
        rw [e2]
        walk_at "x"
        refine x_sz (Nat.le_of_ble_eq_true rfl) ?_
        walk_at "x"
        refine ⟨⟨_, mup_same⟩, by decide, by decide, fun g t3 h4 h5 => ?_⟩
        rw [mup_mup]
        obtain ⟨w, hw, hg⟩ := wat g.toNat c (by omega) h2 h3
        refine x_ix_t h4 hg ?_
        exact hK _ _ ⟨w, hw, rfl⟩
      · obtain ⟨ws, rfl, hl, hws⟩ := paired_words hpr
        rw [rgs_len] at hl
        have hl : ws.length ≤ room := by omega
        rw [mup_mup] at *
        refine lcF_mk (by rw [mup_ne hne] at hB ⊢; exact hB) ?_
        clear hpr hB hne t t2
        walk_at "x"
        have l1 := sN_small i (by omega)
        have ln : (Str.ofString "n").length = 1 := by decide
        have lm : (Str.ofString ".more").length = 5 := by decide
        have lp : (Str.ofString ".").length = 1 := by decide
        have bd : ∀ n : Nat, n ≤ 1000 → n ≤ sizeLine := fun n h => Nat.le_trans h (by decide)
        have xs : ∀ {k : Nat} {M : Mem} {R : Pst}, k < 100 → R (.str (sN k)) M → oStr [.int (k : Int)] M R := fun hk h => x_str (Nat.lt_of_le_of_lt (Nat.log2_le_self _) (by omega)) h
        refine xs (by omega) ?_
        refine x_add_s (bd _ (by omega)) ?_
        walk_at "x"
        have lnm : (Str.ofString "n" ++ sN i).length ≤ 3 := by rw [len_app]; omega
        refine ⟨room, width, rfl, rfl, by omega, by omega, by omega, ?_⟩
        walk_at "x"
        refine ⟨ws, room, width, rfl, rfl, rfl, by omega, b20, b2, hl, hws, ?_⟩
        walk_at "x"
        have hq0 : (qnames (Str.ofString "n" ++ sN i) room width).length = room * (1 + width) := qnames_len _ _ _
        have hq1 : (((sD (qnames (Str.ofString "n" ++ sN i) room width)).length : Nat) : Int) = (room : Int) * (1 + (width : Int)) := by
          unfold sD
          rw [List.length_map, hq0, Int.natCast_mul]; rfl
        have hnd := qnames_nodup (Str.ofString "n" ++ sN i) b1 b2
        have hok := qnames_ok hi b1 b2
        have hrw : room * width ≤ 4 * 8 := Nat.mul_le_mul b1 b2
        have hrw1 : room * (1 + width) ≤ 4 * 9 := Nat.mul_le_mul b1 (by omega)
        rw [hq1, beq_self_eq_true]
        walk_at "x"
        refine x_lenSet ?_
        walk_at "x"
        refine ⟨by omega, ?_⟩
        rw [DLS.met_nodup hnd _ (Nat.le_refl _), List.take_length]
        walk_at "x"
        have hq2 : (((sD (qnames (Str.ofString "n" ++ sN i) room width)).length : Nat) : Int) = (((qnames (Str.ofString "n" ++ sN i) room width).length : Nat) : Int) := by
          unfold sD
          rw [List.length_map]
        rw [hq2, beq_self_eq_true]
        walk_at "x"
        refine lc_rg (n := room) (fun k => .str (qname1 (Str.ofString "n" ++ sN i) k)) rfl (by omega) (fun k hk M' sb K F hK => ?_) (fun B hB => lcF_mk hB ?_)
        · have l2 := sN_small k (by omega)
          walk_at "x"
          refine xs (by omega) ?_
          refine x_add_s (bd _ (by omega)) ?_
          walk_at "x"
          refine x_add_s (bd _ (by omega)) ?_
          walk_at "x"
          refine xs (by omega) ?_
          exact x_add_s (bd _ (by rw [len_app]; omega)) hK
        walk_at "x"
        refine for_rg (n := room) (fun j Γ' M' => ∃ o8, Γ' = [some (.sl (ns.map D.int)), some (.loc A), some (.int room), some (.int width), some (.int i), some (.lst (nD ws)), some (.lst (sD (qnames (Str.ofString "n" ++ sN i) room width))), some (.lst (sD ((List.range room).map (qname1 (Str.ofString "n" ++ sN i)) ++ (List.range j).flatMap fun k => (List.range width).map (qname2 (Str.ofString "n" ++ sN i) k)))), o8, o9, o10, none] ∧ M' = mup M A (tobj t')) rfl ⟨o8, ?_, rfl⟩ (fun _ _ _ _ => trivial) (fun j Γ' M' N2 hj hI hN2 => ?_) (fun Γ' M' hI => ?_)
        · rw [List.range_zero, List.flatMap_nil, List.append_nil]
          unfold sD
          rw [List.map_map]
          rfl
        · obtain ⟨o8, rfl, rfl⟩ := hI
          walk_at "x"
          have l2 := sN_small j (by omega)
          refine lc_rg (n := width) (fun k => .str (qname2 (Str.ofString "n" ++ sN i) j k)) rfl (by omega) (fun k hk M' sb K F hK => ?_) (fun B hB => lcF_mk hB ?_)
          · have l3 := sN_small k (by omega)
            walk_at "x"
            refine xs (by omega) ?_
            refine x_add_s (bd _ (by omega)) ?_
            walk_at "x"
            refine x_add_s (bd _ (by omega)) ?_
            walk_at "x"
            refine xs (by omega) ?_
            refine x_add_s (bd _ (by rw [len_app]; omega)) ?_
            walk_at "x"
            refine x_add_s (bd _ (by rw [len_app, len_app]; omega)) ?_
            walk_at "x"
            refine xs (by omega) ?_
            exact x_add_s (bd _ (by rw [len_app, len_app, len_app]; omega)) hK
          · refine x_add_l ?_ ?_
            · unfold sD
              rw [List.length_map, List.length_append, flat_len, List.length_map, List.length_range, List.length_map, List.length_range]
              have : j * width ≤ 4 * 8 := Nat.mul_le_mul (by omega) b2
              exact bd _ (by omega)
            · refine hN2 _ _ ⟨some (.int j), ?_, rfl⟩
              have e : sD ((List.range room).map (qname1 (Str.ofString "n" ++ sN i)) ++ (List.range j).flatMap fun k => (List.range width).map (qname2 (Str.ofString "n" ++ sN i) k)) ++ (List.range width).map (fun k => D.str (qname2 (Str.ofString "n" ++ sN i) j k)) = sD ((List.range room).map (qname1 (Str.ofString "n" ++ sN i)) ++ (List.range (j + 1)).flatMap fun k => (List.range width).map (qname2 (Str.ofString "n" ++ sN i) k)) := by
                unfold sD
                rw [List.range_succ, List.flatMap_append, ← List.append_assoc, List.map_append (l₁ := _ ++ _)]
                congr 1
                simp only [List.flatMap_cons, List.flatMap_nil, List.append_nil, List.map_map]
                rfl
              rw [e]
              rfl
        · obtain ⟨o8, rfl, rfl⟩ := hI
          rw [show ((List.range room).map (qname1 (Str.ofString "n" ++ sN i)) ++ (List.range room).flatMap fun k => (List.range width).map (qname2 (Str.ofString "n" ++ sN i) k)) = qnames (Str.ofString "n" ++ sN i) room width from rfl]
          walk_at "x"
          refine x_ne (okD_sDl hok) (okD_sDl hok) ?_
          rw [show eqb (D.lst (sD (qnames (Str.ofString "n" ++ sN i) room width))) (.lst (sD (qnames (Str.ofString "n" ++ sN i) room width))) = true from eqbs_sD _]
          clear hq0 hq1 hq2 hnd hok
          generalize qnames (Str.ofString "n" ++ sN i) room width = names
          walk_at "x"
          refine ⟨ws, room, width, .inl rfl, rfl, rfl, by omega, by omega, ?_⟩
          have hnum := number_law hl hws
          have hfl := flags_sum (width := width) hl
          have hB1 : (qbits ws room width).length = room * (1 + width) := qbits_len _ _ _
          have hB2 := qbits_le ws room width
          generalize qbits ws room width = bits at hnum hfl hB1 hB2 ⊢
          have hB3 : bits.length = room + room * width := by rw [hB1, Nat.mul_add, Nat.mul_one]
          walk_at "x"
          refine lc_rg (n := room * width) (fun k => .int ((bits.getD (room + k) 0 * 2 ^ k : Nat) : Int)) (Int.natCast_mul _ _).symm (by omega) (fun k hk M' sb K F hK => ?_) (fun B hB => lcF_mk hB ?_)
          · have hg : (nD bits)[((room : Int) + (k : Int)).toNat]? = some (.int ((bits.getD (room + k) 0 : Nat) : Int)) := by
              have : ((room : Int) + (k : Int)).toNat = room + k := by omega
              rw [this]
              exact nD_get (by omega)
            have hb : bits.getD (room + k) 0 ≤ 1 := by
              have hl : room + k < bits.length := by omega
              have e : bits.getD (room + k) 0 = bits[room + k] := by simp [List.getD, hl]
              rw [e]; exact hB2 _ (List.getElem_mem hl)
            walk_at "x"
            refine x_shl ⟨by omega, by omega, by omega⟩ ?_
            rw [shl_cast]
            exact hK
          walk_at "x"
          refine x_sum_l (ns := ((List.range (room * width)).map fun k => bits.getD (room + k) 0 * 2 ^ k).map fun (n : Nat) => (n : Int)) (by rw [← nD_range, nD_ints]) ?_
          rw [sum_cast, hnum]
          generalize hnr : ((List.range ws.length).map fun k => ws.getD k 0 * 2 ^ (k * width)).sum = number
          walk_at "x"
          rw [cut_to]
          refine x_sum_t (ns := (bits.take room).map fun (n : Nat) => (n : Int)) (by rw [nD_take, nD_ints]) ?_
          rw [sum_cast, hfl]
          walk_at "x"
          rw [nD_len, beq_self_eq_true]
          walk_at "x"
          rw [nD_len]
          refine x_bd ⟨by omega, by omega⟩ ?_
          refine lc_rg (n := ws.length) (fun k => .int ((ws.getD k 0 * 2 ^ (k * width) : Nat) : Int)) rfl (by omega) (fun k hk M' sb K F hK => ?_) (fun B hB => lcF_mk hB ?_)
          · have hb : ws.getD k 0 < 2 ^ 8 := by
              have e : ws.getD k 0 = ws[k] := by simp [List.getD, hk]
              rw [e]; exact Nat.lt_of_lt_of_le (hws _ (List.getElem_mem hk)) (Nat.pow_le_pow_right (by decide) b2)
            have hkw : k * width ≤ 4 * 8 := Nat.mul_le_mul (by omega) b2
            walk_at "x"
            refine x_ix_l (d := .int ((ws.getD k 0 : Nat) : Int)) (by omega) (nD_get hk) ?_
            walk_at "x"
            rw [show (k : Int) * (width : Int) = ((k * width : Nat) : Int) from (Int.natCast_mul _ _).symm]
            refine x_shl ⟨by omega, by omega, by omega⟩ ?_
            rw [shl_cast]
            exact hK
          walk_at "x"
          refine x_sum_l (ns := ((List.range ws.length).map fun k => ws.getD k 0 * 2 ^ (k * width)).map fun (n : Nat) => (n : Int)) (by rw [← nD_range, nD_ints]) ?_
          rw [sum_cast, hnr]
          walk_at "x"
          rw [beq_self_eq_true]
          walk_at "x"
          exact hN _ _ ⟨_, _, _, _, _, _, _, _, _, _, rfl, rfl⟩
    · obtain ⟨o2, o3, o4, o5, o6, o7, o8, o9, o10, t, rfl, rfl⟩ := hI
      walk_at "x"
      exact rt_sub (sub_new hA) q
end Law
namespace Law
open PySem PySem.Spec PyProof.Rows L2 DL
theorem len_queue_bits : ∀ ds M R XR, sp_queue_bits ds M R XR → ds.length = 3 := fun ds M R XR h => by
  match ds, h with
  | [x, .int r, .int w], _ => rfl
theorem len_queue_of_bits : ∀ ds M R XR, sp_queue_of_bits ds M R XR → ds.length = 3 := fun ds M R XR h => by
  match ds, h with
  | [.tup xs, .int r, .int w], _ => rfl
theorem len_queue_names : ∀ ds M R XR, sp_queue_names ds M R XR → ds.length = 3 := fun ds M R XR h => by
  match ds, h with
  | [.str name, .int r, .int w], _ => rfl
theorem len_law_draw : ∀ ds M R XR, sp_law_draw ds M R XR → ds.length = 2 := fun ds M R XR h => by
  match ds, h with
  | [.loc a, .int w], _ => rfl
theorem len_law_all : ∀ ds M R XR, sp_law_all ds M R XR → ds.length = 2 := fun ds M R XR h => by
  match ds, h with
  | [.int r, .int w], _ => rfl
theorem len_law_turned : ∀ ds M R XR, sp_law_turned ds M R XR → ds.length = 3 := fun ds M R XR h => by
  match ds, h with
  | [.lst xs, .int r, .int w], _ => rfl
theorem len_law : ∀ ds M R XR, sp_law ds M R XR → ds.length = 1 := fun ds M R XR h => by
  match ds, h with
  | [.sl xs], _ => rfl
theorem x0_queue_bits : ∀ ds M R XR, sp_queue_bits ds M R XR → sp_queue_bits ds M R X0 := fun ds M R XR h => by
  match ds, h with
  | [x, .int r, .int w], h => exact h
theorem x0_queue_of_bits : ∀ ds M R XR, sp_queue_of_bits ds M R XR → sp_queue_of_bits ds M R X0 := fun ds M R XR h => by
  match ds, h with
  | [.tup xs, .int r, .int w], h => exact h
theorem x0_queue_names : ∀ ds M R XR, sp_queue_names ds M R XR → sp_queue_names ds M R X0 := fun ds M R XR h => by
  match ds, h with
  | [.str name, .int r, .int w], h => exact h
theorem x0_law_draw : ∀ ds M R XR, sp_law_draw ds M R XR → sp_law_draw ds M R X0 := fun ds M R XR h => by
  match ds, h with
  | [.loc a, .int w], h => exact h
theorem x0_law_all : ∀ ds M R XR, sp_law_all ds M R XR → sp_law_all ds M R X0 := fun ds M R XR h => by
  match ds, h with
  | [.int r, .int w], h => exact h
theorem x0_law_turned : ∀ ds M R XR, sp_law_turned ds M R XR → sp_law_turned ds M R X0 := fun ds M R XR h => by
  match ds, h with
  | [.lst xs, .int r, .int w], h => exact h
theorem x0_law : ∀ ds M R XR, sp_law ds M R XR → sp_law ds M R X0 := fun ds M R XR h => by
  match ds, h with
  | [.sl xs], h => exact h
theorem end_law {K : PySem.W.Frag} {H : Hp} {a : Addr} {ns : List Int} {n : Nat} (hl : ns.length ≤ n) (hO : Only H) (hS : SqL K H a (ns.map V.int)) : lSp K sp_law [.ref a] H (fun v _ => v = .bl true) fun _ _ _ => False :=
  ⟨[.sl (ns.map D.int)], fun _ => none, fun d _ => d = .bl true, X0, (fun _ _ h => nomatch h), ⟨.ref a, [], rfl, ⟨a, _, rfl, hS.imp (fun h => ⟨h, rfl⟩) id, reps_ints ns⟩, rfl⟩, ⟨ns, rfl, rfl⟩, (fun d M' v H' r _ _ h => by
    subst r
    exact h), KX0⟩
end Law
namespace Law
open PySem PySem.Spec PyProof.Rows L2 DL
def topS (i : Nat) : Stmt := PySem.Challenge.pw_citywright_k40_whole_bits_of_queues_coun.main.body.getD i (.Pass ⟨0, 0, 0, 0⟩)
abbrev s_queue_bits : Stmt := topS 1
theorem sc_queue_bits : FnScope N_queue_bits ["words", "room", "width"] (defScope s_queue_bits) := ⟨rfl, rfl, rfl, by decide +kernel, rfl, by decide +kernel, by decide +kernel⟩
abbrev s_queue_of_bits : Stmt := topS 2
theorem sc_queue_of_bits : FnScope N_queue_of_bits ["bits", "room", "width"] (defScope s_queue_of_bits) := ⟨rfl, rfl, rfl, by decide +kernel, rfl, by decide +kernel, by decide +kernel⟩
abbrev s_queue_names : Stmt := topS 3
theorem sc_queue_names : FnScope N_queue_names ["name", "room", "width"] (defScope s_queue_names) := ⟨rfl, rfl, rfl, by decide +kernel, rfl, by decide +kernel, by decide +kernel⟩
abbrev s_law_draw : Stmt := topS 5
theorem sc_law_draw : FnScope N_law_draw ["tape", "many"] (defScope s_law_draw) := ⟨rfl, rfl, rfl, by decide +kernel, rfl, by decide +kernel, by decide +kernel⟩
abbrev s_law_all : Stmt := topS 6
theorem sc_law_all : FnScope N_law_all ["room", "width"] (defScope s_law_all) := ⟨rfl, rfl, rfl, by decide +kernel, rfl, by decide +kernel, by decide +kernel⟩
abbrev s_law_turned : Stmt := topS 7
theorem sc_law_turned : FnScope N_law_turned ["words", "room", "width"] (defScope s_law_turned) := ⟨rfl, rfl, rfl, by decide +kernel, rfl, by decide +kernel, by decide +kernel⟩
abbrev s_law : Stmt := topS 8
theorem sc_law : FnScope N_law ["script"] (defScope s_law) := ⟨rfl, rfl, rfl, by decide +kernel, rfl, by decide +kernel, by decide +kernel⟩
/-- what stands behind the top -/
structure Tx (K : PySem.W.Frag) (mg : Str → Option Value) where
  f_queue_bits : Addr
  d_queue_bits : FuncData
  F_queue_bits : Fun K "queue_bits" "queue_bits" s_queue_bits f_queue_bits d_queue_bits
  b_queue_bits : Binds K d_queue_bits ["words", "room", "width"] []
  g_queue_bits : mg "queue_bits" = some (.ref f_queue_bits)
  f_queue_of_bits : Addr
  d_queue_of_bits : FuncData
  F_queue_of_bits : Fun K "queue_of_bits" "queue_of_bits" s_queue_of_bits f_queue_of_bits d_queue_of_bits
  b_queue_of_bits : Binds K d_queue_of_bits ["bits", "room", "width"] []
  g_queue_of_bits : mg "queue_of_bits" = some (.ref f_queue_of_bits)
  f_queue_names : Addr
  d_queue_names : FuncData
  F_queue_names : Fun K "queue_names" "queue_names" s_queue_names f_queue_names d_queue_names
  b_queue_names : Binds K d_queue_names ["name", "room", "width"] []
  g_queue_names : mg "queue_names" = some (.ref f_queue_names)
  f_law_draw : Addr
  d_law_draw : FuncData
  F_law_draw : Fun K "_law_draw" "_law_draw" s_law_draw f_law_draw d_law_draw
  b_law_draw : Binds K d_law_draw ["tape", "many"] []
  g_law_draw : mg "_law_draw" = some (.ref f_law_draw)
  f_law_all : Addr
  d_law_all : FuncData
  F_law_all : Fun K "_law_all" "_law_all" s_law_all f_law_all d_law_all
  b_law_all : Binds K d_law_all ["room", "width"] []
  g_law_all : mg "_law_all" = some (.ref f_law_all)
  f_law_turned : Addr
  d_law_turned : FuncData
  F_law_turned : Fun K "_law_turned" "_law_turned" s_law_turned f_law_turned d_law_turned
  b_law_turned : Binds K d_law_turned ["words", "room", "width"] []
  g_law_turned : mg "_law_turned" = some (.ref f_law_turned)
  f_law : Addr
  d_law : FuncData
  F_law : Fun K "law" "law" s_law f_law d_law
  b_law : Binds K d_law ["script"] []
  g_law : mg "law" = some (.ref f_law)
  n_abs : mg "abs" = none
  n_int : mg "int" = none
  n_isinstance : mg "isinstance" = none
  n_len : mg "len" = none
  n_list : mg "list" = none
  n_range : mg "range" = none
  n_set : mg "set" = none
  n_str : mg "str" = none
  n_sum : mg "sum" = none
  n_tuple : mg "tuple" = none
section
variable {P : Program} {wd : World} {K : PySem.W.Frag} {mg : Str → Option Value} {base : Heap}
theorem ok_queue_bits (T : Tx K mg) : FnOk P wd K mg base CX0 1 T.f_queue_bits T.d_queue_bits ["words", "room", "width"] (lSp K sp_queue_bits) := by
  refine fn0 T.F_queue_bits sc_queue_bits len_queue_bits ⟨w_queue_bits, fun cdv A outer s H E hr => (dss_cons (ds_setLcM (i := 3) rfl sc_queue_bits.nd rfl rfl (sw_true rfl rfl rfl (by decide +kernel)) (di_range1 (by rfl) T.n_range (dv 1)) (blkOk_by (own := [("k", 4)]) (N := N_queue_bits) (sc := defScope s_queue_bits) (by decide +kernel)) (fun _ _ _ _ _ => (dg_name (i := 4) sc_queue_bits.nd rfl (by first | exact Or.inl rfl | exact Or.inr rfl))) (fun _ _ _ _ _ => dts_nil) (fun _ _ _ _ _ => (de_callTy lc_int (by rfl) T.n_int bt_int (da_cons (de_cmp lo_lt (dv 4) (de_callB lc_len (by rfl) T.n_len bt_len (da_cons (dv 0) da_nil)) (nomark _)) da_nil))))
      (dss_cons (ds_for (vs := List.range 7) PassesOwn.never rfl (di_range1 (by rfl) T.n_range (dv 1)) (dg_name (i := 4) sc_queue_bits.nd rfl (by first | exact Or.inl rfl | exact Or.inr rfl)) (dss_cons (ds_set (i := 5) sc_queue_bits.nd rfl (by first | exact Or.inl rfl | exact Or.inr rfl) (de_if (dt_cmp lo_lt (dv 4) (de_callB lc_len (by rfl) T.n_len bt_len (da_cons (dv 0) da_nil)) (nomark _)) (de_ix (dv 0) (dv 4) (fun _ _ => rfl)) de_int))
      (dss_one (ds_aug (i := 3) sc_queue_bits.nd rfl (by first | exact Or.inl rfl | exact Or.inr rfl) (de_lc rfl sc_queue_bits.nd (di_range1 (by rfl) T.n_range (dv 2)) (blkOk_by (own := [("j", 6)]) (N := N_queue_bits) (sc := defScope s_queue_bits) (by decide +kernel)) (fun _ _ _ _ _ => (dg_name (i := 6) sc_queue_bits.nd rfl (by first | exact Or.inl rfl | exact Or.inr rfl))) (fun _ _ _ _ _ => dts_nil) (fun _ _ _ _ _ => (de_op lo_and (de_op lo_shr (dv 5) (dv 6)) de_int))) li_add))))
      (dss_one (ds_ret (de_callTy lc_tuple (by rfl) T.n_tuple bt_tuple (da_cons (dv 3) da_nil)))))), rd_queue_bits⟩ x0_queue_bits
theorem ok_queue_of_bits (T : Tx K mg) : FnOk P wd K mg base CX0 2 T.f_queue_of_bits T.d_queue_of_bits ["bits", "room", "width"] (lSp K sp_queue_of_bits) := by
  refine fn0 T.F_queue_of_bits sc_queue_of_bits len_queue_of_bits ⟨w_queue_of_bits, fun cdv A outer s H E hr => (dss_cons (ds_set (i := 3) sc_queue_of_bits.nd rfl (by first | exact Or.inl rfl | exact Or.inr rfl) (de_callB (lc_sum rfl) (by rfl) T.n_sum bt_sum (da_cons (de_sl (dv 0) do_none (do_some (dv 1))) da_nil)))
      (dss_cons (ds_set (i := 4) sc_queue_of_bits.nd rfl (by first | exact Or.inl rfl | exact Or.inr rfl) (de_lstM da_nil))
      (dss_cons (ds_for (vs := List.range 8) PassesOwn.never rfl (di_range1 (by rfl) T.n_range (dv 1)) (dg_name (i := 5) sc_queue_of_bits.nd rfl (by first | exact Or.inl rfl | exact Or.inr rfl)) (dss_cons (ds_set (i := 6) sc_queue_of_bits.nd rfl (by first | exact Or.inl rfl | exact Or.inr rfl) (de_op lo_add (dv 1) (de_op lo_mul (dv 5) (dv 2))))
      (dss_one (ds_expr (de_append (dv 4) (de_callB (lc_sum rfl) (by rfl) T.n_sum bt_sum (da_cons (de_lc rfl sc_queue_of_bits.nd (di_range1 (by rfl) T.n_range (dv 2)) (blkOk_by (own := [("j", 7)]) (N := N_queue_of_bits) (sc := defScope s_queue_of_bits) (by decide +kernel)) (fun _ _ _ _ _ => (dg_name (i := 7) sc_queue_of_bits.nd rfl (by first | exact Or.inl rfl | exact Or.inr rfl))) (fun _ _ _ _ _ => dts_nil) (fun _ _ _ _ _ => (de_op lo_shl (de_ix (dv 0) (de_op lo_add (dv 6) (dv 7)) (fun _ _ => rfl)) (dv 7)))) da_nil)))))))
      (dss_cons (ds_if (dt_cmp (lo_ne hr.units) (de_callTy lc_tuple (by rfl) T.n_tuple bt_tuple (da_cons (dv 0) da_nil)) (de_call (ok_queue_bits T) (hr.mono (by decide)) (by rfl) T.g_queue_bits T.F_queue_bits.kp T.b_queue_bits (da_cons (de_sl (dv 4) do_none (do_some (dv 3))) (da_cons (dv 1) (da_cons (dv 2) da_nil)))) (nomark _)) (dss_one (ds_ret de_non)) dss_nil)
      (dss_one (ds_ret (de_callTy lc_tuple (by rfl) T.n_tuple bt_tuple (da_cons (de_sl (dv 4) do_none (do_some (dv 3))) da_nil)))))))), rd_queue_of_bits⟩ x0_queue_of_bits
theorem ok_queue_names (T : Tx K mg) : FnOk P wd K mg base CX0 1 T.f_queue_names T.d_queue_names ["name", "room", "width"] (lSp K sp_queue_names) := by
  refine fn0 T.F_queue_names sc_queue_names len_queue_names ⟨w_queue_names, fun cdv A outer s H E hr => (dss_cons (ds_setLc (i := 3) rfl sc_queue_names.nd rfl rfl (sw_true rfl rfl rfl (by decide +kernel)) (di_range1 (by rfl) T.n_range (dv 1)) (blkOk_by (own := [("k", 4)]) (N := N_queue_names) (sc := defScope s_queue_names) (by decide +kernel)) (fun _ _ _ _ _ => (dg_name (i := 4) sc_queue_names.nd rfl (by first | exact Or.inl rfl | exact Or.inr rfl))) (fun _ _ _ _ _ => dts_nil) (fun _ _ _ _ _ => (de_op lo_add (de_op lo_add (dv 0) de_str) (de_callTy lc_str (by rfl) T.n_str bt_str (da_cons (dv 4) da_nil)))))
      (dss_one (ds_ret (de_op lo_add (dv 3) (de_lc2 rfl sc_queue_names.nd (di_range1 (by rfl) T.n_range (dv 1)) (blkOk_by (own := [("k", 4), ("j", 5)]) (N := N_queue_names) (sc := defScope s_queue_names) (by decide +kernel)) (vs1 := [5]) (by decide) (fun _ _ _ _ _ => (dg_name (i := 4) sc_queue_names.nd rfl (by first | exact Or.inl rfl | exact Or.inr rfl))) (fun _ _ _ _ _ => dts_nil) (fun _ _ _ _ _ => (di_range1 (by rfl) T.n_range (dv 2))) (fun _ _ _ _ _ => (dg_name (i := 5) sc_queue_names.nd rfl (by first | exact Or.inl rfl | exact Or.inr rfl))) (fun _ _ _ _ _ => dts_nil) (fun _ _ _ _ _ => (de_op lo_add (de_op lo_add (de_op lo_add (de_op lo_add (dv 0) de_str) (de_callTy lc_str (by rfl) T.n_str bt_str (da_cons (dv 4) da_nil))) de_str) (de_callTy lc_str (by rfl) T.n_str bt_str (da_cons (dv 5) da_nil))))))))), rd_queue_names⟩ x0_queue_names
theorem ok_law_draw (T : Tx K mg) : FnOk P wd K mg base CX0 1 T.f_law_draw T.d_law_draw ["tape", "many"] (lSp K sp_law_draw) := by
  refine fn0 T.F_law_draw sc_law_draw len_law_draw ⟨w_law_draw, fun cdv A outer s H E hr => (dss_cons (ds_if (dt_cmp (lo_eq hr.units) (de_ix (dv 0) de_int (fun _ _ => rfl)) de_int (nomark _)) (dss_cons (ds_set (i := 2) sc_law_draw.nd rfl (by first | exact Or.inl rfl | exact Or.inr rfl) (de_if (dt_cmp lo_lt (de_ix (dv 0) de_int (fun _ _ => rfl)) (de_callB lc_len (by rfl) T.n_len bt_len (da_cons (de_ix (dv 0) de_int (fun _ _ => rfl)) da_nil)) (nomark _)) (de_callB lc_abs (by rfl) T.n_abs bt_abs (da_cons (de_callTy lc_int (by rfl) T.n_int bt_int (da_cons (de_ix (de_ix (dv 0) de_int (fun _ _ => rfl)) (de_ix (dv 0) de_int (fun _ _ => rfl)) (fun _ _ => rfl)) da_nil)) da_nil)) de_int))
      (dss_cons (ds_asg (vs := List.range 4) (de_op lo_add (de_ix (dv 0) de_int (fun _ _ => rfl)) de_int) (dg_sub (dv 0) de_int))
      (dss_cons (ds_asg (vs := List.range 4) (de_op lo_mod (de_callTy lc_int (by rfl) T.n_int bt_int (da_cons (de_op lo_add (de_op lo_add (de_op lo_mul (de_ix (dv 0) de_int (fun _ _ => rfl)) de_int) (de_op lo_mul (dv 2) de_int)) de_int) da_nil)) de_int) (dg_sub (dv 0) de_int))
      (dss_one (ds_asg (vs := List.range 4) (de_if (dt_cmp lo_ge (dv 2) (de_op lo_pow de_int de_int) (nomark _)) (dv 2) de_int) (dg_sub (dv 0) de_int)))))) dss_nil)
      (dss_cons (ds_if (dt_cmp lo_gt (de_ix (dv 0) de_int (fun _ _ => rfl)) de_int (nomark _)) (dss_cons (ds_set (i := 3) sc_law_draw.nd rfl (by first | exact Or.inl rfl | exact Or.inr rfl) (de_op lo_mod (de_callTy lc_int (by rfl) T.n_int bt_int (da_cons (de_ix (dv 0) de_int (fun _ _ => rfl)) da_nil)) (dv 1)))
      (dss_cons (ds_asg (vs := List.range 4) (de_op lo_div (de_callTy lc_int (by rfl) T.n_int bt_int (da_cons (de_ix (dv 0) de_int (fun _ _ => rfl)) da_nil)) (dv 1)) (dg_sub (dv 0) de_int))
      (dss_one (ds_ret (dv 3))))) dss_nil)
      (dss_one (ds_ret (de_op lo_mod (de_callTy lc_int (by rfl) T.n_int bt_int (da_cons (de_op lo_div (de_ix (dv 0) de_int (fun _ _ => rfl)) de_int) da_nil)) (dv 1)))))), rd_law_draw⟩ x0_law_draw
theorem ok_law_all (T : Tx K mg) : FnOk P wd K mg base CX0 3 T.f_law_all T.d_law_all ["room", "width"] (lSp K sp_law_all) := by
  refine fn0 T.F_law_all sc_law_all len_law_all ⟨w_law_all, fun cdv A outer s H E hr => (dss_cons (ds_set (i := 2) sc_law_all.nd rfl (by first | exact Or.inl rfl | exact Or.inr rfl) (de_op lo_mul (dv 0) (de_op lo_add de_int (dv 1))))
      (dss_cons (ds_set (i := 3) sc_law_all.nd rfl (by first | exact Or.inl rfl | exact Or.inr rfl) de_dnewT)
      (dss_cons (ds_for (vs := List.range 9) PassesOwn.never rfl (di_range1 (by rfl) T.n_range (de_op lo_shl de_int (dv 2))) (dg_name (i := 4) sc_law_all.nd rfl (by first | exact Or.inl rfl | exact Or.inr rfl)) (dss_cons (ds_set (i := 5) sc_law_all.nd rfl (by first | exact Or.inl rfl | exact Or.inr rfl) (de_callTy lc_tuple (by rfl) T.n_tuple bt_tuple (da_cons (de_lc rfl sc_law_all.nd (di_range1 (by rfl) T.n_range (dv 2)) (blkOk_by (own := [("k", 7)]) (N := N_law_all) (sc := defScope s_law_all) (by decide +kernel)) (fun _ _ _ _ _ => (dg_name (i := 7) sc_law_all.nd rfl (by first | exact Or.inl rfl | exact Or.inr rfl))) (fun _ _ _ _ _ => dts_nil) (fun _ _ _ _ _ => (de_op lo_and (de_op lo_shr (dv 4) (dv 7)) de_int))) da_nil)))
      (dss_cons (ds_set (i := 6) sc_law_all.nd rfl (by first | exact Or.inl rfl | exact Or.inr rfl) (de_call (ok_queue_of_bits T) (hr.mono (by decide)) (by rfl) T.g_queue_of_bits T.F_queue_of_bits.kp T.b_queue_of_bits (da_cons (dv 5) (da_cons (dv 0) (da_cons (dv 1) da_nil)))))
      (dss_cons (ds_if (dt_cmp lo_is (dv 6) de_non (nomark _)) (dss_one ds_cont) dss_nil)
      (dss_cons (ds_if (PW.pt (dw_or (dt_not (dt_val (de_isi (by rfl) T.n_isinstance (by rfl) T.n_tuple bt_tuple (dv 6)))) (dw_or (dt_din (hu_of hr) (dv 6) (dv 3)) (dw_or (dt_cmp (lo_ne hr.units) (de_call (ok_queue_bits T) (hr.mono (by decide)) (by rfl) T.g_queue_bits T.F_queue_bits.kp T.b_queue_bits (da_cons (dv 6) (da_cons (dv 0) (da_cons (dv 1) da_nil)))) (dv 5) (nomark _)) (dw_or1 (dt_cmp (lo_ne hr.units) (de_lc rfl sc_law_all.nd (di_seq (dv 6)) (blkOk_by (own := [("word", 8)]) (N := N_law_all) (sc := defScope s_law_all) (by decide +kernel)) (fun _ _ _ _ _ => (dg_name (i := 8) sc_law_all.nd rfl (by first | exact Or.inl rfl | exact Or.inr rfl))) (fun _ _ _ _ _ => (dts_one (dt_not (dt_chain lo_le lo_lt de_int (dv 8) (de_op lo_shl de_int (dv 1)))))) (fun _ _ _ _ _ => (dv 8))) (de_lst da_nil) (nomark _))))))) (dss_one (ds_ret de_bl)) dss_nil)
      (dss_one (ds_dput (hu_of hr) (dv 3) (dv 6) (dv 5) rfl)))))))
      (dss_one (ds_ret (de_cmp (lo_eq hr.units) (de_callB lc_len (by rfl) T.n_len bt_len (da_cons (dv 3) da_nil)) (de_callB (lc_sum rfl) (by rfl) T.n_sum bt_sum (da_cons (de_lc rfl sc_law_all.nd (di_range1 (by rfl) T.n_range (de_op lo_add (dv 0) de_int)) (blkOk_by (own := [("k", 7)]) (N := N_law_all) (sc := defScope s_law_all) (by decide +kernel)) (fun _ _ _ _ _ => (dg_name (i := 7) sc_law_all.nd rfl (by first | exact Or.inl rfl | exact Or.inr rfl))) (fun _ _ _ _ _ => dts_nil) (fun _ _ _ _ _ => (de_op lo_shl de_int (de_op lo_mul (dv 1) (dv 7))))) da_nil)) (nomark _))))))), rd_law_all⟩ x0_law_all
theorem ok_law_turned (T : Tx K mg) : FnOk P wd K mg base CX0 3 T.f_law_turned T.d_law_turned ["words", "room", "width"] (lSp K sp_law_turned) := by
  refine fn0 T.F_law_turned sc_law_turned len_law_turned ⟨w_law_turned, fun cdv A outer s H E hr => (dss_cons (ds_set (i := 3) sc_law_turned.nd rfl (by first | exact Or.inl rfl | exact Or.inr rfl) (de_call (ok_queue_bits T) (hr.mono (by decide)) (by rfl) T.g_queue_bits T.F_queue_bits.kp T.b_queue_bits (da_cons (de_callTy lc_tuple (by rfl) T.n_tuple bt_tuple (da_cons (dv 0) da_nil)) (da_cons (dv 1) (da_cons (dv 2) da_nil)))))
      (dss_cons (ds_for (vs := List.range 9) PassesOwn.never rfl (di_range1 (by rfl) T.n_range (de_callB lc_len (by rfl) T.n_len bt_len (da_cons (dv 3) da_nil))) (dg_name (i := 4) sc_law_turned.nd rfl (by first | exact Or.inl rfl | exact Or.inr rfl)) (dss_cons (ds_set (i := 5) sc_law_turned.nd rfl (by first | exact Or.inl rfl | exact Or.inr rfl) (de_op lo_add (de_op lo_add (de_sl (dv 3) do_none (do_some (dv 4))) (de_tup (da_cons (de_op lo_sub de_int (de_ix (dv 3) (dv 4) (fun _ _ => rfl))) da_nil))) (de_sl (dv 3) (do_some (de_op lo_add (dv 4) de_int)) do_none)))
      (dss_cons (ds_par (i := 6) (j := 7) rfl sc_law_turned.nd rfl rfl (by decide) rfl rfl (da_cons (de_call (ok_queue_of_bits T) (hr.mono (by decide)) (by rfl) T.g_queue_of_bits T.F_queue_of_bits.kp T.b_queue_of_bits (da_cons (dv 5) (da_cons (dv 1) (da_cons (dv 2) da_nil)))) (da_cons (de_op lo_div (de_op lo_sub (dv 4) (dv 1)) (dv 2)) da_nil)) rfl)
      (dss_cons (ds_if (dt_cmp lo_lt (dv 4) (dv 1) (nomark _)) (dss_cons (ds_set (i := 8) sc_law_turned.nd rfl (by first | exact Or.inl rfl | exact Or.inr rfl) de_non)
      (dss_one (ds_if (dt_cmp (lo_eq hr.units) (dv 4) (de_callB lc_len (by rfl) T.n_len bt_len (da_cons (dv 0) da_nil)) (nomark _)) (dss_one (ds_set (i := 8) sc_law_turned.nd rfl (by first | exact Or.inl rfl | exact Or.inr rfl) (de_op lo_add (de_callTy lc_tuple (by rfl) T.n_tuple bt_tuple (da_cons (dv 0) da_nil)) (de_tup (da_cons de_int da_nil))))) (dss_one (ds_if (PW.pt (dw_and (dt_cmp (lo_eq hr.units) (dv 4) (de_op lo_sub (de_callB lc_len (by rfl) T.n_len bt_len (da_cons (dv 0) da_nil)) de_int) (nomark _)) (dw_and1 (dt_cmp (lo_eq hr.units) (de_ix (dv 0) (de_un lu_neg de_int) (fun _ _ => rfl)) de_int (nomark _))))) (dss_one (ds_set (i := 8) sc_law_turned.nd rfl (by first | exact Or.inl rfl | exact Or.inr rfl) (de_callTy lc_tuple (by rfl) T.n_tuple bt_tuple (da_cons (de_sl (dv 0) do_none (do_some (de_un lu_neg de_int))) da_nil)))) dss_nil))))) (dss_one (ds_if (dt_cmp lo_lt (dv 7) (de_callB lc_len (by rfl) T.n_len bt_len (da_cons (dv 0) da_nil)) (nomark _)) (dss_one (ds_set (i := 8) sc_law_turned.nd rfl (by first | exact Or.inl rfl | exact Or.inr rfl) (de_op lo_add (de_op lo_add (de_callTy lc_tuple (by rfl) T.n_tuple bt_tuple (da_cons (de_sl (dv 0) do_none (do_some (dv 7))) da_nil)) (de_tup (da_cons (de_op lo_xor (de_ix (dv 0) (dv 7) (fun _ _ => rfl)) (de_op lo_shl de_int (de_op lo_mod (de_op lo_sub (dv 4) (dv 1)) (dv 2)))) da_nil))) (de_callTy lc_tuple (by rfl) T.n_tuple bt_tuple (da_cons (de_sl (dv 0) (do_some (de_op lo_add (dv 7) de_int)) do_none) da_nil))))) (dss_one (ds_set (i := 8) sc_law_turned.nd rfl (by first | exact Or.inl rfl | exact Or.inr rfl) de_non)))))
      (dss_one (ds_if (PW.pt (dw_or (dt_cmp (lo_ne hr.units) (dv 6) (dv 8) (nomark _)) (dw_or1 (dt_cmp (lo_ne hr.units) (de_cmp lo_is (dv 6) de_non (nomark _)) (de_cmp lo_is (dv 8) de_non (nomark _)) (nomark _))))) (dss_one (ds_ret de_bl)) dss_nil))))))
      (dss_one (ds_ret de_bl)))), rd_law_turned⟩ x0_law_turned
theorem ok_law (T : Tx K mg) : FnOk P wd K mg base CX0 4 T.f_law T.d_law ["script"] (lSp K sp_law) := by
  refine fn0 T.F_law sc_law len_law ⟨w_law, fun cdv A outer s H E hr => (dss_cons (ds_set (i := 1) sc_law.nd rfl (by first | exact Or.inl rfl | exact Or.inr rfl) (de_lstM (da_cons (de_callTy lc_list (by rfl) T.n_list bt_list (da_cons (dv 0) da_nil)) (da_cons de_int (da_cons de_int (da_cons de_int da_nil))))))
      (dss_cons (ds_asg (vs := List.range 12) (de_ix (de_tup (da_cons (de_tup (da_cons de_int (da_cons de_int da_nil))) (da_cons (de_tup (da_cons de_int (da_cons de_int da_nil))) (da_cons (de_tup (da_cons de_int (da_cons de_int da_nil))) (da_cons (de_tup (da_cons de_int (da_cons de_int da_nil))) (da_cons (de_tup (da_cons de_int (da_cons de_int da_nil))) (da_cons (de_tup (da_cons de_int (da_cons de_int da_nil))) (da_cons (de_tup (da_cons de_int (da_cons de_int da_nil))) da_nil)))))))) (de_call (ok_law_draw T) (hr.mono (by decide)) (by rfl) T.g_law_draw T.F_law_draw.kp T.b_law_draw (da_cons (dv 1) (da_cons de_int da_nil))) (fun _ _ => rfl)) (dg_tup rfl (dgs_cons (dg_name (i := 2) sc_law.nd rfl (by first | exact Or.inl rfl | exact Or.inr rfl)) (dgs_cons (dg_name (i := 3) sc_law.nd rfl (by first | exact Or.inl rfl | exact Or.inr rfl)) dgs_nil))))
      (dss_cons (ds_if (dt_not (dt_val (de_call (ok_law_all T) (hr.mono (by decide)) (by rfl) T.g_law_all T.F_law_all.kp T.b_law_all (da_cons (dv 2) (da_cons (dv 3) da_nil))))) (dss_one (ds_ret de_bl)) dss_nil)
      (dss_cons (ds_for (vs := List.range 12) PassesOwn.never rfl (di_range1 (by rfl) T.n_range de_int) (dg_name (i := 4) sc_law.nd rfl (by first | exact Or.inl rfl | exact Or.inr rfl)) (dss_cons (ds_asg (vs := List.range 12) (de_tup (da_cons (de_op lo_add de_int (de_call (ok_law_draw T) (hr.mono (by decide)) (by rfl) T.g_law_draw T.F_law_draw.kp T.b_law_draw (da_cons (dv 1) (da_cons de_int da_nil)))) (da_cons (de_op lo_add de_int (de_call (ok_law_draw T) (hr.mono (by decide)) (by rfl) T.g_law_draw T.F_law_draw.kp T.b_law_draw (da_cons (dv 1) (da_cons de_int da_nil)))) da_nil))) (dg_tup rfl (dgs_cons (dg_name (i := 2) sc_law.nd rfl (by first | exact Or.inl rfl | exact Or.inr rfl)) (dgs_cons (dg_name (i := 3) sc_law.nd rfl (by first | exact Or.inl rfl | exact Or.inr rfl)) dgs_nil))))
      (dss_cons (ds_set (i := 5) sc_law.nd rfl (by first | exact Or.inl rfl | exact Or.inr rfl) (de_lc rfl sc_law.nd (di_range1 (by rfl) T.n_range (de_call (ok_law_draw T) (hr.mono (by decide)) (by rfl) T.g_law_draw T.F_law_draw.kp T.b_law_draw (da_cons (dv 1) (da_cons (de_op lo_add (dv 2) de_int) da_nil)))) (blkOk_by (own := [("k", 8)]) (N := N_law) (sc := defScope s_law) (by decide +kernel)) (fun _ _ _ _ _ => (dg_name (i := 8) sc_law.nd rfl (by first | exact Or.inl rfl | exact Or.inr rfl))) (fun _ _ _ _ _ => dts_nil) (fun _ _ _ _ _ => (de_ix (de_tup (da_cons de_int (da_cons (de_call (ok_law_draw T) (hr.mono (by decide)) (by rfl) T.g_law_draw T.F_law_draw.kp T.b_law_draw (da_cons (dv 1) (da_cons (de_op lo_shl de_int (dv 3)) da_nil))) (da_cons (de_op lo_sub (de_op lo_shl de_int (dv 3)) de_int) da_nil)))) (de_call (ok_law_draw T) (hr.mono (by decide)) (by rfl) T.g_law_draw T.F_law_draw.kp T.b_law_draw (da_cons (dv 1) (da_cons de_int da_nil))) (fun _ _ => rfl)))))
      (dss_cons (ds_set (i := 6) sc_law.nd rfl (by first | exact Or.inl rfl | exact Or.inr rfl) (de_call (ok_queue_names T) (hr.mono (by decide)) (by rfl) T.g_queue_names T.F_queue_names.kp T.b_queue_names (da_cons (de_op lo_add de_str (de_callTy lc_str (by rfl) T.n_str bt_str (da_cons (dv 4) da_nil))) (da_cons (dv 2) (da_cons (dv 3) da_nil)))))
      (dss_cons (ds_if (PW.pt (dw_or (dt_not (dt_val (de_call (ok_law_turned T) (hr.mono (by decide)) (by rfl) T.g_law_turned T.F_law_turned.kp T.b_law_turned (da_cons (dv 5) (da_cons (dv 2) (da_cons (dv 3) da_nil)))))) (dw_or (dt_cmp (lo_ne hr.units) (de_callB lc_len (by rfl) T.n_len bt_len (da_cons (dv 6) da_nil)) (de_op lo_mul (dv 2) (de_op lo_add de_int (dv 3))) (nomark _)) (dw_or1 (dt_cmp (lo_ne hr.units) (de_lenSet rfl (by rfl) T.n_len (by rfl) T.n_set (dv 6)) (de_callB lc_len (by rfl) T.n_len bt_len (da_cons (dv 6) da_nil)) (nomark _)))))) (dss_one (ds_ret de_bl)) dss_nil)
      (dss_cons (ds_setLc (i := 7) rfl sc_law.nd rfl rfl (sw_true rfl rfl rfl (by decide +kernel)) (di_range1 (by rfl) T.n_range (dv 2)) (blkOk_by (own := [("k", 8)]) (N := N_law) (sc := defScope s_law) (by decide +kernel)) (fun _ _ _ _ _ => (dg_name (i := 8) sc_law.nd rfl (by first | exact Or.inl rfl | exact Or.inr rfl))) (fun _ _ _ _ _ => dts_nil) (fun _ _ _ _ _ => (de_op lo_add (de_op lo_add (de_op lo_add de_str (de_callTy lc_str (by rfl) T.n_str bt_str (da_cons (dv 4) da_nil))) de_str) (de_callTy lc_str (by rfl) T.n_str bt_str (da_cons (dv 8) da_nil)))))
      (dss_cons (ds_for (vs := List.range 12) PassesOwn.never rfl (di_range1 (by rfl) T.n_range (dv 2)) (dg_name (i := 8) sc_law.nd rfl (by first | exact Or.inl rfl | exact Or.inr rfl)) (dss_one (ds_set (i := 7) sc_law.nd rfl (by first | exact Or.inl rfl | exact Or.inr rfl) (de_op lo_add (dv 7) (de_lc rfl sc_law.nd (di_range1 (by rfl) T.n_range (dv 3)) (blkOk_by (own := [("j", 11)]) (N := N_law) (sc := defScope s_law) (by decide +kernel)) (fun _ _ _ _ _ => (dg_name (i := 11) sc_law.nd rfl (by first | exact Or.inl rfl | exact Or.inr rfl))) (fun _ _ _ _ _ => dts_nil) (fun _ _ _ _ _ => (de_op lo_add (de_op lo_add (de_op lo_add (de_op lo_add (de_op lo_add de_str (de_callTy lc_str (by rfl) T.n_str bt_str (da_cons (dv 4) da_nil))) de_str) (de_callTy lc_str (by rfl) T.n_str bt_str (da_cons (dv 8) da_nil))) de_str) (de_callTy lc_str (by rfl) T.n_str bt_str (da_cons (dv 11) da_nil)))))))))
      (dss_cons (ds_if (dt_cmp (lo_ne hr.units) (dv 6) (dv 7) (nomark _)) (dss_one (ds_ret de_bl)) dss_nil)
      (dss_cons (ds_set (i := 9) sc_law.nd rfl (by first | exact Or.inl rfl | exact Or.inr rfl) (de_call (ok_queue_bits T) (hr.mono (by decide)) (by rfl) T.g_queue_bits T.F_queue_bits.kp T.b_queue_bits (da_cons (de_callTy lc_tuple (by rfl) T.n_tuple bt_tuple (da_cons (dv 5) da_nil)) (da_cons (dv 2) (da_cons (dv 3) da_nil)))))
      (dss_cons (ds_set (i := 10) sc_law.nd rfl (by first | exact Or.inl rfl | exact Or.inr rfl) (de_callB (lc_sum rfl) (by rfl) T.n_sum bt_sum (da_cons (de_lc rfl sc_law.nd (di_range1 (by rfl) T.n_range (de_op lo_mul (dv 2) (dv 3))) (blkOk_by (own := [("k", 8)]) (N := N_law) (sc := defScope s_law) (by decide +kernel)) (fun _ _ _ _ _ => (dg_name (i := 8) sc_law.nd rfl (by first | exact Or.inl rfl | exact Or.inr rfl))) (fun _ _ _ _ _ => dts_nil) (fun _ _ _ _ _ => (de_op lo_shl (de_ix (dv 9) (de_op lo_add (dv 2) (dv 8)) (fun _ _ => rfl)) (dv 8)))) da_nil)))
      (dss_one (ds_if (PW.pt (dw_or (dt_cmp (lo_ne hr.units) (de_callB (lc_sum rfl) (by rfl) T.n_sum bt_sum (da_cons (de_sl (dv 9) do_none (do_some (dv 2))) da_nil)) (de_callB lc_len (by rfl) T.n_len bt_len (da_cons (dv 5) da_nil)) (nomark _)) (dw_or1 (dt_cmp (lo_ne hr.units) (dv 10) (de_callB (lc_sum rfl) (by rfl) T.n_sum bt_sum (da_cons (de_lc rfl sc_law.nd (di_range1 (by rfl) T.n_range (de_callB lc_len (by rfl) T.n_len bt_len (da_cons (dv 5) da_nil))) (blkOk_by (own := [("k", 8)]) (N := N_law) (sc := defScope s_law) (by decide +kernel)) (fun _ _ _ _ _ => (dg_name (i := 8) sc_law.nd rfl (by first | exact Or.inl rfl | exact Or.inr rfl))) (fun _ _ _ _ _ => dts_nil) (fun _ _ _ _ _ => (de_op lo_shl (de_ix (dv 5) (dv 8) (fun _ _ => rfl)) (de_op lo_mul (dv 8) (dv 3))))) da_nil)) (nomark _))))) (dss_one (ds_ret de_bl)) dss_nil))))))))))))
      (dss_one (ds_ret de_bl)))))), rd_law⟩ x0_law
end
theorem all_mk {l : PySem.W.OpenLaw} {wd : World} {K : PySem.W.Frag} {h : Heap} {mg : Str → Option Value} {fa : Addr} (X : K.In h) (G : h.Ns mainGlobals mg) (hfa : mg "law" = some (.ref fa))
    {f0 : Addr} {od0 an0 : Option Addr} {sl0 : Array (Option Value)} {oc0 kV0 dc0 pm0 cd0 ct0 : Value}
    {f1 : Addr} {od1 an1 : Option Addr} {sl1 : Array (Option Value)} {oc1 kV1 dc1 pm1 cd1 ct1 : Value}
    {f2 : Addr} {od2 an2 : Option Addr} {sl2 : Array (Option Value)} {oc2 kV2 dc2 pm2 cd2 ct2 : Value}
    {f3 : Addr} {od3 an3 : Option Addr} {sl3 : Array (Option Value)} {oc3 kV3 dc3 pm3 cd3 ct3 : Value}
    {f4 : Addr} {od4 an4 : Option Addr} {sl4 : Array (Option Value)} {oc4 kV4 dc4 pm4 cd4 ct4 : Value}
    {f5 : Addr} {od5 an5 : Option Addr} {sl5 : Array (Option Value)} {oc5 kV5 dc5 pm5 cd5 ct5 : Value}
    {f6 : Addr} {od6 an6 : Option Addr} {sl6 : Array (Option Value)} {oc6 kV6 dc6 pm6 cd6 ct6 : Value}
    (a0 : PySem.W.nsIn K mainGlobals "queue_bits" = some (some (.ref f0))) (l0 : K.lookup f0 = some ⟨oc0, od0, .func (PySem.W.fnOf "queue_bits" "queue_bits" (defArgs s_queue_bits) (defBody s_queue_bits) (defScope s_queue_bits) .none kV0 dc0 pm0 an0 cd0 ct0), sl0⟩) (c0 : PySem.W.codeIn K cd0 "queue_bits" = true) (k0 : PySem.W.keepIn K (.ref f0) = true)
    (a1 : PySem.W.nsIn K mainGlobals "queue_of_bits" = some (some (.ref f1))) (l1 : K.lookup f1 = some ⟨oc1, od1, .func (PySem.W.fnOf "queue_of_bits" "queue_of_bits" (defArgs s_queue_of_bits) (defBody s_queue_of_bits) (defScope s_queue_of_bits) .none kV1 dc1 pm1 an1 cd1 ct1), sl1⟩) (c1 : PySem.W.codeIn K cd1 "queue_of_bits" = true) (k1 : PySem.W.keepIn K (.ref f1) = true)
    (a2 : PySem.W.nsIn K mainGlobals "queue_names" = some (some (.ref f2))) (l2 : K.lookup f2 = some ⟨oc2, od2, .func (PySem.W.fnOf "queue_names" "queue_names" (defArgs s_queue_names) (defBody s_queue_names) (defScope s_queue_names) .none kV2 dc2 pm2 an2 cd2 ct2), sl2⟩) (c2 : PySem.W.codeIn K cd2 "queue_names" = true) (k2 : PySem.W.keepIn K (.ref f2) = true)
    (a3 : PySem.W.nsIn K mainGlobals "_law_draw" = some (some (.ref f3))) (l3 : K.lookup f3 = some ⟨oc3, od3, .func (PySem.W.fnOf "_law_draw" "_law_draw" (defArgs s_law_draw) (defBody s_law_draw) (defScope s_law_draw) .none kV3 dc3 pm3 an3 cd3 ct3), sl3⟩) (c3 : PySem.W.codeIn K cd3 "_law_draw" = true) (k3 : PySem.W.keepIn K (.ref f3) = true)
    (a4 : PySem.W.nsIn K mainGlobals "_law_all" = some (some (.ref f4))) (l4 : K.lookup f4 = some ⟨oc4, od4, .func (PySem.W.fnOf "_law_all" "_law_all" (defArgs s_law_all) (defBody s_law_all) (defScope s_law_all) .none kV4 dc4 pm4 an4 cd4 ct4), sl4⟩) (c4 : PySem.W.codeIn K cd4 "_law_all" = true) (k4 : PySem.W.keepIn K (.ref f4) = true)
    (a5 : PySem.W.nsIn K mainGlobals "_law_turned" = some (some (.ref f5))) (l5 : K.lookup f5 = some ⟨oc5, od5, .func (PySem.W.fnOf "_law_turned" "_law_turned" (defArgs s_law_turned) (defBody s_law_turned) (defScope s_law_turned) .none kV5 dc5 pm5 an5 cd5 ct5), sl5⟩) (c5 : PySem.W.codeIn K cd5 "_law_turned" = true) (k5 : PySem.W.keepIn K (.ref f5) = true)
    (a6 : PySem.W.nsIn K mainGlobals "law" = some (some (.ref f6))) (l6 : K.lookup f6 = some ⟨oc6, od6, .func (PySem.W.fnOf "law" "law" (defArgs s_law) (defBody s_law) (defScope s_law) .none kV6 dc6 pm6 an6 cd6 ct6), sl6⟩) (c6 : PySem.W.codeIn K cd6 "law" = true) (k6 : PySem.W.keepIn K (.ref f6) = true)
    (z0 : PySem.W.nsIn K mainGlobals "abs" = some none)
    (z1 : PySem.W.nsIn K mainGlobals "int" = some none)
    (z2 : PySem.W.nsIn K mainGlobals "isinstance" = some none)
    (z3 : PySem.W.nsIn K mainGlobals "len" = some none)
    (z4 : PySem.W.nsIn K mainGlobals "list" = some none)
    (z5 : PySem.W.nsIn K mainGlobals "range" = some none)
    (z6 : PySem.W.nsIn K mainGlobals "set" = some none)
    (z7 : PySem.W.nsIn K mainGlobals "str" = some none)
    (z8 : PySem.W.nsIn K mainGlobals "sum" = some none)
    (z9 : PySem.W.nsIn K mainGlobals "tuple" = some none)
    : ∃ fd : FuncData, (∀ (s : Shared) (v : Value), BindsTo s fd ⟨[v], []⟩ [("script", v)]) ∧ ∀ base : Heap, K.In base → base.Ns mainGlobals mg → FnOk l.prog wd K mg base CX0 4 fa fd ["script"] (lSp K sp_law) := by
  have e := hfa.symm.trans (PySem.W.mg_of X G a6)
  cases e
  have F0 := fun_mk (st := s_queue_bits) l0 c0 k0
  have B0 := F0.binds (ps := ["words", "room", "width"]) fun _ _ _ _ _ _ us hl => match us, hl with | [_, _, _], _ => rfl
  have F1 := fun_mk (st := s_queue_of_bits) l1 c1 k1
  have B1 := F1.binds (ps := ["bits", "room", "width"]) fun _ _ _ _ _ _ us hl => match us, hl with | [_, _, _], _ => rfl
  have F2 := fun_mk (st := s_queue_names) l2 c2 k2
  have B2 := F2.binds (ps := ["name", "room", "width"]) fun _ _ _ _ _ _ us hl => match us, hl with | [_, _, _], _ => rfl
  have F3 := fun_mk (st := s_law_draw) l3 c3 k3
  have B3 := F3.binds (ps := ["tape", "many"]) fun _ _ _ _ _ _ us hl => match us, hl with | [_, _], _ => rfl
  have F4 := fun_mk (st := s_law_all) l4 c4 k4
  have B4 := F4.binds (ps := ["room", "width"]) fun _ _ _ _ _ _ us hl => match us, hl with | [_, _], _ => rfl
  have F5 := fun_mk (st := s_law_turned) l5 c5 k5
  have B5 := F5.binds (ps := ["words", "room", "width"]) fun _ _ _ _ _ _ us hl => match us, hl with | [_, _, _], _ => rfl
  have F6 := fun_mk (st := s_law) l6 c6 k6
  have B6 := F6.binds (ps := ["script"]) fun _ _ _ _ _ _ us hl => match us, hl with | [_], _ => rfl
  let T : Tx K mg := { f_queue_bits := f0, d_queue_bits := _, F_queue_bits := F0, b_queue_bits := B0, g_queue_bits := PySem.W.mg_of X G a0, f_queue_of_bits := f1, d_queue_of_bits := _, F_queue_of_bits := F1, b_queue_of_bits := B1, g_queue_of_bits := PySem.W.mg_of X G a1, f_queue_names := f2, d_queue_names := _, F_queue_names := F2, b_queue_names := B2, g_queue_names := PySem.W.mg_of X G a2, f_law_draw := f3, d_law_draw := _, F_law_draw := F3, b_law_draw := B3, g_law_draw := PySem.W.mg_of X G a3, f_law_all := f4, d_law_all := _, F_law_all := F4, b_law_all := B4, g_law_all := PySem.W.mg_of X G a4, f_law_turned := f5, d_law_turned := _, F_law_turned := F5, b_law_turned := B5, g_law_turned := PySem.W.mg_of X G a5, f_law := _, d_law := _, F_law := F6, b_law := B6, g_law := PySem.W.mg_of X G a6, n_abs := PySem.W.mg_none_of X G z0, n_int := PySem.W.mg_none_of X G z1, n_isinstance := PySem.W.mg_none_of X G z2, n_len := PySem.W.mg_none_of X G z3, n_list := PySem.W.mg_none_of X G z4, n_range := PySem.W.mg_none_of X G z5, n_set := PySem.W.mg_none_of X G z6, n_str := PySem.W.mg_none_of X G z7, n_sum := PySem.W.mg_none_of X G z8, n_tuple := PySem.W.mg_none_of X G z9 }
  exact ⟨_, fun s v => .of_eq rfl, fun base _ _ => ok_law T⟩
end Law
open PySem PySem.W PyProof.Rows
set_option maxHeartbeats 0 in
theorem PySem.Challenge.cw_citywright_k40_whole_bits_of_queues_coun_holds : PySem.Challenge.rw_citywright_k40_whole_bits_of_queues_coun.Holds := by
  w_on; o_law; k_head; (case hw => w_witness2)
  k_fill
  refine L2.walk_of (l := PySem.Challenge.rw_citywright_k40_whole_bits_of_queues_coun) (n := 63) (k := 4) (x := "script") (CX := fun _ => L2.CX0) (sp := fun w => DL.lSp _ Law.sp_law) rfl (by decide) rfl ⟨rfl, by decide, by decide⟩ (fun w h Y => PySem.W.kIn_of Y) ?F (fun _ _ a ns hl hO hS => Law.end_law hl hO hS) (fun _ _ _ _ _ h => h)
  case F =>
    intro w mg fa h KX G hmg
    refine' Law.all_mk KX G hmg ?a0 ?l0 ?c0 ?k0 ?a1 ?l1 ?c1 ?k1 ?a2 ?l2 ?c2 ?k2 ?a3 ?l3 ?c3 ?k3 ?a4 ?l4 ?c4 ?k4 ?a5 ?l5 ?c5 ?k5 ?a6 ?l6 ?c6 ?k6 ?z0 ?z1 ?z2 ?z3 ?z4 ?z5 ?z6 ?z7 ?z8 ?z9
    (case a0 => k_is); (case l0 => k_is); (case c0 => k_is); (case k0 => k_is); (case a1 => k_is); (case l1 => k_is); (case c1 => k_is); (case k1 => k_is); (case a2 => k_is); (case l2 => k_is); (case c2 => k_is); (case k2 => k_is); (case a3 => k_is); (case l3 => k_is); (case c3 => k_is); (case k3 => k_is); (case a4 => k_is); (case l4 => k_is); (case c4 => k_is); (case k4 => k_is); (case a5 => k_is); (case l5 => k_is); (case c5 => k_is); (case k5 => k_is); (case a6 => k_is); (case l6 => k_is); (case c6 => k_is); (case k6 => k_is); (case z0 => k_is); (case z1 => k_is); (case z2 => k_is); (case z3 => k_is); (case z4 => k_is); (case z5 => k_is); (case z6 => k_is); (case z7 => k_is); (case z8 => k_is); (case z9 => k_is)
