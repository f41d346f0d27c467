import PyProof.Rows.All
import Wide.All
import OpenK.AllK
import Wide.FinOn
import HandS.ForMost
import HandS.Walk
import HandS.TupAny
import HandS.Wide
import HandS.CallSlots
import HandS.WordsExc
import HandS.Style
import HandS.TupMul
import HandS.TryOnly
import HandS.TupLen
import KE.KTupSum
import HandS.Strs
import HandS.IsInst
import HandS.Codes
import HandS.Text
import HandS.Iter
import PySem.Challenge.RW_citywright_k02_whole_sums_and_bits_agree
set_option Elab.async false
set_option linter.all false
set_option maxRecDepth 100000
set_option maxHeartbeats 4000000
namespace DL
open PySem PySem.Spec PyProof.Rows L2

/-! ### data: what a value is, the objects that nobody changes written out -/
inductive D where
  | non | bl (b : Bool) | int (i : Int) | str (x : Str)
  | tup (ds : List D) | lst (ds : List D) | sl (ds : List D) | kt (ds : List D)
  | loc (a : Addr)
  | obj (C : Str) (ns : List Str) (ds : List D)
  | dK (ks : List Key) (ds : List D)
  | dT (ks : List (List Key)) (ds : List D)
/-- what stands at a place that may change -/
inductive MO where
  | lst (ds : List D)
  | dK (kvs : List (Key × D))
  | dT (kvs : List (List Key × D))
  | ins (C : Str) (fs : List (Str × D))
abbrev Mem := Addr → Option MO
def mup (M : Mem) (a : Addr) (o : MO) : Mem := fun b => if b = a then some o else M b
def mdel (M : Mem) (a : Addr) : Mem := fun b => if b = a then none else M b
theorem mup_same {M : Mem} {a : Addr} {o : MO} : mup M a o a = some o := if_pos rfl
theorem mup_ne {M : Mem} {a b : Addr} {o : MO} (h : b ≠ a) : mup M a o b = M b := if_neg h
theorem mdel_same {M : Mem} {a : Addr} : mdel M a a = none := if_pos rfl
theorem mdel_ne {M : Mem} {a b : Addr} (h : b ≠ a) : mdel M a b = M b := if_neg h
theorem mup_mup {M : Mem} {a : Addr} {o u : MO} : mup (mup M a o) a u = mup M a u := by
  funext b; unfold mup; split <;> rfl
theorem mup_self {M : Mem} {a : Addr} {o : MO} (h : M a = some o) : mup M a o = M := by
  funext b; unfold mup; split
  · next e => rw [e, h]
  · rfl

section
variable (K : PySem.W.Frag) (M : Mem) (H : Hp)
def KL (a : Addr) (xs : List V) : Prop := ∃ (o : Obj) (its : Array Value) (n : Nat), K.lookup a = some o ∧ o.cls = .type "list" ∧ o.dict = none ∧ o.data = .seq its n ∧ its.size ≤ sizeLine ∧ Vals xs its.toList
def KT (a : Addr) (xs : List V) : Prop := ∃ (o : Obj) (its : Array Value) (n : Nat), K.lookup a = some o ∧ o.cls = .type "tuple" ∧ o.data = .seq its n ∧ its.size ≤ sizeLine ∧ Vals xs its.toList
/-- the class of that name in the text -/
def Kn (C : Str) (c : Addr) : Prop := PySem.W.nsIn K mainGlobals C = some (some (.ref c))
mutual
def Rep : D → V → Prop
  | .non, v => v = .non
  | .bl b, v => v = .bl b
  | .int i, v => v = .int i
  | .str x, v => v = .str x
  | .tup ds, v => ∃ a vs, v = .ref a ∧ H a = some (.tup vs) ∧ M a = none ∧ Reps ds vs
  | .kt ds, v => ∃ a vs, v = .ref a ∧ KT K a vs ∧ Reps ds vs
  | .lst ds, v => ∃ a vs, v = .ref a ∧ H a = some (.lst vs) ∧ M a = none ∧ Reps ds vs
  | .sl ds, v => ∃ a vs, v = .ref a ∧ ((Rd H a (.lst vs) ∧ M a = none) ∨ KL K a vs) ∧ Reps ds vs
  | .loc a, v => v = .ref a
  | .obj C ns ds, v => ∃ a c dx vs, v = .ref a ∧ Kn K C c ∧ H a = some (.ins c dx (ns.zip vs)) ∧ M a = none ∧ ns.length = ds.length ∧ Reps ds vs
  | .dK ks ds, v => ∃ a vs, v = .ref a ∧ H a = some (.dK (ks.zip vs)) ∧ M a = none ∧ ks.length = ds.length ∧ Reps ds vs
  | .dT ks ds, v => ∃ a vs, v = .ref a ∧ H a = some (.dT (ks.zip vs)) ∧ M a = none ∧ ks.length = ds.length ∧ Reps ds vs
def Reps : List D → List V → Prop
  | [], vs => vs = []
  | d :: ds, vs => ∃ v r, vs = v :: r ∧ Rep d v ∧ Reps ds r
end
def RepO (a : Addr) : MO → Prop
  | .lst ds => ∃ vs, H a = some (.lst vs) ∧ Reps K M H ds vs
  | .dK kvs => ∃ vs, H a = some (.dK ((kvs.map (·.1)).zip vs)) ∧ Reps K M H (kvs.map (·.2)) vs
  | .dT kvs => ∃ vs, H a = some (.dT ((kvs.map (·.1)).zip vs)) ∧ Reps K M H (kvs.map (·.2)) vs
  | .ins C fs => ∃ c dx vs, Kn K C c ∧ H a = some (.ins c dx ((fs.map (·.1)).zip vs)) ∧ Reps K M H (fs.map (·.2)) vs
def Good : Prop := ∀ a o, M a = some o → RepO K M H a o
end
/-- what nobody changes stays -/
def Stp (M : Mem) (H : Hp) (M' : Mem) (H' : Hp) : Prop := ∀ a o, H a = some o → M a = none → H' a = some o ∧ M' a = none
theorem Stp.refl (M : Mem) (H : Hp) : Stp M H M H := fun _ _ h m => ⟨h, m⟩
theorem Stp.trans {M M1 M2 : Mem} {H H1 H2 : Hp} (a : Stp M H M1 H1) (b : Stp M1 H1 M2 H2) : Stp M H M2 H2 := fun x o h m => b x o (a x o h m).1 (a x o h m).2

section
variable {K : PySem.W.Frag} {M M' : Mem} {H H' : Hp}
theorem Reps.len : ∀ {ds : List D} {vs : List V}, Reps K M H ds vs → ds.length = vs.length
  | [], _, h => by have h : _ = [] := h; rw [h]; rfl
  | _ :: ds, _, h => by
    obtain ⟨v, r, rfl, _, h⟩ := h
    rw [List.length_cons, List.length_cons, Reps.len h]
theorem stp_rd (s : Stp M H M' H') {a : Addr} {u : HO} (h : Rd H a u ∧ M a = none) : Rd H' a u ∧ M' a = none := by
  obtain ⟨h | ⟨o, h⟩, m⟩ := h
  · exact ⟨.inl (s _ _ h m).1, (s _ _ h m).2⟩
  · exact ⟨.inr ⟨o, (s _ _ h m).1⟩, (s _ _ h m).2⟩
mutual
theorem Rep.stp (s : Stp M H M' H') : ∀ {d : D} {v : V}, Rep K M H d v → Rep K M' H' d v
  | .non, _, h => h
  | .bl _, _, h => h
  | .int _, _, h => h
  | .str _, _, h => h
  | .loc _, _, h => h
  | .tup ds, _, h => by
    obtain ⟨a, vs, e, h, m, r⟩ := h
    exact ⟨a, vs, e, (s _ _ h m).1, (s _ _ h m).2, Reps.stp s r⟩
  | .kt ds, _, h => by
    obtain ⟨a, vs, e, h, r⟩ := h
    exact ⟨a, vs, e, h, Reps.stp s r⟩
  | .sl ds, _, h => by
    obtain ⟨a, vs, e, h, r⟩ := h
    exact ⟨a, vs, e, h.imp (stp_rd s) id, Reps.stp s r⟩
  | .lst ds, _, h => by
    obtain ⟨a, vs, e, h, m, r⟩ := h
    exact ⟨a, vs, e, (s _ _ h m).1, (s _ _ h m).2, Reps.stp s r⟩
  | .obj C ns ds, _, h => by
    obtain ⟨a, c, dx, vs, e, kn, h, m, l, r⟩ := h
    exact ⟨a, c, dx, vs, e, kn, (s _ _ h m).1, (s _ _ h m).2, l, Reps.stp s r⟩
  | .dK ks ds, _, h => by
    obtain ⟨a, vs, e, h, m, l, r⟩ := h
    exact ⟨a, vs, e, (s _ _ h m).1, (s _ _ h m).2, l, Reps.stp s r⟩
  | .dT ks ds, _, h => by
    obtain ⟨a, vs, e, h, m, l, r⟩ := h
    exact ⟨a, vs, e, (s _ _ h m).1, (s _ _ h m).2, l, Reps.stp s r⟩
theorem Reps.stp (s : Stp M H M' H') : ∀ {ds : List D} {vs : List V}, Reps K M H ds vs → Reps K M' H' ds vs
  | [], _, h => h
  | _ :: _, _, h => by
    obtain ⟨v, r, e, h, t⟩ := h
    exact ⟨v, r, e, Rep.stp s h, Reps.stp s t⟩
end
theorem RepO.stp (s : Stp M H M' H') {a : Addr} {o : MO} (e : H' a = H a) (h : RepO K M H a o) : RepO K M' H' a o := by
  cases o with
  | lst ds => obtain ⟨vs, h, r⟩ := h; exact ⟨vs, e.trans h, r.stp s⟩
  | dK kvs => obtain ⟨vs, h, r⟩ := h; exact ⟨vs, e.trans h, r.stp s⟩
  | dT kvs => obtain ⟨vs, h, r⟩ := h; exact ⟨vs, e.trans h, r.stp s⟩
  | ins C fs => obtain ⟨c, dx, vs, kn, h, r⟩ := h; exact ⟨c, dx, vs, kn, e.trans h, r.stp s⟩
theorem RepO.there {a : Addr} {o : MO} (h : RepO K M H a o) : ∃ u, H a = some u := by
  cases o with
  | lst ds => obtain ⟨vs, h, r⟩ := h; exact ⟨_, h⟩
  | dK kvs => obtain ⟨vs, h, r⟩ := h; exact ⟨_, h⟩
  | dT kvs => obtain ⟨vs, h, r⟩ := h; exact ⟨_, h⟩
  | ins C fs => obtain ⟨c, dx, vs, kn, h, r⟩ := h; exact ⟨_, h⟩
theorem Good.free (g : Good K M H) {p : Addr} (h : H p = none) : M p = none := by
  cases q : M p with
  | none => rfl
  | some o =>
    obtain ⟨u, e⟩ := (g p o q).there
    rw [h] at e; cases e
/-- a new object that nobody changes -/
theorem stp_new {p : Addr} {o : HO} (g : Good K M H) (h : H p = none) : Stp M H M (upd H p o) := fun a u e m => by
  rw [upd_ne (ne_of_none e h)]; exact ⟨e, m⟩
theorem good_new {p : Addr} {o : HO} (g : Good K M H) (h : H p = none) : Good K M (upd H p o) := fun a u e => by
  have ne : a ≠ p := fun z => by rw [z, g.free h] at e; cases e
  exact (g a u e).stp (stp_new g h) (upd_ne ne)
/-- a new place that may change -/
theorem stp_loc {p : Addr} {o : HO} {u : MO} (h : H p = none) : Stp M H (mup M p u) (upd H p o) := fun a x e m => by
  have ne := ne_of_none e h
  rw [upd_ne ne, mup_ne ne]; exact ⟨e, m⟩
theorem good_loc {p : Addr} {o : HO} {u : MO} (g : Good K M H) (h : H p = none) (r : RepO K (mup M p u) (upd H p o) p u) : Good K (mup M p u) (upd H p o) := fun a x e => by
  by_cases ne : a = p
  · rw [ne] at e ⊢
    rw [mup_same] at e; cases e; exact r
  · rw [mup_ne ne] at e
    exact (g a x e).stp (stp_loc h) (upd_ne ne)
/-- a place is changed -/
theorem stp_put {p : Addr} {o : HO} {u u' : MO} (h : M p = some u) : Stp M H (mup M p u') (upd H p o) := fun a x e m => by
  have ne : a ≠ p := fun z => by rw [z, h] at m; cases m
  rw [upd_ne ne, mup_ne ne]; exact ⟨e, m⟩
theorem good_put {p : Addr} {o : HO} {u u' : MO} (g : Good K M H) (h : M p = some u) (r : RepO K (mup M p u') (upd H p o) p u') : Good K (mup M p u') (upd H p o) := fun a x e => by
  by_cases ne : a = p
  · rw [ne] at e ⊢
    rw [mup_same] at e; cases e; exact r
  · rw [mup_ne ne] at e
    exact (g a x e).stp (stp_put h) (upd_ne ne)
/-- fewer places -/
def Sub (M' M : Mem) : Prop := ∀ a o, M' a = some o → M a = some o
theorem Sub.refl (M : Mem) : Sub M M := fun _ _ h => h
theorem Sub.trans {M M1 M2 : Mem} (a : Sub M M1) (b : Sub M1 M2) : Sub M M2 := fun x o h => b x o (a x o h)
theorem Sub.none {M M' : Mem} (s : Sub M' M) {a : Addr} (h : M a = none) : M' a = none := by
  cases q : M' a with
  | none => rfl
  | some o => rw [s a o q] at h; cases h
theorem stp_sub (s : Sub M' M) : Stp M H M' H := fun _ _ h m => ⟨h, s.none m⟩
theorem good_sub (s : Sub M' M) (g : Good K M H) : Good K M' H := fun a o e => (g a o (s a o e)).stp (stp_sub s) rfl
theorem sub_del {a : Addr} : Sub (mdel M a) M := fun b o h => by
  by_cases e : b = a
  · rw [e, mdel_same] at h; cases h
  · rw [mdel_ne e] at h; exact h
theorem sub_new {a : Addr} {o : MO} (h : M a = none) : Sub M (mup M a o) := fun b u e => by
  have ne : b ≠ a := fun z => by rw [z, h] at e; cases e
  rw [mup_ne ne]; exact e
theorem Sub.mup {M M' : Mem} (s : Sub M' M) {a : Addr} {o : MO} : Sub (mup M' a o) (mup M a o) := fun b u e => by
  by_cases ne : b = a
  · rw [ne, mup_same] at e ⊢; exact e
  · rw [mup_ne ne] at e ⊢; exact s _ _ e
/-- a place that is no more changed -/
theorem freeze_lst {a : Addr} {ds : List D} (g : Good K M H) (h : M a = some (.lst ds)) : Rep K (mdel M a) H (.lst ds) (.ref a) := by
  obtain ⟨vs, h, r⟩ := g a _ h
  exact ⟨a, vs, rfl, h, mdel_same, r.stp (stp_sub sub_del)⟩
theorem freeze_ins {a : Addr} {C : Str} {fs : List (Str × D)} (g : Good K M H) (h : M a = some (.ins C fs)) : Rep K (mdel M a) H (.obj C (fs.map (·.1)) (fs.map (·.2))) (.ref a) := by
  obtain ⟨c, dx, vs, kn, h, r⟩ := g a _ h
  exact ⟨a, c, dx, vs, rfl, kn, h, mdel_same, by simp, r.stp (stp_sub sub_del)⟩
theorem freeze_dK {a : Addr} {kvs : List (Key × D)} (g : Good K M H) (h : M a = some (.dK kvs)) : Rep K (mdel M a) H (.dK (kvs.map (·.1)) (kvs.map (·.2))) (.ref a) := by
  obtain ⟨vs, h, r⟩ := g a _ h
  exact ⟨a, vs, rfl, h, mdel_same, by simp, r.stp (stp_sub sub_del)⟩
theorem freeze_dT {a : Addr} {kvs : List (List Key × D)} (g : Good K M H) (h : M a = some (.dT kvs)) : Rep K (mdel M a) H (.dT (kvs.map (·.1)) (kvs.map (·.2))) (.ref a) := by
  obtain ⟨vs, h, r⟩ := g a _ h
  exact ⟨a, vs, rfl, h, mdel_same, by simp, r.stp (stp_sub sub_del)⟩
theorem Reps.append {ds es : List D} {vs ws : List V} : Reps K M H ds vs → Reps K M H es ws → Reps K M H (ds ++ es) (vs ++ ws) := by
  induction ds generalizing vs with
  | nil => intro h r; have h : vs = [] := h; rw [h]; exact r
  | cons d ds ih =>
    intro h r
    obtain ⟨v, t, rfl, h1, h2⟩ := h
    exact ⟨v, t ++ ws, rfl, h1, ih h2 r⟩
theorem Reps.get {ds : List D} {vs : List V} {i : Nat} {d : D} (h : Reps K M H ds vs) (e : ds[i]? = some d) : ∃ v, vs[i]? = some v ∧ Rep K M H d v := by
  induction ds generalizing vs i with
  | nil => simp at e
  | cons x ds ih =>
    obtain ⟨v, t, rfl, h1, h2⟩ := h
    cases i with
    | zero => simp at e; subst e; exact ⟨v, rfl, h1⟩
    | succ i =>
      have q := ih (vs := t) (i := i) h2 (by simpa using e)
      exact q
theorem Reps.getV {ds : List D} {vs : List V} {i : Nat} {v : V} (h : Reps K M H ds vs) (e : vs[i]? = some v) : ∃ d, ds[i]? = some d ∧ Rep K M H d v := by
  induction ds generalizing vs i with
  | nil => have h : vs = [] := h; rw [h] at e; simp at e
  | cons x ds ih =>
    obtain ⟨w, t, rfl, h1, h2⟩ := h
    cases i with
    | zero => simp at e; subst e; exact ⟨x, rfl, h1⟩
    | succ i => exact ih h2 (by simpa using e)
theorem Reps.set {ds : List D} {vs : List V} {d : D} {v : V} (r : Rep K M H d v) (i : Nat) : Reps K M H ds vs → Reps K M H (ds.set i d) (vs.set i v) := by
  induction ds generalizing vs i with
  | nil => intro h; have h : vs = [] := h; rw [h]; rfl
  | cons x ds ih =>
    intro h
    obtain ⟨w, t, rfl, h1, h2⟩ := h
    cases i with
    | zero => exact ⟨v, t, rfl, r, h2⟩
    | succ i => exact ⟨w, _, rfl, h1, ih i h2⟩
theorem Reps.take {ds : List D} {vs : List V} (n : Nat) : Reps K M H ds vs → Reps K M H (ds.take n) (vs.take n) := by
  induction ds generalizing vs n with
  | nil => intro h; have h : vs = [] := h; rw [h]; simp; rfl
  | cons x ds ih =>
    intro h
    obtain ⟨w, t, rfl, h1, h2⟩ := h
    cases n with
    | zero => rfl
    | succ n => exact ⟨w, _, rfl, h1, ih n h2⟩
theorem Reps.drop {ds : List D} {vs : List V} (n : Nat) : Reps K M H ds vs → Reps K M H (ds.drop n) (vs.drop n) := by
  induction ds generalizing vs n with
  | nil => intro h; have h : vs = [] := h; rw [h]; simp; rfl
  | cons x ds ih =>
    intro h
    obtain ⟨w, t, rfl, h1, h2⟩ := h
    cases n with
    | zero => exact ⟨w, t, rfl, h1, h2⟩
    | succ n => exact ih n h2
theorem Reps.ints {vs : List V} : ∀ {ns : List Int}, Reps K M H (ns.map D.int) vs → vs = ns.map V.int := by
  intro ns
  induction ns generalizing vs with
  | nil => intro h; exact h
  | cons n ns ih =>
    intro h
    obtain ⟨w, t, rfl, h1, h2⟩ := h
    have h1 : w = .int n := h1
    rw [h1, ih h2]; rfl
theorem reps_ints : ∀ (ns : List Int), Reps K M H (ns.map D.int) (ns.map V.int)
  | [] => rfl
  | n :: ns => ⟨.int n, ns.map V.int, rfl, rfl, reps_ints ns⟩
theorem Reps.strs {vs : List V} : ∀ {ns : List Str}, Reps K M H (ns.map D.str) vs → vs = ns.map V.str := by
  intro ns
  induction ns generalizing vs with
  | nil => intro h; exact h
  | cons n ns ih =>
    intro h
    obtain ⟨w, t, rfl, h1, h2⟩ := h
    have h1 : w = .str n := h1
    rw [h1, ih h2]; rfl
theorem Reps.bls {vs : List V} : ∀ {ns : List Bool}, Reps K M H (ns.map D.bl) vs → vs = ns.map V.bl := by
  intro ns
  induction ns generalizing vs with
  | nil => intro h; exact h
  | cons n ns ih =>
    intro h
    obtain ⟨w, t, rfl, h1, h2⟩ := h
    have h1 : w = .bl n := h1
    rw [h1, ih h2]; rfl
end

/-! ### where one stands -/
abbrev Gam := List (Option D)
def Mat (K : PySem.W.Frag) (M : Mem) (H : Hp) : Gam → L2.St → Prop
  | [], σ => σ = []
  | none :: Γ, σ => ∃ o r, σ = o :: r ∧ Mat K M H Γ r
  | some d :: Γ, σ => ∃ v r, σ = some v :: r ∧ Rep K M H d v ∧ Mat K M H Γ r
section
variable {K : PySem.W.Frag} {M M' : Mem} {H H' : Hp}
theorem Mat.stp (s : Stp M H M' H') : ∀ {Γ : Gam} {σ : L2.St}, Mat K M H Γ σ → Mat K M' H' Γ σ
  | [], _, h => h
  | none :: _, _, h => by
    obtain ⟨o, r, e, h⟩ := h
    exact ⟨o, r, e, h.stp s⟩
  | some d :: _, _, h => by
    obtain ⟨v, r, e, h1, h⟩ := h
    exact ⟨v, r, e, h1.stp s, h.stp s⟩
theorem Mat.get : ∀ {Γ : Gam} {σ : L2.St} {i : Nat} {d : D}, Mat K M H Γ σ → Γ[i]? = some (some d) → ∃ v, σ[i]? = some (some v) ∧ Rep K M H d v
  | [], _, _, _, _, e => by simp at e
  | none :: _, _, 0, _, _, e => by simp at e
  | none :: _, _, i + 1, _, h, e => by
    obtain ⟨o, r, rfl, h⟩ := h
    exact h.get (i := i) (by simpa using e)
  | some x :: _, _, 0, _, h, e => by
    obtain ⟨v, r, rfl, h1, h⟩ := h
    simp at e; subst e; exact ⟨v, rfl, h1⟩
  | some x :: _, _, i + 1, _, h, e => by
    obtain ⟨v, r, rfl, h1, h⟩ := h
    exact h.get (i := i) (by simpa using e)
theorem Mat.set {d : D} {v : V} (r : Rep K M H d v) : ∀ {Γ : Gam} {σ : L2.St} (i : Nat), Mat K M H Γ σ → Mat K M H (Γ.set i (some d)) (σ.set i (some v))
  | [], _, _, h => by have h : _ = [] := h; rw [h]; rfl
  | none :: _, _, 0, h => by
    obtain ⟨o, t, rfl, h⟩ := h
    exact ⟨v, t, rfl, r, h⟩
  | some x :: _, _, 0, h => by
    obtain ⟨o, t, rfl, h1, h⟩ := h
    exact ⟨v, t, rfl, r, h⟩
  | none :: _, _, i + 1, h => by
    obtain ⟨o, t, rfl, h⟩ := h
    exact ⟨o, _, rfl, h.set r i⟩
  | some x :: _, _, i + 1, h => by
    obtain ⟨o, t, rfl, h1, h⟩ := h
    exact ⟨o, _, rfl, h1, h.set r i⟩
theorem Mat.unset : ∀ {Γ : Gam} {σ : L2.St} (i : Nat) (o : Option V), Mat K M H Γ σ → Mat K M H (Γ.set i none) (σ.set i o)
  | [], _, _, _, h => by have h : _ = [] := h; rw [h]; rfl
  | .none :: _, _, 0, _, h => by
    obtain ⟨o, t, rfl, h⟩ := h
    exact ⟨_, t, rfl, h⟩
  | some x :: _, _, 0, _, h => by
    obtain ⟨o, t, rfl, h1, h⟩ := h
    exact ⟨_, t, rfl, h⟩
  | .none :: _, _, i + 1, q, h => by
    obtain ⟨o, t, rfl, h⟩ := h
    exact ⟨o, _, rfl, h.unset i q⟩
  | some x :: _, _, i + 1, q, h => by
    obtain ⟨o, t, rfl, h1, h⟩ := h
    exact ⟨o, _, rfl, h1, h.unset i q⟩
theorem Mat.len : ∀ {Γ : Gam} {σ : L2.St}, Mat K M H Γ σ → Γ.length = σ.length
  | [], _, h => by have h : _ = [] := h; rw [h]; rfl
  | none :: _, _, h => by
    obtain ⟨o, t, rfl, h⟩ := h
    rw [List.length_cons, List.length_cons, h.len]
  | some x :: _, _, h => by
    obtain ⟨o, t, rfl, h1, h⟩ := h
    rw [List.length_cons, List.length_cons, h.len]
end
/-- what is raised -/
structure Exn where
  cls : Value
  ns : List Str
  ds : List D
def RepX (K : PySem.W.Frag) (M : Mem) (H : Hp) (e : Exn) (c : Value) (dx : Option Addr) : Prop :=
  c = e.cls ∧ ((dx = none ∧ e.ns = [] ∧ e.ds = []) ∨ ∃ p vs, dx = some p ∧ H p = some (.xd (e.ns.zip vs)) ∧ M p = none ∧ e.ns.length = e.ds.length ∧ Reps K M H e.ds vs)
abbrev Pst := D → Mem → Prop
abbrev Xst := Exn → Mem → Prop
abbrev X0 : Xst := fun _ _ => False
abbrev DE := Gam → Mem → Pst → Xst → Prop
abbrev DT := Gam → Mem → (Bool → Mem → Prop) → Xst → Prop
abbrev DA := Gam → Mem → (List D → Mem → Prop) → Xst → Prop
def KQ (K : PySem.W.Frag) (M : Mem) (H : Hp) (R : Pst) (Q : VK) : Prop := ∀ d M' v H', R d M' → Stp M H M' H' → Good K M' H' → Rep K M' H' d v → Q v H'
def KB (K : PySem.W.Frag) (M : Mem) (H : Hp) (R : Bool → Mem → Prop) (Q : Bool → Hp → Prop) : Prop := ∀ b M' H', R b M' → Stp M H M' H' → Good K M' H' → Q b H'
def KA (K : PySem.W.Frag) (M : Mem) (H : Hp) (R : List D → Mem → Prop) (Q : List V → Hp → Prop) : Prop := ∀ ds M' vs H', R ds M' → Stp M H M' H' → Good K M' H' → Reps K M' H' ds vs → Q vs H'
def KX (K : PySem.W.Frag) (M : Mem) (H : Hp) (R : Xst) (E : XK) : Prop := ∀ e M' c dx H', R e M' → Stp M H M' H' → Good K M' H' → RepX K M' H' e c dx → E c dx H'
section
variable {K : PySem.W.Frag} {M M' : Mem} {H H' : Hp}
theorem KQ.step {R : Pst} {Q : VK} (k : KQ K M H R Q) (s : Stp M H M' H') : KQ K M' H' R Q := fun d M2 v H2 r s2 g h => k d M2 v H2 r (s.trans s2) g h
theorem KB.step {R : Bool → Mem → Prop} {Q : Bool → Hp → Prop} (k : KB K M H R Q) (s : Stp M H M' H') : KB K M' H' R Q := fun d M2 H2 r s2 g => k d M2 H2 r (s.trans s2) g
theorem KA.step {R : List D → Mem → Prop} {Q : List V → Hp → Prop} (k : KA K M H R Q) (s : Stp M H M' H') : KA K M' H' R Q := fun d M2 v H2 r s2 g h => k d M2 v H2 r (s.trans s2) g h
theorem KX.step {R : Xst} {E : XK} (k : KX K M H R E) (s : Stp M H M' H') : KX K M' H' R E := fun d M2 c x H2 r s2 g h => k d M2 c x H2 r (s.trans s2) g h
theorem KX0 {E : XK} : KX K M H X0 E := fun _ _ _ _ _ h => h.elim
theorem KQ.now {R : Pst} {Q : VK} (k : KQ K M H R Q) (g : Good K M H) {d : D} {v : V} (h : R d M) (r : Rep K M H d v) : Q v H := k d M v H h (Stp.refl M H) g r
theorem KQ.same {R : Pst} {Q : VK} (k : KQ K M H R Q) {d : D} {v : V} (h : R d M) (s : Stp M H M H') (g : Good K M H') (r : Rep K M H' d v) : Q v H' := k d M v H' h s g r
/-- a new tuple, a new list -/
theorem KQ.tup {R : Pst} {Q : VK} (k : KQ K M H R Q) (g : Good K M H) {ds : List D} {vs : List V} (h : R (.tup ds) M) (r : Reps K M H ds vs) {p : Addr} (n : H p = none) : Q (.ref p) (upd H p (.tup vs)) :=
  k _ M _ _ h (stp_new g n) (good_new g n) ⟨p, vs, rfl, upd_same, g.free n, r.stp (stp_new g n)⟩
theorem KQ.lst {R : Pst} {Q : VK} (k : KQ K M H R Q) (g : Good K M H) {ds : List D} {vs : List V} (h : R (.lst ds) M) (r : Reps K M H ds vs) {p : Addr} (n : H p = none) : Q (.ref p) (upd H p (.lst vs)) :=
  k _ M _ _ h (stp_new g n) (good_new g n) ⟨p, vs, rfl, upd_same, g.free n, r.stp (stp_new g n)⟩
theorem Rep.tupS {ds : List D} {v : V} (h : Rep K M H (.tup ds) v) : ∃ a vs, v = .ref a ∧ SqT K H a vs ∧ Reps K M H ds vs := by
  obtain ⟨a, vs, e, h, _, r⟩ := h
  exact ⟨a, vs, e, .inl (.inl h), r⟩
theorem Rep.ktS {ds : List D} {v : V} (h : Rep K M H (.kt ds) v) : ∃ a vs, v = .ref a ∧ SqT K H a vs ∧ Reps K M H ds vs := by
  obtain ⟨a, vs, e, h, r⟩ := h
  exact ⟨a, vs, e, .inr h, r⟩
/-- what is a list, to be read -/
inductive LikeL (M : Mem) : D → List D → Prop
  | lst (ds) : LikeL M (.lst ds) ds
  | sl (ds) : LikeL M (.sl ds) ds
  | loc {a ds} (h : M a = some (.lst ds)) : LikeL M (.loc a) ds
theorem LikeL.sq {d : D} {ds : List D} {v : V} (l : LikeL M d ds) (g : Good K M H) (h : Rep K M H d v) : ∃ a vs, v = .ref a ∧ SqL K H a vs ∧ Reps K M H ds vs := by
  cases l with
  | lst => obtain ⟨a, vs, e, h, m, r⟩ := h; exact ⟨a, vs, e, .inl (.inl h), r⟩
  | sl => obtain ⟨a, vs, e, h, r⟩ := h; exact ⟨a, vs, e, h.imp And.left id, r⟩
  | loc q => obtain ⟨vs, h', r⟩ := g _ _ q; exact ⟨_, vs, h, .inl (.inl h'), r⟩
/-- a list that stands in the heap itself -/
inductive OwnL (M : Mem) : D → List D → Prop
  | lst (ds) : OwnL M (.lst ds) ds
  | loc {a ds} (h : M a = some (.lst ds)) : OwnL M (.loc a) ds
theorem OwnL.at {d : D} {ds : List D} {v : V} (l : OwnL M d ds) (g : Good K M H) (h : Rep K M H d v) : ∃ a vs, v = .ref a ∧ H a = some (.lst vs) ∧ Reps K M H ds vs := by
  cases l with
  | lst => obtain ⟨a, vs, e, h, m, r⟩ := h; exact ⟨a, vs, e, h, r⟩
  | loc q => obtain ⟨vs, h', r⟩ := g _ _ q; exact ⟨_, vs, h, h', r⟩
end

/-! ### lifting -/
def lE (K : PySem.W.Frag) (E : L2.St → XK) (w : DE) : TE := fun σ H Q => ∃ (Γ : Gam) (M : Mem) (R : Pst) (XR : Xst), Good K M H ∧ Mat K M H Γ σ ∧ w Γ M R XR ∧ KQ K M H R Q ∧ KX K M H XR (E σ)
def lT (K : PySem.W.Frag) (E : L2.St → XK) (w : DT) : TT := fun σ H Q => ∃ (Γ : Gam) (M : Mem) (R : Bool → Mem → Prop) (XR : Xst), Good K M H ∧ Mat K M H Γ σ ∧ w Γ M R XR ∧ KB K M H R Q ∧ KX K M H XR (E σ)
def lA (K : PySem.W.Frag) (E : L2.St → XK) (w : DA) : TA := fun σ H Q => ∃ (Γ : Gam) (M : Mem) (R : List D → Mem → Prop) (XR : Xst), Good K M H ∧ Mat K M H Γ σ ∧ w Γ M R XR ∧ KA K M H R Q ∧ KX K M H XR (E σ)
structure DEnds where
  nx : Gam → Mem → Prop
  rt : D → Mem → Prop
  bk : Gam → Mem → Prop
  ct : Gam → Mem → Prop
  xr : Exn → Gam → Mem → Prop
abbrev DS := DEnds → Gam → Mem → Prop
structure KD (K : PySem.W.Frag) (M : Mem) (H : Hp) (DD : DEnds) (D : Ends) (E : L2.St → XK) : Prop where
  nx : ∀ Γ M' σ H', DD.nx Γ M' → Stp M H M' H' → Good K M' H' → Mat K M' H' Γ σ → D.nx σ H'
  rt : KQ K M H DD.rt D.rt
  bk : ∀ Γ M' σ H', DD.bk Γ M' → Stp M H M' H' → Good K M' H' → Mat K M' H' Γ σ → D.bk σ H'
  ct : ∀ Γ M' σ H', DD.ct Γ M' → Stp M H M' H' → Good K M' H' → Mat K M' H' Γ σ → D.ct σ H'
  xr : ∀ e Γ M' c dx σ H', DD.xr e Γ M' → Stp M H M' H' → Good K M' H' → Mat K M' H' Γ σ → RepX K M' H' e c dx → E σ c dx H'
theorem KD.step {K : PySem.W.Frag} {M M' : Mem} {H H' : Hp} {DD : DEnds} {D : Ends} {E : L2.St → XK} (k : KD K M H DD D E) (s : Stp M H M' H') : KD K M' H' DD D E :=
  ⟨fun Γ M2 σ H2 r s2 g m => k.nx Γ M2 σ H2 r (s.trans s2) g m, k.rt.step s, fun Γ M2 σ H2 r s2 g m => k.bk Γ M2 σ H2 r (s.trans s2) g m, fun Γ M2 σ H2 r s2 g m => k.ct Γ M2 σ H2 r (s.trans s2) g m,
   fun e Γ M2 c x σ H2 r s2 g m h => k.xr e Γ M2 c x σ H2 r (s.trans s2) g m h⟩
theorem KD.kx {K : PySem.W.Frag} {M : Mem} {H : Hp} {DD : DEnds} {D : Ends} {E : L2.St → XK} (k : KD K M H DD D E) {Γ : Gam} {σ : L2.St} (m : Mat K M H Γ σ) : KX K M H (fun e M' => DD.xr e Γ M') (E σ) :=
  fun e M' c x H' r s g h => k.xr e Γ M' c x σ H' r s g (m.stp s) h
def lS (K : PySem.W.Frag) (E : L2.St → XK) (w : DS) : TS := fun D σ H => ∃ (Γ : Gam) (M : Mem) (DD : DEnds), Good K M H ∧ Mat K M H Γ σ ∧ w DD Γ M ∧ KD K M H DD D E
theorem PE.imp {X : Cx} {e : Expr} {t t' : TE} (h : PE X e t) (i : ∀ σ H Q, t' σ H Q → t σ H Q) : PE X e t' := ⟨fun pins s σ H Q I q => h.run pins s σ H Q I (i σ H Q q)⟩
theorem PT.imp {X : Cx} {e : Expr} {t t' : TT} (h : PT X e t) (i : ∀ σ H Q, t' σ H Q → t σ H Q) : PT X e t' := ⟨fun pins s σ H Q I q => h.run pins s σ H Q I (i σ H Q q)⟩
theorem PA.imp {X : Cx} {e : List Expr} {t t' : TA} (h : PA X e t) (i : ∀ σ H Q, t' σ H Q → t σ H Q) : PA X e t' := ⟨fun pos pins s σ H Q I q => h.run pos pins s σ H Q I (i σ H Q q)⟩
theorem PS.imp {X : Cx} {e : Stmt} {t t' : TS} (h : PS X e t) (i : ∀ D σ H, t' D σ H → t D σ H) : PS X e t' := ⟨fun pins s σ H Q I q => h.run pins s σ H Q I (i Q σ H q)⟩
theorem PSs.imp {X : Cx} {e : List Stmt} {t t' : TS} (h : PSs X e t) (i : ∀ D σ H, t' D σ H → t D σ H) : PSs X e t' := ⟨fun pins s σ H Q I q => h.run pins s σ H Q I (i Q σ H q)⟩
end DL
namespace DL
open PySem PySem.Spec PyProof.Rows L2

/-! ### what data is, read as a whole -/
mutual
def toP : D → PyData
  | .non => .none
  | .bl b => .bool b
  | .int i => .int i
  | .str x => .str x
  | .tup ds => .tuple (toPs ds)
  | .lst ds => .list (toPs ds)
  | .sl ds => .list (toPs ds)
  | .kt ds => .tuple (toPs ds)
  | .loc _ => .none
  | .obj _ _ _ => .none
  | .dK _ _ => .none
  | .dT _ _ => .none
def toPs : List D → List PyData
  | [] => []
  | d :: ds => toP d :: toPs ds
end
mutual
/-- None, bools, ints, texts, tuples and lists of such -/
def plain : D → Bool
  | .non => true
  | .bl _ => true
  | .int _ => true
  | .str _ => true
  | .tup ds => plains ds
  | .lst ds => plains ds
  | .sl ds => plains ds
  | .kt ds => plains ds
  | .loc _ => false
  | .obj _ _ _ => false
  | .dK _ _ => false
  | .dT _ _ => false
def plains : List D → Bool
  | [] => true
  | d :: ds => plain d && plains ds
end
section
variable {K : PySem.W.Frag} {M : Mem} {H : Hp}
mutual
theorem Rep.dp : ∀ {d : D} {v : V}, plain d = true → Rep K M H d v → Dp K H v (toP d)
  | .non, v, _, h => by have h : v = .non := h; subst h; exact .non
  | .bl b, v, _, h => by have h : v = .bl b := h; subst h; exact .bl b
  | .int i, v, _, h => by have h : v = .int i := h; subst h; exact .int i
  | .str x, v, _, h => by have h : v = .str x := h; subst h; exact .str x
  | .tup ds, v, p, h => by
    obtain ⟨a, vs, rfl, h, m, r⟩ := h
    exact .tup (.inl (.inl h)) (Reps.dp p r)
  | .kt ds, v, p, h => by
    obtain ⟨a, vs, rfl, h, r⟩ := h
    exact .tup (.inr h) (Reps.dp p r)
  | .lst ds, v, p, h => by
    obtain ⟨a, vs, rfl, h, m, r⟩ := h
    exact .lst (.inl (.inl h)) (Reps.dp p r)
  | .sl ds, v, p, h => by
    obtain ⟨a, vs, rfl, h, r⟩ := h
    exact .lst (h.imp And.left id) (Reps.dp p r)
  | .loc _, _, p, _ => by simp [plain] at p
  | .obj _ _ _, _, p, _ => by simp [plain] at p
  | .dK _ _, _, p, _ => by simp [plain] at p
  | .dT _ _, _, p, _ => by simp [plain] at p
theorem Reps.dp : ∀ {ds : List D} {vs : List V}, plains ds = true → Reps K M H ds vs → DpAll K H vs (toPs ds)
  | [], vs, _, h => by have h : vs = [] := h; subst h; exact .nil
  | d :: ds, vs, p, h => by
    obtain ⟨v, r, rfl, h1, h2⟩ := h
    have p : (plain d && plains ds) = true := p
    rw [Bool.and_eq_true] at p
    exact .cons (Rep.dp p.1 h1) (Reps.dp p.2 h2)
end
end
mutual
/-- == of data -/
def eqb : D → D → Bool
  | .non, .non => true
  | .bl a, .bl b => a == b
  | .bl a, .int j => (if a then 1 else 0) == j
  | .int i, .bl b => i == (if b then 1 else 0)
  | .int i, .int j => i == j
  | .str x, .str y => x == y
  | .tup xs, .tup ys => eqbs xs ys
  | .tup xs, .kt ys => eqbs xs ys
  | .kt xs, .tup ys => eqbs xs ys
  | .kt xs, .kt ys => eqbs xs ys
  | .lst xs, .lst ys => eqbs xs ys
  | .lst xs, .sl ys => eqbs xs ys
  | .sl xs, .lst ys => eqbs xs ys
  | .sl xs, .sl ys => eqbs xs ys
  | _, _ => false
def eqbs : List D → List D → Bool
  | [], [] => true
  | x :: xs, y :: ys => eqb x y && eqbs xs ys
  | _, _ => false
end
mutual
theorem eqv_eqb : ∀ (x y : D), plain x = true → plain y = true → PyData.eqv (toP x) (toP y) = eqb x y
  | .non, y, _, q => by cases y <;> first | rfl | (simp [plain] at q)
  | .bl a, y, _, q => by cases y <;> first | rfl | (simp [plain] at q)
  | .int a, y, _, q => by cases y <;> first | rfl | (simp [plain] at q)
  | .str a, y, _, q => by cases y <;> first | rfl | (simp [plain] at q)
  | .tup xs, y, p, q => by
    cases y with
    | tup ys => exact eqvs_eqbs xs ys p q
    | kt ys => exact eqvs_eqbs xs ys p q
    | _ => first | rfl | (simp [plain] at q)
  | .kt xs, y, p, q => by
    cases y with
    | tup ys => exact eqvs_eqbs xs ys p q
    | kt ys => exact eqvs_eqbs xs ys p q
    | _ => first | rfl | (simp [plain] at q)
  | .lst xs, y, p, q => by
    cases y with
    | lst ys => exact eqvs_eqbs xs ys p q
    | sl ys => exact eqvs_eqbs xs ys p q
    | _ => first | rfl | (simp [plain] at q)
  | .sl xs, y, p, q => by
    cases y with
    | lst ys => exact eqvs_eqbs xs ys p q
    | sl ys => exact eqvs_eqbs xs ys p q
    | _ => first | rfl | (simp [plain] at q)
  | .loc _, _, p, _ => by simp [plain] at p
  | .obj _ _ _, _, p, _ => by simp [plain] at p
  | .dK _ _, _, p, _ => by simp [plain] at p
  | .dT _ _, _, p, _ => by simp [plain] at p
theorem eqvs_eqbs : ∀ (xs ys : List D), plains xs = true → plains ys = true → PyData.eqvAll (toPs xs) (toPs ys) = eqbs xs ys
  | [], [], _, _ => rfl
  | [], _ :: _, _, _ => rfl
  | _ :: _, [], _, _ => rfl
  | x :: xs, y :: ys, p, q => by
    have p : (plain x && plains xs) = true := p
    have q : (plain y && plains ys) = true := q
    rw [Bool.and_eq_true] at p q
    show (PyData.eqv (toP x) (toP y) && PyData.eqvAll (toPs xs) (toPs ys)) = (eqb x y && eqbs xs ys)
    rw [eqv_eqb x y p.1 q.1, eqvs_eqbs xs ys p.2 q.2]
end
mutual
def noBl : D → Bool
  | .non => true
  | .int _ => true
  | .str _ => true
  | .tup ds => noBls ds
  | .lst ds => noBls ds
  | _ => false
def noBls : List D → Bool
  | [] => true
  | d :: ds => noBl d && noBls ds
end
mutual
theorem eqb_iff : ∀ (x y : D), noBl x = true → noBl y = true → (eqb x y = true ↔ x = y)
  | .non, y, _, q => by cases y <;> simp [eqb, noBl] at q ⊢
  | .int a, y, _, q => by cases y <;> simp [eqb, noBl] at q ⊢
  | .str a, y, _, q => by cases y <;> simp [eqb, noBl] at q ⊢
  | .tup xs, y, p, q => by
    cases y with
    | tup ys =>
      show eqbs xs ys = true ↔ _
      rw [eqbs_iff xs ys p q]
      exact ⟨fun e => by rw [e], fun e => by injection e⟩
    | _ => simp [eqb, noBl] at q ⊢
  | .lst xs, y, p, q => by
    cases y with
    | lst ys =>
      show eqbs xs ys = true ↔ _
      rw [eqbs_iff xs ys p q]
      exact ⟨fun e => by rw [e], fun e => by injection e⟩
    | _ => simp [eqb, noBl] at q ⊢
  | .sl _, _, p, _ => by simp [noBl] at p
  | .kt _, _, p, _ => by simp [noBl] at p
  | .bl _, _, p, _ => by simp [noBl] at p
  | .loc _, _, p, _ => by simp [noBl] at p
  | .obj _ _ _, _, p, _ => by simp [noBl] at p
  | .dK _ _, _, p, _ => by simp [noBl] at p
  | .dT _ _, _, p, _ => by simp [noBl] at p
theorem eqbs_iff : ∀ (xs ys : List D), noBls xs = true → noBls ys = true → (eqbs xs ys = true ↔ xs = ys)
  | [], [], _, _ => by simp [eqbs]
  | [], _ :: _, _, _ => by simp [eqbs]
  | _ :: _, [], _, _ => by simp [eqbs]
  | x :: xs, y :: ys, p, q => by
    have p : (noBl x && noBls xs) = true := p
    have q : (noBl y && noBls ys) = true := q
    rw [Bool.and_eq_true] at p q
    show (eqb x y && eqbs xs ys) = true ↔ _
    rw [Bool.and_eq_true, eqb_iff x y p.1 q.1, eqbs_iff xs ys p.2 q.2]
    exact ⟨fun e => by rw [e.1, e.2], fun e => by injection e with a b; exact ⟨a, b⟩⟩
end
theorem eqb_dec {x y : D} (p : noBl x = true) (q : noBl y = true) [Decidable (x = y)] : eqb x y = decide (x = y) := by
  rw [Bool.eq_iff_iff, eqb_iff x y p q]; simp
theorem noBls_ints : ∀ ns : List Int, noBls (ns.map D.int) = true
  | [] => rfl
  | _ :: ns => noBls_ints ns
theorem noBls_strs : ∀ ns : List Str, noBls (ns.map D.str) = true
  | [] => rfl
  | _ :: ns => noBls_strs ns
theorem map_int_inj {xs ys : List Int} : xs.map D.int = ys.map D.int ↔ xs = ys :=
  ⟨fun h => (List.map_inj_right (f := D.int) (fun _ _ e => by injection e)).mp h, fun h => by rw [h]⟩
theorem map_str_inj {xs ys : List Str} : xs.map D.str = ys.map D.str ↔ xs = ys :=
  ⟨fun h => (List.map_inj_right (f := D.str) (fun _ _ e => by injection e)).mp h, fun h => by rw [h]⟩
theorem eqbs_ints (xs ys : List Int) : eqbs (xs.map D.int) (ys.map D.int) = decide (xs = ys) := by
  rw [Bool.eq_iff_iff, eqbs_iff _ _ (noBls_ints _) (noBls_ints _), map_int_inj]; simp
theorem eqbs_strs (xs ys : List Str) : eqbs (xs.map D.str) (ys.map D.str) = decide (xs = ys) := by
  rw [Bool.eq_iff_iff, eqbs_iff _ _ (noBls_strs _) (noBls_strs _), map_str_inj]; simp

/-! ### operations by data -/
abbrev O2 := D → D → Mem → Pst → Prop
abbrev O1 := D → Mem → Pst → Prop
abbrev OC := List D → Mem → Pst → Prop
def lO (K : PySem.W.Frag) (r : O2) : R2 := fun vx vy H Q => ∃ (x y : D) (M : Mem) (R : Pst), Good K M H ∧ Rep K M H x vx ∧ Rep K M H y vy ∧ r x y M R ∧ KQ K M H R Q
def lU (K : PySem.W.Frag) (r : O1) : V → Hp → VK → Prop := fun vx H Q => ∃ (x : D) (M : Mem) (R : Pst), Good K M H ∧ Rep K M H x vx ∧ r x M R ∧ KQ K M H R Q
def lC (K : PySem.W.Frag) (r : OC) : List V → Hp → VK → Prop := fun vs H Q => ∃ (ds : List D) (M : Mem) (R : Pst), Good K M H ∧ Reps K M H ds vs ∧ r ds M R ∧ KQ K M H R Q
theorem OpR.imp {X : Cx} {f : Value → Value → Sem Value} {r r' : R2} (h : OpR X f r) (i : ∀ x y H Q, r' x y H Q → r x y H Q) : OpR X f r' := fun pins s σ H x y v u Q I rx ry q => h pins s σ H x y v u Q I rx ry (i x y H Q q)
theorem UnR.imp {X : Cx} {f : Value → Sem Value} {r r' : V → Hp → VK → Prop} (h : UnR X f r) (i : ∀ x H Q, r' x H Q → r x H Q) : UnR X f r' := fun pins s σ H x v Q I rx q => h pins s σ H x v Q I rx (i x H Q q)
theorem CallR.imp {X : Cx} {f : Value} {r r' : List V → Hp → VK → Prop} (h : CallR X f r) (i : ∀ x H Q, r' x H Q → r x H Q) : CallR X f r' := fun pins s σ H x v Q I rx q => h pins s σ H x v Q I rx (i x H Q q)
theorem IxR.imp {X : Cx} {r r' : R2} (h : IxR X r) (i : ∀ x y H Q, r' x y H Q → r x y H Q) : IxR X r' := fun va sl pins s σ H x y v u Q I rx ry q z => h va sl pins s σ H x y v u Q I rx ry (i x y H Q q) z
theorem SlR.imp {X : Cx} {r r' : V → Option Int → Option Int → Hp → VK → Prop} (h : SlR X r) (i : ∀ x lo hi H Q, r' x lo hi H Q → r x lo hi H Q) : SlR X r' :=
  fun pins s σ H x v vl vu lo hi sl Q I rx hs pl pu q => h pins s σ H x v vl vu lo hi sl Q I rx hs pl pu (i x lo hi H Q q)

/-- the list that a place or a value is -/
def getL (M : Mem) : D → Option (List D)
  | .lst ds => some ds
  | .sl ds => some ds
  | .loc a => match M a with
    | some (.lst ds) => some ds
    | _ => none
  | _ => none
def getO (M : Mem) : D → Option (List D)
  | .lst ds => some ds
  | .loc a => match M a with
    | some (.lst ds) => some ds
    | _ => none
  | _ => none
theorem getL_loc {M : Mem} {a : Addr} {ds : List D} (h : M a = some (.lst ds)) : getL M (.loc a) = some ds := by simp [getL, h]
theorem getO_loc {M : Mem} {a : Addr} {ds : List D} (h : M a = some (.lst ds)) : getO M (.loc a) = some ds := by simp [getO, h]
theorem getL_like {M : Mem} {d : D} {ds : List D} (h : getL M d = some ds) : LikeL M d ds := by
  cases d with
  | lst xs => cases h; exact .lst _
  | sl xs => cases h; exact .sl _
  | loc a =>
    simp only [getL] at h
    split at h
    · next e => cases h; exact .loc e
    · cases h
  | _ => cases h
theorem getO_own {M : Mem} {d : D} {ds : List D} (h : getO M d = some ds) : OwnL M d ds := by
  cases d with
  | lst xs => cases h; exact .lst _
  | loc a =>
    simp only [getO] at h
    split at h
    · next e => cases h; exact .loc e
    · cases h
  | _ => cases h
/-- a list or a tuple -/
def getS (M : Mem) : D → Option (List D)
  | .tup ds => some ds
  | .kt ds => some ds
  | d => getL M d

def oAdd : O2
  | .int i, .int j, M, R => R (.int (i + j)) M
  | .str x, .str y, M, R => x.length + y.length ≤ sizeLine ∧ R (.str (x ++ y)) M
  | .tup xs, .tup ys, M, R => xs.length + ys.length ≤ sizeLine ∧ R (.tup (xs ++ ys)) M
  | .int i, .bl b, M, R => R (.int (i + b2i b)) M
  | x, y, M, R => ∃ xs ys, getO M x = some xs ∧ getO M y = some ys ∧ xs.length + ys.length ≤ sizeLine ∧ R (.lst (xs ++ ys)) M
def oI (C : Int → Int → Prop) (g : Int → Int → D) : O2
  | .int i, .int j, M, R => C i j ∧ R (g i j) M
  | _, _, _, _ => False
def oI0 (g : Int → Int → D) : O2
  | .int i, .int j, M, R => R (g i j) M
  | _, _, _, _ => False
def oI1 (g : Int → D) : O1
  | .int i, M, R => R (g i) M
  | _, _, _ => False
section
variable {X : Cx}
theorem lo_int {f : Value → Value → Sem Value} {g : Int → Int → D} {g' : Int → Int → V} (h : OpR X f (rI0 g')) (e : ∀ M H i j, Rep X.K M H (g i j) (g' i j)) : OpR X f (lO X.K (oI0 g)) := OpR.imp h fun vx vy H Q q => by
  obtain ⟨x, y, M, R, gd, hx, hy, r, k⟩ := q
  cases x <;> cases y <;> first | exact False.elim r | skip
  exact ⟨_, _, hx, hy, k.now gd r (e M H _ _)⟩
theorem lo_intC {f : Value → Value → Sem Value} {C : Int → Int → Prop} {g : Int → Int → D} {g' : Int → Int → V} (h : OpR X f (rI C g')) (e : ∀ M H i j, Rep X.K M H (g i j) (g' i j)) : OpR X f (lO X.K (oI C g)) := OpR.imp h fun vx vy H Q q => by
  obtain ⟨x, y, M, R, gd, hx, hy, r, k⟩ := q
  cases x <;> cases y <;> first | exact False.elim r | skip
  exact ⟨_, _, hx, hy, r.1, k.now gd r.2 (e M H _ _)⟩
theorem lu_int {f : Value → Sem Value} {g : Int → D} {g' : Int → V} (h : UnR X f (rU g')) (e : ∀ M H i, Rep X.K M H (g i) (g' i)) : UnR X f (lU X.K (oI1 g)) := UnR.imp h fun vx H Q q => by
  obtain ⟨x, M, R, gd, hx, r, k⟩ := q
  cases x <;> first | exact False.elim r | skip
  exact ⟨_, hx, k.now gd r (e M H _)⟩
def oSub : O2 := oI0 fun i j => .int (i - j)
def oMul : O2 := oI CMul fun i j => .int (i * j)
def oMod : O2 := oI (fun _ j => 0 < j) fun i j => .int (i % j)
def oDiv : O2 := oI CDiv fun i j => .int (i / j)
def oPow : O2 := oI CPow fun i j => .int (i ^ j.toNat)
def oShl : O2 := oI CPow fun i j => .int (i * 2 ^ j.toNat)
def oShr : O2 := oI (fun _ j => 0 ≤ j) fun i j => .int (i / 2 ^ j.toNat)
def oAnd : O2 := oI0 fun i j => .int (Builtin.bitAnd i j)
def oOr : O2 := oI0 fun i j => .int (Builtin.bitOr i j)
def oXor : O2 := oI0 fun i j => .int (Builtin.bitXor i j)
def oNeg : O1 := oI1 fun i => .int (-i)
def oLt : O2 := oI0 fun i j => .bl (decide (i < j))
def oLe : O2 := oI0 fun i j => .bl (decide (i ≤ j))
def oGt : O2 := oI0 fun i j => .bl (decide (j < i))
def oGe : O2 := oI0 fun i j => .bl (decide (j ≤ i))
theorem lo_sub : OpR X (binaryOp .Sub) (lO X.K oSub) := lo_int op_sub fun _ _ _ _ => rfl
theorem lo_mul : OpR X (binaryOp .Mult) (lO X.K oMul) := lo_intC op_mul fun _ _ _ _ => rfl
theorem lo_mod : OpR X (binaryOp .Mod) (lO X.K oMod) := lo_intC op_mod fun _ _ _ _ => rfl
theorem lo_div : OpR X (binaryOp .FloorDiv) (lO X.K oDiv) := lo_intC op_fdiv fun _ _ _ _ => rfl
theorem lo_pow : OpR X (binaryOp .Pow) (lO X.K oPow) := lo_intC op_pow fun _ _ _ _ => rfl
theorem lo_shl : OpR X (binaryOp .LShift) (lO X.K oShl) := lo_intC op_shl fun _ _ _ _ => rfl
theorem lo_shr : OpR X (binaryOp .RShift) (lO X.K oShr) := lo_intC op_shr fun _ _ _ _ => rfl
theorem lo_and : OpR X (binaryOp .BitAnd) (lO X.K oAnd) := lo_int op_and fun _ _ _ _ => rfl
theorem lo_or : OpR X (binaryOp .BitOr) (lO X.K oOr) := lo_int op_or fun _ _ _ _ => rfl
theorem lo_xor : OpR X (binaryOp .BitXor) (lO X.K oXor) := lo_int op_xor fun _ _ _ _ => rfl
theorem lu_neg : UnR X (unaryOp .USub) (lU X.K oNeg) := lu_int un_neg fun _ _ _ => rfl
theorem lo_lt : OpR X (compareOp .Lt) (lO X.K oLt) := lo_int op_lt fun _ _ _ _ => rfl
theorem lo_le : OpR X (compareOp .LtE) (lO X.K oLe) := lo_int op_le fun _ _ _ _ => rfl
theorem lo_gt : OpR X (compareOp .Gt) (lO X.K oGt) := lo_int op_gt fun _ _ _ _ => rfl
theorem lo_ge : OpR X (compareOp .GtE) (lO X.K oGe) := lo_int op_ge fun _ _ _ _ => rfl
theorem Rep.seqT {M : Mem} {H : Hp} {ds : List D} {v : V} (h : Rep X.K M H (.tup ds) v) : ∃ a vs, v = .ref a ∧ SqT X.K H a vs ∧ Reps X.K M H ds vs := h.tupS
theorem lo_add : OpR X (binaryOp .Add) (lO X.K oAdd) := by
  refine OpR.imp (op_add.or (op_add_str.or (op_catA.or (op_add_ib.or op_cat)))) fun vx vy H Q q => ?_
  obtain ⟨x, y, M, R, gd, hx, hy, r, k⟩ := q
  have lists : (∃ xs ys, getO M x = some xs ∧ getO M y = some ys ∧ xs.length + ys.length ≤ sizeLine ∧ R (.lst (xs ++ ys)) M) → rCat vx vy H Q := fun ⟨xs, ys, e1, e2, hl, q⟩ => by
    obtain ⟨a, vs, rfl, ha, ra⟩ := (getO_own e1).at gd hx
    obtain ⟨b, ws, rfl, hb, rb⟩ := (getO_own e2).at gd hy
    exact ⟨a, b, vs, ws, rfl, rfl, ha, hb, by rw [← ra.len, ← rb.len]; exact hl, fun p hp => k.lst gd q (ra.append rb) hp⟩
  cases x <;> cases y <;> first
    | exact .inr (.inr (.inr (.inr (lists r))))
    | skip
  · exact .inr (.inr (.inr (.inl ⟨_, _, hx, hy, k.now gd r rfl⟩)))
  · exact .inl ⟨_, _, hx, hy, k.now gd r rfl⟩
  · exact .inr (.inl ⟨_, _, hx, hy, r.1, k.now gd r.2 rfl⟩)
  · refine .inr (.inr (.inl ?_))
    obtain ⟨a, vs, rfl, ha, ra⟩ := hx.tupS
    obtain ⟨b, ws, rfl, hb, rb⟩ := hy.tupS
    obtain ⟨hl, q⟩ := r
    refine ⟨a, b, vs, ws, rfl, rfl, ha, hb, by rw [← ra.len, ← rb.len]; exact hl, fun e => ?_, fun _ e => ?_, fun _ _ p hp => k.tup gd q (ra.append rb) hp⟩
    · subst e
      have e2 : ([] : List V).length = _ := ra.len.symm
      rw [List.eq_nil_of_length_eq_zero e2.symm] at q
      exact k.now gd q hy
    · subst e
      have e2 : ([] : List V).length = _ := rb.len.symm
      rw [List.eq_nil_of_length_eq_zero e2.symm, List.append_nil] at q
      exact k.now gd q hx

/-- data as it is read: a place's list taken out -/
def rdD (M : Mem) : D → D
  | .loc a => match M a with
    | some (.lst ds) => .lst ds
    | _ => .loc a
  | d => d
def oEq : O2 := fun x y M R => plain (rdD M x) = true ∧ plain (rdD M y) = true ∧ SeqAt.shaped (toP (rdD M x)) = true ∧ SeqAt.shaped (toP (rdD M y)) = true ∧ R (.bl (eqb (rdD M x) (rdD M y))) M
def oNe : O2 := fun x y M R => plain (rdD M x) = true ∧ plain (rdD M y) = true ∧ SeqAt.shaped (toP (rdD M x)) = true ∧ SeqAt.shaped (toP (rdD M y)) = true ∧ R (.bl (!eqb (rdD M x) (rdD M y))) M
theorem rdD_dp {K : PySem.W.Frag} {M : Mem} {H : Hp} {d : D} {v : V} (g : Good K M H) (p : plain (rdD M d) = true) (h : Rep K M H d v) : Dp K H v (toP (rdD M d)) := by
  cases d with
  | loc a =>
    simp only [rdD] at p ⊢
    split at p
    · next ds e =>
      obtain ⟨vs, h', r⟩ := g _ _ e
      have h : v = .ref a := h
      subst h
      exact .lst (.inl (.inl h')) (r.dp p)
    · simp [plain] at p
  | _ => exact h.dp p
theorem lo_eq (hu : X.A.units + 64 < cLine) : OpR X (compareOp .Eq) (lO X.K oEq) := OpR.imp (op_eqD hu) fun vx vy H Q q => by
  obtain ⟨x, y, M, R, gd, hx, hy, ⟨px, py, sx, sy, r⟩, k⟩ := q
  refine ⟨_, _, rdD_dp gd px hx, rdD_dp gd py hy, sx, sy, ?_⟩
  rw [eqv_eqb _ _ px py]
  exact k.now gd r rfl
theorem lo_ne (hu : X.A.units + 64 < cLine) : OpR X (compareOp .NotEq) (lO X.K oNe) := OpR.imp (op_neD hu) fun vx vy H Q q => by
  obtain ⟨x, y, M, R, gd, hx, hy, ⟨px, py, sx, sy, r⟩, k⟩ := q
  refine ⟨_, _, rdD_dp gd px hx, rdD_dp gd py hy, sx, sy, ?_⟩
  rw [eqv_eqb _ _ px py]
  exact k.now gd r rfl
def isNon : D → Bool
  | .non => true
  | _ => false
theorem isNon_rep {K : PySem.W.Frag} {M : Mem} {H : Hp} {d : D} {v : V} (h : Rep K M H d v) : decide (v = .non) = isNon d := by
  cases d
  case non => have h : v = .non := h; subst h; rfl
  case bl => have h : v = _ := h; subst h; rfl
  case int => have h : v = _ := h; subst h; rfl
  case str => have h : v = _ := h; subst h; rfl
  case loc => have h : v = _ := h; subst h; rfl
  case tup => obtain ⟨a, _, rfl, _⟩ := h; rfl
  case kt => obtain ⟨a, _, rfl, _⟩ := h; rfl
  case lst => obtain ⟨a, _, rfl, _⟩ := h; rfl
  case sl => obtain ⟨a, _, rfl, _⟩ := h; rfl
  case obj => obtain ⟨a, _, _, _, rfl, _⟩ := h; rfl
  case dK => obtain ⟨a, _, rfl, _⟩ := h; rfl
  case dT => obtain ⟨a, _, rfl, _⟩ := h; rfl
/-- is None, is not None; of two bools -/
def oIs : O2
  | x, .non, M, R => R (.bl (isNon x)) M
  | .bl a, .bl b, M, R => R (.bl (decide (a = b))) M
  | _, _, _, _ => False
def oIsNot : O2
  | x, .non, M, R => R (.bl (!isNon x)) M
  | .bl a, .bl b, M, R => R (.bl (!decide (a = b))) M
  | _, _, _, _ => False
theorem lo_is : OpR X (compareOp .Is) (lO X.K oIs) := OpR.imp (op_isN.or op_isBl) fun vx vy H Q q => by
  obtain ⟨x, y, M, R, gd, hx, hy, r, k⟩ := q
  cases y with
  | non =>
    have r : R (.bl (isNon x)) M := by cases x <;> exact r
    refine .inl ⟨hy, ?_⟩
    rw [isNon_rep hx]
    exact k.now gd r rfl
  | bl b =>
    cases x with
    | bl a => exact .inr ⟨a, b, hx, hy, k.now gd r rfl⟩
    | _ => exact False.elim r
  | _ => cases x <;> exact False.elim r
theorem lo_isnot : OpR X (compareOp .IsNot) (lO X.K oIsNot) := OpR.imp (op_notN.or op_notBl) fun vx vy H Q q => by
  obtain ⟨x, y, M, R, gd, hx, hy, r, k⟩ := q
  cases y with
  | non =>
    have r : R (.bl (!isNon x)) M := by cases x <;> exact r
    refine .inl ⟨hy, ?_⟩
    rw [isNon_rep hx]
    exact k.now gd r rfl
  | bl b =>
    cases x with
    | bl a => exact .inr ⟨a, b, hx, hy, k.now gd r rfl⟩
    | _ => exact False.elim r
  | _ => cases x <;> exact False.elim r
/-! ### items and slices -/
def oIx : O2
  | .str z, .int i, M, R => z.length ≤ sizeLine ∧ ∃ c, atI z.cps.toList i = some c ∧ R (.str ⟨#[c]⟩) M
  | x, .int i, M, R => ∃ ds d, getS M x = some ds ∧ atI ds i = some d ∧ R d M
  | _, _, _, _ => False
theorem Reps.at {K : PySem.W.Frag} {M : Mem} {H : Hp} {ds : List D} {vs : List V} {i : Int} {d : D} (h : Reps K M H ds vs) (e : atI ds i = some d) : ∃ v, atI vs i = some v ∧ Rep K M H d v := by
  unfold atI at e ⊢
  rw [← h.len]
  cases q : ixN ds.length i with
  | none => rw [q] at e; cases e
  | some j =>
    rw [q] at e
    exact h.get (i := j) e
theorem lo_ix : IxR X (lO X.K oIx) := IxR.imp ix_seq fun vx vy H Q q => by
  obtain ⟨x, y, M, R, gd, hx, hy, r, k⟩ := q
  cases y with
  | int i =>
    have hy : vy = .int i := hy
    subst hy
    have lists : ∀ {ds : List D}, LikeL M x ds → ∀ d, atI ds i = some d → R d M → rIxL X.K vx (.int i) H Q := fun l d e q => by
      obtain ⟨a, vs, rfl, ha, ra⟩ := l.sq gd hx
      obtain ⟨v, ev, rv⟩ := ra.at e
      exact ⟨a, vs, i, v, rfl, rfl, ha, ev, k.now gd q rv⟩
    cases x with
    | str z =>
      have hx : vx = .str z := hx
      subst hx
      obtain ⟨hl, c, e, q⟩ := r
      exact .inr (.inr ⟨z, i, c, rfl, rfl, hl, e, k.now gd q rfl⟩)
    | tup ds =>
      obtain ⟨a, vs, rfl, ha, ra⟩ := hx.tupS
      obtain ⟨ds', d, e0, e, q⟩ := r
      cases e0
      obtain ⟨v, ev, rv⟩ := ra.at e
      exact .inr (.inl ⟨a, vs, i, v, rfl, rfl, ha, ev, k.now gd q rv⟩)
    | kt ds =>
      obtain ⟨a, vs, rfl, ha, ra⟩ := hx.ktS
      obtain ⟨ds', d, e0, e, q⟩ := r
      cases e0
      obtain ⟨v, ev, rv⟩ := ra.at e
      exact .inr (.inl ⟨a, vs, i, v, rfl, rfl, ha, ev, k.now gd q rv⟩)
    | _ =>
      obtain ⟨ds, d, e0, e, q⟩ := r
      exact .inl (lists (getL_like e0) d e q)
  | _ => cases x <;> exact False.elim r
def cutD {α : Type} (xs : List α) (lo hi : Option Int) : List α := (xs.drop (HT.sIx xs.length 0 lo)).take (HT.sIx xs.length xs.length hi - HT.sIx xs.length 0 lo)
theorem Reps.cut {K : PySem.W.Frag} {M : Mem} {H : Hp} {ds : List D} {vs : List V} (h : Reps K M H ds vs) (lo hi : Option Int) : Reps K M H (cutD ds lo hi) (cutV vs lo hi) := by
  unfold cutD cutV
  rw [← h.len]
  exact (h.drop _).take _
abbrev OS := D → Option Int → Option Int → Mem → Pst → Prop
def oSl : OS
  | .tup xs, lo, hi, M, R => R (.tup (cutD xs lo hi)) M
  | x, lo, hi, M, R => ∃ xs, getL M x = some xs ∧ R (.lst (cutD xs lo hi)) M
def lSl (K : PySem.W.Frag) (r : OS) : V → Option Int → Option Int → Hp → VK → Prop := fun vx lo hi H Q => ∃ (x : D) (M : Mem) (R : Pst), Good K M H ∧ Rep K M H x vx ∧ r x lo hi M R ∧ KQ K M H R Q
theorem cut_whole {α : Type} {xs : List α} {lo hi : Option Int} (h : HT.sIx xs.length 0 lo = 0 ∧ HT.sIx xs.length xs.length hi = xs.length) : cutD xs lo hi = xs := by
  unfold cutD
  rw [h.1, h.2]
  simp
theorem lo_sl : SlR X (lSl X.K oSl) := SlR.imp (sl_tupA.or sl_list) fun vx lo hi H Q q => by
  obtain ⟨x, M, R, gd, hx, r, k⟩ := q
  have lists : (∃ xs, getL M x = some xs ∧ R (.lst (cutD xs lo hi)) M) → rSlL X.K vx lo hi H Q := fun ⟨xs, e, q⟩ => by
    obtain ⟨a, vs, rfl, ha, ra⟩ := (getL_like e).sq gd hx
    exact ⟨a, vs, rfl, ha, fun p hp => k.lst gd q (ra.cut lo hi) hp⟩
  cases x with
  | tup ds =>
    obtain ⟨a, vs, rfl, ha, ra⟩ := hx.tupS
    refine .inl ⟨a, vs, rfl, ha, fun e => ?_, fun _ p hp => k.tup gd r (ra.cut lo hi) hp⟩
    have r : R (.tup (cutD ds lo hi)) M := r
    rw [cut_whole (by rw [ra.len]; exact e)] at r
    exact k.now gd r hx
  | _ => exact .inr (lists r)
end
end DL
namespace DL
open PySem PySem.Spec PyProof.Rows L2

section
variable {X : Cx} {E : L2.St → XK} {a b c e o : Expr} {es : List Expr} {wa wb wc w wo : DE} {wA : DA} {pos : Pos} {u t : DT}

/-! ### names, constants, operators -/
def dVar (i : Nat) : DE := fun Γ M R _ => ∃ d, Γ[i]? = some (some d) ∧ R d M
theorem de_var {i : Nat} (h : PE X e (tVar i)) : PE X e (lE X.K E (dVar i)) := PE.imp h fun σ H Q ⟨Γ, M, R, XR, g, m, ⟨d, hd, r⟩, k, _⟩ => by
  obtain ⟨v, hv, rv⟩ := m.get hd
  exact ⟨v, hv, k.now g r rv⟩
theorem dv (i : Nat) {x : Str} {pos : Pos} (hN : X.N[i]? = some x := by rfl) (hv : Vis X.env.scope x := by first | exact Or.inl rfl | exact Or.inr (Or.inl rfl) | exact Or.inr (Or.inr rfl)) (hd : (x == ("__debug__" : Str)) = false := by decide)
    (hcd : (x == ("__classdict__" : Str)) = false := by decide) : PE X (.Name x pos) (lE X.K E (dVar i)) := de_var (pv i hN hv hd hcd)
def dC (d : D) : DE := fun _ M R _ => R d M
theorem de_c {d : D} {v : V} (h : PE X e (tC v)) (r : ∀ M H, Rep X.K M H d v) : PE X e (lE X.K E (dC d)) := PE.imp h fun σ H Q ⟨Γ, M, R, XR, g, m, q, k, _⟩ => k.now g q (r M H)
theorem de_int {i j pos} : PE X (.Constant (.int i) j pos) (lE X.K E (dC (.int i))) := de_c pe_int fun _ _ => rfl
theorem de_bl {i j pos} : PE X (.Constant (.bool i) j pos) (lE X.K E (dC (.bl i))) := de_c pe_bl fun _ _ => rfl
theorem de_non {j pos} : PE X (.Constant .none j pos) (lE X.K E (dC .non)) := de_c pe_non fun _ _ => rfl
theorem de_str {x j pos} : PE X (.Constant (.str x) j pos) (lE X.K E (dC (.str x))) := de_c pe_str fun _ _ => rfl
/-- a name of the module that holds a written value -/
theorem de_glob {x : Str} {d : D} {v : V} {u : Value} (hg : Gl X x) (hm : X.mg x = some u) (r : RelV v u) (rd : ∀ M H, Rep X.K M H d v) (hd : (x == ("__debug__" : Str)) = false := by decide) : PE X (.Name x pos) (lE X.K E (dC d)) :=
  de_c (pe_glob hg hm r hd) rd

def dOp (r : O2) (wa wb : DE) : DE := fun Γ M R XR => wa Γ M (fun x M1 => wb Γ M1 (fun y M2 => r x y M2 R) XR) XR
def dUn (r : O1) (wa : DE) : DE := fun Γ M R XR => wa Γ M (fun x M1 => r x M1 R) XR
theorem bin_imp {r : O2} {σ : L2.St} {H : Hp} {Q : VK} (h : lE X.K E (dOp r wa wb) σ H Q) : tOp (lO X.K r) (lE X.K E wa) (lE X.K E wb) σ H Q := by
  obtain ⟨Γ, M, R, XR, g, m, q, k, kx⟩ := h
  exact ⟨Γ, M, _, XR, g, m, q, fun x M1 vx H1 q1 s1 g1 r1 => ⟨Γ, M1, _, XR, g1, m.stp s1, q1, fun y M2 vy H2 q2 s2 g2 r2 => ⟨x, y, M2, R, g2, r1.stp s2, r2, q2, k.step (s1.trans s2)⟩, kx.step s1⟩, kx⟩
theorem de_op {op : Operator} {r : O2} (ho : OpR X (binaryOp op) (lO X.K r)) (ha : PE X a (lE X.K E wa)) (hb : PE X b (lE X.K E wb)) : PE X (.BinOp a op b pos) (lE X.K E (dOp r wa wb)) :=
  PE.imp (pe_op ho ha hb) fun _ _ _ => bin_imp
theorem de_un {op : UnaryOp} {r : O1} (ho : UnR X (unaryOp op) (lU X.K r)) (ha : PE X a (lE X.K E wa)) : PE X (.UnaryOp op a pos) (lE X.K E (dUn r wa)) :=
  PE.imp (pe_un ho ha) fun σ H Q ⟨Γ, M, R, XR, g, m, q, k, kx⟩ => ⟨Γ, M, _, XR, g, m, q, fun x M1 vx H1 q1 s1 g1 r1 => ⟨x, M1, R, g1, r1, q1, k.step s1⟩, kx⟩
theorem de_cmp {op : CmpOp} {r : O2} (ho : OpR X (compareOp op) (lO X.K r)) (ha : PE X a (lE X.K E wa)) (hb : PE X b (lE X.K E wb)) (hm : behindInMarks op b = false) : PE X (.Compare a [op] [b] pos) (lE X.K E (dOp r wa wb)) :=
  PE.imp (pe_cmpR ho ha hb hm) fun _ _ _ => bin_imp
def dB (w : DE) : DT := fun Γ M R XR => w Γ M (fun d M' => ∃ b, d = .bl b ∧ R b M') XR
theorem dt_cmp {op : CmpOp} {r : O2} (ho : OpR X (compareOp op) (lO X.K r)) (ha : PE X a (lE X.K E wa)) (hb : PE X b (lE X.K E wb)) (hm : behindInMarks op b = false) : PT X (.Compare a [op] [b] pos) (lT X.K E (dB (dOp r wa wb))) :=
  PT.imp (pt_cmpR ho ha hb hm) fun σ H Q ⟨Γ, M, R, XR, g, m, q, k, kx⟩ => bin_imp ⟨Γ, M, _, XR, g, m, q, fun d M' v H' ⟨b, e, q1⟩ s1 g1 r1 => by
    subst e
    have r1 : v = .bl b := r1
    exact ⟨b, r1, k _ _ _ q1 s1 g1⟩, kx⟩
theorem dt_val (h : PE X e (lE X.K E w)) (he : ∀ whole, isTrue e X.env whole = (do let v ← whole; standAt e.pos; holding [v] (truthy v)) := by intro _; rfl) : PT X e (lT X.K E (dB w)) :=
  PT.imp (pt_val h he) fun σ H Q ⟨Γ, M, R, XR, g, m, q, k, kx⟩ => ⟨Γ, M, _, XR, g, m, q, fun d M' v H' ⟨b, e, q1⟩ s1 g1 r1 => by
    subst e
    have r1 : v = .bl b := r1
    exact ⟨b, r1, k _ _ _ q1 s1 g1⟩, kx⟩
/-! chains -/
def dChain (r r' : O2) (wa wb wc : DE) : DE := fun Γ M R XR => wa Γ M (fun x M1 => wb Γ M1 (fun y M2 => r x y M2 (fun z M3 => ∃ k, z = .bl k ∧ (if k = true then wc Γ M3 (fun w M4 => r' y w M4 R) XR else R (.bl false) M3))) XR) XR
theorem chain_imp {r r' : O2} {σ : L2.St} {H : Hp} {Q : VK} (h : lE X.K E (dChain r r' wa wb wc) σ H Q) : tChain (lO X.K r) (lO X.K r') (lE X.K E wa) (lE X.K E wb) (lE X.K E wc) σ H Q := by
  obtain ⟨Γ, M, R, XR, g, m, q, k, kx⟩ := h
  refine ⟨Γ, M, _, XR, g, m, q, fun x M1 vx H1 q1 s1 g1 r1 => ⟨Γ, M1, _, XR, g1, m.stp s1, q1, fun y M2 vy H2 q2 s2 g2 r2 => ⟨x, y, M2, _, g2, r1.stp s2, r2, q2, fun z M3 vz H3 ⟨c, e, q3⟩ s3 g3 r3 => ?_⟩, kx.step s1⟩, kx⟩
  subst e
  refine ⟨c, r3, ?_⟩
  cases c with
  | true => exact ⟨Γ, M3, _, XR, g3, m.stp (s1.trans (s2.trans s3)), q3, fun w M4 vw H4 q4 s4 g4 r4 => ⟨y, w, M4, R, g4, r2.stp (s3.trans s4), r4, q4, k.step (s1.trans (s2.trans (s3.trans s4)))⟩, kx.step (s1.trans (s2.trans s3))⟩
  | false => exact k _ _ _ _ q3 (s1.trans (s2.trans s3)) g3 rfl
theorem de_chain {op op' : CmpOp} {r r' : O2} (ho : OpR X (compareOp op) (lO X.K r)) (ho' : OpR X (compareOp op') (lO X.K r')) (ha : PE X a (lE X.K E wa)) (hb : PE X b (lE X.K E wb)) (hc : PE X c (lE X.K E wc))
    (hm : lastMarks [op, op'] [b, c] = false := by rfl) : PE X (.Compare a [op, op'] [b, c] pos) (lE X.K E (dChain r r' wa wb wc)) := PE.imp (pe_chain ho ho' ha hb hc hm) fun _ _ _ => chain_imp
theorem dt_chain {op op' : CmpOp} {r r' : O2} (ho : OpR X (compareOp op) (lO X.K r)) (ho' : OpR X (compareOp op') (lO X.K r')) (ha : PE X a (lE X.K E wa)) (hb : PE X b (lE X.K E wb)) (hc : PE X c (lE X.K E wc))
    (hm : lastMarks [op, op'] [b, c] = false := by rfl) : PT X (.Compare a [op, op'] [b, c] pos) (lT X.K E (dB (dChain r r' wa wb wc))) := PT.imp (pt_chain ho ho' ha hb hc hm) fun σ H Q ⟨Γ, M, R, XR, g, m, q, k, kx⟩ => chain_imp ⟨Γ, M, _, XR, g, m, q, fun d M' v H' ⟨b, e, q1⟩ s1 g1 r1 => by
    subst e
    have r1 : v = .bl b := r1
    exact ⟨b, r1, k _ _ _ q1 s1 g1⟩, kx⟩
/-! ### truth -/
def dAnd (t u : DT) : DT := fun Γ M R XR => t Γ M (fun c M1 => if c = true then u Γ M1 R XR else R false M1) XR
def dOr (t u : DT) : DT := fun Γ M R XR => t Γ M (fun c M1 => if c = true then R true M1 else u Γ M1 R XR) XR
def dNot (t : DT) : DT := fun Γ M R XR => t Γ M (fun c M1 => R (!c) M1) XR
theorem PW.imp {t t' : TT} (h : PW X e t) (i : ∀ σ H Q, t' σ H Q → t σ H Q) : PW X e t' := ⟨fun wh pins s σ H Q I q => h.run wh pins s σ H Q I (i σ H Q q)⟩
variable {rest : List Expr}
theorem dw_and1 (ha : PT X a (lT X.K E t)) : PW X (.BoolOp .And [a] pos) (lT X.K E t) := pw_and1 ha
theorem dw_or1 (ha : PT X a (lT X.K E t)) : PW X (.BoolOp .Or [a] pos) (lT X.K E t) := pw_or1 ha
theorem dw_and (ha : PT X a (lT X.K E t)) (hb : PW X (.BoolOp .And (b :: rest) pos) (lT X.K E u)) : PW X (.BoolOp .And (a :: b :: rest) pos) (lT X.K E (dAnd t u)) :=
  PW.imp (pw_and ha hb) fun σ H Q ⟨Γ, M, R, XR, g, m, q, k, kx⟩ => ⟨Γ, M, _, XR, g, m, q, fun c M1 H1 q1 s1 g1 => by
    cases c with
    | true => exact ⟨Γ, M1, R, XR, g1, m.stp s1, q1, k.step s1, kx.step s1⟩
    | false => exact k _ _ _ q1 s1 g1, kx⟩
theorem dw_or (ha : PT X a (lT X.K E t)) (hb : PW X (.BoolOp .Or (b :: rest) pos) (lT X.K E u)) : PW X (.BoolOp .Or (a :: b :: rest) pos) (lT X.K E (dOr t u)) :=
  PW.imp (pw_or ha hb) fun σ H Q ⟨Γ, M, R, XR, g, m, q, k, kx⟩ => ⟨Γ, M, _, XR, g, m, q, fun c M1 H1 q1 s1 g1 => by
    cases c with
    | false => exact ⟨Γ, M1, R, XR, g1, m.stp s1, q1, k.step s1, kx.step s1⟩
    | true => exact k _ _ _ q1 s1 g1, kx⟩
theorem dt_not (ha : PT X a (lT X.K E t)) : PT X (.UnaryOp .Not a pos) (lT X.K E (dNot t)) :=
  PT.imp (pt_not ha) fun σ H Q ⟨Γ, M, R, XR, g, m, q, k, kx⟩ => ⟨Γ, M, _, XR, g, m, q, fun c M1 H1 q1 s1 g1 => k _ _ _ q1 s1 g1, kx⟩
/-- as values: bools -/
def dAndV (wa wb : DE) : DE := fun Γ M R XR => wa Γ M (fun x M1 => ∃ c, x = .bl c ∧ if c = true then wb Γ M1 R XR else R (.bl false) M1) XR
def dOrV (wa wb : DE) : DE := fun Γ M R XR => wa Γ M (fun x M1 => ∃ c, x = .bl c ∧ if c = true then R (.bl true) M1 else wb Γ M1 R XR) XR
def dNotV (wa : DE) : DE := fun Γ M R XR => wa Γ M (fun x M1 => ∃ c, x = .bl c ∧ R (.bl (!c)) M1) XR
theorem de_one {op} (h : PE X a (lE X.K E wa)) : PE X (.BoolOp op [a] pos) (lE X.K E wa) := pe_one h
theorem de_and (ha : PE X a (lE X.K E wa)) (hb : PE X (.BoolOp .And (b :: rest) pos) (lE X.K E wb)) : PE X (.BoolOp .And (a :: b :: rest) pos) (lE X.K E (dAndV wa wb)) :=
  PE.imp (pe_and ha hb) fun σ H Q ⟨Γ, M, R, XR, g, m, q, k, kx⟩ => ⟨Γ, M, _, XR, g, m, q, fun x M1 v H1 ⟨c, e, q1⟩ s1 g1 r1 => by
    subst e
    refine ⟨c, r1, ?_⟩
    cases c with
    | true => exact ⟨Γ, M1, R, XR, g1, m.stp s1, q1, k.step s1, kx.step s1⟩
    | false => exact k _ _ _ _ q1 s1 g1 rfl, kx⟩
theorem de_or (ha : PE X a (lE X.K E wa)) (hb : PE X (.BoolOp .Or (b :: rest) pos) (lE X.K E wb)) : PE X (.BoolOp .Or (a :: b :: rest) pos) (lE X.K E (dOrV wa wb)) :=
  PE.imp (pe_or ha hb) fun σ H Q ⟨Γ, M, R, XR, g, m, q, k, kx⟩ => ⟨Γ, M, _, XR, g, m, q, fun x M1 v H1 ⟨c, e, q1⟩ s1 g1 r1 => by
    subst e
    refine ⟨c, r1, ?_⟩
    cases c with
    | false => exact ⟨Γ, M1, R, XR, g1, m.stp s1, q1, k.step s1, kx.step s1⟩
    | true => exact k _ _ _ _ q1 s1 g1 rfl, kx⟩
theorem de_not (ha : PE X a (lE X.K E wa)) : PE X (.UnaryOp .Not a pos) (lE X.K E (dNotV wa)) :=
  PE.imp (pe_not ha) fun σ H Q ⟨Γ, M, R, XR, g, m, q, k, kx⟩ => ⟨Γ, M, _, XR, g, m, q, fun x M1 v H1 ⟨c, e, q1⟩ s1 g1 r1 => by
    subst e
    exact ⟨c, r1, k _ _ _ _ q1 s1 g1 rfl⟩, kx⟩
def dIf (t : DT) (wa wb : DE) : DE := fun Γ M R XR => t Γ M (fun c M1 => if c = true then wa Γ M1 R XR else wb Γ M1 R XR) XR
theorem de_if (hc : PT X c (lT X.K E t)) (ha : PE X a (lE X.K E wa)) (hb : PE X b (lE X.K E wb)) : PE X (.IfExp c a b pos) (lE X.K E (dIf t wa wb)) :=
  PE.imp (pe_ifExp hc ha hb) fun σ H Q ⟨Γ, M, R, XR, g, m, q, k, kx⟩ => ⟨Γ, M, _, XR, g, m, q, fun c M1 H1 q1 s1 g1 => by
    cases c with
    | true => exact ⟨Γ, M1, R, XR, g1, m.stp s1, q1, k.step s1, kx.step s1⟩
    | false => exact ⟨Γ, M1, R, XR, g1, m.stp s1, q1, k.step s1, kx.step s1⟩, kx⟩
/-! ### rows of arguments, displays -/
def dNil : DA := fun _ M R _ => R [] M
def dCons (w : DE) (wA : DA) : DA := fun Γ M R XR => w Γ M (fun x M1 => wA Γ M1 (fun xs M2 => R (x :: xs) M2) XR) XR
theorem da_nil : PA X [] (lA X.K E dNil) := PA.imp pa_nil fun σ H Q ⟨Γ, M, R, XR, g, m, q, k, kx⟩ => k _ _ _ _ q (Stp.refl M H) g rfl
theorem da_cons (ha : PE X e (lE X.K E w)) (hr : PA X es (lA X.K E wA)) (hs : starEach (e :: es) X.env = (false, eval e X.env) :: starEach es X.env := by rfl) : PA X (e :: es) (lA X.K E (dCons w wA)) :=
  PA.imp (pa_cons ha hr hs) fun σ H Q ⟨Γ, M, R, XR, g, m, q, k, kx⟩ => ⟨Γ, M, _, XR, g, m, q, fun x M1 vx H1 q1 s1 g1 r1 => ⟨Γ, M1, _, XR, g1, m.stp s1, q1, fun xs M2 vs H2 q2 s2 g2 r2 => k _ _ _ _ q2 (s1.trans s2) g2 ⟨vx, vs, rfl, r1.stp s2, r2⟩, kx.step s1⟩, kx⟩
def dTup (wA : DA) : DE := fun Γ M R XR => wA Γ M (fun ds M1 => ds.length ≤ sizeLine ∧ R (.tup ds) M1) XR
theorem de_tup {x1} (h : PA X es (lA X.K E wA)) : PE X (.Tuple es x1 pos) (lE X.K E (dTup wA)) :=
  PE.imp (pe_tup h) fun σ H Q ⟨Γ, M, R, XR, g, m, q, k, kx⟩ => ⟨Γ, M, _, XR, g, m, q, fun ds M1 vs H1 ⟨hl, q1⟩ s1 g1 r1 => ⟨by rw [← r1.len]; exact hl, fun p hp => (k.step s1).tup g1 q1 r1 hp⟩, kx⟩
def dLst (wA : DA) : DE := fun Γ M R XR => wA Γ M (fun ds M1 => ds.length ≤ sizeLine ∧ R (.lst ds) M1) XR
theorem de_lst (h : PA X es (lA X.K E wA)) : PE X (.List es pos) (lE X.K E (dLst wA)) :=
  PE.imp (pe_lst h) fun σ H Q ⟨Γ, M, R, XR, g, m, q, k, kx⟩ => ⟨Γ, M, _, XR, g, m, q, fun ds M1 vs H1 ⟨hl, q1⟩ s1 g1 r1 => ⟨by rw [← r1.len]; exact hl, fun p hp => (k.step s1).lst g1 q1 r1 hp⟩, kx⟩
theorem KQ.lstM {K : PySem.W.Frag} {M : Mem} {H : Hp} {R : Pst} {Q : VK} (k : KQ K M H R Q) (g : Good K M H) {ds : List D} {vs : List V} (r : Reps K M H ds vs) {p : Addr} (n : H p = none) (h : R (.loc p) (mup M p (.lst ds))) : Q (.ref p) (upd H p (.lst vs)) :=
  k _ _ _ _ h (stp_loc n) (good_loc g n ⟨vs, upd_same, r.stp (stp_loc n)⟩) rfl
/-- a list that is to change -/
def dLstM (wA : DA) : DE := fun Γ M R XR => wA Γ M (fun ds M1 => ds.length ≤ sizeLine ∧ ∀ p, M1 p = none → R (.loc p) (mup M1 p (.lst ds))) XR
theorem de_lstM (h : PA X es (lA X.K E wA)) : PE X (.List es pos) (lE X.K E (dLstM wA)) :=
  PE.imp (pe_lst h) fun σ H Q ⟨Γ, M, R, XR, g, m, q, k, kx⟩ => ⟨Γ, M, _, XR, g, m, q, fun ds M1 vs H1 ⟨hl, q1⟩ s1 g1 r1 => ⟨by rw [← r1.len]; exact hl, fun p hp => (k.step s1).lstM g1 r1 hp (q1 p (g1.free hp))⟩, kx⟩
/-! ### items, slices -/
theorem de_ix (ha : PE X a (lE X.K E wa)) (hb : PE X b (lE X.K E wb)) (hs : PlainIx b) : PE X (.Subscript a b pos) (lE X.K E (dOp oIx wa wb)) := PE.imp (pe_ix lo_ix ha hb hs) fun _ _ _ => bin_imp
abbrev DO := Gam → Mem → (Option Int → Mem → Prop) → Xst → Prop
def lPO (K : PySem.W.Frag) (E : L2.St → XK) (w : DO) : TO := fun σ H Q => ∃ (Γ : Gam) (M : Mem) (R : Option Int → Mem → Prop) (XR : Xst), Good K M H ∧ Mat K M H Γ σ ∧ w Γ M R XR ∧ (∀ o M' H', R o M' → Stp M H M' H' → Good K M' H' → Q o H') ∧ KX K M H XR (E σ)
def dNoP : DO := fun _ M R _ => R none M
def dPt (w : DE) : DO := fun Γ M R XR => w Γ M (fun d M1 => ∃ i, d = .int i ∧ R (some i) M1) XR
theorem PO.imp {X : Cx} {e : Option Expr} {t t' : TO} (h : PO X e t) (i : ∀ σ H Q, t' σ H Q → t σ H Q) : PO X e t' := by
  constructor
  intros
  apply h.run <;> first | assumption | (apply i; assumption)
theorem do_none : PO X none (lPO X.K E dNoP) := PO.imp po_none fun σ H Q ⟨Γ, M, R, XR, g, m, q, k, kx⟩ => k _ _ _ q (Stp.refl M H) g
theorem do_some (h : PE X e (lE X.K E w)) : PO X (some e) (lPO X.K E (dPt w)) := PO.imp (po_some h) fun σ H Q ⟨Γ, M, R, XR, g, m, q, k, kx⟩ => ⟨Γ, M, _, XR, g, m, q, fun d M1 v H1 ⟨i, e, q1⟩ s1 g1 r1 => by
  subst e
  exact ⟨i, r1, k _ _ _ q1 s1 g1⟩, kx⟩
def dSl (w : DE) (wl wh : DO) : DE := fun Γ M R XR => w Γ M (fun x M1 => wl Γ M1 (fun l M2 => wh Γ M2 (fun h M3 => oSl x l h M3 R) XR) XR) XR
theorem de_sl {lo hi : Option Expr} {p2 : Pos} {wl wh : DO} (he : PE X e (lE X.K E w)) (hl : PO X lo (lPO X.K E wl)) (hh : PO X hi (lPO X.K E wh)) : PE X (.Subscript e (.Slice lo hi none p2) pos) (lE X.K E (dSl w wl wh)) :=
  PE.imp (pe_slice lo_sl he hl hh) fun σ H Q ⟨Γ, M, R, XR, g, m, q, k, kx⟩ => ⟨Γ, M, _, XR, g, m, q, fun x M1 vx H1 q1 s1 g1 r1 => ⟨Γ, M1, _, XR, g1, m.stp s1, q1, fun l M2 H2 q2 s2 g2 => ⟨Γ, M2, _, XR, g2, m.stp (s1.trans s2), q2,
    fun h M3 H3 q3 s3 g3 => ⟨x, M3, R, g3, r1.stp (s2.trans s3), q3, k.step (s1.trans (s2.trans s3))⟩, kx.step (s1.trans s2)⟩, kx.step s1⟩, kx⟩
/-! ### calls of what is built in -/
def dCall (r : OC) (wA : DA) : DE := fun Γ M R XR => wA Γ M (fun ds M1 => r ds M1 R) XR
theorem cb_imp {r : OC} {σ : L2.St} {H : Hp} {Q : VK} (h : lE X.K E (dCall r wA) σ H Q) : tCB (lC X.K r) (lA X.K E wA) σ H Q := by
  obtain ⟨Γ, M, R, XR, g, m, q, k, kx⟩ := h
  exact ⟨Γ, M, _, XR, g, m, q, fun ds M1 vs H1 q1 s1 g1 r1 => ⟨ds, M1, R, g1, r1, q1, k.step s1⟩, kx⟩
theorem de_callB {r : OC} {id : String} {x : Str} {p : Pos} (hc : CallR X (.builtin id) (lC X.K r)) (hg : Gl X x) (hm : X.mg x = none) (hv : bootBuiltins x = some (.builtin id)) (ha : PA X (e :: es) (lA X.K E wA)) (hn : x ≠ "__name__" := by decide) (hdb : (x == ("__debug__" : Str)) = false := by decide)
    (he : starEach (e :: es) X.env = (false, eval e X.env) :: starEach es X.env := by rfl) (hpl : (backTo pos (starEach es X.env)).any (·.1) = false := by rfl) : PE X (.Call (.Name x p) (e :: es) [] pos) (lE X.K E (dCall r wA)) :=
  PE.imp (pe_callB hc hg hm hv ha hn hdb he hpl) fun _ _ _ => cb_imp
theorem de_callTy {r : OC} {T : String} {x : Str} {p : Pos} (hc : CallR X (.type T) (lC X.K r)) (hg : Gl X x) (hm : X.mg x = none) (hv : bootBuiltins x = some (.type T)) (ha : PA X (e :: es) (lA X.K E wA)) (hn : x ≠ "__name__" := by decide) (hdb : (x == ("__debug__" : Str)) = false := by decide)
    (he : starEach (e :: es) X.env = (false, eval e X.env) :: starEach es X.env := by rfl) (hpl : (backTo pos (starEach es X.env)).any (·.1) = false := by rfl) : PE X (.Call (.Name x p) (e :: es) [] pos) (lE X.K E (dCall r wA)) :=
  PE.imp (pe_callTy hc hg hm hv ha hn hdb he hpl) fun _ _ _ => cb_imp
theorem Reps.one {K : PySem.W.Frag} {M : Mem} {H : Hp} {d : D} {vs : List V} (h : Reps K M H [d] vs) : ∃ v, vs = [v] ∧ Rep K M H d v := by
  obtain ⟨v, r, rfl, h1, h2⟩ := h
  have h2 : r = [] := h2
  exact ⟨v, by rw [h2], h1⟩
theorem Reps.two {K : PySem.W.Frag} {M : Mem} {H : Hp} {d e : D} {vs : List V} (h : Reps K M H [d, e] vs) : ∃ v u, vs = [v, u] ∧ Rep K M H d v ∧ Rep K M H e u := by
  obtain ⟨v, r, rfl, h1, h2⟩ := h
  obtain ⟨u, e1, h3⟩ := Reps.one h2
  exact ⟨v, u, by rw [e1], h1, h3⟩
theorem getS_cases {M : Mem} {d : D} {xs : List D} (h : getS M d = some xs) : d = .tup xs ∨ d = .kt xs ∨ getL M d = some xs := by
  cases d
  case tup ds => exact .inl (by cases h; rfl)
  case kt ds => exact .inr (.inl (by cases h; rfl))
  all_goals exact .inr (.inr h)
theorem getS_sq {K : PySem.W.Frag} {M : Mem} {H : Hp} {d : D} {xs : List D} {v : V} (g : Good K M H) (h : getS M d = some xs) (r : Rep K M H d v) : ∃ a vs, v = .ref a ∧ (SqL K H a vs ∨ SqT K H a vs) ∧ Reps K M H xs vs := by
  rcases getS_cases h with e | e | e
  · subst e
    obtain ⟨a, vs, rfl, ha, ra⟩ := r.tupS
    exact ⟨a, vs, rfl, .inr ha, ra⟩
  · subst e
    obtain ⟨a, vs, rfl, ha, ra⟩ := r.ktS
    exact ⟨a, vs, rfl, .inr ha, ra⟩
  · obtain ⟨a, vs, rfl, ha, ra⟩ := (getL_like e).sq g r
    exact ⟨a, vs, rfl, .inl ha, ra⟩
/-- how many there are -/
def sizeD (M : Mem) : D → Option Nat
  | .dK ks _ => some ks.length
  | .dT ks _ => some ks.length
  | .loc a => match M a with
    | some (.lst ds) => some ds.length
    | some (.dK kvs) => some kvs.length
    | some (.dT kvs) => some kvs.length
    | _ => none
  | d => (getS M d).map List.length
def oLen : OC
  | [.str z], M, R => z.length ≤ sizeLine ∧ R (.int z.length) M
  | [d], M, R => ∃ n, sizeD M d = some n ∧ R (.int (n : Int)) M
  | _, _, _ => False
theorem zip_len {α β : Type} {l : List α} {ds : List D} {vs : List β} (h : l.length = ds.length) (h2 : ds.length = vs.length) : (l.zip vs).length = l.length := by
  rw [List.length_zip, ← h2, ← h, Nat.min_self]
theorem lc_len : CallR X (.builtin "len") (lC X.K oLen) := CallR.imp (call_len.or (call_lenD.or call_len_dT)) fun vs H Q ⟨ds, M, R, g, hr, q, k⟩ => by
  match ds, q with
  | [], q => exact False.elim q
  | _ :: _ :: _, q => exact False.elim (by simp [oLen] at q)
  | [d], q =>
    obtain ⟨v, rfl, h1⟩ := hr.one
    have seqs : (∃ xs, getS M d = some xs ∧ R (.int (xs.length : Nat)) M) → ∃ x n, [v] = [x] ∧ LenV X.K x H n ∧ Q (.int n) H := fun ⟨xs, e, q⟩ => by
      obtain ⟨a, vs, rfl, ha, ra⟩ := getS_sq g e h1
      refine ⟨_, _, rfl, ?_, k.now g q rfl⟩
      rcases ha with ha | ha
      · exact .inl ⟨vs, ha, ra.len⟩
      · exact .inr ⟨vs, ha, ra.len⟩
    cases d with
    | str z =>
      have h1 : v = .str z := h1
      subst h1
      exact .inl ⟨_, _, rfl, ⟨q.1, rfl⟩, k.now g q.2 rfl⟩
    | dK ks xs =>
      obtain ⟨a, vs, rfl, ha, m, l, r⟩ := h1
      obtain ⟨n, e, q⟩ := q
      cases e
      exact .inr (.inl ⟨a, _, rfl, ha, by rw [zip_len l r.len]; exact k.now g q rfl⟩)
    | dT ks xs =>
      obtain ⟨a, vs, rfl, ha, m, l, r⟩ := h1
      obtain ⟨n, e, q⟩ := q
      cases e
      exact .inr (.inr ⟨a, _, rfl, ha, by rw [zip_len l r.len]; exact k.now g q rfl⟩)
    | loc a =>
      have h1 : v = .ref a := h1
      subst h1
      obtain ⟨n, e, q⟩ := q
      simp only [sizeD] at e
      split at e
      · next xs e1 => cases e; exact .inl (seqs ⟨xs, by simp [getS, getL, e1], q⟩)
      · next kvs e1 =>
        cases e
        obtain ⟨vs, ha, r⟩ := g _ _ e1
        exact .inr (.inl ⟨a, _, rfl, ha, by rw [zip_len (by simp) r.len, List.length_map]; exact k.now g q rfl⟩)
      · next kvs e1 =>
        cases e
        obtain ⟨vs, ha, r⟩ := g _ _ e1
        exact .inr (.inr ⟨a, _, rfl, ha, by rw [zip_len (by simp) r.len, List.length_map]; exact k.now g q rfl⟩)
      · cases e
    | _ =>
      refine .inl (seqs ?_)
      obtain ⟨n, e, q⟩ := q
      simp only [sizeD, Option.map_eq_some_iff] at e
      obtain ⟨xs, e1, rfl⟩ := e
      exact ⟨xs, e1, q⟩
/-- int, abs, max, min, str of a number -/
def oInt : OC
  | [.int i], M, R => R (.int i) M
  | [.bl b], M, R => R (.int (if b then 1 else 0)) M
  | _, _, _ => False
theorem lc_int : CallR X (.type "int") (lC X.K oInt) := CallR.imp call_int1 fun vs H Q ⟨ds, M, R, g, hr, q, k⟩ => by
  match ds, q with
  | [.int i], q => obtain ⟨v, rfl, h1⟩ := hr.one; have h1 : v = .int i := h1; subst h1; exact .inl ⟨i, rfl, k.now g q rfl⟩
  | [.bl b], q => obtain ⟨v, rfl, h1⟩ := hr.one; have h1 : v = .bl b := h1; subst h1; exact .inr ⟨b, rfl, k.now g q rfl⟩
def oAbs : OC
  | [.int i], M, R => R (.int (if i < 0 then -i else i)) M
  | _, _, _ => False
theorem lc_abs : CallR X (.builtin "abs") (lC X.K oAbs) := CallR.imp call_abs fun vs H Q ⟨ds, M, R, g, hr, q, k⟩ => by
  match ds, q with
  | [.int i], q => obtain ⟨v, rfl, h1⟩ := hr.one; have h1 : v = .int i := h1; subst h1; exact ⟨i, rfl, k.now g q rfl⟩
def oMax2 : OC
  | [.int i, .int j], M, R => R (.int (if j > i then j else i)) M
  | _, _, _ => False
theorem lc_max2 (hc : X.calm = true) : CallR X (.builtin "max") (lC X.K oMax2) := CallR.imp (call_max2 hc) fun vs H Q ⟨ds, M, R, g, hr, q, k⟩ => by
  match ds, q with
  | [.int i, .int j], q => obtain ⟨v, u, rfl, h1, h2⟩ := hr.two; have h1 : v = .int i := h1; have h2 : u = .int j := h2; subst h1 h2; exact ⟨i, j, rfl, k.now g q rfl⟩
def oMin2 : OC
  | [.int i, .int j], M, R => R (.int (if j < i then j else i)) M
  | _, _, _ => False
theorem lc_min2 (hc : X.calm = true) : CallR X (.builtin "min") (lC X.K oMin2) := CallR.imp (call_min2 hc) fun vs H Q ⟨ds, M, R, g, hr, q, k⟩ => by
  match ds, q with
  | [.int i, .int j], q => obtain ⟨v, u, rfl, h1, h2⟩ := hr.two; have h1 : v = .int i := h1; have h2 : u = .int j := h2; subst h1 h2; exact ⟨i, j, rfl, k.now g q rfl⟩
def oStr : OC
  | [.int i], M, R => i.natAbs.log2 < 1920 ∧ R (.str (toString i)) M
  | _, _, _ => False
theorem lc_str : CallR X (.type "str") (lC X.K oStr) := CallR.imp call_str_int fun vs H Q ⟨ds, M, R, g, hr, q, k⟩ => by
  match ds, q with
  | [.int i], q => obtain ⟨v, rfl, h1⟩ := hr.one; have h1 : v = .int i := h1; subst h1; exact ⟨i, rfl, q.1, k.now g q.2 rfl⟩
/-- tuple(..), list(..) of a list or a tuple -/
def oTuple : OC
  | [.kt ds], M, R => R (.kt ds) M
  | [d], M, R => ∃ xs, getS M d = some xs ∧ R (.tup xs) M
  | _, _, _ => False
theorem lc_tuple : CallR X (.type "tuple") (lC X.K oTuple) := CallR.imp call_tuple_of fun vs H Q ⟨ds, M, R, g, hr, q, k⟩ => by
  match ds, q with
  | [], q => exact False.elim q
  | _ :: _ :: _, q => exact False.elim (by simp [oTuple] at q)
  | [d], q =>
    obtain ⟨v, rfl, h1⟩ := hr.one
    by_cases hk : ∃ ds, d = .kt ds
    · obtain ⟨ds, rfl⟩ := hk
      obtain ⟨a, vs, rfl, ha, ra⟩ := h1.ktS
      exact ⟨a, vs, rfl, .inr ⟨ha, k.now g q h1⟩⟩
    · have q' : ∃ xs, getS M d = some xs ∧ R (.tup xs) M := by
        cases d <;> first | exact q | exact absurd ⟨_, rfl⟩ hk
      clear q
      obtain ⟨xs, e, q⟩ := q'
      rcases getS_cases e with e | e | e
      · subst e
        obtain ⟨a, vs, rfl, ha, ra⟩ := h1.tupS
        exact ⟨a, vs, rfl, .inr ⟨ha, k.now g q h1⟩⟩
      · exact absurd ⟨_, e⟩ hk
      · obtain ⟨a, vs, rfl, ha, ra⟩ := (getL_like e).sq g h1
        exact ⟨a, vs, rfl, .inl ⟨ha, fun p hp => k.tup g q ra hp⟩⟩
def oList : OC
  | [d], M, R => ∃ xs, getS M d = some xs ∧ R (.lst xs) M
  | _, _, _ => False
theorem lc_list : CallR X (.type "list") (lC X.K oList) := CallR.imp call_list_of fun vs H Q ⟨ds, M, R, g, hr, q, k⟩ => by
  match ds, q with
  | [], q => exact False.elim q
  | _ :: _ :: _, q => exact False.elim q
  | [d], q =>
    obtain ⟨v, rfl, h1⟩ := hr.one
    obtain ⟨xs, e, q⟩ := q
    obtain ⟨a, vs, rfl, ha, ra⟩ := getS_sq g e h1
    exact ⟨a, vs, rfl, ha, fun p hp => k.lst g q ra hp⟩
def oListM : OC
  | [d], M, R => ∃ xs, getS M d = some xs ∧ ∀ p, M p = none → R (.loc p) (mup M p (.lst xs))
  | _, _, _ => False
theorem lc_listM : CallR X (.type "list") (lC X.K oListM) := CallR.imp call_list_of fun vs H Q ⟨ds, M, R, g, hr, q, k⟩ => by
  match ds, q with
  | [], q => exact False.elim q
  | _ :: _ :: _, q => exact False.elim q
  | [d], q =>
    obtain ⟨v, rfl, h1⟩ := hr.one
    obtain ⟨xs, e, q⟩ := q
    obtain ⟨a, vs, rfl, ha, ra⟩ := getS_sq g e h1
    exact ⟨a, vs, rfl, ha, fun p hp => k.lstM g ra hp (q p (g.free hp))⟩
/-- sum of a list of ints; any, all of a list of bools -/
def oSum : OC
  | [d], M, R => ∃ ns : List Int, getS M d = some (ns.map D.int) ∧ R (.int ns.sum) M
  | _, _, _ => False
def rSumU (K : PySem.W.Frag) : List V → Hp → VK → Prop := fun vs H Q => ∃ (a : Addr) (ns : List Int), vs = [V.ref a] ∧ SqT K H a (ns.map V.int) ∧ Q (.int ns.sum) H
theorem cr_sumU (hc : X.calm = true) : CallR X (.builtin "sum") (rSumU X.K) := by
  rintro pins s σ H vs us Q I r ⟨a, ns, rfl, hs, q⟩
  obtain ⟨its, rv, hl, _⟩ := I.tuple hs
  rw [Vals.ref1 r]
  obtain ⟨xs, e⟩ := rv.ints.allInts.items
  have hn : numsOf (intItems xs).toList = ns := by rw [← e]; exact rv.ints.numsOf
  rw [nums_intItems] at hn
  rw [e] at hl
  refine PySem.W.ktm_sumG (I.ok.hd hc) hl fun h' tk t' hk => ⟨.int ns.sum, H, I.kept hk, ⟨t', ?_⟩, q⟩
  rw [preSum_eq, List.take_of_length_le (by simp), hn]
theorem lc_sum (hc : X.calm = true) : CallR X (.builtin "sum") (lC X.K oSum) := CallR.imp ((cr_sum hc).or (cr_sumU hc)) fun vs H Q ⟨ds, M, R, g, hr, q, k⟩ => by
  match ds, q with
  | [], q => exact False.elim q
  | _ :: _ :: _, q => exact False.elim q
  | [d], q =>
    obtain ⟨v, rfl, h1⟩ := hr.one
    obtain ⟨xs, e, q⟩ := q
    obtain ⟨a, vs, rfl, ha, ra⟩ := getS_sq g e h1
    rcases ha with ha | ha
    · exact .inl ⟨a, xs, rfl, by rw [← ra.ints]; exact ha, k.now g q rfl⟩
    · exact .inr ⟨a, xs, rfl, by rw [← ra.ints]; exact ha, k.now g q rfl⟩
def oAny : OC
  | [d], M, R => ∃ bs : List Bool, getL M d = some (bs.map D.bl) ∧ R (.bl (bs.any id)) M
  | _, _, _ => False
theorem lc_any (hc : X.calm = true) : CallR X (.builtin "any") (lC X.K oAny) := CallR.imp (cr_any hc) fun vs H Q ⟨ds, M, R, g, hr, q, k⟩ => by
  match ds, q with
  | [], q => exact False.elim q
  | _ :: _ :: _, q => exact False.elim q
  | [d], q =>
    obtain ⟨v, rfl, h1⟩ := hr.one
    obtain ⟨xs, e, q⟩ := q
    obtain ⟨a, vs, rfl, ha, ra⟩ := (getL_like e).sq g h1
    exact ⟨a, xs, rfl, by rw [← ra.bls]; exact ha, k.now g q rfl⟩
def oAll : OC
  | [d], M, R => ∃ bs : List Bool, getL M d = some (bs.map D.bl) ∧ R (.bl (bs.all id)) M
  | _, _, _ => False
theorem lc_all (hc : X.calm = true) : CallR X (.builtin "all") (lC X.K oAll) := CallR.imp (cr_all hc) fun vs H Q ⟨ds, M, R, g, hr, q, k⟩ => by
  match ds, q with
  | [], q => exact False.elim q
  | _ :: _ :: _, q => exact False.elim q
  | [d], q =>
    obtain ⟨v, rfl, h1⟩ := hr.one
    obtain ⟨xs, e, q⟩ := q
    obtain ⟨a, vs, rfl, ha, ra⟩ := (getL_like e).sq g h1
    exact ⟨a, xs, rfl, by rw [← ra.bls]; exact ha, k.now g q rfl⟩
end
end DL
namespace DL
open PySem PySem.Spec PyProof.Rows L2

/-! ### what a for walks -/
/-- J gives the items, one by one, as long as G holds of the memory -/
def IW (K : PySem.W.Frag) (J : It) (ds : List D) (G : Mem → Prop) (M : Mem) (H : Hp) : Prop :=
  ∀ M' H', Stp M H M' H' → Good K M' H' → G M' → (∀ i, i < ds.length → J.go i H') ∧ J.stop ds.length H' ∧
    ∀ i x H'' d, ds[i]? = some d → J.yld i H' x H'' → Stp M' H' M' H'' ∧ Good K M' H'' ∧ Rep K M' H'' d x
abbrev DI := Gam → Mem → (List D → (Mem → Prop) → Mem → Prop) → Xst → Prop
def lI (K : PySem.W.Frag) (E : L2.St → XK) (w : DI) : TI := fun σ H Rt => ∃ (Γ : Gam) (M : Mem) (R : List D → (Mem → Prop) → Mem → Prop) (XR : Xst), Good K M H ∧ Mat K M H Γ σ ∧ w Γ M R XR ∧
  (∀ ds G M' J H', R ds G M' → Stp M H M' H' → Good K M' H' → IW K J ds G M' H' → Rt J H') ∧ KX K M H XR (E σ)
theorem PI.imp {X : Cx} {tg e : Expr} {t t' : TI} (h : PI X tg e t) (i : ∀ σ H Q, t' σ H Q → t σ H Q) : PI X tg e t' := ⟨fun pins s σ H Q I q => h.run pins s σ H Q I (i σ H Q q)⟩
section
variable {X : Cx} {E : L2.St → XK} {a b c e o tg : Expr} {es : List Expr} {wa wb wc w wo : DE} {wA : DA} {pos : Pos} {u t : DT}
/-- a list or a tuple -/
def iSeq (K : PySem.W.Frag) (tl : TE) : TI := fun σ H R => tl σ H fun x H1 => ∃ a, x = .ref a ∧ (((∃ xs, SqL K H1 a xs) ∧ R (Itl K a) H1) ∨ ((∃ xs, SqT K H1 a xs) ∧ R (Itt K a) H1))
theorem pi_seq {l : Expr} {tl : TE} (hl : PE X l tl) : PI X tg l (iSeq X.K tl) := by
  refine ⟨fun pins s σ H R I h => ?_⟩
  refine thn (hl.run pins s σ H _ I h) fun v s1 ⟨x, H1, I1, r1, q1⟩ => ?_
  obtain ⟨a, e, ⟨⟨xs, hq⟩, q⟩ | ⟨⟨xs, hq⟩, q⟩⟩ := q1
  · subst e
    cases r1
    obtain ⟨its, rv, p, hz⟩ := I1.list hq
    refine wpAny_pyIter_list p.isList ?_
    refine ⟨s1.heap.objs.size, [s1.heap.objs.size], _, _, H1, rfl, I1.kept (t' := s1.toks) fun b o e => Heap.get?_push_of_some _ e, turn_list a _, ⟨_, Heap.get?_push_size _ rfl, rfl, rfl⟩, fun b hb => ?_, q⟩
    have e : b = s1.heap.objs.size := by simpa using hb
    subst e
    exact I1.fpOk (Nat.le_refl _) (I1.hok.fresh (Nat.le_refl _))
  · subst e
    cases r1
    obtain ⟨its, rv, p, hz⟩ := I1.tuple hq
    refine wpAny_pyIter_tuple (show s1.heap.IsTuple a its.toArray from p) ?_
    refine ⟨s1.heap.objs.size, [s1.heap.objs.size], _, _, H1, rfl, I1.kept (t' := s1.toks) fun b o e => Heap.get?_push_of_some _ e, turn_tuple a _, ⟨_, Heap.get?_push_size _ rfl, rfl, rfl⟩, fun b hb => ?_, q⟩
    have e : b = s1.heap.objs.size := by simpa using hb
    subst e
    exact I1.fpOk (Nat.le_refl _) (I1.hok.fresh (Nat.le_refl _))
theorem iw_list {K : PySem.W.Frag} {M : Mem} {H : Hp} {d : D} {a : Addr} {ds : List D} (h : Rep K M H d (.ref a)) (l : getL M d = some ds) : IW K (Itl K a) ds (fun M' => getL M' d = some ds) M H := fun M' H' s g l' => by
  obtain ⟨a', vs, e, ha, ra⟩ := (getL_like l').sq g (h.stp s)
  cases e
  have w := walk_list (K := K) (a := a) (xs := vs)
  rw [ra.len]
  refine ⟨fun i hi => w.goes i H' hi ha, w.stops H' ha, fun i x H'' d' hd y => ?_⟩
  obtain ⟨v, hv, rv⟩ := ra.get hd
  obtain ⟨rfl, hx⟩ := w.yields i H' x H'' (List.getElem?_eq_some_iff.mp hv).1 ha y
  rw [hv] at hx; cases hx
  exact ⟨Stp.refl _ _, g, rv⟩
theorem iw_kt {K : PySem.W.Frag} {M : Mem} {H : Hp} {a : Addr} {ds : List D} (h : Rep K M H (.kt ds) (.ref a)) : IW K (Itt K a) ds (fun _ => True) M H := fun M' H' s g _ => by
  obtain ⟨a', vs, e, ha, ra⟩ := (h.stp s).ktS
  cases e
  have w := walk_tup (K := K) (a := a) (xs := vs)
  rw [ra.len]
  refine ⟨fun i hi => w.goes i H' hi ha, w.stops H' ha, fun i x H'' d' hd y => ?_⟩
  obtain ⟨v, hv, rv⟩ := ra.get hd
  obtain ⟨rfl, hx⟩ := w.yields i H' x H'' (List.getElem?_eq_some_iff.mp hv).1 ha y
  rw [hv] at hx; cases hx
  exact ⟨Stp.refl _ _, g, rv⟩
theorem iw_tup {K : PySem.W.Frag} {M : Mem} {H : Hp} {a : Addr} {ds : List D} (h : Rep K M H (.tup ds) (.ref a)) : IW K (Itt K a) ds (fun _ => True) M H := fun M' H' s g _ => by
  obtain ⟨a', vs, e, ha, ra⟩ := (h.stp s).tupS
  cases e
  have w := walk_tup (K := K) (a := a) (xs := vs)
  rw [ra.len]
  refine ⟨fun i hi => w.goes i H' hi ha, w.stops H' ha, fun i x H'' d' hd y => ?_⟩
  obtain ⟨v, hv, rv⟩ := ra.get hd
  obtain ⟨rfl, hx⟩ := w.yields i H' x H'' (List.getElem?_eq_some_iff.mp hv).1 ha y
  rw [hv] at hx; cases hx
  exact ⟨Stp.refl _ _, g, rv⟩
def iGo (d : D) (R : List D → (Mem → Prop) → Mem → Prop) (M : Mem) : Prop := match d with
  | .tup ds => R ds (fun _ => True) M
  | .kt ds => R ds (fun _ => True) M
  | .lst ds => R ds (fun _ => True) M
  | .sl ds => R ds (fun _ => True) M
  | d => ∃ ds, getL M d = some ds ∧ R ds (fun M' => getL M' d = some ds) M
def dIter (w : DE) : DI := fun Γ M R XR => w Γ M (fun d M1 => iGo d R M1) XR
theorem IW.wk {K : PySem.W.Frag} {J : It} {ds : List D} {G G' : Mem → Prop} {M : Mem} {H : Hp} (w : IW K J ds G M H) (h : ∀ M, G' M → G M) : IW K J ds G' M H := fun M' H' s g q => w M' H' s g (h M' q)
theorem di_seq (he : PE X e (lE X.K E w)) : PI X tg e (lI X.K E (dIter w)) := PI.imp (pi_seq he) fun σ H Rt ⟨Γ, M, R, XR, g, m, q, k, kx⟩ => ⟨Γ, M, _, XR, g, m, q, fun d M1 v H1 q1 s1 g1 r1 => by
  cases d with
  | tup ds =>
    obtain ⟨a, vs, rfl, ha, ra⟩ := r1.tupS
    exact ⟨a, rfl, .inr ⟨⟨_, ha⟩, k _ _ _ _ _ q1 s1 g1 (iw_tup r1)⟩⟩
  | kt ds =>
    obtain ⟨a, vs, rfl, ha, ra⟩ := r1.ktS
    exact ⟨a, rfl, .inr ⟨⟨_, ha⟩, k _ _ _ _ _ q1 s1 g1 (iw_kt r1)⟩⟩
  | lst ds =>
    obtain ⟨a, vs, rfl, ha, ra⟩ := (getL_like (M := M1) (show getL M1 (.lst ds) = some ds from rfl)).sq g1 r1
    exact ⟨a, rfl, .inl ⟨⟨_, ha⟩, k _ _ _ _ _ q1 s1 g1 ((iw_list r1 rfl).wk fun _ _ => rfl)⟩⟩
  | sl ds =>
    obtain ⟨a, vs, rfl, ha, ra⟩ := (getL_like (M := M1) (show getL M1 (.sl ds) = some ds from rfl)).sq g1 r1
    exact ⟨a, rfl, .inl ⟨⟨_, ha⟩, k _ _ _ _ _ q1 s1 g1 ((iw_list r1 rfl).wk fun _ _ => rfl)⟩⟩
  | _ =>
    obtain ⟨ds, e, q1⟩ := q1
    obtain ⟨a, vs, rfl, ha, ra⟩ := (getL_like e).sq g1 r1
    exact ⟨a, rfl, .inl ⟨⟨_, ha⟩, k _ _ _ _ _ q1 s1 g1 (iw_list r1 e)⟩⟩, kx⟩
/-- lo, lo + 1, .. -/
def rgs (lo : Int) (n : Nat) : List D := (List.range n).map fun (i : Nat) => D.int (lo + (i : Int))
theorem rgs_len {lo : Int} {n : Nat} : (rgs lo n).length = n := by simp [rgs]
theorem rgs_get {lo : Int} {n i : Nat} {d : D} (h : (rgs lo n)[i]? = some d) : i < n ∧ d = .int (lo + (i : Int)) := by
  have hi : i < n := by
    have := (List.getElem?_eq_some_iff.mp h).1
    rw [rgs_len] at this; exact this
  simp [rgs, hi] at h
  exact ⟨hi, h.symm⟩
theorem iw_range {K : PySem.W.Frag} {M : Mem} {H : Hp} {lo : Int} {n : Nat} : IW K (Itr lo n) (rgs lo n) (fun _ => True) M H := fun M' H' s g _ => by
  have w := walk_range (lo := lo) (n := n)
  rw [rgs_len]
  refine ⟨fun i hi => w.goes i H' hi trivial, w.stops H' trivial, fun i x H'' d hd y => ?_⟩
  obtain ⟨hi, rfl⟩ := rgs_get hd
  obtain ⟨rfl, rfl⟩ := w.yields i H' x H'' hi trivial y
  exact ⟨Stp.refl _ _, g, rfl⟩
def dRange1 (w : DE) : DI := fun Γ M R XR => w Γ M (fun d M1 => ∃ n, d = .int n ∧ (-(2 ^ 62) ≤ n ∧ n < 2 ^ 62) ∧ R (rgs 0 n.toNat) (fun _ => True) M1) XR
theorem di_range1 {p : Pos} (hg : Gl X "range") (hm : X.mg "range" = none) (ha : PE X a (lE X.K E w)) (hs : starEach [a] X.env = [(false, eval a X.env)] := by rfl) : PI X tg (.Call (.Name "range" p) [a] [] pos) (lI X.K E (dRange1 w)) :=
  PI.imp (pi_range1 hg hm (pa_cons ha pa_nil (by rw [hs]; rfl)) hs) fun σ H Rt ⟨Γ, M, R, XR, g, m, q, k, kx⟩ => ⟨Γ, M, _, XR, g, m, q, fun d M1 v H1 ⟨n, e, q0, q1⟩ s1 g1 r1 => by
    subst e
    have r1 : v = .int n := r1
    subst r1
    exact ⟨n, rfl, q0.1, q0.2, k _ _ _ _ _ q1 s1 g1 iw_range⟩, kx⟩
def dRange2 (wa wb : DE) : DI := fun Γ M R XR => wa Γ M (fun d M1 => wb Γ M1 (fun e M2 => ∃ lo hi, d = .int lo ∧ e = .int hi ∧ (-(2 ^ 62) ≤ lo ∧ lo < 2 ^ 62 ∧ -(2 ^ 62) ≤ hi ∧ hi < 2 ^ 62) ∧ R (rgs lo (hi - lo).toNat) (fun _ => True) M2) XR) XR
theorem di_range2 {p : Pos} (hg : Gl X "range") (hm : X.mg "range" = none) (ha : PE X a (lE X.K E wa)) (hb : PE X b (lE X.K E wb)) (hs : starEach [a, b] X.env = [(false, eval a X.env), (false, eval b X.env)] := by rfl) (hs2 : starEach [b] X.env = [(false, eval b X.env)] := by rfl) :
    PI X tg (.Call (.Name "range" p) [a, b] [] pos) (lI X.K E (dRange2 wa wb)) :=
  PI.imp (pi_range2 hg hm (pa_cons ha (pa_cons hb pa_nil hs2) (by rw [hs, hs2])) hs hs2) fun σ H Rt ⟨Γ, M, R, XR, g, m, q, k, kx⟩ => ⟨Γ, M, _, XR, g, m, q, fun d M1 v H1 q1 s1 g1 r1 =>
    ⟨Γ, M1, _, XR, g1, m.stp s1, q1, fun e M2 u H2 ⟨lo, hi, e1, e2, q0, q2⟩ s2 g2 r2 => by
      subst e1 e2
      have r1 : v = .int lo := r1
      have r2 : u = .int hi := r2
      subst r1 r2
      exact ⟨lo, hi, rfl, q0, k _ _ _ _ _ q2 (s1.trans s2) g2 iw_range⟩, kx.step s1⟩, kx⟩

/-! ### targets -/
abbrev DG := D → Gam → Mem → (Gam → Mem → Prop) → Prop
abbrev DGs := List D → Gam → Mem → (Gam → Mem → Prop) → Prop
def lG (K : PySem.W.Frag) (vs : List Nat) (w : DG) : TG := fun v σ H Q => ∃ (d : D) (Γ : Gam) (M : Mem) (R : Gam → Mem → Prop), Good K M H ∧ Mat K M H Γ σ ∧ Rep K M H d v ∧ w d Γ M R ∧
  ∀ Γ' M' σ' H', R Γ' M' → Stp M H M' H' → Good K M' H' → Mat K M' H' Γ' σ' → wipe σ' vs = wipe σ vs → Q σ' H'
def lGs (K : PySem.W.Frag) (vs : List Nat) (w : DGs) : TGs := fun us σ H Q => ∃ (ds : List D) (Γ : Gam) (M : Mem) (R : Gam → Mem → Prop), Good K M H ∧ Mat K M H Γ σ ∧ Reps K M H ds us ∧ w ds Γ M R ∧
  ∀ Γ' M' σ' H', R Γ' M' → Stp M H M' H' → Good K M' H' → Mat K M' H' Γ' σ' → wipe σ' vs = wipe σ vs → Q σ' H'
theorem PG.imp {X : Cx} {e : Expr} {t t' : TG} (h : PG X e t) (i : ∀ v σ H Q, t' v σ H Q → t v σ H Q) : PG X e t' := ⟨fun pins s σ H v u Q I r q => h.run pins s σ H v u Q I r (i v σ H Q q)⟩
theorem PGs.imp {X : Cx} {e : List Expr} {t t' : TGs} (h : PGs X e t) (i : ∀ v σ H Q, t' v σ H Q → t v σ H Q) : PGs X e t' := ⟨fun pins s σ H v u Q I r q => h.run pins s σ H v u Q I r (i v σ H Q q)⟩
theorem PG.or {X : Cx} {e : Expr} {t t' : TG} (h : PG X e t) (h' : PG X e t') : PG X e (fun v σ H Q => t v σ H Q ∨ t' v σ H Q) := ⟨fun pins s σ H v u Q I r q => q.elim (h.run pins s σ H v u Q I r) (h'.run pins s σ H v u Q I r)⟩
theorem wipe_len (σ : L2.St) (vs : List Nat) : (wipe σ vs).length = σ.length := wipe_length σ vs
theorem wipe_get (σ : L2.St) (i : Nat) : ∀ vs : List Nat, (wipe σ vs)[i]? = if i ∈ vs then (if i < σ.length then some none else none) else σ[i]?
  | [] => by simp [wipe]
  | v :: vs => by
    unfold wipe
    rw [List.getElem?_set]
    by_cases e : v = i
    · subst e
      simp [wipe_length]
    · simp only [e, if_false]
      rw [wipe_get σ i vs]
      have : (i ∈ v :: vs) ↔ i ∈ vs := by simp [List.mem_cons, Ne.symm e]
      simp only [this]
theorem wipe_set {σ : L2.St} {i : Nat} {x : Option V} {vs : List Nat} (h : i ∈ vs) : wipe (σ.set i x) vs = wipe σ vs := by
  apply List.ext_getElem?
  intro j
  rw [wipe_get, wipe_get]
  by_cases e : j ∈ vs
  · simp [e]
  · simp only [e, if_false]
    rw [List.getElem?_set_ne (fun z => e (by rw [← z]; exact h))]
theorem wipe_wipe (σ : L2.St) (vs : List Nat) : wipe (wipe σ vs) vs = wipe σ vs := by
  apply List.ext_getElem?
  intro j
  rw [wipe_get, wipe_get]
  by_cases e : j ∈ vs <;> simp [e, wipe_length]
def gWipe (Γ : Gam) : List Nat → Gam
  | [] => Γ
  | v :: vs => (gWipe Γ vs).set v none
theorem Mat.wipe {K : PySem.W.Frag} {M : Mem} {H : Hp} {Γ : Gam} {σ : L2.St} (m : Mat K M H Γ σ) : ∀ vs, Mat K M H (gWipe Γ vs) (L2.wipe σ vs)
  | [] => m
  | v :: vs => (m.wipe vs).unset v none
def dgName (i : Nat) : DG := fun d Γ M R => R (Γ.set i (some d)) M
theorem dg_name {i : Nat} {vs : List Nat} {x : Str} (hN : X.N.Nodup) (hi : X.N[i]? = some x) (hx : Loc X.env.scope x) (hv : i ∈ vs := by decide) (hf : X.fn x = true ∨ X.env.scope.names.lookup x = some .local := by first | exact .inl rfl | exact .inr rfl | assumption) : PG X (.Name x pos) (lG X.K vs (dgName i)) :=
  PG.imp (pg_name hN hi hx hf) fun v σ H Q ⟨d, Γ, M, R, g, m, r, q, k⟩ => k _ M _ H q (Stp.refl M H) g (m.set r i) (wipe_set hv)
def dgNil : DGs := fun ds Γ M R => ds = [] ∧ R Γ M
def dgCons (w : DG) (ws : DGs) : DGs := fun ds Γ M R => ∃ d r, ds = d :: r ∧ w d Γ M fun Γ' M' => ws r Γ' M' R
theorem dgs_nil {vs : List Nat} : PGs X [] (lGs X.K vs dgNil) := PGs.imp pgs_nil fun v σ H Q ⟨ds, Γ, M, R, g, m, r, ⟨e, q⟩, k⟩ => by
  subst e
  exact ⟨r, k _ M _ H q (Stp.refl M H) g m rfl⟩
theorem dgs_cons {vs : List Nat} {w : DG} {ws : DGs} (h1 : PG X e (lG X.K vs w)) (h2 : PGs X es (lGs X.K vs ws)) (hs : (assignEach (e :: es) X.env).map (·.2) = assign e X.env :: (assignEach es X.env).map (·.2) := by rfl) : PGs X (e :: es) (lGs X.K vs (dgCons w ws)) :=
  PGs.imp (pgs_cons h1 h2 hs) fun us σ H Q ⟨ds, Γ, M, R, g, m, r, ⟨d, t, e, q⟩, k⟩ => by
    subst e
    obtain ⟨v, vr, rfl, r1, r2⟩ := r
    exact ⟨v, vr, rfl, d, Γ, M, _, g, m, r1, q, fun Γ1 M1 σ1 H1 q1 s1 g1 m1 e1 => ⟨t, Γ1, M1, R, g1, m1, r2.stp s1, q1, fun Γ2 M2 σ2 H2 q2 s2 g2 m2 e2 => k _ _ _ _ q2 (s1.trans s2) g2 m2 (e2.trans e1)⟩⟩
/-- several targets, of a tuple or a list -/
def dgTup (n : Nat) (ws : DGs) : DG := fun d Γ M R => ∃ ds, getS M d = some ds ∧ ds.length = n ∧ ws ds Γ M R
theorem dg_tup {vs : List Nat} {k : Nat} {ws : DGs} {n : Nat} (hc : X.calm = true) (h : PGs X es (lGs X.K vs ws)) (hn : (assignEach es X.env).length = n := by rfl) (hst : (assignEach es X.env).findIdx? (·.1) = none := by rfl) : PG X (.Tuple es k pos) (lG X.K vs (dgTup n ws)) :=
  PG.imp (PG.or (pg_tup hc h hn hst) (pg_lst hc h hn hst)) fun v σ H Q ⟨d, Γ, M, R, g, m, r, ⟨ds, e, hl, q⟩, k⟩ => by
    rcases getS_cases e with e | e | e
    · subst e
      obtain ⟨a, us, rfl, ha, ra⟩ := r.tupS
      exact .inl ⟨a, us, rfl, ha, by rw [← ra.len]; exact hl, ds, Γ, M, R, g, m, ra, q, k⟩
    · subst e
      obtain ⟨a, us, rfl, ha, ra⟩ := r.ktS
      exact .inl ⟨a, us, rfl, ha, by rw [← ra.len]; exact hl, ds, Γ, M, R, g, m, ra, q, k⟩
    · obtain ⟨a, us, rfl, ha, ra⟩ := (getL_like e).sq g r
      exact .inr ⟨a, us, rfl, ha, by rw [← ra.len]; exact hl, ds, Γ, M, R, g, m, ra, q, k⟩
/-- o[i] = .. of a list that changes -/
def dgSub (wo wi : DE) : DG := fun d Γ M R => wo Γ M (fun x M1 => wi Γ M1 (fun y M2 => ∃ p ds i j, x = .loc p ∧ y = .int i ∧ M2 p = some (.lst ds) ∧ ixN ds.length i = some j ∧ R Γ (mup M2 p (.lst (ds.set j d)))) X0) X0
theorem dg_sub {vs : List Nat} (ho : PE X o (lE X.K (fun _ _ _ _ => False) wo)) (hi : PE X a (lE X.K (fun _ _ _ _ => False) wa)) (ha : ∀ v, assign (.Subscript o a pos) X.env v = (do
      let ov ← holding [v] (eval o X.env)
      let iv ← holding [v, ov] (eval a X.env)
      standAt pos
      holding [v, ov, iv] (setItem ov iv v)
      release [v, ov, iv] []) := by intro _; rfl) : PG X (.Subscript o a pos) (lG X.K vs (dgSub wo wa)) :=
  PG.imp (pg_sub ho hi set_list ha) fun v σ H Q ⟨d, Γ, M, R, g, m, r, q, k⟩ => ⟨Γ, M, _, X0, g, m, q, fun x M1 vx H1 q1 s1 g1 r1 => ⟨Γ, M1, _, X0, g1, m.stp s1, q1, fun y M2 vy H2 q2 s2 g2 r2 => by
    obtain ⟨p, ds, i, j, rfl, rfl, hp, hj, q2⟩ := q2
    have r1 : vx = .ref p := r1
    have r2 : vy = .int i := r2
    subst r1 r2
    obtain ⟨us, hH, ru⟩ := g2 _ _ hp
    have s : Stp M H (mup M2 p (.lst (ds.set j d))) (upd H2 p (.lst (us.set j v))) := (s1.trans s2).trans (stp_put hp)
    exact ⟨p, us, i, j, rfl, rfl, hH, by rw [← ru.len]; exact hj, k _ _ _ _ q2 s (good_put g2 hp ⟨_, upd_same, (ru.stp (stp_put hp)).set (r.stp s) j⟩) (m.stp s) rfl⟩, KX0⟩, KX0⟩

/-! ### statements -/
variable {st : Stmt} {sts body orelse : List Stmt} {s1 s2 wS wT : DS}
def dNext : DS := fun DD Γ M => DD.nx Γ M
def dSeq (a b : DS) : DS := fun DD Γ M => a { DD with nx := fun Γ' M' => b DD Γ' M' } Γ M
theorem KD.nxt {K : PySem.W.Frag} {M : Mem} {H : Hp} {DD : DEnds} {D : Ends} (k : KD K M H DD D E) {σ : L2.St} {Γ : Gam} (g : Good K M H) (m : Mat K M H Γ σ) (h : DD.nx Γ M) : D.nx σ H := k.nx _ _ _ _ h (Stp.refl M H) g m
theorem dss_nil : PSs X [] (lS X.K E dNext) := PSs.imp pss_nil fun D σ H ⟨Γ, M, DD, g, m, q, k⟩ => k.nxt g m q
theorem dss_cons (h1 : PS X st (lS X.K E s1)) (h2 : PSs X sts (lS X.K E s2)) : PSs X (st :: sts) (lS X.K E (dSeq s1 s2)) := PSs.imp (pss_cons h1 h2) fun D σ H ⟨Γ, M, DD, g, m, q, k⟩ =>
  ⟨Γ, M, _, g, m, q, ⟨fun Γ1 M1 σ1 H1 q1 t1 g1 m1 => ⟨Γ1, M1, DD, g1, m1, q1, k.step t1⟩, k.rt, k.bk, k.ct, k.xr⟩⟩
theorem dss_one (h1 : PS X st (lS X.K E s1)) : PSs X [st] (lS X.K E s1) := pss_one h1
theorem ds_pass : PS X (.Pass pos) (lS X.K E dNext) := PS.imp ps_pass fun D σ H ⟨Γ, M, DD, g, m, q, k⟩ => k.nxt g m q
def dBreak : DS := fun DD Γ M => DD.bk Γ M
def dCont : DS := fun DD Γ M => DD.ct Γ M
theorem ds_break : PS X (.Break pos) (lS X.K E dBreak) := PS.imp ps_break fun D σ H ⟨Γ, M, DD, g, m, q, k⟩ => k.bk _ _ _ _ q (Stp.refl M H) g m
theorem ds_cont : PS X (.Continue pos) (lS X.K E dCont) := PS.imp ps_continue fun D σ H ⟨Γ, M, DD, g, m, q, k⟩ => k.ct _ _ _ _ q (Stp.refl M H) g m
theorem ds_doc {x j pos pos'} : PS X (.Expr (.Constant (.str x) j pos) pos') (lS X.K E dNext) := PS.imp ps_doc fun D σ H ⟨Γ, M, DD, g, m, q, k⟩ => k.nxt g m q
def dNever : DS := fun _ _ _ => False
theorem ds_never : PS X st (lS X.K E dNever) := PS.imp ps_never fun D σ H ⟨Γ, M, DD, g, m, q, k⟩ => q
theorem dss_never : PSs X sts (lS X.K E dNever) := PSs.imp pss_never fun D σ H ⟨Γ, M, DD, g, m, q, k⟩ => q
def dDrop (w : DE) : DS := fun DD Γ M => w Γ M (fun _ M1 => DD.nx Γ M1) fun e M1 => DD.xr e Γ M1
theorem ds_expr (he : PE X e (lE X.K E w)) (hs : swapsWith e none pos.line X.env = pure false := by rfl) : PS X (.Expr e pos) (lS X.K E (dDrop w)) := PS.imp (ps_expr he hs) fun D σ H ⟨Γ, M, DD, g, m, q, k⟩ =>
  ⟨Γ, M, _, _, g, m, q, fun d M1 v H1 q1 t1 g1 r1 => k.nx _ _ _ _ q1 t1 g1 (m.stp t1), k.kx m⟩
def dRet (w : DE) : DS := fun DD Γ M => w Γ M DD.rt fun e M1 => DD.xr e Γ M1
theorem ds_ret (he : PE X e (lE X.K E w)) : PS X (.Return (some e) pos) (lS X.K E (dRet w)) := PS.imp (ps_ret he) fun D σ H ⟨Γ, M, DD, g, m, q, k⟩ => ⟨Γ, M, _, _, g, m, q, k.rt, k.kx m⟩
def dRetN : DS := fun DD _ M => DD.rt .non M
theorem ds_retN : PS X (.Return none pos) (lS X.K E dRetN) := PS.imp ps_retN fun D σ H ⟨Γ, M, DD, g, m, q, k⟩ => k.rt.now g q rfl
def dIfS (t : DT) (s1 s2 : DS) : DS := fun DD Γ M => t Γ M (fun b M1 => if b = true then s1 DD Γ M1 else s2 DD Γ M1) fun e M1 => DD.xr e Γ M1
theorem ds_if (hc : PT X c (lT X.K E t)) (ha : PSs X body (lS X.K E s1)) (hb : PSs X orelse (lS X.K E s2)) : PS X (.If c body orelse pos) (lS X.K E (dIfS t s1 s2)) := PS.imp (ps_if hc ha hb) fun D σ H ⟨Γ, M, DD, g, m, q, k⟩ =>
  ⟨Γ, M, _, _, g, m, q, fun b M1 H1 q1 t1 g1 => by
    cases b with
    | true => exact ⟨Γ, M1, DD, g1, m.stp t1, q1, k.step t1⟩
    | false => exact ⟨Γ, M1, DD, g1, m.stp t1, q1, k.step t1⟩, k.kx m⟩
def dAsg (w : DE) (g : DG) : DS := fun DD Γ M => w Γ M (fun d M1 => g d Γ M1 DD.nx) fun e M1 => DD.xr e Γ M1
theorem asg_imp {vs : List Nat} {gg : DG} {D : Ends} {σ : L2.St} {H : Hp} (h : lS X.K E (dAsg w gg) D σ H) : tAsg (lE X.K E w) (lG X.K vs gg) D σ H := by
  obtain ⟨Γ, M, DD, g, m, q, k⟩ := h
  exact ⟨Γ, M, _, _, g, m, q, fun d M1 v H1 q1 t1 g1 r1 => ⟨d, Γ, M1, DD.nx, g1, m.stp t1, r1, q1, fun Γ2 M2 σ2 H2 q2 t2 g2 m2 _ => k.nx _ _ _ _ q2 (t1.trans t2) g2 m2⟩, k.kx m⟩
theorem ds_asg {vs : List Nat} {gg : DG} (he : PE X e (lE X.K E w)) (hg : PG X tg (lG X.K vs gg)) (hs : swapsWithSole [tg] e pos.line X.env = pure false := by rfl) (hw : swappedStores [tg] e X.env = pure none := by rfl)
    (h1 : (assignEach [tg] X.env).map (·.2) = [assign tg X.env] := by rfl) : PS X (.Assign [tg] e pos) (lS X.K E (dAsg w gg)) := PS.imp (ps_asg he hg hs hw h1) fun _ _ _ => asg_imp
def dSet (i : Nat) (w : DE) : DS := fun DD Γ M => w Γ M (fun d M1 => DD.nx (Γ.set i (some d)) M1) fun e M1 => DD.xr e Γ M1
theorem ds_set {i : Nat} {x : Str} {pos' : Pos} (hN : X.N.Nodup) (hi : X.N[i]? = some x) (hx : Loc X.env.scope x) (he : PE X e (lE X.K E w)) (hs : swapsWith e (some (.Name x pos')) pos.line X.env = pure false := by rfl) (hf : X.fn x = true ∨ X.env.scope.names.lookup x = some .local := by first | exact .inl rfl | exact .inr rfl | assumption) :
    PS X (.Assign [.Name x pos'] e pos) (lS X.K E (dSet i w)) := PS.imp (ps_set hN hi hx he hs hf) fun D σ H ⟨Γ, M, DD, g, m, q, k⟩ => ⟨Γ, M, _, _, g, m, q, fun d M1 v H1 q1 t1 g1 r1 => k.nx _ _ _ _ q1 t1 g1 ((m.stp t1).set r1 i), k.kx m⟩
/-- a, b = x, y of plain local names -/
def dPar (i j : Nat) (wA : DA) : DS := fun DD Γ M => wA Γ M (fun ds M1 => ∃ d f, ds = [d, f] ∧ DD.nx ((Γ.set i (some d)).set j (some f)) M1) fun e M1 => DD.xr e Γ M1
theorem ds_par {i j : Nat} {x y : Str} {px py pt : Pos} {kt k2 pt2} (hc : X.calm = true) (hN : X.N.Nodup) (hi : X.N[i]? = some x) (hj : X.N[j]? = some y) (hij : i ≠ j)
    (hx : X.env.scope.names.lookup x = some .local) (hy : X.env.scope.names.lookup y = some .local) (ha : PA X [a, b] (lA X.K E wA))
    (hw : swappedStores [.Tuple [.Name x px, .Name y py] kt pt] (.Tuple [a, b] k2 pt2) X.env = pure (some [x, y]))
    (hs : swapsWithSole [.Tuple [.Name x px, .Name y py] kt pt] (.Tuple [a, b] k2 pt2) pos.line X.env = pure false := by rfl) :
    PS X (.Assign [.Tuple [.Name x px, .Name y py] kt pt] (.Tuple [a, b] k2 pt2) pos) (lS X.K E (dPar i j wA)) := PS.imp (ps_par hc hN hi hj hij hx hy ha hw hs) fun D σ H ⟨Γ, M, DD, g, m, q, k⟩ =>
  ⟨Γ, M, _, _, g, m, q, fun ds M1 vs H1 ⟨d, f, e, q1⟩ t1 g1 r1 => by
    subst e
    obtain ⟨v, u, rfl, h1, h2⟩ := r1.two
    exact ⟨v, u, rfl, k.nx _ _ _ _ q1 t1 g1 (((m.stp t1).set h1 i).set h2 j)⟩, k.kx m⟩
/-! x op= e -/
def dAug (i : Nat) (w : DE) (r : O2) : DS := fun DD Γ M => ∃ x, Γ[i]? = some (some x) ∧ w Γ M (fun d M1 => r x d M1 fun z M2 => DD.nx (Γ.set i (some z)) M2) fun e M1 => DD.xr e Γ M1
theorem ds_aug {i : Nat} {x : Str} {op : Operator} {r : O2} {pos' : Pos} (hN : X.N.Nodup) (hi : X.N[i]? = some x) (hx : Loc X.env.scope x) (he : PE X e (lE X.K E w)) (ho : OpR X (inplaceOp op) (lO X.K r)) (hf : X.fn x = true ∨ X.env.scope.names.lookup x = some .local := by first | exact .inl rfl | exact .inr rfl | assumption) :
    PS X (.AugAssign (.Name x pos') op e pos) (lS X.K E (dAug i w r)) := PS.imp (ps_aug hN hi hx he ho hf) fun D σ H ⟨Γ, M, DD, g, m, ⟨x, hx, q⟩, k⟩ => by
  obtain ⟨vx, hv, rx⟩ := m.get hx
  exact ⟨vx, hv, Γ, M, _, _, g, m, q, fun d M1 v H1 q1 t1 g1 r1 => ⟨x, d, M1, _, g1, rx.stp t1, r1, q1, fun z M2 vz H2 q2 t2 g2 r2 => k.nx _ _ _ _ q2 (t1.trans t2) g2 ((m.stp (t1.trans t2)).set r2 i)⟩, k.kx m⟩
/-- += -/
def oIAdd : O2
  | .int i, .int j, M, R => R (.int (i + j)) M
  | .str x, .str y, M, R => x.length + y.length ≤ sizeLine ∧ R (.str (x ++ y)) M
  | .loc p, y, M, R => ∃ xs ys, M p = some (.lst xs) ∧ getO M y = some ys ∧ xs.length + ys.length ≤ sizeLine ∧ R (.loc p) (mup M p (.lst (xs ++ ys)))
  | _, _, _, _ => False
theorem li_add : OpR X (inplaceOp .Add) (lO X.K oIAdd) := OpR.imp (iop_add.or (iop_add_str.or iop_ext)) fun vx vy H Q ⟨x, y, M, R, g, hx, hy, r, k⟩ => by
  cases x with
  | loc p =>
    obtain ⟨xs, ys, hp, e, hl, q⟩ := r
    have hx : vx = .ref p := hx
    subst hx
    obtain ⟨us, hH, ru⟩ := g _ _ hp
    obtain ⟨b, ws, rfl, hb, rb⟩ := (getO_own e).at g hy
    exact .inr (.inr ⟨p, b, us, ws, rfl, rfl, hH, hb, by rw [← ru.len, ← rb.len]; exact hl, k _ _ _ _ q (stp_put hp) (good_put g hp ⟨_, upd_same, (ru.append rb).stp (stp_put hp)⟩) rfl⟩)
  | int i =>
    cases y with
    | int j => exact .inl ⟨_, _, hx, hy, k.now g r rfl⟩
    | _ => exact False.elim r
  | str x =>
    cases y with
    | str y => exact .inr (.inl ⟨_, _, hx, hy, r.1, k.now g r.2 rfl⟩)
    | _ => exact False.elim r
  | _ => cases y <;> exact False.elim r
theorem li_sub : OpR X (inplaceOp .Sub) (lO X.K oSub) := lo_int iop_sub fun _ _ _ _ => rfl
theorem li_mul : OpR X (inplaceOp .Mult) (lO X.K oMul) := lo_intC iop_mul fun _ _ _ _ => rfl
/-! ### loops -/
def forGo (gg : DG) (b : DS) (G : Mem → Prop) (DD : DEnds) : List D → Gam → Mem → Prop
  | [], Γ, M => G M ∧ DD.nx Γ M
  | d :: ds, Γ, M => G M ∧ gg d Γ M fun Γ1 M1 => b { DD with nx := forGo gg b G DD ds, ct := forGo gg b G DD ds, bk := DD.nx } Γ1 M1
def dFor (wi : DI) (gg : DG) (b : DS) : DS := fun DD Γ M => wi Γ M (fun ds G M1 => forGo gg b G DD ds Γ M1) fun e M1 => DD.xr e Γ M1
theorem forGo_G {gg : DG} {b : DS} {G : Mem → Prop} {DD : DEnds} {ds : List D} {Γ : Gam} {M : Mem} (h : forGo gg b G DD ds Γ M) : G M := by
  cases ds with
  | nil => exact h.1
  | cons d ds => exact h.1
theorem ds_for {iter : Expr} {wi : DI} {gg : DG} {vs : List Nat} {bb : DS} (hp : PassesOwn (model X.prog X.w) X.A X.env X.xe) (hc : X.calm = true) (hi : PI X tg iter (lI X.K E wi)) (hg : PG X tg (lG X.K vs gg)) (hb : PSs X body (lS X.K E bb))
    (hs : ∀ x, foldedSetIterable iter X.env x = pure x := by intro _; rfl) : PS X (.For tg iter body [] pos) (lS X.K E (dFor wi gg bb)) := PS.imp (ps_for hp hc hi hg hb hs) fun D σ H ⟨Γ, M, DD, g, m, q, k⟩ => by
  refine ⟨Γ, M, _, _, g, m, q, fun ds G M1 J H1 q1 t1 g1 w => ?_, k.kx m⟩
  refine ⟨fun i n σ' H' => n = ds.length - i ∧ i ≤ ds.length ∧ ∃ Γ' M', Good X.K M' H' ∧ Mat X.K M' H' Γ' σ' ∧ Stp M1 H1 M' H' ∧ forGo gg bb G DD (ds.drop i) Γ' M', ⟨ds.length, by simp, Nat.zero_le _, Γ, M1, g1, m.stp t1, Stp.refl _ _, q1⟩, ?_⟩
  rintro i n σ' H' ⟨rfl, hi, Γ', M', g2, m2, t2, q2⟩
  obtain ⟨w1, w2, w3⟩ := w M' H' t2 g2 (forGo_G q2)
  by_cases hl : i < ds.length
  · refine .inr ⟨w1 i hl, fun σ'' H'' => ∃ Γ'' M'', Good X.K M'' H'' ∧ Mat X.K M'' H'' Γ'' σ'' ∧ Stp M1 H1 M'' H'' ∧ forGo gg bb G DD (ds.drop (i + 1)) Γ'' M'', fun σ'' H'' hn => ⟨ds.length - (i + 1), by omega, rfl, hl, hn⟩, fun x H'' y => ?_⟩
    obtain ⟨t3, g3, r3⟩ := w3 i x H'' ds[i] (List.getElem?_eq_getElem hl) y
    rw [List.drop_eq_getElem_cons hl] at q2
    refine ⟨ds[i], Γ', M', _, g3, m2.stp t3, r3, q2.2, fun Γ4 M4 σ4 H4 q4 t4 g4 m4 _ => ?_⟩
    refine ⟨Γ4, M4, _, g4, m4, q4, ?_⟩
    have tt := t1.trans (t2.trans (t3.trans t4))
    have kk := k.step tt
    exact ⟨fun Γ5 M5 σ5 H5 q5 t5 g5 m5 => ⟨Γ5, M5, g5, m5, t2.trans (t3.trans (t4.trans t5)), q5⟩, kk.rt, fun Γ5 M5 σ5 H5 q5 t5 g5 m5 => kk.nx _ _ _ _ q5 t5 g5 m5, fun Γ5 M5 σ5 H5 q5 t5 g5 m5 => ⟨Γ5, M5, g5, m5, t2.trans (t3.trans (t4.trans t5)), q5⟩, kk.xr⟩
  · have e : i = ds.length := by omega
    subst e
    rw [List.drop_length] at q2
    exact .inl ⟨w2, k.nx _ _ _ _ q2.2 (t1.trans t2) g2 m2⟩
def dWhile (t : DT) (b : DS) : DS := fun DD Γ M => ∃ W : Nat → Gam → Mem → Prop, (∃ n, W n Γ M) ∧ ∀ n Γ M, W n Γ M → t Γ M (fun c M1 => if c = true then b { DD with nx := fun Γ' M' => ∃ n', n' < n ∧ W n' Γ' M', ct := fun Γ' M' => ∃ n', n' < n ∧ W n' Γ' M', bk := DD.nx } Γ M1 else DD.nx Γ M1) fun e M1 => DD.xr e Γ M1
theorem ds_while {bb : DS} (hp : PassesOwn (model X.prog X.w) X.A X.env X.xe) (hc : PT X c (lT X.K E t)) (hb : PSs X body (lS X.K E bb)) : PS X (.While c body [] pos) (lS X.K E (dWhile t bb)) := PS.imp (ps_while hp hc hb) fun D σ H ⟨Γ, M, DD, g, m, ⟨W, ⟨n, hn⟩, hW⟩, k⟩ => by
  refine ⟨fun n σ' H' => ∃ Γ' M', Good X.K M' H' ∧ Mat X.K M' H' Γ' σ' ∧ Stp M H M' H' ∧ W n Γ' M', ⟨n, Γ, M, g, m, Stp.refl _ _, hn⟩, ?_⟩
  rintro n σ' H' ⟨Γ', M', g2, m2, t2, w2⟩
  refine ⟨Γ', M', _, _, g2, m2, hW n Γ' M' w2, fun c M1 H1 q1 t1 g1 => ?_, (k.step t2).kx m2⟩
  cases c with
  | true =>
    refine ⟨fun σ'' H'' => ∃ n', n' < n ∧ ∃ Γ'' M'', Good X.K M'' H'' ∧ Mat X.K M'' H'' Γ'' σ'' ∧ Stp M H M'' H'' ∧ W n' Γ'' M'', fun σ'' H'' ⟨n', hn', h⟩ => ⟨n', hn', h⟩, ?_⟩
    have kk := k.step (t2.trans t1)
    exact ⟨Γ', M1, _, g1, m2.stp t1, q1, ⟨fun Γ5 M5 σ5 H5 ⟨n', hn', q5⟩ t5 g5 m5 => ⟨n', hn', Γ5, M5, g5, m5, t2.trans (t1.trans t5), q5⟩, kk.rt, fun Γ5 M5 σ5 H5 q5 t5 g5 m5 => kk.nx _ _ _ _ q5 t5 g5 m5, fun Γ5 M5 σ5 H5 ⟨n', hn', q5⟩ t5 g5 m5 => ⟨n', hn', Γ5, M5, g5, m5, t2.trans (t1.trans t5), q5⟩, kk.xr⟩⟩
  | false => exact k.nx _ _ _ _ q1 (t2.trans t1) g1 (m2.stp t1)
end
end DL
namespace DL
open PySem PySem.Spec PyProof.Rows L2

section
variable {X : Cx} {E : L2.St → XK} {a b c e o tg : Expr} {es : List Expr} {wa wb wc w wo : DE} {wA : DA} {pos : Pos} {u t : DT}

/-! ### comprehensions -/
def dYes : DT := fun _ M R _ => R true M
theorem PTs.imp {X : Cx} {e : List Expr} {t t' : TT} (h : PTs X e t) (i : ∀ σ H Q, t' σ H Q → t σ H Q) : PTs X e t' := by
  constructor
  intros
  apply h.run <;> first | assumption | (apply i; assumption)
theorem dts_nil : PTs X [] (lT X.K E dYes) := PTs.imp pts_nil fun σ H Q ⟨Γ, M, R, XR, g, m, q, k, kx⟩ => k _ _ _ q (Stp.refl M H) g
theorem dts_one (h : PT X c (lT X.K E t)) : PTs X [c] (lT X.K E t) := pts_one h
/-- the list at D grows, item by item; F behind -/
def lcGo (gg : DG) (tt : DT) (te : DE) (G : Mem → Prop) (Γw : Gam) (A : Addr) (F : Mem → Prop) : List D → Mem → Prop
  | [], M => G M ∧ F M
  | d :: ds, M => G M ∧ gg d Γw M fun Γ1 M1 => tt Γ1 M1 (fun b M2 => if b = true then te Γ1 M2 (fun x M3 => ∃ acc, M3 A = some (.lst acc) ∧ acc.length < sizeLine ∧ lcGo gg tt te G Γw A F ds (mup M3 A (.lst (acc ++ [x])))) X0 else lcGo gg tt te G Γw A F ds M2) X0
def lcF (R : Pst) (A : Addr) (M : Mem) : Prop := ∃ acc, M A = some (.lst acc) ∧ R (.lst acc) (mdel M A)
def dLc (wi : DI) (gg : DG) (tt : DT) (te : DE) (vs : List Nat) : DE := fun Γ M R XR => wi Γ M (fun ds G M1 => ∀ A, M1 A = none → lcGo gg tt te G (gWipe Γ vs) A (lcF R A) ds (mup M1 A (.lst []))) XR
/-- a list that is to change -/
def dLcM (wi : DI) (gg : DG) (tt : DT) (te : DE) (vs : List Nat) : DE := fun Γ M R XR => wi Γ M (fun ds G M1 => ∀ A, M1 A = none → lcGo gg tt te G (gWipe Γ vs) A (fun M2 => R (.loc A) M2) ds (mup M1 A (.lst []))) XR
theorem lcGo_G {gg : DG} {tt : DT} {te : DE} {G : Mem → Prop} {Γ : Gam} {A : Addr} {F : Mem → Prop} {ds : List D} {M : Mem} (h : lcGo gg tt te G Γ A F ds M) : G M := by
  cases ds with
  | nil => exact h.1
  | cons d ds => exact h.1
/-- one walk of items, each put to the list at A -/
theorem lc_walk {K : PySem.W.Frag} {E : L2.St → XK} {gg : DG} {tt : DT} {te : DE} {vs : List Nat} {G : Mem → Prop} {Γ : Gam} {A : Addr} {F : Mem → Prop} {ds : List D} {M1 : Mem} {H1 : Hp} {J : It} {σ : L2.St} {Qd : Hp → Prop}
    (w : IW K J ds G M1 H1) (g : Good K M1 H1) (m : Mat K M1 H1 (gWipe Γ vs) (wipe σ vs)) (q : lcGo gg tt te G (gWipe Γ vs) A F ds M1)
    (hd : ∀ M' H', F M' → Stp M1 H1 M' H' → Good K M' H' → Qd H') :
    ∃ W : Nat → Nat → Hp → Prop, (∃ n, W 0 n H1) ∧ ∀ i n H, W i n H →
      (J.stop i H ∧ Qd H) ∨ (J.go i H ∧ ∃ Nx : Hp → Prop, (∀ H', Nx H' → ∃ m', m' < n ∧ W (i + 1) m' H') ∧ ∀ x H', J.yld i H x H' → lG K vs gg x (wipe σ vs) H' fun σ2 H2 => wipe σ2 vs = wipe σ vs ∧ lT K E tt σ2 H2 fun b H3 =>
        if b = true then lE K E te σ2 H3 fun y H4 => ∃ acc, H4 A = some (.lst acc) ∧ acc.length < sizeLine ∧ Nx (upd H4 A (.lst (acc ++ [y]))) else Nx H3) := by
  refine ⟨fun i n H' => n = ds.length - i ∧ i ≤ ds.length ∧ ∃ M', Good K M' H' ∧ Stp M1 H1 M' H' ∧ lcGo gg tt te G (gWipe Γ vs) A F (ds.drop i) M', ⟨ds.length, by simp, Nat.zero_le _, M1, g, Stp.refl _ _, q⟩, ?_⟩
  rintro i n H' ⟨rfl, hi, M', g2, t2, q2⟩
  obtain ⟨w1, w2, w3⟩ := w M' H' t2 g2 (lcGo_G q2)
  by_cases hl : i < ds.length
  · refine .inr ⟨w1 i hl, fun H'' => ∃ M'', Good K M'' H'' ∧ Stp M1 H1 M'' H'' ∧ lcGo gg tt te G (gWipe Γ vs) A F (ds.drop (i + 1)) M'', fun H'' hn => ⟨ds.length - (i + 1), by omega, rfl, hl, hn⟩, fun x H'' y => ?_⟩
    obtain ⟨t3, g3, r3⟩ := w3 i x H'' ds[i] (List.getElem?_eq_getElem hl) y
    rw [List.drop_eq_getElem_cons hl] at q2
    refine ⟨ds[i], gWipe Γ vs, M', _, g3, m.stp (t2.trans t3), r3, q2.2, fun Γ4 M4 σ4 H4 q4 t4 g4 m4 e4 => ⟨by rw [e4, wipe_wipe], ?_⟩⟩
    refine ⟨Γ4, M4, _, X0, g4, m4, q4, fun b M5 H5 q5 t5 g5 => ?_, KX0⟩
    have tt := t2.trans (t3.trans (t4.trans t5))
    cases b with
    | false => exact ⟨M5, g5, tt, q5⟩
    | true =>
      refine ⟨Γ4, M5, _, X0, g5, m4.stp t5, q5, fun x M6 v6 H6 ⟨acc, ha, hz, q6⟩ t6 g6 r6 => ?_, KX0⟩
      obtain ⟨us, hH, ru⟩ := g6 _ _ ha
      exact ⟨us, hH, by rw [← ru.len]; exact hz, mup M6 A (.lst (acc ++ [x])), good_put g6 ha ⟨_, upd_same, (ru.append (show Reps K M6 H6 [x] [v6] from ⟨v6, [], rfl, r6, rfl⟩)).stp (stp_put ha)⟩, tt.trans (t6.trans (stp_put ha)), q6⟩
  · have e : i = ds.length := by omega
    subst e
    rw [List.drop_length] at q2
    exact .inl ⟨w2, hd _ _ q2.2 t2 g2⟩
theorem IW.stp {K : PySem.W.Frag} {J : It} {ds : List D} {G : Mem → Prop} {M M' : Mem} {H H' : Hp} (w : IW K J ds G M H) (s : Stp M H M' H') : IW K J ds G M' H' := fun M2 H2 s2 g q => w M2 H2 (s.trans s2) g q
theorem lcF_done {K : PySem.W.Frag} {M0 : Mem} {H0 : Hp} {R : Pst} {Q : VK} {A : Addr} (k : KQ K M0 H0 R Q) {M' : Mem} {H' : Hp} (f : lcF R A M') (t : Stp M0 H0 M' H') (g : Good K M' H') : Q (.ref A) H' := by
  obtain ⟨acc, ha, q⟩ := f
  exact k _ _ _ _ q (t.trans (stp_sub sub_del)) (good_sub sub_del g) (freeze_lst g ha)
variable {elt iter : Expr} {ifs : List Expr} {scope : Scope} {own : List (Str × Nat)} {wi : DI} {gg : DG} {tt : DT} {te : DE}
theorem lc_imp {vs : List Nat} {σ : L2.St} {H : Hp} {Q : VK} (h : lE X.K E (dLc wi gg tt te vs) σ H Q) : tLc (lI X.K E wi) (lG X.K vs gg) (lT X.K E tt) (lE X.K E te) vs σ H Q := by
  obtain ⟨Γ, M, R, XR, g, m, q, k, kx⟩ := h
  refine ⟨Γ, M, _, XR, g, m, q, fun ds G M1 J H1 q1 t1 g1 w A hA => ?_, kx⟩
  have hM := g1.free hA
  have t2 : Stp M1 H1 (mup M1 A (.lst [])) (upd H1 A (.lst [])) := stp_loc hA
  have g2 : Good X.K (mup M1 A (.lst [])) (upd H1 A (.lst [])) := good_loc g1 hA ⟨[], upd_same, rfl⟩
  exact lc_walk (Γ := Γ) (w.stp t2) g2 ((m.stp (t1.trans t2)).wipe vs) (q1 A hM) fun M' H' f t' g' => lcF_done (k.step (t1.trans t2)) f t' g'
theorem lcM_imp {vs : List Nat} {σ : L2.St} {H : Hp} {Q : VK} (h : lE X.K E (dLcM wi gg tt te vs) σ H Q) : tLc (lI X.K E wi) (lG X.K vs gg) (lT X.K E tt) (lE X.K E te) vs σ H Q := by
  obtain ⟨Γ, M, R, XR, g, m, q, k, kx⟩ := h
  refine ⟨Γ, M, _, XR, g, m, q, fun ds G M1 J H1 q1 t1 g1 w A hA => ?_, kx⟩
  have hM := g1.free hA
  have t2 : Stp M1 H1 (mup M1 A (.lst [])) (upd H1 A (.lst [])) := stp_loc hA
  have g2 : Good X.K (mup M1 A (.lst [])) (upd H1 A (.lst [])) := good_loc g1 hA ⟨[], upd_same, rfl⟩
  exact lc_walk (Γ := Γ) (w.stp t2) g2 ((m.stp (t1.trans t2)).wipe vs) (q1 A hM) fun M' H' f t' g' => k _ _ _ _ f (t1.trans (t2.trans t')) g' rfl
abbrev Blk (X : Cx) (scope : Scope) (P : Cx → Prop) : Prop := ∀ (s : Shared) (H : Hp) (C : Addr) (cl : List (Str × Addr)) (fp : List Addr), P (X.blk s H scope (compEnvC scope cl C X.env) fp)
theorem de_lc {vs : List Nat} (hc : X.calm = true) (hN : X.N.Nodup) (hi : PI X tg iter (lI X.K E wi)) (ok : BlkOk X.N X.env.scope scope own)
    (hg : ∀ (s : Shared) (H : Hp) (C : Addr) (cl : List (Str × Addr)) (fp : List Addr), PG (X.blk s H scope (compEnvC scope cl C X.env) fp) tg (lG X.K (vs) gg)) (ht : ∀ (s : Shared) (H : Hp) (C : Addr) (cl : List (Str × Addr)) (fp : List Addr), PTs (X.blk s H scope (compEnvC scope cl C X.env) fp) ifs (lT X.K E tt))
    (he : ∀ (s : Shared) (H : Hp) (C : Addr) (cl : List (Str × Addr)) (fp : List Addr), PE (X.blk s H scope (compEnvC scope cl C X.env) fp) elt (lE X.K E te)) (hs : ∀ x, foldedSetIterable iter X.env x = pure x := by intro _; rfl) (hvs : own.map (·.2) = vs := by rfl) :
    PE X (.ListComp elt [⟨tg, iter, ifs, 0⟩] scope pos) (lE X.K E (dLc wi gg tt te (vs))) := by
  subst hvs
  exact PE.imp (pe_lc hc hN hi ok hg ht he hs) fun _ _ _ => lc_imp
theorem de_lcM {vs : List Nat} (hc : X.calm = true) (hN : X.N.Nodup) (hi : PI X tg iter (lI X.K E wi)) (ok : BlkOk X.N X.env.scope scope own)
    (hg : ∀ (s : Shared) (H : Hp) (C : Addr) (cl : List (Str × Addr)) (fp : List Addr), PG (X.blk s H scope (compEnvC scope cl C X.env) fp) tg (lG X.K (vs) gg)) (ht : ∀ (s : Shared) (H : Hp) (C : Addr) (cl : List (Str × Addr)) (fp : List Addr), PTs (X.blk s H scope (compEnvC scope cl C X.env) fp) ifs (lT X.K E tt))
    (he : ∀ (s : Shared) (H : Hp) (C : Addr) (cl : List (Str × Addr)) (fp : List Addr), PE (X.blk s H scope (compEnvC scope cl C X.env) fp) elt (lE X.K E te)) (hs : ∀ x, foldedSetIterable iter X.env x = pure x := by intro _; rfl) (hvs : own.map (·.2) = vs := by rfl) :
    PE X (.ListComp elt [⟨tg, iter, ifs, 0⟩] scope pos) (lE X.K E (dLcM wi gg tt te (vs))) := by
  subst hvs
  exact PE.imp (pe_lc hc hN hi ok hg ht he hs) fun _ _ _ => lcM_imp
theorem ds_setLc {vs : List Nat} {i : Nat} {y : Str} {py spos : Pos} (hc : X.calm = true) (hN : X.N.Nodup) (hy : X.N[i]? = some y) (hyl : X.env.scope.names.lookup y = some .local)
    (hsw : swapsWith (.ListComp elt [⟨tg, iter, ifs, 0⟩] scope pos) (some (.Name y py)) spos.line X.env = pure true) (hi : PI X tg iter (lI X.K E wi)) (ok : BlkOk X.N X.env.scope scope own)
    (hg : ∀ (s : Shared) (H : Hp) (C : Addr) (cl : List (Str × Addr)) (fp : List Addr), PG (X.blk s H scope (compEnvC scope cl C X.env) fp) tg (lG X.K (vs) gg)) (ht : ∀ (s : Shared) (H : Hp) (C : Addr) (cl : List (Str × Addr)) (fp : List Addr), PTs (X.blk s H scope (compEnvC scope cl C X.env) fp) ifs (lT X.K E tt))
    (he : ∀ (s : Shared) (H : Hp) (C : Addr) (cl : List (Str × Addr)) (fp : List Addr), PE (X.blk s H scope (compEnvC scope cl C X.env) fp) elt (lE X.K E te)) (hs : ∀ x, foldedSetIterable iter X.env x = pure x := by intro _; rfl) (hvs : own.map (·.2) = vs := by rfl) :
    PS X (.Assign [.Name y py] (.ListComp elt [⟨tg, iter, ifs, 0⟩] scope pos) spos) (lS X.K E (dSet i (dLc wi gg tt te (vs)))) := by
  subst hvs
  exact PS.imp (ps_setLc hc hN hy hyl hsw hi ok hg ht he hs) fun D σ H ⟨Γ, M, DD, g, m, q, k⟩ =>
  lc_imp ⟨Γ, M, _, _, g, m, q, fun d M1 v H1 q1 t1 g1 r1 => k.nx _ _ _ _ q1 t1 g1 ((m.stp t1).set r1 i), k.kx m⟩
theorem ds_setLcM {vs : List Nat} {i : Nat} {y : Str} {py spos : Pos} (hc : X.calm = true) (hN : X.N.Nodup) (hy : X.N[i]? = some y) (hyl : X.env.scope.names.lookup y = some .local)
    (hsw : swapsWith (.ListComp elt [⟨tg, iter, ifs, 0⟩] scope pos) (some (.Name y py)) spos.line X.env = pure true) (hi : PI X tg iter (lI X.K E wi)) (ok : BlkOk X.N X.env.scope scope own)
    (hg : ∀ (s : Shared) (H : Hp) (C : Addr) (cl : List (Str × Addr)) (fp : List Addr), PG (X.blk s H scope (compEnvC scope cl C X.env) fp) tg (lG X.K (vs) gg)) (ht : ∀ (s : Shared) (H : Hp) (C : Addr) (cl : List (Str × Addr)) (fp : List Addr), PTs (X.blk s H scope (compEnvC scope cl C X.env) fp) ifs (lT X.K E tt))
    (he : ∀ (s : Shared) (H : Hp) (C : Addr) (cl : List (Str × Addr)) (fp : List Addr), PE (X.blk s H scope (compEnvC scope cl C X.env) fp) elt (lE X.K E te)) (hs : ∀ x, foldedSetIterable iter X.env x = pure x := by intro _; rfl) (hvs : own.map (·.2) = vs := by rfl) :
    PS X (.Assign [.Name y py] (.ListComp elt [⟨tg, iter, ifs, 0⟩] scope pos) spos) (lS X.K E (dSet i (dLcM wi gg tt te (vs)))) := by
  subst hvs
  exact PS.imp (ps_setLc hc hN hy hyl hsw hi ok hg ht he hs) fun D σ H ⟨Γ, M, DD, g, m, q, k⟩ =>
  lcM_imp ⟨Γ, M, _, _, g, m, q, fun d M1 v H1 q1 t1 g1 r1 => k.nx _ _ _ _ q1 t1 g1 ((m.stp t1).set r1 i), k.kx m⟩
/-! two clauses -/
def lc2Go (gg : DG) (tt : DT) (wi1 : DI) (gg1 : DG) (tt1 : DT) (te : DE) (G : Mem → Prop) (Γw : Gam) (vs1 : List Nat) (A : Addr) (F : Mem → Prop) : List D → Mem → Prop
  | [], M => G M ∧ F M
  | d :: ds, M => G M ∧ gg d Γw M fun Γ1 M1 => tt Γ1 M1 (fun b M2 => if b = true then wi1 Γ1 M2 (fun es G1 M3 => lcGo gg1 tt1 te G1 (gWipe Γ1 vs1) A (lc2Go gg tt wi1 gg1 tt1 te G Γw vs1 A F ds) es M3) X0 else lc2Go gg tt wi1 gg1 tt1 te G Γw vs1 A F ds M2) X0
def dLc2 (wi : DI) (gg : DG) (tt : DT) (wi1 : DI) (gg1 : DG) (tt1 : DT) (te : DE) (vs vs1 : List Nat) : DE := fun Γ M R XR => wi Γ M (fun ds G M1 => ∀ A, M1 A = none → lc2Go gg tt wi1 gg1 tt1 te G (gWipe Γ vs) vs1 A (lcF R A) ds (mup M1 A (.lst []))) XR
theorem lc2Go_G {gg : DG} {tt : DT} {wi1 : DI} {gg1 : DG} {tt1 : DT} {te : DE} {G : Mem → Prop} {Γ : Gam} {vs1 : List Nat} {A : Addr} {F : Mem → Prop} {ds : List D} {M : Mem} (h : lc2Go gg tt wi1 gg1 tt1 te G Γ vs1 A F ds M) : G M := by
  cases ds with
  | nil => exact h.1
  | cons d ds => exact h.1
variable {tg1 iter1 : Expr} {ifs1 : List Expr} {vs1 : List Nat} {wi1 : DI} {gg1 : DG} {tt1 : DT}
theorem lc2_imp {vs : List Nat} {σ : L2.St} {H : Hp} {Q : VK} (h : lE X.K E (dLc2 wi gg tt wi1 gg1 tt1 te vs vs1) σ H Q) : tLc2 (lI X.K E wi) (lG X.K vs gg) (lT X.K E tt) (lI X.K E wi1) (lG X.K vs1 gg1) (lT X.K E tt1) (lE X.K E te) vs vs1 σ H Q := by
  obtain ⟨Γ, M, R, XR, g, m, q, k, kx⟩ := h
  refine ⟨Γ, M, _, XR, g, m, q, fun ds G M1 J H1 q1 t1 g1 w A hA => ?_, kx⟩
  have hM := g1.free hA
  have t2 : Stp M1 H1 (mup M1 A (.lst [])) (upd H1 A (.lst [])) := stp_loc hA
  have g2 : Good X.K (mup M1 A (.lst [])) (upd H1 A (.lst [])) := good_loc g1 hA ⟨[], upd_same, rfl⟩
  have m2 := (m.stp (t1.trans t2)).wipe vs
  have w := w.stp t2
  have k := k.step (t1.trans t2)
  have q := q1 A hM
  clear q1 kx g1 hM
  generalize mup M1 A (.lst []) = M2 at t2 g2 m2 w k q
  generalize upd H1 A (.lst []) = H2 at t2 g2 m2 w k ⊢
  refine ⟨fun i n H' => n = ds.length - i ∧ i ≤ ds.length ∧ ∃ M', Good X.K M' H' ∧ Stp M2 H2 M' H' ∧ lc2Go gg tt wi1 gg1 tt1 te G (gWipe Γ vs) vs1 A (lcF R A) (ds.drop i) M', ⟨ds.length, by simp, Nat.zero_le _, M2, g2, Stp.refl _ _, q⟩, ?_⟩
  rintro i n H' ⟨rfl, hi, M', g3, t3, q3⟩
  obtain ⟨w1, w2, w3⟩ := w M' H' t3 g3 (lc2Go_G q3)
  by_cases hl : i < ds.length
  · refine .inr ⟨w1 i hl, fun H'' => ∃ M'', Good X.K M'' H'' ∧ Stp M2 H2 M'' H'' ∧ lc2Go gg tt wi1 gg1 tt1 te G (gWipe Γ vs) vs1 A (lcF R A) (ds.drop (i + 1)) M'', fun H'' hn => ⟨ds.length - (i + 1), by omega, rfl, hl, hn⟩, fun x H'' y => ?_⟩
    obtain ⟨t4, g4, r4⟩ := w3 i x H'' ds[i] (List.getElem?_eq_getElem hl) y
    rw [List.drop_eq_getElem_cons hl] at q3
    refine ⟨ds[i], gWipe Γ vs, M', _, g4, m2.stp (t3.trans t4), r4, q3.2, fun Γ5 M5 σ5 H5 q5 t5 g5 m5 e5 => ⟨by rw [e5, wipe_wipe], ?_⟩⟩
    refine ⟨Γ5, M5, _, X0, g5, m5, q5, fun b M6 H6 q6 t6 g6 => ?_, KX0⟩
    have tt := t3.trans (t4.trans (t5.trans t6))
    cases b with
    | false => exact ⟨M6, g6, tt, q6⟩
    | true =>
      refine ⟨Γ5, M6, _, X0, g6, m5.stp t6, q6, fun es G1 M7 J1 H7 q7 t7 g7 w7 => ?_, KX0⟩
      exact lc_walk (Γ := Γ5) w7 g7 ((m5.stp (t6.trans t7)).wipe vs1) q7 fun M8 H8 f t8 g8 => ⟨M8, g8, tt.trans (t7.trans t8), f⟩
  · have e : i = ds.length := by omega
    subst e
    rw [List.drop_length] at q3
    exact .inl ⟨w2, lcF_done (k.step t3) q3.2 (Stp.refl _ _) g3⟩
theorem de_lc2 {vs : List Nat} (hc : X.calm = true) (hN : X.N.Nodup) (hi : PI X tg iter (lI X.K E wi)) (ok : BlkOk X.N X.env.scope scope own) (hv : ∀ i ∈ vs1, i ∈ vs)
    (hg : ∀ (s : Shared) (H : Hp) (C : Addr) (cl : List (Str × Addr)) (fp : List Addr), PG (X.blk s H scope (compEnvC scope cl C X.env) fp) tg (lG X.K (vs) gg)) (ht : ∀ (s : Shared) (H : Hp) (C : Addr) (cl : List (Str × Addr)) (fp : List Addr), PTs (X.blk s H scope (compEnvC scope cl C X.env) fp) ifs (lT X.K E tt))
    (hi1 : ∀ (s : Shared) (H : Hp) (C : Addr) (cl : List (Str × Addr)) (fp : List Addr), PI (X.blk s H scope (compEnvC scope cl C X.env) fp) tg1 iter1 (lI X.K E wi1))
    (hg1 : ∀ (s : Shared) (H : Hp) (C : Addr) (cl : List (Str × Addr)) (fp : List Addr), PG (X.blk s H scope (compEnvC scope cl C X.env) fp) tg1 (lG X.K vs1 gg1)) (ht1 : ∀ (s : Shared) (H : Hp) (C : Addr) (cl : List (Str × Addr)) (fp : List Addr), PTs (X.blk s H scope (compEnvC scope cl C X.env) fp) ifs1 (lT X.K E tt1))
    (he : ∀ (s : Shared) (H : Hp) (C : Addr) (cl : List (Str × Addr)) (fp : List Addr), PE (X.blk s H scope (compEnvC scope cl C X.env) fp) elt (lE X.K E te)) (hs : ∀ x, foldedSetIterable iter X.env x = pure x := by intro _; rfl) (hs1 : ∀ env x, foldedSetIterable iter1 env x = pure x := by intro _ _; rfl) (hvs : own.map (·.2) = vs := by rfl) :
    PE X (.ListComp elt [⟨tg, iter, ifs, 0⟩, ⟨tg1, iter1, ifs1, 0⟩] scope pos) (lE X.K E (dLc2 wi gg tt wi1 gg1 tt1 te (vs) vs1)) := by
  subst hvs
  exact PE.imp (pe_lc2 hc hN hi ok hv hg ht hi1 hg1 ht1 he hs hs1) fun _ _ _ => lc2_imp
theorem ds_setLc2 {vs : List Nat} {i : Nat} {y : Str} {py spos : Pos} (hc : X.calm = true) (hN : X.N.Nodup) (hy : X.N[i]? = some y) (hyl : X.env.scope.names.lookup y = some .local)
    (hsw : swapsWith (.ListComp elt [⟨tg, iter, ifs, 0⟩, ⟨tg1, iter1, ifs1, 0⟩] scope pos) (some (.Name y py)) spos.line X.env = pure true) (hi : PI X tg iter (lI X.K E wi)) (ok : BlkOk X.N X.env.scope scope own) (hv : ∀ i ∈ vs1, i ∈ vs)
    (hg : ∀ (s : Shared) (H : Hp) (C : Addr) (cl : List (Str × Addr)) (fp : List Addr), PG (X.blk s H scope (compEnvC scope cl C X.env) fp) tg (lG X.K (vs) gg)) (ht : ∀ (s : Shared) (H : Hp) (C : Addr) (cl : List (Str × Addr)) (fp : List Addr), PTs (X.blk s H scope (compEnvC scope cl C X.env) fp) ifs (lT X.K E tt))
    (hi1 : ∀ (s : Shared) (H : Hp) (C : Addr) (cl : List (Str × Addr)) (fp : List Addr), PI (X.blk s H scope (compEnvC scope cl C X.env) fp) tg1 iter1 (lI X.K E wi1))
    (hg1 : ∀ (s : Shared) (H : Hp) (C : Addr) (cl : List (Str × Addr)) (fp : List Addr), PG (X.blk s H scope (compEnvC scope cl C X.env) fp) tg1 (lG X.K vs1 gg1)) (ht1 : ∀ (s : Shared) (H : Hp) (C : Addr) (cl : List (Str × Addr)) (fp : List Addr), PTs (X.blk s H scope (compEnvC scope cl C X.env) fp) ifs1 (lT X.K E tt1))
    (he : ∀ (s : Shared) (H : Hp) (C : Addr) (cl : List (Str × Addr)) (fp : List Addr), PE (X.blk s H scope (compEnvC scope cl C X.env) fp) elt (lE X.K E te)) (hs : ∀ x, foldedSetIterable iter X.env x = pure x := by intro _; rfl) (hs1 : ∀ env x, foldedSetIterable iter1 env x = pure x := by intro _ _; rfl) (hvs : own.map (·.2) = vs := by rfl) :
    PS X (.Assign [.Name y py] (.ListComp elt [⟨tg, iter, ifs, 0⟩, ⟨tg1, iter1, ifs1, 0⟩] scope pos) spos) (lS X.K E (dSet i (dLc2 wi gg tt wi1 gg1 tt1 te (vs) vs1))) := by
  subst hvs
  exact PS.imp (ps_setLc2 hc hN hy hyl hsw hi ok hv hg ht hi1 hg1 ht1 he hs hs1) fun D σ H ⟨Γ, M, DD, g, m, q, k⟩ =>
  lc2_imp ⟨Γ, M, _, _, g, m, q, fun d M1 v H1 q1 t1 g1 r1 => k.nx _ _ _ _ q1 t1 g1 ((m.stp t1).set r1 i), k.kx m⟩

/-! ### a def and its calls -/
abbrev DSp := List D → Mem → Pst → Xst → Prop
def lSp (K : PySem.W.Frag) (sp : DSp) : Sp := fun vs H Q E => ∃ (ds : List D) (M : Mem) (R : Pst) (XR : Xst), Good K M H ∧ Reps K M H ds vs ∧ sp ds M R XR ∧ KQ K M H R Q ∧ KX K M H XR E
def dFn (sp : DSp) (dds : List D) (wA : DA) : DE := fun Γ M R XR => wA Γ M (fun ds M1 => sp (ds ++ dds) M1 R X0) XR
def startG (N : List Str) (ds : List D) : Gam := ds.map some ++ List.replicate (N.length - ds.length) none
def retTo (R : Pst) (XR : Xst) : DEnds where
  nx := fun _ M => ∃ M', Sub M' M ∧ R .non M'
  rt := fun d M => ∃ M', Sub M' M ∧ R d M'
  bk := fun _ _ => False
  ct := fun _ _ => False
  xr := fun e _ M => ∃ M', Sub M' M ∧ XR e M'
theorem mat_start {K : PySem.W.Frag} {M : Mem} {H : Hp} (k : Nat) : ∀ {ds : List D} {vs : List V}, Reps K M H ds vs → Mat K M H (ds.map some ++ List.replicate k none) (vs.map some ++ List.replicate k none)
  | [], vs, h => by
    have h : vs = [] := h
    subst h
    induction k with
    | zero => rfl
    | succ k ih => exact ⟨_, _, rfl, ih⟩
  | d :: ds, vs, h => by
    obtain ⟨v, r, rfl, h1, h2⟩ := h
    exact ⟨v, _, rfl, h1, mat_start k h2⟩
variable {P : Program} {wd : World} {K : PySem.W.Frag} {mg : Str → Option Value} {base : Heap} {k : Nat} {f : Addr} {fd : FuncData} {ps : List Str} {sp : DSp} {x : Str} {p : Pos} {dds : List D} {ds : List Value}
theorem lSp_len (len : ∀ ds M R XR, sp ds M R XR → ds.length = ps.length) : ∀ vs H Q E, lSp K sp vs H Q E → vs.length = ps.length := fun vs H Q E ⟨ds, M, R, XR, g, r, q, _⟩ => by rw [← r.len]; exact len _ _ _ _ q
theorem fn0 {x qual : Str} {st : Stmt} {N : List Str} (F : Fun K x qual st f fd) (S : FnScope N ps (defScope st)) (len : ∀ ds M R XR, sp ds M R XR → ds.length = ps.length)
    (hb : ∃ wb : DS, (∀ (cdv : Value) (A : Around) (outer : List Env) (s : Shared) (H : Hp) (E : XK), Room k (A.deeper (envOfC qual (defScope st) s.heap.objs.size f cdv)) → PSs (cxOf CX0 P wd K mg base N qual (defScope st) f cdv A outer s H E).nox (defBody st) (lS K (fun _ _ _ _ => False) wb)) ∧
      ∀ ds M R, sp ds M R X0 → wb (retTo R X0) (startG N ds) M)
    (nox : ∀ ds M R XR, sp ds M R XR → sp ds M R X0) : FnOk P wd K mg base CX0 (k + 1) f fd ps (lSp K sp) := by
  obtain ⟨wb, h1, h2⟩ := hb
  refine F.ok S (lSp_len len) fun cdv A outer s H vs Q E hr ⟨ds, M, R, XR, g, r, q, kq, kx⟩ => ⟨_, h1 cdv A outer s H E hr, ?_⟩
  have hl : vs.length = ds.length := r.len.symm
  refine ⟨_, M, _, g, ?_, h2 ds M R (nox _ _ _ _ q), ?_⟩
  · unfold startG L2.start
    rw [hl]
    exact mat_start _ r
  · exact ⟨fun Γ M1 σ H1 ⟨M2, sb, q1⟩ t1 g1 m1 => kq _ _ _ _ q1 (t1.trans (stp_sub sb)) (good_sub sb g1) rfl, fun d M1 v H1 ⟨M2, sb, q1⟩ t1 g1 r1 => kq _ _ _ _ q1 (t1.trans (stp_sub sb)) (good_sub sb g1) (r1.stp (stp_sub sb)), fun _ _ _ _ h => h.elim, fun _ _ _ _ h => h.elim, fun _ _ _ _ _ _ _ ⟨_, _, h⟩ => h.elim⟩
theorem Reps.vals {M : Mem} {H : Hp} {ds es : List D} {vs ws : List V} (h : Reps K M H ds vs) (h2 : Reps K M H es ws) : Reps K M H (ds ++ es) (vs ++ ws) := h.append h2
theorem fn_imp {dvs : List V} {σ : L2.St} {H : Hp} {Q : VK} (hdd : ∀ M H, Reps X.K M H dds dvs) (h : lE X.K E (dFn sp dds wA) σ H Q) : tCall (lSp X.K sp) dvs E0 (lA X.K E wA) σ H Q := by
  obtain ⟨Γ, M, R, XR, g, m, q, k, kx⟩ := h
  exact ⟨Γ, M, _, XR, g, m, q, fun ds M1 vs H1 q1 t1 g1 r1 => ⟨_, M1, R, X0, g1, r1.append (hdd _ _), q1, k.step t1, KX0⟩, kx⟩
theorem de_call (F : FnOk X.prog X.w X.K X.mg X.base CX0 k f fd ps (lSp X.K sp)) (hr : Room k X.A) (hg : Gl X x) (hm : X.mg x = some (.ref f)) (hk : PySem.W.keepIn X.K (.ref f) = true) (hb : Binds X.K fd ps [])
    (ha : PA X (e :: es) (lA X.K E wA)) (hdb : (x == ("__debug__" : Str)) = false := by decide) (he : starEach (e :: es) X.env = (false, eval e X.env) :: starEach es X.env := by rfl) (hpl : (backTo pos (starEach es X.env)).any (·.1) = false := by rfl) :
    PE X (.Call (.Name x p) (e :: es) [] pos) (lE X.K E (dFn sp [] wA)) := PE.imp (pe_call F hr hg hm hk hb .nil pass0 ha hdb he hpl) fun _ _ _ h => fn_imp (dds := []) (dvs := []) (fun _ _ => rfl) h
theorem de_call00 (F : FnOk X.prog X.w X.K X.mg X.base CX0 k f fd ps (lSp X.K sp)) (hr : Room k X.A) (hg : Gl X x) (hm : X.mg x = some (.ref f)) (hk : PySem.W.keepIn X.K (.ref f) = true) (hb : Binds X.K fd ps []) (hdb : (x == ("__debug__" : Str)) = false := by decide) :
    PE X (.Call (.Name x p) [] [] pos) (lE X.K E (dFn sp [] dNil)) := PE.imp (pe_call0 F hr hg hm hk hb .nil pass0 hdb) fun σ H Q ⟨Γ, M, R, XR, g, m, q, k, kx⟩ => ⟨[], M, R, X0, g, rfl, q, k, KX0⟩
/-- a list, a dict, an instance that no more changes -/
def dFrz (w : DE) : DE := fun Γ M R XR => w Γ M (fun d M1 => ∃ a, d = .loc a ∧ match M1 a with
  | some (.lst ds) => R (.lst ds) (mdel M1 a)
  | some (.ins C fs) => R (.obj C (fs.map (·.1)) (fs.map (·.2))) (mdel M1 a)
  | some (.dK kvs) => R (.dK (kvs.map (·.1)) (kvs.map (·.2))) (mdel M1 a)
  | some (.dT kvs) => R (.dT (kvs.map (·.1)) (kvs.map (·.2))) (mdel M1 a)
  | none => False) XR
theorem de_frz (h : PE X e (lE X.K E w)) : PE X e (lE X.K E (dFrz w)) := PE.imp h fun σ H Q ⟨Γ, M, R, XR, g, m, q, k, kx⟩ => ⟨Γ, M, _, XR, g, m, q, fun d M1 v H1 ⟨a, e, q1⟩ t1 g1 r1 => by
  subst e
  have r1 : v = .ref a := r1
  subst r1
  split at q1
  · next ds e => exact k _ _ _ _ q1 (t1.trans (stp_sub sub_del)) (good_sub sub_del g1) (freeze_lst g1 e)
  · next C fs e => exact k _ _ _ _ q1 (t1.trans (stp_sub sub_del)) (good_sub sub_del g1) (freeze_ins g1 e)
  · next kvs e => exact k _ _ _ _ q1 (t1.trans (stp_sub sub_del)) (good_sub sub_del g1) (freeze_dK g1 e)
  · next kvs e => exact k _ _ _ _ q1 (t1.trans (stp_sub sub_del)) (good_sub sub_del g1) (freeze_dT g1 e)
  · exact q1.elim, kx⟩
end
end DL
namespace DLS
open PySem PySem.Spec PyProof.Rows L2

/-- each once, as first met -/
def met (xs : List Str) : Nat → List Str
  | 0 => []
  | i + 1 => if (met xs i).any (· == xs.getD i Str.empty) = true then met xs i else met xs i ++ [xs.getD i Str.empty]
theorem met_len (xs : List Str) : ∀ i, (met xs i).length ≤ i
  | 0 => Nat.le_refl _
  | i + 1 => by
    have h := met_len xs i
    unfold met; split
    · omega
    · rw [List.length_append]; simp; omega
theorem met_any (xs : List Str) (i : Nat) (k : Str) : (met xs (i + 1)).any (· == k) = ((met xs i).any (· == k) || decide (k = xs.getD i Str.empty)) := by
  have e : ∀ a b : Str, (a == b) = decide (b = a) := fun a b => by
    by_cases h : b = a
    · subst h; simp
    · rw [decide_eq_false h]; exact beq_eq_false_iff_ne.mpr (Ne.symm h)
  show (if (met xs i).any (· == xs.getD i Str.empty) = true then met xs i else met xs i ++ [xs.getD i Str.empty]).any _ = _
  split
  · next h =>
    by_cases hk : k = xs.getD i Str.empty
    · rw [hk, h]; simp
    · rw [decide_eq_false hk, Bool.or_false]
  · rw [List.any_append]
    simp only [List.any_cons, List.any_nil, Bool.or_false]
    rw [e]
theorem met_count (xs : List Str) (i : Nat) : (met xs (i + 1)).length = if (met xs i).any (· == xs.getD i Str.empty) = true then (met xs i).length else (met xs i).length + 1 := by
  show (if (met xs i).any (· == xs.getD i Str.empty) = true then met xs i else met xs i ++ [xs.getD i Str.empty]).length = _
  split
  · rfl
  · rw [List.length_append]; rfl
theorem met_nodup {xs : List Str} (h : xs.Nodup) : ∀ i, i ≤ xs.length → met xs i = xs.take i
  | 0, _ => by simp [met]
  | i + 1, hi => by
    have ih := met_nodup h i (by omega)
    unfold met
    have hl : i < xs.length := hi
    have eg : xs.getD i Str.empty = xs[i] := by simp [List.getD, hl]
    rw [ih, eg, if_neg, List.take_add_one, List.getElem?_eq_getElem hl]
    · rfl
    · intro q
      rw [List.any_eq_true] at q
      obtain ⟨x, hx, q⟩ := q
      have q : x = xs[i] := by simpa using q
      subst q
      obtain ⟨j, hj, ej⟩ := List.mem_iff_getElem.mp hx
      rw [List.length_take] at hj
      rw [List.getElem_take] at ej
      have := (List.getElem_inj h).mp ej
      omega

section
variable {prog : Program} {w : World} {A : Around} {R : Result → Shared → Prop} {I : Addr} {fp wr : List Addr} {G : Array GenState → Array GenState → Prop} {n : Nat} {Pi : Nat → Value → Prop} {Sa : Nat → Shared → Prop}
abbrev SetM (prog : Program) (w : World) (h : Heap) (S : Addr) (ys : List Str) : Prop := h.SetOf (PySem.strKind prog w) S (fun k => ys.any (· == k)) ys.length
/-- the loop that fills the set, from turn i on -/
theorem fill (W : WalksS prog w A.in1 I fp wr G n Pi Sa) (S : Addr) (out : S ∉ fp) (xs : List Str) (room : n + 1 < scanBound) (val : ∀ i v, Pi i v → ∃ t, v = .str (xs.getD i Str.empty) t) :
    ∀ (j i : Nat) (s : Shared), i + j = n → Sa i s → SetM prog w s.heap S (met xs i) → (∀ s', Moved (S :: wr) G s s' → SetM prog w s'.heap S (met xs n) → R (.ok (.ret .none)) s') →
      codeAny (model prog w) A (.builtin "set.update.loop" ⟨[.ref S, .ref I], []⟩) R s := by
  have notw : S ∉ wr := fun q => out (W.sub _ q)
  have more : ∀ b ∈ wr, b ∈ S :: wr := fun _ => List.mem_cons_of_mem _
  have carry : ∀ {s s' : Shared} {ys : List Str}, Moved wr G s s' → SetM prog w s.heap S ys → SetM prog w s'.heap S ys := fun mv ⟨o, es, ep, t, at_, q⟩ => ⟨o, es, ep, t, mv.heap S _ notw at_, q⟩
  intro j
  induction j with
  | zero =>
    intro i s e hst hS done
    obtain rfl : i = n := by omega
    refine codeAny_builtin PyProof.Rows.F.entry_set_update_loop ?_ ; rw [Around.under_plainId PyProof.Rows.F.plain_set_update_loop _] ; show wpAny _ A.in1 (pyNext (.ref I) >>= _) _ _ s
    exact wpAny_bind (W.done s _ _ hst fun s' mv => wpAny_pure (done s' (mv.mono more) (carry mv hS)))
  | succ j ih =>
    intro i s e hst hS done
    have lt : i < n := by omega
    refine codeAny_builtin PyProof.Rows.F.entry_set_update_loop ?_ ; rw [Around.under_plainId PyProof.Rows.F.plain_set_update_loop _] ; show wpAny _ A.in1 (pyNext (.ref I) >>= _) _ _ s
    refine wpAny_bind (W.item i s _ _ lt hst fun v s' hP hst' mv => ?_)
    obtain ⟨t, rfl⟩ := val i v hP
    show wpAny _ A.in1 (holding [Value.str (xs.getD i Str.empty) t] (setAdd S (.str (xs.getD i Str.empty) t)) >>= _) _ _ s'
    refine wpAny_bind (wpAny_holding ?_)
    unfold setAdd
    refine wpAny_holding (wpAny_bind ((PySem.strKind prog w).pyHash (k := xs.getD i Str.empty) (strKind_is _ _ _ _) ?_))
    have hS1 : SetM prog w s'.heap S (met xs i) := carry mv hS
    have room' : (met xs i).length + 1 < scanBound := by have := met_len xs i; omega
    refine wpAny_setAddHashed_of (knd := PySem.strKind prog w) (s := { s' with toks := s'.toks + 1 }) (strKind_is _ _ _ _) rfl hS1 room' fun h' sb S2 => ?_
    have S3 : SetM prog w h' S (met xs (i + 1)) := PyProof.Rows.SetOf_congr S2 (fun k => (met_any xs i k).symm) (met_count xs i).symm
    refine wpAny_pure ⟨plainId_quiet PyProof.Rows.F.plain_set_update_loop _, ih (i + 1) _ (by omega) (W.frame _ s' _ _ hst' (Nat.le_succ _) fun b hb o q => ?_) S3 fun s'' mv2 S4 => ?_⟩
    · rw [sb.2 b (fun z => out (by rw [← z]; exact hb))]; exact q
    · refine done s'' (Moved.trans W.gtrans ((mv.mono more).then_heap (Nat.le_succ _) fun b o hb q => ?_) mv2) S4
      rw [sb.2 b (fun z => hb (by rw [z]; exact List.mem_cons_self))]; exact q
end
section
variable {prog : Program} {w : World} {A : Around} {E : Value → Shared → Prop} {s : Shared}
abbrev nset (led : Bool) : Obj := { cls := .type "set", dict := none, data := .set #[] 0 (.fresh 0 0 led) }
set_option maxHeartbeats 3200000 in
theorem call_set_strs {l : Addr} {its : Array Value} {xs : List Str} {Q : Value → Shared → Prop} (hh : A.handled = none) (hl : s.heap.IsList l its) (hi : StrsAre its.toList xs) (room : its.size + 1 < scanBound)
    (h : ∀ (h' : Heap) (tk : Nat), SetM prog w h' s.heap.objs.size (met xs its.size) → (∀ b o, b < s.heap.objs.size → s.heap.get? b = some o → h'.get? b = some o) → Q (.ref s.heap.objs.size) { s with heap := h', toks := tk }) :
    wpAny (model prog w) A (call (.type "set") [.ref l]) Q E s := by
  have cs := PySem.F.called_set
  obtain ⟨c, tl, hmro⟩ := cs.mro
  have h1 := cs.made; have h2 := cs.sub; have h3 := cs.notType; have h4 := cs.canCreate
  have h5 := PySem.F.typeCall_set_1 (.ref l)
  refine wpAny_call (codeAny_of_tree ?_) ; show wpAny _ _ (callAny (.type "set") _) _ _ _ ; refine wpAny_pure ⟨Code.quiet_builtin _ (by decide +kernel), codeAny_builtin PySem.F.entry_type_call ?_⟩ ; rw [Around.under_plain (weight_type_call_type "set" [.ref l] []) rfl]
  repeat (any_goals (first | assumption | wp_step))
  refine codeAny_mono (code_set_new_1 (.ref l) (E := E) (Q₁ := fun obj s₁ => ∃ led : Bool, obj = .ref s.heap.objs.size ∧ s₁ = { s with heap := s.heap.push (nset led) }) fun led => ⟨led, rfl, rfl⟩) fun r s₁ hr => ?_
  match r, hr with
  | .error e, hr => exact hr
  | .ok (.ret obj), hr =>
    obtain ⟨led, rfl, rfl⟩ := hr
    have atS : (s.heap.push (nset led)).get? s.heap.objs.size = some (nset led) := Heap.get?_push_size _ rfl
    have isT : Shared.TypeIs { s with heap := s.heap.push (nset led) } (.ref s.heap.objs.size) "set" := ⟨_, atS, rfl⟩
    have k1 := cs.init.lookup
    have k2 := cs.init.bind (.ref s.heap.objs.size)
    repeat (any_goals (first | assumption | wp_step))
    refine codeAny_mono (codeAny_call_builtin (R := wants (fun r s₂ => r = .none ∧ ∃ h' tk, s₂ = { s with heap := h', toks := tk } ∧ SetM prog w h' s.heap.objs.size (met xs its.size) ∧
      (∀ b o, b < s.heap.objs.size → s.heap.get? b = some o → h'.get? b = some o)) E) cs.init.plain PySem.F.entry_set_init (check_set_init_1 isT ?_)) fun r₂ s₂ hr₂ => ?_
    · obtain ⟨⟨oc, od, odt, osl⟩, hol, hcl, nl, hdl⟩ := hl
      simp only at hcl hdl
      subst hcl hdl
      have isL : (s.heap.push (nset led)).IsList l its := ⟨_, Heap.get?_push_of_some _ hol, rfl, nl, rfl⟩
      have hol' := Heap.get?_push_of_some (nset led) hol
      have n1 := PySem.F.sub_list_set; have n2 := PySem.F.sub_list_frozenset
      have n3 : (Value.type "list" == Value.type "dict") = false := by decide
      unfold Builtin.«set.__init__» noKeywords Builtin.Frozenset.updateFrom
      generalize hPI : pyIter = PI
      wp_walk
      subst hPI
      refine wpAny_pyIter_list isL ?_ ; refine wpAny_bind (wpAny_runValue ?_)
      have lS : l < s.heap.objs.size := Heap.lt_size hol
      have h3' : A.in1.in1.in1.handled = none := by simp [hh]
      have sz : (s.heap.push (nset led)).objs.size = s.heap.objs.size + 1 := Heap.size_push _ _
      have apart : l ≠ (s.heap.push (nset led)).objs.size := by rw [sz]; exact Nat.ne_of_lt (Nat.lt_succ_of_lt lS)
      have out : s.heap.objs.size ∉ [(s.heap.push (nset led)).objs.size, l] := by
        rw [sz]; simp only [List.mem_cons, List.not_mem_nil, or_false, not_or]
        exact ⟨Nat.ne_of_lt (Nat.lt_succ_self _), Nat.ne_of_gt lS⟩
      have val : ∀ (i : Nat) (v : Value), its[i]? = some v → ∃ t, v = .str (xs.getD i Str.empty) t := fun i v hv => SS.strs_at hi i v (by rw [Array.getElem?_toList]; exact hv)
      refine fill ((Walks.list h3' _ l apart its).toS) s.heap.objs.size out xs room val its.size 0 _ (Nat.zero_add _) ⟨⟨_, Heap.get?_push_size _ rfl, rfl, rfl⟩, isL.push _⟩ ?_ ?_
      · refine PyProof.Rows.SetOf_congr ((PyProof.Rows.setObjOf_fresh (knd := PySem.strKind prog w) led).setOf (Heap.get?_push_of_some _ atS) (by unfold scanBound; omega)) (fun _ => rfl) rfl
      · rintro ⟨h', g', d', tk', os'⟩ mv S9
        obtain rfl : g' = s.gens := mv.gens
        obtain rfl : d' = s.drawn := mv.drawn
        obtain rfl : os' = s.os := mv.os
        show wpAny _ _ _ _ _ _
        refine wpAny_pure (show wpAny _ _ (ret Value.none) _ _ _ from wpAny_pure ⟨rfl, h', tk', rfl, S9, fun b o hb q => ?_⟩)
        have d1 : b ≠ s.heap.objs.size := Nat.ne_of_lt hb
        have d2 : b ≠ (s.heap.push (nset led)).objs.size := by rw [sz]; exact Nat.ne_of_lt (Nat.lt_succ_of_lt hb)
        exact mv.heap b o (by simp only [List.mem_cons, List.not_mem_nil, or_false, not_or]; exact ⟨d1, d2⟩) (Heap.get?_push_of_some _ (Heap.get?_push_of_some _ q))
    · match r₂, hr₂ with
      | .error e, hr₂ => exact hr₂
      | .ok (.ret r), hr₂ =>
        obtain ⟨rfl, h', tk, rfl, S9, kept⟩ := hr₂
        repeat (any_goals (first | assumption | wp_step))
        exact h _ _ S9 kept
end
end DLS
namespace DL
open PySem PySem.Spec PyProof.Rows L2
theorem bt_len : bootBuiltins "len" = some (.builtin "len") := by decide +kernel
theorem bt_abs : bootBuiltins "abs" = some (.builtin "abs") := by decide +kernel
theorem bt_sum : bootBuiltins "sum" = some (.builtin "sum") := by decide +kernel
theorem bt_any : bootBuiltins "any" = some (.builtin "any") := by decide +kernel
theorem bt_all : bootBuiltins "all" = some (.builtin "all") := by decide +kernel
theorem bt_max : bootBuiltins "max" = some (.builtin "max") := by decide +kernel
theorem bt_min : bootBuiltins "min" = some (.builtin "min") := by decide +kernel
theorem bt_sorted : bootBuiltins "sorted" = some (.builtin "sorted") := by decide +kernel
theorem bt_isinstance : bootBuiltins "isinstance" = some (.builtin "isinstance") := by decide +kernel
theorem bt_int : bootBuiltins "int" = some (.type "int") := by decide +kernel
theorem bt_tuple : bootBuiltins "tuple" = some (.type "tuple") := by decide +kernel
theorem bt_list : bootBuiltins "list" = some (.type "list") := by decide +kernel
theorem bt_str : bootBuiltins "str" = some (.type "str") := by decide +kernel
theorem bt_bool : bootBuiltins "bool" = some (.type "bool") := by decide +kernel
theorem bt_set : bootBuiltins "set" = some (.type "set") := by decide +kernel

section
variable {X : Cx} {E : L2.St → XK} {a b c e o tg : Expr} {es : List Expr} {wa wb wc w wo wd wk wv : DE} {wA : DA} {pos : Pos} {u t : DT}
/-! ### a list that changes -/
def dAppend (wo wa : DE) : DE := fun Γ M R XR => wo Γ M (fun x M1 => ∃ p ds0, x = .loc p ∧ M1 p = some (.lst ds0) ∧ wa Γ M1 (fun y M2 => ∃ ds, M2 p = some (.lst ds) ∧ ds.length < sizeLine ∧ R .non (mup M2 p (.lst (ds ++ [y])))) XR) XR
theorem Reps.one_mk {K : PySem.W.Frag} {M : Mem} {H : Hp} {d : D} {v : V} (h : Rep K M H d v) : Reps K M H [d] [v] := ⟨v, [], rfl, h, rfl⟩
theorem append_imp {σ : L2.St} {H : Hp} {Q : VK} (h : lE X.K E (dAppend wo wa) σ H Q) : tBM X.K "list" rAppend (lE X.K E wo) (tCons (lE X.K E wa) tNil) σ H Q := by
  obtain ⟨Γ, M, R, XR, g, m, q, k, kx⟩ := h
  refine ⟨Γ, M, _, XR, g, m, q, fun x M1 vx H1 ⟨p, ds0, ex, hp, q1⟩ s1 g1 r1 => ?_, kx⟩
  subst ex
  have r1 : vx = .ref p := r1
  subst r1
  obtain ⟨us0, hH, _⟩ := g1 _ _ hp
  refine ⟨.inl ⟨rfl, _, SqL.of hH⟩, Γ, M1, _, XR, g1, m.stp s1, q1, fun y M2 vy H2 ⟨ds, hp2, hl, q2⟩ s2 g2 r2 => ?_, kx.step s1⟩
  obtain ⟨us, hH2, ru⟩ := g2 _ _ hp2
  exact ⟨p, us, vy, rfl, rfl, hH2, by rw [← ru.len]; exact hl, k _ _ _ _ q2 (s1.trans (s2.trans (stp_put hp2))) (good_put g2 hp2 ⟨_, upd_same, (ru.append (Reps.one_mk r2)).stp (stp_put hp2)⟩) rfl⟩
theorem de_append {apos cpos : Pos} (ho : PE X o (lE X.K E wo)) (ha : PE X a (lE X.K E wa)) (hbase : attributeBase o "append" X.env (eval o X.env) = eval o X.env := by rfl)
    (hfew : ((backTo cpos (starEach [a] X.env)).all (fun x => !x.1) && (backToKw cpos (keywordEach [] X.env)).all (fun x => x.1.isSome) && decide ([a].length + ([] : List Keyword).length + (if ([] : List Keyword).isEmpty then 0 else 1) < 30)) = true := by rfl)
    (hline : (apos.endLine == cpos.line) = true := by rfl) (hs : starEach [a] X.env = (false, eval a X.env) :: starEach [] X.env := by rfl) (hplain : (backTo cpos (starEach [] X.env)).any (·.1) = false := by rfl) :
    PE X (.Call (.Attribute o "append" apos) [a] [] cpos) (lE X.K E (dAppend wo wa)) :=
  PE.imp (pe_bm PySem.F.plainAttrs_list PySem.F.slot_list_append PySem.F.type_list_append mt_append ho (pa_cons ha pa_nil hs) hbase hfew hline hs hplain) fun _ _ _ => append_imp
/-! ### dicts -/
variable {κ : Type} [DecidableEq κ]
def look {α : Type} (kvs : List (κ × α)) (k : κ) : Option α := (kvs.find? fun kv => decide (kv.1 = k)).map (·.2)
def put {α : Type} (kvs : List (κ × α)) (k : κ) (v : α) : List (κ × α) :=
  if (kvs.any fun kv => decide (kv.1 = k)) = true then kvs.map (fun kv => if kv.1 = k then (kv.1, v) else kv) else kvs ++ [(k, v)]
def keyK : D → Option Key
  | .int i => some (.inl i)
  | .str x => some (.inr x)
  | _ => none
def keyT : D → Option (List Key)
  | .tup ds => ds.mapM keyK
  | _ => none
/-- a dict's pairs, keys ints and texts; keys rows of such -/
def pairsK (M : Mem) : D → Option (List (Key × D))
  | .dK ks ds => some (ks.zip ds)
  | .loc a => match M a with
    | some (.dK kvs) => some kvs
    | _ => none
  | _ => none
def pairsT (M : Mem) : D → Option (List (List Key × D))
  | .dT ks ds => some (ks.zip ds)
  | .loc a => match M a with
    | some (.dT kvs) => some kvs
    | _ => none
  | _ => none
/-- what a dict has at a key: none where there is no such dict or key -/
def dget (M : Mem) (x y : D) : Option (Option D) :=
  match pairsT M x with
  | some kvs => (keyT y).map (look kvs)
  | none => match pairsK M x with
    | some kvs => (keyK y).map (look kvs)
    | none => none
def dput (M : Mem) (x y v : D) : Option Mem :=
  match x with
  | .loc a => match M a with
    | some (.dT kvs) => if kvs.length < sizeLine then (keyT y).map fun k => mup M a (.dT (put kvs k v)) else none
    | some (.dK kvs) => if kvs.length < sizeLine then (keyK y).map fun k => mup M a (.dK (put kvs k v)) else none
    | _ => none
  | _ => none
theorem keyK_rep {K : PySem.W.Frag} {M : Mem} {H : Hp} {y : D} {k : Key} {v : V} (e : keyK y = some k) (r : Rep K M H y v) : v = kV k := by
  cases y <;> simp [keyK] at e
  · subst e; exact r
  · subst e; exact r
theorem keyT_reps {K : PySem.W.Frag} {M : Mem} {H : Hp} : ∀ {ds : List D} {k : List Key} {vs : List V}, ds.mapM keyK = some k → Reps K M H ds vs → vs = k.map kV
  | [], k, vs, e, r => by
    have r : vs = [] := r
    simp at e
    rw [r, e]; rfl
  | d :: ds, k, vs, e, r => by
    obtain ⟨v, t, rfl, r1, r2⟩ := r
    rw [List.mapM_cons] at e
    cases h1 : keyK d with
    | none => rw [h1] at e; cases e
    | some k1 =>
      cases h2 : ds.mapM keyK with
      | none => rw [h1, h2] at e; cases e
      | some k2 =>
        rw [h1, h2] at e
        have e : some (k1 :: k2) = some k := e
        cases e
        rw [keyK_rep h1 r1, keyT_reps h2 r2]; rfl
theorem keyT_rep {K : PySem.W.Frag} {M : Mem} {H : Hp} {y : D} {k : List Key} {v : V} (e : keyT y = some k) (r : Rep K M H y v) : ∃ b, v = .ref b ∧ H b = some (.tup (k.map kV)) := by
  cases y <;> simp only [keyT] at e <;> try cases e
  obtain ⟨b, vs, rfl, hb, _, rr⟩ := r
  exact ⟨b, rfl, by rw [hb, keyT_reps e rr]⟩
theorem look_rep {K : PySem.W.Frag} {M : Mem} {H : Hp} (k : κ) : ∀ {kvs : List (κ × D)} {vs : List V}, Reps K M H (kvs.map (·.2)) vs → (look kvs k = none ∧ valV ((kvs.map (·.1)).zip vs) k = none) ∨ ∃ d v, look kvs k = some d ∧ valV ((kvs.map (·.1)).zip vs) k = some v ∧ Rep K M H d v
  | [], vs, r => .inl ⟨rfl, rfl⟩
  | (j, d) :: kvs, vs, r => by
    obtain ⟨v, t, rfl, r1, r2⟩ := r
    by_cases e : j = k
    · exact .inr ⟨d, v, by simp [look, e], valV_pos (p := (j, v)) e, r1⟩
    · have e1 : look ((j, d) :: kvs) k = look kvs k := by simp [look, e]
      have e2 : valV (((j :: kvs.map (·.1))).zip (v :: t)) k = valV ((kvs.map (·.1)).zip t) k := valV_neg (p := (j, v)) e
      rw [e1]
      show (look kvs k = none ∧ valV (((j :: kvs.map (·.1))).zip (v :: t)) k = none) ∨ ∃ d' v', look kvs k = some d' ∧ valV (((j :: kvs.map (·.1))).zip (v :: t)) k = some v' ∧ Rep K M H d' v'
      rw [e2]
      exact look_rep k r2
theorem pairsT_at {K : PySem.W.Frag} {M : Mem} {H : Hp} {x : D} {kvs : List (List Key × D)} {v : V} (g : Good K M H) (e : pairsT M x = some kvs) (r : Rep K M H x v) : ∃ a vs, v = .ref a ∧ H a = some (.dT ((kvs.map (·.1)).zip vs)) ∧ Reps K M H (kvs.map (·.2)) vs := by
  cases x <;> simp only [pairsT] at e <;> try cases e
  case dT ks ds =>
    obtain ⟨a, vs, rfl, ha, m, l, rr⟩ := r
    exact ⟨a, vs, rfl, by rw [ha, List.map_fst_zip (by omega)], by rw [List.map_snd_zip (by omega)]; exact rr⟩
  case loc a =>
    split at e
    · next q =>
      cases e
      obtain ⟨vs, ha, rr⟩ := g _ _ q
      exact ⟨a, vs, r, ha, rr⟩
    · cases e
theorem pairsK_at {K : PySem.W.Frag} {M : Mem} {H : Hp} {x : D} {kvs : List (Key × D)} {v : V} (g : Good K M H) (e : pairsK M x = some kvs) (r : Rep K M H x v) : ∃ a vs, v = .ref a ∧ H a = some (.dK ((kvs.map (·.1)).zip vs)) ∧ Reps K M H (kvs.map (·.2)) vs := by
  cases x <;> simp only [pairsK] at e <;> try cases e
  case dK ks ds =>
    obtain ⟨a, vs, rfl, ha, m, l, rr⟩ := r
    exact ⟨a, vs, rfl, by rw [ha, List.map_fst_zip (by omega)], by rw [List.map_snd_zip (by omega)]; exact rr⟩
  case loc a =>
    split at e
    · next q =>
      cases e
      obtain ⟨vs, ha, rr⟩ := g _ _ q
      exact ⟨a, vs, r, ha, rr⟩
    · cases e
theorem dget_at {K : PySem.W.Frag} {M : Mem} {H : Hp} {x y : D} {r : Option D} {vx vy : V} (g : Good K M H) (e : dget M x y = some r) (rx : Rep K M H x vx) (ry : Rep K M H y vy) :
    ∃ a o, vx = .ref a ∧ DGet H a vy o ∧ o.isSome = r.isSome ∧ ∀ d, r = some d → ∃ v, o = some v ∧ Rep K M H d v := by
  unfold dget at e
  split at e
  · next kvs e1 =>
    cases e2 : keyT y with
    | none => rw [e2] at e; cases e
    | some k =>
      rw [e2] at e
      have e : some (look kvs k) = some r := e
      cases e
      obtain ⟨a, vs, rfl, ha, rr⟩ := pairsT_at g e1 rx
      obtain ⟨b, rfl, hb⟩ := keyT_rep e2 ry
      refine ⟨a, _, rfl, DGet.t ha hb, ?_⟩
      rcases look_rep k rr with ⟨h1, h2⟩ | ⟨d, v, h1, h2, h3⟩
      · rw [h1, h2]; exact ⟨rfl, fun _ z => by cases z⟩
      · rw [h1, h2]; exact ⟨rfl, fun _ z => by cases z; exact ⟨v, rfl, h3⟩⟩
  · split at e
    · next kvs e1 =>
      cases e2 : keyK y with
      | none => rw [e2] at e; cases e
      | some k =>
        rw [e2] at e
        have e : some (look kvs k) = some r := e
        cases e
        obtain ⟨a, vs, rfl, ha, rr⟩ := pairsK_at g e1 rx
        have hk := keyK_rep e2 ry
        subst hk
        refine ⟨a, _, rfl, DGet.k ha, ?_⟩
        rcases look_rep k rr with ⟨h1, h2⟩ | ⟨d, v, h1, h2, h3⟩
        · rw [h1, h2]; exact ⟨rfl, fun _ z => by cases z⟩
        · rw [h1, h2]; exact ⟨rfl, fun _ z => by cases z; exact ⟨v, rfl, h3⟩⟩
    · cases e
theorem any_zip (k : κ) : ∀ {kvs : List (κ × D)} {vs : List V}, (kvs.map (·.2)).length = vs.length → (((kvs.map (·.1)).zip vs).any fun kv => decide (kv.1 = k)) = (kvs.any fun kv => decide (kv.1 = k))
  | [], [], _ => rfl
  | [], _ :: _, h => by simp at h
  | _ :: _, [], h => by simp at h
  | (j, d) :: kvs, v :: vs, h => by
    have ih := any_zip k (kvs := kvs) (vs := vs) (by simpa using h)
    rw [List.map_cons, List.zip_cons_cons, List.any_cons, List.any_cons, ih]
theorem put_rep {K : PySem.W.Frag} {M : Mem} {H : Hp} (k : κ) {d : D} {v : V} (r : Rep K M H d v) {kvs : List (κ × D)} {vs : List V} (rr : Reps K M H (kvs.map (·.2)) vs) : ∃ ws, putK ((kvs.map (·.1)).zip vs) k v = ((put kvs k d).map (·.1)).zip ws ∧ Reps K M H ((put kvs k d).map (·.2)) ws := by
  unfold putK put
  rw [any_zip k rr.len]
  split
  · have go : ∀ {kvs : List (κ × D)} {vs : List V}, Reps K M H (kvs.map (·.2)) vs → ∃ ws, (((kvs.map (·.1)).zip vs).map fun kv => if kv.1 = k then (kv.1, v) else kv) = ((kvs.map fun kv => if kv.1 = k then (kv.1, d) else kv).map (·.1)).zip ws ∧ Reps K M H ((kvs.map fun kv => if kv.1 = k then (kv.1, d) else kv).map (·.2)) ws := by
      intro kvs
      induction kvs with
      | nil => intro vs q; exact ⟨[], rfl, rfl⟩
      | cons p kvs ih =>
        intro vs q
        obtain ⟨j, x⟩ := p
        obtain ⟨y, t, rfl, r1, r2⟩ := q
        obtain ⟨ws, e, rw'⟩ := ih r2
        by_cases h : j = k
        · refine ⟨v :: ws, ?_, ?_⟩
          · simp only [List.map_cons, List.zip_cons_cons, h, if_true] at e ⊢
            rw [e]
          · simp only [List.map_cons, h, if_true]
            exact ⟨v, ws, rfl, r, rw'⟩
        · refine ⟨y :: ws, ?_, ?_⟩
          · simp only [List.map_cons, List.zip_cons_cons, h, if_false] at e ⊢
            rw [e]
          · simp only [List.map_cons, h, if_false]
            exact ⟨y, ws, rfl, r1, rw'⟩
    exact go rr
  · refine ⟨vs ++ [v], ?_, ?_⟩
    · rw [List.map_append, List.zip_append (by simpa using rr.len)]; rfl
    · rw [List.map_append]; exact rr.append (Reps.one_mk r)
def dDNewT : DE := fun _ M R _ => ∀ p, M p = none → R (.loc p) (mup M p (.dT []))
theorem de_dnewT : PE X (.Dict [] [] pos) (lE X.K E dDNewT) := PE.imp pe_dnewT fun σ H Q ⟨Γ, M, R, XR, g, m, q, k, kx⟩ p hp => k _ _ _ _ (q p (g.free hp)) (stp_loc hp) (good_loc g hp ⟨[], upd_same, rfl⟩) rfl
def dDNewK : DE := fun _ M R _ => ∀ p, M p = none → R (.loc p) (mup M p (.dK []))
theorem de_dnewK : PE X (.Dict [] [] pos) (lE X.K E dDNewK) := PE.imp pe_dnewK fun σ H Q ⟨Γ, M, R, XR, g, m, q, k, kx⟩ p hp => k _ _ _ _ (q p (g.free hp)) (stp_loc hp) (good_loc g hp ⟨[], upd_same, rfl⟩) rfl
def dDIn (wk wd : DE) : DE := fun Γ M R XR => wk Γ M (fun y M1 => wd Γ M1 (fun x M2 => ∃ o, dget M2 x y = some o ∧ R (.bl o.isSome) M2) XR) XR
def dDNotIn (wk wd : DE) : DE := fun Γ M R XR => wk Γ M (fun y M1 => wd Γ M1 (fun x M2 => ∃ o, dget M2 x y = some o ∧ R (.bl (!o.isSome)) M2) XR) XR
def dDGet (wd wk : DE) : DE := fun Γ M R XR => wd Γ M (fun x M1 => wk Γ M1 (fun y M2 => ∃ d, dget M2 x y = some (some d) ∧ R d M2) XR) XR
theorem din_imp {σ : L2.St} {H : Hp} {Q : VK} (h : lE X.K E (dDIn wk wd) σ H Q) : tDIn (lE X.K E wk) (lE X.K E wd) σ H Q := by
  obtain ⟨Γ, M, R, XR, g, m, q, k, kx⟩ := h
  refine ⟨Γ, M, _, XR, g, m, q, fun y M1 vy H1 q1 s1 g1 r1 => ⟨Γ, M1, _, XR, g1, m.stp s1, q1, fun x M2 vx H2 ⟨o, e, q2⟩ s2 g2 r2 => ?_, kx.step s1⟩, kx⟩
  obtain ⟨a, o', rfl, hg, e2, _⟩ := dget_at g2 e r2 (r1.stp s2)
  exact ⟨a, o', rfl, hg, by rw [e2]; exact k _ _ _ _ q2 (s1.trans s2) g2 rfl⟩
theorem dnotin_imp {σ : L2.St} {H : Hp} {Q : VK} (h : lE X.K E (dDNotIn wk wd) σ H Q) : tDNotIn (lE X.K E wk) (lE X.K E wd) σ H Q := by
  obtain ⟨Γ, M, R, XR, g, m, q, k, kx⟩ := h
  refine ⟨Γ, M, _, XR, g, m, q, fun y M1 vy H1 q1 s1 g1 r1 => ⟨Γ, M1, _, XR, g1, m.stp s1, q1, fun x M2 vx H2 ⟨o, e, q2⟩ s2 g2 r2 => ?_, kx.step s1⟩, kx⟩
  obtain ⟨a, o', rfl, hg, e2, _⟩ := dget_at g2 e r2 (r1.stp s2)
  exact ⟨a, o', rfl, hg, by rw [e2]; exact k _ _ _ _ q2 (s1.trans s2) g2 rfl⟩
theorem de_din (hu : X.A.units + 1 < cLine) (hi : PE X a (lE X.K E wk)) (ho : PE X o (lE X.K E wd)) (h1 : behindInMarks .In o = false := by rfl) : PE X (.Compare a [.In] [o] pos) (lE X.K E (dDIn wk wd)) := PE.imp (pe_cmp (pc_din hu hi ho) h1) fun _ _ _ => din_imp
theorem de_dnotin (hu : X.A.units + 1 < cLine) (hi : PE X a (lE X.K E wk)) (ho : PE X o (lE X.K E wd)) (h1 : behindInMarks .NotIn o = false := by rfl) : PE X (.Compare a [.NotIn] [o] pos) (lE X.K E (dDNotIn wk wd)) := PE.imp (pe_cmp (pc_dnotin hu hi ho) h1) fun _ _ _ => dnotin_imp
theorem dt_din (hu : X.A.units + 1 < cLine) (hi : PE X a (lE X.K E wk)) (ho : PE X o (lE X.K E wd)) (h1 : behindInMarks .In o = false := by rfl) : PT X (.Compare a [.In] [o] pos) (lT X.K E (dB (dDIn wk wd))) := PT.imp (pt_cmp (pc_din hu hi ho) h1) fun σ H Q ⟨Γ, M, R, XR, g, m, q, k, kx⟩ => din_imp ⟨Γ, M, _, XR, g, m, q, fun d M' v H' ⟨b, e, q1⟩ s1 g1 r1 => by
    subst e
    have r1 : v = .bl b := r1
    exact ⟨b, r1, k _ _ _ q1 s1 g1⟩, kx⟩
theorem dt_dnotin (hu : X.A.units + 1 < cLine) (hi : PE X a (lE X.K E wk)) (ho : PE X o (lE X.K E wd)) (h1 : behindInMarks .NotIn o = false := by rfl) : PT X (.Compare a [.NotIn] [o] pos) (lT X.K E (dB (dDNotIn wk wd))) := PT.imp (pt_cmp (pc_dnotin hu hi ho) h1) fun σ H Q ⟨Γ, M, R, XR, g, m, q, k, kx⟩ => dnotin_imp ⟨Γ, M, _, XR, g, m, q, fun d M' v H' ⟨b, e, q1⟩ s1 g1 r1 => by
    subst e
    have r1 : v = .bl b := r1
    exact ⟨b, r1, k _ _ _ q1 s1 g1⟩, kx⟩
theorem de_dget (hu : X.A.units + 1 < cLine) (ho : PE X o (lE X.K E wd)) (hi : PE X a (lE X.K E wk)) (hs : NoSl a) : PE X (.Subscript o a pos) (lE X.K E (dDGet wd wk)) := PE.imp (pe_dget hu ho hi hs) fun σ H Q ⟨Γ, M, R, XR, g, m, q, k, kx⟩ =>
  ⟨Γ, M, _, XR, g, m, q, fun x M1 vx H1 q1 s1 g1 r1 => ⟨Γ, M1, _, XR, g1, m.stp s1, q1, fun y M2 vy H2 ⟨d, e, q2⟩ s2 g2 r2 => by
    obtain ⟨a, o', rfl, hg, e2, e3⟩ := dget_at g2 e (r1.stp s2) r2
    obtain ⟨v, rfl, rv⟩ := e3 d rfl
    exact ⟨a, v, rfl, hg, k _ _ _ _ q2 (s1.trans s2) g2 rv⟩, kx.step s1⟩, kx⟩
def dDPut (wd wk wv : DE) : DS := fun DD Γ M => wv Γ M (fun v M1 => wd Γ M1 (fun x M2 => wk Γ M2 (fun y M3 => ∃ M4, dput M3 x y v = some M4 ∧ DD.nx Γ M4) fun e M3 => DD.xr e Γ M3) fun e M3 => DD.xr e Γ M3) fun e M3 => DD.xr e Γ M3
theorem ds_dput {pos' : Pos} (hu : X.A.units + 1 < cLine) (ho : PE X o (lE X.K E wd)) (hi : PE X a (lE X.K E wk)) (hv : PE X b (lE X.K E wv)) (hs : swapsWith b (some (.Subscript o a pos')) pos.line X.env = pure false) :
    PS X (.Assign [.Subscript o a pos'] b pos) (lS X.K E (dDPut wd wk wv)) := PS.imp (ps_dput hu ho hi hv hs) fun D σ H ⟨Γ, M, DD, g, m, q, k⟩ => by
  refine ⟨Γ, M, _, _, g, m, q, fun v M1 vv H1 q1 s1 g1 r1 => ⟨Γ, M1, _, _, g1, m.stp s1, q1, fun x M2 vx H2 q2 s2 g2 r2 => ⟨Γ, M2, _, _, g2, m.stp (s1.trans s2), q2, fun y M3 vy H3 ⟨M4, e, q3⟩ s3 g3 r3 => ?_, (k.step (s1.trans s2)).kx (m.stp (s1.trans s2))⟩, (k.step s1).kx (m.stp s1)⟩, k.kx m⟩
  have st := s1.trans (s2.trans s3)
  obtain ⟨p, rfl⟩ : ∃ p, x = .loc p := by cases x <;> first | exact ⟨_, rfl⟩ | (simp [dput] at e)
  simp only [dput] at e
  · have r2 : vx = .ref p := r2
    subst r2
    split at e
    · next kvs hp =>
      split at e
      · next hl =>
        cases e2 : keyT y with
        | none => rw [e2] at e; cases e
        | some kk =>
          rw [e2] at e
          have e : some (mup M3 p (.dT (put kvs kk v))) = some M4 := e
          cases e
          obtain ⟨vs, hH, rr⟩ := g3 _ _ hp
          obtain ⟨b, rfl, hb⟩ := keyT_rep e2 r3
          obtain ⟨ws, e4, rw4⟩ := put_rep kk (r1.stp (s2.trans s3)) rr
          refine ⟨p, _, rfl, .inr ⟨_, kk, b, hH, rfl, hb, by rw [zip_len (by simp) rr.len, List.length_map]; exact hl, rfl⟩, ?_⟩
          rw [e4]
          exact k.nx _ _ _ _ q3 (st.trans (stp_put hp)) (good_put g3 hp ⟨ws, upd_same, rw4.stp (stp_put hp)⟩) (m.stp (st.trans (stp_put hp)))
      · cases e
    · next kvs hp =>
      split at e
      · next hl =>
        cases e2 : keyK y with
        | none => rw [e2] at e; cases e
        | some kk =>
          rw [e2] at e
          have e : some (mup M3 p (.dK (put kvs kk v))) = some M4 := e
          cases e
          obtain ⟨vs, hH, rr⟩ := g3 _ _ hp
          have hk := keyK_rep e2 r3
          subst hk
          obtain ⟨ws, e4, rw4⟩ := put_rep kk (r1.stp (s2.trans s3)) rr
          refine ⟨p, _, rfl, .inl ⟨_, kk, hH, rfl, by rw [zip_len (by simp) rr.len, List.length_map]; exact hl, rfl⟩, ?_⟩
          rw [e4]
          exact k.nx _ _ _ _ q3 (st.trans (stp_put hp)) (good_put g3 hp ⟨ws, upd_same, rw4.stp (stp_put hp)⟩) (m.stp (st.trans (stp_put hp)))
      · cases e
    · cases e
end
end DL
namespace DL
open PySem PySem.Spec PyProof.Rows L2
section
variable {X : Cx} {E : L2.St → XK} {a b c e o tg : Expr} {es : List Expr} {wa wb wc w wo wd wk wv : DE} {wA : DA} {pos : Pos} {u t : DT}
/-- the built-in class of data -/
def tyD (M : Mem) : D → Option String
  | .non => some "NoneType"
  | .bl _ => some "bool"
  | .int _ => some "int"
  | .str _ => some "str"
  | .tup _ => some "tuple"
  | .lst _ => some "list"
  | .dK _ _ => some "dict"
  | .dT _ _ => some "dict"
  | .loc a => match M a with
    | some (.lst _) => some "list"
    | some (.dK _) => some "dict"
    | some (.dT _) => some "dict"
    | _ => none
  | _ => none
theorem tyD_ok {K : PySem.W.Frag} {M : Mem} {H : Hp} {d : D} {v : V} {T : String} (g : Good K M H) (r : Rep K M H d v) (h : tyD M d = some T) : TyX K H v (.type T) := by
  cases d <;> simp only [tyD] at h <;> try cases h
  case non => have r : v = _ := r; subst r; exact .base .non
  case bl => have r : v = _ := r; subst r; exact .base (.bl _)
  case int => have r : v = _ := r; subst r; exact .base (.int _)
  case str => have r : v = _ := r; subst r; exact .base (.str _)
  case tup => obtain ⟨a, vs, rfl, ha, _⟩ := r; exact .base (.tup ha)
  case lst => obtain ⟨a, vs, rfl, ha, _⟩ := r; exact .base (.lst ha)
  case dK => obtain ⟨a, vs, rfl, ha, _⟩ := r; exact .base (.dK ha)
  case dT => obtain ⟨a, vs, rfl, ha, _⟩ := r; exact .base (.dT ha)
  case loc a =>
    have r : v = .ref a := r
    subst r
    split at h
    · next q => cases h; obtain ⟨vs, ha, _⟩ := g _ _ q; exact .base (.lst ha)
    · next q => cases h; obtain ⟨vs, ha, _⟩ := g _ _ q; exact .base (.dK ha)
    · next q => cases h; obtain ⟨vs, ha, _⟩ := g _ _ q; exact .base (.dT ha)
    · cases h
/-- isinstance(x, T), T a built-in class -/
def dIsi (T : String) (w : DE) : DE := fun Γ M R XR => w Γ M (fun d M1 => ∃ t b, tyD M1 d = some t ∧ kitB t T = some b ∧ R (.bl b) M1) XR
theorem de_isi {T : String} {x : Str} {p p2 : Pos} (hg : Gl X "isinstance") (hm : X.mg "isinstance" = none) (hg2 : Gl X x) (hm2 : X.mg x = none) (hv : bootBuiltins x = some (.type T)) (ha : PE X a (lE X.K E w))
    (hn : x ≠ "__name__" := by decide) (hd : (x == ("__debug__" : Str)) = false := by decide)
    (he : starEach [a, .Name x p2] X.env = (false, eval a X.env) :: starEach [.Name x p2] X.env := by rfl) (he2 : starEach [.Name x p2] X.env = (false, eval (.Name x p2) X.env) :: starEach [] X.env := by rfl) (hpl : (backTo pos (starEach [.Name x p2] X.env)).any (·.1) = false := by rfl) :
    PE X (.Call (.Name "isinstance" p) [a, .Name x p2] [] pos) (lE X.K E (dIsi T w)) :=
  PE.imp (pe_callB call_isi hg hm bt_isinstance (pa_cons ha (pa_cons (pe_bltn (v := .ty T) hg2 hm2 hv rfl hn hd) pa_nil he2) he) (by decide) (by decide) he hpl) fun σ H Q ⟨Γ, M, R, XR, g, m, q, k, kx⟩ =>
    ⟨Γ, M, _, XR, g, m, q, fun d M1 v H1 ⟨t, b, e1, e2, q1⟩ s1 g1 r1 => ⟨v, .ty T, _, _, b, rfl, .ty T, tyD_ok g1 r1 e1, kit_ty e2, k _ _ _ _ q1 s1 g1 rfl⟩, kx⟩
/-- len(set(xs)) of texts that are all unlike -/
def dLenSet (w : DE) : DE := fun Γ M R XR => w Γ M (fun d M1 => ∃ xs : List Str, getL M1 d = some (xs.map D.str) ∧ xs.length ≤ 4000 ∧ R (.int ((DLS.met xs xs.length).length : Nat)) M1) XR
theorem de_lenSet {p p2 q : Pos} (hc : X.calm = true) (hg : Gl X "len") (hm : X.mg "len" = none) (hg2 : Gl X "set") (hm2 : X.mg "set" = none) (ha : PE X a (lE X.K E w)) (na : starEach [a] X.env = (false, eval a X.env) :: starEach [] X.env := by rfl) :
    PE X (.Call (.Name "len" p) [.Call (.Name "set" p2) [a] [] q] [] pos) (lE X.K E (dLenSet w)) := by
  refine ⟨fun pins s σ H Q I ⟨Γ, M, R, XR, g, m, h, k, kx⟩ => ?_⟩
  refine Call_ (ld_blt I hg hm PySem.boot_len (PyProof.Rows.callWith_builtin1 (PyProof.Rows.args_cons ?_ rfl) rfl rfl))
  refine Call_ (ld_blt I hg2 hm2 bt_set (PyProof.Rows.callWith_type1 (PyProof.Rows.args_cons (thn (ha.run pins s σ H (fun v H1 => ∃ (xs : List Str) (l : Addr), v = .ref l ∧ SqL X.K H1 l (xs.map V.str) ∧ xs.length ≤ 4000 ∧ Q (.int ((DLS.met xs xs.length).length : Nat)) H1) I
    ⟨Γ, M, _, XR, g, m, h, fun d M1 v H1 ⟨xs, e, hl, q1⟩ s1 g1 r1 => ?_, kx⟩) fun v s1 ⟨x, H1, I1, r1, xs, l, e, hq, hl, q1⟩ => PyProof.Rows.args_nil ?_) na) na rfl))
  · obtain ⟨a, vs, rfl, hS, rr⟩ := (getL_like e).sq g1 r1
    have ev := rr.strs
    subst ev
    exact ⟨xs, a, rfl, hS, hl, k _ _ _ _ q1 s1 g1 rfl⟩
  · subst e
    cases r1
    obtain ⟨its, r, pl, hz⟩ := I1.list hq
    have sz : its.toArray.size = xs.length := by rw [List.size_toArray, ← r.length, List.length_map]
    refine DLS.call_set_strs (I1.ok.hd hc) pl.isList (by simpa using r.strs) (by rw [sz]; unfold scanBound; omega) fun h' tk hS hk => PyProof.Rows.args_nil ?_
    rw [sz] at hS
    have hm := DLS.met_len xs xs.length
    obtain ⟨o, es, ep, t, ho, hex, hd, _, _, _, hf, hn⟩ := hS
    have I2 : Inv X pins σ H1 { s1 with heap := h', toks := tk } := I1.kept fun b o e => hk b o (Heap.lt_size e) e
    exact call_len_set ho hex hd hf (by rw [hn]; omega) ⟨.int _, H1, I2.tok _, ⟨_, by rw [hn]⟩, q1⟩
end
end DL
namespace DL
open PySem PySem.Spec PyProof.Rows L2

/-! ### how readings are shown -/
theorem rt_here {R : Pst} {d : D} {M : Mem} (h : R d M) : (retTo R X0).rt d M := ⟨M, Sub.refl M, h⟩
theorem rt_sub {R : Pst} {d : D} {M M' : Mem} (s : Sub M' M) (h : R d M') : (retTo R X0).rt d M := ⟨M', s, h⟩
theorem nx_here {R : Pst} {Γ : Gam} {M : Mem} (h : R .non M) : (retTo R X0).nx Γ M := ⟨M, Sub.refl M, h⟩
/-- a loop, by what holds ahead of each turn -/
theorem for_inv {gg : DG} {b : DS} {G : Mem → Prop} {DD : DEnds} {ds : List D} {Γ : Gam} {M : Mem} (I : Nat → Gam → Mem → Prop) (h0 : I 0 Γ M) (hG : ∀ i Γ M, I i Γ M → G M)
    (hs : ∀ i d Γ M (N : Gam → Mem → Prop), ds[i]? = some d → I i Γ M → (∀ Γ' M', I (i + 1) Γ' M' → N Γ' M') → gg d Γ M fun Γ1 M1 => b { DD with nx := N, ct := N, bk := DD.nx } Γ1 M1) (hd : ∀ Γ M, I ds.length Γ M → DD.nx Γ M) : forGo gg b G DD ds Γ M := by
  have key : ∀ (es : List D) (i : Nat) (Γ : Gam) (M : Mem), ds.drop i = es → I i Γ M → i ≤ ds.length → forGo gg b G DD es Γ M := by
    intro es
    induction es with
    | nil =>
      intro i Γ M e hi hl
      have : ds.length ≤ i := List.drop_eq_nil_iff.mp e
      have : i = ds.length := by omega
      subst this
      exact ⟨hG _ _ _ hi, hd _ _ hi⟩
    | cons d es ih =>
      intro i Γ M e hi hl
      have hlt : i < ds.length := by
        by_cases h : i < ds.length
        · exact h
        · rw [List.drop_of_length_le (by omega)] at e; cases e
      rw [List.drop_eq_getElem_cons hlt] at e
      injection e with e1 e2
      exact ⟨hG _ _ _ hi, hs i d Γ M _ (by rw [List.getElem?_eq_getElem hlt, e1]) hi fun Γ' M' h' => ih (i + 1) Γ' M' e2 h' hlt⟩
  exact key ds 0 Γ M (by simp) h0 (Nat.zero_le _)
/-- one turn of a comprehension: from the memory M' the item d gives f d and leaves the memory -/
def Gives (gg : DG) (tt : DT) (te : DE) (Γw : Gam) (M' : Mem) (d x : D) : Prop :=
  ∀ (K : Pst) (F : Mem → Prop), K x M' → gg d Γw M' fun Γ1 M1 => tt Γ1 M1 (fun b M2 => if b = true then te Γ1 M2 K X0 else F M2) X0
/-- the item is left out -/
def Skips (gg : DG) (tt : DT) (te : DE) (Γw : Gam) (M' : Mem) (d : D) : Prop :=
  ∀ (K : Pst) (F : Mem → Prop), F M' → gg d Γw M' fun Γ1 M1 => tt Γ1 M1 (fun b M2 => if b = true then te Γ1 M2 K X0 else F M2) X0
theorem sub_up {M : Mem} {A : Addr} {o : MO} (h : M A = none) : Sub M (mup M A o) := sub_new h
theorem mdel_mup {M : Mem} {A : Addr} {o : MO} (h : M A = none) : mdel (mup M A o) A = M := by
  funext b
  by_cases e : b = A
  · rw [e, mdel_same, h]
  · rw [mdel_ne e, mup_ne e]
/-- pure items -/
theorem lc_map {gg : DG} {tt : DT} {te : DE} {Γw : Gam} {ds : List D} {M : Mem} {F : Addr → Mem → Prop} (f : D → D) (hl : ds.length ≤ sizeLine) (h : ∀ d ∈ ds, ∀ M', Sub M M' → Gives gg tt te Γw M' d (f d))
    (q : ∀ A, M A = none → F A (mup M A (.lst (ds.map f)))) : ∀ A, M A = none → lcGo gg tt te (fun _ => True) Γw A (F A) ds (mup M A (.lst [])) := fun A hA => by
  have key : ∀ (es done : List D), done ++ es = ds → lcGo gg tt te (fun _ => True) Γw A (F A) es (mup M A (.lst (done.map f))) := by
    intro es
    induction es with
    | nil =>
      intro done e
      rw [List.append_nil] at e
      exact ⟨trivial, by rw [e]; exact q A hA⟩
    | cons d es ih =>
      intro done e
      refine ⟨trivial, h d (by rw [← e]; simp) _ (sub_up hA) _ _ ?_⟩
      have hz := congrArg List.length e
      rw [List.length_append, List.length_cons] at hz
      refine ⟨done.map f, mup_same, by rw [List.length_map]; omega, ?_⟩
      rw [mup_mup]
      have := ih (done ++ [d]) (by rw [← e]; simp)
      rw [List.map_append] at this
      exact this
  exact key ds [] rfl
/-- frozen: F is lcF R -/
theorem lcF_mk {R : Pst} {M : Mem} {A : Addr} {ds : List D} (h : M A = none) (q : R (.lst ds) M) : lcF R A (mup M A (.lst ds)) := ⟨ds, mup_same, by rw [mdel_mup h]; exact q⟩
/-- pure items, some left out -/
theorem lc_filter {gg : DG} {tt : DT} {te : DE} {Γw : Gam} {ds : List D} {M : Mem} {F : Addr → Mem → Prop} (p : D → Bool) (f : D → D) (hl : ds.length ≤ sizeLine)
    (h : ∀ d ∈ ds, p d = true → ∀ M', Sub M M' → Gives gg tt te Γw M' d (f d)) (h' : ∀ d ∈ ds, p d = false → ∀ M', Sub M M' → Skips gg tt te Γw M' d)
    (q : ∀ A, M A = none → F A (mup M A (.lst ((ds.filter p).map f)))) : ∀ A, M A = none → lcGo gg tt te (fun _ => True) Γw A (F A) ds (mup M A (.lst [])) := fun A hA => by
  have key : ∀ (es done : List D), done ++ es = ds → lcGo gg tt te (fun _ => True) Γw A (F A) es (mup M A (.lst ((done.filter p).map f))) := by
    intro es
    induction es with
    | nil =>
      intro done e
      rw [List.append_nil] at e
      exact ⟨trivial, by rw [e]; exact q A hA⟩
    | cons d es ih =>
      intro done e
      have hm : d ∈ ds := by rw [← e]; simp
      have hz := congrArg List.length e
      rw [List.length_append, List.length_cons] at hz
      have hf := List.length_filter_le p done
      have nxt := ih (done ++ [d]) (by rw [← e]; simp)
      rw [List.filter_append] at nxt
      cases hp : p d with
      | true =>
        refine ⟨trivial, h d hm hp _ (sub_up hA) _ _ ⟨_, mup_same, by rw [List.length_map]; omega, ?_⟩⟩
        rw [mup_mup]
        simp only [List.filter_cons, hp, if_true, List.filter_nil, List.map_append, List.map_cons, List.map_nil] at nxt
        exact nxt
      | false =>
        refine ⟨trivial, h' d hm hp _ (sub_up hA) _ _ ?_⟩
        simp only [List.filter_cons, hp, Bool.false_eq_true, if_false, List.filter_nil, List.append_nil] at nxt
        exact nxt
  exact key ds [] rfl
/-- two clauses of pure items -/
theorem lc_map2 {gg : DG} {tt : DT} {wi1 : DI} {gg1 : DG} {tt1 : DT} {te : DE} {Γw : Gam} {vs1 : List Nat} {ds : List D} {M : Mem} {F : Addr → Mem → Prop} (f : D → List D) (hl : (ds.flatMap f).length ≤ sizeLine)
    (h : ∀ d ∈ ds, ∀ M', Sub M M' → ∀ (F' : Mem → Prop), gg d Γw M' fun Γ1 M1 => tt Γ1 M1 (fun b M2 => if b = true then wi1 Γ1 M2 (fun es G1 M3 => M3 = M' ∧ ∃ g : D → D, es.map g = f d ∧ G1 = (fun _ => True) ∧ ∀ e ∈ es, ∀ M'', Sub M M'' → Gives gg1 tt1 te (gWipe Γ1 vs1) M'' e (g e)) X0 else F' M2) X0)
    (mono : ∀ Γ M (R R' : List D → (Mem → Prop) → Mem → Prop), (∀ a b c, R a b c → R' a b c) → wi1 Γ M R X0 → wi1 Γ M R' X0)
    (monot : ∀ d Γ M (R R' : Gam → Mem → Prop), (∀ a b, R a b → R' a b) → gg d Γ M R → gg d Γ M R') (monoT : ∀ Γ M (R R' : Bool → Mem → Prop), (∀ a b, R a b → R' a b) → tt Γ M R X0 → tt Γ M R' X0)
    (q : ∀ A, M A = none → F A (mup M A (.lst (ds.flatMap f)))) : ∀ A, M A = none → lc2Go gg tt wi1 gg1 tt1 te (fun _ => True) Γw vs1 A (F A) ds (mup M A (.lst [])) := fun A hA => by
  have key : ∀ (es done : List D), done ++ es = ds → lc2Go gg tt wi1 gg1 tt1 te (fun _ => True) Γw vs1 A (F A) es (mup M A (.lst (done.flatMap f))) := by
    intro es
    induction es with
    | nil =>
      intro done e
      rw [List.append_nil] at e
      exact ⟨trivial, by rw [e]; exact q A hA⟩
    | cons d es ih =>
      intro done e
      have hm : d ∈ ds := by rw [← e]; simp
      have nxt := ih (done ++ [d]) (by rw [← e]; simp)
      rw [List.flatMap_append] at nxt
      simp only [List.flatMap_cons, List.flatMap_nil, List.append_nil] at nxt
      refine ⟨trivial, monot _ _ _ _ _ (fun Γ1 M1 hh => ?_) (h d hm _ (sub_up hA) fun M2 => lc2Go gg tt wi1 gg1 tt1 te (fun _ => True) Γw vs1 A (F A) es M2)⟩
      refine monoT _ _ _ _ (fun b M2 hh => ?_) hh
      cases b with
      | false => exact hh
      | true =>
        refine mono _ _ _ _ (fun xs G1 M3 hh => ?_) hh
        obtain ⟨rfl, g, eg, rfl, hgv⟩ := hh
        have hz : (done.flatMap f).length + (f d).length ≤ (ds.flatMap f).length := by
          rw [← e, List.flatMap_append, List.flatMap_cons]
          simp only [List.length_append]; omega
        rw [← eg] at nxt hz
        have inner : ∀ (ys dn : List D), dn ++ ys = xs → lcGo gg1 tt1 te (fun _ => True) (gWipe Γ1 vs1) A (lc2Go gg tt wi1 gg1 tt1 te (fun _ => True) Γw vs1 A (F A) es) ys (mup M A (.lst (done.flatMap f ++ dn.map g))) := by
          intro ys
          induction ys with
          | nil =>
            intro dn e'
            rw [List.append_nil] at e'
            exact ⟨trivial, by rw [e']; exact nxt⟩
          | cons y ys ihy =>
            intro dn e'
            have hzz := congrArg List.length e'
            rw [List.length_append, List.length_cons] at hzz
            rw [List.length_map] at hz
            refine ⟨trivial, hgv y (by rw [← e']; simp) _ (sub_up hA) _ _ ⟨_, mup_same, by rw [List.length_append, List.length_map]; omega, ?_⟩⟩
            rw [mup_mup, List.append_assoc]
            have := ihy (dn ++ [y]) (by rw [← e']; simp)
            rw [List.map_append] at this
            exact this
        have := inner xs [] rfl
        rw [List.map_nil, List.append_nil] at this
        exact this
  exact key ds [] rfl

/-! ranges -/
theorem rgs_mem {lo : Int} {n : Nat} {d : D} (h : d ∈ rgs lo n) : ∃ i, i < n ∧ d = .int (lo + (i : Int)) := by
  obtain ⟨i, hi, e⟩ := List.mem_iff_getElem.mp h
  obtain ⟨h1, h2⟩ := rgs_get (by rw [List.getElem?_eq_getElem hi, e] : (rgs lo n)[i]? = some d)
  exact ⟨i, h1, h2⟩
theorem rgs_map {lo : Int} {n : Nat} (f : D → D) : (rgs lo n).map f = (List.range n).map fun (i : Nat) => f (.int (lo + (i : Int))) := by
  unfold rgs; rw [List.map_map]; rfl
def onI (f : Nat → D) : D → D
  | .int i => f i.toNat
  | d => d
theorem lc_rg {gg : DG} {tt : DT} {te : DE} {Γw : Gam} {n : Nat} {m : Int} {M : Mem} {F : Addr → Mem → Prop} (f : Nat → D) (e : m = (n : Int)) (hl : n ≤ 100000) (h : ∀ i, i < n → ∀ M', Sub M M' → Gives gg tt te Γw M' (.int (i : Int)) (f i))
    (q : ∀ A, M A = none → F A (mup M A (.lst ((List.range n).map f)))) : ∀ A, M A = none → lcGo gg tt te (fun _ => True) Γw A (F A) (rgs 0 m.toNat) (mup M A (.lst [])) := by
  have e1 : m.toNat = n := by omega
  rw [e1]
  refine lc_map (onI f) (by rw [rgs_len]; exact Nat.le_trans hl (by decide)) (fun d hd M' sb => ?_) ?_
  · obtain ⟨i, hi, rfl⟩ := rgs_mem hd
    have := h i hi M' sb
    simp only [Int.zero_add]
    exact this
  · have e2 : (rgs 0 n).map (onI f) = (List.range n).map f := by
      rw [rgs_map]
      apply List.map_congr_left
      intro i _
      show f (0 + (i : Int)).toNat = f i
      rw [Int.zero_add]; rfl
    rw [e2]; exact q
theorem for_rg {gg : DG} {b : DS} {G : Mem → Prop} {DD : DEnds} {n : Nat} {m : Int} {Γ : Gam} {M : Mem} (I : Nat → Gam → Mem → Prop) (e : m = (n : Int)) (h0 : I 0 Γ M) (hG : ∀ i Γ M, I i Γ M → G M)
    (hs : ∀ i Γ M (N : Gam → Mem → Prop), i < n → I i Γ M → (∀ Γ' M', I (i + 1) Γ' M' → N Γ' M') → gg (.int (i : Int)) Γ M fun Γ1 M1 => b { DD with nx := N, ct := N, bk := DD.nx } Γ1 M1) (hd : ∀ Γ M, I n Γ M → DD.nx Γ M) : forGo gg b G DD (rgs 0 m.toNat) Γ M := by
  have e1 : m.toNat = n := by omega
  rw [e1]
  refine for_inv I h0 hG (fun i d Γ M N hi hI hN => ?_) (by rw [rgs_len]; exact hd)
  obtain ⟨h1, rfl⟩ := rgs_get hi
  rw [Int.zero_add]
  exact hs i Γ M N h1 hI hN

/-- a list that grows on -/
theorem lc_grow {gg : DG} {tt : DT} {te : DE} {Γw : Gam} {n : Nat} {m : Int} {M : Mem} {A : Addr} {N : Mem → Prop} {acc : List D} (f : Nat → D) (e : m = (n : Int)) (hA : M A = none) (hl : acc.length + n ≤ 100000)
    (h : ∀ i, i < n → ∀ M', Sub M M' → Gives gg tt te Γw M' (.int (i : Int)) (f i)) (q : N (mup M A (.lst (acc ++ (List.range n).map f)))) : lcGo gg tt te (fun _ => True) Γw A N (rgs 0 m.toNat) (mup M A (.lst acc)) := by
  have e1 : m.toNat = n := by omega
  rw [e1]
  have key : ∀ (k j : Nat), j + k = n → lcGo gg tt te (fun _ => True) Γw A N ((rgs 0 n).drop j) (mup M A (.lst (acc ++ (List.range j).map f))) := by
    intro k
    induction k with
    | zero =>
      intro j e
      have e : j = n := by omega
      subst e
      rw [List.drop_of_length_le (by rw [rgs_len]; omega)]
      exact ⟨trivial, q⟩
    | succ k ih =>
      intro j e
      have hj : j < (rgs 0 n).length := by rw [rgs_len]; omega
      have hx : (rgs 0 n)[j] = .int (j : Int) := by simp [rgs]
      rw [List.drop_eq_getElem_cons hj, hx]
      refine ⟨trivial, h j (by omega) _ (sub_up hA) _ _ ⟨_, mup_same, ?_, ?_⟩⟩
      · rw [List.length_append, List.length_map, List.length_range]
        exact Nat.lt_of_le_of_lt (show _ ≤ 100000 by omega) (by decide)
      · have := ih (j + 1) (by omega)
        rw [List.range_succ, List.map_append, ← List.append_assoc] at this
        rw [mup_mup]
        exact this
  have := key n 0 (by omega)
  simp only [List.drop_zero, List.range_zero, List.map_nil, List.append_nil] at this
  exact this
/-- two clauses, the first over a range -/
theorem lc2_rg {gg : DG} {tt : DT} {wi1 : DI} {gg1 : DG} {tt1 : DT} {te : DE} {Γw : Gam} {vs1 : List Nat} {A : Addr} {F : Mem → Prop} {n : Nat} {m : Int} (P : Nat → Mem) (e : m = (n : Int))
    (hs : ∀ i, i < n → ∀ (N : Mem → Prop), N (P (i + 1)) → gg (.int (i : Int)) Γw (P i) fun Γ1 M1 => tt Γ1 M1 (fun b M2 => if b = true then wi1 Γ1 M2 (fun es G1 M3 => lcGo gg1 tt1 te G1 (gWipe Γ1 vs1) A N es M3) X0 else N M2) X0)
    (hd : F (P n)) : lc2Go gg tt wi1 gg1 tt1 te (fun _ => True) Γw vs1 A F (rgs 0 m.toNat) (P 0) := by
  have e1 : m.toNat = n := by omega
  rw [e1]
  have key : ∀ (k j : Nat), j + k = n → lc2Go gg tt wi1 gg1 tt1 te (fun _ => True) Γw vs1 A F ((rgs 0 n).drop j) (P j) := by
    intro k
    induction k with
    | zero =>
      intro j e
      have e : j = n := by omega
      subst e
      rw [List.drop_of_length_le (by rw [rgs_len]; omega)]
      exact ⟨trivial, hd⟩
    | succ k ih =>
      intro j e
      have hj : j < (rgs 0 n).length := by rw [rgs_len]; omega
      have hx : (rgs 0 n)[j] = .int (j : Int) := by simp [rgs]
      rw [List.drop_eq_getElem_cons hj, hx]
      exact ⟨trivial, hs j (by omega) _ (ih (j + 1) (by omega))⟩
  have := key n 0 (by omega)
  rw [List.drop_zero] at this
  exact this

/-! ### draws -/
structure Tape where
  ns : List Int
  p : Nat
  c : Int
  s : Int
def tobj (t : Tape) : MO := .lst [.lst (t.ns.map D.int), .int t.p, .int t.c, .int t.s]
/-- M' is M, but for the tape at a -/
def Tt (a : Addr) (M M' : Mem) : Prop := ∃ t, M' = mup M a (tobj t)
theorem Tt.refl {a : Addr} {M : Mem} {t : Tape} (h : M a = some (tobj t)) : Tt a M M := ⟨t, (mup_self h).symm⟩
theorem Tt.at {a : Addr} {M M' : Mem} (h : Tt a M M') : ∃ t, M' a = some (tobj t) := by
  obtain ⟨t, rfl⟩ := h
  exact ⟨t, mup_same⟩
theorem Tt.put {a : Addr} {M M' : Mem} (h : Tt a M M') (t : Tape) : Tt a M (mup M' a (tobj t)) := by
  obtain ⟨t', rfl⟩ := h
  exact ⟨t, mup_mup⟩
theorem Tt.trans {a : Addr} {M M1 M2 : Mem} (h : Tt a M M1) (h2 : Tt a M1 M2) : Tt a M M2 := by
  obtain ⟨t', rfl⟩ := h2
  exact h.put t'
/-- what a draw asks and gives: a number below many, another tape -/
def spDraw : DSp
  | [.loc a, .int many], M, R, _ => (∃ t, M a = some (tobj t)) ∧ 0 < many ∧ many < 1073741824 ∧ ∀ d t', 0 ≤ d → d < many → R (.int d) (mup M a (tobj t'))
  | _, _, _, _ => False
theorem mup_comm {M : Mem} {a b : Addr} {o u : MO} (h : a ≠ b) : mup (mup M a o) b u = mup (mup M b u) a o := by
  funext x
  by_cases e : x = b
  · subst e; rw [mup_same, mup_ne (Ne.symm h), mup_same]
  · rw [mup_ne e]
    by_cases e2 : x = a
    · subst e2; rw [mup_same, mup_same]
    · rw [mup_ne e2, mup_ne e2, mup_ne e]
/-- items each of which draws -/
theorem lc_draws {gg : DG} {tt : DT} {te : DE} {Γw : Gam} {ds : List D} {M : Mem} {a : Addr} {F : Addr → Mem → Prop} (P : D → D → Prop) (ht : ∃ t, M a = some (tobj t)) (hl : ds.length ≤ sizeLine)
    (h : ∀ d ∈ ds, ∀ M', Sub (mdel M a) M' → (∃ t, M' a = some (tobj t)) → ∀ (K : Pst) (F : Mem → Prop), (∀ x t', P d x → K x (mup M' a (tobj t'))) → gg d Γw M' fun Γ1 M1 => tt Γ1 M1 (fun b M2 => if b = true then te Γ1 M2 K X0 else F M2) X0)
    (q : ∀ A xs t', M A = none → A ≠ a → Paired P ds xs → F A (mup (mup M a (tobj t')) A (.lst xs))) : ∀ A, M A = none → lcGo gg tt te (fun _ => True) Γw A (F A) ds (mup M A (.lst [])) := fun A hA => by
  obtain ⟨t0, ht⟩ := ht
  have ne : A ≠ a := fun z => by rw [z, ht] at hA; cases hA
  have snoc : ∀ {xs ys : List D} {x y : D}, Paired P xs ys → P x y → Paired P (xs ++ [x]) (ys ++ [y]) := fun {xs ys x y} p r => by
    induction p with
    | nil => exact .cons r .nil
    | cons s _ ih => exact .cons s ih
  have key : ∀ (es done acc : List D) (t : Tape), done ++ es = ds → Paired P done acc → lcGo gg tt te (fun _ => True) Γw A (F A) es (mup (mup M a (tobj t)) A (.lst acc)) := by
    intro es
    induction es with
    | nil =>
      intro done acc t e p
      rw [List.append_nil] at e
      exact ⟨trivial, q A acc t hA ne (by rw [← e]; exact p)⟩
    | cons d es ih =>
      intro done acc t e p
      have hz := congrArg List.length e
      rw [List.length_append, List.length_cons] at hz
      have hpl := Paired.length p
      have sb : Sub (mdel M a) (mup (mup M a (tobj t)) A (.lst acc)) := fun b o hb => by
        by_cases e1 : b = a
        · rw [e1, mdel_same] at hb; cases hb
        · rw [mdel_ne e1] at hb
          by_cases e2 : b = A
          · rw [e2, hA] at hb; cases hb
          · rw [mup_ne e2, mup_ne e1]; exact hb
      refine ⟨trivial, h d (by rw [← e]; simp) _ sb ⟨t, by rw [mup_ne (Ne.symm ne), mup_same]⟩ _ _ fun x t' px => ⟨acc, by rw [mup_ne ne, mup_same], by omega, ?_⟩⟩
      rw [mup_comm (b := a) ne, mup_mup, mup_mup]
      exact ih (done ++ [d]) (acc ++ [x]) t' (by rw [← e]; simp) (snoc p px)
  have := key ds [] [] t0 rfl .nil
  rw [mup_self ht] at this
  exact this
end DL
namespace DL
open PySem PySem.Spec PyProof.Rows L2
/-! ### one step of a reading -/
section
variable {Γ : Gam} {M : Mem} {R : Pst} {XR : Xst} {wa wb wc w wo wd wk wv : DE} {wA : DA} {t u : DT} {DD : DEnds} {s1 s2 s : DS} {d x y z : D} {RT : Bool → Mem → Prop} {RA : List D → Mem → Prop} {i j : Int} {n m : Nat}
theorem x_seq (h : s1 { DD with nx := fun Γ' M' => s2 DD Γ' M' } Γ M) : dSeq s1 s2 DD Γ M := h
theorem x_next (h : DD.nx Γ M) : dNext DD Γ M := h
theorem x_brk (h : DD.bk Γ M) : dBreak DD Γ M := h
theorem x_cont (h : DD.ct Γ M) : dCont DD Γ M := h
theorem x_set (h : w Γ M (fun d M1 => DD.nx (Γ.set n (some d)) M1) fun e M1 => DD.xr e Γ M1) : dSet n w DD Γ M := h
theorem x_ret (h : w Γ M DD.rt fun e M1 => DD.xr e Γ M1) : dRet w DD Γ M := h
theorem x_retN (h : DD.rt .non M) : dRetN DD Γ M := h
theorem x_drop (h : w Γ M (fun _ M1 => DD.nx Γ M1) fun e M1 => DD.xr e Γ M1) : dDrop w DD Γ M := h
theorem x_ifS (h : t Γ M (fun b M1 => if b = true then s1 DD Γ M1 else s2 DD Γ M1) fun e M1 => DD.xr e Γ M1) : dIfS t s1 s2 DD Γ M := h
theorem x_asg {g : DG} (h : w Γ M (fun d M1 => g d Γ M1 DD.nx) fun e M1 => DD.xr e Γ M1) : dAsg w g DD Γ M := h
theorem x_par {a b : Nat} (h : wA Γ M (fun ds M1 => ∃ d f, ds = [d, f] ∧ DD.nx ((Γ.set a (some d)).set b (some f)) M1) fun e M1 => DD.xr e Γ M1) : dPar a b wA DD Γ M := h
theorem x_par2 {P : D → D → Mem → Prop} (h : P x y M) : ∃ d f, [x, y] = [d, f] ∧ P d f M := ⟨x, y, rfl, h⟩
theorem x_for {wi : DI} {gg : DG} {b : DS} (h : wi Γ M (fun ds G M1 => forGo gg b G DD ds Γ M1) fun e M1 => DD.xr e Γ M1) : dFor wi gg b DD Γ M := h
theorem x_aug {r : O2} (hx : Γ[n]? = some (some x)) (h : w Γ M (fun d M1 => r x d M1 fun z M2 => DD.nx (Γ.set n (some z)) M2) fun e M1 => DD.xr e Γ M1) : dAug n w r DD Γ M := ⟨x, hx, h⟩
theorem x_var (hx : Γ[n]? = some (some d)) (h : R d M) : dVar n Γ M R XR := ⟨d, hx, h⟩
theorem x_c (h : R d M) : dC d Γ M R XR := h
theorem x_op {r : O2} (h : wa Γ M (fun x M1 => wb Γ M1 (fun y M2 => r x y M2 R) XR) XR) : dOp r wa wb Γ M R XR := h
theorem x_un {r : O1} (h : wa Γ M (fun x M1 => r x M1 R) XR) : dUn r wa Γ M R XR := h
theorem x_B (h : w Γ M (fun d M' => ∃ b, d = .bl b ∧ RT b M') XR) : dB w Γ M RT XR := h
theorem x_b {b : Bool} {P : Bool → Mem → Prop} (h : P b M) : ∃ c, D.bl b = .bl c ∧ P c M := ⟨b, rfl, h⟩
theorem x_chain {r r' : O2} (h : wa Γ M (fun x M1 => wb Γ M1 (fun y M2 => r x y M2 (fun z M3 => ∃ k, z = .bl k ∧ (if k = true then wc Γ M3 (fun w M4 => r' y w M4 R) XR else R (.bl false) M3))) XR) XR) : dChain r r' wa wb wc Γ M R XR := h
theorem x_and (h : t Γ M (fun c M1 => if c = true then u Γ M1 RT XR else RT false M1) XR) : dAnd t u Γ M RT XR := h
theorem x_or (h : t Γ M (fun c M1 => if c = true then RT true M1 else u Γ M1 RT XR) XR) : dOr t u Γ M RT XR := h
theorem x_not (h : t Γ M (fun c M1 => RT (!c) M1) XR) : dNot t Γ M RT XR := h
theorem x_andV (h : wa Γ M (fun x M1 => ∃ c, x = .bl c ∧ if c = true then wb Γ M1 R XR else R (.bl false) M1) XR) : dAndV wa wb Γ M R XR := h
theorem x_orV (h : wa Γ M (fun x M1 => ∃ c, x = .bl c ∧ if c = true then R (.bl true) M1 else wb Γ M1 R XR) XR) : dOrV wa wb Γ M R XR := h
theorem x_notV (h : wa Γ M (fun x M1 => ∃ c, x = .bl c ∧ R (.bl (!c)) M1) XR) : dNotV wa Γ M R XR := h
theorem x_if (h : t Γ M (fun c M1 => if c = true then wa Γ M1 R XR else wb Γ M1 R XR) XR) : dIf t wa wb Γ M R XR := h
theorem x_nil (h : RA [] M) : dNil Γ M RA XR := h
theorem x_cons (h : w Γ M (fun x M1 => wA Γ M1 (fun xs M2 => RA (x :: xs) M2) XR) XR) : dCons w wA Γ M RA XR := h
theorem x_tup (h : wA Γ M (fun ds M1 => ds.length ≤ sizeLine ∧ R (.tup ds) M1) XR) : dTup wA Γ M R XR := h
theorem x_lst (h : wA Γ M (fun ds M1 => ds.length ≤ sizeLine ∧ R (.lst ds) M1) XR) : dLst wA Γ M R XR := h
theorem x_len {P : List D → Mem → Prop} {ds : List D} (hl : ds.length ≤ sizeLine) (h : P ds M) : ds.length ≤ sizeLine ∧ P ds M := ⟨hl, h⟩
theorem x_sz {ds : List D} {P : Prop} (hl : ds.length ≤ 1000) (h : P) : ds.length ≤ sizeLine ∧ P := ⟨Nat.le_trans hl (by decide), h⟩
theorem x_lstM (h : wA Γ M (fun ds M1 => ds.length ≤ sizeLine ∧ ∀ p, M1 p = none → R (.loc p) (mup M1 p (.lst ds))) XR) : dLstM wA Γ M R XR := h
theorem x_sl {wl wh : DO} (h : w Γ M (fun x M1 => wl Γ M1 (fun l M2 => wh Γ M2 (fun h M3 => oSl x l h M3 R) XR) XR) XR) : dSl w wl wh Γ M R XR := h
theorem x_noP {RO : Option Int → Mem → Prop} (h : RO none M) : dNoP Γ M RO XR := h
theorem x_pt {RO : Option Int → Mem → Prop} (h : w Γ M (fun d M1 => ∃ i, d = .int i ∧ RO (some i) M1) XR) : dPt w Γ M RO XR := h
theorem x_i {P : Int → Mem → Prop} (h : P i M) : ∃ k, D.int i = .int k ∧ P k M := ⟨i, rfl, h⟩
theorem x_call {r : OC} (h : wA Γ M (fun ds M1 => r ds M1 R) XR) : dCall r wA Γ M R XR := h
theorem x_fn {sp : DSp} {dds : List D} (h : wA Γ M (fun ds M1 => sp (ds ++ dds) M1 R X0) XR) : dFn sp dds wA Γ M R XR := h
theorem x_range1 {RI : List D → (Mem → Prop) → Mem → Prop} (h : w Γ M (fun d M1 => ∃ n, d = .int n ∧ (-(2 ^ 62) ≤ n ∧ n < 2 ^ 62) ∧ RI (rgs 0 n.toNat) (fun _ => True) M1) XR) : dRange1 w Γ M RI XR := h
theorem x_rg {P : Int → Mem → Prop} (hb : 0 ≤ i ∧ i < 1000000000) (h : P i M) : ∃ n, D.int i = .int n ∧ (-(2 ^ 62) ≤ n ∧ n < 2 ^ 62) ∧ P n M := ⟨i, rfl, by omega, h⟩
theorem x_bd {n : Int} {P : Prop} (hb : 0 ≤ n ∧ n < 1000000000) (h : P) : (-(2 ^ 62) ≤ n ∧ n < 2 ^ 62) ∧ P := ⟨by omega, h⟩
theorem x_iter {RI : List D → (Mem → Prop) → Mem → Prop} (h : w Γ M (fun d M1 => iGo d RI M1) XR) : dIter w Γ M RI XR := h
theorem x_go_tup {RI : List D → (Mem → Prop) → Mem → Prop} {ds : List D} (h : RI ds (fun _ => True) M) : iGo (.tup ds) RI M := h
theorem x_go_lst {RI : List D → (Mem → Prop) → Mem → Prop} {ds : List D} (h : RI ds (fun _ => True) M) : iGo (.lst ds) RI M := h
theorem x_lc {wi : DI} {gg : DG} {tt : DT} {te : DE} {vs : List Nat} (h : wi Γ M (fun ds G M1 => ∀ A, M1 A = none → lcGo gg tt te G (gWipe Γ vs) A (lcF R A) ds (mup M1 A (.lst []))) XR) : dLc wi gg tt te vs Γ M R XR := h
theorem x_lcM {wi : DI} {gg : DG} {tt : DT} {te : DE} {vs : List Nat} (h : wi Γ M (fun ds G M1 => ∀ A, M1 A = none → lcGo gg tt te G (gWipe Γ vs) A (fun M2 => R (.loc A) M2) ds (mup M1 A (.lst []))) XR) : dLcM wi gg tt te vs Γ M R XR := h
theorem x_lc2 {wi : DI} {gg : DG} {tt : DT} {wi1 : DI} {gg1 : DG} {tt1 : DT} {te : DE} {vs vs1 : List Nat} (h : wi Γ M (fun ds G M1 => ∀ A, M1 A = none → lc2Go gg tt wi1 gg1 tt1 te G (gWipe Γ vs) vs1 A (lcF R A) ds (mup M1 A (.lst []))) XR) : dLc2 wi gg tt wi1 gg1 tt1 te vs vs1 Γ M R XR := h
theorem x_yes (h : RT true M) : dYes Γ M RT XR := h
theorem x_gName {RG : Gam → Mem → Prop} (h : RG (Γ.set n (some d)) M) : dgName n d Γ M RG := h
theorem x_gTup {RG : Gam → Mem → Prop} {ws : DGs} {ds : List D} (hl : ds.length = n) (h : ws ds Γ M RG) : dgTup n ws (.tup ds) Γ M RG := ⟨ds, rfl, hl, h⟩
theorem x_gTupL {RG : Gam → Mem → Prop} {ws : DGs} {ds : List D} (hl : ds.length = n) (h : ws ds Γ M RG) : dgTup n ws (.lst ds) Γ M RG := ⟨ds, rfl, hl, h⟩
theorem x_gCons {RG : Gam → Mem → Prop} {g : DG} {ws : DGs} {ds : List D} (h : g d Γ M fun Γ' M' => ws ds Γ' M' RG) : dgCons g ws (d :: ds) Γ M RG := ⟨d, ds, rfl, h⟩
theorem x_gNil {RG : Gam → Mem → Prop} (h : RG Γ M) : dgNil [] Γ M RG := ⟨rfl, h⟩
/-! operators on data -/
theorem x_add_i (h : R (.int (i + j)) M) : oAdd (.int i) (.int j) M R := h
theorem x_add_t {a b : List D} (hl : a.length + b.length ≤ sizeLine) (h : R (.tup (a ++ b)) M) : oAdd (.tup a) (.tup b) M R := ⟨hl, h⟩
theorem x_add_s {a b : Str} (hl : a.length + b.length ≤ sizeLine) (h : R (.str (a ++ b)) M) : oAdd (.str a) (.str b) M R := ⟨hl, h⟩
theorem x_add_l {a b : List D} (hl : a.length + b.length ≤ sizeLine) (h : R (.lst (a ++ b)) M) : oAdd (.lst a) (.lst b) M R := ⟨a, b, rfl, rfl, hl, h⟩
theorem x_sub (h : R (.int (i - j)) M) : oSub (.int i) (.int j) M R := h
theorem x_mul (hc : CMul i j) (h : R (.int (i * j)) M) : oMul (.int i) (.int j) M R := ⟨hc, h⟩
theorem x_mul' (hc : (-(2 ^ 64) < i ∧ i < 2 ^ 64) ∨ (-(2 ^ 64) < j ∧ j < 2 ^ 64)) (h : R (.int (i * j)) M) : oMul (.int i) (.int j) M R := ⟨hc, h⟩
theorem x_mod (hc : 0 < j) (h : R (.int (i % j)) M) : oMod (.int i) (.int j) M R := ⟨hc, h⟩
theorem x_div (hc : 0 < j ∧ j < 1073741824) (h : R (.int (i / j)) M) : oDiv (.int i) (.int j) M R := ⟨hc, h⟩
theorem x_pow (hc : 0 ≤ j ∧ j ≤ 1000000 ∧ i.natAbs < 2 ^ 64) (h : R (.int (i ^ j.toNat)) M) : oPow (.int i) (.int j) M R := ⟨hc, h⟩
theorem x_shl (hc : 0 ≤ j ∧ j ≤ 1000000 ∧ i.natAbs < 2 ^ 64) (h : R (.int (i * 2 ^ j.toNat)) M) : oShl (.int i) (.int j) M R := ⟨hc, h⟩
theorem x_shr (hc : 0 ≤ j) (h : R (.int (i / 2 ^ j.toNat)) M) : oShr (.int i) (.int j) M R := ⟨hc, h⟩
theorem x_band (h : R (.int (Builtin.bitAnd i j)) M) : oAnd (.int i) (.int j) M R := h
theorem x_bor (h : R (.int (Builtin.bitOr i j)) M) : oOr (.int i) (.int j) M R := h
theorem x_bxor (h : R (.int (Builtin.bitXor i j)) M) : oXor (.int i) (.int j) M R := h
theorem x_neg (h : R (.int (-i)) M) : oNeg (.int i) M R := h
theorem x_lt (h : R (.bl (decide (i < j))) M) : oLt (.int i) (.int j) M R := h
theorem x_le (h : R (.bl (decide (i ≤ j))) M) : oLe (.int i) (.int j) M R := h
theorem x_gt (h : R (.bl (decide (j < i))) M) : oGt (.int i) (.int j) M R := h
theorem x_ge (h : R (.bl (decide (j ≤ i))) M) : oGe (.int i) (.int j) M R := h
theorem x_eqI (h : R (.bl (i == j)) M) : oEq (.int i) (.int j) M R := ⟨rfl, rfl, rfl, rfl, h⟩
theorem x_neI (h : R (.bl (!(i == j))) M) : oNe (.int i) (.int j) M R := ⟨rfl, rfl, rfl, rfl, h⟩
theorem x_isN (h : R (.bl (isNon x)) M) : oIs x .non M R := by cases x <;> exact h
theorem x_isnotN (h : R (.bl (!isNon x)) M) : oIsNot x .non M R := by cases x <;> exact h
theorem x_isB {a b : Bool} (h : R (.bl (decide (a = b))) M) : oIs (.bl a) (.bl b) M R := h
theorem x_isnotB {a b : Bool} (h : R (.bl (!decide (a = b))) M) : oIsNot (.bl a) (.bl b) M R := h
theorem at_toNat {α : Type} {xs : List α} {i : Int} {v : α} (h0 : 0 ≤ i) (h : xs[i.toNat]? = some v) : atI xs i = some v := by
  have := atI_nat (xs := xs) (j := i.toNat) h
  rw [Int.toNat_of_nonneg h0] at this
  exact this
theorem x_ix_t {ds : List D} (h0 : 0 ≤ i) (hd : ds[i.toNat]? = some d) (h : R d M) : oIx (.tup ds) (.int i) M R := ⟨ds, d, rfl, at_toNat h0 hd, h⟩
theorem x_ix_k {ds : List D} (h0 : 0 ≤ i) (hd : ds[i.toNat]? = some d) (h : R d M) : oIx (.kt ds) (.int i) M R := ⟨ds, d, rfl, at_toNat h0 hd, h⟩
theorem x_ix_l {ds : List D} (h0 : 0 ≤ i) (hd : ds[i.toNat]? = some d) (h : R d M) : oIx (.lst ds) (.int i) M R := ⟨ds, d, rfl, at_toNat h0 hd, h⟩
theorem x_ix_loc {a : Addr} {ds : List D} (hm : M a = some (.lst ds)) (h0 : 0 ≤ i) (hd : ds[i.toNat]? = some d) (h : R d M) : oIx (.loc a) (.int i) M R := ⟨ds, d, getL_loc hm, at_toNat h0 hd, h⟩
theorem x_int (h : R (.int i) M) : oInt [.int i] M R := h
theorem x_intB {b : Bool} (h : R (.int (if b then 1 else 0)) M) : oInt [.bl b] M R := h
theorem x_abs (h : R (.int (if i < 0 then -i else i)) M) : oAbs [.int i] M R := h
theorem x_len_t {ds : List D} (h : R (.int (ds.length : Nat)) M) : oLen [.tup ds] M R := ⟨_, rfl, h⟩
theorem x_len_l {ds : List D} (h : R (.int (ds.length : Nat)) M) : oLen [.lst ds] M R := ⟨_, rfl, h⟩
theorem x_len_loc {a : Addr} {ds : List D} (hm : M a = some (.lst ds)) (h : R (.int (ds.length : Nat)) M) : oLen [.loc a] M R := ⟨_, by simp [sizeD, hm], h⟩
theorem x_tuple_t {ds : List D} (h : R (.tup ds) M) : oTuple [.tup ds] M R := ⟨_, rfl, h⟩
theorem x_tuple_l {ds : List D} (h : R (.tup ds) M) : oTuple [.lst ds] M R := ⟨_, rfl, h⟩
theorem x_tuple_loc {a : Addr} {ds : List D} (hm : M a = some (.lst ds)) (h : R (.tup ds) M) : oTuple [.loc a] M R := ⟨_, by simp [getS, getL, hm], h⟩
theorem x_list_t {ds : List D} (h : R (.lst ds) M) : oList [.tup ds] M R := ⟨_, rfl, h⟩
theorem x_list_l {ds : List D} (h : R (.lst ds) M) : oList [.lst ds] M R := ⟨_, rfl, h⟩
theorem x_list_s {ds : List D} (h : R (.lst ds) M) : oList [.sl ds] M R := ⟨_, rfl, h⟩
theorem x_str (hb : i.natAbs.log2 < 1920) (h : R (.str (toString i)) M) : oStr [.int i] M R := ⟨hb, h⟩
theorem x_sum_l {ns : List Int} {ds : List D} (e : ds = ns.map D.int) (h : R (.int ns.sum) M) : oSum [.lst ds] M R := ⟨ns, by rw [e]; rfl, h⟩
theorem x_sum_t {ns : List Int} {ds : List D} (e : ds = ns.map D.int) (h : R (.int ns.sum) M) : oSum [.tup ds] M R := ⟨ns, by rw [e]; rfl, h⟩
theorem x_sl_t {xs : List D} {lo hi : Option Int} (h : R (.tup (cutD xs lo hi)) M) : oSl (.tup xs) lo hi M R := h
theorem x_sl_l {xs : List D} {lo hi : Option Int} (h : R (.lst (cutD xs lo hi)) M) : oSl (.lst xs) lo hi M R := ⟨xs, rfl, h⟩
theorem x_sl_loc {a : Addr} {xs : List D} {lo hi : Option Int} (hm : M a = some (.lst xs)) (h : R (.lst (cutD xs lo hi)) M) : oSl (.loc a) lo hi M R := ⟨xs, getL_loc hm, h⟩
theorem x_iadd_i (h : R (.int (i + j)) M) : oIAdd (.int i) (.int j) M R := h
theorem x_iadd_l {a : Addr} {xs ys : List D} (hm : M a = some (.lst xs)) (hl : xs.length + ys.length ≤ sizeLine) (h : R (.loc a) (mup M a (.lst (xs ++ ys)))) : oIAdd (.loc a) (.lst ys) M R := ⟨xs, ys, hm, rfl, hl, h⟩
theorem x_app {a : Addr} {xs : List D} (hm : M a = some (.lst xs)) (h : wa Γ M (fun y M2 => ∃ ds, M2 a = some (.lst ds) ∧ ds.length < sizeLine ∧ R .non (mup M2 a (.lst (ds ++ [y])))) XR) (ho : wo = dVar n) (hx : Γ[n]? = some (some (.loc a))) : dAppend wo wa Γ M R XR := by
  subst ho; exact ⟨.loc a, hx, a, xs, rfl, hm, h⟩
theorem x_append (h : wo Γ M (fun x M1 => ∃ p ds0, x = .loc p ∧ M1 p = some (.lst ds0) ∧ wa Γ M1 (fun y M2 => ∃ ds, M2 p = some (.lst ds) ∧ ds.length < sizeLine ∧ R .non (mup M2 p (.lst (ds ++ [y])))) XR) XR) : dAppend wo wa Γ M R XR := h
theorem x_isi {T : String} (h : w Γ M (fun d M1 => ∃ t b, tyD M1 d = some t ∧ kitB t T = some b ∧ R (.bl b) M1) XR) : dIsi T w Γ M R XR := h
theorem x_din (h : wk Γ M (fun y M1 => wd Γ M1 (fun x M2 => ∃ o, dget M2 x y = some o ∧ R (.bl o.isSome) M2) XR) XR) : dDIn wk wd Γ M R XR := h
theorem x_dnotin (h : wk Γ M (fun y M1 => wd Γ M1 (fun x M2 => ∃ o, dget M2 x y = some o ∧ R (.bl (!o.isSome)) M2) XR) XR) : dDNotIn wk wd Γ M R XR := h
theorem x_dgetE (h : wd Γ M (fun x M1 => wk Γ M1 (fun y M2 => ∃ d, dget M2 x y = some (some d) ∧ R d M2) XR) XR) : dDGet wd wk Γ M R XR := h
theorem x_dput (h : wv Γ M (fun v M1 => wd Γ M1 (fun x M2 => wk Γ M2 (fun y M3 => ∃ M4, dput M3 x y v = some M4 ∧ DD.nx Γ M4) fun e M3 => DD.xr e Γ M3) fun e M3 => DD.xr e Γ M3) fun e M3 => DD.xr e Γ M3) : dDPut wd wk wv DD Γ M := h
theorem x_gSub {wi : DE} {RG : Gam → Mem → Prop} (h : wo Γ M (fun x M1 => wi Γ M1 (fun y M2 => ∃ p ds i j, x = .loc p ∧ y = .int i ∧ M2 p = some (.lst ds) ∧ ixN ds.length i = some j ∧ RG Γ (mup M2 p (.lst (ds.set j d)))) X0) X0) : dgSub wo wi d Γ M RG := h
theorem x_put1 {a : Addr} {ds : List D} {P : Mem → Prop} (hm : M a = some (.lst ds)) (h0 : 0 ≤ i) (hk : i.toNat < ds.length) (h : P (mup M a (.lst (ds.set i.toNat d)))) : ∃ p ds' i' j, D.loc a = .loc p ∧ D.int i = .int i' ∧ M p = some (.lst ds') ∧ ixN ds'.length i' = some j ∧ P (mup M p (.lst (ds'.set j d))) :=
  ⟨a, ds, i, i.toNat, rfl, rfl, hm, by unfold ixN; rw [if_pos h0, if_pos (by omega)], h⟩
end
/-- what holds between two statements -/
theorem cut_seq {s1 s2 : DS} {DD : DEnds} {Γ : Gam} {M : Mem} (I : Gam → Mem → Prop) (h1 : ∀ N : Gam → Mem → Prop, (∀ Γ' M', I Γ' M' → N Γ' M') → s1 { DD with nx := N } Γ M) (h2 : ∀ Γ' M', I Γ' M' → s2 DD Γ' M') : dSeq s1 s2 DD Γ M := h1 _ h2
/-! both ways of a test -/
theorem x_T {A B : Prop} (h : A) : if true = true then A else B := by rw [if_pos rfl]; exact h
theorem x_F {A B : Prop} (h : B) : if false = true then A else B := by rw [if_neg Bool.false_ne_true]; exact h
theorem x_yesD {p A B : Prop} [Decidable p] (hp : p) (h : A) : if decide p = true then A else B := by rw [if_pos (decide_eq_true hp)]; exact h
theorem x_noD {p A B : Prop} [Decidable p] (hp : ¬ p) (h : B) : if decide p = true then A else B := by rw [if_neg (by simpa using hp)]; exact h
theorem x_both {p A B : Prop} [Decidable p] (h1 : p → A) (h2 : ¬ p → B) : if decide p = true then A else B := by
  by_cases hp : p
  · exact x_yesD hp (h1 hp)
  · exact x_noD hp (h2 hp)
theorem x_bothB {b : Bool} {A B : Prop} (h1 : b = true → A) (h2 : b = false → B) : if b = true then A else B := by
  cases b with
  | true => exact x_T (h1 rfl)
  | false => exact x_F (h2 rfl)
theorem x_bothE {i j : Int} {A B : Prop} (h1 : i = j → A) (h2 : ¬ i = j → B) : if (i == j) = true then A else B := by
  by_cases hp : i = j
  · rw [if_pos (by simpa using hp)]; exact h1 hp
  · rw [if_neg (by simpa using hp)]; exact h2 hp
theorem x_bothN {i j : Int} {A B : Prop} (h1 : ¬ i = j → A) (h2 : i = j → B) : if (!(i == j)) = true then A else B := by
  by_cases hp : i = j
  · rw [if_neg (by simpa using hp)]; exact h2 hp
  · rw [if_pos (by simpa using hp)]; exact h1 hp
end DL
namespace DL
open PySem PySem.Spec PyProof.Rows L2
/-! ### data that == goes over: depth below n -/
mutual
def okD : Nat → D → Bool
  | _, .non => true
  | _, .bl _ => true
  | _, .int _ => true
  | _, .str x => PyData.strOk x
  | n, .tup ds => match n with
    | 0 => false
    | n + 1 => okDs n ds
  | n, .lst ds => match n with
    | 0 => false
    | n + 1 => okDs n ds
  | n, .sl ds => match n with
    | 0 => false
    | n + 1 => okDs n ds
  | n, .kt ds => match n with
    | 0 => false
    | n + 1 => okDs n ds
  | _, .loc _ => false
  | _, .obj _ _ _ => false
  | _, .dK _ _ => false
  | _, .dT _ _ => false
def okDs : Nat → List D → Bool
  | _, [] => true
  | n, d :: ds => okD n d && okDs n ds
end
mutual
theorem okD_all : ∀ (d : D) (n : Nat), okD n d = true → plain d = true ∧ (toP d).canLay0 = true ∧ (toP d).depth ≤ n
  | .non, n, _ => ⟨rfl, rfl, Nat.zero_le _⟩
  | .bl _, n, _ => ⟨rfl, rfl, Nat.zero_le _⟩
  | .int _, n, _ => ⟨rfl, rfl, Nat.zero_le _⟩
  | .str x, n, h => ⟨rfl, h, Nat.zero_le _⟩
  | .tup ds, 0, h => by cases h
  | .tup ds, n + 1, h => okDs_all ds n h |>.imp id fun q => ⟨q.1, Nat.succ_le_succ q.2⟩
  | .lst ds, 0, h => by cases h
  | .lst ds, n + 1, h => okDs_all ds n h |>.imp id fun q => ⟨q.1, Nat.succ_le_succ q.2⟩
  | .sl ds, 0, h => by cases h
  | .sl ds, n + 1, h => okDs_all ds n h |>.imp id fun q => ⟨q.1, Nat.succ_le_succ q.2⟩
  | .kt ds, 0, h => by cases h
  | .kt ds, n + 1, h => okDs_all ds n h |>.imp id fun q => ⟨q.1, Nat.succ_le_succ q.2⟩
  | .loc _, _, h => by cases h
  | .obj _ _ _, _, h => by cases h
  | .dK _ _, _, h => by cases h
  | .dT _ _, _, h => by cases h
theorem okDs_all : ∀ (ds : List D) (n : Nat), okDs n ds = true → plains ds = true ∧ PyData.canLayAll0 (toPs ds) = true ∧ PyData.depthAll (toPs ds) ≤ n
  | [], n, _ => ⟨rfl, rfl, Nat.zero_le _⟩
  | d :: ds, n, h => by
    have h : (okD n d && okDs n ds) = true := h
    rw [Bool.and_eq_true] at h
    obtain ⟨a1, a2, a3⟩ := okD_all d n h.1
    obtain ⟨b1, b2, b3⟩ := okDs_all ds n h.2
    refine ⟨?_, ?_, ?_⟩
    · show (plain d && plains ds) = true
      rw [a1, b1]; rfl
    · show ((toP d).canLay0 && PyData.canLayAll0 (toPs ds)) = true
      rw [a2, b2]; rfl
    · show max (toP d).depth (PyData.depthAll (toPs ds)) ≤ n
      exact Nat.max_le.mpr ⟨a3, b3⟩
end
theorem okDs_of {n : Nat} : ∀ {ds : List D}, (∀ d ∈ ds, okD n d = true) → okDs n ds = true
  | [], _ => rfl
  | d :: ds, h => by
    show (okD n d && okDs n ds) = true
    rw [h d List.mem_cons_self, okDs_of fun x hx => h x (List.mem_cons_of_mem _ hx)]; rfl
theorem okD_shaped {d : D} (h : okD 64 d = true) : plain d = true ∧ SeqAt.shaped (toP d) = true := by
  obtain ⟨a, b, c⟩ := okD_all d 64 h
  exact ⟨a, by unfold SeqAt.shaped; rw [b, decide_eq_true c]; rfl⟩
theorem rdD_ok {M : Mem} {d : D} (h : okD 64 d = true) : rdD M d = d := by cases d <;> first | rfl | (simp [okD] at h)
section
variable {M : Mem} {R : Pst} {x y : D}
theorem x_eq (hx : okD 64 x = true) (hy : okD 64 y = true) (h : R (.bl (eqb x y)) M) : oEq x y M R := by
  unfold oEq
  rw [rdD_ok hx, rdD_ok hy]
  exact ⟨(okD_shaped hx).1, (okD_shaped hy).1, (okD_shaped hx).2, (okD_shaped hy).2, h⟩
theorem x_ne (hx : okD 64 x = true) (hy : okD 64 y = true) (h : R (.bl (!eqb x y)) M) : oNe x y M R := by
  unfold oNe
  rw [rdD_ok hx, rdD_ok hy]
  exact ⟨(okD_shaped hx).1, (okD_shaped hy).1, (okD_shaped hx).2, (okD_shaped hy).2, h⟩
theorem rdD_loc {a : Addr} {ds : List D} (hm : M a = some (.lst ds)) : rdD M (.loc a) = .lst ds := by simp [rdD, hm]
theorem x_ne_loc {a : Addr} {ds : List D} (hm : M a = some (.lst ds)) (hx : okD 64 (.lst ds) = true) (hy : okD 64 y = true) (h : R (.bl (!eqb (.lst ds) y)) M) : oNe (.loc a) y M R := by
  unfold oNe
  rw [rdD_loc hm, rdD_ok hy]
  exact ⟨(okD_shaped hx).1, (okD_shaped hy).1, (okD_shaped hx).2, (okD_shaped hy).2, h⟩
end
theorem x_nT {A B : Prop} (h : B) : if (!true) = true then A else B := h
theorem x_nF {A B : Prop} (h : A) : if (!false) = true then A else B := h
theorem dget_T {M : Mem} {a : Addr} {kvs : List (List Key × D)} {k : List Key} {y : D} (hm : M a = some (.dT kvs)) (hk : keyT y = some k) : dget M (.loc a) y = some (look kvs k) := by
  have e : pairsT M (.loc a) = some kvs := by simp [pairsT, hm]
  unfold dget
  rw [e]
  show (keyT y).map (look kvs) = _
  rw [hk]; rfl
theorem dput_T {M : Mem} {a : Addr} {kvs : List (List Key × D)} {k : List Key} {y v : D} (hm : M a = some (.dT kvs)) (hk : keyT y = some k) (hl : kvs.length < sizeLine) : dput M (.loc a) y v = some (mup M a (.dT (put kvs k v))) := by
  simp only [dput, hm, if_pos hl, hk, Option.map_some]
theorem x_len_dT {M : Mem} {R : Pst} {a : Addr} {kvs : List (List Key × D)} (hm : M a = some (.dT kvs)) (h : R (.int (kvs.length : Nat)) M) : oLen [.loc a] M R := ⟨_, by simp [sizeD, hm], h⟩
theorem look_none {κ α : Type} [DecidableEq κ] {kvs : List (κ × α)} {k : κ} (h : ∀ p ∈ kvs, p.1 ≠ k) : look kvs k = none := by
  unfold look
  rw [List.find?_eq_none.mpr fun p hp => by simpa using h p hp]; rfl
theorem put_new {κ α : Type} [DecidableEq κ] {kvs : List (κ × α)} {k : κ} {v : α} (h : ∀ p ∈ kvs, p.1 ≠ k) : put kvs k v = kvs ++ [(k, v)] := by
  unfold put
  rw [if_neg]
  intro q
  rw [List.any_eq_true] at q
  obtain ⟨p, hp, e⟩ := q
  exact h p hp (by simpa using e)
/-! rows of numbers -/
def nD (ns : List Nat) : List D := ns.map fun (n : Nat) => D.int (n : Int)
theorem nD_app (a b : List Nat) : nD (a ++ b) = nD a ++ nD b := List.map_append
theorem nD_len (a : List Nat) : (nD a).length = a.length := List.length_map _
theorem nD_range (n : Nat) (f : Nat → Nat) : nD ((List.range n).map f) = (List.range n).map fun k => D.int ((f k : Nat) : Int) := by
  unfold nD; rw [List.map_map]; rfl
theorem nD_ints (a : List Nat) : nD a = (a.map fun (n : Nat) => (n : Int)).map D.int := by unfold nD; rw [List.map_map]; rfl
theorem okDs_nD {k : Nat} (a : List Nat) : okDs k (nD a) = true := okDs_of fun d h => by
  obtain ⟨n, _, rfl⟩ := List.mem_map.mp h
  rfl
theorem okD_nDt (a : List Nat) : okD 64 (.tup (nD a)) = true := okDs_nD (k := 63) a
theorem okD_nDl (a : List Nat) : okD 64 (.lst (nD a)) = true := okDs_nD (k := 63) a
theorem nD_inj {a b : List Nat} : nD a = nD b ↔ a = b := by
  unfold nD
  refine ⟨fun h => ?_, fun h => by rw [h]⟩
  refine (List.map_inj_right (f := fun (n : Nat) => D.int (n : Int)) (fun _ _ e => ?_)).mp h
  injection e with e; omega
theorem eqbs_nD (a b : List Nat) : eqbs (nD a) (nD b) = decide (a = b) := by
  rw [nD_ints, nD_ints, eqbs_ints]
  refine decide_eq_decide.mpr ⟨fun h => ?_, fun h => by rw [h]⟩
  exact nD_inj.mp (by rw [nD_ints, nD_ints, h])
theorem sum_cast (a : List Nat) : (a.map fun (n : Nat) => (n : Int)).sum = ((a.sum : Nat) : Int) := by
  induction a with
  | nil => rfl
  | cons n a ih => rw [List.map_cons, List.sum_cons, ih, List.sum_cons]; omega
theorem nD_get {a : List Nat} {i : Nat} (h : i < a.length) : (nD a)[i]? = some (.int ((a.getD i 0 : Nat) : Int)) := by simp [nD, h]
theorem nD_take (a : List Nat) (n : Nat) : (nD a).take n = nD (a.take n) := by unfold nD; rw [List.map_take]
theorem nD_drop (a : List Nat) (n : Nat) : (nD a).drop n = nD (a.drop n) := by unfold nD; rw [List.map_drop]
theorem cut_to {α : Type} (xs : List α) (n : Nat) : cutD xs none (some (n : Int)) = xs.take n := by
  unfold cutD
  rw [HT.sIx_none, HT.sIx_nat, List.drop_zero, Nat.sub_zero]
  by_cases h : n ≤ xs.length
  · rw [Nat.min_eq_left h]
  · rw [Nat.min_eq_right (by omega), List.take_of_length_le (Nat.le_refl _), List.take_of_length_le (by omega)]
theorem cut_from {α : Type} (xs : List α) (n : Nat) : cutD xs (some (n : Int)) none = xs.drop n := by
  unfold cutD
  rw [HT.sIx_none, HT.sIx_nat]
  by_cases h : n ≤ xs.length
  · rw [Nat.min_eq_left h, List.take_of_length_le (by rw [List.length_drop]; omega)]
  · rw [Nat.min_eq_right (by omega), List.drop_length, List.drop_of_length_le (by omega)]; simp
theorem cut_in {α : Type} (xs : List α) (n m : Nat) : cutD xs (some (n : Int)) (some (m : Int)) = (xs.take m).drop n := by
  unfold cutD
  rw [HT.sIx_nat, HT.sIx_nat]
  by_cases h : n ≤ xs.length
  · by_cases h2 : m ≤ xs.length
    · rw [Nat.min_eq_left h, Nat.min_eq_left h2, List.drop_take]
    · rw [Nat.min_eq_left h, Nat.min_eq_right (by omega), List.take_of_length_le (l := xs) (by omega), List.take_of_length_le (by rw [List.length_drop]; omega)]
  · rw [Nat.min_eq_right (a := n) (by omega), List.drop_length, List.drop_of_length_le (by rw [List.length_take]; omega)]; simp
theorem band1 (x : Int) : Builtin.bitAnd x 1 = x % 2 := PySem.W.kbt_mask x 1
def bitN (w j : Nat) : Nat := w / 2 ^ j % 2
theorem bit_cast (w j : Nat) : Builtin.bitAnd ((w : Int) / 2 ^ (j : Int).toNat) 1 = ((bitN w j : Nat) : Int) := by
  rw [band1]
  show (w : Int) / 2 ^ j % 2 = _
  unfold bitN
  rw [Int.natCast_emod, Int.natCast_ediv, Int.natCast_pow]; rfl
end DL
namespace DL
open PySem PySem.Spec PyProof.Rows L2
/-! ### objects of the program's own classes -/
/-- class and fields of an object -/
def fldsD (M : Mem) : D → Option (Str × List (Str × D))
  | .loc a => match M a with
    | some (.ins C fs) => some (C, fs)
    | _ => none
  | .obj C ns ds => some (C, ns.zip ds)
  | _ => none
section
variable {K : PySem.W.Frag} {M : Mem} {H : Hp}
theorem flds_rep {d : D} {v : V} {C : Str} {fs : List (Str × D)} (g : Good K M H) (r : Rep K M H d v) (h : fldsD M d = some (C, fs)) :
    ∃ a c dx vs, v = .ref a ∧ Kn K C c ∧ H a = some (.ins c dx ((fs.map (·.1)).zip vs)) ∧ Reps K M H (fs.map (·.2)) vs := by
  cases d <;> simp only [fldsD] at h <;> try cases h
  case loc a =>
    have r : v = .ref a := r
    split at h
    · next C' fs' e =>
      cases h
      obtain ⟨c, dx, vs, kn, ha, rs⟩ := g a _ e
      exact ⟨a, c, dx, vs, r, kn, ha, rs⟩
    · cases h
  case obj ns ds =>
    obtain ⟨a, c, dx, vs, e, kn, ha, _, hl, rs⟩ := r
    refine ⟨a, c, dx, vs, e, kn, ?_, ?_⟩
    · rw [List.map_fst_zip (Nat.le_of_eq hl)]; exact ha
    · rw [List.map_snd_zip (Nat.le_of_eq hl.symm)]; exact rs
theorem flook_rep {f : Str} {x : D} : ∀ {fs : List (Str × D)} {vs : List V}, Reps K M H (fs.map (·.2)) vs → fs.lookup f = some x → ∃ w, ((fs.map (·.1)).zip vs).lookup f = some w ∧ Rep K M H x w
  | [], _, _, h => by cases h
  | (n, y) :: fs, vs, r, h => by
    obtain ⟨v, t, rfl, rv, rt⟩ := r
    rw [List.lookup_cons] at h
    show ∃ w, List.lookup f ((n, v) :: (fs.map (·.1)).zip t) = some w ∧ _
    rw [List.lookup_cons]
    cases e : f == n with
    | true => rw [e] at h; cases h; exact ⟨v, rfl, rv⟩
    | false => rw [e] at h; exact flook_rep rt h
theorem flook_no {f : Str} : ∀ {fs : List (Str × D)} {vs : List V}, Reps K M H (fs.map (·.2)) vs → fs.lookup f = none → ((fs.map (·.1)).zip vs).lookup f = none
  | [], _, _, _ => rfl
  | (n, y) :: fs, vs, r, h => by
    obtain ⟨v, t, rfl, rv, rt⟩ := r
    rw [List.lookup_cons] at h
    show List.lookup f ((n, v) :: (fs.map (·.1)).zip t) = none
    rw [List.lookup_cons]
    cases e : f == n with
    | true => rw [e] at h; cases h
    | false => rw [e] at h; exact flook_no rt h
/-- one field put -/
def putA {α : Type} (f : Str) (y : α) : List (Str × α) → List (Str × α)
  | [] => [(f, y)]
  | (g, x) :: r => if g = f then (g, y) :: r else (g, x) :: putA f y r
theorem fput_rep {f : Str} {y : D} {u : V} (ry : Rep K M H y u) : ∀ {fs : List (Str × D)} {vs : List V}, Reps K M H (fs.map (·.2)) vs → ∃ ws, putF f u ((fs.map (·.1)).zip vs) = ((putA f y fs).map (·.1)).zip ws ∧ Reps K M H ((putA f y fs).map (·.2)) ws
  | [], vs, r => ⟨[u], rfl, u, [], rfl, ry, rfl⟩
  | (n, z) :: fs, vs, r => by
    obtain ⟨v, t, rfl, rv, rt⟩ := r
    show ∃ ws, putF f u ((n, v) :: (fs.map (·.1)).zip t) = _ ∧ _
    unfold putF putA
    by_cases e : n = f
    · rw [if_pos e, if_pos e]
      exact ⟨u :: t, rfl, u, t, rfl, ry, rt⟩
    · rw [if_neg e, if_neg e]
      obtain ⟨ws, h1, h2⟩ := fput_rep ry rt
      exact ⟨v :: ws, by rw [h1]; rfl, v, ws, rfl, rv, h2⟩
theorem Kn.eq {C : Str} {c c' : Addr} (h : Kn K C c) (h' : Kn K C c') : c = c' := by
  unfold Kn at h h'
  rw [h] at h'
  cases h'; rfl
end
/-- what the text must say of the classes Cs, whose objects have the field f -/
def FldOk (K : PySem.W.Frag) (Cs : List Str) (f : Str) : Prop := ∀ C ∈ Cs, ∀ c, Kn K C c → Cls K c ∧ NoAttr K c f
theorem FldOk.nil {K : PySem.W.Frag} {f : Str} : FldOk K [] f := fun _ h => by cases h
theorem FldOk.cons {K : PySem.W.Frag} {C f : Str} {Cs : List Str} {c : Addr} (k : Kn K C c) (a : Cls K c) (b : NoAttr K c f) (h : FldOk K Cs f) : FldOk K (C :: Cs) f := fun C' hm c' k' => by
  rcases List.mem_cons.mp hm with rfl | hm
  · obtain rfl := k.eq k'
    exact ⟨a, b⟩
  · exact h C' hm c' k'
section
variable {X : Cx} {E : L2.St → XK} {a b c e o tg value : Expr} {es : List Expr} {wa wb wc w wo wv : DE} {wA : DA} {pos pos' tpos apos p : Pos} {f m x : Str} {Cs : List Str}
/-- e.f -/
def dFld (Cs : List Str) (f : Str) (w : DE) : DE := fun Γ M R XR => w Γ M (fun d M1 => ∃ C fs x, fldsD M1 d = some (C, fs) ∧ C ∈ Cs ∧ fs.lookup f = some x ∧ R x M1) XR
theorem de_fld (hC : FldOk X.K Cs f) (h : PE X e (lE X.K E w)) (hb : attributeBase e f X.env (eval e X.env) = eval e X.env := by rfl) : PE X (.Attribute e f pos) (lE X.K E (dFld Cs f w)) :=
  PE.imp (pe_fld h hb) fun σ H Q ⟨Γ, M, R, XR, g, m, q, k, kx⟩ => ⟨Γ, M, _, XR, g, m, q, fun d M1 v H1 ⟨C, fs, x, e1, hm, hl, q1⟩ s1 g1 r1 => by
    obtain ⟨a, c, dx, vs, rfl, kn, ha, rs⟩ := flds_rep g1 r1 e1
    obtain ⟨w, hw, rw'⟩ := flook_rep rs hl
    exact ⟨a, c, dx, _, w, rfl, ha, (hC C hm c kn).1, (hC C hm c kn).2, hw, k _ _ _ _ q1 s1 g1 rw'⟩, kx⟩
/-- o.f = value, o a place that changes -/
def dSetF (Cs : List Str) (f : Str) (wo wv : DE) : DS := fun DD Γ M => wv Γ M (fun y M1 => wo Γ M1 (fun d M2 => ∃ a C fs, d = .loc a ∧ M2 a = some (.ins C fs) ∧ C ∈ Cs ∧ fs.length < 1000 ∧ DD.nx Γ (mup M2 a (.ins C (putA f y fs)))) fun e M2 => DD.xr e Γ M2) fun e M1 => DD.xr e Γ M1
theorem ds_setF (hC : FldOk X.K Cs f) (ho : PE X o (lE X.K E wo)) (hv : PE X value (lE X.K E wv)) (hs : swapsWith value (some (.Attribute o f pos')) pos.line X.env = pure false := by rfl) :
    PS X (.Assign [.Attribute o f pos'] value pos) (lS X.K E (dSetF Cs f wo wv)) := PS.imp (ps_fld ho hv hs) fun D σ H ⟨Γ, M, DD, g, m, q, k⟩ => by
  refine ⟨Γ, M, _, _, g, m, q, fun y M1 vy H1 q1 s1 g1 r1 => ⟨Γ, M1, _, _, g1, m.stp s1, q1, fun d M2 vd H2 ⟨a, C, fs, e, ha, hm, hl, q2⟩ s2 g2 r2 => ?_, (k.step s1).kx (m.stp s1)⟩, k.kx m⟩
  subst e
  have r2 : vd = .ref a := r2
  subst r2
  obtain ⟨c, dx, vs, kn, hH, rs⟩ := g2 _ _ ha
  have st : Stp M H (mup M2 a (.ins C (putA f y fs))) (upd H2 a (.ins c dx (putF f vy ((fs.map (·.1)).zip vs)))) := (s1.trans s2).trans (stp_put ha)
  obtain ⟨ws, e1, rw'⟩ := fput_rep (f := f) (r1.stp (s2.trans (stp_put (u' := .ins C (putA f y fs)) (o := .ins c dx (putF f vy ((fs.map (·.1)).zip vs))) ha))) (rs.stp (stp_put (u' := .ins C (putA f y fs)) (o := .ins c dx (putF f vy ((fs.map (·.1)).zip vs))) ha))
  refine ⟨a, c, dx, _, rfl, hH, (hC C hm c kn).1, (hC C hm c kn).2, ?_, k.nx _ _ _ _ q2 st (good_put g2 ha ⟨c, dx, ws, kn, by rw [← e1]; exact upd_same, rw'⟩) (m.stp st)⟩
  rw [List.length_zip, List.length_map, ← rs.len, List.length_map, Nat.min_self]
  exact hl
/-! ### calls of methods -/
variable {k : Nat} {fn cA : Addr} {fd : FuncData} {ps : List Str} {sp : DSp} {C : Str}
/-- o.m(..), o an object of the class C -/
def dMeth (C m : Str) (sp : DSp) (wo : DE) (wA : DA) : DE := fun Γ M R XR => wo Γ M (fun d M1 => ∃ fs, fldsD M1 d = some (C, fs) ∧ fs.lookup m = none ∧ wA Γ M1 (fun ds M2 => sp (d :: ds) M2 R X0) XR) XR
theorem meth_imp {σ : L2.St} {H : Hp} {Q : VK} (kn : Kn X.K C cA) (h : lE X.K E (dMeth C m sp wo wA) σ H Q) : tMeth cA m (lSp X.K sp) [] E0 (lE X.K E wo) (lA X.K E wA) σ H Q := by
  obtain ⟨Γ, M, R, XR, g, m, q, k, kx⟩ := h
  refine ⟨Γ, M, _, XR, g, m, q, fun d M1 v H1 ⟨fs, e, hn, q1⟩ s1 g1 r1 => ?_, kx⟩
  obtain ⟨a, c, dx, vs, rfl, kc, ha, rs⟩ := flds_rep g1 r1 e
  obtain rfl := kn.eq kc
  refine ⟨a, dx, _, rfl, ha, flook_no rs hn, Γ, M1, _, XR, g1, m.stp s1, q1, fun ds M2 us H2 q2 s2 g2 r2 => ⟨d :: ds, M2, R, X0, g2, ⟨.ref a, _, rfl, r1.stp s2, by rw [List.append_nil]; exact r2⟩, q2, k.step (s1.trans s2), KX0⟩, kx.step s1⟩
theorem de_meth {pl : Sem Bool} (kn : Kn X.K C cA) (c : Cls X.K cA) (hm : Meth X.K cA m fn) (F : FnOk X.prog X.w X.K X.mg X.base CX0 k fn fd ps (lSp X.K sp)) (hr : Room k X.A) (hb : Binds X.K fd ps []) (ho : PE X o (lE X.K E wo)) (ha : PA X (e :: es) (lA X.K E wA))
    (hst : starEach (e :: es) X.env = (false, eval e X.env) :: starEach es X.env := by rfl) (hpl : (backTo pos (starEach es X.env)).any (·.1) = false := by rfl)
    (ht : eval (.Call (.Attribute o m apos) (e :: es) [] pos) X.env = (do
      let v ← eval o X.env
      standAt apos.atName
      let (f, first) ← holding [v] (getMethod v m pl)
      callWith pos f first (backTo pos (starEach (e :: es) X.env)) (backToKw pos (keywordEach [] X.env))) := by rfl) :
    PE X (.Call (.Attribute o m apos) (e :: es) [] pos) (lE X.K E (dMeth C m sp wo wA)) := PE.imp (pe_meth (pl := pl) ho c hm F hr hb .nil pass0 ha hst hpl ht) fun _ _ _ h => meth_imp kn h
theorem de_meth0 {pl : Sem Bool} (kn : Kn X.K C cA) (c : Cls X.K cA) (hm : Meth X.K cA m fn) (F : FnOk X.prog X.w X.K X.mg X.base CX0 k fn fd ps (lSp X.K sp)) (hr : Room k X.A) (hb : Binds X.K fd ps []) (ho : PE X o (lE X.K E wo))
    (ht : eval (.Call (.Attribute o m apos) [] [] pos) X.env = (do
      let v ← eval o X.env
      standAt apos.atName
      let (f, first) ← holding [v] (getMethod v m pl)
      callWith pos f first (backTo pos (starEach [] X.env)) (backToKw pos (keywordEach [] X.env))) := by rfl) :
    PE X (.Call (.Attribute o m apos) [] [] pos) (lE X.K E (dMeth C m sp wo dNil)) := PE.imp (pe_meth0 (pl := pl) ho c hm F hr hb .nil pass0 ht) fun σ H Q ⟨Γ, M, R, XR, g, m, q, k, kx⟩ => by
  refine ⟨Γ, M, _, XR, g, m, q, fun d M1 v H1 ⟨fs, e, hn, q1⟩ s1 g1 r1 => ?_, kx⟩
  obtain ⟨a, c, dx, vs, rfl, kc, ha, rs⟩ := flds_rep g1 r1 e
  obtain rfl := kn.eq kc
  exact ⟨a, dx, _, rfl, ha, flook_no rs hn, [d], M1, R, X0, g1, ⟨.ref a, _, rfl, r1, rfl⟩, q1, k.step s1, KX0⟩
/-! ### C(..) -/
def dNew (C : Str) (sp : DSp) (wA : DA) : DE := fun Γ M R XR => wA Γ M (fun ds M1 => ∀ p, M1 p = none → sp (.loc p :: ds) (mup M1 p (.ins C [])) (fun d M2 => d = .non ∧ R (.loc p) M2) X0) XR
theorem new_run {M : Mem} {H : Hp} {ds : List D} {vs : List V} {R : Pst} {Q : VK} (kn : Kn X.K C cA) (g : Good X.K M H) (r : Reps X.K M H ds vs) (kq : KQ X.K M H R Q) (q : ∀ p, M p = none → sp (.loc p :: ds) (mup M p (.ins C [])) (fun d M2 => d = .non ∧ R (.loc p) M2) X0)
    (x dx : Addr) (hx : H x = none) (hdx : H dx = none) (ne : dx ≠ x) : lSp X.K sp (.ref x :: (vs ++ [])) (upd (upd H dx (.own x)) x (.ins cA dx [])) (fun v H2 => v = .non ∧ Q (.ref x) H2) E0 := by
  have s1 : Stp M H M (upd H dx (.own x)) := stp_new g hdx
  have g1 : Good X.K M (upd H dx (.own x)) := good_new g hdx
  have hx1 : upd H dx (.own x) x = none := by rw [upd_ne (Ne.symm ne)]; exact hx
  have s2 : Stp M (upd H dx (.own x)) (mup M x (.ins C [])) (upd (upd H dx (.own x)) x (.ins cA dx [])) := stp_loc hx1
  have g2 : Good X.K (mup M x (.ins C [])) (upd (upd H dx (.own x)) x (.ins cA dx [])) := good_loc g1 hx1 ⟨cA, dx, [], kn, upd_same, rfl⟩
  refine ⟨.loc x :: ds, _, _, X0, g2, ⟨.ref x, _, rfl, rfl, by rw [List.append_nil]; exact r.stp (s1.trans s2)⟩, q x (g.free hx), fun d M2 v H2 ⟨e, q2⟩ s3 g3 r3 => ?_, KX0⟩
  subst e
  exact ⟨r3, kq _ _ _ _ q2 ((s1.trans s2).trans s3) g3 rfl⟩
theorem de_new (Mc : Mk X.K cA fn) (kn : Kn X.K C cA) (F : FnOk X.prog X.w X.K X.mg X.base CX0 k fn fd ps (lSp X.K sp)) (hr : Room (k + 1) X.A) (hg : Gl X x) (hm : X.mg x = some (.ref cA)) (hb : Binds X.K fd ps []) (ha : PA X (e :: es) (lA X.K E wA))
    (hdb : (x == ("__debug__" : Str)) = false := by decide) (he : starEach (e :: es) X.env = (false, eval e X.env) :: starEach es X.env := by rfl) (hpl : (backTo pos (starEach es X.env)).any (·.1) = false := by rfl) :
    PE X (.Call (.Name x p) (e :: es) [] pos) (lE X.K E (dNew C sp wA)) := PE.imp (pe_make Mc F hr hg hm hb .nil pass0 ha hdb he hpl) fun σ H Q ⟨Γ, M, R, XR, g, m, q, k, kx⟩ =>
  ⟨Γ, M, _, XR, g, m, q, fun ds M1 vs H1 q1 s1 g1 r1 y dx hy hdx ne => new_run kn g1 r1 (k.step s1) q1 y dx hy hdx ne, kx⟩
theorem de_new0 (Mc : Mk X.K cA fn) (kn : Kn X.K C cA) (F : FnOk X.prog X.w X.K X.mg X.base CX0 k fn fd ps (lSp X.K sp)) (hr : Room (k + 1) X.A) (hg : Gl X x) (hm : X.mg x = some (.ref cA)) (hb : Binds X.K fd ps [])
    (hdb : (x == ("__debug__" : Str)) = false := by decide) :
    PE X (.Call (.Name x p) [] [] pos) (lE X.K E (dNew C sp dNil)) := PE.imp (pe_make0 Mc F hr hg hm hb .nil pass0 hdb) fun σ H Q ⟨Γ, M, R, XR, g, m, q, k, kx⟩ y dx hy hdx ne => new_run (ds := []) (vs := []) kn g rfl k q y dx hy hdx ne
/-! ### isinstance(x, C), C of the program -/
structure OwnC (K : PySem.W.Frag) (c : Addr) : Prop where
  cl : Cls K c
  ha : PySem.W.findIn K (.ref c) "__class__" = some (some (.builtin "object.__class__"))
  hn : PySem.W.specialIn K (.builtin "object.__class__") "__get__" = some (some (.builtin "getset_descriptor.__get__"))
  htk : PySem.W.takesIn K (.builtin "object.__class__") = some true
  hm : PySem.W.mroIn K c (.type "object") = some true
/-- what the text must say of the class at cA, asked of objects of the classes Cs -/
structure IsOk (K : PySem.W.Frag) (Cs : List Str) (C : Str) (cA : Addr) : Prop where
  own : ∀ C' ∈ Cs, ∀ c, Kn K C' c → OwnC K c ∧ PySem.W.kitOne K (.ref c) (.ref cA) = some (decide (C' = C))
  bin : ∀ T ∈ ["NoneType", "bool", "int", "str", "tuple", "list", "dict"], PySem.W.kitOne K (.type T) (.ref cA) = some false
def IsL (K : PySem.W.Frag) (C : Str) (cA : Addr) (Cs : List Str) : Prop := ∀ C' ∈ Cs, ∀ c, Kn K C' c → OwnC K c ∧ PySem.W.kitOne K (.ref c) (.ref cA) = some (decide (C' = C))
theorem IsL.nil {K : PySem.W.Frag} {C : Str} {cA : Addr} : IsL K C cA [] := fun _ h => by cases h
theorem IsL.cons {K : PySem.W.Frag} {C C' : Str} {cA c : Addr} {Cs : List Str} {b : Bool} (k : Kn K C' c) (o : OwnC K c) (y : PySem.W.kitOne K (.ref c) (.ref cA) = some b) (h : IsL K C cA Cs) (hb : decide (C' = C) = b := by decide +kernel) : IsL K C cA (C' :: Cs) := fun D hm c' k' => by
  rcases List.mem_cons.mp hm with rfl | hm
  · obtain rfl := k.eq k'
    exact ⟨o, by rw [y, hb]⟩
  · exact h D hm c' k'
theorem isOk_mk {K : PySem.W.Frag} {C : Str} {cA : Addr} {Cs : List Str} (h : IsL K C cA Cs) (w1 : PySem.W.kitOne K (.type "NoneType") (.ref cA) = some false) (w2 : PySem.W.kitOne K (.type "bool") (.ref cA) = some false) (w3 : PySem.W.kitOne K (.type "int") (.ref cA) = some false)
    (w4 : PySem.W.kitOne K (.type "str") (.ref cA) = some false) (w5 : PySem.W.kitOne K (.type "tuple") (.ref cA) = some false) (w6 : PySem.W.kitOne K (.type "list") (.ref cA) = some false) (w7 : PySem.W.kitOne K (.type "dict") (.ref cA) = some false) : IsOk K Cs C cA :=
  ⟨h, fun T hT => by
    simp only [List.mem_cons, List.mem_nil_iff, or_false] at hT
    rcases hT with rfl | rfl | rfl | rfl | rfl | rfl | rfl <;> assumption⟩
def isD (Cs : List Str) (C : Str) (M : Mem) (d : D) : Option Bool :=
  match fldsD M d with
  | some (C', _) => if C' ∈ Cs then some (decide (C' = C)) else none
  | none => match tyD M d with
    | some T => if T ∈ ["NoneType", "bool", "int", "str", "tuple", "list", "dict"] then some false else none
    | none => none
def dIsiC (Cs : List Str) (C : Str) (w : DE) : DE := fun Γ M R XR => w Γ M (fun d M1 => ∃ b, isD Cs C M1 d = some b ∧ R (.bl b) M1) XR
theorem isD_ok {K : PySem.W.Frag} {M : Mem} {H : Hp} {d : D} {v : V} {b : Bool} (hI : IsOk K Cs C cA) (g : Good K M H) (r : Rep K M H d v) (h : isD Cs C M d = some b) : ∃ t, TyX K H v t ∧ PySem.W.kitOne K t (.ref cA) = some b := by
  unfold isD at h
  split at h
  · next C' fs e =>
    split at h
    · next hm =>
      cases h
      obtain ⟨a, c, dx, vs, rfl, kc, ha, _⟩ := flds_rep g r e
      obtain ⟨o, q⟩ := hI.own C' hm c kc
      exact ⟨_, .base (.ins ha o.cl o.ha o.hn o.htk o.hm), q⟩
    · cases h
  · split at h
    · next T e =>
      split at h
      · next hm => cases h; exact ⟨_, tyD_ok g r e, hI.bin T hm⟩
      · cases h
    · cases h
theorem de_isiC {p2 : Pos} (hI : IsOk X.K Cs C cA) (hg : Gl X "isinstance") (hm : X.mg "isinstance" = none) (hg2 : Gl X x) (hm2 : X.mg x = some (.ref cA)) (ha : PE X a (lE X.K E w))
    (hd : (x == ("__debug__" : Str)) = false := by decide)
    (he : starEach [a, .Name x p2] X.env = (false, eval a X.env) :: starEach [.Name x p2] X.env := by rfl) (he2 : starEach [.Name x p2] X.env = (false, eval (.Name x p2) X.env) :: starEach [] X.env := by rfl) (hpl : (backTo pos (starEach [.Name x p2] X.env)).any (·.1) = false := by rfl) :
    PE X (.Call (.Name "isinstance" p) [a, .Name x p2] [] pos) (lE X.K E (dIsiC Cs C w)) :=
  PE.imp (pe_callB call_isi hg hm bt_isinstance (pa_cons ha (pa_cons (pe_glob (v := .ref cA) hg2 hm2 rfl hd) pa_nil he2) he) (by decide) (by decide) he hpl) fun σ H Q ⟨Γ, M, R, XR, g, m, q, k, kx⟩ =>
    ⟨Γ, M, _, XR, g, m, q, fun d M1 v H1 ⟨b, e1, q1⟩ s1 g1 r1 => by
      obtain ⟨t, ty, e2⟩ := isD_ok hI g1 r1 e1
      exact ⟨v, .ref cA, t, _, b, rfl, .own cA, ty, e2, k _ _ _ _ q1 s1 g1 rfl⟩, kx⟩
end
end DL
namespace DL
open PySem PySem.Spec PyProof.Rows L2
/-! ### x in a row of flat items -/
def flD : D → Option V
  | .non => some .non
  | .bl b => some (.bl b)
  | .int i => some (.int i)
  | .str x => some (.str x)
  | _ => none
def eqF (x y : D) : Bool := match flD x, flD y with
  | some a, some b => eqV a b
  | _, _ => false
section
variable {K : PySem.W.Frag} {M : Mem} {H : Hp}
theorem flD_rep {d : D} {v u : V} (r : Rep K M H d v) (h : flD d = some u) : v = u ∧ flatV u = true := by
  cases d <;> simp only [flD] at h <;> cases h
  all_goals exact ⟨r, rfl⟩
theorem flat_all {x : D} {a : V} (hx : flD x = some a) : ∀ {ds : List D} {vs : List V}, Reps K M H ds vs → (ds.all fun d => (flD d).isSome) = true → vs.all flatV = true ∧ inV a vs = ds.any fun d => eqF d x
  | [], vs, r, _ => by
    have r : vs = [] := r
    subst r
    exact ⟨rfl, rfl⟩
  | d :: ds, vs, r, h => by
    obtain ⟨v, t, rfl, rv, rt⟩ := r
    rw [List.all_cons, Bool.and_eq_true] at h
    obtain ⟨u, hu⟩ := Option.isSome_iff_exists.mp h.1
    obtain ⟨rfl, hf⟩ := flD_rep rv hu
    obtain ⟨h1, h2⟩ := flat_all hx rt h.2
    refine ⟨by rw [List.all_cons, hf, h1]; rfl, ?_⟩
    have e : eqF d x = eqV v a := by unfold eqF; rw [hu, hx]
    rw [List.any_cons, e, ← h2]; rfl
end
def oInF (neg : Bool) : O2 := fun x y M R => ∃ xs, getS M y = some xs ∧ (flD x).isSome = true ∧ (xs.all fun d => (flD d).isSome) = true ∧ R (.bl (if neg then !(xs.any fun d => eqF d x) else xs.any fun d => eqF d x)) M
section
variable {X : Cx}
theorem in_imp {neg : Bool} {vx vy : V} {H : Hp} {Q : VK} (q : lO X.K (oInF neg) vx vy H Q) : rIn X.K neg vx vy H Q := by
  obtain ⟨x, y, M, R, gd, hx, hy, ⟨xs, e, hf, ha, r⟩, k⟩ := q
  obtain ⟨u, hu⟩ := Option.isSome_iff_exists.mp hf
  obtain ⟨rfl, f1⟩ := flD_rep hx hu
  obtain ⟨a, vs, rfl, hs, rs⟩ := getS_sq gd e hy
  obtain ⟨h1, h2⟩ := flat_all hu rs ha
  refine ⟨a, vs, rfl, hs, f1, h1, ?_⟩
  rw [h2]
  exact k.now gd r rfl
theorem lo_inF : OpR X (compareOp .In) (lO X.K (oInF false)) := OpR.imp op_in_seq fun _ _ _ _ => in_imp
theorem lo_notInF : OpR X (compareOp .NotIn) (lO X.K (oInF true)) := OpR.imp op_notIn_seq fun _ _ _ _ => in_imp
/-! ### texts in order -/
def strLt (a b : Str) : Bool := decide (a.cps.toList < b.cps.toList)
def oLeX : O2
  | .str a, .str b, M, R => R (.bl (!strLt b a)) M
  | x, y, M, R => oLe x y M R
theorem lo_leX : OpR X (compareOp .LtE) (lO X.K oLeX) := OpR.imp (op_le.or op_le_str) fun vx vy H Q q => by
  obtain ⟨x, y, M, R, gd, hx, hy, r, k⟩ := q
  cases x <;> cases y <;> first | exact False.elim r | skip
  case int.int i j => exact .inl ⟨_, _, hx, hy, k.now gd r rfl⟩
  case str.str a b => exact .inr ⟨_, _, hx, hy, k.now gd r rfl⟩
end
section
variable {X : Cx} {E : L2.St → XK} {a b c e o tg : Expr} {es : List Expr} {wa wb wc w wo wd wk wx : DE} {wA : DA} {pos apos cpos : Pos}
/-! ### d.get(k), d.get(k, x) -/
def isDict (M : Mem) (x : D) : Bool := (pairsT M x).isSome || (pairsK M x).isSome
theorem isDict_at {K : PySem.W.Frag} {M : Mem} {H : Hp} {x : D} {v : V} (g : Good K M H) (r : Rep K M H x v) (h : isDict M x = true) : ∃ a, v = .ref a ∧ IsD H a := by
  unfold isDict at h
  rcases Bool.or_eq_true_iff.mp h with h | h
  · obtain ⟨kvs, e⟩ := Option.isSome_iff_exists.mp h
    obtain ⟨a, vs, rfl, ha, _⟩ := pairsT_at g e r
    exact ⟨a, rfl, .inr ⟨_, .inl ha⟩⟩
  · obtain ⟨kvs, e⟩ := Option.isSome_iff_exists.mp h
    obtain ⟨a, vs, rfl, ha, _⟩ := pairsK_at g e r
    exact ⟨a, rfl, .inl ⟨_, .inl ha⟩⟩
def dDGet2 (wd wk wx : DE) : DE := fun Γ M R XR => wd Γ M (fun x M1 => isDict M1 x = true ∧ wk Γ M1 (fun y M2 => wx Γ M2 (fun z M3 => ∃ r, dget M3 x y = some r ∧ R (r.getD z) M3) XR) XR) XR
theorem de_dget2 (hu : X.A.units + 1 < cLine) (ho : PE X o (lE X.K E wd)) (ha : PE X a (lE X.K E wk)) (hb : PE X b (lE X.K E wx)) (hm : M2 X o "get" apos a b cpos := by exact ⟨rfl, rfl, rfl, rfl⟩) :
    PE X (.Call (.Attribute o "get" apos) [a, b] [] cpos) (lE X.K E (dDGet2 wd wk wx)) := PE.imp (pe_dget2 hu ho ha hb hm) fun σ H Q ⟨Γ, M, R, XR, g, m, q, k, kx⟩ => by
  refine ⟨Γ, M, _, XR, g, m, q, fun x M1 vx H1 ⟨hd, q1⟩ s1 g1 r1 => ?_, kx⟩
  obtain ⟨p, rfl, hp⟩ := isDict_at g1 r1 hd
  refine ⟨p, rfl, hp, Γ, M1, _, XR, g1, m.stp s1, q1, fun y M2 vy H2 q2 s2 g2 r2 => ⟨Γ, M2, _, XR, g2, m.stp (s1.trans s2), q2, fun z M3 vz H3 ⟨r, e, q3⟩ s3 g3 r3 => ?_, kx.step (s1.trans s2)⟩, kx.step s1⟩
  obtain ⟨a', o', e1, hg, e2, e3⟩ := dget_at g3 e ((r1.stp s2).stp s3) (r2.stp s3)
  cases e1
  refine ⟨o', hg, ?_⟩
  cases r with
  | none =>
    have : o' = none := by cases o' with
      | none => rfl
      | some _ => cases e2
    subst this
    exact k _ _ _ _ q3 (s1.trans (s2.trans s3)) g3 r3
  | some d =>
    obtain ⟨v, rfl, rv⟩ := e3 d rfl
    exact k _ _ _ _ q3 (s1.trans (s2.trans s3)) g3 rv
/-! ### xs.pop() -/
def dPop (wo : DE) : DE := fun Γ M R XR => wo Γ M (fun x M1 => ∃ p ds d, x = .loc p ∧ M1 p = some (.lst ds) ∧ ds[ds.length - 1]? = some d ∧ R d (mup M1 p (.lst ds.dropLast))) XR
theorem Reps.dropLast {K : PySem.W.Frag} {M : Mem} {H : Hp} {ds : List D} {vs : List V} (h : Reps K M H ds vs) : Reps K M H ds.dropLast vs.dropLast := by
  rw [List.dropLast_eq_take, List.dropLast_eq_take, ← h.len]
  exact h.take _
theorem pop_imp {σ : L2.St} {H : Hp} {Q : VK} (h : lE X.K E (dPop wo) σ H Q) : tBM0 X.K "list" rPop (lE X.K E wo) σ H Q := by
  obtain ⟨Γ, M, R, XR, g, m, q, k, kx⟩ := h
  refine ⟨Γ, M, _, XR, g, m, q, fun x M1 vx H1 ⟨p, ds, d, ex, hp, hd, q1⟩ s1 g1 r1 => ?_, kx⟩
  subst ex
  have r1 : vx = .ref p := r1
  subst r1
  obtain ⟨us, hH, ru⟩ := g1 _ _ hp
  refine ⟨.inl ⟨rfl, _, SqL.of hH⟩, ?_⟩
  obtain ⟨v, hv, rv⟩ := ru.get hd
  have st := stp_put (H := H1) (o := .lst us.dropLast) (u' := .lst ds.dropLast) hp
  exact ⟨p, us, v, rfl, rfl, hH, by rw [← ru.len]; exact hv, k _ _ _ _ q1 (s1.trans st) (good_put g1 hp ⟨_, upd_same, (Reps.dropLast ru).stp st⟩) (rv.stp st)⟩
theorem de_pop (ho : PE X o (lE X.K E wo)) (hbase : attributeBase o "pop" X.env (eval o X.env) = eval o X.env := by rfl) (hline : (apos.endLine == cpos.line) = true := by rfl) :
    PE X (.Call (.Attribute o "pop" apos) [] [] cpos) (lE X.K E (dPop wo)) := PE.imp (pe_bm0 PySem.F.plainAttrs_list PySem.F.slot_list_pop PySem.F.type_list_pop mt_pop ho hbase hline) fun _ _ _ => pop_imp
/-! ### {'a': .., 'b': ..} -/
def dDisp (ks : List Str) (wA : DA) : DE := fun Γ M R XR => ∀ p, M p = none → wA Γ (mup M p (.dK [])) (fun ds M1 => M1 p = some (.dK []) ∧ ds.length = ks.length ∧ R (.dK (ks.map Sum.inr) ds) (mdel M1 p)) XR
def PDs (X : Cx) (E : L2.St → XK) (pos : Pos) (keys : List (Option Expr)) (values : List Expr) (ks : List Str) (wA : DA) : Prop :=
  ∃ trs, PPs X pos keys values trs ∧ ∀ σ H Q, lA X.K E wA σ H (fun vs H' => vs.length = ks.length ∧ Q ((ks.map V.str).zip vs) H') → tPairs trs σ H Q
theorem pd_nil : PDs X E pos [] [] [] dNil := ⟨[], pps_nil, fun σ H Q ⟨Γ, M, R, XR, g, m, q, k, kx⟩ => (k [] M [] H q (Stp.refl M H) g rfl).2⟩
theorem pd_cons {k : Str} {j : Nat} {p : Pos} {keys : List (Option Expr)} {values : List Expr} {ks : List Str} (hv : PE X e (lE X.K E w)) (hr : PDs X E pos keys values ks wA) : PDs X E pos (some (.Constant (.str k) j p) :: keys) (e :: values) (k :: ks) (dCons w wA) := by
  obtain ⟨trs, h1, h2⟩ := hr
  refine ⟨_, pps_cons pe_str hv h1, fun σ H Q ⟨Γ, M, R, XR, g, m, q, k, kx⟩ => ?_⟩
  refine ⟨Γ, M, _, XR, g, m, q, fun d M1 v H1 q1 s1 g1 r1 => h2 σ H1 _ ⟨Γ, M1, _, XR, g1, m.stp s1, q1, fun ds M2 vs H2 q2 s2 g2 r2 => ?_, kx.step s1⟩, kx⟩
  obtain ⟨hl, q3⟩ := k (d :: ds) M2 (v :: vs) H2 q2 (s1.trans s2) g2 ⟨v, vs, rfl, r1.stp s2, r2⟩
  exact ⟨by simpa using hl, q3⟩
theorem merge_nodup : ∀ (more kvs : List (Key × V)), ((kvs ++ more).map (·.1)).Nodup → mergeK kvs more = kvs ++ more
  | [], kvs, _ => by rw [List.append_nil]; rfl
  | (k, v) :: more, kvs, h => by
    have e : putK kvs k v = kvs ++ [(k, v)] := by
      have : ∀ p ∈ kvs, p.1 ≠ k := fun p hp z => by
        rw [List.map_append, List.nodup_append] at h
        exact h.2.2 _ (List.mem_map_of_mem hp) k (by simp) z
      unfold putK
      rw [if_neg]
      intro q
      rw [List.any_eq_true] at q
      obtain ⟨p, hp, e⟩ := q
      exact this p hp (by simpa using e)
    show mergeK (putK kvs k v) more = _
    rw [e, merge_nodup more (kvs ++ [(k, v)]) (by simpa using h)]
    simp
theorem zip_kV : ∀ (ks : List Str) (vs : List V), (ks.map V.str).zip vs = ((ks.map (Sum.inr : Str → Key)).zip vs).map fun kv => (kV kv.1, kv.2)
  | [], _ => rfl
  | _ :: _, [] => rfl
  | k :: ks, v :: vs => by
    show (V.str k, v) :: (ks.map V.str).zip vs = (V.str k, v) :: ((ks.map (Sum.inr : Str → Key)).zip vs).map _
    rw [zip_kV ks vs]
theorem de_disp {keys : List (Option Expr)} {values : List Expr} {ks : List Str} (h : PDs X E pos keys values ks wA) (nd : ks.Nodup) (hl : ks.length ≤ 15) (hall : keys.all (·.isSome) = true := by rfl) (hl2 : keys.length = values.length := by rfl) (h0 : keys ≠ [] := by exact List.cons_ne_nil _ _)
    (h15 : keys.length ≤ 15 := by decide) : PE X (.Dict keys values pos) (lE X.K E (dDisp ks wA)) := by
  obtain ⟨trs, h1, h2⟩ := h
  refine PE.imp (pe_disp h1 hall hl2 h0 h15) fun σ H Q ⟨Γ, M, R, XR, g, m, q, k, kx⟩ p hp => ?_
  have s0 : Stp M H (mup M p (.dK [])) (upd H p (.dK [])) := stp_loc hp
  have g0 : Good X.K (mup M p (.dK [])) (upd H p (.dK [])) := good_loc g hp ⟨[], upd_same, rfl⟩
  refine h2 σ _ _ ⟨Γ, _, _, XR, g0, m.stp s0, q p (g.free hp), fun ds M2 vs H2 ⟨e, hd, q2⟩ s2 g2 r2 => ?_, kx.step s0⟩
  have hv : vs.length = ks.length := by rw [← r2.len, hd]
  obtain ⟨vs0, hp2, _⟩ := g2 _ _ e
  have hp2 : H2 p = some (.dK []) := hp2
  have m1 : ((ks.map (Sum.inr : Str → Key)).zip ds).map (·.1) = ks.map Sum.inr := List.map_fst_zip (by rw [List.length_map]; omega)
  have m2 : ((ks.map (Sum.inr : Str → Key)).zip ds).map (·.2) = ds := List.map_snd_zip (by rw [List.length_map]; omega)
  have m3 : ((ks.map (Sum.inr : Str → Key)).zip vs).map (·.1) = ks.map Sum.inr := List.map_fst_zip (by rw [List.length_map]; omega)
  have mg : mergeK [] ((ks.map (Sum.inr : Str → Key)).zip vs) = (ks.map Sum.inr).zip vs := by
    refine merge_nodup _ [] ?_
    rw [List.nil_append, m3]
    exact List.Pairwise.map _ (fun a b h e => h (by injection e)) nd
  have st := stp_put (H := H2) (o := .dK ((ks.map Sum.inr).zip vs)) (u' := .dK ((ks.map Sum.inr).zip ds)) e
  have g3 : Good X.K (mup M2 p (.dK ((ks.map Sum.inr).zip ds))) (upd H2 p (.dK ((ks.map Sum.inr).zip vs))) := good_put g2 e ⟨vs, by rw [m1]; exact upd_same, by rw [m2]; exact r2.stp st⟩
  have fr := freeze_dK g3 mup_same
  rw [m1, m2] at fr
  have em : mdel (mup M2 p (.dK ((ks.map Sum.inr).zip ds))) p = mdel M2 p := by
    funext b
    by_cases z : b = p
    · rw [z, mdel_same, mdel_same]
    · rw [mdel_ne z, mdel_ne z, mup_ne z]
  refine ⟨hv, hp2, (ks.map Sum.inr).zip vs, ?_, ?_, ?_⟩
  · exact zip_kV ks vs
  · rw [List.length_zip, List.length_map]
    exact Nat.le_trans (Nat.min_le_left _ _) hl
  · rw [mg]
    refine k _ _ _ _ q2 ((s0.trans s2).trans (st.trans ?_)) ?_ ?_
    · rw [← em]; exact stp_sub sub_del
    · rw [← em]; exact good_sub sub_del g3
    · rw [← em]; exact fr
/-! ### the module's constants -/
theorem de_globI {x : Str} {i : Int} (hg : Gl X x) (hm : ∃ t, X.mg x = some (.int i t)) (hd : (x == ("__debug__" : Str)) = false := by decide) : PE X (.Name x pos) (lE X.K E (dC (.int i))) := by
  obtain ⟨t, hm⟩ := hm
  exact de_glob (v := .int i) hg hm ⟨t, rfl⟩ (fun _ _ => rfl) hd
/-- a written tuple of texts -/
def TupS (K : PySem.W.Frag) (a : Addr) (xs : List Str) : Prop := KT K a (xs.map V.str)
theorem strs_vals : ∀ (xs : List Str) (us : List Value), Paired (fun x u => ∃ t, u = Value.str x t) xs us → Vals (xs.map V.str) us
  | _, _, .nil => .nil
  | _, _, .cons ⟨t, e⟩ h => .cons ⟨t, e⟩ (strs_vals _ _ h)
theorem TupS.mk {K : PySem.W.Frag} {a : Addr} {xs : List Str} {dd : Option Addr} {us : List Value} {n : Nat} {sl : Array (Option Value)} (l : K.lookup a = some ⟨.type "tuple", dd, .seq us.toArray n, sl⟩) (hz : us.length ≤ 1000) (h : Paired (fun x u => ∃ t, u = Value.str x t) xs us) : TupS K a xs :=
  ⟨_, us.toArray, n, l, rfl, rfl, by rw [List.size_toArray]; exact Nat.le_trans hz (by decide), by simpa using strs_vals xs us h⟩
theorem reps_strs {K : PySem.W.Frag} {M : Mem} {H : Hp} : ∀ xs : List Str, Reps K M H (xs.map D.str) (xs.map V.str)
  | [] => rfl
  | x :: xs => ⟨.str x, _, rfl, rfl, reps_strs xs⟩
theorem de_globT {x : Str} {xs : List Str} (hg : Gl X x) (hm : ∃ a, X.mg x = some (.ref a) ∧ TupS X.K a xs) (hd : (x == ("__debug__" : Str)) = false := by decide) : PE X (.Name x pos) (lE X.K E (dC (.kt (xs.map D.str)))) := by
  obtain ⟨a, hm, ht⟩ := hm
  exact de_glob (v := .ref a) hg hm rfl (fun M H => ⟨a, _, rfl, ht, reps_strs xs⟩) hd
theorem fn_false {P : Program} {wd : World} {K : PySem.W.Frag} {mg : Str → Option Value} {base : Heap} {k : Nat} {f : Addr} {fd : FuncData} {ps : List Str} {sp : DSp} (h : ∀ ds M R XR, ¬ sp ds M R XR) : FnOk P wd K mg base CX0 k f fd ps (lSp K sp) :=
  ⟨fun vs H Q E ⟨ds, M, R, XR, _, _, q, _⟩ => (h _ _ _ _ q).elim, fun A outer s H args us vs Q E _ _ _ _ ⟨ds, M, R, XR, _, _, q, _⟩ => (h _ _ _ _ q).elim⟩
/-- a, b, c = x, y, z of plain local names -/
def dPar3 (i j l : Nat) (wA : DA) : DS := fun DD Γ M => wA Γ M (fun ds M1 => ∃ d f h, ds = [d, f, h] ∧ DD.nx (((Γ.set i (some d)).set j (some f)).set l (some h)) M1) fun e M1 => DD.xr e Γ M1
theorem ds_par3 {i j l : Nat} {x y z : Str} {px py pz pt : Pos} {kt k2 pt2} (hc : X.calm = true) (hN : X.N.Nodup) (hi : X.N[i]? = some x) (hj : X.N[j]? = some y) (hl : X.N[l]? = some z) (hij : i ≠ j) (hil : i ≠ l) (hjl : j ≠ l)
    (hx : X.env.scope.names.lookup x = some .local) (hy : X.env.scope.names.lookup y = some .local) (hz : X.env.scope.names.lookup z = some .local) (ha : PA X [a, b, c] (lA X.K E wA))
    (hw : swappedStores [.Tuple [.Name x px, .Name y py, .Name z pz] kt pt] (.Tuple [a, b, c] k2 pt2) X.env = pure (some [x, y, z]))
    (hs : swapsWithSole [.Tuple [.Name x px, .Name y py, .Name z pz] kt pt] (.Tuple [a, b, c] k2 pt2) pos.line X.env = pure false := by rfl) :
    PS X (.Assign [.Tuple [.Name x px, .Name y py, .Name z pz] kt pt] (.Tuple [a, b, c] k2 pt2) pos) (lS X.K E (dPar3 i j l wA)) := PS.imp (ps_par3 hc hN hi hj hl hij hil hjl hx hy hz ha hw hs) fun D σ H ⟨Γ, M, DD, g, m, q, k⟩ =>
  ⟨Γ, M, _, _, g, m, q, fun ds M1 vs H1 ⟨d, f, h, e, q1⟩ t1 g1 r1 => by
    subst e
    obtain ⟨v, t, rfl, h1, r2⟩ := r1
    obtain ⟨u, w', rfl, h2, h3⟩ := r2.two
    exact ⟨v, u, w', rfl, k.nx _ _ _ _ q1 t1 g1 ((((m.stp t1).set h1 i).set h2 j).set h3 l)⟩, k.kx m⟩
/-! ### for c in text -/
def signs (x : Str) : List D := x.cps.toList.map fun c => D.str ⟨#[c]⟩
theorem iw_str {K : PySem.W.Frag} {M : Mem} {H : Hp} {x : Str} : IW K (Its x) (signs x) (fun _ => True) M H := fun M' H' s g _ => by
  have hl : (signs x).length = x.cps.size := by simp [signs]
  rw [hl]
  refine ⟨fun i hi => hi, Nat.le_refl _, fun i v H'' d hd y => ?_⟩
  obtain ⟨rfl, c, hc, rfl⟩ := y
  refine ⟨Stp.refl _ _, g, ?_⟩
  have e : (signs x)[i]? = some (D.str ⟨#[c]⟩) := by
    unfold signs
    rw [List.getElem?_map, Array.getElem?_toList, hc]; rfl
  rw [e] at hd
  cases hd
  rfl
def dIterS (w : DE) : DI := fun Γ M R XR => w Γ M (fun d M1 => ∃ x, d = .str x ∧ R (signs x) (fun _ => True) M1) XR
theorem di_str (ha : PE X a (lE X.K E w)) : PI X tg a (lI X.K E (dIterS w)) := PI.imp (pi_str ha) fun σ H Rt ⟨Γ, M, R, XR, g, m, q, k, kx⟩ => ⟨Γ, M, _, XR, g, m, q, fun d M1 v H1 ⟨x, e, q1⟩ s1 g1 r1 => by
  subst e
  have r1 : v = .str x := r1
  subst r1
  exact ⟨x, rfl, k _ _ _ _ _ q1 s1 g1 iw_str⟩, kx⟩
end
end DL
namespace DL
open PySem PySem.Spec PyProof.Rows L2
/-! ### steps of the readings of DL10, DL11 -/
section
variable {Γ : Gam} {M : Mem} {R : Pst} {XR : Xst} {wa wb wc w wo wd wk wx wv : DE} {wA : DA} {DD : DEnds} {d x y z : D} {i j : Int} {n m l : Nat} {Cs : List Str} {C f : Str}
theorem x_fld (h : w Γ M (fun d M1 => ∃ C fs x, fldsD M1 d = some (C, fs) ∧ C ∈ Cs ∧ fs.lookup f = some x ∧ R x M1) XR) : dFld Cs f w Γ M R XR := h
theorem x_fld_loc {a : Addr} {fs : List (Str × D)} {P : D → Mem → Prop} (hm : M a = some (.ins C fs)) (hC : C ∈ Cs) (hl : fs.lookup f = some x) (h : P x M) : ∃ C fs x, fldsD M (.loc a) = some (C, fs) ∧ C ∈ Cs ∧ fs.lookup f = some x ∧ P x M :=
  ⟨C, fs, x, by simp [fldsD, hm], hC, hl, h⟩
theorem x_fld_obj {ns : List Str} {ds : List D} {P : D → Mem → Prop} (hC : C ∈ Cs) (hl : (ns.zip ds).lookup f = some x) (h : P x M) : ∃ C' fs x, fldsD M (.obj C ns ds) = some (C', fs) ∧ C' ∈ Cs ∧ fs.lookup f = some x ∧ P x M :=
  ⟨C, _, x, rfl, hC, hl, h⟩
theorem x_setF (h : wv Γ M (fun y M1 => wo Γ M1 (fun d M2 => ∃ a C fs, d = .loc a ∧ M2 a = some (.ins C fs) ∧ C ∈ Cs ∧ fs.length < 1000 ∧ DD.nx Γ (mup M2 a (.ins C (putA f y fs)))) fun e M2 => DD.xr e Γ M2) fun e M1 => DD.xr e Γ M1) : dSetF Cs f wo wv DD Γ M := h
theorem x_setF_loc {a : Addr} {fs : List (Str × D)} {P : Mem → Prop} (hm : M a = some (.ins C fs)) (hC : C ∈ Cs) (hl : fs.length < 1000) (h : P (mup M a (.ins C (putA f y fs)))) : ∃ a' C fs, D.loc a = .loc a' ∧ M a' = some (.ins C fs) ∧ C ∈ Cs ∧ fs.length < 1000 ∧ P (mup M a' (.ins C (putA f y fs))) :=
  ⟨a, C, fs, rfl, hm, hC, hl, h⟩
theorem x_meth {sp : DSp} {mn : Str} (h : wo Γ M (fun d M1 => ∃ fs, fldsD M1 d = some (C, fs) ∧ fs.lookup mn = none ∧ wA Γ M1 (fun ds M2 => sp (d :: ds) M2 R X0) XR) XR) : dMeth C mn sp wo wA Γ M R XR := h
theorem x_new {sp : DSp} (h : wA Γ M (fun ds M1 => ∀ p, M1 p = none → sp (.loc p :: ds) (mup M1 p (.ins C [])) (fun d M2 => d = .non ∧ R (.loc p) M2) X0) XR) : dNew C sp wA Γ M R XR := h
theorem x_isiC (h : w Γ M (fun d M1 => ∃ b, isD Cs C M1 d = some b ∧ R (.bl b) M1) XR) : dIsiC Cs C w Γ M R XR := h
theorem x_dget2 (h : wd Γ M (fun x M1 => isDict M1 x = true ∧ wk Γ M1 (fun y M2 => wx Γ M2 (fun z M3 => ∃ r, dget M3 x y = some r ∧ R (r.getD z) M3) XR) XR) XR) : dDGet2 wd wk wx Γ M R XR := h
theorem x_pop (h : wo Γ M (fun x M1 => ∃ p ds d, x = .loc p ∧ M1 p = some (.lst ds) ∧ ds[ds.length - 1]? = some d ∧ R d (mup M1 p (.lst ds.dropLast))) XR) : dPop wo Γ M R XR := h
theorem x_disp {ks : List Str} (h : ∀ p, M p = none → wA Γ (mup M p (.dK [])) (fun ds M1 => M1 p = some (.dK []) ∧ ds.length = ks.length ∧ R (.dK (ks.map Sum.inr) ds) (mdel M1 p)) XR) : dDisp ks wA Γ M R XR := h
theorem x_disp1 {ks : List Str} {ds : List D} {p : Addr} {P : D → Mem → Prop} (h0 : M p = none) (hl : ds.length = ks.length) (h : P (.dK (ks.map Sum.inr) ds) M) : mup M p (.dK []) p = some (.dK []) ∧ ds.length = ks.length ∧ P (.dK (ks.map Sum.inr) ds) (mdel (mup M p (.dK [])) p) :=
  ⟨mup_same, hl, by rw [mdel_mup h0]; exact h⟩
theorem x_par3 (h : wA Γ M (fun ds M1 => ∃ d f h, ds = [d, f, h] ∧ DD.nx (((Γ.set n (some d)).set m (some f)).set l (some h)) M1) fun e M1 => DD.xr e Γ M1) : dPar3 n m l wA DD Γ M := h
theorem x_iterS {RI : List D → (Mem → Prop) → Mem → Prop} (h : w Γ M (fun d M1 => ∃ x, d = .str x ∧ RI (signs x) (fun _ => True) M1) XR) : dIterS w Γ M RI XR := h
theorem x_leX (h : R (.bl (decide (i ≤ j))) M) : oLeX (.int i) (.int j) M R := h
theorem x_leS {a b : Str} (h : R (.bl (!strLt b a)) M) : oLeX (.str a) (.str b) M R := h
theorem x_inF {xs : List D} (hx : getS M y = some xs) (h1 : (flD x).isSome = true) (h2 : (xs.all fun d => (flD d).isSome) = true) (h : R (.bl (xs.any fun d => eqF d x)) M) : oInF false x y M R := ⟨xs, hx, h1, h2, h⟩
theorem x_notInF {xs : List D} (hx : getS M y = some xs) (h1 : (flD x).isSome = true) (h2 : (xs.all fun d => (flD d).isSome) = true) (h : R (.bl (!(xs.any fun d => eqF d x))) M) : oInF true x y M R := ⟨xs, hx, h1, h2, h⟩
/-- a text among written texts -/
theorem x_inS {xs : List Str} {a : Str} (hx : getS M y = some (xs.map D.str)) (h : R (.bl (decide (a ∈ xs))) M) : oInF false (.str a) y M R := by
  refine x_inF hx rfl (by simp [flD]) ?_
  have e : ((xs.map D.str).any fun d => eqF d (.str a)) = decide (a ∈ xs) := by
    rw [List.any_map]
    rw [Bool.eq_iff_iff]
    simp only [List.any_eq_true, decide_eq_true_eq]
    refine ⟨fun ⟨b, hb, e⟩ => ?_, fun h => ⟨a, h, ?_⟩⟩
    · have e : (b == a) = true := e
      rw [← eq_of_beq e]; exact hb
    · show (a == a) = true
      exact beq_self_eq_true a
  rw [e]
  exact h
/-- a written dict of text keys, at a text -/
theorem dget_disp {ks : List Str} {ds : List D} {k : Str} : dget M (.dK (ks.map Sum.inr) ds) (.str k) = some (look ((ks.map (Sum.inr : Str → Key)).zip ds) (.inr k)) := rfl
end
end DL
namespace DL
open PySem PySem.Spec PyProof.Rows L2
/-! ### decided steps -/
section
variable {Γ : Gam} {M : Mem} {R : Pst} {XR : Xst} {x y z : D} {i j : Int} {A B : Prop}
theorem x_eqST {a b : Str} (ha : (PyData.strOk a && PyData.strOk b && decide (a = b)) = true) (h : R (.bl true) M) : oEq (.str a) (.str b) M R := by
  simp only [Bool.and_eq_true, decide_eq_true_eq] at ha
  obtain ⟨⟨h1, h2⟩, rfl⟩ := ha
  refine x_eq h1 h2 ?_
  rw [show eqb (.str a) (.str a) = true from beq_self_eq_true a]; exact h
theorem x_eqSF {a b : Str} (ha : (PyData.strOk a && PyData.strOk b && !decide (a = b)) = true) (h : R (.bl false) M) : oEq (.str a) (.str b) M R := by
  simp only [Bool.and_eq_true, Bool.not_eq_true', decide_eq_false_iff_not] at ha
  obtain ⟨⟨h1, h2⟩, h3⟩ := ha
  refine x_eq h1 h2 ?_
  rw [show eqb (.str a) (.str b) = false from by show (a == b) = false; simpa using h3]; exact h
theorem x_inT {xs : List D} (hx : getS M y = some xs) (h1 : (flD x).isSome = true) (h2 : (xs.all fun d => (flD d).isSome) = true) (h3 : (xs.any fun d => eqF d x) = true) (h : R (.bl true) M) : oInF false x y M R :=
  x_inF hx h1 h2 (by rw [h3]; exact h)
theorem x_inN {xs : List D} (hx : getS M y = some xs) (h1 : (flD x).isSome = true) (h2 : (xs.all fun d => (flD d).isSome) = true) (h3 : (xs.any fun d => eqF d x) = false) (h : R (.bl false) M) : oInF false x y M R :=
  x_inF hx h1 h2 (by rw [h3]; exact h)
theorem x_yesE (hp : i = j) (h : A) : if (i == j) = true then A else B := by rw [if_pos (by simpa using hp)]; exact h
theorem x_noE (hp : ¬ i = j) (h : B) : if (i == j) = true then A else B := by rw [if_neg (by simpa using hp)]; exact h
theorem x_yesN (hp : ¬ i = j) (h : A) : if (!(i == j)) = true then A else B := by rw [if_pos (by simpa using hp)]; exact h
theorem x_noN (hp : i = j) (h : B) : if (!(i == j)) = true then A else B := by rw [if_neg (by simpa using hp)]; exact h
theorem x_nYes {p : Prop} [Decidable p] (hp : ¬ p) (h : A) : if (!decide p) = true then A else B := by rw [if_pos (by simpa using hp)]; exact h
theorem x_nNo {p : Prop} [Decidable p] (hp : p) (h : B) : if (!decide p) = true then A else B := by rw [if_neg (by simpa using hp)]; exact h
theorem x_ty {T t : String} {b : Bool} {d : D} {P : Bool → Prop} (ht : tyD M d = some t) (hb : kitB t T = some b) (h : P b) : ∃ t b, tyD M d = some t ∧ kitB t T = some b ∧ P b := ⟨t, b, ht, hb, h⟩
theorem x_fldO {Cs : List Str} {C f : Str} {ns : List Str} {ds : List D} {P : D → Prop} (hC : C ∈ Cs) (hl : (ns.zip ds).lookup f = some x) (h : P x) : ∃ C' fs x, fldsD M (.obj C ns ds) = some (C', fs) ∧ C' ∈ Cs ∧ fs.lookup f = some x ∧ P x :=
  ⟨C, _, x, rfl, hC, hl, h⟩
theorem x_fldL {Cs : List Str} {C f : Str} {a : Addr} {fs : List (Str × D)} {P : D → Prop} (hm : M a = some (.ins C fs)) (hC : C ∈ Cs) (hl : fs.lookup f = some x) (h : P x) : ∃ C fs x, fldsD M (.loc a) = some (C, fs) ∧ C ∈ Cs ∧ fs.lookup f = some x ∧ P x :=
  ⟨C, fs, x, by simp [fldsD, hm], hC, hl, h⟩
/-- a bool that is asked for as a value -/
theorem x_bl {b c : Bool} (e : b = c) (h : R (.bl c) M) : R (.bl b) M := e ▸ h
theorem x_in {i j : Int} (e : i = j) (h : R (.int j) M) : R (.int i) M := e ▸ h
end
end DL
namespace DL
open PySem PySem.Spec PyProof.Rows L2
/-- pure items, told by what they stand for -/
theorem lc_mapT {α : Type} {gg : DG} {tt : DT} {te : DE} {Γw : Gam} {ds : List D} {M : Mem} {F : Addr → Mem → Prop} {ts : List α} (enc f : α → D) (e : ds = ts.map enc) (hl : ts.length ≤ 100000)
    (h : ∀ t ∈ ts, ∀ M', Sub M M' → Gives gg tt te Γw M' (enc t) (f t)) (q : ∀ A, M A = none → F A (mup M A (.lst (ts.map f)))) : ∀ A, M A = none → lcGo gg tt te (fun _ => True) Γw A (F A) ds (mup M A (.lst [])) := fun A hA => by
  subst e
  have key : ∀ (es done : List α), done ++ es = ts → lcGo gg tt te (fun _ => True) Γw A (F A) (es.map enc) (mup M A (.lst (done.map f))) := by
    intro es
    induction es with
    | nil =>
      intro done e
      rw [List.append_nil] at e
      exact ⟨trivial, by rw [e]; exact q A hA⟩
    | cons d es ih =>
      intro done e
      refine ⟨trivial, h d (by rw [← e]; simp) _ (sub_up hA) _ _ ?_⟩
      have hz := congrArg List.length e
      rw [List.length_append, List.length_cons] at hz
      refine ⟨done.map f, mup_same, by rw [List.length_map]; exact Nat.lt_of_lt_of_le (show _ < 100001 by omega) (by decide), ?_⟩
      rw [mup_mup]
      have := ih (done ++ [d]) (by rw [← e]; simp)
      rw [List.map_append] at this
      exact this
  exact key ts [] rfl
theorem look_map {κ α ι : Type} [DecidableEq κ] {ws : List ι} {key : ι → κ} {f : ι → α} {w : ι} (hi : ∀ v ∈ ws, key v = key w → v = w) (hw : w ∈ ws) : look ((ws.map key).zip (ws.map f)) (key w) = some (f w) := by
  induction ws with
  | nil => cases hw
  | cons v ws ih =>
    simp only [List.map_cons, List.zip_cons_cons, look, List.find?_cons]
    by_cases h : key v = key w
    · rw [decide_eq_true h, hi v List.mem_cons_self h]; rfl
    · rw [decide_eq_false h]
      exact ih (fun u hu => hi u (List.mem_cons_of_mem _ hu)) ((List.mem_cons.mp hw).resolve_left fun e => h (by rw [e]))
end DL
namespace DL
mutual
theorem okD_le' : ∀ {d : D} {n m : Nat}, n ≤ m → okD n d = true → okD m d = true
  | .non, _, _, _, _ => rfl
  | .bl _, _, _, _, _ => rfl
  | .int _, _, _, _, _ => rfl
  | .str x, _, _, _, h => h
  | .tup ds, 0, _, _, h => by cases h
  | .tup ds, n + 1, 0, e, h => by omega
  | .tup ds, n + 1, m + 1, e, h => okDs_le' (ds := ds) (by omega) h
  | .lst ds, 0, _, _, h => by cases h
  | .lst ds, n + 1, 0, e, h => by omega
  | .lst ds, n + 1, m + 1, e, h => okDs_le' (ds := ds) (by omega) h
  | .sl ds, 0, _, _, h => by cases h
  | .sl ds, n + 1, 0, e, h => by omega
  | .sl ds, n + 1, m + 1, e, h => okDs_le' (ds := ds) (by omega) h
  | .kt ds, 0, _, _, h => by cases h
  | .kt ds, n + 1, 0, e, h => by omega
  | .kt ds, n + 1, m + 1, e, h => okDs_le' (ds := ds) (by omega) h
  | .loc _, _, _, _, h => by cases h
  | .obj _ _ _, _, _, _, h => by cases h
  | .dK _ _, _, _, _, h => by cases h
  | .dT _ _, _, _, _, h => by cases h
theorem okDs_le' : ∀ {ds : List D} {n m : Nat}, n ≤ m → okDs n ds = true → okDs m ds = true
  | [], _, _, _, _ => rfl
  | d :: ds, n, m, e, h => by
    have h : (okD n d && okDs n ds) = true := h
    rw [Bool.and_eq_true] at h
    show (okD m d && okDs m ds) = true
    rw [okD_le' e h.1, okDs_le' e h.2]; rfl
end
theorem okD_le {d : D} {n m : Nat} (e : n ≤ m) (h : okD n d = true) : okD m d = true := okD_le' e h
theorem okD_up {d : D} (n : Nat) (h : okD n d = true) : okD (n + 1) d = true := okD_le' (Nat.le_succ n) h
end DL
namespace DL
open PySem PySem.Spec PyProof.Rows L2
/-! ### (x, ..) * n -/
def oRepT : O2
  | .tup xs, .int k, M, R => xs ≠ [] ∧ 2 ≤ k ∧ k ≤ 1000 ∧ xs.length ≤ 1000 ∧ R (.tup (List.replicate k.toNat xs).flatten) M
  | _, _, _, _ => False
section
variable {X : Cx}
theorem Reps.flat {K : PySem.W.Frag} {M : Mem} {H : Hp} {ds : List D} {vs : List V} (h : Reps K M H ds vs) : ∀ n : Nat, Reps K M H (List.replicate n ds).flatten (List.replicate n vs).flatten
  | 0 => rfl
  | n + 1 => by
    rw [List.replicate_succ, List.replicate_succ, List.flatten_cons, List.flatten_cons]
    exact h.append (Reps.flat h n)
theorem lo_repT : OpR X (binaryOp .Mult) (lO X.K oRepT) := OpR.imp op_repT fun vx vy H Q q => by
  obtain ⟨x, y, M, R, gd, hx, hy, r, k⟩ := q
  cases x <;> cases y <;> first | exact False.elim r | skip
  obtain ⟨a, vs, rfl, ha, ra⟩ := hx.tupS
  obtain ⟨h1, h2, h3, h4, q⟩ := r
  refine ⟨a, _, vs, rfl, hy, ha, fun e => ?_, h2, h3, by rw [← ra.len]; exact h4, fun p hp => k.tup gd q (ra.flat _) hp⟩
  subst e
  exact h1 (List.eq_nil_of_length_eq_zero ra.len)
end
end DL
namespace Law
open PySem PySem.Spec PyProof.Rows L2 DL
/-! ### words, terms, worlds as plain data -/
inductive Bop where
  | and | or | xor | add | sub | mul
  deriving DecidableEq
inductive Rop where
  | all | any | odd
  deriving DecidableEq
inductive Tm where
  | const (w v : Nat)
  | token (w i : Nat)
  | keep (w : Nat)
  | read (w : Nat) (a : Tm)
  | bin (o : Bop) (a b : Tm)
  | cmp (less : Bool) (a b : Tm)
  | not (a : Tm)
  | red (k : Rop) (a : Tm)
  | pick (t a b : Tm)
  | join2 (a b : Tm)
  | join3 (a b c : Tm)
  | join4 (a b c d : Tm)
  | part (a : Tm) (hi lo : Nat)
structure Wd where
  tok : Nat → Nat → Nat
  kp : Nat → Nat
  st : Nat → List Nat
def pop : Nat → Nat → Nat
  | 0, _ => 0
  | n + 1, v => v % 2 + pop n (v / 2)
def binV (o : Bop) (w a b : Nat) : Nat := match o with
  | .and => a &&& b
  | .or => a ||| b
  | .xor => a ^^^ b
  | .add => (a + b) % 2 ^ w
  | .sub => (a + (2 ^ w - b)) % 2 ^ w
  | .mul => a * b % 2 ^ w
def redV (k : Rop) (w a : Nat) : Nat := match k with
  | .all => if pop w a = w then 1 else 0
  | .any => if 0 < pop w a then 1 else 0
  | .odd => pop w a % 2
def wid : Tm → Nat
  | .const w _ => w
  | .token w _ => w
  | .keep w => w
  | .read w _ => w
  | .bin _ a _ => wid a
  | .cmp _ _ _ => 1
  | .not a => wid a
  | .red _ _ => 1
  | .pick _ a _ => wid a
  | .join2 a b => wid a + wid b
  | .join3 a b c => wid a + wid b + wid c
  | .join4 a b c d => wid a + wid b + wid c + wid d
  | .part _ hi lo => hi - lo + 1
def val (W : Wd) : Tm → Nat
  | .const _ v => v
  | .token w i => W.tok w i
  | .keep w => W.kp w
  | .read w a => (W.st w).getD (val W a) 0
  | .bin o a b => binV o (wid a) (val W a) (val W b)
  | .cmp less a b => if less then (if val W a < val W b then 1 else 0) else (if val W a = val W b then 1 else 0)
  | .not a => 2 ^ wid a - 1 - val W a
  | .red k a => redV k (wid a) (val W a)
  | .pick t a b => if val W t = 1 then val W a else val W b
  | .join2 a b => val W a * 2 ^ wid b + val W b
  | .join3 a b c => (val W a * 2 ^ wid b + val W b) * 2 ^ wid c + val W c
  | .join4 a b c d => ((val W a * 2 ^ wid b + val W b) * 2 ^ wid c + val W c) * 2 ^ wid d + val W d
  | .part a hi lo => val W a / 2 ^ lo % 2 ^ (hi - lo + 1)
/-- a term that has a width -/
def wf : Tm → Prop
  | .const w v => 1 ≤ w ∧ w ≤ 8 ∧ v < 2 ^ w
  | .token w i => 1 ≤ w ∧ w ≤ 8 ∧ i < 2
  | .keep w => 1 ≤ w ∧ w ≤ 8
  | .read w a => 1 ≤ w ∧ w ≤ 8 ∧ wf a
  | .bin _ a b => wf a ∧ wf b ∧ wid a = wid b
  | .cmp _ a b => wf a ∧ wf b ∧ wid a = wid b
  | .not a => wf a
  | .red _ a => wf a
  | .pick t a b => wf t ∧ wid t = 1 ∧ wf a ∧ wf b ∧ wid a = wid b
  | .join2 a b => wf a ∧ wf b ∧ wid a + wid b ≤ 8
  | .join3 a b c => wf a ∧ wf b ∧ wf c ∧ wid a + wid b + wid c ≤ 8
  | .join4 a b c d => wf a ∧ wf b ∧ wf c ∧ wf d ∧ wid a + wid b + wid c + wid d ≤ 8
  | .part a hi lo => wf a ∧ lo ≤ hi ∧ hi < wid a
structure WdOk (W : Wd) : Prop where
  tok : ∀ w, 1 ≤ w → w ≤ 8 → ∀ i, i < 2 → W.tok w i < 2 ^ w
  kp : ∀ w, 1 ≤ w → w ≤ 8 → W.kp w < 2 ^ w
  st : ∀ w, 1 ≤ w → w ≤ 8 → ∀ v ∈ W.st w, v < 2 ^ w
theorem wid_ok : ∀ t, wf t → 1 ≤ wid t ∧ wid t ≤ 8
  | .const w v, h => ⟨h.1, h.2.1⟩
  | .token w i, h => ⟨h.1, h.2.1⟩
  | .keep w, h => h
  | .read w a, h => ⟨h.1, h.2.1⟩
  | .bin _ a b, h => wid_ok a h.1
  | .cmp _ a b, h => by simp [wid]
  | .not a, h => wid_ok a h
  | .red _ a, h => by simp [wid]
  | .pick t a b, h => wid_ok a h.2.2.1
  | .join2 a b, h => by
    have := wid_ok a h.1
    have := h.2.2
    show 1 ≤ wid a + wid b ∧ wid a + wid b ≤ 8
    omega
  | .join3 a b c, h => by
    have := wid_ok a h.1
    have := h.2.2.2
    show 1 ≤ wid a + wid b + wid c ∧ wid a + wid b + wid c ≤ 8
    omega
  | .join4 a b c d, h => by
    have := wid_ok a h.1
    have := h.2.2.2.2
    show 1 ≤ wid a + wid b + wid c + wid d ∧ wid a + wid b + wid c + wid d ≤ 8
    omega
  | .part a hi lo, h => by
    have := wid_ok a h.1
    have h1 := h.2.1
    have h2 := h.2.2
    show 1 ≤ hi - lo + 1 ∧ hi - lo + 1 ≤ 8
    omega
theorem pow_pos2 (n : Nat) : 0 < 2 ^ n := Nat.pos_of_ne_zero (by simp)
theorem join_lt {a b m n : Nat} (ha : a < 2 ^ m) (hb : b < 2 ^ n) : a * 2 ^ n + b < 2 ^ (m + n) := by
  rw [Nat.pow_add]
  have : (a + 1) * 2 ^ n ≤ 2 ^ m * 2 ^ n := Nat.mul_le_mul_right _ ha
  rw [Nat.succ_mul] at this
  omega
theorem val_lt {W : Wd} (hW : WdOk W) : ∀ t, wf t → val W t < 2 ^ wid t
  | .const w v, h => h.2.2
  | .token w i, h => hW.tok w h.1 h.2.1 i h.2.2
  | .keep w, h => hW.kp w h.1 h.2
  | .read w a, h => by
    show (W.st w).getD (val W a) 0 < 2 ^ w
    by_cases e : val W a < (W.st w).length
    · have e2 : (W.st w).getD (val W a) 0 = (W.st w)[val W a] := by simp [List.getD, e]
      rw [e2]; exact hW.st w h.1 h.2.1 _ (List.getElem_mem e)
    · rw [show (W.st w).getD (val W a) 0 = 0 from by simp [List.getD_eq_getElem?_getD, List.getElem?_eq_none (Nat.le_of_not_lt e)]]
      exact pow_pos2 _
  | .bin o a b, h => by
    have h1 := val_lt hW a h.1
    have h2 := val_lt hW b h.2.1
    rw [← h.2.2] at h2
    show binV o (wid a) (val W a) (val W b) < 2 ^ wid a
    cases o
    · exact Nat.and_lt_two_pow _ h2
    · exact Nat.or_lt_two_pow h1 h2
    · exact Nat.xor_lt_two_pow h1 h2
    · exact Nat.mod_lt _ (pow_pos2 _)
    · exact Nat.mod_lt _ (pow_pos2 _)
    · exact Nat.mod_lt _ (pow_pos2 _)
  | .cmp less a b, h => by
    show (if less then (if val W a < val W b then 1 else 0) else (if val W a = val W b then 1 else 0)) < 2 ^ 1
    split <;> split <;> decide
  | .not a, h => by
    show 2 ^ wid a - 1 - val W a < 2 ^ wid a
    have := pow_pos2 (wid a)
    omega
  | .red k a, h => by
    show redV k (wid a) (val W a) < 2 ^ 1
    cases k
    · show (if _ then 1 else 0) < 2; split <;> decide
    · show (if _ then 1 else 0) < 2; split <;> decide
    · exact Nat.mod_lt _ (by decide)
  | .pick t a b, h => by
    show (if val W t = 1 then val W a else val W b) < 2 ^ wid a
    split
    · exact val_lt hW a h.2.2.1
    · rw [h.2.2.2.2]; exact val_lt hW b h.2.2.2.1
  | .join2 a b, h => join_lt (val_lt hW a h.1) (val_lt hW b h.2.1)
  | .join3 a b c, h => join_lt (join_lt (val_lt hW a h.1) (val_lt hW b h.2.1)) (val_lt hW c h.2.2.1)
  | .join4 a b c d, h => join_lt (join_lt (join_lt (val_lt hW a h.1) (val_lt hW b h.2.1)) (val_lt hW c h.2.2.1)) (val_lt hW d h.2.2.2.1)
  | .part a hi lo, h => Nat.mod_lt _ (pow_pos2 _)
end Law
namespace Law
open PySem PySem.Spec PyProof.Rows L2 DL
/-! ### what is the same in arithmetic and in logic -/
theorem not_test {w a : Nat} (h : a < 2 ^ w) (i : Nat) : (2 ^ w - 1 - a).testBit i = (decide (i < w) && !a.testBit i) := by
  have e : 2 ^ w - 1 - a = 2 ^ w - (a + 1) := by omega
  rw [e, Nat.testBit_two_pow_sub_succ h]
theorem lt_test {w a i : Nat} (h : a < 2 ^ w) (hi : ¬ i < w) : a.testBit i = false := Nat.testBit_lt_two_pow (Nat.lt_of_lt_of_le h (Nat.pow_le_pow_right (by decide) (by omega)))
theorem not_lt (w a : Nat) : 2 ^ w - 1 - a < 2 ^ w := by have := pow_pos2 w; omega
theorem i_not_and {w a b : Nat} (ha : a < 2 ^ w) (hb : b < 2 ^ w) : 2 ^ w - 1 - (a &&& b) = (2 ^ w - 1 - a) ||| (2 ^ w - 1 - b) := by
  apply Nat.eq_of_testBit_eq
  intro i
  rw [Nat.testBit_or, not_test ha, not_test hb, not_test (Nat.and_lt_two_pow _ hb), Nat.testBit_and]
  cases decide (i < w) <;> cases a.testBit i <;> cases b.testBit i <;> rfl
theorem i_xor {w a b : Nat} (ha : a < 2 ^ w) (hb : b < 2 ^ w) : a ^^^ b = (a ||| b) &&& (2 ^ w - 1 - (a &&& b)) := by
  apply Nat.eq_of_testBit_eq
  intro i
  rw [Nat.testBit_and, Nat.testBit_or, not_test (Nat.and_lt_two_pow _ hb), Nat.testBit_and, Nat.testBit_xor]
  by_cases hi : i < w
  · rw [decide_eq_true hi]
    cases a.testBit i <;> cases b.testBit i <;> rfl
  · rw [lt_test ha hi, lt_test hb hi, decide_eq_false hi]; rfl
theorem i_not_not {w a : Nat} (ha : a < 2 ^ w) : 2 ^ w - 1 - (2 ^ w - 1 - a) = a := by omega
theorem i_and_or (a b c : Nat) : a &&& (b ||| c) = (a &&& b) ||| (a &&& c) := Nat.and_or_distrib_left a b c
theorem i_or_ones {w a : Nat} (ha : a < 2 ^ w) : a ||| (2 ^ w - 1) = 2 ^ w - 1 := by
  apply Nat.eq_of_testBit_eq
  intro i
  rw [Nat.testBit_or, Nat.testBit_two_pow_sub_one]
  by_cases hi : i < w
  · rw [decide_eq_true hi]; cases a.testBit i <;> rfl
  · rw [lt_test ha hi]; rfl
theorem i_sub {w a b : Nat} (hb : b < 2 ^ w) : (a + (2 ^ w - b)) % 2 ^ w = (a + (2 ^ w - 1 - b + 1) % 2 ^ w) % 2 ^ w := by
  rw [Nat.add_mod_mod]
  congr 2
  omega
theorem i_sub_self {w a : Nat} (ha : a < 2 ^ w) : (a + (2 ^ w - a)) % 2 ^ w = 0 := by
  have : a + (2 ^ w - a) = 2 ^ w := by omega
  rw [this, Nat.mod_self]
theorem i_neg {w a : Nat} (ha : a < 2 ^ w) : (0 + (2 ^ w - a)) % 2 ^ w = (2 ^ w - 1 - a + 1) % 2 ^ w := by
  congr 1; omega
theorem i_add_assoc (w a b c : Nat) : ((a + b) % 2 ^ w + c) % 2 ^ w = (a + (b + c) % 2 ^ w) % 2 ^ w := by
  rw [Nat.mod_add_mod, Nat.add_mod_mod, Nat.add_assoc]
theorem i_mul_add (w a b c : Nat) : a * ((b + c) % 2 ^ w) % 2 ^ w = (a * b % 2 ^ w + a * c % 2 ^ w) % 2 ^ w := by
  rw [Nat.mul_mod_mod, Nat.mul_add, Nat.mod_add_mod, Nat.add_mod_mod]
/-- a sum is the unlike bits and twice the common ones -/
theorem i_sum : ∀ (a b : Nat), (a ^^^ b) + 2 * (a &&& b) = a + b := by
  intro a
  induction a using Nat.strongRecOn with
  | ind a ih =>
    intro b
    by_cases h : a = 0
    · subst h; simp
    · have h1 := ih (a / 2) (by omega) (b / 2)
      have e1 : (a ^^^ b) = 2 * (a / 2 ^^^ b / 2) + (a % 2 ^^^ b % 2) := by
        have := Nat.div_add_mod (a ^^^ b) 2
        have k := Nat.xor_mod_two_pow (a := a) (b := b) (n := 1)
        rw [Nat.pow_one] at k
        rw [Nat.xor_div_two, k] at this
        exact this.symm
      have e2 : (a &&& b) = 2 * (a / 2 &&& b / 2) + (a % 2 &&& b % 2) := by
        have := Nat.div_add_mod (a &&& b) 2
        have k := Nat.and_mod_two_pow (a := a) (b := b) (n := 1)
        rw [Nat.pow_one] at k
        rw [Nat.and_div_two, k] at this
        exact this.symm
      rw [e1, e2]
      have : (a % 2 ^^^ b % 2) + 2 * (a % 2 &&& b % 2) = a % 2 + b % 2 := by
        rcases Nat.mod_two_eq_zero_or_one a with h | h <;> rcases Nat.mod_two_eq_zero_or_one b with k | k <;> rw [h, k] <;> decide
      omega
theorem i_sum_w {w a b : Nat} (hw : 1 < w) : ((a ^^^ b) + (1 + 1) % 2 ^ w * (a &&& b) % 2 ^ w) % 2 ^ w = (a + b) % 2 ^ w := by
  have h2 : (1 + 1) % 2 ^ w = 2 := Nat.mod_eq_of_lt (Nat.lt_of_lt_of_le (show 2 < 2 ^ 2 by decide) (Nat.pow_le_pow_right (by decide) hw))
  rw [h2, Nat.add_mod_mod, i_sum]
theorem i_sum_1 {a b : Nat} (ha : a < 2 ^ 1) (hb : b < 2 ^ 1) : (a + b) % 2 ^ 1 = a ^^^ b := by
  have h1 : a = 0 ∨ a = 1 := by omega
  have h2 : b = 0 ∨ b = 1 := by omega
  rcases h1 with rfl | rfl <;> rcases h2 with rfl | rfl <;> decide
/-! how many bits -/
theorem pop_le : ∀ w a, pop w a ≤ w
  | 0, _ => Nat.le_refl _
  | w + 1, a => by
    have := pop_le w (a / 2)
    show a % 2 + pop w (a / 2) ≤ w + 1
    omega
theorem pop_zero : ∀ w, pop w 0 = 0
  | 0 => rfl
  | w + 1 => by show 0 % 2 + pop w (0 / 2) = 0; rw [Nat.zero_div, pop_zero w]
theorem pop_pos : ∀ w a, a < 2 ^ w → (0 < pop w a ↔ 0 < a)
  | 0, a, h => by
    have : a = 0 := by omega
    subst this; exact Iff.rfl
  | w + 1, a, h => by
    have ih := pop_pos w (a / 2) (by rw [Nat.pow_succ] at h; omega)
    show 0 < a % 2 + pop w (a / 2) ↔ 0 < a
    constructor
    · intro k
      rcases Nat.eq_zero_or_pos (a % 2) with z | z
      · have := ih.mp (by omega); omega
      · omega
    · intro k
      rcases Nat.eq_zero_or_pos (a % 2) with z | z
      · have := ih.mpr (by omega); omega
      · omega
theorem pop_not : ∀ w a, a < 2 ^ w → pop w (2 ^ w - 1 - a) + pop w a = w
  | 0, _, _ => rfl
  | w + 1, a, h => by
    rw [Nat.pow_succ] at h
    have ih := pop_not w (a / 2) (by omega)
    have hp := pow_pos2 w
    have e : (2 ^ (w + 1) - 1 - a) / 2 = 2 ^ w - 1 - a / 2 := by rw [Nat.pow_succ]; omega
    show (2 ^ (w + 1) - 1 - a) % 2 + pop w ((2 ^ (w + 1) - 1 - a) / 2) + (a % 2 + pop w (a / 2)) = w + 1
    rw [e]
    have e2 : (2 ^ (w + 1) - 1 - a) % 2 + a % 2 = 1 := by rw [Nat.pow_succ]; omega
    omega
/-- all bits are told just if it is the greatest word -/
theorem pop_all {w a : Nat} (h : a < 2 ^ w) : pop w a = w ↔ a = 2 ^ w - 1 := by
  have h1 := pop_not w a h
  have h2 := pop_pos w (2 ^ w - 1 - a) (not_lt w a)
  have hp := pow_pos2 w
  constructor
  · intro e
    have : ¬ 0 < pop w (2 ^ w - 1 - a) := by omega
    rw [h2] at this
    omega
  · intro e
    have : ¬ 0 < pop w (2 ^ w - 1 - a) := by rw [h2]; omega
    omega
theorem pop_xor : ∀ w a b, pop w (a ^^^ b) % 2 = (pop w a + pop w b) % 2
  | 0, _, _ => rfl
  | w + 1, a, b => by
    have ih := pop_xor w (a / 2) (b / 2)
    have k := Nat.xor_mod_two_pow (a := a) (b := b) (n := 1)
    rw [Nat.pow_one] at k
    show ((a ^^^ b) % 2 + pop w ((a ^^^ b) / 2)) % 2 = (a % 2 + pop w (a / 2) + (b % 2 + pop w (b / 2))) % 2
    rw [Nat.xor_div_two, k]
    have : (a % 2 ^^^ b % 2) % 2 = (a % 2 + b % 2) % 2 := by
      rcases Nat.mod_two_eq_zero_or_one a with h | h <;> rcases Nat.mod_two_eq_zero_or_one b with k | k <;> rw [h, k] <;> decide
    omega
end Law
namespace Law
open PySem PySem.Spec PyProof.Rows L2 DL
/-! ### parts and joins -/
theorem hi_lt {w l a : Nat} (hl : l ≤ w) (ha : a < 2 ^ w) : a / 2 ^ l < 2 ^ (w - l) := by
  rw [Nat.div_lt_iff_lt_mul (pow_pos2 l), ← Nat.pow_add]
  rw [show w - l + l = w by omega]; exact ha
theorem hi_eq {w l a : Nat} (hl : l ≤ w) (ha : a < 2 ^ w) : a / 2 ^ l % 2 ^ (w - l) = a / 2 ^ l := Nat.mod_eq_of_lt (hi_lt hl ha)
theorem p_join (l a : Nat) : a / 2 ^ l * 2 ^ l + a % 2 ^ l = a := by
  have := Nat.div_add_mod a (2 ^ l)
  rw [Nat.mul_comm] at this
  exact this
theorem p_low (h l x : Nat) : (h * 2 ^ l + x % 2 ^ l) % 2 ^ l = x % 2 ^ l := by
  rw [Nat.mul_comm, Nat.mul_add_mod, Nat.mod_mod]
theorem pop_parts : ∀ l w a, l ≤ w → pop w a = pop (w - l) (a / 2 ^ l) + pop l (a % 2 ^ l)
  | 0, w, a, _ => by simp [pop, Nat.mod_one]
  | l + 1, 0, a, h => by omega
  | l + 1, w + 1, a, h => by
    have ih := pop_parts l w (a / 2) (by omega)
    show a % 2 + pop w (a / 2) = pop (w + 1 - (l + 1)) (a / 2 ^ (l + 1)) + (a % 2 ^ (l + 1) % 2 + pop l (a % 2 ^ (l + 1) / 2))
    rw [ih, show w + 1 - (l + 1) = w - l by omega]
    have e1 : a / 2 ^ (l + 1) = a / 2 / 2 ^ l := by rw [Nat.div_div_eq_div_mul, Nat.pow_succ, Nat.mul_comm 2]
    have e2 : a % 2 ^ (l + 1) % 2 = a % 2 := by rw [Nat.pow_succ, Nat.mul_comm]; exact Nat.mod_mul_right_mod a 2 (2 ^ l)
    have e3 : a % 2 ^ (l + 1) / 2 = a / 2 % 2 ^ l := by rw [Nat.pow_succ, Nat.mul_comm, Nat.mod_mul_right_div_self]
    rw [e1, e2, e3]
    omega
theorem p_twice {w l : Nat} (hl : l ≤ w) (a : Nat) : a * 2 ^ l % 2 ^ w = a % 2 ^ (w - l) * 2 ^ l := by
  have e : 2 ^ w = 2 ^ (w - l) * 2 ^ l := by rw [← Nat.pow_add]; congr 1; omega
  rw [e, Nat.mul_mod_mul_right]
theorem p_any (l a : Nat) : 0 < a ↔ 0 < a / 2 ^ l ∨ 0 < a % 2 ^ l := by
  have h := p_join l a
  constructor
  · intro h0
    rcases Nat.eq_zero_or_pos (a / 2 ^ l) with z | z
    · rw [z, Nat.zero_mul, Nat.zero_add] at h
      right; rw [h]; exact h0
    · exact .inl z
  · rintro (z | z)
    · exact Nat.lt_of_lt_of_le (Nat.mul_pos z (pow_pos2 l)) (by omega)
    · exact Nat.lt_of_lt_of_le z (Nat.mod_le _ _)
theorem p_join3 (l a : Nat) : (a / 2 ^ (l + 1) * 2 ^ 1 + a / 2 ^ l % 2) * 2 ^ l + a % 2 ^ l = a := by
  have e : a / 2 ^ (l + 1) = a / 2 ^ l / 2 := by rw [Nat.div_div_eq_div_mul, Nat.pow_succ]
  rw [e, Nat.pow_one]
  have : a / 2 ^ l / 2 * 2 + a / 2 ^ l % 2 = a / 2 ^ l := by omega
  rw [this]
  exact p_join l a
theorem p_upper {x u m k : Nat} (hu : u < 2 ^ k) (hm : m < 2) : ((x * 2 ^ k + u) * 2 ^ 1 + m) / 2 ^ 1 % 2 ^ k = u := by
  rw [Nat.pow_one]
  have : ((x * 2 ^ k + u) * 2 + m) / 2 = x * 2 ^ k + u := by omega
  rw [this, Nat.mul_comm, Nat.mul_add_mod, Nat.mod_eq_of_lt hu]
theorem p_not {w l a : Nat} (hl : l ≤ w) (ha : a < 2 ^ w) : (2 ^ w - 1 - a) / 2 ^ l = 2 ^ (w - l) - 1 - a / 2 ^ l := by
  apply Nat.eq_of_testBit_eq
  intro i
  rw [Nat.testBit_div_two_pow, not_test ha, not_test (hi_lt hl ha), Nat.testBit_div_two_pow]
  have : decide (i + l < w) = decide (i < w - l) := decide_eq_decide.mpr (by omega)
  rw [this]
theorem p_add {w l : Nat} (hl : l ≤ w) (a b : Nat) : (a + b) % 2 ^ w % 2 ^ l = (a % 2 ^ l + b % 2 ^ l) % 2 ^ l := by
  have e : 2 ^ w = 2 ^ l * 2 ^ (w - l) := by rw [← Nat.pow_add]; congr 1; omega
  rw [e, Nat.mod_mul_right_mod, Nat.add_mod]
/-- turned words stand in the other order -/
theorem p_less {w a b : Nat} (ha : a < 2 ^ w) (hb : b < 2 ^ w) : a < b ↔ 2 ^ w - 1 - b < 2 ^ w - 1 - a := by omega
theorem xor_zero_iff (a b : Nat) : 0 < a ^^^ b ↔ a ≠ b := by
  constructor
  · intro h e
    rw [e, Nat.xor_self] at h
    omega
  · intro h
    rcases Nat.eq_zero_or_pos (a ^^^ b) with z | z
    · have h1 := i_sum a b
      have h2 := Nat.and_le_left (n := a) (m := b)
      have h3 := Nat.and_le_right (n := a) (m := b)
      omega
    · exact z
end Law
namespace Law
open PySem PySem.Spec PyProof.Rows L2 DL
/-! ### terms and worlds as data -/
def sS (x : String) : D := .str (Str.ofString x)
def sN (k : Nat) : Str := Str.ofString (toString (k : Int))
def nm (p : String) (w : Nat) : D := .str (Str.ofString p ++ sN w)
def bopS : Bop → String
  | .and => "and" | .or => "or" | .xor => "xor" | .add => "add" | .sub => "sub" | .mul => "mul"
def ropS : Rop → String
  | .all => "all" | .any => "any" | .odd => "odd"
def cmpS (less : Bool) : String := if less then "less" else "eq"
def dTm : Tm → D
  | .const w v => .tup [sS "const", .int w, .int v]
  | .token w i => .tup [sS "token", nm "b" w, .int i]
  | .keep w => .tup [sS "keep", nm "k" w]
  | .read w a => .tup [sS "read", nm "s" w, dTm a]
  | .bin o a b => .tup [sS (bopS o), dTm a, dTm b]
  | .cmp less a b => .tup [sS (cmpS less), dTm a, dTm b]
  | .not a => .tup [sS "not", dTm a]
  | .red k a => .tup [sS (ropS k), dTm a]
  | .pick t a b => .tup [sS "pick", dTm t, dTm a, dTm b]
  | .join2 a b => .tup [sS "join", .tup [dTm a, dTm b]]
  | .join3 a b c => .tup [sS "join", .tup [dTm a, dTm b, dTm c]]
  | .join4 a b c d => .tup [sS "join", .tup [dTm a, dTm b, dTm c, dTm d]]
  | .part a hi lo => .tup [sS "part", dTm a, .int hi, .int lo]
/-- the parts that a term has -/
def partsT : Tm → List Tm
  | .const _ _ => []
  | .token _ _ => []
  | .keep _ => []
  | .read _ a => [a]
  | .bin _ a b => [a, b]
  | .cmp _ a b => [a, b]
  | .not a => [a]
  | .red _ a => [a]
  | .pick t a b => [t, a, b]
  | .join2 a b => [a, b]
  | .join3 a b c => [a, b, c]
  | .join4 a b c d => [a, b, c, d]
  | .part a _ _ => [a]
def deep : Tm → Nat
  | .const _ _ => 1
  | .token _ _ => 1
  | .keep _ => 1
  | .read _ a => deep a + 1
  | .bin _ a b => max (deep a) (deep b) + 1
  | .cmp _ a b => max (deep a) (deep b) + 1
  | .not a => deep a + 1
  | .red _ a => deep a + 1
  | .pick t a b => max (deep t) (max (deep a) (deep b)) + 1
  | .join2 a b => max (deep a) (deep b) + 1
  | .join3 a b c => max (deep a) (max (deep b) (deep c)) + 1
  | .join4 a b c d => max (max (deep a) (deep b)) (max (deep c) (deep d)) + 1
  | .part a _ _ => deep a + 1
def many : Tm → Nat
  | .const _ _ => 1
  | .token _ _ => 1
  | .keep _ => 1
  | .read _ a => many a + 1
  | .bin _ a b => many a + many b + 1
  | .cmp _ a b => many a + many b + 1
  | .not a => many a + 1
  | .red _ a => many a + 1
  | .pick t a b => many t + many a + many b + 1
  | .join2 a b => many a + many b + 1
  | .join3 a b c => many a + many b + many c + 1
  | .join4 a b c d => many a + many b + many c + many d + 1
  | .part a _ _ => many a + 1
theorem deep_parts : ∀ (t p : Tm), p ∈ partsT t → deep p < deep t := fun t p h => by
  cases t <;> simp only [partsT, List.mem_cons, List.mem_nil_iff, or_false] at h <;> simp only [deep] <;> first | exact h.elim | (rcases h with rfl | rfl | rfl | rfl <;> omega) | (rcases h with rfl | rfl | rfl <;> omega) | (rcases h with rfl | rfl <;> omega) | (subst h; omega)
def ws8 : List Nat := [1, 2, 3, 4, 5, 6, 7, 8]
def keyB (p : String) (w : Nat) : Key := Sum.inr (Str.ofString p ++ sN w)
def nD' (ns : List Nat) : List D := ns.map fun (n : Nat) => D.int (n : Int)
def dWd (W : Wd) : D := .obj "World" ["tokens", "keeps", "stores"] [
  .dK (ws8.map (keyB "b")) (ws8.map fun (w : Nat) => .tup [.int (w : Int), .tup (nD' [W.tok w 0, W.tok w 1])]),
  .dK (ws8.map (keyB "k")) (ws8.map fun (w : Nat) => .tup [.int (w : Int), .int (W.kp w)]),
  .dK (ws8.map (keyB "s")) (ws8.map fun (w : Nat) => .tup [.int (w : Int), .tup (nD' (W.st w))])]
/-! ### what the defs promise -/
def sp_term_value : Nat → DSp
  | n + 1, [t, w], M, R, _ => ∃ (T : Tm) (W : Wd), t = dTm T ∧ w = dWd W ∧ wf T ∧ WdOk W ∧ deep T ≤ n + 1 ∧ R (.tup [.int (wid T : Nat), .int (val W T : Nat)]) M
  | _, _, _, _, _ => False
def pathD (ds : List D) : Prop := ds.length ≤ 20
def sp_width_at : Nat → DSp
  | n + 1, [t, w, .tup p], M, R, _ => ∃ (T : Tm) (W : Wd), t = dTm T ∧ w = dWd W ∧ wf T ∧ WdOk W ∧ deep T ≤ n + 1 ∧ p.length + deep T ≤ 20 ∧ R (.int (wid T : Nat)) M
  | _, _, _, _, _ => False
def sp_width_of : DSp
  | [t, w], M, R, _ => ∃ (T : Tm) (W : Wd), t = dTm T ∧ w = dWd W ∧ wf T ∧ WdOk W ∧ deep T ≤ 12 ∧ R (.int (wid T : Nat)) M
  | _, _, _, _ => False
def sp_is_term : DSp
  | [t], M, R, _ => ∃ T : Tm, t = dTm T ∧ wf T ∧ deep T ≤ 12 ∧ many T ≤ 60 ∧ R (.bl true) M
  | _, _, _, _ => False
def sp_parts_of : DSp
  | [t], M, R, _ => ∃ T : Tm, t = dTm T ∧ R (.tup ((partsT T).map dTm)) M
  | _, _, _, _ => False
def sp_cut_word : DSp
  | [.int v, .int w], M, R, _ => ∃ width : Nat, w = width ∧ width ≤ 100 ∧ R (.int (v % ((2 ^ width : Nat) : Int))) M
  | _, _, _, _ => False
def sp_one_count : DSp
  | [.int v], M, R, _ => ∃ n w : Nat, v = n ∧ n < 2 ^ w ∧ w ≤ 100 ∧ R (.int (pop w n : Nat)) M
  | _, _, _, _ => False
end Law
namespace Law
open PySem PySem.Spec PyProof.Rows L2 DL
local macro_rules | `(tactic| walk_at "x1") => `(tactic| first
  | with_reducible refine x_seq ?_ | with_reducible refine x_set ?_ | with_reducible refine x_ret ?_ | with_reducible refine x_ifS ?_ | with_reducible refine x_next ?_ | with_reducible refine x_asg ?_ | with_reducible refine x_drop ?_ | with_reducible refine x_for ?_ | with_reducible refine x_par ?_ | with_reducible refine ⟨_, _, rfl, ?_⟩
  | with_reducible refine x_op ?_ | ((with_reducible refine x_var (d := ?d) ?hx ?_); case hx => exact rfl) | with_reducible refine x_c ?_ | with_reducible refine x_B ?_ | with_reducible refine ⟨_, rfl, ?_⟩ | with_reducible refine x_call ?_ | with_reducible refine x_cons ?_ | with_reducible refine x_nil ?_ | with_reducible refine x_fn ?_
  | with_reducible refine x_if ?_ | with_reducible refine x_and ?_ | with_reducible refine x_or ?_ | with_reducible refine x_not ?_ | with_reducible refine x_andV ?_ | with_reducible refine x_orV ?_ | with_reducible refine x_notV ?_ | with_reducible refine x_chain ?_ | with_reducible refine x_un ?_
  | with_reducible refine x_tup ?_ | with_reducible refine x_lst ?_ | with_reducible refine x_lstM ?_ | with_reducible refine x_sz (Nat.le_of_ble_eq_true rfl) ?_ | with_reducible refine x_sl ?_ | with_reducible refine x_noP ?_ | with_reducible refine x_pt ?_
  | with_reducible refine x_range1 ?_ | with_reducible refine x_iter ?_ | with_reducible refine x_go_tup ?_ | with_reducible refine x_go_lst ?_ | with_reducible refine x_lc ?_ | with_reducible refine x_lcM ?_ | with_reducible refine x_lc2 ?_ | with_reducible refine x_yes ?_ | with_reducible refine x_gName ?_ | with_reducible refine x_gSub ?_
  | ((with_reducible refine x_gTup ?hx ?_); case hx => exact rfl) | ((with_reducible refine x_gTupL ?hx ?_); case hx => exact rfl) | with_reducible refine x_gCons ?_ | with_reducible refine x_gNil ?_ | with_reducible refine x_retN ?_ | with_reducible refine x_brk ?_ | with_reducible refine x_cont ?_
  | with_reducible refine x_add_i ?_ | with_reducible refine x_sub ?_ | with_reducible refine x_band ?_ | with_reducible refine x_bor ?_ | with_reducible refine x_bxor ?_ | with_reducible refine x_neg ?_ | with_reducible refine x_lt ?_ | with_reducible refine x_le ?_ | with_reducible refine x_gt ?_ | with_reducible refine x_ge ?_ | with_reducible refine x_eqI ?_ | with_reducible refine x_neI ?_
  | with_reducible refine x_isN ?_ | with_reducible refine x_isnotN ?_ | with_reducible refine x_isB ?_ | with_reducible refine x_isnotB ?_ | with_reducible refine x_int ?_ | with_reducible refine x_intB ?_ | with_reducible refine x_abs ?_ | with_reducible refine x_len_t ?_ | with_reducible refine x_len_l ?_ | with_reducible refine x_tuple_t ?_ | with_reducible refine x_tuple_l ?_ | with_reducible refine x_list_t ?_ | with_reducible refine x_list_l ?_ | with_reducible refine x_list_s ?_
  | with_reducible refine x_sl_t ?_ | with_reducible refine x_sl_l ?_ | with_reducible refine x_iadd_i ?_ | with_reducible refine x_isi ?_ | with_reducible refine x_din ?_ | with_reducible refine x_dnotin ?_ | with_reducible refine x_dgetE ?_ | with_reducible refine x_dput ?_ | with_reducible refine x_append ?_
  | with_reducible refine x_leX ?_ | with_reducible refine x_leS ?_ | with_reducible refine x_fld ?_ | with_reducible refine x_setF ?_ | with_reducible refine x_meth ?_ | with_reducible refine x_new ?_ | with_reducible refine x_isiC ?_ | with_reducible refine x_dget2 ?_ | with_reducible refine x_pop ?_ | with_reducible refine x_par3 ?_ | with_reducible refine x_iterS ?_
  | with_reducible refine x_T ?_ | with_reducible refine x_F ?_ | with_reducible refine x_nT ?_ | with_reducible refine x_nF ?_)
local macro_rules | `(tactic| walk_at "x2") => `(tactic| first
  | with_reducible refine x_bd (by omega) ?_ | with_reducible refine x_mod (by omega) ?_ | with_reducible refine x_div (by omega) ?_ | with_reducible refine x_shr (by omega) ?_ | with_reducible refine x_mul' (by omega) ?_ | with_reducible refine x_pow (by decide) ?_
  | ((with_reducible refine x_aug (x := ?d) ?hx ?_); case hx => exact rfl)
  | ((with_reducible refine x_ix_t (d := ?d) ?h0 ?hx ?_); (case h0 => omega); case hx => walk_at "at")
  | ((with_reducible refine x_ix_l (d := ?d) ?h0 ?hx ?_); (case h0 => omega); case hx => walk_at "at")
  | ((with_reducible refine x_ix_loc (ds := ?ds) (d := ?d) ?hm ?h0 ?hx ?_); (case hm => walk_at "m"); (case h0 => omega); case hx => walk_at "at")
  | ((with_reducible refine x_len_loc (ds := ?ds) ?hm ?_); case hm => walk_at "m") | ((with_reducible refine x_tuple_loc (ds := ?ds) ?hm ?_); case hm => walk_at "m") | ((with_reducible refine x_sl_loc (xs := ?ds) ?hm ?_); case hm => walk_at "m")
  | ((with_reducible refine ⟨_, ?ds, rfl, ?hm, ?_⟩); case hm => walk_at "m")
  | ((with_reducible refine ⟨_, ?ds, _, ?j, rfl, rfl, ?hm, ?hj, ?_⟩); (case hm => walk_at "m"); (case hj => walk_at "j")))
local macro_rules | `(tactic| walk_at "j") => `(tactic| exact rfl)
local macro_rules | `(tactic| walk_at "at") => `(tactic| first | exact rfl | assumption)
local macro_rules | `(tactic| walk_at "lt") => `(tactic| first | decide | omega | (simp; omega))
local macro_rules | `(tactic| walk_at "m") => `(tactic| first | exact mup_same | assumption)
local macro_rules | `(tactic| walk_at "x3") => `(tactic| first
  | ((with_reducible refine x_fldO (x := ?d) ?hC ?hl ?_); (case hl => exact rfl); case hC => decide) | with_reducible refine x_eqST (by decide +kernel) ?_ | with_reducible refine x_eqSF (by decide +kernel) ?_ | with_reducible refine x_inT rfl rfl (by decide +kernel) (by decide +kernel) ?_ | with_reducible refine x_inN rfl rfl (by decide +kernel) (by decide +kernel) ?_
  | with_reducible refine x_ty (b := true) rfl (by decide +kernel) ?_ | with_reducible refine x_ty (b := false) rfl (by decide +kernel) ?_ | with_reducible refine x_nYes (by walk_at "dec") ?_ | with_reducible refine x_nNo (by walk_at "dec") ?_ | with_reducible refine x_yesD (by walk_at "dec") ?_ | with_reducible refine x_noD (by walk_at "dec") ?_ | with_reducible refine x_yesE (by walk_at "dec") ?_ | with_reducible refine x_noE (by walk_at "dec") ?_ | with_reducible refine x_yesN (by walk_at "dec") ?_ | with_reducible refine x_noN (by walk_at "dec") ?_)
local macro_rules | `(tactic| walk_at "dec") => `(tactic| first | omega | (simp only [List.length_cons, List.length_nil, List.length_map, List.length_append, nD_len, List.length_range]; omega))
local macro_rules | `(tactic| walk_at "x") => `(tactic| repeat (first | walk_at "x1" | walk_at "x2"))
local macro_rules | `(tactic| walk_at "xx") => `(tactic| repeat (first | walk_at "x1" | walk_at "x2" | walk_at "x3"))

abbrev N_cut_word : List Str := ["value", "width"]
def w_cut_word : DS := (dRet (dOp oAnd (dVar 0) (dOp oSub (dOp oShl (dC (.int 1)) (dVar 1)) (dC (.int 1)))))
theorem shl1 (w : Nat) : (1 : Int) * 2 ^ (w : Int).toNat = ((2 ^ w : Nat) : Int) := by
  rw [Int.one_mul, Int.natCast_pow]; rfl
theorem rd_cut_word : ∀ ds M R, sp_cut_word ds M R X0 → w_cut_word (retTo R X0) (startG N_cut_word ds) M := fun ds M R h => by
  match ds, h with
  | [.int v, .int w], h =>
    obtain ⟨width, rfl, h1, q⟩ := h
    show w_cut_word (retTo R X0) [some (.int v), some (.int width)] M
    unfold w_cut_word
    walk_at "x"
    refine x_shl ⟨by omega, by omega, by decide⟩ ?_
    rw [shl1]
    walk_at "x"
    have e : Builtin.bitAnd v (((2 ^ width : Nat) : Int) - 1) = v % ((2 ^ width : Nat) : Int) := by
      have := PySem.W.kbt_mask v width
      rw [Int.natCast_pow]
      exact this
    rw [e]
    exact rt_here q
abbrev N_one_count : List Str := ["word", "found"]
def w_one_count : DS := (dSeq (dSet 1 (dC (.int 0)))
    (dSeq (dWhile (dB (dOp oGt (dVar 0) (dC (.int 0)))) (dPar 1 0 (dCons (dOp oAdd (dVar 1) (dOp oAnd (dVar 0) (dC (.int 1)))) (dCons (dOp oShr (dVar 0) (dC (.int 1))) dNil))))
    (dRet (dVar 1))))
theorem rd_one_count : ∀ ds M R, sp_one_count ds M R X0 → w_one_count (retTo R X0) (startG N_one_count ds) M := fun ds M R h => by
  match ds, h with
  | [.int v], h =>
    obtain ⟨n, w, rfl, h1, h2, q⟩ := h
    show w_one_count (retTo R X0) [some (.int n), none] M
    unfold w_one_count
    walk_at "x"
    refine ⟨fun k Γ' M' => ∃ m f : Nat, Γ' = [some (.int m), some (.int f)] ∧ M' = M ∧ m < 2 ^ k ∧ f + pop k m = pop w n, ⟨w, n, 0, rfl, rfl, h1, Nat.zero_add _⟩, fun k Γ' M' hI => ?_⟩
    obtain ⟨m, f, rfl, rfl, hm, hf⟩ := hI
    walk_at "x"
    refine x_both (fun hp => ?_) (fun hp => ?_)
    · cases k with
      | zero => simp at hm; omega
      | succ k =>
        walk_at "x"
        have e1 : (f : Int) + Builtin.bitAnd (m : Int) 1 = ((f + m % 2 : Nat) : Int) := by
          rw [band1]; omega
        have e2 : (m : Int) / 2 ^ (1 : Int).toNat = ((m / 2 : Nat) : Int) := by
          show (m : Int) / 2 ^ 1 = _
          omega
        rw [e1, e2]
        refine ⟨k, Nat.lt_succ_self k, m / 2, f + m % 2, rfl, rfl, by rw [Nat.pow_succ] at hm; omega, ?_⟩
        have : pop (k + 1) m = m % 2 + pop k (m / 2) := rfl
        omega
    · walk_at "x"
      have hz : m = 0 := by omega
      rw [hz, pop_zero, Nat.add_zero] at hf
      rw [hf]
      exact rt_here q
end Law
namespace Law
open PySem PySem.Spec PyProof.Rows L2 DL
local macro_rules | `(tactic| walk_at "x1") => `(tactic| first
  | with_reducible refine x_seq ?_ | with_reducible refine x_set ?_ | with_reducible refine x_ret ?_ | with_reducible refine x_ifS ?_ | with_reducible refine x_next ?_ | with_reducible refine x_asg ?_ | with_reducible refine x_drop ?_ | with_reducible refine x_for ?_ | with_reducible refine x_par ?_ | with_reducible refine ⟨_, _, rfl, ?_⟩
  | with_reducible refine x_op ?_ | ((with_reducible refine x_var (d := ?d) ?hx ?_); case hx => exact rfl) | with_reducible refine x_c ?_ | with_reducible refine x_B ?_ | with_reducible refine ⟨_, rfl, ?_⟩ | with_reducible refine x_call ?_ | with_reducible refine x_cons ?_ | with_reducible refine x_nil ?_ | with_reducible refine x_fn ?_
  | with_reducible refine x_if ?_ | with_reducible refine x_and ?_ | with_reducible refine x_or ?_ | with_reducible refine x_not ?_ | with_reducible refine x_andV ?_ | with_reducible refine x_orV ?_ | with_reducible refine x_notV ?_ | with_reducible refine x_chain ?_ | with_reducible refine x_un ?_
  | with_reducible refine x_tup ?_ | with_reducible refine x_lst ?_ | with_reducible refine x_lstM ?_ | with_reducible refine x_sz (Nat.le_of_ble_eq_true rfl) ?_ | with_reducible refine x_sl ?_ | with_reducible refine x_noP ?_ | with_reducible refine x_pt ?_
  | with_reducible refine x_range1 ?_ | with_reducible refine x_iter ?_ | with_reducible refine x_go_tup ?_ | with_reducible refine x_go_lst ?_ | with_reducible refine x_lc ?_ | with_reducible refine x_lcM ?_ | with_reducible refine x_lc2 ?_ | with_reducible refine x_yes ?_ | with_reducible refine x_gName ?_ | with_reducible refine x_gSub ?_
  | ((with_reducible refine x_gTup ?hx ?_); case hx => exact rfl) | ((with_reducible refine x_gTupL ?hx ?_); case hx => exact rfl) | with_reducible refine x_gCons ?_ | with_reducible refine x_gNil ?_ | with_reducible refine x_retN ?_ | with_reducible refine x_brk ?_ | with_reducible refine x_cont ?_
  | with_reducible refine x_add_i ?_ | with_reducible refine x_sub ?_ | with_reducible refine x_band ?_ | with_reducible refine x_bor ?_ | with_reducible refine x_bxor ?_ | with_reducible refine x_neg ?_ | with_reducible refine x_lt ?_ | with_reducible refine x_le ?_ | with_reducible refine x_gt ?_ | with_reducible refine x_ge ?_ | with_reducible refine x_eqI ?_ | with_reducible refine x_neI ?_
  | with_reducible refine x_isN ?_ | with_reducible refine x_isnotN ?_ | with_reducible refine x_isB ?_ | with_reducible refine x_isnotB ?_ | with_reducible refine x_int ?_ | with_reducible refine x_intB ?_ | with_reducible refine x_abs ?_ | with_reducible refine x_len_t ?_ | with_reducible refine x_len_l ?_ | with_reducible refine x_tuple_t ?_ | with_reducible refine x_tuple_l ?_ | with_reducible refine x_list_t ?_ | with_reducible refine x_list_l ?_ | with_reducible refine x_list_s ?_
  | with_reducible refine x_sl_t ?_ | with_reducible refine x_sl_l ?_ | with_reducible refine x_iadd_i ?_ | with_reducible refine x_isi ?_ | with_reducible refine x_din ?_ | with_reducible refine x_dnotin ?_ | with_reducible refine x_dgetE ?_ | with_reducible refine x_dput ?_ | with_reducible refine x_append ?_
  | with_reducible refine x_leX ?_ | with_reducible refine x_leS ?_ | with_reducible refine x_fld ?_ | with_reducible refine x_setF ?_ | with_reducible refine x_meth ?_ | with_reducible refine x_new ?_ | with_reducible refine x_isiC ?_ | with_reducible refine x_dget2 ?_ | with_reducible refine x_pop ?_ | with_reducible refine x_par3 ?_ | with_reducible refine x_iterS ?_
  | with_reducible refine x_T ?_ | with_reducible refine x_F ?_ | with_reducible refine x_nT ?_ | with_reducible refine x_nF ?_)
local macro_rules | `(tactic| walk_at "x2") => `(tactic| first
  | with_reducible refine x_bd (by omega) ?_ | with_reducible refine x_mod (by omega) ?_ | with_reducible refine x_div (by omega) ?_ | with_reducible refine x_shr (by omega) ?_ | with_reducible refine x_mul' (by omega) ?_ | with_reducible refine x_pow (by decide) ?_
  | ((with_reducible refine x_aug (x := ?d) ?hx ?_); case hx => exact rfl)
  | ((with_reducible refine x_ix_t (d := ?d) ?h0 ?hx ?_); (case h0 => omega); case hx => walk_at "at")
  | ((with_reducible refine x_ix_l (d := ?d) ?h0 ?hx ?_); (case h0 => omega); case hx => walk_at "at")
  | ((with_reducible refine x_ix_loc (ds := ?ds) (d := ?d) ?hm ?h0 ?hx ?_); (case hm => walk_at "m"); (case h0 => omega); case hx => walk_at "at")
  | ((with_reducible refine x_len_loc (ds := ?ds) ?hm ?_); case hm => walk_at "m") | ((with_reducible refine x_tuple_loc (ds := ?ds) ?hm ?_); case hm => walk_at "m") | ((with_reducible refine x_sl_loc (xs := ?ds) ?hm ?_); case hm => walk_at "m")
  | ((with_reducible refine ⟨_, ?ds, rfl, ?hm, ?_⟩); case hm => walk_at "m")
  | ((with_reducible refine ⟨_, ?ds, _, ?j, rfl, rfl, ?hm, ?hj, ?_⟩); (case hm => walk_at "m"); (case hj => walk_at "j")))
local macro_rules | `(tactic| walk_at "j") => `(tactic| exact rfl)
local macro_rules | `(tactic| walk_at "at") => `(tactic| first | exact rfl | assumption)
local macro_rules | `(tactic| walk_at "lt") => `(tactic| first | decide | omega | (simp; omega))
local macro_rules | `(tactic| walk_at "m") => `(tactic| first | exact mup_same | assumption)
local macro_rules | `(tactic| walk_at "x3") => `(tactic| first
  | ((with_reducible refine x_fldO (x := ?d) ?hC ?hl ?_); (case hl => exact rfl); case hC => decide) | with_reducible refine x_eqST (by decide +kernel) ?_ | with_reducible refine x_eqSF (by decide +kernel) ?_ | with_reducible refine x_inT rfl rfl (by decide +kernel) (by decide +kernel) ?_ | with_reducible refine x_inN rfl rfl (by decide +kernel) (by decide +kernel) ?_
  | with_reducible refine x_ty (b := true) rfl (by decide +kernel) ?_ | with_reducible refine x_ty (b := false) rfl (by decide +kernel) ?_ | with_reducible refine x_nYes (by walk_at "dec") ?_ | with_reducible refine x_nNo (by walk_at "dec") ?_ | with_reducible refine x_yesD (by walk_at "dec") ?_ | with_reducible refine x_noD (by walk_at "dec") ?_ | with_reducible refine x_yesE (by walk_at "dec") ?_ | with_reducible refine x_noE (by walk_at "dec") ?_ | with_reducible refine x_yesN (by walk_at "dec") ?_ | with_reducible refine x_noN (by walk_at "dec") ?_)
local macro_rules | `(tactic| walk_at "dec") => `(tactic| first | omega | (simp only [List.length_cons, List.length_nil, List.length_map, List.length_append, nD_len, List.length_range]; omega))
local macro_rules | `(tactic| walk_at "x") => `(tactic| repeat (first | walk_at "x1" | walk_at "x2"))
local macro_rules | `(tactic| walk_at "xx") => `(tactic| repeat (first | walk_at "x1" | walk_at "x2" | walk_at "x3"))

def sp_value_of_one : DSp
  | [.str k, .tup [.int w, .int v]], M, R, _ => ∃ n width : Nat, v = n ∧ w = width ∧ width ≤ 8 ∧ n < 2 ^ width ∧ ((k = Str.ofString "not" ∧ R (.tup [.int (width : Nat), .int ((2 ^ width - 1 - n : Nat) : Int)]) M) ∨ ∃ r, k = Str.ofString (ropS r) ∧ R (.tup [.int 1, .int ((redV r width n : Nat) : Int)]) M)
  | _, _, _, _ => False
theorem okD_s (x : String) (h : PyData.strOk (Str.ofString x) = true) : okD 64 (.str (Str.ofString x)) = true := h
abbrev N_value_of_one : List Str := ["kind", "told", "width", "value", "count"]
def w_value_of_one : DS := (dSeq (dAsg (dVar 1) (dgTup 2 (dgCons (dgName 2) (dgCons (dgName 3) dgNil))))
    (dSeq (dIfS (dB (dOp oEq (dVar 0) (dC (.str "not")))) (dRet (dTup (dCons (dVar 2) (dCons (dFn sp_cut_word [] (dCons (dOp oSub (dOp oSub (dC (.int 0)) (dC (.int 1))) (dVar 3)) (dCons (dVar 2) dNil))) dNil)))) dNext)
    (dSeq (dSet 4 (dFn sp_one_count [] (dCons (dVar 3) dNil)))
    (dRet (dTup (dCons (dC (.int 1)) (dCons (dDGet (dDisp ["all", "any", "odd"] (dCons (dCall oInt (dCons (dOp oEq (dVar 4) (dVar 2)) dNil)) (dCons (dCall oInt (dCons (dOp oGt (dVar 4) (dC (.int 0))) dNil)) (dCons (dOp oAnd (dVar 4) (dC (.int 1))) dNil)))) (dVar 0)) dNil)))))))
theorem rd_value_of_one : ∀ ds M R, sp_value_of_one ds M R X0 → w_value_of_one (retTo R X0) (startG N_value_of_one ds) M := fun ds M R h => by
  match ds, h with
  | [.str k, .tup [.int w, .int v]], h =>
    obtain ⟨n, width, rfl, rfl, h1, h2, hq⟩ := h
    show w_value_of_one (retTo R X0) [some (.str k), some (.tup [.int width, .int n]), none, none, none] M
    unfold w_value_of_one
    walk_at "x"
    rcases hq with ⟨rfl, q⟩ | ⟨r, rfl, q⟩
    · refine x_eq (by decide +kernel) (by decide +kernel) ?_
      rw [show eqb (D.str (Str.ofString "not")) (.str (Str.ofString "not")) = true by decide +kernel]
      walk_at "x"
      refine ⟨width, rfl, by omega, ?_⟩
      walk_at "x"
      refine rt_here ?_
      have e : ((0 : Int) - 1 - (n : Int)) % ((2 ^ width : Nat) : Int) = ((2 ^ width - 1 - n : Nat) : Int) := by
        generalize 2 ^ width = P at h2
        have e1 : ((0 : Int) - 1 - (n : Int)) = ((P - 1 - n : Nat) : Int) + (P : Int) * (-1) := by omega
        rw [e1, Int.add_mul_emod_self_left]
        exact Int.emod_eq_of_lt (by omega) (by omega)
      rw [e]
      exact q
    · refine x_eq (by cases r <;> decide +kernel) (by decide +kernel) ?_
      rw [show eqb (D.str (Str.ofString (ropS r))) (.str (Str.ofString "not")) = false by cases r <;> decide +kernel]
      walk_at "x"
      refine ⟨n, width, rfl, h2, by omega, ?_⟩
      walk_at "x"
      refine x_disp ?_
      intro p hp
      walk_at "x"
      refine ⟨mup_same, rfl, ?_⟩
      rw [mdel_mup hp]
      walk_at "x"
      refine ⟨.int ((redV r width n : Nat) : Int), ?_, ?_⟩
      · rw [dget_disp]
        have e1 : D.int (if (((pop width n : Nat) : Int) == (width : Int)) = true then 1 else 0) = .int ((redV .all width n : Nat) : Int) := by
          show _ = D.int (((if pop width n = width then 1 else 0 : Nat)) : Int)
          by_cases z : pop width n = width
          · rw [if_pos (by rw [z]; exact beq_self_eq_true _), if_pos z]; rfl
          · rw [if_neg (fun k => z (by have := eq_of_beq k; omega)), if_neg z]; rfl
        have e2 : D.int (if decide (0 < ((pop width n : Nat) : Int)) = true then 1 else 0) = .int ((redV .any width n : Nat) : Int) := by
          show _ = D.int (((if 0 < pop width n then 1 else 0 : Nat)) : Int)
          by_cases z : 0 < pop width n
          · rw [if_pos (by simpa using z), if_pos z]; rfl
          · rw [if_neg (by simpa using z), if_neg z]; rfl
        have e3 : D.int (Builtin.bitAnd ((pop width n : Nat) : Int) 1) = .int ((redV .odd width n : Nat) : Int) := by
          rw [band1]
          show _ = D.int ((pop width n % 2 : Nat) : Int)
          congr 1
        rw [e1, e2, e3]
        cases r <;> rfl
      · walk_at "x"
        refine rt_here ?_
        exact q
end Law
namespace Law
open PySem PySem.Spec PyProof.Rows L2 DL
local macro_rules | `(tactic| walk_at "x1") => `(tactic| first
  | with_reducible refine x_seq ?_ | with_reducible refine x_set ?_ | with_reducible refine x_ret ?_ | with_reducible refine x_ifS ?_ | with_reducible refine x_next ?_ | with_reducible refine x_asg ?_ | with_reducible refine x_drop ?_ | with_reducible refine x_for ?_ | with_reducible refine x_par ?_ | with_reducible refine ⟨_, _, rfl, ?_⟩
  | with_reducible refine x_op ?_ | ((with_reducible refine x_var (d := ?d) ?hx ?_); case hx => exact rfl) | with_reducible refine x_c ?_ | with_reducible refine x_B ?_ | with_reducible refine ⟨_, rfl, ?_⟩ | with_reducible refine x_call ?_ | with_reducible refine x_cons ?_ | with_reducible refine x_nil ?_ | with_reducible refine x_fn ?_
  | with_reducible refine x_if ?_ | with_reducible refine x_and ?_ | with_reducible refine x_or ?_ | with_reducible refine x_not ?_ | with_reducible refine x_andV ?_ | with_reducible refine x_orV ?_ | with_reducible refine x_notV ?_ | with_reducible refine x_chain ?_ | with_reducible refine x_un ?_
  | with_reducible refine x_tup ?_ | with_reducible refine x_lst ?_ | with_reducible refine x_lstM ?_ | with_reducible refine x_sz (Nat.le_of_ble_eq_true rfl) ?_ | with_reducible refine x_sl ?_ | with_reducible refine x_noP ?_ | with_reducible refine x_pt ?_
  | with_reducible refine x_range1 ?_ | with_reducible refine x_iter ?_ | with_reducible refine x_go_tup ?_ | with_reducible refine x_go_lst ?_ | with_reducible refine x_lc ?_ | with_reducible refine x_lcM ?_ | with_reducible refine x_lc2 ?_ | with_reducible refine x_yes ?_ | with_reducible refine x_gName ?_ | with_reducible refine x_gSub ?_
  | ((with_reducible refine x_gTup ?hx ?_); case hx => exact rfl) | ((with_reducible refine x_gTupL ?hx ?_); case hx => exact rfl) | with_reducible refine x_gCons ?_ | with_reducible refine x_gNil ?_ | with_reducible refine x_retN ?_ | with_reducible refine x_brk ?_ | with_reducible refine x_cont ?_
  | with_reducible refine x_add_i ?_ | with_reducible refine x_sub ?_ | with_reducible refine x_band ?_ | with_reducible refine x_bor ?_ | with_reducible refine x_bxor ?_ | with_reducible refine x_neg ?_ | with_reducible refine x_lt ?_ | with_reducible refine x_le ?_ | with_reducible refine x_gt ?_ | with_reducible refine x_ge ?_ | with_reducible refine x_eqI ?_ | with_reducible refine x_neI ?_
  | with_reducible refine x_isN ?_ | with_reducible refine x_isnotN ?_ | with_reducible refine x_isB ?_ | with_reducible refine x_isnotB ?_ | with_reducible refine x_int ?_ | with_reducible refine x_intB ?_ | with_reducible refine x_abs ?_ | with_reducible refine x_len_t ?_ | with_reducible refine x_len_l ?_ | with_reducible refine x_tuple_t ?_ | with_reducible refine x_tuple_l ?_ | with_reducible refine x_list_t ?_ | with_reducible refine x_list_l ?_ | with_reducible refine x_list_s ?_
  | with_reducible refine x_sl_t ?_ | with_reducible refine x_sl_l ?_ | with_reducible refine x_iadd_i ?_ | with_reducible refine x_isi ?_ | with_reducible refine x_din ?_ | with_reducible refine x_dnotin ?_ | with_reducible refine x_dgetE ?_ | with_reducible refine x_dput ?_ | with_reducible refine x_append ?_
  | with_reducible refine x_leX ?_ | with_reducible refine x_leS ?_ | with_reducible refine x_fld ?_ | with_reducible refine x_setF ?_ | with_reducible refine x_meth ?_ | with_reducible refine x_new ?_ | with_reducible refine x_isiC ?_ | with_reducible refine x_dget2 ?_ | with_reducible refine x_pop ?_ | with_reducible refine x_par3 ?_ | with_reducible refine x_iterS ?_
  | with_reducible refine x_T ?_ | with_reducible refine x_F ?_ | with_reducible refine x_nT ?_ | with_reducible refine x_nF ?_)
local macro_rules | `(tactic| walk_at "x2") => `(tactic| first
  | with_reducible refine x_bd (by omega) ?_ | with_reducible refine x_mod (by omega) ?_ | with_reducible refine x_div (by omega) ?_ | with_reducible refine x_shr (by omega) ?_ | with_reducible refine x_mul' (by omega) ?_ | with_reducible refine x_pow (by decide) ?_
  | ((with_reducible refine x_aug (x := ?d) ?hx ?_); case hx => exact rfl)
  | ((with_reducible refine x_ix_t (d := ?d) ?h0 ?hx ?_); (case h0 => omega); case hx => walk_at "at")
  | ((with_reducible refine x_ix_l (d := ?d) ?h0 ?hx ?_); (case h0 => omega); case hx => walk_at "at")
  | ((with_reducible refine x_ix_loc (ds := ?ds) (d := ?d) ?hm ?h0 ?hx ?_); (case hm => walk_at "m"); (case h0 => omega); case hx => walk_at "at")
  | ((with_reducible refine x_len_loc (ds := ?ds) ?hm ?_); case hm => walk_at "m") | ((with_reducible refine x_tuple_loc (ds := ?ds) ?hm ?_); case hm => walk_at "m") | ((with_reducible refine x_sl_loc (xs := ?ds) ?hm ?_); case hm => walk_at "m")
  | ((with_reducible refine ⟨_, ?ds, rfl, ?hm, ?_⟩); case hm => walk_at "m")
  | ((with_reducible refine ⟨_, ?ds, _, ?j, rfl, rfl, ?hm, ?hj, ?_⟩); (case hm => walk_at "m"); (case hj => walk_at "j")))
local macro_rules | `(tactic| walk_at "j") => `(tactic| exact rfl)
local macro_rules | `(tactic| walk_at "at") => `(tactic| first | exact rfl | assumption)
local macro_rules | `(tactic| walk_at "lt") => `(tactic| first | decide | omega | (simp; omega))
local macro_rules | `(tactic| walk_at "m") => `(tactic| first | exact mup_same | assumption)
local macro_rules | `(tactic| walk_at "x3") => `(tactic| first
  | ((with_reducible refine x_fldO (x := ?d) ?hC ?hl ?_); (case hl => exact rfl); case hC => decide) | with_reducible refine x_eqST (by decide +kernel) ?_ | with_reducible refine x_eqSF (by decide +kernel) ?_ | with_reducible refine x_inT rfl rfl (by decide +kernel) (by decide +kernel) ?_ | with_reducible refine x_inN rfl rfl (by decide +kernel) (by decide +kernel) ?_
  | with_reducible refine x_ty (b := true) rfl (by decide +kernel) ?_ | with_reducible refine x_ty (b := false) rfl (by decide +kernel) ?_ | with_reducible refine x_nYes (by walk_at "dec") ?_ | with_reducible refine x_nNo (by walk_at "dec") ?_ | with_reducible refine x_yesD (by walk_at "dec") ?_ | with_reducible refine x_noD (by walk_at "dec") ?_ | with_reducible refine x_yesE (by walk_at "dec") ?_ | with_reducible refine x_noE (by walk_at "dec") ?_ | with_reducible refine x_yesN (by walk_at "dec") ?_ | with_reducible refine x_noN (by walk_at "dec") ?_)
local macro_rules | `(tactic| walk_at "dec") => `(tactic| first | omega | (simp only [List.length_cons, List.length_nil, List.length_map, List.length_append, nD_len, List.length_range]; omega))
local macro_rules | `(tactic| walk_at "x") => `(tactic| repeat (first | walk_at "x1" | walk_at "x2"))
local macro_rules | `(tactic| walk_at "xx") => `(tactic| repeat (first | walk_at "x1" | walk_at "x2" | walk_at "x3"))

def cmpV (less : Bool) (a b : Nat) : Nat := if less then (if a < b then 1 else 0) else (if a = b then 1 else 0)
def sp_value_of_pair : DSp
  | [.str k, .tup [.int w, .int x], .tup [.int w2, .int y]], M, R, _ => ∃ a b width : Nat, x = a ∧ y = b ∧ w = width ∧ width ≤ 8 ∧ a < 2 ^ width ∧ b < 2 ^ width ∧
      ((∃ less, k = Str.ofString (cmpS less) ∧ R (.tup [.int 1, .int ((cmpV less a b : Nat) : Int)]) M) ∨ ∃ o, k = Str.ofString (bopS o) ∧ R (.tup [.int (width : Nat), .int ((binV o width a b : Nat) : Int)]) M)
  | _, _, _, _ => False
abbrev N_value_of_pair : List Str := ["kind", "first", "second", "width", "a", "b"]
def w_value_of_pair : DS := (dSeq (dAsg (dVar 1) (dgTup 2 (dgCons (dgName 3) (dgCons (dgName 4) dgNil))))
    (dSeq (dSet 5 (dOp oIx (dVar 2) (dC (.int 1))))
    (dSeq (dIfS (dB (dOp (oInF false) (dVar 0) (dTup (dCons (dC (.str "eq")) (dCons (dC (.str "less")) dNil))))) (dRet (dTup (dCons (dC (.int 1)) (dCons (dCall oInt (dCons (dIf (dB (dOp oEq (dVar 0) (dC (.str "eq")))) (dOp oEq (dVar 4) (dVar 5)) (dOp oLt (dVar 4) (dVar 5))) dNil)) dNil)))) dNext)
    (dSeq (dIfS (dB (dOp (oInF false) (dVar 0) (dTup (dCons (dC (.str "and")) (dCons (dC (.str "or")) (dCons (dC (.str "xor")) dNil)))))) (dRet (dTup (dCons (dVar 3) (dCons (dDGet (dDisp ["and", "or", "xor"] (dCons (dOp oAnd (dVar 4) (dVar 5)) (dCons (dOp oOr (dVar 4) (dVar 5)) (dCons (dOp oXor (dVar 4) (dVar 5)) dNil)))) (dVar 0)) dNil)))) dNext)
    (dRet (dTup (dCons (dVar 3) (dCons (dFn sp_cut_word [] (dCons (dDGet (dDisp ["add", "sub", "mul"] (dCons (dOp oAdd (dVar 4) (dVar 5)) (dCons (dOp oSub (dVar 4) (dVar 5)) (dCons (dOp oMul (dVar 4) (dVar 5)) dNil)))) (dVar 0)) (dCons (dVar 3) dNil))) dNil))))))))
theorem rd_value_of_pair : ∀ ds M R, sp_value_of_pair ds M R X0 → w_value_of_pair (retTo R X0) (startG N_value_of_pair ds) M := fun ds M R h => by
  match ds, h with
  | [.str k, .tup [.int w, .int x], .tup [.int w2, .int y]], h =>
    obtain ⟨a, b, width, rfl, rfl, rfl, h1, ha, hb, hq⟩ := h
    show w_value_of_pair (retTo R X0) [some (.str k), some (.tup [.int width, .int a]), some (.tup [.int w2, .int b]), none, none, none] M
    unfold w_value_of_pair
    walk_at "x"
    refine x_inS (xs := ["eq", "less"]) rfl ?_
    rcases hq with ⟨less, rfl, q⟩ | ⟨o, rfl, q⟩
    · rw [show decide (Str.ofString (cmpS less) ∈ (["eq", "less"] : List Str)) = true by cases less <;> decide +kernel]
      walk_at "x"
      refine x_eq (by cases less <;> decide +kernel) (by decide +kernel) ?_
      cases less with
      | true =>
        rw [show eqb (D.str (Str.ofString (cmpS true))) (.str (Str.ofString "eq")) = false by decide +kernel]
        walk_at "x"
        refine rt_here ?_
        have e : (if decide ((a : Int) < (b : Int)) = true then (1 : Int) else 0) = ((cmpV true a b : Nat) : Int) := by
          show _ = ((if a < b then 1 else 0 : Nat) : Int)
          by_cases z : a < b
          · rw [if_pos (by simpa using z), if_pos z]; rfl
          · rw [if_neg (by simpa using z), if_neg z]; rfl
        rw [e]
        exact q
      | false =>
        rw [show eqb (D.str (Str.ofString (cmpS false))) (.str (Str.ofString "eq")) = true by decide +kernel]
        walk_at "x"
        refine rt_here ?_
        have e : (if ((a : Int) == (b : Int)) = true then (1 : Int) else 0) = ((cmpV false a b : Nat) : Int) := by
          show _ = ((if a = b then 1 else 0 : Nat) : Int)
          by_cases z : a = b
          · rw [if_pos (by rw [z]; exact beq_self_eq_true _), if_pos z]; rfl
          · rw [if_neg (fun k => z (by have := eq_of_beq k; omega)), if_neg z]; rfl
        rw [e]
        exact q
    · rw [show decide (Str.ofString (bopS o) ∈ (["eq", "less"] : List Str)) = false by cases o <;> decide +kernel]
      walk_at "x"
      refine x_inS (xs := ["and", "or", "xor"]) rfl ?_
      have hmask : ∀ z : Int, ∀ m : Nat, z % ((2 ^ width : Nat) : Int) = (m : Int) → z % ((2 ^ width : Nat) : Int) = (m : Int) := fun _ _ h => h
      by_cases hl : Str.ofString (bopS o) ∈ (["and", "or", "xor"] : List Str)
      · rw [decide_eq_true hl]
        walk_at "x"
        refine x_disp ?_
        intro p hp
        walk_at "x"
        refine ⟨mup_same, rfl, ?_⟩
        rw [mdel_mup hp]
        walk_at "x"
        refine ⟨.int ((binV o width a b : Nat) : Int), ?_, ?_⟩
        · rw [dget_disp]
          have e1 : Builtin.bitAnd (a : Int) (b : Int) = ((binV .and width a b : Nat) : Int) := by
            simp [Builtin.bitAnd, binV]
          have e2 : Builtin.bitOr (a : Int) (b : Int) = ((binV .or width a b : Nat) : Int) := by
            rw [Bits.bitOr_pp (Int.natCast_nonneg _) (Int.natCast_nonneg _)]; rfl
          have e3 : Builtin.bitXor (a : Int) (b : Int) = ((binV .xor width a b : Nat) : Int) := by
            rw [Bits.bitXor_pp (Int.natCast_nonneg _) (Int.natCast_nonneg _)]; rfl
          rw [e1, e2, e3]
          cases o <;> first | rfl | exact absurd hl (by decide +kernel)
        · walk_at "x"
          refine rt_here ?_
          exact q
      · rw [decide_eq_false hl]
        have ha8 : a < 256 := Nat.lt_of_lt_of_le ha (Nat.pow_le_pow_right (by decide) h1)
        walk_at "x"
        refine x_disp ?_
        intro p hp
        walk_at "x"
        refine ⟨mup_same, rfl, ?_⟩
        rw [mdel_mup hp]
        walk_at "x"
        obtain ⟨z, hz, hv⟩ : ∃ z : Int, look (([Str.ofString "add", Str.ofString "sub", Str.ofString "mul"].map (Sum.inr : Str → Key)).zip [D.int ((a : Int) + (b : Int)), .int ((a : Int) - (b : Int)), .int ((a : Int) * (b : Int))]) (.inr (Str.ofString (bopS o))) = some (.int z) ∧ z % ((2 ^ width : Nat) : Int) = ((binV o width a b : Nat) : Int) := by
          have hp2 := pow_pos2 width
          cases o with
          | and => exact absurd (by decide +kernel) hl
          | or => exact absurd (by decide +kernel) hl
          | xor => exact absurd (by decide +kernel) hl
          | add => exact ⟨(a : Int) + b, rfl, by show _ = (((a + b) % 2 ^ width : Nat) : Int); rw [Int.natCast_emod, Int.natCast_add]⟩
          | sub =>
            refine ⟨(a : Int) - b, rfl, ?_⟩
            show _ = (((a + (2 ^ width - b)) % 2 ^ width : Nat) : Int)
            rw [Int.natCast_emod]
            generalize 2 ^ width = P at hb hp2 ⊢
            have e : ((a + (P - b) : Nat) : Int) = ((a : Int) - b) + (P : Int) * 1 := by omega
            rw [e, Int.add_mul_emod_self_left]
          | mul => exact ⟨(a : Int) * b, rfl, by show _ = ((a * b % 2 ^ width : Nat) : Int); rw [Int.natCast_emod, Int.natCast_mul]⟩
        refine ⟨.int z, by rw [dget_disp]; exact congrArg some hz, ?_⟩
        walk_at "x"
        refine ⟨width, rfl, by omega, ?_⟩
        rw [hv]
        walk_at "x"
        refine rt_here ?_
        exact q
end Law
namespace Law
open PySem PySem.Spec PyProof.Rows L2 DL
local macro_rules | `(tactic| walk_at "x1") => `(tactic| first
  | with_reducible refine x_seq ?_ | with_reducible refine x_set ?_ | with_reducible refine x_ret ?_ | with_reducible refine x_ifS ?_ | with_reducible refine x_next ?_ | with_reducible refine x_asg ?_ | with_reducible refine x_drop ?_ | with_reducible refine x_for ?_ | with_reducible refine x_par ?_ | with_reducible refine ⟨_, _, rfl, ?_⟩
  | with_reducible refine x_op ?_ | ((with_reducible refine x_var (d := ?d) ?hx ?_); case hx => exact rfl) | with_reducible refine x_c ?_ | with_reducible refine x_B ?_ | with_reducible refine ⟨_, rfl, ?_⟩ | with_reducible refine x_call ?_ | with_reducible refine x_cons ?_ | with_reducible refine x_nil ?_ | with_reducible refine x_fn ?_
  | with_reducible refine x_if ?_ | with_reducible refine x_and ?_ | with_reducible refine x_or ?_ | with_reducible refine x_not ?_ | with_reducible refine x_andV ?_ | with_reducible refine x_orV ?_ | with_reducible refine x_notV ?_ | with_reducible refine x_chain ?_ | with_reducible refine x_un ?_
  | with_reducible refine x_tup ?_ | with_reducible refine x_lst ?_ | with_reducible refine x_lstM ?_ | with_reducible refine x_sz (Nat.le_of_ble_eq_true rfl) ?_ | with_reducible refine x_sl ?_ | with_reducible refine x_noP ?_ | with_reducible refine x_pt ?_
  | with_reducible refine x_range1 ?_ | with_reducible refine x_iter ?_ | with_reducible refine x_go_tup ?_ | with_reducible refine x_go_lst ?_ | with_reducible refine x_lc ?_ | with_reducible refine x_lcM ?_ | with_reducible refine x_lc2 ?_ | with_reducible refine x_yes ?_ | with_reducible refine x_gName ?_ | with_reducible refine x_gSub ?_
  | ((with_reducible refine x_gTup ?hx ?_); case hx => exact rfl) | ((with_reducible refine x_gTupL ?hx ?_); case hx => exact rfl) | with_reducible refine x_gCons ?_ | with_reducible refine x_gNil ?_ | with_reducible refine x_retN ?_ | with_reducible refine x_brk ?_ | with_reducible refine x_cont ?_
  | with_reducible refine x_add_i ?_ | with_reducible refine x_sub ?_ | with_reducible refine x_band ?_ | with_reducible refine x_bor ?_ | with_reducible refine x_bxor ?_ | with_reducible refine x_neg ?_ | with_reducible refine x_lt ?_ | with_reducible refine x_le ?_ | with_reducible refine x_gt ?_ | with_reducible refine x_ge ?_ | with_reducible refine x_eqI ?_ | with_reducible refine x_neI ?_
  | with_reducible refine x_isN ?_ | with_reducible refine x_isnotN ?_ | with_reducible refine x_isB ?_ | with_reducible refine x_isnotB ?_ | with_reducible refine x_int ?_ | with_reducible refine x_intB ?_ | with_reducible refine x_abs ?_ | with_reducible refine x_len_t ?_ | with_reducible refine x_len_l ?_ | with_reducible refine x_tuple_t ?_ | with_reducible refine x_tuple_l ?_ | with_reducible refine x_list_t ?_ | with_reducible refine x_list_l ?_ | with_reducible refine x_list_s ?_
  | with_reducible refine x_sl_t ?_ | with_reducible refine x_sl_l ?_ | with_reducible refine x_iadd_i ?_ | with_reducible refine x_isi ?_ | with_reducible refine x_din ?_ | with_reducible refine x_dnotin ?_ | with_reducible refine x_dgetE ?_ | with_reducible refine x_dput ?_ | with_reducible refine x_append ?_
  | with_reducible refine x_leX ?_ | with_reducible refine x_leS ?_ | with_reducible refine x_fld ?_ | with_reducible refine x_setF ?_ | with_reducible refine x_meth ?_ | with_reducible refine x_new ?_ | with_reducible refine x_isiC ?_ | with_reducible refine x_dget2 ?_ | with_reducible refine x_pop ?_ | with_reducible refine x_par3 ?_ | with_reducible refine x_iterS ?_
  | with_reducible refine x_T ?_ | with_reducible refine x_F ?_ | with_reducible refine x_nT ?_ | with_reducible refine x_nF ?_)
local macro_rules | `(tactic| walk_at "x2") => `(tactic| first
  | with_reducible refine x_bd (by omega) ?_ | with_reducible refine x_mod (by omega) ?_ | with_reducible refine x_div (by omega) ?_ | with_reducible refine x_shr (by omega) ?_ | with_reducible refine x_mul' (by omega) ?_ | with_reducible refine x_pow (by decide) ?_
  | ((with_reducible refine x_aug (x := ?d) ?hx ?_); case hx => exact rfl)
  | ((with_reducible refine x_ix_t (d := ?d) ?h0 ?hx ?_); (case h0 => omega); case hx => walk_at "at")
  | ((with_reducible refine x_ix_l (d := ?d) ?h0 ?hx ?_); (case h0 => omega); case hx => walk_at "at")
  | ((with_reducible refine x_ix_loc (ds := ?ds) (d := ?d) ?hm ?h0 ?hx ?_); (case hm => walk_at "m"); (case h0 => omega); case hx => walk_at "at")
  | ((with_reducible refine x_len_loc (ds := ?ds) ?hm ?_); case hm => walk_at "m") | ((with_reducible refine x_tuple_loc (ds := ?ds) ?hm ?_); case hm => walk_at "m") | ((with_reducible refine x_sl_loc (xs := ?ds) ?hm ?_); case hm => walk_at "m")
  | ((with_reducible refine ⟨_, ?ds, rfl, ?hm, ?_⟩); case hm => walk_at "m")
  | ((with_reducible refine ⟨_, ?ds, _, ?j, rfl, rfl, ?hm, ?hj, ?_⟩); (case hm => walk_at "m"); (case hj => walk_at "j")))
local macro_rules | `(tactic| walk_at "j") => `(tactic| exact rfl)
local macro_rules | `(tactic| walk_at "at") => `(tactic| first | exact rfl | assumption)
local macro_rules | `(tactic| walk_at "lt") => `(tactic| first | decide | omega | (simp; omega))
local macro_rules | `(tactic| walk_at "m") => `(tactic| first | exact mup_same | assumption)
local macro_rules | `(tactic| walk_at "x3") => `(tactic| first
  | ((with_reducible refine x_fldO (x := ?d) ?hC ?hl ?_); (case hl => exact rfl); case hC => decide) | with_reducible refine x_eqST (by decide +kernel) ?_ | with_reducible refine x_eqSF (by decide +kernel) ?_ | with_reducible refine x_inT rfl rfl (by decide +kernel) (by decide +kernel) ?_ | with_reducible refine x_inN rfl rfl (by decide +kernel) (by decide +kernel) ?_
  | with_reducible refine x_ty (b := true) rfl (by decide +kernel) ?_ | with_reducible refine x_ty (b := false) rfl (by decide +kernel) ?_ | with_reducible refine x_nYes (by walk_at "dec") ?_ | with_reducible refine x_nNo (by walk_at "dec") ?_ | with_reducible refine x_yesD (by walk_at "dec") ?_ | with_reducible refine x_noD (by walk_at "dec") ?_ | with_reducible refine x_yesE (by walk_at "dec") ?_ | with_reducible refine x_noE (by walk_at "dec") ?_ | with_reducible refine x_yesN (by walk_at "dec") ?_ | with_reducible refine x_noN (by walk_at "dec") ?_)
local macro_rules | `(tactic| walk_at "dec") => `(tactic| first | omega | (simp only [List.length_cons, List.length_nil, List.length_map, List.length_append, nD_len, List.length_range]; omega))
local macro_rules | `(tactic| walk_at "x") => `(tactic| repeat (first | walk_at "x1" | walk_at "x2"))
local macro_rules | `(tactic| walk_at "xx") => `(tactic| repeat (first | walk_at "x1" | walk_at "x2" | walk_at "x3"))

abbrev N_parts_of : List Str := ["term", "kind"]
def w_parts_of : DS := (dSeq (dSet 1 (dOp oIx (dVar 0) (dC (.int 0))))
    (dSeq (dIfS (dB (dOp (oInF false) (dVar 1) (dTup (dCons (dC (.str "const")) (dCons (dC (.str "token")) (dCons (dC (.str "keep")) dNil)))))) (dRet (dTup dNil)) dNext)
    (dSeq (dIfS (dB (dOp oEq (dVar 1) (dC (.str "join")))) (dRet (dOp oIx (dVar 0) (dC (.int 1)))) dNext)
    (dSeq (dIfS (dB (dOp oEq (dVar 1) (dC (.str "read")))) (dRet (dSl (dVar 0) (dPt (dC (.int 2))) dNoP)) dNext)
    (dRet (dIf (dB (dOp oEq (dVar 1) (dC (.str "part")))) (dSl (dVar 0) (dPt (dC (.int 1))) (dPt (dC (.int 2)))) (dSl (dVar 0) (dPt (dC (.int 1))) dNoP)))))))
theorem rd_parts_of : ∀ ds M R, sp_parts_of ds M R X0 → w_parts_of (retTo R X0) (startG N_parts_of ds) M := fun ds M R h => by
  match ds, h with
  | [t], h =>
    obtain ⟨T, rfl, q⟩ := h
    show w_parts_of (retTo R X0) [some (dTm T), none] M
    unfold w_parts_of
    rcases T with _ | _ | _ | _ | ⟨_ | _ | _ | _ | _ | _, _, _⟩ | ⟨_ | _, _, _⟩ | _ | ⟨_ | _ | _, _⟩ | _ | _ | _ | _ | _
    all_goals (unfold dTm sS; walk_at "xx")
    all_goals (first | exact rt_here q | skip)
end Law
namespace Law
open PySem PySem.Spec PyProof.Rows L2 DL
local macro_rules | `(tactic| walk_at "x1") => `(tactic| first
  | with_reducible refine x_seq ?_ | with_reducible refine x_set ?_ | with_reducible refine x_ret ?_ | with_reducible refine x_ifS ?_ | with_reducible refine x_next ?_ | with_reducible refine x_asg ?_ | with_reducible refine x_drop ?_ | with_reducible refine x_for ?_ | with_reducible refine x_par ?_ | with_reducible refine ⟨_, _, rfl, ?_⟩
  | with_reducible refine x_op ?_ | ((with_reducible refine x_var (d := ?d) ?hx ?_); case hx => exact rfl) | with_reducible refine x_c ?_ | with_reducible refine x_B ?_ | with_reducible refine ⟨_, rfl, ?_⟩ | with_reducible refine x_call ?_ | with_reducible refine x_cons ?_ | with_reducible refine x_nil ?_ | with_reducible refine x_fn ?_
  | with_reducible refine x_if ?_ | with_reducible refine x_and ?_ | with_reducible refine x_or ?_ | with_reducible refine x_not ?_ | with_reducible refine x_andV ?_ | with_reducible refine x_orV ?_ | with_reducible refine x_notV ?_ | with_reducible refine x_chain ?_ | with_reducible refine x_un ?_
  | with_reducible refine x_tup ?_ | with_reducible refine x_lst ?_ | with_reducible refine x_lstM ?_ | with_reducible refine x_sz (Nat.le_of_ble_eq_true rfl) ?_ | with_reducible refine x_sl ?_ | with_reducible refine x_noP ?_ | with_reducible refine x_pt ?_
  | with_reducible refine x_range1 ?_ | with_reducible refine x_iter ?_ | with_reducible refine x_go_tup ?_ | with_reducible refine x_go_lst ?_ | with_reducible refine x_lc ?_ | with_reducible refine x_lcM ?_ | with_reducible refine x_lc2 ?_ | with_reducible refine x_yes ?_ | with_reducible refine x_gName ?_ | with_reducible refine x_gSub ?_
  | ((with_reducible refine x_gTup ?hx ?_); case hx => exact rfl) | ((with_reducible refine x_gTupL ?hx ?_); case hx => exact rfl) | with_reducible refine x_gCons ?_ | with_reducible refine x_gNil ?_ | with_reducible refine x_retN ?_ | with_reducible refine x_brk ?_ | with_reducible refine x_cont ?_
  | with_reducible refine x_add_i ?_ | with_reducible refine x_sub ?_ | with_reducible refine x_band ?_ | with_reducible refine x_bor ?_ | with_reducible refine x_bxor ?_ | with_reducible refine x_neg ?_ | with_reducible refine x_lt ?_ | with_reducible refine x_le ?_ | with_reducible refine x_gt ?_ | with_reducible refine x_ge ?_ | with_reducible refine x_eqI ?_ | with_reducible refine x_neI ?_
  | with_reducible refine x_isN ?_ | with_reducible refine x_isnotN ?_ | with_reducible refine x_isB ?_ | with_reducible refine x_isnotB ?_ | with_reducible refine x_int ?_ | with_reducible refine x_intB ?_ | with_reducible refine x_abs ?_ | with_reducible refine x_len_t ?_ | with_reducible refine x_len_l ?_ | with_reducible refine x_tuple_t ?_ | with_reducible refine x_tuple_l ?_ | with_reducible refine x_list_t ?_ | with_reducible refine x_list_l ?_ | with_reducible refine x_list_s ?_
  | with_reducible refine x_sl_t ?_ | with_reducible refine x_sl_l ?_ | with_reducible refine x_iadd_i ?_ | with_reducible refine x_isi ?_ | with_reducible refine x_din ?_ | with_reducible refine x_dnotin ?_ | with_reducible refine x_dgetE ?_ | with_reducible refine x_dput ?_ | with_reducible refine x_append ?_
  | with_reducible refine x_leX ?_ | with_reducible refine x_leS ?_ | with_reducible refine x_fld ?_ | with_reducible refine x_setF ?_ | with_reducible refine x_meth ?_ | with_reducible refine x_new ?_ | with_reducible refine x_isiC ?_ | with_reducible refine x_dget2 ?_ | with_reducible refine x_pop ?_ | with_reducible refine x_par3 ?_ | with_reducible refine x_iterS ?_
  | with_reducible refine x_T ?_ | with_reducible refine x_F ?_ | with_reducible refine x_nT ?_ | with_reducible refine x_nF ?_)
local macro_rules | `(tactic| walk_at "x2") => `(tactic| first
  | with_reducible refine x_bd (by omega) ?_ | with_reducible refine x_mod (by omega) ?_ | with_reducible refine x_div (by omega) ?_ | with_reducible refine x_shr (by omega) ?_ | with_reducible refine x_mul' (by omega) ?_ | with_reducible refine x_pow (by decide) ?_
  | ((with_reducible refine x_aug (x := ?d) ?hx ?_); case hx => exact rfl)
  | ((with_reducible refine x_ix_t (d := ?d) ?h0 ?hx ?_); (case h0 => omega); case hx => walk_at "at")
  | ((with_reducible refine x_ix_l (d := ?d) ?h0 ?hx ?_); (case h0 => omega); case hx => walk_at "at")
  | ((with_reducible refine x_ix_loc (ds := ?ds) (d := ?d) ?hm ?h0 ?hx ?_); (case hm => walk_at "m"); (case h0 => omega); case hx => walk_at "at")
  | ((with_reducible refine x_len_loc (ds := ?ds) ?hm ?_); case hm => walk_at "m") | ((with_reducible refine x_tuple_loc (ds := ?ds) ?hm ?_); case hm => walk_at "m") | ((with_reducible refine x_sl_loc (xs := ?ds) ?hm ?_); case hm => walk_at "m")
  | ((with_reducible refine ⟨_, ?ds, rfl, ?hm, ?_⟩); case hm => walk_at "m")
  | ((with_reducible refine ⟨_, ?ds, _, ?j, rfl, rfl, ?hm, ?hj, ?_⟩); (case hm => walk_at "m"); (case hj => walk_at "j")))
local macro_rules | `(tactic| walk_at "j") => `(tactic| exact rfl)
local macro_rules | `(tactic| walk_at "at") => `(tactic| first | exact rfl | assumption)
local macro_rules | `(tactic| walk_at "lt") => `(tactic| first | decide | omega | (simp; omega))
local macro_rules | `(tactic| walk_at "m") => `(tactic| first | exact mup_same | assumption)
local macro_rules | `(tactic| walk_at "x3") => `(tactic| first
  | ((with_reducible refine x_fldO (x := ?d) ?hC ?hl ?_); (case hl => exact rfl); case hC => decide) | with_reducible refine x_eqST (by decide +kernel) ?_ | with_reducible refine x_eqSF (by decide +kernel) ?_ | with_reducible refine x_inT rfl rfl (by decide +kernel) (by decide +kernel) ?_ | with_reducible refine x_inN rfl rfl (by decide +kernel) (by decide +kernel) ?_
  | with_reducible refine x_ty (b := true) rfl (by decide +kernel) ?_ | with_reducible refine x_ty (b := false) rfl (by decide +kernel) ?_ | with_reducible refine x_nYes (by walk_at "dec") ?_ | with_reducible refine x_nNo (by walk_at "dec") ?_ | with_reducible refine x_yesD (by walk_at "dec") ?_ | with_reducible refine x_noD (by walk_at "dec") ?_ | with_reducible refine x_yesE (by walk_at "dec") ?_ | with_reducible refine x_noE (by walk_at "dec") ?_ | with_reducible refine x_yesN (by walk_at "dec") ?_ | with_reducible refine x_noN (by walk_at "dec") ?_)
local macro_rules | `(tactic| walk_at "dec") => `(tactic| first | omega | (simp only [List.length_cons, List.length_nil, List.length_map, List.length_append, nD_len, List.length_range]; omega))
local macro_rules | `(tactic| walk_at "x") => `(tactic| repeat (first | walk_at "x1" | walk_at "x2"))
local macro_rules | `(tactic| walk_at "xx") => `(tactic| repeat (first | walk_at "x1" | walk_at "x2" | walk_at "x3"))

def sp_is_count : DSp
  | [.int v], M, R, _ => R (.bl (decide (0 ≤ v))) M
  | _, _, _, _ => False
abbrev N_is_count : List Str := ["value"]
def w_is_count : DS := (dRet (dAndV (dIsi "int" (dVar 0)) (dAndV (dNotV (dIsi "bool" (dVar 0))) (dOp oGe (dVar 0) (dC (.int 0))))))
theorem rd_is_count : ∀ ds M R, sp_is_count ds M R X0 → w_is_count (retTo R X0) (startG N_is_count ds) M := fun ds M R h => by
  match ds, h with
  | [.int v], q =>
    show w_is_count (retTo R X0) [some (.int v)] M
    unfold w_is_count
    walk_at "xx"
    exact rt_here q
def sp_is_width : DSp
  | [.int v], M, R, _ => 1 ≤ v ∧ v ≤ 8 ∧ R (.bl true) M
  | _, _, _, _ => False
abbrev N_is_width : List Str := ["value"]
def w_is_width : DS := (dRet (dAndV (dFn sp_is_count [] (dCons (dVar 0) dNil)) (dChain oLe oLe (dC (.int 1)) (dVar 0) (dC (.int 8)))))
theorem rd_is_width : ∀ ds M R, sp_is_width ds M R X0 → w_is_width (retTo R X0) (startG N_is_width ds) M := fun ds M R h => by
  match ds, h with
  | [.int v], ⟨h1, h2, q⟩ =>
    show w_is_width (retTo R X0) [some (.int v)] M
    unfold w_is_width
    walk_at "x"
    refine ⟨_, rfl, ?_⟩
    walk_at "xx"
    refine rt_here (x_bl ?_ q)
    simpa using h2
def sp_is_word : DSp
  | [.int v, .int w], M, R, _ => 0 ≤ v ∧ 0 ≤ w ∧ w ≤ 1000 ∧ v < ((2 ^ w.toNat : Nat) : Int) ∧ R (.bl true) M
  | _, _, _, _ => False
abbrev N_is_word : List Str := ["value", "width"]
def w_is_word : DS := (dRet (dAndV (dFn sp_is_count [] (dCons (dVar 0) dNil)) (dOp oLt (dVar 0) (dOp oShl (dC (.int 1)) (dVar 1)))))
theorem rd_is_word : ∀ ds M R, sp_is_word ds M R X0 → w_is_word (retTo R X0) (startG N_is_word ds) M := fun ds M R h => by
  match ds, h with
  | [.int v, .int w], ⟨h1, h2, h3, h4, q⟩ =>
    show w_is_word (retTo R X0) [some (.int v), some (.int w)] M
    unfold w_is_word
    walk_at "x"
    refine ⟨_, rfl, ?_⟩
    walk_at "xx"
    refine x_shl ⟨by omega, by omega, by decide⟩ ?_
    walk_at "x"
    refine rt_here (x_bl ?_ q)
    rw [Int.one_mul]
    simpa using h4
/-! names -/
def v_KEPT : List Str := ["all", "any", "odd", "read", "keep", "next", "store", "write", "put", "flow", "type", "in", "out", "chan", "work", "fair", "choose", "split"]
def okName (x : Str) : Bool := decide (1 ≤ x.length) && decide (x.length ≤ 12) && !((v_KEPT.map D.str).any fun d => eqF d (.str x)) &&
  (match atI x.cps.toList 0 with | some c => !strLt ⟨#[c]⟩ (Str.ofString "a") && !strLt (Str.ofString "z") ⟨#[c]⟩ | none => false) &&
  (x.cps.toList.all fun c => (!strLt ⟨#[c]⟩ (Str.ofString "a") && !strLt (Str.ofString "z") ⟨#[c]⟩) || (!strLt ⟨#[c]⟩ (Str.ofString "0") && !strLt (Str.ofString "9") ⟨#[c]⟩))
def sp_is_name : DSp
  | [.str x], M, R, _ => okName x = true ∧ R (.bl true) M
  | _, _, _, _ => False
abbrev N_is_name : List Str := ["value", "one"]
def w_is_name : DS := (dSeq (dIfS (dOr (dNot (dB (dIsi "str" (dVar 0)))) (dOr (dNot (dB (dChain oLeX oLeX (dC (.int 1)) (dCall oLen (dCons (dVar 0) dNil)) (dC (.int 12))))) (dOr (dB (dOp (oInF false) (dVar 0) (dC (.kt (v_KEPT.map D.str))))) (dNot (dB (dChain oLeX oLeX (dC (.str "a")) (dOp oIx (dVar 0) (dC (.int 0))) (dC (.str "z")))))))) (dRet (dC (.bl false))) dNext)
    (dRet (dCall oAll (dCons (dLc (dIterS (dVar 0)) (dgName 1) dYes (dOrV (dChain oLeX oLeX (dC (.str "a")) (dVar 1) (dC (.str "z"))) (dChain oLeX oLeX (dC (.str "0")) (dVar 1) (dC (.str "9")))) [1]) dNil))))
theorem rd_is_name : ∀ ds M R, sp_is_name ds M R X0 → w_is_name (retTo R X0) (startG N_is_name ds) M := fun ds M R h => by
  match ds, h with
  | [.str x], ⟨h1, q⟩ =>
    show w_is_name (retTo R X0) [some (.str x), none] M
    unfold w_is_name
    simp only [okName, Bool.and_eq_true] at h1
    obtain ⟨⟨⟨⟨h1, h2⟩, h3⟩, h4⟩, h5⟩ := h1
    have h1 := of_decide_eq_true h1
    have h2 := of_decide_eq_true h2
    have hz : x.length ≤ sizeLine := Nat.le_trans h2 (by decide)
    split at h4
    case h_2 => cases h4
    case h_1 c hc =>
    simp only [Bool.and_eq_true] at h4
    walk_at "xx"
    refine ⟨hz, ?_⟩
    walk_at "xx"
    refine x_inF (xs := v_KEPT.map D.str) rfl rfl (by decide +kernel) ?_
    rw [show ((v_KEPT.map D.str).any fun d => eqF d (.str x)) = false by simpa using h3]
    walk_at "xx"
    refine ⟨hz, c, hc, ?_⟩
    walk_at "xx"
    rw [h4.1]
    walk_at "xx"
    rw [h4.2]
    walk_at "xx"
    refine lc_map (fun _ => .bl true) (by simp [DL.signs]; exact hz) ?_ ?_
    · intro d hd M' sb K F k
      obtain ⟨e, he, rfl⟩ := List.mem_map.mp hd
      have h6 := List.all_eq_true.mp h5 e he
      simp only [Bool.or_eq_true, Bool.and_eq_true] at h6
      walk_at "xx"
      cases ha : !strLt ⟨#[e]⟩ (Str.ofString "a") with
      | true =>
        walk_at "xx"
        cases hb : !strLt (Str.ofString "z") ⟨#[e]⟩ with
        | true =>
          walk_at "xx"
          exact k
        | false =>
          walk_at "xx"
          have h7 := h6.resolve_left fun h => by rw [hb] at h; exact Bool.noConfusion h.2
          rw [h7.1]
          walk_at "xx"
          rw [h7.2]
          exact k
      | false =>
        walk_at "xx"
        have h7 := h6.resolve_left fun h => by rw [ha] at h; exact Bool.noConfusion h.1
        rw [h7.1]
        walk_at "xx"
        rw [h7.2]
        exact k
    · intro A hA
      refine lcF_mk hA ?_
      walk_at "xx"
      refine ⟨(DL.signs x).map fun _ => true, by rw [List.map_map]; rfl, ?_⟩
      refine rt_here (x_bl ?_ q)
      simp
theorem okName_nm : (["b", "k", "s"].all fun p => ws8.all fun w => okName (Str.ofString p ++ sN w)) = true := by decide +kernel
theorem okNm {p : String} {w : Nat} (hp : p ∈ ["b", "k", "s"]) (h1 : 1 ≤ w) (h2 : w ≤ 8) : okName (Str.ofString p ++ sN w) = true := by
  have := List.all_eq_true.mp (List.all_eq_true.mp okName_nm p hp) w (by simp [ws8]; omega)
  exact this
end Law
namespace Law
open PySem PySem.Spec PyProof.Rows L2 DL
local macro_rules | `(tactic| walk_at "x1") => `(tactic| first
  | with_reducible refine x_seq ?_ | with_reducible refine x_set ?_ | with_reducible refine x_ret ?_ | with_reducible refine x_ifS ?_ | with_reducible refine x_next ?_ | with_reducible refine x_asg ?_ | with_reducible refine x_drop ?_ | with_reducible refine x_for ?_ | with_reducible refine x_par ?_ | with_reducible refine ⟨_, _, rfl, ?_⟩
  | with_reducible refine x_op ?_ | ((with_reducible refine x_var (d := ?d) ?hx ?_); case hx => exact rfl) | with_reducible refine x_c ?_ | with_reducible refine x_B ?_ | with_reducible refine ⟨_, rfl, ?_⟩ | with_reducible refine x_call ?_ | with_reducible refine x_cons ?_ | with_reducible refine x_nil ?_ | with_reducible refine x_fn ?_
  | with_reducible refine x_if ?_ | with_reducible refine x_and ?_ | with_reducible refine x_or ?_ | with_reducible refine x_not ?_ | with_reducible refine x_andV ?_ | with_reducible refine x_orV ?_ | with_reducible refine x_notV ?_ | with_reducible refine x_chain ?_ | with_reducible refine x_un ?_
  | with_reducible refine x_tup ?_ | with_reducible refine x_lst ?_ | with_reducible refine x_lstM ?_ | with_reducible refine x_sz (Nat.le_of_ble_eq_true rfl) ?_ | with_reducible refine x_sl ?_ | with_reducible refine x_noP ?_ | with_reducible refine x_pt ?_
  | with_reducible refine x_range1 ?_ | with_reducible refine x_iter ?_ | with_reducible refine x_go_tup ?_ | with_reducible refine x_go_lst ?_ | with_reducible refine x_lc ?_ | with_reducible refine x_lcM ?_ | with_reducible refine x_lc2 ?_ | with_reducible refine x_yes ?_ | with_reducible refine x_gName ?_ | with_reducible refine x_gSub ?_
  | ((with_reducible refine x_gTup ?hx ?_); case hx => exact rfl) | ((with_reducible refine x_gTupL ?hx ?_); case hx => exact rfl) | with_reducible refine x_gCons ?_ | with_reducible refine x_gNil ?_ | with_reducible refine x_retN ?_ | with_reducible refine x_brk ?_ | with_reducible refine x_cont ?_
  | with_reducible refine x_add_i ?_ | with_reducible refine x_sub ?_ | with_reducible refine x_band ?_ | with_reducible refine x_bor ?_ | with_reducible refine x_bxor ?_ | with_reducible refine x_neg ?_ | with_reducible refine x_lt ?_ | with_reducible refine x_le ?_ | with_reducible refine x_gt ?_ | with_reducible refine x_ge ?_ | with_reducible refine x_eqI ?_ | with_reducible refine x_neI ?_
  | with_reducible refine x_isN ?_ | with_reducible refine x_isnotN ?_ | with_reducible refine x_isB ?_ | with_reducible refine x_isnotB ?_ | with_reducible refine x_int ?_ | with_reducible refine x_intB ?_ | with_reducible refine x_abs ?_ | with_reducible refine x_len_t ?_ | with_reducible refine x_len_l ?_ | with_reducible refine x_tuple_t ?_ | with_reducible refine x_tuple_l ?_ | with_reducible refine x_list_t ?_ | with_reducible refine x_list_l ?_ | with_reducible refine x_list_s ?_
  | with_reducible refine x_sl_t ?_ | with_reducible refine x_sl_l ?_ | with_reducible refine x_iadd_i ?_ | with_reducible refine x_isi ?_ | with_reducible refine x_din ?_ | with_reducible refine x_dnotin ?_ | with_reducible refine x_dgetE ?_ | with_reducible refine x_dput ?_ | with_reducible refine x_append ?_
  | with_reducible refine x_leX ?_ | with_reducible refine x_leS ?_ | with_reducible refine x_fld ?_ | with_reducible refine x_setF ?_ | with_reducible refine x_meth ?_ | with_reducible refine x_new ?_ | with_reducible refine x_isiC ?_ | with_reducible refine x_dget2 ?_ | with_reducible refine x_pop ?_ | with_reducible refine x_par3 ?_ | with_reducible refine x_iterS ?_
  | with_reducible refine x_T ?_ | with_reducible refine x_F ?_ | with_reducible refine x_nT ?_ | with_reducible refine x_nF ?_)
local macro_rules | `(tactic| walk_at "x2") => `(tactic| first
  | with_reducible refine x_bd (by omega) ?_ | with_reducible refine x_mod (by omega) ?_ | with_reducible refine x_div (by omega) ?_ | with_reducible refine x_shr (by omega) ?_ | with_reducible refine x_mul' (by omega) ?_ | with_reducible refine x_pow (by decide) ?_
  | ((with_reducible refine x_aug (x := ?d) ?hx ?_); case hx => exact rfl)
  | ((with_reducible refine x_ix_t (d := ?d) ?h0 ?hx ?_); (case h0 => omega); case hx => walk_at "at")
  | ((with_reducible refine x_ix_l (d := ?d) ?h0 ?hx ?_); (case h0 => omega); case hx => walk_at "at")
  | ((with_reducible refine x_ix_loc (ds := ?ds) (d := ?d) ?hm ?h0 ?hx ?_); (case hm => walk_at "m"); (case h0 => omega); case hx => walk_at "at")
  | ((with_reducible refine x_len_loc (ds := ?ds) ?hm ?_); case hm => walk_at "m") | ((with_reducible refine x_tuple_loc (ds := ?ds) ?hm ?_); case hm => walk_at "m") | ((with_reducible refine x_sl_loc (xs := ?ds) ?hm ?_); case hm => walk_at "m")
  | ((with_reducible refine ⟨_, ?ds, rfl, ?hm, ?_⟩); case hm => walk_at "m")
  | ((with_reducible refine ⟨_, ?ds, _, ?j, rfl, rfl, ?hm, ?hj, ?_⟩); (case hm => walk_at "m"); (case hj => walk_at "j")))
local macro_rules | `(tactic| walk_at "j") => `(tactic| exact rfl)
local macro_rules | `(tactic| walk_at "at") => `(tactic| first | exact rfl | assumption)
local macro_rules | `(tactic| walk_at "lt") => `(tactic| first | decide | omega | (simp; omega))
local macro_rules | `(tactic| walk_at "m") => `(tactic| first | exact mup_same | assumption)
local macro_rules | `(tactic| walk_at "x3") => `(tactic| first
  | ((with_reducible refine x_fldO (x := ?d) ?hC ?hl ?_); (case hl => exact rfl); case hC => decide) | with_reducible refine x_eqST (by decide +kernel) ?_ | with_reducible refine x_eqSF (by decide +kernel) ?_ | with_reducible refine x_inT rfl rfl (by decide +kernel) (by decide +kernel) ?_ | with_reducible refine x_inN rfl rfl (by decide +kernel) (by decide +kernel) ?_
  | with_reducible refine x_ty (b := true) rfl (by decide +kernel) ?_ | with_reducible refine x_ty (b := false) rfl (by decide +kernel) ?_ | with_reducible refine x_nYes (by walk_at "dec") ?_ | with_reducible refine x_nNo (by walk_at "dec") ?_ | with_reducible refine x_yesD (by walk_at "dec") ?_ | with_reducible refine x_noD (by walk_at "dec") ?_ | with_reducible refine x_yesE (by walk_at "dec") ?_ | with_reducible refine x_noE (by walk_at "dec") ?_ | with_reducible refine x_yesN (by walk_at "dec") ?_ | with_reducible refine x_noN (by walk_at "dec") ?_)
local macro_rules | `(tactic| walk_at "dec") => `(tactic| first | omega | (simp only [List.length_cons, List.length_nil, List.length_map, List.length_append, nD_len, List.length_range]; omega))
local macro_rules | `(tactic| walk_at "x") => `(tactic| repeat (first | walk_at "x1" | walk_at "x2"))
local macro_rules | `(tactic| walk_at "xx") => `(tactic| repeat (first | walk_at "x1" | walk_at "x2" | walk_at "x3"))

theorem key_inj : (["b", "k", "s"].all fun p => ws8.all fun w => ws8.all fun v => !decide (Str.ofString p ++ sN v = Str.ofString p ++ sN w) || decide (v = w)) = true := by decide +kernel
theorem look_ws {p : String} {w : Nat} {α : Type} (f : Nat → α) (hp : p ∈ ["b", "k", "s"]) (h1 : 1 ≤ w) (h2 : w ≤ 8) : look ((ws8.map (keyB p)).zip (ws8.map f)) (keyB p w) = some (f w) := by
  have hw : w ∈ ws8 := by simp [ws8]; omega
  refine look_map (fun v hv e => ?_) hw
  have := List.all_eq_true.mp (List.all_eq_true.mp (List.all_eq_true.mp key_inj p hp) w hw) v hv
  simp only [Bool.or_eq_true, Bool.not_eq_true', decide_eq_false_iff_not, decide_eq_true_eq] at this
  exact this.resolve_left fun h => h (by injection e)
theorem dget_tok (W : Wd) {w : Nat} (h1 : 1 ≤ w) (h2 : w ≤ 8) (M : Mem) : dget M (.dK (ws8.map (keyB "b")) (ws8.map fun (w : Nat) => .tup [.int (w : Int), .tup (nD' [W.tok w 0, W.tok w 1])])) (nm "b" w) = some (some (.tup [.int (w : Int), .tup (nD' [W.tok w 0, W.tok w 1])])) :=
  congrArg some (look_ws (p := "b") (fun (w : Nat) => D.tup [.int (w : Int), .tup (nD' [W.tok w 0, W.tok w 1])]) (by simp) h1 h2)
theorem dget_kp (W : Wd) {w : Nat} (h1 : 1 ≤ w) (h2 : w ≤ 8) (M : Mem) : dget M (.dK (ws8.map (keyB "k")) (ws8.map fun (w : Nat) => .tup [.int (w : Int), .int (W.kp w)])) (nm "k" w) = some (some (.tup [.int (w : Int), .int (W.kp w)])) :=
  congrArg some (look_ws (p := "k") (fun (w : Nat) => D.tup [.int (w : Int), .int (W.kp w)]) (by simp) h1 h2)
theorem dget_st (W : Wd) {w : Nat} (h1 : 1 ≤ w) (h2 : w ≤ 8) (M : Mem) : dget M (.dK (ws8.map (keyB "s")) (ws8.map fun (w : Nat) => .tup [.int (w : Int), .tup (nD' (W.st w))])) (nm "s" w) = some (some (.tup [.int (w : Int), .tup (nD' (W.st w))])) :=
  congrArg some (look_ws (p := "s") (fun (w : Nat) => D.tup [.int (w : Int), .tup (nD' (W.st w))]) (by simp) h1 h2)
abbrev vD (W : Wd) (p : Tm) : D := .tup [.int (wid p : Nat), .int (val W p : Nat)]
theorem deep_pos (t : Tm) : 1 ≤ deep t := by cases t <;> simp [deep]
theorem tv_call {n : Nat} {T : Tm} {W : Wd} {M : Mem} {R : Pst} {X : Xst} (h1 : wf T) (h2 : WdOk W) (h3 : deep T ≤ n) (q : R (vD W T) M) : sp_term_value n [dTm T, dWd W] M R X := by
  cases n with
  | zero => have := deep_pos T; omega
  | succ n => exact ⟨T, W, rfl, rfl, h1, h2, h3, q⟩
theorem wf_parts : ∀ (t p : Tm), wf t → p ∈ partsT t → wf p := fun t p h hp => by
  cases t <;> simp only [partsT, List.mem_cons, List.mem_nil_iff, or_false] at hp <;> simp only [wf] at h
  case read => subst hp; exact h.2.2
  case bin => rcases hp with rfl | rfl; exact h.1; exact h.2.1
  case cmp => rcases hp with rfl | rfl; exact h.1; exact h.2.1
  case not => subst hp; exact h
  case red => subst hp; exact h
  case pick => rcases hp with rfl | rfl | rfl; exact h.1; exact h.2.2.1; exact h.2.2.2.1
  case join2 => rcases hp with rfl | rfl; exact h.1; exact h.2.1
  case join3 => rcases hp with rfl | rfl | rfl; exact h.1; exact h.2.1; exact h.2.2.1
  case join4 => rcases hp with rfl | rfl | rfl | rfl; exact h.1; exact h.2.1; exact h.2.2.1; exact h.2.2.2.1
  case part => subst hp; exact h.1
def v_ONES : List Str := ["not", "all", "any", "odd"]
abbrev N_term_value : List Str := ["term", "world", "kind", "told", "width", "words", "total", "one"]
def w_term_value (n : Nat) : DS := (dSeq (dSet 2 (dOp oIx (dVar 0) (dC (.int 0))))
    (dSeq (dIfS (dB (dOp oEq (dVar 2) (dC (.str "const")))) (dRet (dTup (dCons (dOp oIx (dVar 0) (dC (.int 1))) (dCons (dOp oIx (dVar 0) (dC (.int 2))) dNil)))) dNext)
    (dSeq (dIfS (dB (dOp oEq (dVar 2) (dC (.str "keep")))) (dRet (dDGet (dFld ["World"] "keeps" (dVar 1)) (dOp oIx (dVar 0) (dC (.int 1))))) dNext)
    (dSeq (dIfS (dB (dOp oEq (dVar 2) (dC (.str "token")))) (dRet (dTup (dCons (dOp oIx (dDGet (dFld ["World"] "tokens" (dVar 1)) (dOp oIx (dVar 0) (dC (.int 1)))) (dC (.int 0))) (dCons (dOp oIx (dOp oIx (dDGet (dFld ["World"] "tokens" (dVar 1)) (dOp oIx (dVar 0) (dC (.int 1)))) (dC (.int 1))) (dOp oIx (dVar 0) (dC (.int 2)))) dNil)))) dNext)
    (dSeq (dSet 3 (dLc (dIter (dFn sp_parts_of [] (dCons (dVar 0) dNil))) (dgName 7) dYes (dFn (sp_term_value n) [] (dCons (dVar 7) (dCons (dVar 1) dNil))) [7]))
    (dSeq (dIfS (dB (dOp oEq (dVar 2) (dC (.str "read")))) (dSeq (dAsg (dDGet (dFld ["World"] "stores" (dVar 1)) (dOp oIx (dVar 0) (dC (.int 1)))) (dgTup 2 (dgCons (dgName 4) (dgCons (dgName 5) dgNil))))
    (dRet (dTup (dCons (dVar 4) (dCons (dIf (dB (dOp oLt (dOp oIx (dOp oIx (dVar 3) (dC (.int 0))) (dC (.int 1))) (dCall oLen (dCons (dVar 5) dNil)))) (dOp oIx (dVar 5) (dOp oIx (dOp oIx (dVar 3) (dC (.int 0))) (dC (.int 1)))) (dC (.int 0))) dNil))))) dNext)
    (dSeq (dIfS (dB (dOp oEq (dVar 2) (dC (.str "pick")))) (dRet (dIf (dB (dOp oEq (dOp oIx (dOp oIx (dVar 3) (dC (.int 0))) (dC (.int 1))) (dC (.int 1)))) (dOp oIx (dVar 3) (dC (.int 1))) (dOp oIx (dVar 3) (dC (.int 2))))) dNext)
    (dSeq (dIfS (dB (dOp oEq (dVar 2) (dC (.str "part")))) (dSeq (dSet 4 (dOp oAdd (dOp oSub (dOp oIx (dVar 0) (dC (.int 2))) (dOp oIx (dVar 0) (dC (.int 3)))) (dC (.int 1))))
    (dRet (dTup (dCons (dVar 4) (dCons (dFn sp_cut_word [] (dCons (dOp oShr (dOp oIx (dOp oIx (dVar 3) (dC (.int 0))) (dC (.int 1))) (dOp oIx (dVar 0) (dC (.int 3)))) (dCons (dVar 4) dNil))) dNil))))) dNext)
    (dSeq (dIfS (dB (dOp oEq (dVar 2) (dC (.str "join")))) (dSeq (dAsg (dTup (dCons (dC (.int 0)) (dCons (dC (.int 0)) dNil))) (dgTup 2 (dgCons (dgName 6) (dgCons (dgName 4) dgNil))))
    (dSeq (dFor (dIter (dVar 3)) (dgName 7) (dPar 6 4 (dCons (dOp oOr (dOp oShl (dVar 6) (dOp oIx (dVar 7) (dC (.int 0)))) (dOp oIx (dVar 7) (dC (.int 1)))) (dCons (dOp oAdd (dVar 4) (dOp oIx (dVar 7) (dC (.int 0)))) dNil))))
    (dRet (dTup (dCons (dVar 4) (dCons (dVar 6) dNil)))))) dNext)
    (dRet (dIf (dB (dOp (oInF false) (dVar 2) (dC (.kt (v_ONES.map D.str))))) (dFn sp_value_of_one [] (dCons (dVar 2) (dCons (dOp oIx (dVar 3) (dC (.int 0))) dNil))) (dFn sp_value_of_pair [] (dCons (dVar 2) (dCons (dOp oIx (dVar 3) (dC (.int 0))) (dCons (dOp oIx (dVar 3) (dC (.int 1))) dNil)))))))))))))))
abbrev tvGoal (n : Nat) (R : Pst) (M : Mem) (W : Wd) (T : Tm) : Prop := w_term_value n (retTo R X0) [some (dTm T), some (dWd W), none, none, none, none, none, none] M
theorem tv_const {n : Nat} {R : Pst} {M : Mem} {W : Wd} {w v : Nat} (hf : wf (.const w v)) (hW : WdOk W) (hd : deep (.const w v) ≤ n + 1) (q : R (vD W (.const w v)) M) : tvGoal n R M W (.const w v) := by
  unfold tvGoal w_term_value dWd
  have hparts : ∀ p ∈ partsT (.const w v), wf p ∧ deep p ≤ n := fun p hp => ⟨wf_parts (.const w v) p hf hp, by have := deep_parts (.const w v) p hp; omega⟩
  unfold dTm sS; walk_at "xx"
  exact rt_here q
theorem tv_token {n : Nat} {R : Pst} {M : Mem} {W : Wd} {w i : Nat} (hf : wf (.token w i)) (hW : WdOk W) (hd : deep (.token w i) ≤ n + 1) (q : R (vD W (.token w i)) M) : tvGoal n R M W (.token w i) := by
  unfold tvGoal w_term_value dWd
  have hparts : ∀ p ∈ partsT (.token w i), wf p ∧ deep p ≤ n := fun p hp => ⟨wf_parts (.token w i) p hf hp, by have := deep_parts (.token w i) p hp; omega⟩
  unfold dTm sS; walk_at "xx"
  refine ⟨_, dget_tok W hf.1 hf.2.1 M, ?_⟩
  walk_at "xx"
  refine ⟨_, dget_tok W hf.1 hf.2.1 M, ?_⟩
  walk_at "xx"
  refine x_ix_t (d := .int (W.tok w i)) (by omega) ?_ ?_
  · have h2 := hf.2.2
    show (nD' [W.tok w 0, W.tok w 1])[i]? = _
    rcases (by omega : i = 0 ∨ i = 1) with rfl | rfl <;> rfl
  walk_at "xx"
  exact rt_here q
theorem tv_keep {n : Nat} {R : Pst} {M : Mem} {W : Wd} {w : Nat} (hf : wf (.keep w)) (hW : WdOk W) (hd : deep (.keep w) ≤ n + 1) (q : R (vD W (.keep w)) M) : tvGoal n R M W (.keep w) := by
  unfold tvGoal w_term_value dWd
  have hparts : ∀ p ∈ partsT (.keep w), wf p ∧ deep p ≤ n := fun p hp => ⟨wf_parts (.keep w) p hf hp, by have := deep_parts (.keep w) p hp; omega⟩
  unfold dTm sS; walk_at "xx"
  refine ⟨_, dget_kp W hf.1 hf.2 M, ?_⟩
  exact rt_here q
theorem tv_read {n : Nat} {R : Pst} {M : Mem} {W : Wd} {w : Nat} {a : Tm} (hf : wf (.read w a)) (hW : WdOk W) (hd : deep (.read w a) ≤ n + 1) (q : R (vD W (.read w a)) M) : tvGoal n R M W (.read w a) := by
  unfold tvGoal w_term_value dWd
  have hparts : ∀ p ∈ partsT (.read w a), wf p ∧ deep p ≤ n := fun p hp => ⟨wf_parts (.read w a) p hf hp, by have := deep_parts (.read w a) p hp; omega⟩
  unfold dTm sS; walk_at "xx"; refine ⟨.read w a, rfl, ?_⟩; walk_at "xx"
  refine lc_mapT (ts := partsT (.read w a)) dTm (vD W) rfl (Nat.le_of_ble_eq_true rfl) (fun p hp M' sb K F k => ?_) (fun A hA => lcF_mk hA ?_)
  · walk_at "xx"; exact tv_call (hparts p hp).1 hW (hparts p hp).2 k
  walk_at "xx"
  refine ⟨_, dget_st W hf.1 hf.2.1 M, ?_⟩
  walk_at "xx"
  rw [show (nD' (W.st w)).length = (W.st w).length from List.length_map _]
  refine x_both (fun h => ?_) (fun h => ?_)
  · walk_at "xx"
    refine x_ix_t (d := .int (((W.st w).getD (val W a) 0 : Nat) : Int)) (by omega) ?_ ?_
    · exact nD_get (by omega)
    walk_at "xx"
    exact rt_here q
  · walk_at "xx"
    refine rt_here ?_
    have e : val W (.read w a) = 0 := by
      show (W.st w).getD (val W a) 0 = 0
      rw [List.getD_eq_getElem?_getD, List.getElem?_eq_none (by omega)]; rfl
    unfold vD at q
    rw [e] at q
    exact q
theorem tv_bin {n : Nat} {R : Pst} {M : Mem} {W : Wd} {o : Bop} {a b : Tm} (hf : wf (.bin o a b)) (hW : WdOk W) (hd : deep (.bin o a b) ≤ n + 1) (q : R (vD W (.bin o a b)) M) : tvGoal n R M W (.bin o a b) := by
  unfold tvGoal w_term_value dWd
  have hparts : ∀ p ∈ partsT (.bin o a b), wf p ∧ deep p ≤ n := fun p hp => ⟨wf_parts (.bin o a b) p hf hp, by have := deep_parts (.bin o a b) p hp; omega⟩
  have ha := val_lt hW a hf.1
  have hb := val_lt hW b hf.2.1
  rw [← hf.2.2] at hb
  cases o
  all_goals (unfold dTm sS; walk_at "xx")
  case and =>
    refine ⟨.bin .and a b, rfl, ?_⟩; walk_at "xx"
    refine lc_mapT (ts := partsT (.bin .and a b)) dTm (vD W) rfl (Nat.le_of_ble_eq_true rfl) (fun p hp M' sb K F k => ?_) (fun A hA => lcF_mk hA ?_)
    · walk_at "xx"; exact tv_call (hparts p hp).1 hW (hparts p hp).2 k
    walk_at "xx"
    refine ⟨val W a, val W b, wid a, rfl, rfl, rfl, (wid_ok a hf.1).2, ha, hb, .inr ⟨.and, rfl, rt_here q⟩⟩
  case or =>
    refine ⟨.bin .or a b, rfl, ?_⟩; walk_at "xx"
    refine lc_mapT (ts := partsT (.bin .or a b)) dTm (vD W) rfl (Nat.le_of_ble_eq_true rfl) (fun p hp M' sb K F k => ?_) (fun A hA => lcF_mk hA ?_)
    · walk_at "xx"; exact tv_call (hparts p hp).1 hW (hparts p hp).2 k
    walk_at "xx"
    refine ⟨val W a, val W b, wid a, rfl, rfl, rfl, (wid_ok a hf.1).2, ha, hb, .inr ⟨.or, rfl, rt_here q⟩⟩
  case xor =>
    refine ⟨.bin .xor a b, rfl, ?_⟩; walk_at "xx"
    refine lc_mapT (ts := partsT (.bin .xor a b)) dTm (vD W) rfl (Nat.le_of_ble_eq_true rfl) (fun p hp M' sb K F k => ?_) (fun A hA => lcF_mk hA ?_)
    · walk_at "xx"; exact tv_call (hparts p hp).1 hW (hparts p hp).2 k
    walk_at "xx"
    refine ⟨val W a, val W b, wid a, rfl, rfl, rfl, (wid_ok a hf.1).2, ha, hb, .inr ⟨.xor, rfl, rt_here q⟩⟩
  case add =>
    refine ⟨.bin .add a b, rfl, ?_⟩; walk_at "xx"
    refine lc_mapT (ts := partsT (.bin .add a b)) dTm (vD W) rfl (Nat.le_of_ble_eq_true rfl) (fun p hp M' sb K F k => ?_) (fun A hA => lcF_mk hA ?_)
    · walk_at "xx"; exact tv_call (hparts p hp).1 hW (hparts p hp).2 k
    walk_at "xx"
    refine ⟨val W a, val W b, wid a, rfl, rfl, rfl, (wid_ok a hf.1).2, ha, hb, .inr ⟨.add, rfl, rt_here q⟩⟩
  case sub =>
    refine ⟨.bin .sub a b, rfl, ?_⟩; walk_at "xx"
    refine lc_mapT (ts := partsT (.bin .sub a b)) dTm (vD W) rfl (Nat.le_of_ble_eq_true rfl) (fun p hp M' sb K F k => ?_) (fun A hA => lcF_mk hA ?_)
    · walk_at "xx"; exact tv_call (hparts p hp).1 hW (hparts p hp).2 k
    walk_at "xx"
    refine ⟨val W a, val W b, wid a, rfl, rfl, rfl, (wid_ok a hf.1).2, ha, hb, .inr ⟨.sub, rfl, rt_here q⟩⟩
  case mul =>
    refine ⟨.bin .mul a b, rfl, ?_⟩; walk_at "xx"
    refine lc_mapT (ts := partsT (.bin .mul a b)) dTm (vD W) rfl (Nat.le_of_ble_eq_true rfl) (fun p hp M' sb K F k => ?_) (fun A hA => lcF_mk hA ?_)
    · walk_at "xx"; exact tv_call (hparts p hp).1 hW (hparts p hp).2 k
    walk_at "xx"
    refine ⟨val W a, val W b, wid a, rfl, rfl, rfl, (wid_ok a hf.1).2, ha, hb, .inr ⟨.mul, rfl, rt_here q⟩⟩
theorem tv_cmp {n : Nat} {R : Pst} {M : Mem} {W : Wd} {o : Bool} {a b : Tm} (hf : wf (.cmp o a b)) (hW : WdOk W) (hd : deep (.cmp o a b) ≤ n + 1) (q : R (vD W (.cmp o a b)) M) : tvGoal n R M W (.cmp o a b) := by
  unfold tvGoal w_term_value dWd
  have hparts : ∀ p ∈ partsT (.cmp o a b), wf p ∧ deep p ≤ n := fun p hp => ⟨wf_parts (.cmp o a b) p hf hp, by have := deep_parts (.cmp o a b) p hp; omega⟩
  have ha := val_lt hW a hf.1
  have hb := val_lt hW b hf.2.1
  rw [← hf.2.2] at hb
  cases o
  all_goals (unfold dTm sS; walk_at "xx")
  case true =>
    refine ⟨.cmp true a b, rfl, ?_⟩; walk_at "xx"
    refine lc_mapT (ts := partsT (.cmp true a b)) dTm (vD W) rfl (Nat.le_of_ble_eq_true rfl) (fun p hp M' sb K F k => ?_) (fun A hA => lcF_mk hA ?_)
    · walk_at "xx"; exact tv_call (hparts p hp).1 hW (hparts p hp).2 k
    walk_at "xx"
    refine ⟨val W a, val W b, wid a, rfl, rfl, rfl, (wid_ok a hf.1).2, ha, hb, .inl ⟨true, rfl, rt_here q⟩⟩
  case false =>
    refine ⟨.cmp false a b, rfl, ?_⟩; walk_at "xx"
    refine lc_mapT (ts := partsT (.cmp false a b)) dTm (vD W) rfl (Nat.le_of_ble_eq_true rfl) (fun p hp M' sb K F k => ?_) (fun A hA => lcF_mk hA ?_)
    · walk_at "xx"; exact tv_call (hparts p hp).1 hW (hparts p hp).2 k
    walk_at "xx"
    refine ⟨val W a, val W b, wid a, rfl, rfl, rfl, (wid_ok a hf.1).2, ha, hb, .inl ⟨false, rfl, rt_here q⟩⟩
theorem tv_not {n : Nat} {R : Pst} {M : Mem} {W : Wd} {a : Tm} (hf : wf (.not a)) (hW : WdOk W) (hd : deep (.not a) ≤ n + 1) (q : R (vD W (.not a)) M) : tvGoal n R M W (.not a) := by
  unfold tvGoal w_term_value dWd
  have hparts : ∀ p ∈ partsT (.not a), wf p ∧ deep p ≤ n := fun p hp => ⟨wf_parts (.not a) p hf hp, by have := deep_parts (.not a) p hp; omega⟩
  unfold dTm sS; walk_at "xx"; refine ⟨.not a, rfl, ?_⟩; walk_at "xx"
  refine lc_mapT (ts := partsT (.not a)) dTm (vD W) rfl (Nat.le_of_ble_eq_true rfl) (fun p hp M' sb K F k => ?_) (fun A hA => lcF_mk hA ?_)
  · walk_at "xx"; exact tv_call (hparts p hp).1 hW (hparts p hp).2 k
  walk_at "xx"
  exact ⟨val W a, wid a, rfl, rfl, (wid_ok a hf).2, val_lt hW a hf, .inl ⟨rfl, rt_here q⟩⟩
theorem tv_red {n : Nat} {R : Pst} {M : Mem} {W : Wd} {o : Rop} {a : Tm} (hf : wf (.red o a)) (hW : WdOk W) (hd : deep (.red o a) ≤ n + 1) (q : R (vD W (.red o a)) M) : tvGoal n R M W (.red o a) := by
  unfold tvGoal w_term_value dWd
  have hparts : ∀ p ∈ partsT (.red o a), wf p ∧ deep p ≤ n := fun p hp => ⟨wf_parts (.red o a) p hf hp, by have := deep_parts (.red o a) p hp; omega⟩
  cases o
  all_goals (unfold dTm sS; walk_at "xx")
  case all =>
    refine ⟨.red .all a, rfl, ?_⟩; walk_at "xx"
    refine lc_mapT (ts := partsT (.red .all a)) dTm (vD W) rfl (Nat.le_of_ble_eq_true rfl) (fun p hp M' sb K F k => ?_) (fun A hA => lcF_mk hA ?_)
    · walk_at "xx"; exact tv_call (hparts p hp).1 hW (hparts p hp).2 k
    walk_at "xx"
    exact ⟨val W a, wid a, rfl, rfl, (wid_ok a hf).2, val_lt hW a hf, .inr ⟨.all, rfl, rt_here q⟩⟩
  case any =>
    refine ⟨.red .any a, rfl, ?_⟩; walk_at "xx"
    refine lc_mapT (ts := partsT (.red .any a)) dTm (vD W) rfl (Nat.le_of_ble_eq_true rfl) (fun p hp M' sb K F k => ?_) (fun A hA => lcF_mk hA ?_)
    · walk_at "xx"; exact tv_call (hparts p hp).1 hW (hparts p hp).2 k
    walk_at "xx"
    exact ⟨val W a, wid a, rfl, rfl, (wid_ok a hf).2, val_lt hW a hf, .inr ⟨.any, rfl, rt_here q⟩⟩
  case odd =>
    refine ⟨.red .odd a, rfl, ?_⟩; walk_at "xx"
    refine lc_mapT (ts := partsT (.red .odd a)) dTm (vD W) rfl (Nat.le_of_ble_eq_true rfl) (fun p hp M' sb K F k => ?_) (fun A hA => lcF_mk hA ?_)
    · walk_at "xx"; exact tv_call (hparts p hp).1 hW (hparts p hp).2 k
    walk_at "xx"
    exact ⟨val W a, wid a, rfl, rfl, (wid_ok a hf).2, val_lt hW a hf, .inr ⟨.odd, rfl, rt_here q⟩⟩
theorem tv_pick {n : Nat} {R : Pst} {M : Mem} {W : Wd} {t a b : Tm} (hf : wf (.pick t a b)) (hW : WdOk W) (hd : deep (.pick t a b) ≤ n + 1) (q : R (vD W (.pick t a b)) M) : tvGoal n R M W (.pick t a b) := by
  unfold tvGoal w_term_value dWd
  have hparts : ∀ p ∈ partsT (.pick t a b), wf p ∧ deep p ≤ n := fun p hp => ⟨wf_parts (.pick t a b) p hf hp, by have := deep_parts (.pick t a b) p hp; omega⟩
  unfold dTm sS; walk_at "xx"; refine ⟨.pick t a b, rfl, ?_⟩; walk_at "xx"
  refine lc_mapT (ts := partsT (.pick t a b)) dTm (vD W) rfl (Nat.le_of_ble_eq_true rfl) (fun p hp M' sb K F k => ?_) (fun A hA => lcF_mk hA ?_)
  · walk_at "xx"; exact tv_call (hparts p hp).1 hW (hparts p hp).2 k
  walk_at "xx"
  refine x_bothE (fun h => ?_) (fun h => ?_)
  · walk_at "xx"
    refine rt_here ?_
    have e : val W (.pick t a b) = val W a := if_pos (by omega)
    have q : R (.tup [.int (wid a : Nat), .int (val W (.pick t a b) : Nat)]) M := q
    rw [e] at q
    exact q
  · walk_at "xx"
    refine rt_here ?_
    have e : val W (.pick t a b) = val W b := if_neg (by omega)
    have q : R (.tup [.int (wid a : Nat), .int (val W (.pick t a b) : Nat)]) M := q
    rw [e, hf.2.2.2.2] at q
    exact q
/-! joins -/
def jW : List Tm → Nat
  | [] => 0
  | p :: ps => wid p + jW ps
def jV (W : Wd) (acc : Nat) : List Tm → Nat
  | [] => acc
  | p :: ps => jV W (acc * 2 ^ wid p + val W p) ps
theorem jW_snoc (p : Tm) : ∀ ps, jW (ps ++ [p]) = jW ps + wid p
  | [] => by simp [jW]
  | q :: ps => by simp only [List.cons_append, jW, jW_snoc p ps]; omega
theorem jV_snoc (W : Wd) (p : Tm) : ∀ ps acc, jV W acc (ps ++ [p]) = jV W acc ps * 2 ^ wid p + val W p
  | [], acc => rfl
  | q :: ps, acc => jV_snoc W p ps _
theorem jV_lt {W : Wd} (hW : WdOk W) : ∀ (ps : List Tm) (acc k : Nat), (∀ p ∈ ps, wf p) → acc < 2 ^ k → jV W acc ps < 2 ^ (k + jW ps)
  | [], acc, k, _, h => h
  | p :: ps, acc, k, hp, h => by
    have := jV_lt hW ps _ (k + wid p) (fun q hq => hp q (List.mem_cons_of_mem _ hq)) (join_lt h (val_lt hW p (hp p List.mem_cons_self)))
    rw [Nat.add_assoc] at this
    exact this
theorem tv_loop {DD : DEnds} {M : Mem} {W : Wd} {ps : List Tm} {x0 x1 x2 : D} {o7 : Option D} (hp : ∀ p ∈ ps, wf p) (hW : WdOk W) (hw : jW ps ≤ 8)
    (q : ∀ o7, DD.nx [some x0, some x1, some x2, some (.lst (ps.map (vD W))), some (.int (jW ps : Nat)), none, some (.int (jV W 0 ps : Nat)), o7] M) :
    forGo (dgName 7) (dPar 6 4 (dCons (dOp oOr (dOp oShl (dVar 6) (dOp oIx (dVar 7) (dC (.int 0)))) (dOp oIx (dVar 7) (dC (.int 1)))) (dCons (dOp oAdd (dVar 4) (dOp oIx (dVar 7) (dC (.int 0)))) dNil)))
      (fun _ => True) DD (ps.map (vD W)) [some x0, some x1, some x2, some (.lst (ps.map (vD W))), some (.int 0), none, some (.int 0), o7] M := by
  refine for_inv (fun i Γ' M' => ∃ o7, Γ' = [some x0, some x1, some x2, some (.lst (ps.map (vD W))), some (.int (jW (ps.take i) : Nat)), none, some (.int (jV W 0 (ps.take i) : Nat)), o7] ∧ M' = M) ⟨_, rfl, rfl⟩ (fun _ _ _ _ => trivial) (fun i d Γ' M' N hd hI hN => ?_) (fun Γ' M' hI => ?_)
  · obtain ⟨o, rfl, rfl⟩ := hI
    rw [List.getElem?_map] at hd
    obtain ⟨p, hpi, rfl⟩ := Option.map_eq_some_iff.mp hd
    obtain ⟨hi, e⟩ := List.getElem?_eq_some_iff.mp hpi
    have et : ps.take (i + 1) = ps.take i ++ [p] := by rw [List.take_succ, hpi]; rfl
    have hpw := hp p (by rw [← e]; exact List.getElem_mem hi)
    have hv := val_lt hW p hpw
    have hjl := jV_lt hW (ps.take i) 0 0 (fun p h => hp p (List.mem_of_mem_take h)) (by decide)
    have hjw : jW (ps.take (i + 1)) ≤ 8 := by
      have : ∀ (ps : List Tm) k, jW (ps.take k) ≤ jW ps := by
        intro ps
        induction ps with
        | nil => intro k; simp [jW]
        | cons p ps ih =>
          intro k
          cases k with
          | zero => exact Nat.zero_le _
          | succ k => have := ih k; simp only [List.take_succ_cons, jW]; omega
      have := this ps (i + 1)
      omega
    have hsn := jW_snoc p (ps.take i)
    rw [← et] at hsn
    have h256 : (2 : Nat) ^ (0 + jW (ps.take i)) ≤ 2 ^ 8 := Nat.pow_le_pow_right (by decide) (by omega)
    walk_at "xx"
    refine x_shl ⟨by omega, by omega, by omega⟩ ?_
    walk_at "xx"
    have e1 : Builtin.bitOr (((jV W 0 (ps.take i) : Nat) : Int) * 2 ^ ((wid p : Nat) : Int).toNat) ((val W p : Nat) : Int) = ((jV W 0 (ps.take (i + 1)) : Nat) : Int) := by
      have ez : ((jV W 0 (ps.take i) : Nat) : Int) * 2 ^ ((wid p : Nat) : Int).toNat = ((2 ^ wid p * jV W 0 (ps.take i) : Nat) : Int) := by
        rw [Nat.mul_comm, Int.natCast_mul, Int.natCast_pow]; rfl
      rw [ez, Bits.bitOr_pp (Int.natCast_nonneg _) (Int.natCast_nonneg _), et, jV_snoc, Nat.mul_comm (jV _ _ _)]
      rw [Nat.two_pow_add_eq_or_of_lt hv]
      rfl
    rw [e1, show ((jW (ps.take i) : Nat) : Int) + ((wid p : Nat) : Int) = ((jW (ps.take (i + 1)) : Nat) : Int) by omega]
    exact hN _ _ ⟨_, rfl, rfl⟩
  · obtain ⟨o, rfl, rfl⟩ := hI
    rw [List.length_map, List.take_length]
    exact q o
theorem tv_join2 {n : Nat} {R : Pst} {M : Mem} {W : Wd} {a b : Tm} (hf : wf (.join2 a b)) (hW : WdOk W) (hd : deep (.join2 a b) ≤ n + 1) (q : R (vD W (.join2 a b)) M) : tvGoal n R M W (.join2 a b) := by
  unfold tvGoal w_term_value dWd
  have hparts : ∀ p ∈ partsT (.join2 a b), wf p ∧ deep p ≤ n := fun p hp => ⟨wf_parts (.join2 a b) p hf hp, by have := deep_parts (.join2 a b) p hp; omega⟩
  unfold dTm sS; walk_at "xx"; refine ⟨.join2 a b, rfl, ?_⟩; walk_at "xx"
  refine lc_mapT (ts := partsT (.join2 a b)) dTm (vD W) rfl (Nat.le_of_ble_eq_true rfl) (fun p hp M' sb K F k => ?_) (fun A hA => lcF_mk hA ?_)
  · walk_at "xx"; exact tv_call (hparts p hp).1 hW (hparts p hp).2 k
  walk_at "xx"
  refine tv_loop (ps := partsT (.join2 a b)) (fun p hp => (hparts p hp).1) hW (by have := hf.2.2; show wid a + (wid b + 0) ≤ 8; omega) (fun o7 => ?_)
  walk_at "xx"
  have e : jW (partsT (.join2 a b)) = wid (.join2 a b) := by show wid a + (wid b + 0) = wid a + wid b; omega
  have e2 : jV W 0 (partsT (.join2 a b)) = val W (.join2 a b) := by show (0 * 2 ^ wid a + val W a) * 2 ^ wid b + val W b = val W a * 2 ^ wid b + val W b; rw [Nat.zero_mul, Nat.zero_add]
  rw [e, e2]; exact rt_here q
theorem tv_join3 {n : Nat} {R : Pst} {M : Mem} {W : Wd} {a b c : Tm} (hf : wf (.join3 a b c)) (hW : WdOk W) (hd : deep (.join3 a b c) ≤ n + 1) (q : R (vD W (.join3 a b c)) M) : tvGoal n R M W (.join3 a b c) := by
  unfold tvGoal w_term_value dWd
  have hparts : ∀ p ∈ partsT (.join3 a b c), wf p ∧ deep p ≤ n := fun p hp => ⟨wf_parts (.join3 a b c) p hf hp, by have := deep_parts (.join3 a b c) p hp; omega⟩
  unfold dTm sS; walk_at "xx"; refine ⟨.join3 a b c, rfl, ?_⟩; walk_at "xx"
  refine lc_mapT (ts := partsT (.join3 a b c)) dTm (vD W) rfl (Nat.le_of_ble_eq_true rfl) (fun p hp M' sb K F k => ?_) (fun A hA => lcF_mk hA ?_)
  · walk_at "xx"; exact tv_call (hparts p hp).1 hW (hparts p hp).2 k
  walk_at "xx"
  refine tv_loop (ps := partsT (.join3 a b c)) (fun p hp => (hparts p hp).1) hW (by have := hf.2.2.2; show wid a + (wid b + (wid c + 0)) ≤ 8; omega) (fun o7 => ?_)
  walk_at "xx"
  have e : jW (partsT (.join3 a b c)) = wid (.join3 a b c) := by show wid a + (wid b + (wid c + 0)) = wid a + wid b + wid c; omega
  have e2 : jV W 0 (partsT (.join3 a b c)) = val W (.join3 a b c) := by
    show ((0 * 2 ^ wid a + val W a) * 2 ^ wid b + val W b) * 2 ^ wid c + val W c = (val W a * 2 ^ wid b + val W b) * 2 ^ wid c + val W c
    rw [Nat.zero_mul, Nat.zero_add]
  rw [e, e2]; exact rt_here q
theorem tv_join4 {n : Nat} {R : Pst} {M : Mem} {W : Wd} {a b c d : Tm} (hf : wf (.join4 a b c d)) (hW : WdOk W) (hd : deep (.join4 a b c d) ≤ n + 1) (q : R (vD W (.join4 a b c d)) M) : tvGoal n R M W (.join4 a b c d) := by
  unfold tvGoal w_term_value dWd
  have hparts : ∀ p ∈ partsT (.join4 a b c d), wf p ∧ deep p ≤ n := fun p hp => ⟨wf_parts (.join4 a b c d) p hf hp, by have := deep_parts (.join4 a b c d) p hp; omega⟩
  unfold dTm sS; walk_at "xx"; refine ⟨.join4 a b c d, rfl, ?_⟩; walk_at "xx"
  refine lc_mapT (ts := partsT (.join4 a b c d)) dTm (vD W) rfl (Nat.le_of_ble_eq_true rfl) (fun p hp M' sb K F k => ?_) (fun A hA => lcF_mk hA ?_)
  · walk_at "xx"; exact tv_call (hparts p hp).1 hW (hparts p hp).2 k
  walk_at "xx"
  refine tv_loop (ps := partsT (.join4 a b c d)) (fun p hp => (hparts p hp).1) hW (by have := hf.2.2.2.2; show wid a + (wid b + (wid c + (wid d + 0))) ≤ 8; omega) (fun o7 => ?_)
  walk_at "xx"
  have e : jW (partsT (.join4 a b c d)) = wid (.join4 a b c d) := by show wid a + (wid b + (wid c + (wid d + 0))) = wid a + wid b + wid c + wid d; omega
  have e2 : jV W 0 (partsT (.join4 a b c d)) = val W (.join4 a b c d) := by
    show (((0 * 2 ^ wid a + val W a) * 2 ^ wid b + val W b) * 2 ^ wid c + val W c) * 2 ^ wid d + val W d = ((val W a * 2 ^ wid b + val W b) * 2 ^ wid c + val W c) * 2 ^ wid d + val W d
    rw [Nat.zero_mul, Nat.zero_add]
  rw [e, e2]; exact rt_here q
theorem tv_part {n : Nat} {R : Pst} {M : Mem} {W : Wd} {a : Tm} {hi lo : Nat} (hf : wf (.part a hi lo)) (hW : WdOk W) (hd : deep (.part a hi lo) ≤ n + 1) (q : R (vD W (.part a hi lo)) M) : tvGoal n R M W (.part a hi lo) := by
  unfold tvGoal w_term_value dWd
  have hparts : ∀ p ∈ partsT (.part a hi lo), wf p ∧ deep p ≤ n := fun p hp => ⟨wf_parts (.part a hi lo) p hf hp, by have := deep_parts (.part a hi lo) p hp; omega⟩
  have h1 := wid_ok a hf.1
  have h2 := hf.2.1
  have h3 := hf.2.2
  unfold dTm sS; walk_at "xx"; refine ⟨.part a hi lo, rfl, ?_⟩; walk_at "xx"
  refine lc_mapT (ts := partsT (.part a hi lo)) dTm (vD W) rfl (Nat.le_of_ble_eq_true rfl) (fun p hp M' sb K F k => ?_) (fun A hA => lcF_mk hA ?_)
  · walk_at "xx"; exact tv_call (hparts p hp).1 hW (hparts p hp).2 k
  walk_at "xx"
  refine ⟨hi - lo + 1, by omega, by omega, ?_⟩
  have e : ((val W a : Nat) : Int) / 2 ^ (lo : Int).toNat % ((2 ^ (hi - lo + 1) : Nat) : Int) = ((val W (.part a hi lo) : Nat) : Int) := by
    show _ = ((val W a / 2 ^ lo % 2 ^ (hi - lo + 1) : Nat) : Int)
    rw [Int.natCast_emod, Int.natCast_ediv, Int.natCast_pow]; rfl
  rw [e, show ((hi : Int) - (lo : Int) + 1) = ((hi - lo + 1 : Nat) : Int) by omega]
  walk_at "xx"
  exact rt_here q
theorem rd_term_value : ∀ n ds M R, sp_term_value (n + 1) ds M R X0 → w_term_value n (retTo R X0) (startG N_term_value ds) M := fun n ds M R h => by
  match ds, h with
  | [t, w], h =>
    obtain ⟨T, W, rfl, rfl, hf, hW, hd, q⟩ := h
    show tvGoal n R M W T
    cases T with
    | const => exact tv_const hf hW hd q
    | token => exact tv_token hf hW hd q
    | keep => exact tv_keep hf hW hd q
    | read => exact tv_read hf hW hd q
    | bin => exact tv_bin hf hW hd q
    | cmp => exact tv_cmp hf hW hd q
    | not => exact tv_not hf hW hd q
    | red => exact tv_red hf hW hd q
    | pick => exact tv_pick hf hW hd q
    | join2 => exact tv_join2 hf hW hd q
    | join3 => exact tv_join3 hf hW hd q
    | join4 => exact tv_join4 hf hW hd q
    | part => exact tv_part hf hW hd q
end Law
namespace Law
open PySem PySem.Spec PyProof.Rows L2 DL
local macro_rules | `(tactic| walk_at "x1") => `(tactic| first
  | with_reducible refine x_seq ?_ | with_reducible refine x_set ?_ | with_reducible refine x_ret ?_ | with_reducible refine x_ifS ?_ | with_reducible refine x_next ?_ | with_reducible refine x_asg ?_ | with_reducible refine x_drop ?_ | with_reducible refine x_for ?_ | with_reducible refine x_par ?_ | with_reducible refine ⟨_, _, rfl, ?_⟩
  | with_reducible refine x_op ?_ | ((with_reducible refine x_var (d := ?d) ?hx ?_); case hx => exact rfl) | with_reducible refine x_c ?_ | with_reducible refine x_B ?_ | with_reducible refine ⟨_, rfl, ?_⟩ | with_reducible refine x_call ?_ | with_reducible refine x_cons ?_ | with_reducible refine x_nil ?_ | with_reducible refine x_fn ?_
  | with_reducible refine x_if ?_ | with_reducible refine x_and ?_ | with_reducible refine x_or ?_ | with_reducible refine x_not ?_ | with_reducible refine x_andV ?_ | with_reducible refine x_orV ?_ | with_reducible refine x_notV ?_ | with_reducible refine x_chain ?_ | with_reducible refine x_un ?_
  | with_reducible refine x_tup ?_ | with_reducible refine x_lst ?_ | with_reducible refine x_lstM ?_ | with_reducible refine x_sz (Nat.le_of_ble_eq_true rfl) ?_ | with_reducible refine x_sl ?_ | with_reducible refine x_noP ?_ | with_reducible refine x_pt ?_
  | with_reducible refine x_range1 ?_ | with_reducible refine x_iter ?_ | with_reducible refine x_go_tup ?_ | with_reducible refine x_go_lst ?_ | with_reducible refine x_lc ?_ | with_reducible refine x_lcM ?_ | with_reducible refine x_lc2 ?_ | with_reducible refine x_yes ?_ | with_reducible refine x_gName ?_ | with_reducible refine x_gSub ?_
  | ((with_reducible refine x_gTup ?hx ?_); case hx => exact rfl) | ((with_reducible refine x_gTupL ?hx ?_); case hx => exact rfl) | with_reducible refine x_gCons ?_ | with_reducible refine x_gNil ?_ | with_reducible refine x_retN ?_ | with_reducible refine x_brk ?_ | with_reducible refine x_cont ?_
  | with_reducible refine x_add_i ?_ | with_reducible refine x_sub ?_ | with_reducible refine x_band ?_ | with_reducible refine x_bor ?_ | with_reducible refine x_bxor ?_ | with_reducible refine x_neg ?_ | with_reducible refine x_lt ?_ | with_reducible refine x_le ?_ | with_reducible refine x_gt ?_ | with_reducible refine x_ge ?_ | with_reducible refine x_eqI ?_ | with_reducible refine x_neI ?_
  | with_reducible refine x_isN ?_ | with_reducible refine x_isnotN ?_ | with_reducible refine x_isB ?_ | with_reducible refine x_isnotB ?_ | with_reducible refine x_int ?_ | with_reducible refine x_intB ?_ | with_reducible refine x_abs ?_ | with_reducible refine x_len_t ?_ | with_reducible refine x_len_l ?_ | with_reducible refine x_tuple_t ?_ | with_reducible refine x_tuple_l ?_ | with_reducible refine x_list_t ?_ | with_reducible refine x_list_l ?_ | with_reducible refine x_list_s ?_
  | with_reducible refine x_sl_t ?_ | with_reducible refine x_sl_l ?_ | with_reducible refine x_iadd_i ?_ | with_reducible refine x_isi ?_ | with_reducible refine x_din ?_ | with_reducible refine x_dnotin ?_ | with_reducible refine x_dgetE ?_ | with_reducible refine x_dput ?_ | with_reducible refine x_append ?_
  | with_reducible refine x_leX ?_ | with_reducible refine x_leS ?_ | with_reducible refine x_fld ?_ | with_reducible refine x_setF ?_ | with_reducible refine x_meth ?_ | with_reducible refine x_new ?_ | with_reducible refine x_isiC ?_ | with_reducible refine x_dget2 ?_ | with_reducible refine x_pop ?_ | with_reducible refine x_par3 ?_ | with_reducible refine x_iterS ?_
  | with_reducible refine x_T ?_ | with_reducible refine x_F ?_ | with_reducible refine x_nT ?_ | with_reducible refine x_nF ?_)
local macro_rules | `(tactic| walk_at "x2") => `(tactic| first
  | with_reducible refine x_bd (by omega) ?_ | with_reducible refine x_mod (by omega) ?_ | with_reducible refine x_div (by omega) ?_ | with_reducible refine x_shr (by omega) ?_ | with_reducible refine x_mul' (by omega) ?_ | with_reducible refine x_pow (by decide) ?_
  | ((with_reducible refine x_aug (x := ?d) ?hx ?_); case hx => exact rfl)
  | ((with_reducible refine x_ix_t (d := ?d) ?h0 ?hx ?_); (case h0 => omega); case hx => walk_at "at")
  | ((with_reducible refine x_ix_l (d := ?d) ?h0 ?hx ?_); (case h0 => omega); case hx => walk_at "at")
  | ((with_reducible refine x_ix_loc (ds := ?ds) (d := ?d) ?hm ?h0 ?hx ?_); (case hm => walk_at "m"); (case h0 => omega); case hx => walk_at "at")
  | ((with_reducible refine x_len_loc (ds := ?ds) ?hm ?_); case hm => walk_at "m") | ((with_reducible refine x_tuple_loc (ds := ?ds) ?hm ?_); case hm => walk_at "m") | ((with_reducible refine x_sl_loc (xs := ?ds) ?hm ?_); case hm => walk_at "m")
  | ((with_reducible refine ⟨_, ?ds, rfl, ?hm, ?_⟩); case hm => walk_at "m")
  | ((with_reducible refine ⟨_, ?ds, _, ?j, rfl, rfl, ?hm, ?hj, ?_⟩); (case hm => walk_at "m"); (case hj => walk_at "j")))
local macro_rules | `(tactic| walk_at "j") => `(tactic| exact rfl)
local macro_rules | `(tactic| walk_at "at") => `(tactic| first | exact rfl | assumption)
local macro_rules | `(tactic| walk_at "lt") => `(tactic| first | decide | omega | (simp; omega))
local macro_rules | `(tactic| walk_at "m") => `(tactic| first | exact mup_same | assumption)
local macro_rules | `(tactic| walk_at "x3") => `(tactic| first
  | ((with_reducible refine x_fldO (x := ?d) ?hC ?hl ?_); (case hl => exact rfl); case hC => decide) | with_reducible refine x_eqST (by decide +kernel) ?_ | with_reducible refine x_eqSF (by decide +kernel) ?_ | with_reducible refine x_inT rfl rfl (by decide +kernel) (by decide +kernel) ?_ | with_reducible refine x_inN rfl rfl (by decide +kernel) (by decide +kernel) ?_
  | with_reducible refine x_ty (b := true) rfl (by decide +kernel) ?_ | with_reducible refine x_ty (b := false) rfl (by decide +kernel) ?_ | with_reducible refine x_nYes (by walk_at "dec") ?_ | with_reducible refine x_nNo (by walk_at "dec") ?_ | with_reducible refine x_yesD (by walk_at "dec") ?_ | with_reducible refine x_noD (by walk_at "dec") ?_ | with_reducible refine x_yesE (by walk_at "dec") ?_ | with_reducible refine x_noE (by walk_at "dec") ?_ | with_reducible refine x_yesN (by walk_at "dec") ?_ | with_reducible refine x_noN (by walk_at "dec") ?_)
local macro_rules | `(tactic| walk_at "dec") => `(tactic| first | omega | (simp only [List.length_cons, List.length_nil, List.length_map, List.length_append, nD_len, List.length_range]; omega))
local macro_rules | `(tactic| walk_at "x") => `(tactic| repeat (first | walk_at "x1" | walk_at "x2"))
local macro_rules | `(tactic| walk_at "xx") => `(tactic| repeat (first | walk_at "x1" | walk_at "x2" | walk_at "x3"))

theorem look_tok (W : Wd) {w : Nat} (h1 : 1 ≤ w) (h2 : w ≤ 8) : look ((ws8.map (keyB "b")).zip (ws8.map fun (w : Nat) => D.tup [.int (w : Int), .tup (nD' [W.tok w 0, W.tok w 1])])) (Sum.inr (Str.ofString "b" ++ sN w)) = some (.tup [.int (w : Int), .tup (nD' [W.tok w 0, W.tok w 1])]) :=
  look_ws (p := "b") (fun (w : Nat) => D.tup [.int (w : Int), .tup (nD' [W.tok w 0, W.tok w 1])]) (by simp) h1 h2
theorem look_kp (W : Wd) {w : Nat} (h1 : 1 ≤ w) (h2 : w ≤ 8) : look ((ws8.map (keyB "k")).zip (ws8.map fun (w : Nat) => D.tup [.int (w : Int), .int (W.kp w)])) (Sum.inr (Str.ofString "k" ++ sN w)) = some (.tup [.int (w : Int), .int (W.kp w)]) :=
  look_ws (p := "k") (fun (w : Nat) => D.tup [.int (w : Int), .int (W.kp w)]) (by simp) h1 h2
theorem look_st (W : Wd) {w : Nat} (h1 : 1 ≤ w) (h2 : w ≤ 8) : look ((ws8.map (keyB "s")).zip (ws8.map fun (w : Nat) => D.tup [.int (w : Int), .tup (nD' (W.st w))])) (Sum.inr (Str.ofString "s" ++ sN w)) = some (.tup [.int (w : Int), .tup (nD' (W.st w))]) :=
  look_ws (p := "s") (fun (w : Nat) => D.tup [.int (w : Int), .tup (nD' (W.st w))]) (by simp) h1 h2
def isLeaf : Tm → Bool
  | .const _ _ => true
  | .token _ _ => true
  | .keep _ => true
  | .read _ _ => true
  | _ => false
def sp_leaf_width : DSp
  | [t, w], M, R, _ => ∃ (T : Tm) (W : Wd), t = dTm T ∧ w = dWd W ∧ wf T ∧ isLeaf T = true ∧ R (.int (wid T : Nat)) M
  | _, _, _, _ => False
abbrev N_leaf_width : List Str := ["term", "world", "width", "words"]
def w_leaf_width : DS := (dSeq (dIfS (dB (dOp oEq (dOp oIx (dVar 0) (dC (.int 0))) (dC (.str "const")))) (dRet (dOp oIx (dVar 0) (dC (.int 1)))) dNext)
    (dSeq (dIfS (dB (dOp oEq (dOp oIx (dVar 0) (dC (.int 0))) (dC (.str "token")))) (dSeq (dAsg (dDGet2 (dFld ["World"] "tokens" (dVar 1)) (dOp oIx (dVar 0) (dC (.int 1))) (dTup (dCons (dC .non) (dCons (dTup dNil) dNil)))) (dgTup 2 (dgCons (dgName 2) (dgCons (dgName 3) dgNil))))
    (dRet (dIf (dB (dOp oLt (dOp oIx (dVar 0) (dC (.int 2))) (dCall oLen (dCons (dVar 3) dNil)))) (dVar 2) (dC .non)))) dNext)
    (dRet (dOp oIx (dDGet2 (dIf (dB (dOp oEq (dOp oIx (dVar 0) (dC (.int 0))) (dC (.str "keep")))) (dFld ["World"] "keeps" (dVar 1)) (dFld ["World"] "stores" (dVar 1))) (dOp oIx (dVar 0) (dC (.int 1))) (dTup (dCons (dC .non) (dCons (dC (.int 0)) dNil)))) (dC (.int 0))))))
theorem rd_leaf_width : ∀ ds M R, sp_leaf_width ds M R X0 → w_leaf_width (retTo R X0) (startG N_leaf_width ds) M := fun ds M R h => by
  match ds, h with
  | [t, w], h =>
    obtain ⟨T, W, rfl, rfl, hf, hl, q⟩ := h
    show w_leaf_width (retTo R X0) [some (dTm T), some (dWd W), none, none] M
    unfold w_leaf_width dWd
    cases T <;> first | (cases hl; done) | skip
    case const w v =>
      unfold dTm sS; walk_at "xx"
      exact rt_here q
    case token w i =>
      unfold dTm sS; walk_at "xx"
      refine ⟨rfl, ?_⟩
      walk_at "xx"
      rw [look_tok W hf.1 hf.2.1]
      show dgTup _ _ (.tup [_, _]) _ _ _
      have h2 := hf.2.2
      walk_at "xx"
      rw [show (nD' [W.tok w 0, W.tok w 1]).length = 2 from rfl]
      walk_at "xx"
      exact rt_here q
    case keep w =>
      unfold dTm sS; walk_at "xx"
      refine ⟨rfl, ?_⟩
      walk_at "xx"
      rw [look_kp W hf.1 hf.2]
      show oIx (.tup [_, _]) _ _ _
      walk_at "xx"
      exact rt_here q
    case read w a =>
      unfold dTm sS; walk_at "xx"
      refine ⟨rfl, ?_⟩
      walk_at "xx"
      rw [look_st W hf.1 hf.2.1]
      show oIx (.tup [_, _]) _ _ _
      walk_at "xx"
      exact rt_here q
abbrev wD (p : Tm) : D := .int ((wid p : Nat) : Int)
def sp_width_made : DSp
  | [t, .lst ws, w], M, R, _ => ∃ (T : Tm) (W : Wd), t = dTm T ∧ ws = (partsT T).map wD ∧ w = dWd W ∧ wf T ∧ R (.int (wid T : Nat)) M
  | _, _, _, _ => False
abbrev N_width_made : List Str := ["term", "told", "world", "kind"]
def w_width_made : DS := (dSeq (dSet 3 (dOp oIx (dVar 0) (dC (.int 0))))
    (dSeq (dIfS (dB (dOp (oInF false) (dVar 3) (dTup (dCons (dC (.str "const")) (dCons (dC (.str "token")) (dCons (dC (.str "keep")) (dCons (dC (.str "read")) dNil))))))) (dRet (dFn sp_leaf_width [] (dCons (dVar 0) (dCons (dVar 2) dNil)))) dNext)
    (dSeq (dIfS (dB (dOp oEq (dVar 3) (dC (.str "not")))) (dRet (dOp oIx (dVar 1) (dC (.int 0)))) dNext)
    (dSeq (dIfS (dB (dOp (oInF false) (dVar 3) (dC (.kt (v_ONES.map D.str))))) (dRet (dC (.int 1))) dNext)
    (dSeq (dIfS (dB (dOp (oInF false) (dVar 3) (dTup (dCons (dC (.str "eq")) (dCons (dC (.str "less")) dNil))))) (dRet (dIf (dB (dOp oEq (dOp oIx (dVar 1) (dC (.int 0))) (dOp oIx (dVar 1) (dC (.int 1))))) (dC (.int 1)) (dC .non))) dNext)
    (dSeq (dIfS (dB (dOp oEq (dVar 3) (dC (.str "pick")))) (dRet (dIf (dAnd (dB (dOp oEq (dOp oIx (dVar 1) (dC (.int 0))) (dC (.int 1)))) (dB (dOp oEq (dOp oIx (dVar 1) (dC (.int 1))) (dOp oIx (dVar 1) (dC (.int 2)))))) (dOp oIx (dVar 1) (dC (.int 1))) (dC .non))) dNext)
    (dSeq (dIfS (dB (dOp oEq (dVar 3) (dC (.str "part")))) (dRet (dIf (dB (dOp oLt (dOp oIx (dVar 0) (dC (.int 2))) (dOp oIx (dVar 1) (dC (.int 0))))) (dOp oAdd (dOp oSub (dOp oIx (dVar 0) (dC (.int 2))) (dOp oIx (dVar 0) (dC (.int 3)))) (dC (.int 1))) (dC .non))) dNext)
    (dSeq (dIfS (dB (dOp oEq (dVar 3) (dC (.str "join")))) (dRet (dIf (dB (dFn sp_is_width [] (dCons (dCall oSum (dCons (dVar 1) dNil)) dNil))) (dCall oSum (dCons (dVar 1) dNil)) (dC .non))) dNext)
    (dRet (dIf (dB (dOp oEq (dOp oIx (dVar 1) (dC (.int 0))) (dOp oIx (dVar 1) (dC (.int 1))))) (dOp oIx (dVar 1) (dC (.int 0))) (dC .non)))))))))))
abbrev wmGoal (R : Pst) (M : Mem) (W : Wd) (T : Tm) : Prop := w_width_made (retTo R X0) [some (dTm T), some (.lst ((partsT T).map wD)), some (dWd W), none] M
theorem wm_const {R : Pst} {M : Mem} {W : Wd} {w v : Nat} (hf : wf (.const w v)) (q : R (.int (wid (.const w v) : Nat)) M) : wmGoal R M W (.const w v) := by
  unfold wmGoal w_width_made
  unfold dTm sS; walk_at "xx"
  exact ⟨(.const w v), W, rfl, rfl, hf, rfl, rt_here q⟩
theorem wm_token {R : Pst} {M : Mem} {W : Wd} {w i : Nat} (hf : wf (.token w i)) (q : R (.int (wid (.token w i) : Nat)) M) : wmGoal R M W (.token w i) := by
  unfold wmGoal w_width_made
  unfold dTm sS; walk_at "xx"
  exact ⟨(.token w i), W, rfl, rfl, hf, rfl, rt_here q⟩
theorem wm_keep {R : Pst} {M : Mem} {W : Wd} {w : Nat} (hf : wf (.keep w)) (q : R (.int (wid (.keep w) : Nat)) M) : wmGoal R M W (.keep w) := by
  unfold wmGoal w_width_made
  unfold dTm sS; walk_at "xx"
  exact ⟨(.keep w), W, rfl, rfl, hf, rfl, rt_here q⟩
theorem wm_read {R : Pst} {M : Mem} {W : Wd} {w : Nat} {a : Tm} (hf : wf (.read w a)) (q : R (.int (wid (.read w a) : Nat)) M) : wmGoal R M W (.read w a) := by
  unfold wmGoal w_width_made
  unfold dTm sS; walk_at "xx"
  exact ⟨(.read w a), W, rfl, rfl, hf, rfl, rt_here q⟩
theorem wm_bin {R : Pst} {M : Mem} {W : Wd} {o : Bop} {a b : Tm} (hf : wf (.bin o a b)) (q : R (.int (wid (.bin o a b) : Nat)) M) : wmGoal R M W (.bin o a b) := by
  unfold wmGoal w_width_made
  have h := hf.2.2
  cases o
  case and =>
    unfold dTm sS; walk_at "xx"
    exact rt_here q
  case or =>
    unfold dTm sS; walk_at "xx"
    exact rt_here q
  case xor =>
    unfold dTm sS; walk_at "xx"
    exact rt_here q
  case add =>
    unfold dTm sS; walk_at "xx"
    exact rt_here q
  case sub =>
    unfold dTm sS; walk_at "xx"
    exact rt_here q
  case mul =>
    unfold dTm sS; walk_at "xx"
    exact rt_here q
theorem wm_cmp {R : Pst} {M : Mem} {W : Wd} {o : Bool} {a b : Tm} (hf : wf (.cmp o a b)) (q : R (.int (wid (.cmp o a b) : Nat)) M) : wmGoal R M W (.cmp o a b) := by
  unfold wmGoal w_width_made
  have h := hf.2.2
  cases o
  case true =>
    unfold dTm sS; walk_at "xx"
    exact rt_here q
  case false =>
    unfold dTm sS; walk_at "xx"
    exact rt_here q
theorem wm_not {R : Pst} {M : Mem} {W : Wd} {a : Tm} (hf : wf (.not a)) (q : R (.int (wid (.not a) : Nat)) M) : wmGoal R M W (.not a) := by
  unfold wmGoal w_width_made
  unfold dTm sS; walk_at "xx"
  exact rt_here q
theorem wm_red {R : Pst} {M : Mem} {W : Wd} {o : Rop} {a : Tm} (hf : wf (.red o a)) (q : R (.int (wid (.red o a) : Nat)) M) : wmGoal R M W (.red o a) := by
  unfold wmGoal w_width_made
  cases o
  case all =>
    unfold dTm sS; walk_at "xx"
    exact rt_here q
  case any =>
    unfold dTm sS; walk_at "xx"
    exact rt_here q
  case odd =>
    unfold dTm sS; walk_at "xx"
    exact rt_here q
theorem wm_pick {R : Pst} {M : Mem} {W : Wd} {t a b : Tm} (hf : wf (.pick t a b)) (q : R (.int (wid (.pick t a b) : Nat)) M) : wmGoal R M W (.pick t a b) := by
  unfold wmGoal w_width_made
  have h1 := hf.2.1
  have h2 := hf.2.2.2.2
  unfold dTm sS; walk_at "xx"
  exact rt_here q
theorem wm_join2 {R : Pst} {M : Mem} {W : Wd} {a b : Tm} (hf : wf (.join2 a b)) (q : R (.int (wid (.join2 a b) : Nat)) M) : wmGoal R M W (.join2 a b) := by
  unfold wmGoal w_width_made
  have h1 := wid_ok _ hf
  unfold dTm sS; walk_at "xx"
  refine ⟨[(wid a : Nat), (wid b : Nat)], rfl, ?_⟩
  have e : ([((wid a : Nat) : Int), ((wid b : Nat) : Int)] : List Int).sum = ((wid (.join2 a b) : Nat) : Int) := by
    show _ = ((wid a + wid b : Nat) : Int)
    simp; try omega
  rw [e]
  walk_at "xx"
  refine ⟨by omega, by omega, ?_⟩
  walk_at "xx"
  refine ⟨[(wid a : Nat), (wid b : Nat)], rfl, ?_⟩
  rw [e]
  exact rt_here q
theorem wm_join3 {R : Pst} {M : Mem} {W : Wd} {a b c : Tm} (hf : wf (.join3 a b c)) (q : R (.int (wid (.join3 a b c) : Nat)) M) : wmGoal R M W (.join3 a b c) := by
  unfold wmGoal w_width_made
  have h1 := wid_ok _ hf
  unfold dTm sS; walk_at "xx"
  refine ⟨[(wid a : Nat), (wid b : Nat), (wid c : Nat)], rfl, ?_⟩
  have e : ([((wid a : Nat) : Int), ((wid b : Nat) : Int), ((wid c : Nat) : Int)] : List Int).sum = ((wid (.join3 a b c) : Nat) : Int) := by
    show _ = ((wid a + wid b + wid c : Nat) : Int)
    simp; try omega
  rw [e]
  walk_at "xx"
  refine ⟨by omega, by omega, ?_⟩
  walk_at "xx"
  refine ⟨[(wid a : Nat), (wid b : Nat), (wid c : Nat)], rfl, ?_⟩
  rw [e]
  exact rt_here q
theorem wm_join4 {R : Pst} {M : Mem} {W : Wd} {a b c d : Tm} (hf : wf (.join4 a b c d)) (q : R (.int (wid (.join4 a b c d) : Nat)) M) : wmGoal R M W (.join4 a b c d) := by
  unfold wmGoal w_width_made
  have h1 := wid_ok _ hf
  unfold dTm sS; walk_at "xx"
  refine ⟨[(wid a : Nat), (wid b : Nat), (wid c : Nat), (wid d : Nat)], rfl, ?_⟩
  have e : ([((wid a : Nat) : Int), ((wid b : Nat) : Int), ((wid c : Nat) : Int), ((wid d : Nat) : Int)] : List Int).sum = ((wid (.join4 a b c d) : Nat) : Int) := by
    show _ = ((wid a + wid b + wid c + wid d : Nat) : Int)
    simp; try omega
  rw [e]
  walk_at "xx"
  refine ⟨by omega, by omega, ?_⟩
  walk_at "xx"
  refine ⟨[(wid a : Nat), (wid b : Nat), (wid c : Nat), (wid d : Nat)], rfl, ?_⟩
  rw [e]
  exact rt_here q
theorem wm_part {R : Pst} {M : Mem} {W : Wd} {a : Tm} {hi lo : Nat} (hf : wf (.part a hi lo)) (q : R (.int (wid (.part a hi lo) : Nat)) M) : wmGoal R M W (.part a hi lo) := by
  unfold wmGoal w_width_made
  have h1 := hf.2.1
  have h2 := hf.2.2
  unfold dTm sS; walk_at "xx"
  refine rt_here ?_
  rw [show ((hi : Int) - (lo : Int) + 1) = ((wid (.part a hi lo) : Nat) : Int) by show _ = ((hi - lo + 1 : Nat) : Int); omega]
  exact q
theorem rd_width_made : ∀ ds M R, sp_width_made ds M R X0 → w_width_made (retTo R X0) (startG N_width_made ds) M := fun ds M R h => by
  match ds, h with
  | [t, .lst ws, w], h =>
    obtain ⟨T, W, rfl, rfl, rfl, hf, q⟩ := h
    show wmGoal R M W T
    cases T with
    | const => exact wm_const hf q
    | token => exact wm_token hf q
    | keep => exact wm_keep hf q
    | read => exact wm_read hf q
    | bin => exact wm_bin hf q
    | cmp => exact wm_cmp hf q
    | not => exact wm_not hf q
    | red => exact wm_red hf q
    | pick => exact wm_pick hf q
    | join2 => exact wm_join2 hf q
    | join3 => exact wm_join3 hf q
    | join4 => exact wm_join4 hf q
    | part => exact wm_part hf q
abbrev N_width_at : List Str := ["term", "world", "path", "parts", "told", "found", "k"]
def w_width_at (n : Nat) : DS := (dSeq (dSet 3 (dFn sp_parts_of [] (dCons (dVar 0) dNil)))
    (dSeq (dSet 4 (dLc (dRange1 (dCall oLen (dCons (dVar 3) dNil))) (dgName 6) dYes (dFn (sp_width_at n) [] (dCons (dOp oIx (dVar 3) (dVar 6)) (dCons (dVar 1) (dCons (dOp oAdd (dVar 2) (dTup (dCons (dVar 6) dNil))) dNil)))) [6]))
    (dSeq (dSet 5 (dFn sp_width_made [] (dCons (dVar 0) (dCons (dVar 4) (dCons (dVar 1) dNil)))))
    (dSeq (dIfS (dB (dOp oIs (dVar 5) (dC .non))) dNever dNext)
    (dRet (dVar 5))))))
theorem wa_call {n : Nat} {T : Tm} {W : Wd} {M : Mem} {R : Pst} {X : Xst} {p : List D} (h1 : wf T) (h2 : WdOk W) (h3 : deep T ≤ n) (h4 : p.length + deep T ≤ 20) (q : R (wD T) M) : sp_width_at n [dTm T, dWd W, .tup p] M R X := by
  cases n with
  | zero => have := deep_pos T; omega
  | succ n => exact ⟨T, W, rfl, rfl, h1, h2, h3, h4, q⟩
theorem partsT_len (T : Tm) : (partsT T).length ≤ 4 := by cases T <;> simp [partsT]
theorem rd_width_at : ∀ n ds M R, sp_width_at (n + 1) ds M R X0 → w_width_at n (retTo R X0) (startG N_width_at ds) M := fun n ds M R h => by
  match ds, h with
  | [t, w, .tup p], h =>
    obtain ⟨T, W, rfl, rfl, hf, hW, hd, hp, q⟩ := h
    show w_width_at n (retTo R X0) [some (dTm T), some (dWd W), some (.tup p), none, none, none, none] M
    unfold w_width_at
    have hparts : ∀ p ∈ partsT T, wf p ∧ deep p ≤ n ∧ deep p < deep T := fun p hp => ⟨wf_parts T p hf hp, by have := deep_parts T p hp; omega, deep_parts T p hp⟩
    have hl := partsT_len T
    walk_at "xx"
    refine ⟨T, rfl, ?_⟩
    walk_at "xx"
    rw [List.length_map]
    refine x_bd ⟨by omega, by omega⟩ ?_
    refine lc_rg (n := (partsT T).length) (fun i => wD ((partsT T).getD i (.keep 1))) rfl (by omega) (fun i hi M' sb K F k => ?_) (fun A hA => lcF_mk hA ?_)
    · have em : (partsT T).getD i (.keep 1) = (partsT T)[i] := by simp [List.getD, hi]
      obtain ⟨g1, g2, g3⟩ := hparts _ (List.getElem_mem hi)
      rw [em] at k
      walk_at "x1"
      refine x_yes ?_
      refine x_T ?_
      walk_at "xx"
      refine x_ix_t (d := dTm (partsT T)[i]) (by omega) ?_ ?_
      · show ((partsT T).map dTm)[i]? = _
        rw [List.getElem?_map, List.getElem?_eq_getElem hi]; rfl
      walk_at "xx"
      refine x_add_t (Nat.le_trans (show p.length + 1 ≤ 1000 by omega) (by decide)) ?_
      exact wa_call g1 hW g2 (by simp; omega) k
    · have e : (List.range (partsT T).length).map (fun i => wD ((partsT T).getD i (.keep 1))) = (partsT T).map wD := by
        refine List.ext_getElem (by simp) fun i h1 h2 => ?_
        simp at h1
        simp [List.getD, h1]
      rw [e]
      walk_at "xx"
      refine ⟨T, W, rfl, rfl, rfl, hf, ?_⟩
      walk_at "xx"
      rw [show isNon (D.int ((wid T : Nat) : Int)) = false from rfl]
      walk_at "xx"
      exact rt_here q
abbrev N_width_of : List Str := ["term", "world"]
def w_width_of : DS := (dRet (dFn (sp_width_at 12) [] (dCons (dVar 0) (dCons (dVar 1) (dCons (dTup dNil) dNil)))))
theorem rd_width_of : ∀ ds M R, sp_width_of ds M R X0 → w_width_of (retTo R X0) (startG N_width_of ds) M := fun ds M R h => by
  match ds, h with
  | [t, w], h =>
    obtain ⟨T, W, rfl, rfl, hf, hW, hd, q⟩ := h
    show w_width_of (retTo R X0) [some (dTm T), some (dWd W)] M
    unfold w_width_of
    walk_at "xx"
    exact wa_call (p := []) hf hW hd (by simp; omega) (rt_here q)
end Law
namespace Law
open PySem PySem.Spec PyProof.Rows L2 DL
local macro_rules | `(tactic| walk_at "x1") => `(tactic| first
  | with_reducible refine x_seq ?_ | with_reducible refine x_set ?_ | with_reducible refine x_ret ?_ | with_reducible refine x_ifS ?_ | with_reducible refine x_next ?_ | with_reducible refine x_asg ?_ | with_reducible refine x_drop ?_ | with_reducible refine x_for ?_ | with_reducible refine x_par ?_ | with_reducible refine ⟨_, _, rfl, ?_⟩
  | with_reducible refine x_op ?_ | ((with_reducible refine x_var (d := ?d) ?hx ?_); case hx => exact rfl) | with_reducible refine x_c ?_ | with_reducible refine x_B ?_ | with_reducible refine ⟨_, rfl, ?_⟩ | with_reducible refine x_call ?_ | with_reducible refine x_cons ?_ | with_reducible refine x_nil ?_ | with_reducible refine x_fn ?_
  | with_reducible refine x_if ?_ | with_reducible refine x_and ?_ | with_reducible refine x_or ?_ | with_reducible refine x_not ?_ | with_reducible refine x_andV ?_ | with_reducible refine x_orV ?_ | with_reducible refine x_notV ?_ | with_reducible refine x_chain ?_ | with_reducible refine x_un ?_
  | with_reducible refine x_tup ?_ | with_reducible refine x_lst ?_ | with_reducible refine x_lstM ?_ | with_reducible refine x_sz (Nat.le_of_ble_eq_true rfl) ?_ | with_reducible refine x_sl ?_ | with_reducible refine x_noP ?_ | with_reducible refine x_pt ?_
  | with_reducible refine x_range1 ?_ | with_reducible refine x_iter ?_ | with_reducible refine x_go_tup ?_ | with_reducible refine x_go_lst ?_ | with_reducible refine x_lc ?_ | with_reducible refine x_lcM ?_ | with_reducible refine x_lc2 ?_ | with_reducible refine x_yes ?_ | with_reducible refine x_gName ?_ | with_reducible refine x_gSub ?_
  | ((with_reducible refine x_gTup ?hx ?_); case hx => exact rfl) | ((with_reducible refine x_gTupL ?hx ?_); case hx => exact rfl) | with_reducible refine x_gCons ?_ | with_reducible refine x_gNil ?_ | with_reducible refine x_retN ?_ | with_reducible refine x_brk ?_ | with_reducible refine x_cont ?_
  | with_reducible refine x_add_i ?_ | with_reducible refine x_sub ?_ | with_reducible refine x_band ?_ | with_reducible refine x_bor ?_ | with_reducible refine x_bxor ?_ | with_reducible refine x_neg ?_ | with_reducible refine x_lt ?_ | with_reducible refine x_le ?_ | with_reducible refine x_gt ?_ | with_reducible refine x_ge ?_ | with_reducible refine x_eqI ?_ | with_reducible refine x_neI ?_
  | with_reducible refine x_isN ?_ | with_reducible refine x_isnotN ?_ | with_reducible refine x_isB ?_ | with_reducible refine x_isnotB ?_ | with_reducible refine x_int ?_ | with_reducible refine x_intB ?_ | with_reducible refine x_abs ?_ | with_reducible refine x_len_t ?_ | with_reducible refine x_len_l ?_ | with_reducible refine x_tuple_t ?_ | with_reducible refine x_tuple_l ?_ | with_reducible refine x_list_t ?_ | with_reducible refine x_list_l ?_ | with_reducible refine x_list_s ?_
  | with_reducible refine x_sl_t ?_ | with_reducible refine x_sl_l ?_ | with_reducible refine x_iadd_i ?_ | with_reducible refine x_isi ?_ | with_reducible refine x_din ?_ | with_reducible refine x_dnotin ?_ | with_reducible refine x_dgetE ?_ | with_reducible refine x_dput ?_ | with_reducible refine x_append ?_
  | with_reducible refine x_leX ?_ | with_reducible refine x_leS ?_ | with_reducible refine x_fld ?_ | with_reducible refine x_setF ?_ | with_reducible refine x_meth ?_ | with_reducible refine x_new ?_ | with_reducible refine x_isiC ?_ | with_reducible refine x_dget2 ?_ | with_reducible refine x_pop ?_ | with_reducible refine x_par3 ?_ | with_reducible refine x_iterS ?_
  | with_reducible refine x_T ?_ | with_reducible refine x_F ?_ | with_reducible refine x_nT ?_ | with_reducible refine x_nF ?_)
local macro_rules | `(tactic| walk_at "x2") => `(tactic| first
  | with_reducible refine x_bd (by omega) ?_ | with_reducible refine x_mod (by omega) ?_ | with_reducible refine x_div (by omega) ?_ | with_reducible refine x_shr (by omega) ?_ | with_reducible refine x_mul' (by omega) ?_ | with_reducible refine x_pow (by decide) ?_
  | ((with_reducible refine x_aug (x := ?d) ?hx ?_); case hx => exact rfl)
  | ((with_reducible refine x_ix_t (d := ?d) ?h0 ?hx ?_); (case h0 => omega); case hx => walk_at "at")
  | ((with_reducible refine x_ix_l (d := ?d) ?h0 ?hx ?_); (case h0 => omega); case hx => walk_at "at")
  | ((with_reducible refine x_ix_loc (ds := ?ds) (d := ?d) ?hm ?h0 ?hx ?_); (case hm => walk_at "m"); (case h0 => omega); case hx => walk_at "at")
  | ((with_reducible refine x_len_loc (ds := ?ds) ?hm ?_); case hm => walk_at "m") | ((with_reducible refine x_tuple_loc (ds := ?ds) ?hm ?_); case hm => walk_at "m") | ((with_reducible refine x_sl_loc (xs := ?ds) ?hm ?_); case hm => walk_at "m")
  | ((with_reducible refine ⟨_, ?ds, rfl, ?hm, ?_⟩); case hm => walk_at "m")
  | ((with_reducible refine ⟨_, ?ds, _, ?j, rfl, rfl, ?hm, ?hj, ?_⟩); (case hm => walk_at "m"); (case hj => walk_at "j")))
local macro_rules | `(tactic| walk_at "j") => `(tactic| exact rfl)
local macro_rules | `(tactic| walk_at "at") => `(tactic| first | exact rfl | assumption)
local macro_rules | `(tactic| walk_at "lt") => `(tactic| first | decide | omega | (simp; omega))
local macro_rules | `(tactic| walk_at "m") => `(tactic| first | exact mup_same | assumption)
local macro_rules | `(tactic| walk_at "x3") => `(tactic| first
  | ((with_reducible refine x_fldO (x := ?d) ?hC ?hl ?_); (case hl => exact rfl); case hC => decide) | with_reducible refine x_eqST (by decide +kernel) ?_ | with_reducible refine x_eqSF (by decide +kernel) ?_ | with_reducible refine x_inT rfl rfl (by decide +kernel) (by decide +kernel) ?_ | with_reducible refine x_inN rfl rfl (by decide +kernel) (by decide +kernel) ?_
  | with_reducible refine x_ty (b := true) rfl (by decide +kernel) ?_ | with_reducible refine x_ty (b := false) rfl (by decide +kernel) ?_ | with_reducible refine x_nYes (by walk_at "dec") ?_ | with_reducible refine x_nNo (by walk_at "dec") ?_ | with_reducible refine x_yesD (by walk_at "dec") ?_ | with_reducible refine x_noD (by walk_at "dec") ?_ | with_reducible refine x_yesE (by walk_at "dec") ?_ | with_reducible refine x_noE (by walk_at "dec") ?_ | with_reducible refine x_yesN (by walk_at "dec") ?_ | with_reducible refine x_noN (by walk_at "dec") ?_)
local macro_rules | `(tactic| walk_at "dec") => `(tactic| first | omega | (simp only [List.length_cons, List.length_nil, List.length_map, List.length_append, nD_len, List.length_range]; omega))
local macro_rules | `(tactic| walk_at "x") => `(tactic| repeat (first | walk_at "x1" | walk_at "x2"))
local macro_rules | `(tactic| walk_at "xx") => `(tactic| repeat (first | walk_at "x1" | walk_at "x2" | walk_at "x3"))

def v_PAIRS : List Str := ["and", "or", "xor", "add", "sub", "mul", "eq", "less"]
def sp_is_term_head : DSp
  | [t], M, R, _ => ∃ T : Tm, t = dTm T ∧ wf T ∧ R (.bl true) M
  | _, _, _, _ => False
abbrev N_is_term_head : List Str := ["value", "kind", "size"]
def w_is_term_head : DS := (dSeq (dIfS (dOr (dNot (dB (dIsi "tuple" (dVar 0)))) (dOr (dB (dOp oLt (dCall oLen (dCons (dVar 0) dNil)) (dC (.int 2)))) (dNot (dB (dIsi "str" (dOp oIx (dVar 0) (dC (.int 0)))))))) (dRet (dC (.bl false))) dNext)
    (dSeq (dPar 1 2 (dCons (dOp oIx (dVar 0) (dC (.int 0))) (dCons (dCall oLen (dCons (dVar 0) dNil)) dNil)))
    (dSeq (dIfS (dB (dOp oEq (dVar 1) (dC (.str "const")))) (dRet (dAndV (dOp oEq (dVar 2) (dC (.int 3))) (dAndV (dFn sp_is_width [] (dCons (dOp oIx (dVar 0) (dC (.int 1))) dNil)) (dFn sp_is_word [] (dCons (dOp oIx (dVar 0) (dC (.int 2))) (dCons (dOp oIx (dVar 0) (dC (.int 1))) dNil)))))) dNext)
    (dSeq (dIfS (dB (dOp oEq (dVar 1) (dC (.str "token")))) (dRet (dAndV (dOp oEq (dVar 2) (dC (.int 3))) (dAndV (dFn sp_is_name [] (dCons (dOp oIx (dVar 0) (dC (.int 1))) dNil)) (dFn sp_is_count [] (dCons (dOp oIx (dVar 0) (dC (.int 2))) dNil))))) dNext)
    (dSeq (dIfS (dB (dOp (oInF false) (dVar 1) (dTup (dCons (dC (.str "keep")) (dCons (dC (.str "read")) dNil))))) (dRet (dAndV (dOp oEq (dVar 2) (dIf (dB (dOp oEq (dVar 1) (dC (.str "keep")))) (dC (.int 2)) (dC (.int 3)))) (dFn sp_is_name [] (dCons (dOp oIx (dVar 0) (dC (.int 1))) dNil)))) dNext)
    (dSeq (dIfS (dB (dOp oEq (dVar 1) (dC (.str "join")))) (dRet (dAndV (dOp oEq (dVar 2) (dC (.int 2))) (dAndV (dIsi "tuple" (dOp oIx (dVar 0) (dC (.int 1)))) (dOp oGt (dCall oLen (dCons (dOp oIx (dVar 0) (dC (.int 1))) dNil)) (dC (.int 1)))))) dNext)
    (dSeq (dIfS (dB (dOp oEq (dVar 1) (dC (.str "part")))) (dRet (dAndV (dOp oEq (dVar 2) (dC (.int 4))) (dAndV (dFn sp_is_count [] (dCons (dOp oIx (dVar 0) (dC (.int 2))) dNil)) (dAndV (dFn sp_is_count [] (dCons (dOp oIx (dVar 0) (dC (.int 3))) dNil)) (dChain oGt oGe (dC (.int 8)) (dOp oIx (dVar 0) (dC (.int 2))) (dOp oIx (dVar 0) (dC (.int 3)))))))) dNext)
    (dRet (dOrV (dAndV (dOp (oInF false) (dVar 1) (dC (.kt (v_ONES.map D.str)))) (dOp oEq (dVar 2) (dC (.int 2)))) (dOrV (dAndV (dOp (oInF false) (dVar 1) (dC (.kt (v_PAIRS.map D.str)))) (dOp oEq (dVar 2) (dC (.int 3)))) (dAndV (dOp oEq (dVar 1) (dC (.str "pick"))) (dOp oEq (dVar 2) (dC (.int 4))))))))))))))
theorem rd_is_term_head : ∀ ds M R, sp_is_term_head ds M R X0 → w_is_term_head (retTo R X0) (startG N_is_term_head ds) M := fun ds M R h => by
  match ds, h with
  | [t], h =>
    obtain ⟨T, rfl, hf, q⟩ := h
    show w_is_term_head (retTo R X0) [some (dTm T), none, none] M
    unfold w_is_term_head
    cases T with
    | const w v =>
      have h1 := hf.1
      have h2 := hf.2.1
      have h3 := hf.2.2
      unfold dTm sS; walk_at "xx"
      refine ⟨by omega, by omega, ?_⟩
      walk_at "xx"
      refine ⟨by omega, by omega, by omega, ?_, ?_⟩
      · show (v : Int) < ((2 ^ w : Nat) : Int)
        omega
      exact rt_here q
    | token w i =>
      unfold dTm sS; walk_at "xx"
      refine ⟨okNm (by simp) hf.1 hf.2.1, ?_⟩
      walk_at "xx"
      exact rt_here (x_bl (decide_eq_true (Int.natCast_nonneg i)) q)
    | keep w =>
      unfold dTm sS; walk_at "xx"
      exact ⟨okNm (by simp) hf.1 hf.2, rt_here q⟩
    | read w a =>
      unfold dTm sS; walk_at "xx"
      exact ⟨okNm (by simp) hf.1 hf.2.1, rt_here q⟩
    | bin o a b => cases o <;> (unfold dTm sS; walk_at "xx") <;> exact rt_here q
    | cmp o a b => cases o <;> (unfold dTm sS; walk_at "xx") <;> exact rt_here q
    | not a => (unfold dTm sS; walk_at "xx"); exact rt_here q
    | red o a => cases o <;> (unfold dTm sS; walk_at "xx") <;> exact rt_here q
    | pick t a b => (unfold dTm sS; walk_at "xx"); exact rt_here q
    | join2 a b => (unfold dTm sS; walk_at "xx"); exact rt_here q
    | join3 a b c => (unfold dTm sS; walk_at "xx"); exact rt_here q
    | join4 a b c d => (unfold dTm sS; walk_at "xx"); exact rt_here q
    | part a hi lo =>
      have h1 := wid_ok a hf.1
      have h2 := hf.2.1
      have h3 := hf.2.2
      unfold dTm sS; walk_at "xx"
      refine ⟨_, rfl, ?_⟩
      walk_at "xx"
      refine ⟨_, rfl, ?_⟩
      walk_at "xx"
      exact rt_here (x_bl (decide_eq_true (by omega)) q)
end Law
namespace Law
open PySem PySem.Spec PyProof.Rows L2 DL
local macro_rules | `(tactic| walk_at "x1") => `(tactic| first
  | with_reducible refine x_seq ?_ | with_reducible refine x_set ?_ | with_reducible refine x_ret ?_ | with_reducible refine x_ifS ?_ | with_reducible refine x_next ?_ | with_reducible refine x_asg ?_ | with_reducible refine x_drop ?_ | with_reducible refine x_for ?_ | with_reducible refine x_par ?_ | with_reducible refine ⟨_, _, rfl, ?_⟩
  | with_reducible refine x_op ?_ | ((with_reducible refine x_var (d := ?d) ?hx ?_); case hx => exact rfl) | with_reducible refine x_c ?_ | with_reducible refine x_B ?_ | with_reducible refine ⟨_, rfl, ?_⟩ | with_reducible refine x_call ?_ | with_reducible refine x_cons ?_ | with_reducible refine x_nil ?_ | with_reducible refine x_fn ?_
  | with_reducible refine x_if ?_ | with_reducible refine x_and ?_ | with_reducible refine x_or ?_ | with_reducible refine x_not ?_ | with_reducible refine x_andV ?_ | with_reducible refine x_orV ?_ | with_reducible refine x_notV ?_ | with_reducible refine x_chain ?_ | with_reducible refine x_un ?_
  | with_reducible refine x_tup ?_ | with_reducible refine x_lst ?_ | with_reducible refine x_lstM ?_ | with_reducible refine x_sz (Nat.le_of_ble_eq_true rfl) ?_ | with_reducible refine x_sl ?_ | with_reducible refine x_noP ?_ | with_reducible refine x_pt ?_
  | with_reducible refine x_range1 ?_ | with_reducible refine x_iter ?_ | with_reducible refine x_go_tup ?_ | with_reducible refine x_go_lst ?_ | with_reducible refine x_lc ?_ | with_reducible refine x_lcM ?_ | with_reducible refine x_lc2 ?_ | with_reducible refine x_yes ?_ | with_reducible refine x_gName ?_ | with_reducible refine x_gSub ?_
  | ((with_reducible refine x_gTup ?hx ?_); case hx => exact rfl) | ((with_reducible refine x_gTupL ?hx ?_); case hx => exact rfl) | with_reducible refine x_gCons ?_ | with_reducible refine x_gNil ?_ | with_reducible refine x_retN ?_ | with_reducible refine x_brk ?_ | with_reducible refine x_cont ?_
  | with_reducible refine x_add_i ?_ | with_reducible refine x_sub ?_ | with_reducible refine x_band ?_ | with_reducible refine x_bor ?_ | with_reducible refine x_bxor ?_ | with_reducible refine x_neg ?_ | with_reducible refine x_lt ?_ | with_reducible refine x_le ?_ | with_reducible refine x_gt ?_ | with_reducible refine x_ge ?_ | with_reducible refine x_eqI ?_ | with_reducible refine x_neI ?_
  | with_reducible refine x_isN ?_ | with_reducible refine x_isnotN ?_ | with_reducible refine x_isB ?_ | with_reducible refine x_isnotB ?_ | with_reducible refine x_int ?_ | with_reducible refine x_intB ?_ | with_reducible refine x_abs ?_ | with_reducible refine x_len_t ?_ | with_reducible refine x_len_l ?_ | with_reducible refine x_tuple_t ?_ | with_reducible refine x_tuple_l ?_ | with_reducible refine x_list_t ?_ | with_reducible refine x_list_l ?_ | with_reducible refine x_list_s ?_
  | with_reducible refine x_sl_t ?_ | with_reducible refine x_sl_l ?_ | with_reducible refine x_iadd_i ?_ | with_reducible refine x_isi ?_ | with_reducible refine x_din ?_ | with_reducible refine x_dnotin ?_ | with_reducible refine x_dgetE ?_ | with_reducible refine x_dput ?_ | with_reducible refine x_append ?_
  | with_reducible refine x_leX ?_ | with_reducible refine x_leS ?_ | with_reducible refine x_fld ?_ | with_reducible refine x_setF ?_ | with_reducible refine x_meth ?_ | with_reducible refine x_new ?_ | with_reducible refine x_isiC ?_ | with_reducible refine x_dget2 ?_ | with_reducible refine x_pop ?_ | with_reducible refine x_par3 ?_ | with_reducible refine x_iterS ?_
  | with_reducible refine x_T ?_ | with_reducible refine x_F ?_ | with_reducible refine x_nT ?_ | with_reducible refine x_nF ?_)
local macro_rules | `(tactic| walk_at "x2") => `(tactic| first
  | with_reducible refine x_bd (by omega) ?_ | with_reducible refine x_mod (by omega) ?_ | with_reducible refine x_div (by omega) ?_ | with_reducible refine x_shr (by omega) ?_ | with_reducible refine x_mul' (by omega) ?_ | with_reducible refine x_pow (by decide) ?_
  | ((with_reducible refine x_aug (x := ?d) ?hx ?_); case hx => exact rfl)
  | ((with_reducible refine x_ix_t (d := ?d) ?h0 ?hx ?_); (case h0 => omega); case hx => walk_at "at")
  | ((with_reducible refine x_ix_l (d := ?d) ?h0 ?hx ?_); (case h0 => omega); case hx => walk_at "at")
  | ((with_reducible refine x_ix_loc (ds := ?ds) (d := ?d) ?hm ?h0 ?hx ?_); (case hm => walk_at "m"); (case h0 => omega); case hx => walk_at "at")
  | ((with_reducible refine x_len_loc (ds := ?ds) ?hm ?_); case hm => walk_at "m") | ((with_reducible refine x_tuple_loc (ds := ?ds) ?hm ?_); case hm => walk_at "m") | ((with_reducible refine x_sl_loc (xs := ?ds) ?hm ?_); case hm => walk_at "m")
  | ((with_reducible refine ⟨_, ?ds, rfl, ?hm, ?_⟩); case hm => walk_at "m")
  | ((with_reducible refine ⟨_, ?ds, _, ?j, rfl, rfl, ?hm, ?hj, ?_⟩); (case hm => walk_at "m"); (case hj => walk_at "j")))
local macro_rules | `(tactic| walk_at "j") => `(tactic| exact rfl)
local macro_rules | `(tactic| walk_at "at") => `(tactic| first | exact rfl | assumption)
local macro_rules | `(tactic| walk_at "lt") => `(tactic| first | decide | omega | (simp; omega))
local macro_rules | `(tactic| walk_at "m") => `(tactic| first | exact mup_same | assumption)
local macro_rules | `(tactic| walk_at "x3") => `(tactic| first
  | ((with_reducible refine x_fldO (x := ?d) ?hC ?hl ?_); (case hl => exact rfl); case hC => decide) | with_reducible refine x_eqST (by decide +kernel) ?_ | with_reducible refine x_eqSF (by decide +kernel) ?_ | with_reducible refine x_inT rfl rfl (by decide +kernel) (by decide +kernel) ?_ | with_reducible refine x_inN rfl rfl (by decide +kernel) (by decide +kernel) ?_
  | with_reducible refine x_ty (b := true) rfl (by decide +kernel) ?_ | with_reducible refine x_ty (b := false) rfl (by decide +kernel) ?_ | with_reducible refine x_nYes (by walk_at "dec") ?_ | with_reducible refine x_nNo (by walk_at "dec") ?_ | with_reducible refine x_yesD (by walk_at "dec") ?_ | with_reducible refine x_noD (by walk_at "dec") ?_ | with_reducible refine x_yesE (by walk_at "dec") ?_ | with_reducible refine x_noE (by walk_at "dec") ?_ | with_reducible refine x_yesN (by walk_at "dec") ?_ | with_reducible refine x_noN (by walk_at "dec") ?_)
local macro_rules | `(tactic| walk_at "dec") => `(tactic| first | omega | (simp only [List.length_cons, List.length_nil, List.length_map, List.length_append, nD_len, List.length_range]; omega))
local macro_rules | `(tactic| walk_at "x") => `(tactic| repeat (first | walk_at "x1" | walk_at "x2"))
local macro_rules | `(tactic| walk_at "xx") => `(tactic| repeat (first | walk_at "x1" | walk_at "x2" | walk_at "x3"))

theorem strOk_nm : (["b", "k", "s"].all fun p => ws8.all fun w => PyData.strOk (Str.ofString p ++ sN w)) = true := by decide +kernel
theorem okD_nm {p : String} {w n : Nat} (hp : p ∈ ["b", "k", "s"]) (h1 : 1 ≤ w) (h2 : w ≤ 8) : okD n (nm p w) = true := by
  have := List.all_eq_true.mp (List.all_eq_true.mp strOk_nm p hp) w (by simp [ws8]; omega)
  exact this
theorem okD_sS {n : Nat} {x : String} (h : PyData.strOk (Str.ofString x) = true) : okD n (sS x) = true := h
theorem okD_tup {n : Nat} {ds : List D} (h : okDs n ds = true) : okD (n + 1) (.tup ds) = true := h
theorem okDs_cons {n : Nat} {d : D} {ds : List D} (h : okD n d = true) (h2 : okDs n ds = true) : okDs n (d :: ds) = true := by
  show (okD n d && okDs n ds) = true
  rw [h, h2]; rfl
theorem okDs_nil {n : Nat} : okDs n [] = true := rfl
theorem okD_int {n : Nat} {i : Int} : okD n (.int i) = true := rfl
theorem okD_dTm : ∀ (k : Nat) (T : Tm), wf T → deep T ≤ k → okD (2 * k) (dTm T) = true
  | 0, T, _, h => by have := deep_pos T; omega
  | k + 1, T, hf, h => by
    have hp : ∀ p ∈ partsT T, okD (2 * k) (dTm p) = true := fun p hp => okD_dTm k p (wf_parts T p hf hp) (by have := deep_parts T p hp; omega)
    have hp1 : ∀ p ∈ partsT T, okD (2 * k + 1) (dTm p) = true := fun p hm => okD_up _ (hp p hm)
    show okD (2 * k + 2) (dTm T) = true
    cases T with
    | const w v => exact okD_tup (okDs_cons (okD_sS (by decide +kernel)) (okDs_cons okD_int (okDs_cons okD_int okDs_nil)))
    | token w i => exact okD_tup (okDs_cons (okD_sS (by decide +kernel)) (okDs_cons (okD_nm (by simp) hf.1 hf.2.1) (okDs_cons okD_int okDs_nil)))
    | keep w => exact okD_tup (okDs_cons (okD_sS (by decide +kernel)) (okDs_cons (okD_nm (by simp) hf.1 hf.2) okDs_nil))
    | read w a => exact okD_tup (okDs_cons (okD_sS (by decide +kernel)) (okDs_cons (okD_nm (by simp) hf.1 hf.2.1) (okDs_cons (hp1 _ (by simp [partsT])) okDs_nil)))
    | bin o a b => exact okD_tup (okDs_cons (okD_sS (by cases o <;> decide +kernel)) (okDs_cons (hp1 _ (by simp [partsT])) (okDs_cons (hp1 _ (by simp [partsT])) okDs_nil)))
    | cmp o a b => exact okD_tup (okDs_cons (okD_sS (by cases o <;> decide +kernel)) (okDs_cons (hp1 _ (by simp [partsT])) (okDs_cons (hp1 _ (by simp [partsT])) okDs_nil)))
    | not a => exact okD_tup (okDs_cons (okD_sS (by decide +kernel)) (okDs_cons (hp1 _ (by simp [partsT])) okDs_nil))
    | red o a => exact okD_tup (okDs_cons (okD_sS (by cases o <;> decide +kernel)) (okDs_cons (hp1 _ (by simp [partsT])) okDs_nil))
    | pick t a b => exact okD_tup (okDs_cons (okD_sS (by decide +kernel)) (okDs_cons (hp1 _ (by simp [partsT])) (okDs_cons (hp1 _ (by simp [partsT])) (okDs_cons (hp1 _ (by simp [partsT])) okDs_nil))))
    | join2 a b => exact okD_tup (okDs_cons (okD_sS (by decide +kernel)) (okDs_cons (okD_tup (okDs_cons (hp _ (by simp [partsT])) (okDs_cons (hp _ (by simp [partsT])) okDs_nil))) okDs_nil))
    | join3 a b c => exact okD_tup (okDs_cons (okD_sS (by decide +kernel)) (okDs_cons (okD_tup (okDs_cons (hp _ (by simp [partsT])) (okDs_cons (hp _ (by simp [partsT])) (okDs_cons (hp _ (by simp [partsT])) okDs_nil)))) okDs_nil))
    | join4 a b c d => exact okD_tup (okDs_cons (okD_sS (by decide +kernel)) (okDs_cons (okD_tup (okDs_cons (hp _ (by simp [partsT])) (okDs_cons (hp _ (by simp [partsT])) (okDs_cons (hp _ (by simp [partsT])) (okDs_cons (hp _ (by simp [partsT])) okDs_nil))))) okDs_nil))
    | part a hi lo => exact okD_tup (okDs_cons (okD_sS (by decide +kernel)) (okDs_cons (hp1 _ (by simp [partsT])) (okDs_cons okD_int (okDs_cons okD_int okDs_nil))))
/-! the stack of is_term -/
def rowD (r : Tm × Nat) : D := .tup [dTm r.1, .int (r.2 : Nat)]
def manys : List (Tm × Nat) → Nat
  | [] => 0
  | r :: rs => many r.1 + manys rs
theorem manys_app : ∀ (a b : List (Tm × Nat)), manys (a ++ b) = manys a + manys b
  | [], b => by simp [manys]
  | r :: a, b => by simp only [List.cons_append, manys, manys_app a b]; omega
theorem manys_parts (T : Tm) (k : Nat) : manys ((partsT T).map fun p => (p, k)) + 1 = many T := by
  cases T <;> simp only [partsT, List.map, manys, many] <;> omega
def okRow (r : Tm × Nat) : Prop := wf r.1 ∧ r.2 + deep r.1 ≤ 13
theorem many_pos (T : Tm) : 1 ≤ many T := by cases T <;> simp [many]
abbrev N_is_term : List Str := ["value", "rows", "count", "one", "deep", "part"]
def w_is_term : DS := (dSeq (dPar 1 2 (dCons (dLstM (dCons (dTup (dCons (dVar 0) (dCons (dC (.int 1)) dNil))) dNil)) (dCons (dC (.int 0)) dNil)))
    (dSeq (dWhile (dB (dOp oNe (dVar 1) (dLst dNil))) (dSeq (dAsg (dPop (dVar 1)) (dgTup 2 (dgCons (dgName 3) (dgCons (dgName 4) dgNil))))
    (dSeq (dAug 2 (dC (.int 1)) oIAdd)
    (dSeq (dIfS (dOr (dB (dOp oGt (dVar 4) (dC (.int 12)))) (dOr (dB (dOp oGt (dVar 2) (dC (.int 60)))) (dNot (dB (dFn sp_is_term_head [] (dCons (dVar 3) dNil)))))) (dRet (dC (.bl false))) dNext)
    (dAug 1 (dLc (dIter (dFn sp_parts_of [] (dCons (dVar 3) dNil))) (dgName 5) dYes (dTup (dCons (dVar 5) (dCons (dOp oAdd (dVar 4) (dC (.int 1))) dNil))) [5]) oIAdd)))))
    (dRet (dC (.bl true)))))
theorem rd_is_term : ∀ ds M R, sp_is_term ds M R X0 → w_is_term (retTo R X0) (startG N_is_term ds) M := fun ds M R h => by
  match ds, h with
  | [t], h =>
    obtain ⟨T, rfl, hf, hd, hm, q⟩ := h
    show w_is_term (retTo R X0) [some (dTm T), none, none, none, none, none] M
    unfold w_is_term
    walk_at "x"
    intro A hA
    walk_at "x"
    refine ⟨fun n Γ' M' => ∃ (rows : List (Tm × Nat)) (c : Nat) (o3 o4 o5 : Option D), Γ' = [some (dTm T), some (.loc A), some (.int c), o3, o4, o5] ∧ M' = mup M A (.lst (rows.map rowD)) ∧ (∀ r ∈ rows, okRow r) ∧ c + manys rows ≤ 60 ∧ n = manys rows,
      ⟨many T, [(T, 1)], 0, none, none, none, rfl, rfl, by intro r hr; simp at hr; subst hr; exact ⟨hf, by show 1 + deep T ≤ 13; omega⟩, by simp [manys]; omega, by simp [manys]⟩, fun n Γ' M' hI => ?_⟩
    obtain ⟨rows, c, o3, o4, o5, rfl, rfl, hrows, hc, rfl⟩ := hI
    walk_at "x"
    have hok : okD 64 (.lst (rows.map rowD)) = true := by
      show okDs 63 (rows.map rowD) = true
      refine okDs_of fun d hd => ?_
      obtain ⟨r, hr, rfl⟩ := List.mem_map.mp hd
      have := hrows r hr
      have h2 := okD_dTm 13 r.1 this.1 (by have := this.2; omega)
      exact okD_tup (okDs_cons (okD_le (by decide) h2) (okDs_cons okD_int okDs_nil))
    refine x_ne_loc mup_same hok rfl ?_
    rcases List.eq_nil_or_concat rows with rfl | ⟨rs, ⟨t1, k1⟩, rfl⟩
    · rw [show eqb (D.lst (List.map rowD [])) (.lst []) = true from rfl]
      walk_at "xx"
      exact rt_sub (sub_new hA) q
    · have e : (rs ++ [(t1, k1)]).map rowD = rs.map rowD ++ [rowD (t1, k1)] := by simp
      rw [List.concat_eq_append, e]
      rw [show eqb (D.lst (rs.map rowD ++ [rowD (t1, k1)])) (.lst []) = false by cases rs <;> rfl]
      have h1 := hrows (t1, k1) (by simp)
      have hlm : (rs ++ [(t1, k1)]).length ≤ manys (rs ++ [(t1, k1)]) := by
        generalize rs ++ [(t1, k1)] = l
        induction l with
        | nil => exact Nat.zero_le _
        | cons r l ih => have := many_pos r.1; simp only [List.length_cons, manys]; omega
      rw [List.concat_eq_append] at hc hrows
      rw [manys_app] at hc hlm
      have hs : manys [(t1, k1)] = many t1 := by simp [manys]
      rw [hs] at hc hlm
      have hmp := many_pos t1
      have hkd := h1.2
      have hdp := deep_pos t1
      simp only [] at hkd
      walk_at "x"
      refine ⟨A, rs.map rowD ++ [rowD (t1, k1)], rowD (t1, k1), rfl, mup_same, by simp, ?_⟩
      rw [List.dropLast_concat, mup_mup]
      unfold rowD
      walk_at "xx"
      refine ⟨t1, rfl, h1.1, ?_⟩
      walk_at "xx"
      refine ⟨t1, rfl, ?_⟩
      walk_at "xx"
      refine lc_mapT (ts := partsT t1) dTm (fun p => rowD (p, k1 + 1)) rfl (Nat.le_trans (partsT_len t1) (by decide)) (fun p hp M' sb K F k => ?_) (fun B hB => lcF_mk hB ?_)
      · walk_at "xx"
        exact k
      · have hlp := partsT_len t1
        have hmq := manys_parts t1 (k1 + 1)
        rw [List.length_append] at hlm
        refine x_iadd_l mup_same (Nat.le_trans (m := 1000) (by simp only [List.length_map, List.length_append]; omega) (by decide)) ?_
        walk_at "xx"
        rw [mup_mup]
        refine ⟨manys (rs ++ (partsT t1).map fun p => (p, k1 + 1)), ?_, rs ++ (partsT t1).map fun p => (p, k1 + 1), c + 1, _, _, _, rfl, ?_, ?_, ?_, rfl⟩
        · rw [manys_app, manys_app, hs]; omega
        · congr 2
          rw [List.map_append, List.map_map]; rfl
        · intro r hr
          rcases List.mem_append.mp hr with h | h
          · exact hrows r (by simp [h])
          · obtain ⟨p, hp, rfl⟩ := List.mem_map.mp h
            have := deep_parts t1 p hp
            exact ⟨wf_parts t1 p h1.1 hp, by show k1 + 1 + deep p ≤ 13; omega⟩
        · rw [manys_app]; omega
end Law
namespace Law
open PySem PySem.Spec PyProof.Rows L2 DL
local macro_rules | `(tactic| walk_at "x1") => `(tactic| first
  | with_reducible refine x_seq ?_ | with_reducible refine x_set ?_ | with_reducible refine x_ret ?_ | with_reducible refine x_ifS ?_ | with_reducible refine x_next ?_ | with_reducible refine x_asg ?_ | with_reducible refine x_drop ?_ | with_reducible refine x_for ?_ | with_reducible refine x_par ?_ | with_reducible refine ⟨_, _, rfl, ?_⟩
  | with_reducible refine x_op ?_ | ((with_reducible refine x_var (d := ?d) ?hx ?_); case hx => exact rfl) | with_reducible refine x_c ?_ | with_reducible refine x_B ?_ | with_reducible refine ⟨_, rfl, ?_⟩ | with_reducible refine x_call ?_ | with_reducible refine x_cons ?_ | with_reducible refine x_nil ?_ | with_reducible refine x_fn ?_
  | with_reducible refine x_if ?_ | with_reducible refine x_and ?_ | with_reducible refine x_or ?_ | with_reducible refine x_not ?_ | with_reducible refine x_andV ?_ | with_reducible refine x_orV ?_ | with_reducible refine x_notV ?_ | with_reducible refine x_chain ?_ | with_reducible refine x_un ?_
  | with_reducible refine x_tup ?_ | with_reducible refine x_lst ?_ | with_reducible refine x_lstM ?_ | with_reducible refine x_sz (Nat.le_of_ble_eq_true rfl) ?_ | with_reducible refine x_sl ?_ | with_reducible refine x_noP ?_ | with_reducible refine x_pt ?_
  | with_reducible refine x_range1 ?_ | with_reducible refine x_iter ?_ | with_reducible refine x_go_tup ?_ | with_reducible refine x_go_lst ?_ | with_reducible refine x_lc ?_ | with_reducible refine x_lcM ?_ | with_reducible refine x_lc2 ?_ | with_reducible refine x_yes ?_ | with_reducible refine x_gName ?_ | with_reducible refine x_gSub ?_
  | ((with_reducible refine x_gTup ?hx ?_); case hx => exact rfl) | ((with_reducible refine x_gTupL ?hx ?_); case hx => exact rfl) | with_reducible refine x_gCons ?_ | with_reducible refine x_gNil ?_ | with_reducible refine x_retN ?_ | with_reducible refine x_brk ?_ | with_reducible refine x_cont ?_
  | with_reducible refine x_add_i ?_ | with_reducible refine x_sub ?_ | with_reducible refine x_band ?_ | with_reducible refine x_bor ?_ | with_reducible refine x_bxor ?_ | with_reducible refine x_neg ?_ | with_reducible refine x_lt ?_ | with_reducible refine x_le ?_ | with_reducible refine x_gt ?_ | with_reducible refine x_ge ?_ | with_reducible refine x_eqI ?_ | with_reducible refine x_neI ?_
  | with_reducible refine x_isN ?_ | with_reducible refine x_isnotN ?_ | with_reducible refine x_isB ?_ | with_reducible refine x_isnotB ?_ | with_reducible refine x_int ?_ | with_reducible refine x_intB ?_ | with_reducible refine x_abs ?_ | with_reducible refine x_len_t ?_ | with_reducible refine x_len_l ?_ | with_reducible refine x_tuple_t ?_ | with_reducible refine x_tuple_l ?_ | with_reducible refine x_list_t ?_ | with_reducible refine x_list_l ?_ | with_reducible refine x_list_s ?_
  | with_reducible refine x_sl_t ?_ | with_reducible refine x_sl_l ?_ | with_reducible refine x_iadd_i ?_ | with_reducible refine x_isi ?_ | with_reducible refine x_din ?_ | with_reducible refine x_dnotin ?_ | with_reducible refine x_dgetE ?_ | with_reducible refine x_dput ?_ | with_reducible refine x_append ?_
  | with_reducible refine x_leX ?_ | with_reducible refine x_leS ?_ | with_reducible refine x_fld ?_ | with_reducible refine x_setF ?_ | with_reducible refine x_meth ?_ | with_reducible refine x_new ?_ | with_reducible refine x_isiC ?_ | with_reducible refine x_dget2 ?_ | with_reducible refine x_pop ?_ | with_reducible refine x_par3 ?_ | with_reducible refine x_iterS ?_
  | with_reducible refine x_T ?_ | with_reducible refine x_F ?_ | with_reducible refine x_nT ?_ | with_reducible refine x_nF ?_)
local macro_rules | `(tactic| walk_at "x2") => `(tactic| first
  | with_reducible refine x_bd (by omega) ?_ | with_reducible refine x_mod (by omega) ?_ | with_reducible refine x_div (by omega) ?_ | with_reducible refine x_shr (by omega) ?_ | with_reducible refine x_mul' (by omega) ?_ | with_reducible refine x_pow (by decide) ?_
  | ((with_reducible refine x_aug (x := ?d) ?hx ?_); case hx => exact rfl)
  | ((with_reducible refine x_ix_t (d := ?d) ?h0 ?hx ?_); (case h0 => omega); case hx => walk_at "at")
  | ((with_reducible refine x_ix_l (d := ?d) ?h0 ?hx ?_); (case h0 => omega); case hx => walk_at "at")
  | ((with_reducible refine x_ix_loc (ds := ?ds) (d := ?d) ?hm ?h0 ?hx ?_); (case hm => walk_at "m"); (case h0 => omega); case hx => walk_at "at")
  | ((with_reducible refine x_len_loc (ds := ?ds) ?hm ?_); case hm => walk_at "m") | ((with_reducible refine x_tuple_loc (ds := ?ds) ?hm ?_); case hm => walk_at "m") | ((with_reducible refine x_sl_loc (xs := ?ds) ?hm ?_); case hm => walk_at "m")
  | ((with_reducible refine ⟨_, ?ds, rfl, ?hm, ?_⟩); case hm => walk_at "m")
  | ((with_reducible refine ⟨_, ?ds, _, ?j, rfl, rfl, ?hm, ?hj, ?_⟩); (case hm => walk_at "m"); (case hj => walk_at "j")))
local macro_rules | `(tactic| walk_at "j") => `(tactic| exact rfl)
local macro_rules | `(tactic| walk_at "at") => `(tactic| first | exact rfl | assumption)
local macro_rules | `(tactic| walk_at "lt") => `(tactic| first | decide | omega | (simp; omega))
local macro_rules | `(tactic| walk_at "m") => `(tactic| first | exact mup_same | assumption)
local macro_rules | `(tactic| walk_at "x3") => `(tactic| first
  | ((with_reducible refine x_fldO (x := ?d) ?hC ?hl ?_); (case hl => exact rfl); case hC => decide) | with_reducible refine x_eqST (by decide +kernel) ?_ | with_reducible refine x_eqSF (by decide +kernel) ?_ | with_reducible refine x_inT rfl rfl (by decide +kernel) (by decide +kernel) ?_ | with_reducible refine x_inN rfl rfl (by decide +kernel) (by decide +kernel) ?_
  | with_reducible refine x_ty (b := true) rfl (by decide +kernel) ?_ | with_reducible refine x_ty (b := false) rfl (by decide +kernel) ?_ | with_reducible refine x_nYes (by walk_at "dec") ?_ | with_reducible refine x_nNo (by walk_at "dec") ?_ | with_reducible refine x_yesD (by walk_at "dec") ?_ | with_reducible refine x_noD (by walk_at "dec") ?_ | with_reducible refine x_yesE (by walk_at "dec") ?_ | with_reducible refine x_noE (by walk_at "dec") ?_ | with_reducible refine x_yesN (by walk_at "dec") ?_ | with_reducible refine x_noN (by walk_at "dec") ?_)
local macro_rules | `(tactic| walk_at "dec") => `(tactic| first | omega | (simp only [List.length_cons, List.length_nil, List.length_map, List.length_append, nD_len, List.length_range]; omega))
local macro_rules | `(tactic| walk_at "x") => `(tactic| repeat (first | walk_at "x1" | walk_at "x2"))
local macro_rules | `(tactic| walk_at "xx") => `(tactic| repeat (first | walk_at "x1" | walk_at "x2" | walk_at "x3"))

abbrev sp_law_pull : DSp := spDraw
abbrev N_law_pull : List Str := ["tape", "many", "cell", "found"]
def w_law_pull : DS := (dSeq (dIfS (dB (dOp oEq (dOp oIx (dVar 0) (dC (.int 2))) (dC (.int 0)))) (dSeq (dSet 2 (dC (.int 0)))
    (dSeq (dIfS (dB (dOp oLt (dOp oIx (dVar 0) (dC (.int 1))) (dCall oLen (dCons (dOp oIx (dVar 0) (dC (.int 0))) dNil)))) (dSet 2 (dCall oAbs (dCons (dCall oInt (dCons (dOp oIx (dOp oIx (dVar 0) (dC (.int 0))) (dOp oIx (dVar 0) (dC (.int 1)))) dNil)) dNil))) dNext)
    (dSeq (dAsg (dOp oAdd (dOp oIx (dVar 0) (dC (.int 1))) (dC (.int 1))) (dgSub (dVar 0) (dC (.int 1))))
    (dSeq (dIfS (dB (dOp oLt (dVar 2) (dOp oPow (dC (.int 10)) (dC (.int 18))))) (dSeq (dAsg (dOp oMod (dCall oInt (dCons (dOp oAdd (dOp oAdd (dOp oMul (dOp oIx (dVar 0) (dC (.int 3))) (dC (.int 48271))) (dOp oMul (dVar 2) (dC (.int 69621)))) (dC (.int 11))) dNil)) (dC (.int 2147483647))) (dgSub (dVar 0) (dC (.int 3))))
    (dRet (dOp oMod (dOp oMod (dCall oInt (dCons (dOp oMul (dCall oInt (dCons (dOp oDiv (dOp oIx (dVar 0) (dC (.int 3))) (dC (.int 7))) dNil)) (dC (.int 40692))) dNil)) (dC (.int 2147483647))) (dVar 1)))) dNext)
    (dAsg (dVar 2) (dgSub (dVar 0) (dC (.int 2)))))))) dNext)
    (dSeq (dSet 3 (dOp oMod (dCall oInt (dCons (dOp oIx (dVar 0) (dC (.int 2))) dNil)) (dVar 1)))
    (dSeq (dAsg (dOp oDiv (dCall oInt (dCons (dOp oIx (dVar 0) (dC (.int 2))) dNil)) (dVar 1)) (dgSub (dVar 0) (dC (.int 2))))
    (dRet (dVar 3)))))
theorem rd_law_pull : ∀ ds M R, sp_law_pull ds M R X0 → w_law_pull (retTo R X0) (startG N_law_pull ds) M := fun ds M R h => by
  match ds, h with
  | [.loc a, .int many], h =>
    obtain ⟨⟨t, ht⟩, h1, h2, q⟩ := h
    show w_law_pull (retTo R X0) [some (.loc a), some (.int many), none, none] M
    unfold w_law_pull
    refine cut_seq (fun Γ' M' => ∃ o t', Γ' = [some (.loc a), some (.int many), o, none] ∧ M' = mup M a (tobj t')) (fun N hN => ?_) (fun Γ' M' hI => ?_)
    · have ht' := ht
      unfold tobj at ht
      walk_at "x"
      refine x_bothE (fun e => ?_) (fun e => ?_)
      · walk_at "x"
        refine x_both (fun e2 => ?_) (fun e2 => ?_)
        · have hl : t.p < t.ns.length := by rw [List.length_map] at e2; omega
          have hg : (t.ns.map D.int)[(t.p : Int).toNat]? = some (.int t.ns[t.p]) := by simp [hl]
          walk_at "x"
          generalize (if t.ns[t.p] < 0 then -t.ns[t.p] else t.ns[t.p]) = cell
          refine x_both (fun e3 => ?_) (fun e3 => ?_)
          · walk_at "x"
            refine rt_here ?_
            rw [mup_mup]
            exact q _ ⟨t.ns, t.p + 1, t.c, (t.s * 48271 + cell * 69621 + 11) % 2147483647⟩ (Int.emod_nonneg _ (by omega)) (Int.emod_lt_of_pos _ h1)
          · walk_at "x"
            exact hN _ _ ⟨_, ⟨t.ns, t.p + 1, cell, t.s⟩, rfl, by rw [mup_mup]; rfl⟩
        · walk_at "x"
          refine x_yesD (by decide) ?_
          walk_at "x"
          refine rt_here ?_
          rw [mup_mup]
          exact q _ ⟨t.ns, t.p + 1, t.c, (t.s * 48271 + 0 * 69621 + 11) % 2147483647⟩ (Int.emod_nonneg _ (by omega)) (Int.emod_lt_of_pos _ h1)
      · walk_at "x"
        exact hN _ _ ⟨_, t, rfl, (mup_self ht').symm⟩
    · obtain ⟨o, t', rfl, rfl⟩ := hI
      unfold tobj
      walk_at "x"
      refine rt_here ?_
      rw [mup_mup]
      exact q _ ⟨t'.ns, t'.p, t'.c / many, t'.s⟩ (Int.emod_nonneg _ (by omega)) (Int.emod_lt_of_pos _ h1)
end Law
namespace Law
open PySem PySem.Spec PyProof.Rows L2 DL
local macro_rules | `(tactic| walk_at "x1") => `(tactic| first
  | with_reducible refine x_seq ?_ | with_reducible refine x_set ?_ | with_reducible refine x_ret ?_ | with_reducible refine x_ifS ?_ | with_reducible refine x_next ?_ | with_reducible refine x_asg ?_ | with_reducible refine x_drop ?_ | with_reducible refine x_for ?_ | with_reducible refine x_par ?_ | with_reducible refine ⟨_, _, rfl, ?_⟩
  | with_reducible refine x_op ?_ | ((with_reducible refine x_var (d := ?d) ?hx ?_); case hx => exact rfl) | with_reducible refine x_c ?_ | with_reducible refine x_B ?_ | with_reducible refine ⟨_, rfl, ?_⟩ | with_reducible refine x_call ?_ | with_reducible refine x_cons ?_ | with_reducible refine x_nil ?_ | with_reducible refine x_fn ?_
  | with_reducible refine x_if ?_ | with_reducible refine x_and ?_ | with_reducible refine x_or ?_ | with_reducible refine x_not ?_ | with_reducible refine x_andV ?_ | with_reducible refine x_orV ?_ | with_reducible refine x_notV ?_ | with_reducible refine x_chain ?_ | with_reducible refine x_un ?_
  | with_reducible refine x_tup ?_ | with_reducible refine x_lst ?_ | with_reducible refine x_lstM ?_ | with_reducible refine x_sz (Nat.le_of_ble_eq_true rfl) ?_ | with_reducible refine x_sl ?_ | with_reducible refine x_noP ?_ | with_reducible refine x_pt ?_
  | with_reducible refine x_range1 ?_ | with_reducible refine x_iter ?_ | with_reducible refine x_go_tup ?_ | with_reducible refine x_go_lst ?_ | with_reducible refine x_lc ?_ | with_reducible refine x_lcM ?_ | with_reducible refine x_lc2 ?_ | with_reducible refine x_yes ?_ | with_reducible refine x_gName ?_ | with_reducible refine x_gSub ?_
  | ((with_reducible refine x_gTup ?hx ?_); case hx => exact rfl) | ((with_reducible refine x_gTupL ?hx ?_); case hx => exact rfl) | with_reducible refine x_gCons ?_ | with_reducible refine x_gNil ?_ | with_reducible refine x_retN ?_ | with_reducible refine x_brk ?_ | with_reducible refine x_cont ?_
  | with_reducible refine x_add_i ?_ | with_reducible refine x_sub ?_ | with_reducible refine x_band ?_ | with_reducible refine x_bor ?_ | with_reducible refine x_bxor ?_ | with_reducible refine x_neg ?_ | with_reducible refine x_lt ?_ | with_reducible refine x_le ?_ | with_reducible refine x_gt ?_ | with_reducible refine x_ge ?_ | with_reducible refine x_eqI ?_ | with_reducible refine x_neI ?_
  | with_reducible refine x_isN ?_ | with_reducible refine x_isnotN ?_ | with_reducible refine x_isB ?_ | with_reducible refine x_isnotB ?_ | with_reducible refine x_int ?_ | with_reducible refine x_intB ?_ | with_reducible refine x_abs ?_ | with_reducible refine x_len_t ?_ | with_reducible refine x_len_l ?_ | with_reducible refine x_tuple_t ?_ | with_reducible refine x_tuple_l ?_ | with_reducible refine x_list_t ?_ | with_reducible refine x_list_l ?_ | with_reducible refine x_list_s ?_
  | with_reducible refine x_sl_t ?_ | with_reducible refine x_sl_l ?_ | with_reducible refine x_iadd_i ?_ | with_reducible refine x_isi ?_ | with_reducible refine x_din ?_ | with_reducible refine x_dnotin ?_ | with_reducible refine x_dgetE ?_ | with_reducible refine x_dput ?_ | with_reducible refine x_append ?_
  | with_reducible refine x_leX ?_ | with_reducible refine x_leS ?_ | with_reducible refine x_fld ?_ | with_reducible refine x_setF ?_ | with_reducible refine x_meth ?_ | with_reducible refine x_new ?_ | with_reducible refine x_isiC ?_ | with_reducible refine x_dget2 ?_ | with_reducible refine x_pop ?_ | with_reducible refine x_par3 ?_ | with_reducible refine x_iterS ?_
  | with_reducible refine x_T ?_ | with_reducible refine x_F ?_ | with_reducible refine x_nT ?_ | with_reducible refine x_nF ?_)
local macro_rules | `(tactic| walk_at "x2") => `(tactic| first
  | with_reducible refine x_bd (by omega) ?_ | with_reducible refine x_mod (by omega) ?_ | with_reducible refine x_div (by omega) ?_ | with_reducible refine x_shr (by omega) ?_ | with_reducible refine x_mul' (by omega) ?_ | with_reducible refine x_pow (by decide) ?_
  | ((with_reducible refine x_aug (x := ?d) ?hx ?_); case hx => exact rfl)
  | ((with_reducible refine x_ix_t (d := ?d) ?h0 ?hx ?_); (case h0 => omega); case hx => walk_at "at")
  | ((with_reducible refine x_ix_l (d := ?d) ?h0 ?hx ?_); (case h0 => omega); case hx => walk_at "at")
  | ((with_reducible refine x_ix_loc (ds := ?ds) (d := ?d) ?hm ?h0 ?hx ?_); (case hm => walk_at "m"); (case h0 => omega); case hx => walk_at "at")
  | ((with_reducible refine x_len_loc (ds := ?ds) ?hm ?_); case hm => walk_at "m") | ((with_reducible refine x_tuple_loc (ds := ?ds) ?hm ?_); case hm => walk_at "m") | ((with_reducible refine x_sl_loc (xs := ?ds) ?hm ?_); case hm => walk_at "m")
  | ((with_reducible refine ⟨_, ?ds, rfl, ?hm, ?_⟩); case hm => walk_at "m")
  | ((with_reducible refine ⟨_, ?ds, _, ?j, rfl, rfl, ?hm, ?hj, ?_⟩); (case hm => walk_at "m"); (case hj => walk_at "j")))
local macro_rules | `(tactic| walk_at "j") => `(tactic| exact rfl)
local macro_rules | `(tactic| walk_at "at") => `(tactic| first | exact rfl | assumption)
local macro_rules | `(tactic| walk_at "lt") => `(tactic| first | decide | omega | (simp; omega))
local macro_rules | `(tactic| walk_at "m") => `(tactic| first | exact mup_same | assumption)
local macro_rules | `(tactic| walk_at "x3") => `(tactic| first
  | ((with_reducible refine x_fldO (x := ?d) ?hC ?hl ?_); (case hl => exact rfl); case hC => decide) | with_reducible refine x_eqST (by decide +kernel) ?_ | with_reducible refine x_eqSF (by decide +kernel) ?_ | with_reducible refine x_inT rfl rfl (by decide +kernel) (by decide +kernel) ?_ | with_reducible refine x_inN rfl rfl (by decide +kernel) (by decide +kernel) ?_
  | with_reducible refine x_ty (b := true) rfl (by decide +kernel) ?_ | with_reducible refine x_ty (b := false) rfl (by decide +kernel) ?_ | with_reducible refine x_nYes (by walk_at "dec") ?_ | with_reducible refine x_nNo (by walk_at "dec") ?_ | with_reducible refine x_yesD (by walk_at "dec") ?_ | with_reducible refine x_noD (by walk_at "dec") ?_ | with_reducible refine x_yesE (by walk_at "dec") ?_ | with_reducible refine x_noE (by walk_at "dec") ?_ | with_reducible refine x_yesN (by walk_at "dec") ?_ | with_reducible refine x_noN (by walk_at "dec") ?_)
local macro_rules | `(tactic| walk_at "dec") => `(tactic| first | omega | (simp only [List.length_cons, List.length_nil, List.length_map, List.length_append, nD_len, List.length_range]; omega))
local macro_rules | `(tactic| walk_at "x") => `(tactic| repeat (first | walk_at "x1" | walk_at "x2"))
local macro_rules | `(tactic| walk_at "xx") => `(tactic| repeat (first | walk_at "x1" | walk_at "x2" | walk_at "x3"))

theorem pull_at {a : Addr} {many : Int} {M0 M : Mem} {R : Pst} {X : Xst} (hT : Tt a M0 M) (h1 : 0 < many) (h2 : many < 1073741824) (h : ∀ d M', 0 ≤ d → d < many → Tt a M0 M' → R (.int d) M') : sp_law_pull [.loc a, .int many] M R X := by
  refine ⟨hT.at, h1, h2, fun d t' e1 e2 => h d _ e1 e2 (hT.put t')⟩
def mostT (k : Nat) : Nat := if k = 1 then 2 else 7
def sp_law_term : Nat → DSp
  | n + 1, [.loc a, .int dp, .int w], M, R, _ => ∃ k width : Nat, dp = k ∧ w = width ∧ 1 ≤ k ∧ k ≤ 2 ∧ k ≤ n + 1 ∧ 1 ≤ width ∧ width ≤ 8 ∧ (∃ t, M a = some (tobj t)) ∧
      ∀ T t', wf T → wid T = width → deep T ≤ k + 1 → many T ≤ mostT k → R (dTm T) (mup M a (tobj t'))
  | _, _, _, _, _ => False
theorem term_at {n : Nat} {a : Addr} {dp w : Int} {M0 M : Mem} {R : Pst} {X : Xst} (hT : Tt a M0 M) (k width : Nat) (e1 : dp = k) (e2 : w = width) (h1 : 1 ≤ k) (h2 : k ≤ 2) (h3 : k ≤ n) (h4 : 1 ≤ width) (h5 : width ≤ 8)
    (h : ∀ T M', wf T → wid T = width → deep T ≤ k + 1 → many T ≤ mostT k → Tt a M0 M' → R (dTm T) M') : sp_law_term n [.loc a, .int dp, .int w] M R X := by
  cases n with
  | zero => omega
  | succ n => exact ⟨k, width, e1, e2, h1, h2, h3, h4, h5, hT.at, fun T t' g1 g2 g3 g4 => h T _ g1 g2 g3 g4 (hT.put t')⟩
theorem b1_eq : D.str (Str.ofString "b1") = nm "b" 1 := by
  show D.str _ = D.str _
  congr 1
theorem x_nm {p : String} {w : Nat} {M : Mem} {R : Pst} (hp : p ∈ ["b", "k", "s"]) (h1 : 1 ≤ w) (h2 : w ≤ 8) (h : R (nm p w) M) : oAdd (.str (Str.ofString p)) (.str (Str.ofString (toString (w : Int)))) M R := by
  have : (["b", "k", "s"].all fun p => ws8.all fun w => decide ((Str.ofString p).length + (sN w).length ≤ 1000)) = true := by decide +kernel
  have := of_decide_eq_true (List.all_eq_true.mp (List.all_eq_true.mp this p hp) w (by simp [ws8]; omega))
  exact x_add_s (Nat.le_trans this (by decide)) h
theorem x_strN {w : Nat} {M : Mem} {R : Pst} (h2 : w ≤ 8) (h : R (.str (Str.ofString (toString (w : Int)))) M) : oStr [.int (w : Int)] M R := by
  refine x_str ?_ h
  have : (w : Int).natAbs = w := rfl
  rw [this]
  have := Nat.log2_le_self w
  omega
abbrev N_law_term : List Str := ["tape", "deep", "wide", "kind", "pair", "low", "more"]
def w_law_term (n : Nat) : DS := (dSeq (dSet 3 (dIf (dB (dOp oGt (dVar 1) (dC (.int 1)))) (dFn sp_law_pull [] (dCons (dVar 0) (dCons (dC (.int 12)) dNil))) (dFn sp_law_pull [] (dCons (dVar 0) (dCons (dC (.int 4)) dNil)))))
    (dSeq (dIfS (dB (dOp oEq (dVar 3) (dC (.int 0)))) (dRet (dTup (dCons (dC (.str "const")) (dCons (dVar 2) (dCons (dFn sp_law_pull [] (dCons (dVar 0) (dCons (dOp oShl (dC (.int 1)) (dVar 2)) dNil))) dNil))))) dNext)
    (dSeq (dIfS (dB (dOp oLt (dVar 3) (dC (.int 4)))) (dRet (dOp oIx (dTup (dCons (dTup (dCons (dC (.str "token")) (dCons (dOp oAdd (dC (.str "b")) (dCall oStr (dCons (dVar 2) dNil))) (dCons (dFn sp_law_pull [] (dCons (dVar 0) (dCons (dC (.int 2)) dNil))) dNil)))) (dCons (dTup (dCons (dC (.str "keep")) (dCons (dOp oAdd (dC (.str "k")) (dCall oStr (dCons (dVar 2) dNil))) dNil))) (dCons (dTup (dCons (dC (.str "read")) (dCons (dOp oAdd (dC (.str "s")) (dCall oStr (dCons (dVar 2) dNil))) (dCons (dTup (dCons (dC (.str "token")) (dCons (dC (.str "b1")) (dCons (dC (.int 0)) dNil)))) dNil)))) dNil)))) (dOp oSub (dVar 3) (dC (.int 1))))) dNext)
    (dSeq (dIfS (dB (dOp oLt (dVar 3) (dC (.int 9)))) (dSeq (dSet 4 (dOp oIx (dTup (dCons (dC (.str "and")) (dCons (dC (.str "or")) (dCons (dC (.str "xor")) (dCons (dC (.str "add")) (dCons (dC (.str "sub")) (dCons (dC (.str "mul")) dNil))))))) (dFn sp_law_pull [] (dCons (dVar 0) (dCons (dC (.int 6)) dNil)))))
    (dRet (dTup (dCons (dVar 4) (dCons (dFn (sp_law_term n) [] (dCons (dVar 0) (dCons (dOp oSub (dVar 1) (dC (.int 1))) (dCons (dVar 2) dNil)))) (dCons (dFn (sp_law_term n) [] (dCons (dVar 0) (dCons (dOp oSub (dVar 1) (dC (.int 1))) (dCons (dVar 2) dNil)))) dNil)))))) dNext)
    (dSeq (dIfS (dB (dOp oEq (dVar 3) (dC (.int 9)))) (dRet (dTup (dCons (dC (.str "not")) (dCons (dFn (sp_law_term n) [] (dCons (dVar 0) (dCons (dOp oSub (dVar 1) (dC (.int 1))) (dCons (dVar 2) dNil)))) dNil)))) dNext)
    (dSeq (dIfS (dB (dOp oEq (dVar 3) (dC (.int 10)))) (dRet (dTup (dCons (dC (.str "pick")) (dCons (dFn (sp_law_term n) [] (dCons (dVar 0) (dCons (dC (.int 1)) (dCons (dC (.int 1)) dNil)))) (dCons (dFn (sp_law_term n) [] (dCons (dVar 0) (dCons (dOp oSub (dVar 1) (dC (.int 1))) (dCons (dVar 2) dNil)))) (dCons (dFn (sp_law_term n) [] (dCons (dVar 0) (dCons (dOp oSub (dVar 1) (dC (.int 1))) (dCons (dVar 2) dNil)))) dNil)))))) dNext)
    (dSeq (dIfS (dB (dOp oGt (dVar 2) (dC (.int 1)))) (dSeq (dSet 5 (dOp oAdd (dC (.int 1)) (dFn sp_law_pull [] (dCons (dVar 0) (dCons (dOp oSub (dVar 2) (dC (.int 1))) dNil)))))
    (dSeq (dIfS (dAnd (dB (dOp oGt (dOp oSub (dVar 2) (dVar 5)) (dC (.int 1)))) (dB (dOp oEq (dFn sp_law_pull [] (dCons (dVar 0) (dCons (dC (.int 2)) dNil))) (dC (.int 0))))) (dSeq (dSet 6 (dOp oAdd (dC (.int 1)) (dFn sp_law_pull [] (dCons (dVar 0) (dCons (dOp oSub (dOp oSub (dVar 2) (dVar 5)) (dC (.int 1))) dNil)))))
    (dRet (dTup (dCons (dC (.str "join")) (dCons (dTup (dCons (dFn (sp_law_term n) [] (dCons (dVar 0) (dCons (dOp oSub (dVar 1) (dC (.int 1))) (dCons (dOp oSub (dOp oSub (dVar 2) (dVar 5)) (dVar 6)) dNil)))) (dCons (dFn (sp_law_term n) [] (dCons (dVar 0) (dCons (dOp oSub (dVar 1) (dC (.int 1))) (dCons (dVar 6) dNil)))) (dCons (dFn (sp_law_term n) [] (dCons (dVar 0) (dCons (dOp oSub (dVar 1) (dC (.int 1))) (dCons (dVar 5) dNil)))) dNil)))) dNil))))) dNext)
    (dRet (dTup (dCons (dC (.str "join")) (dCons (dTup (dCons (dFn (sp_law_term n) [] (dCons (dVar 0) (dCons (dOp oSub (dVar 1) (dC (.int 1))) (dCons (dOp oSub (dVar 2) (dVar 5)) dNil)))) (dCons (dFn (sp_law_term n) [] (dCons (dVar 0) (dCons (dOp oSub (dVar 1) (dC (.int 1))) (dCons (dVar 5) dNil)))) dNil))) dNil)))))) dNext)
    (dRet (dTup (dCons (dOp oIx (dTup (dCons (dC (.str "all")) (dCons (dC (.str "any")) (dCons (dC (.str "odd")) dNil)))) (dFn sp_law_pull [] (dCons (dVar 0) (dCons (dC (.int 3)) dNil)))) (dCons (dFn (sp_law_term n) [] (dCons (dVar 0) (dCons (dOp oSub (dVar 1) (dC (.int 1))) (dCons (dOp oAdd (dC (.int 1)) (dFn sp_law_pull [] (dCons (dVar 0) (dCons (dC (.int 8)) dNil)))) dNil)))) dNil)))))))))))
theorem rd_law_term : ∀ n ds M R, sp_law_term (n + 1) ds M R X0 → w_law_term n (retTo R X0) (startG N_law_term ds) M := fun n ds M R h => by
  match ds, h with
  | [.loc a, .int dp, .int w], h =>
    obtain ⟨k, width, rfl, rfl, hk1, hk2, hkn, hw1, hw2, ⟨t0, ht0⟩, q⟩ := h
    show w_law_term n (retTo R X0) [some (.loc a), some (.int k), some (.int width), none, none, none, none] M
    unfold w_law_term
    have q : ∀ T M', wf T → wid T = width → deep T ≤ k + 1 → many T ≤ mostT k → Tt a M M' → (retTo R X0).rt (dTm T) M' := fun T M' g1 g2 g3 g4 ⟨t', e⟩ => rt_here (by rw [e]; exact q T t' g1 g2 g3 g4)
    have T0 : Tt a M M := Tt.refl ht0
    have h256 : 2 ^ width ≤ 2 ^ 8 := Nat.pow_le_pow_right (by decide) hw2
    have hp0 := pow_pos2 width
    have hm2 : 2 ≤ mostT k := by unfold mostT; split <;> omega
    refine cut_seq (fun Γ' M' => ∃ kd : Int, Γ' = [some (.loc a), some (.int k), some (.int width), some (.int kd), none, none, none] ∧ 0 ≤ kd ∧ kd < 12 ∧ (kd < 4 ∨ k = 2) ∧ Tt a M M') (fun N hN => ?_) (fun Γ' M1 hI => ?_)
    · walk_at "x"
      refine x_both (fun hk => ?_) (fun hk => ?_)
      · walk_at "x"
        exact pull_at T0 (by omega) (by omega) fun d M' g1 g2 g3 => hN _ _ ⟨d, rfl, g1, g2, .inr (by omega), g3⟩
      · walk_at "x"
        exact pull_at T0 (by omega) (by omega) fun d M' g1 g2 g3 => hN _ _ ⟨d, rfl, g1, by omega, .inl g2, g3⟩
    obtain ⟨kd, rfl, g1, g2, g3, T1⟩ := hI
    walk_at "x"
    refine x_bothE (fun e => ?_) (fun e => ?_)
    · walk_at "x"
      refine x_shl ⟨by omega, by omega, by decide⟩ ?_
      rw [shl1]
      walk_at "x"
      refine pull_at T1 (by omega) (by omega) fun d M' g1 g2 g3 => ?_
      obtain ⟨v, rfl⟩ := Int.eq_ofNat_of_zero_le g1
      walk_at "x"
      exact q (.const width v) _ ⟨hw1, hw2, by omega⟩ rfl (by simp [deep]) (by simp [many]; omega) g3
    walk_at "x"
    refine x_both (fun e4 => ?_) (fun e4 => ?_)
    · walk_at "x"
      refine x_strN hw2 ?_
      refine x_nm (by simp) hw1 hw2 ?_
      walk_at "x"
      refine pull_at T1 (by omega) (by omega) fun d M' f1 f2 T2 => ?_
      obtain ⟨v, rfl⟩ := Int.eq_ofNat_of_zero_le f1
      walk_at "x"
      refine x_strN hw2 ?_
      refine x_nm (by simp) hw1 hw2 ?_
      walk_at "x"
      refine x_strN hw2 ?_
      refine x_nm (by simp) hw1 hw2 ?_
      walk_at "x"
      rcases (by omega : kd = 1 ∨ kd = 2 ∨ kd = 3) with rfl | rfl | rfl
      · walk_at "x"
        exact q (.token width v) _ ⟨hw1, hw2, by omega⟩ rfl (by simp [deep]) (by simp [many]; omega) T2
      · walk_at "x"
        exact q (.keep width) _ ⟨hw1, hw2⟩ rfl (by simp [deep]) (by simp [many]; omega) T2
      · walk_at "x"
        rw [b1_eq]
        exact q (.read width (.token 1 0)) _ ⟨hw1, hw2, by decide, by decide, by decide⟩ rfl (by simp [deep]; omega) (by simp [many]; omega) T2
    have hk : k = 2 := g3.resolve_left e4
    subst hk
    have hm : mostT 2 = 7 := rfl
    have hm1 : mostT 1 = 2 := rfl
    rw [hm] at q
    walk_at "x"
    refine x_both (fun e9 => ?_) (fun e9 => ?_)
    · walk_at "x"
      refine pull_at T1 (by omega) (by omega) fun d M' f1 f2 T2 => ?_
      obtain ⟨o, ho⟩ : ∃ o : Bop, ([D.str "and", D.str "or", D.str "xor", D.str "add", D.str "sub", D.str "mul"] : List D)[d.toNat]? = some (sS (bopS o)) := by
        rcases (by omega : d = 0 ∨ d = 1 ∨ d = 2 ∨ d = 3 ∨ d = 4 ∨ d = 5) with rfl | rfl | rfl | rfl | rfl | rfl
        · exact ⟨.and, rfl⟩
        · exact ⟨.or, rfl⟩
        · exact ⟨.xor, rfl⟩
        · exact ⟨.add, rfl⟩
        · exact ⟨.sub, rfl⟩
        · exact ⟨.mul, rfl⟩
      refine x_ix_t f1 ho ?_
      walk_at "x"
      refine term_at T2 1 width (by omega) rfl (by omega) (by omega) (by omega) hw1 hw2 fun A M3 a1 a2 a3 a4 T3 => ?_
      walk_at "x"
      refine term_at T3 1 width (by omega) rfl (by omega) (by omega) (by omega) hw1 hw2 fun B M4 b1 b2 b3 b4 T4 => ?_
      walk_at "x"
      exact q (.bin o A B) _ ⟨a1, b1, by omega⟩ a2 (by simp only [deep]; omega) (by simp only [many]; omega) T4
    walk_at "x"
    refine x_bothE (fun e9 => ?_) (fun e9 => ?_)
    · walk_at "x"
      refine term_at T1 1 width (by omega) rfl (by omega) (by omega) (by omega) hw1 hw2 fun A M3 a1 a2 a3 a4 T3 => ?_
      walk_at "x"
      exact q (.not A) _ a1 a2 (by simp only [deep]; omega) (by simp only [many]; omega) T3
    walk_at "x"
    refine x_bothE (fun e9 => ?_) (fun e9 => ?_)
    · walk_at "x"
      refine term_at T1 1 1 (by omega) rfl (by omega) (by omega) (by omega) (by omega) (by omega) fun A M3 a1 a2 a3 a4 T3 => ?_
      walk_at "x"
      refine term_at T3 1 width (by omega) rfl (by omega) (by omega) (by omega) hw1 hw2 fun B M4 b1 b2 b3 b4 T4 => ?_
      walk_at "x"
      refine term_at T4 1 width (by omega) rfl (by omega) (by omega) (by omega) hw1 hw2 fun C M5 c1 c2 c3 c4 T5 => ?_
      walk_at "x"
      exact q (.pick A B C) _ ⟨a1, a2, b1, c1, by omega⟩ b2 (by simp only [deep]; omega) (by simp only [many]; omega) T5
    walk_at "x"
    refine x_both (fun ew => ?_) (fun ew => ?_)
    · walk_at "x"
      refine pull_at T1 (by omega) (by omega) fun d M' f1 f2 T2 => ?_
      obtain ⟨v, rfl⟩ := Int.eq_ofNat_of_zero_le f1
      have two : ∀ (M' : Mem), Tt a M M' → dRet (dTup (dCons (dC (.str "join")) (dCons (dTup (dCons (dFn (sp_law_term n) [] (dCons (dVar 0) (dCons (dOp oSub (dVar 1) (dC (.int 1))) (dCons (dOp oSub (dVar 2) (dVar 5)) dNil)))) (dCons (dFn (sp_law_term n) [] (dCons (dVar 0) (dCons (dOp oSub (dVar 1) (dC (.int 1))) (dCons (dVar 5) dNil)))) dNil))) dNil))) (retTo R X0)
          [some (.loc a), some (.int (2 : Nat)), some (.int width), some (.int kd), none, some (.int (1 + (v : Int))), none] M' := fun M' T2 => by
        walk_at "x"
        refine term_at T2 1 (width - (1 + v)) (by omega) (by omega) (by omega) (by omega) (by omega) (by omega) (by omega) fun A M3 a1 a2 a3 a4 T3 => ?_
        walk_at "x"
        refine term_at T3 1 (1 + v) (by omega) (by omega) (by omega) (by omega) (by omega) (by omega) (by omega) fun B M4 b1 b2 b3 b4 T4 => ?_
        walk_at "x"
        exact q (.join2 A B) _ ⟨a1, b1, by omega⟩ (by show wid A + wid B = width; omega) (by simp only [deep]; omega) (by simp only [many]; omega) T4
      walk_at "x"
      refine x_both (fun e1 => ?_) (fun e1 => ?_)
      · walk_at "x"
        refine pull_at T2 (by omega) (by omega) fun d2 M3 f3 f4 T3 => ?_
        walk_at "x"
        refine x_bothE (fun e2 => ?_) (fun e2 => ?_)
        · walk_at "x"
          refine pull_at T3 (by omega) (by omega) fun d3 M4 f5 f6 T4 => ?_
          obtain ⟨u, rfl⟩ := Int.eq_ofNat_of_zero_le f5
          walk_at "x"
          refine term_at T4 1 (width - (1 + v) - (1 + u)) (by omega) (by omega) (by omega) (by omega) (by omega) (by omega) (by omega) fun A M5 a1 a2 a3 a4 T5 => ?_
          walk_at "x"
          refine term_at T5 1 (1 + u) (by omega) (by omega) (by omega) (by omega) (by omega) (by omega) (by omega) fun B M6 b1 b2 b3 b4 T6 => ?_
          walk_at "x"
          refine term_at T6 1 (1 + v) (by omega) (by omega) (by omega) (by omega) (by omega) (by omega) (by omega) fun C M7 c1 c2 c3 c4 T7 => ?_
          walk_at "x"
          exact q (.join3 A B C) _ ⟨a1, b1, c1, by omega⟩ (by show wid A + wid B + wid C = width; omega) (by simp only [deep]; omega) (by simp only [many]; omega) T7
        · walk_at "x1"
          exact two _ T3
      · walk_at "x1"
        exact two _ T2
    · walk_at "x"
      refine pull_at T1 (by omega) (by omega) fun d M' f1 f2 T2 => ?_
      obtain ⟨o, ho⟩ : ∃ o : Rop, ([D.str "all", D.str "any", D.str "odd"] : List D)[d.toNat]? = some (sS (ropS o)) := by
        rcases (by omega : d = 0 ∨ d = 1 ∨ d = 2) with rfl | rfl | rfl
        · exact ⟨.all, rfl⟩
        · exact ⟨.any, rfl⟩
        · exact ⟨.odd, rfl⟩
      refine x_ix_t f1 ho ?_
      walk_at "x"
      refine pull_at T2 (by omega) (by omega) fun d2 M3 f3 f4 T3 => ?_
      obtain ⟨u, rfl⟩ := Int.eq_ofNat_of_zero_le f3
      walk_at "x"
      refine term_at T3 1 (1 + u) (by omega) (by omega) (by omega) (by omega) (by omega) (by omega) (by omega) fun A M4 a1 a2 a3 a4 T4 => ?_
      walk_at "x"
      exact q (.red o A) _ a1 (by show 1 = width; omega) (by simp only [deep]; omega) (by simp only [many]; omega) T4
end Law
namespace Law
open PySem PySem.Spec PyProof.Rows L2 DL
local macro_rules | `(tactic| walk_at "x1") => `(tactic| first
  | with_reducible refine x_seq ?_ | with_reducible refine x_set ?_ | with_reducible refine x_ret ?_ | with_reducible refine x_ifS ?_ | with_reducible refine x_next ?_ | with_reducible refine x_asg ?_ | with_reducible refine x_drop ?_ | with_reducible refine x_for ?_ | with_reducible refine x_par ?_ | with_reducible refine ⟨_, _, rfl, ?_⟩
  | with_reducible refine x_op ?_ | ((with_reducible refine x_var (d := ?d) ?hx ?_); case hx => exact rfl) | with_reducible refine x_c ?_ | with_reducible refine x_B ?_ | with_reducible refine ⟨_, rfl, ?_⟩ | with_reducible refine x_call ?_ | with_reducible refine x_cons ?_ | with_reducible refine x_nil ?_ | with_reducible refine x_fn ?_
  | with_reducible refine x_if ?_ | with_reducible refine x_and ?_ | with_reducible refine x_or ?_ | with_reducible refine x_not ?_ | with_reducible refine x_andV ?_ | with_reducible refine x_orV ?_ | with_reducible refine x_notV ?_ | with_reducible refine x_chain ?_ | with_reducible refine x_un ?_
  | with_reducible refine x_tup ?_ | with_reducible refine x_lst ?_ | with_reducible refine x_lstM ?_ | with_reducible refine x_sz (Nat.le_of_ble_eq_true rfl) ?_ | with_reducible refine x_sl ?_ | with_reducible refine x_noP ?_ | with_reducible refine x_pt ?_
  | with_reducible refine x_range1 ?_ | with_reducible refine x_iter ?_ | with_reducible refine x_go_tup ?_ | with_reducible refine x_go_lst ?_ | with_reducible refine x_lc ?_ | with_reducible refine x_lcM ?_ | with_reducible refine x_lc2 ?_ | with_reducible refine x_yes ?_ | with_reducible refine x_gName ?_ | with_reducible refine x_gSub ?_
  | ((with_reducible refine x_gTup ?hx ?_); case hx => exact rfl) | ((with_reducible refine x_gTupL ?hx ?_); case hx => exact rfl) | with_reducible refine x_gCons ?_ | with_reducible refine x_gNil ?_ | with_reducible refine x_retN ?_ | with_reducible refine x_brk ?_ | with_reducible refine x_cont ?_
  | with_reducible refine x_add_i ?_ | with_reducible refine x_sub ?_ | with_reducible refine x_band ?_ | with_reducible refine x_bor ?_ | with_reducible refine x_bxor ?_ | with_reducible refine x_neg ?_ | with_reducible refine x_lt ?_ | with_reducible refine x_le ?_ | with_reducible refine x_gt ?_ | with_reducible refine x_ge ?_ | with_reducible refine x_eqI ?_ | with_reducible refine x_neI ?_
  | with_reducible refine x_isN ?_ | with_reducible refine x_isnotN ?_ | with_reducible refine x_isB ?_ | with_reducible refine x_isnotB ?_ | with_reducible refine x_int ?_ | with_reducible refine x_intB ?_ | with_reducible refine x_abs ?_ | with_reducible refine x_len_t ?_ | with_reducible refine x_len_l ?_ | with_reducible refine x_tuple_t ?_ | with_reducible refine x_tuple_l ?_ | with_reducible refine x_list_t ?_ | with_reducible refine x_list_l ?_ | with_reducible refine x_list_s ?_
  | with_reducible refine x_sl_t ?_ | with_reducible refine x_sl_l ?_ | with_reducible refine x_iadd_i ?_ | with_reducible refine x_isi ?_ | with_reducible refine x_din ?_ | with_reducible refine x_dnotin ?_ | with_reducible refine x_dgetE ?_ | with_reducible refine x_dput ?_ | with_reducible refine x_append ?_
  | with_reducible refine x_leX ?_ | with_reducible refine x_leS ?_ | with_reducible refine x_fld ?_ | with_reducible refine x_setF ?_ | with_reducible refine x_meth ?_ | with_reducible refine x_new ?_ | with_reducible refine x_isiC ?_ | with_reducible refine x_dget2 ?_ | with_reducible refine x_pop ?_ | with_reducible refine x_par3 ?_ | with_reducible refine x_iterS ?_
  | with_reducible refine x_T ?_ | with_reducible refine x_F ?_ | with_reducible refine x_nT ?_ | with_reducible refine x_nF ?_)
local macro_rules | `(tactic| walk_at "x2") => `(tactic| first
  | with_reducible refine x_bd (by omega) ?_ | with_reducible refine x_mod (by omega) ?_ | with_reducible refine x_div (by omega) ?_ | with_reducible refine x_shr (by omega) ?_ | with_reducible refine x_mul' (by omega) ?_ | with_reducible refine x_pow (by decide) ?_
  | ((with_reducible refine x_aug (x := ?d) ?hx ?_); case hx => exact rfl)
  | ((with_reducible refine x_ix_t (d := ?d) ?h0 ?hx ?_); (case h0 => omega); case hx => walk_at "at")
  | ((with_reducible refine x_ix_l (d := ?d) ?h0 ?hx ?_); (case h0 => omega); case hx => walk_at "at")
  | ((with_reducible refine x_ix_loc (ds := ?ds) (d := ?d) ?hm ?h0 ?hx ?_); (case hm => walk_at "m"); (case h0 => omega); case hx => walk_at "at")
  | ((with_reducible refine x_len_loc (ds := ?ds) ?hm ?_); case hm => walk_at "m") | ((with_reducible refine x_tuple_loc (ds := ?ds) ?hm ?_); case hm => walk_at "m") | ((with_reducible refine x_sl_loc (xs := ?ds) ?hm ?_); case hm => walk_at "m")
  | ((with_reducible refine ⟨_, ?ds, rfl, ?hm, ?_⟩); case hm => walk_at "m")
  | ((with_reducible refine ⟨_, ?ds, _, ?j, rfl, rfl, ?hm, ?hj, ?_⟩); (case hm => walk_at "m"); (case hj => walk_at "j")))
local macro_rules | `(tactic| walk_at "j") => `(tactic| exact rfl)
local macro_rules | `(tactic| walk_at "at") => `(tactic| first | exact rfl | assumption)
local macro_rules | `(tactic| walk_at "lt") => `(tactic| first | decide | omega | (simp; omega))
local macro_rules | `(tactic| walk_at "m") => `(tactic| first | exact mup_same | assumption)
local macro_rules | `(tactic| walk_at "x3") => `(tactic| first
  | ((with_reducible refine x_fldO (x := ?d) ?hC ?hl ?_); (case hl => exact rfl); case hC => decide) | with_reducible refine x_eqST (by decide +kernel) ?_ | with_reducible refine x_eqSF (by decide +kernel) ?_ | with_reducible refine x_inT rfl rfl (by decide +kernel) (by decide +kernel) ?_ | with_reducible refine x_inN rfl rfl (by decide +kernel) (by decide +kernel) ?_
  | with_reducible refine x_ty (b := true) rfl (by decide +kernel) ?_ | with_reducible refine x_ty (b := false) rfl (by decide +kernel) ?_ | with_reducible refine x_nYes (by walk_at "dec") ?_ | with_reducible refine x_nNo (by walk_at "dec") ?_ | with_reducible refine x_yesD (by walk_at "dec") ?_ | with_reducible refine x_noD (by walk_at "dec") ?_ | with_reducible refine x_yesE (by walk_at "dec") ?_ | with_reducible refine x_noE (by walk_at "dec") ?_ | with_reducible refine x_yesN (by walk_at "dec") ?_ | with_reducible refine x_noN (by walk_at "dec") ?_)
local macro_rules | `(tactic| walk_at "dec") => `(tactic| first | omega | (simp only [List.length_cons, List.length_nil, List.length_map, List.length_append, nD_len, List.length_range]; omega))
local macro_rules | `(tactic| walk_at "x") => `(tactic| repeat (first | walk_at "x1" | walk_at "x2"))
local macro_rules | `(tactic| walk_at "xx") => `(tactic| repeat (first | walk_at "x1" | walk_at "x2" | walk_at "x3"))

def sp_World_init : DSp
  | [.loc p, x, y, z], M, R, _ => M p = some (.ins "World" []) ∧ R .non (mup M p (.ins "World" [("tokens", x), ("keeps", y), ("stores", z)]))
  | _, _, _, _ => False
abbrev N_World_init : List Str := ["self", "tokens", "keeps", "stores"]
def w_World_init : DS := (dSeq (dSetF ["World"] "tokens" (dVar 0) (dVar 1))
    (dSeq (dSetF ["World"] "keeps" (dVar 0) (dVar 2))
    (dSetF ["World"] "stores" (dVar 0) (dVar 3))))
theorem rd_World_init : ∀ ds M R, sp_World_init ds M R X0 → w_World_init (retTo R X0) (startG N_World_init ds) M := fun ds M R h => by
  match ds, h with
  | [.loc p, x, y, z], ⟨hp, q⟩ =>
    show w_World_init (retTo R X0) [some (.loc p), some x, some y, some z] M
    unfold w_World_init
    walk_at "x"
    refine ⟨p, _, _, rfl, hp, by decide, by decide, ?_⟩
    walk_at "x"
    refine ⟨p, _, _, rfl, mup_same, by decide, Nat.le_of_ble_eq_true rfl, ?_⟩
    rw [mup_mup]
    walk_at "x"
    refine ⟨p, _, _, rfl, mup_same, by decide, Nat.le_of_ble_eq_true rfl, ?_⟩
    rw [mup_mup]
    exact nx_here q
/-! four places -/
structure St4 (M : Mem) (a p1 p2 p3 : Addr) (d1 d2 d3 : MO) (M' : Mem) : Prop where
  ta : ∃ t, M' a = some (tobj t)
  h1 : M' p1 = some d1
  h2 : M' p2 = some d2
  h3 : M' p3 = some d3
  ot : ∀ b, b ≠ a → b ≠ p1 → b ≠ p2 → b ≠ p3 → M' b = M b
structure Ne4 (a p1 p2 p3 : Addr) : Prop where
  a1 : a ≠ p1
  a2 : a ≠ p2
  a3 : a ≠ p3
  b1 : p1 ≠ p2
  b2 : p1 ≠ p3
  c1 : p2 ≠ p3
theorem St4.tape {M : Mem} {a p1 p2 p3 : Addr} {d1 d2 d3 : MO} {M' : Mem} (n : Ne4 a p1 p2 p3) (h : St4 M a p1 p2 p3 d1 d2 d3 M') (t : Tape) : St4 M a p1 p2 p3 d1 d2 d3 (mup M' a (tobj t)) :=
  ⟨⟨t, mup_same⟩, by rw [mup_ne n.a1.symm]; exact h.h1, by rw [mup_ne n.a2.symm]; exact h.h2, by rw [mup_ne n.a3.symm]; exact h.h3, fun b e1 e2 e3 e4 => by rw [mup_ne e1]; exact h.ot b e1 e2 e3 e4⟩
theorem St4.put1 {M : Mem} {a p1 p2 p3 : Addr} {d1 d2 d3 d : MO} {M' : Mem} (n : Ne4 a p1 p2 p3) (h : St4 M a p1 p2 p3 d1 d2 d3 M') : St4 M a p1 p2 p3 d d2 d3 (mup M' p1 d) :=
  ⟨by rw [mup_ne n.a1]; exact h.ta, mup_same, by rw [mup_ne n.b1.symm]; exact h.h2, by rw [mup_ne n.b2.symm]; exact h.h3, fun b e1 e2 e3 e4 => by rw [mup_ne e2]; exact h.ot b e1 e2 e3 e4⟩
theorem St4.put2 {M : Mem} {a p1 p2 p3 : Addr} {d1 d2 d3 d : MO} {M' : Mem} (n : Ne4 a p1 p2 p3) (h : St4 M a p1 p2 p3 d1 d2 d3 M') : St4 M a p1 p2 p3 d1 d d3 (mup M' p2 d) :=
  ⟨by rw [mup_ne n.a2]; exact h.ta, by rw [mup_ne n.b1]; exact h.h1, mup_same, by rw [mup_ne n.c1.symm]; exact h.h3, fun b e1 e2 e3 e4 => by rw [mup_ne e3]; exact h.ot b e1 e2 e3 e4⟩
theorem St4.put3 {M : Mem} {a p1 p2 p3 : Addr} {d1 d2 d3 d : MO} {M' : Mem} (n : Ne4 a p1 p2 p3) (h : St4 M a p1 p2 p3 d1 d2 d3 M') : St4 M a p1 p2 p3 d1 d2 d (mup M' p3 d) :=
  ⟨by rw [mup_ne n.a3]; exact h.ta, by rw [mup_ne n.b2]; exact h.h1, by rw [mup_ne n.c1]; exact h.h2, mup_same, fun b e1 e2 e3 e4 => by rw [mup_ne e4]; exact h.ot b e1 e2 e3 e4⟩
theorem pull4 {M M0 : Mem} {a p1 p2 p3 : Addr} {d1 d2 d3 : MO} {many : Int} {R : Pst} {X : Xst} (n : Ne4 a p1 p2 p3) (s : St4 M0 a p1 p2 p3 d1 d2 d3 M) (h1 : 0 < many) (h2 : many < 1073741824)
    (h : ∀ (d : Nat) M', (d : Int) < many → St4 M0 a p1 p2 p3 d1 d2 d3 M' → R (.int (d : Int)) M') : sp_law_pull [.loc a, .int many] M R X :=
  ⟨s.ta, h1, h2, fun d t' e1 e2 => by
    obtain ⟨v, rfl⟩ := Int.eq_ofNat_of_zero_le e1
    exact h v _ e2 (s.tape n t')⟩
def rowB (W : Wd) (w : Nat) : Key × D := (keyB "b" w, .tup [.int (w : Int), .tup (nD' [W.tok w 0, W.tok w 1])])
def rowK (W : Wd) (w : Nat) : Key × D := (keyB "k" w, .tup [.int (w : Int), .int (W.kp w)])
def rowS (W : Wd) (w : Nat) : Key × D := (keyB "s" w, .tup [.int (w : Int), .tup (nD' (W.st w))])
/-- a world that is right up to w -/
structure WdTo (W : Wd) (n : Nat) : Prop where
  tok : ∀ w, 1 ≤ w → w ≤ n → ∀ i, i < 2 → W.tok w i < 2 ^ w
  kp : ∀ w, 1 ≤ w → w ≤ n → W.kp w < 2 ^ w
  st : ∀ w, 1 ≤ w → w ≤ n → ∀ v ∈ W.st w, v < 2 ^ w
def wput (W : Wd) (n u v x : Nat) (l : List Nat) : Wd where
  tok := fun w i => if w = n then (if i = 0 then u else v) else W.tok w i
  kp := fun w => if w = n then x else W.kp w
  st := fun w => if w = n then l else W.st w
def upto (i : Nat) : List Nat := ws8.take i
theorem upto_mem {i w : Nat} (hi : i ≤ 8) (h : w ∈ upto i) : 1 ≤ w ∧ w ≤ i := by
  rcases (by omega : i = 0 ∨ i = 1 ∨ i = 2 ∨ i = 3 ∨ i = 4 ∨ i = 5 ∨ i = 6 ∨ i = 7 ∨ i = 8) with rfl | rfl | rfl | rfl | rfl | rfl | rfl | rfl | rfl <;> simp [upto, ws8] at h <;> omega
theorem upto_succ {i : Nat} (hi : i < 8) : upto (i + 1) = upto i ++ [i + 1] := by
  rcases (by omega : i = 0 ∨ i = 1 ∨ i = 2 ∨ i = 3 ∨ i = 4 ∨ i = 5 ∨ i = 6 ∨ i = 7) with rfl | rfl | rfl | rfl | rfl | rfl | rfl | rfl <;> rfl
theorem key_ne {p : String} {v w : Nat} (hp : p ∈ ["b", "k", "s"]) (h1 : 1 ≤ w) (h2 : w ≤ 8) (h3 : 1 ≤ v) (h4 : v ≤ 8) (h : v ≠ w) : keyB p v ≠ keyB p w := fun e => by
  have hw : w ∈ ws8 := by simp [ws8]; omega
  have hv : v ∈ ws8 := by simp [ws8]; omega
  have := List.all_eq_true.mp (List.all_eq_true.mp (List.all_eq_true.mp key_inj p hp) w hw) v hv
  simp only [Bool.or_eq_true, Bool.not_eq_true', decide_eq_false_iff_not, decide_eq_true_eq] at this
  exact h (this.resolve_left fun h => h (by injection e))
theorem put_up {p : String} {g : Nat → D} {i : Nat} {v : D} (hp : p ∈ ["b", "k", "s"]) (hi : i < 8) : put ((upto i).map fun w => (keyB p w, g w)) (keyB p (i + 1)) v = ((upto i).map fun w => (keyB p w, g w)) ++ [(keyB p (i + 1), v)] :=
  put_new fun q hq => by
    obtain ⟨w, hw, rfl⟩ := List.mem_map.mp hq
    have := upto_mem (by omega) hw
    exact key_ne hp (by omega) (by omega) this.1 (by omega) (by omega)
theorem dput_up {M : Mem} {p : Addr} {x : String} {g : Nat → D} {i : Nat} {v : D} (hm : M p = some (.dK ((upto i).map fun w => (keyB x w, g w)))) (hx : x ∈ ["b", "k", "s"]) (hi : i < 8) :
    dput M (.loc p) (nm x (i + 1)) v = some (mup M p (.dK (((upto i).map fun w => (keyB x w, g w)) ++ [(keyB x (i + 1), v)]))) := by
  have hl : (upto i).length < sizeLine := Nat.lt_of_le_of_lt (show _ ≤ 8 by simp [upto, ws8]; omega) (by decide)
  simp only [dput, hm, List.length_map, if_pos hl]
  rw [← put_up hx hi]
  rfl
theorem x_frz {Γ : Gam} {M : Mem} {R : Pst} {XR : Xst} {w : DE} (h : w Γ M (fun d M1 => ∃ a, d = .loc a ∧ match M1 a with
  | some (.lst ds) => R (.lst ds) (mdel M1 a)
  | some (.ins C fs) => R (.obj C (fs.map (·.1)) (fs.map (·.2))) (mdel M1 a)
  | some (.dK kvs) => R (.dK (kvs.map (·.1)) (kvs.map (·.2))) (mdel M1 a)
  | some (.dT kvs) => R (.dT (kvs.map (·.1)) (kvs.map (·.2))) (mdel M1 a)
  | none => False) XR) : dFrz w Γ M R XR := h
theorem x_frzK {i : Nat} {Γ : Gam} {a : Addr} {M : Mem} {R : Pst} {XR : Xst} {kvs : List (Key × D)} (hm : M a = some (.dK kvs)) (hx : Γ[i]? = some (some (.loc a))) (h : R (.dK (kvs.map (·.1)) (kvs.map (·.2))) (mdel M a)) : dFrz (dVar i) Γ M R XR :=
  ⟨_, hx, a, rfl, by rw [hm]; exact h⟩
def sp_law_world : DSp
  | [.loc a], M, R, _ => (∃ t, M a = some (tobj t)) ∧ ∀ W t', WdOk W → R (dWd W) (mup M a (tobj t'))
  | _, _, _, _ => False
abbrev N_law_world : List Str := ["tape", "tokens", "keeps", "stores", "wide", "many", "k"]
def w_law_world : DS := (dSeq (dPar3 1 2 3 (dCons dDNewK (dCons dDNewK (dCons dDNewK dNil))))
    (dSeq (dFor (dRange2 (dC (.int 1)) (dC (.int 9))) (dgName 4) (dSeq (dSet 5 (dOp oShl (dC (.int 1)) (dVar 4)))
    (dSeq (dDPut (dVar 1) (dOp oAdd (dC (.str "b")) (dCall oStr (dCons (dVar 4) dNil))) (dTup (dCons (dVar 4) (dCons (dTup (dCons (dFn sp_law_pull [] (dCons (dVar 0) (dCons (dVar 5) dNil))) (dCons (dFn sp_law_pull [] (dCons (dVar 0) (dCons (dVar 5) dNil))) dNil))) dNil))))
    (dSeq (dDPut (dVar 2) (dOp oAdd (dC (.str "k")) (dCall oStr (dCons (dVar 4) dNil))) (dTup (dCons (dVar 4) (dCons (dFn sp_law_pull [] (dCons (dVar 0) (dCons (dVar 5) dNil))) dNil))))
    (dDPut (dVar 3) (dOp oAdd (dC (.str "s")) (dCall oStr (dCons (dVar 4) dNil))) (dTup (dCons (dVar 4) (dCons (dCall oTuple (dCons (dLc (dRange1 (dOp oAdd (dC (.int 2)) (dFn sp_law_pull [] (dCons (dVar 0) (dCons (dC (.int 3)) dNil))))) (dgName 6) dYes (dFn sp_law_pull [] (dCons (dVar 0) (dCons (dVar 5) dNil))) [6]) dNil)) dNil))))))))
    (dRet (dFrz (dNew "World" sp_World_init (dCons (dFrz (dVar 1)) (dCons (dFrz (dVar 2)) (dCons (dFrz (dVar 3)) dNil))))))))
theorem rd_law_world : ∀ ds M R, sp_law_world ds M R X0 → w_law_world (retTo R X0) (startG N_law_world ds) M := fun ds M R h => by
  match ds, h with
  | [.loc a], ⟨⟨t0, ht0⟩, q⟩ =>
    show w_law_world (retTo R X0) [some (.loc a), none, none, none, none, none, none] M
    unfold w_law_world
    walk_at "x"
    intro p1 hp1
    walk_at "x"
    intro p2 hp2
    walk_at "x"
    intro p3 hp3
    walk_at "x"
    refine ⟨_, _, _, rfl, ?_⟩
    have n4 : Ne4 a p1 p2 p3 := by
      have e1 : p1 ≠ a := fun e => by rw [e, ht0] at hp1; cases hp1
      have e2 : p2 ≠ p1 := fun e => by rw [e, mup_same] at hp2; cases hp2
      have e3 : p2 ≠ a := fun e => by rw [e, mup_ne e1.symm, ht0] at hp2; cases hp2
      have e4 : p3 ≠ p2 := fun e => by rw [e, mup_same] at hp3; cases hp3
      have e5 : p3 ≠ p1 := fun e => by rw [e, mup_ne e2.symm, mup_same] at hp3; cases hp3
      have e6 : p3 ≠ a := fun e => by rw [e, mup_ne e3.symm, mup_ne e1.symm, ht0] at hp3; cases hp3
      exact ⟨e1.symm, e3.symm, e6.symm, e2.symm, e5.symm, e4.symm⟩
    have f2 : M p2 = none := by rw [mup_ne n4.b1.symm] at hp2; exact hp2
    have f3 : M p3 = none := by rw [mup_ne n4.c1.symm, mup_ne n4.b2.symm] at hp3; exact hp3
    have s0 : St4 M a p1 p2 p3 (.dK []) (.dK []) (.dK []) (mup (mup (mup M p1 (.dK [])) p2 (.dK [])) p3 (.dK [])) := by
      refine ⟨⟨t0, ?_⟩, ?_, ?_, mup_same, fun b e1 e2 e3 e4 => ?_⟩
      · rw [mup_ne n4.a3, mup_ne n4.a2, mup_ne n4.a1]; exact ht0
      · rw [mup_ne n4.b2, mup_ne n4.b1]; exact mup_same
      · rw [mup_ne n4.c1]; exact mup_same
      · rw [mup_ne e4, mup_ne e3, mup_ne e2]
    generalize mup (mup (mup M p1 (.dK [])) p2 (.dK [])) p3 (.dK []) = M3 at s0
    walk_at "x"
    refine ⟨1, 9, rfl, rfl, by decide, ?_⟩
    refine for_inv (fun i Γ' M' => i ≤ 8 ∧ ∃ (W : Wd) (o4 o5 o6 : Option D), Γ' = [some (.loc a), some (.loc p1), some (.loc p2), some (.loc p3), o4, o5, o6] ∧ WdTo W i ∧ St4 M a p1 p2 p3 (.dK ((upto i).map (rowB W))) (.dK ((upto i).map (rowK W))) (.dK ((upto i).map (rowS W))) M')
      ⟨by decide, ⟨fun _ _ => 0, fun _ => 0, fun _ => []⟩, _, _, _, rfl, ⟨fun w h1 h2 => by omega, fun w h1 h2 => by omega, fun w h1 h2 => by omega⟩, s0⟩ (fun _ _ _ _ => trivial) (fun i d Γ' M' N hd hI hN => ?_) (fun Γ' M' hI => ?_)
    · obtain ⟨hi8, W, o4, o5, o6, rfl, hW, s⟩ := hI
      obtain ⟨hi, rfl⟩ := rgs_get hd
      have hi : i < 8 := hi
      rw [show ((1 : Int) + (i : Int)) = ((i + 1 : Nat) : Int) by omega]
      have h256 : 2 ^ (i + 1) ≤ 2 ^ 8 := Nat.pow_le_pow_right (by decide) (by omega)
      have hp0 := pow_pos2 (i + 1)
      walk_at "x"
      refine x_shl ⟨by omega, by omega, by decide⟩ ?_
      rw [shl1]
      walk_at "x"
      refine pull4 n4 s (by omega) (by omega) fun u M4 hu s => ?_
      walk_at "x"
      refine pull4 n4 s (by omega) (by omega) fun v M5 hv s => ?_
      walk_at "x"
      refine x_strN (by omega) (x_nm (by simp) (by omega) (by omega) ?_)
      refine ⟨_, dput_up s.h1 (by simp) hi, ?_⟩
      have s := s.put1 n4 (d := .dK (((upto i).map (rowB W)) ++ [(keyB "b" (i + 1), .tup [.int ((i + 1 : Nat) : Int), .tup [.int u, .int v]])]))
      walk_at "x"
      refine pull4 n4 s (by omega) (by omega) fun x M6 hx s => ?_
      walk_at "x"
      refine x_strN (by omega) (x_nm (by simp) (by omega) (by omega) ?_)
      refine ⟨_, dput_up s.h2 (by simp) hi, ?_⟩
      have s := s.put2 n4 (d := .dK (((upto i).map (rowK W)) ++ [(keyB "k" (i + 1), .tup [.int ((i + 1 : Nat) : Int), .int x])]))
      walk_at "x"
      refine pull4 n4 s (by omega) (by omega) fun m M7 hm s => ?_
      walk_at "x"
      have hl2 : (2 + (m : Int)).toNat ≤ sizeLine := Nat.le_trans (show _ ≤ 1000 by omega) (by decide)
      refine lc_draws (a := a) (fun _ x => ∃ v : Nat, v < 2 ^ (i + 1) ∧ x = .int (v : Int)) s.ta (by rw [rgs_len]; exact hl2) (fun d hd M' sb ht K F k => ?_) (fun A xs t' hA hAa hP => lcF_mk (by rw [mup_ne hAa]; exact hA) ?_)
      · obtain ⟨t, ht⟩ := ht
        walk_at "x"
        refine pull_at (Tt.refl ht) (by omega) (by omega) fun d2 M8 f1 f2 f3 => ?_
        obtain ⟨t3, rfl⟩ := f3
        obtain ⟨y, rfl⟩ := Int.eq_ofNat_of_zero_le f1
        exact k _ _ ⟨y, by omega, rfl⟩
      · obtain ⟨ys, hys, rfl⟩ : ∃ ys : List Nat, (∀ y ∈ ys, y < 2 ^ (i + 1)) ∧ xs = nD' ys := by
          clear hA s hd
          generalize rgs 0 (2 + (m : Int)).toNat = rr at hP
          induction hP with
          | nil => exact ⟨[], by simp, rfl⟩
          | cons h _ ih =>
            obtain ⟨v, hv, rfl⟩ := h
            obtain ⟨ys, h1, rfl⟩ := ih
            exact ⟨v :: ys, by intro y hy; rcases List.mem_cons.mp hy with rfl | h; exact hv; exact h1 y h, rfl⟩
        have s := s.tape n4 t'
        walk_at "x"
        refine x_strN (by omega) (x_nm (by simp) (by omega) (by omega) ?_)
        refine ⟨_, dput_up s.h3 (by simp) hi, ?_⟩
        have s := s.put3 n4 (d := .dK (((upto i).map (rowS W)) ++ [(keyB "s" (i + 1), .tup [.int ((i + 1 : Nat) : Int), .tup (nD' ys)])]))
        refine hN _ _ ⟨by omega, wput W (i + 1) u v x ys, _, _, _, rfl, ⟨fun w h1 h2 j hj => ?_, fun w h1 h2 => ?_, fun w h1 h2 => ?_⟩, ?_⟩
        · show (if w = i + 1 then (if j = 0 then u else v) else W.tok w j) < 2 ^ w
          split
          · next e => subst e; split <;> omega
          · exact hW.tok w h1 (by omega) j hj
        · show (if w = i + 1 then x else W.kp w) < 2 ^ w
          split
          · next e => subst e; omega
          · exact hW.kp w h1 (by omega)
        · show ∀ y ∈ (if w = i + 1 then ys else W.st w), y < 2 ^ w
          split
          · next e => subst e; exact hys
          · exact hW.st w h1 (by omega)
        · have hu : ∀ w ∈ upto i, w ≠ i + 1 := fun w hw => by have := upto_mem (by omega) hw; omega
          have g1 : (upto (i + 1)).map (rowB (wput W (i + 1) u v x ys)) = (upto i).map (rowB W) ++ [(keyB "b" (i + 1), .tup [.int ((i + 1 : Nat) : Int), .tup [.int u, .int v]])] := by
            rw [upto_succ hi, List.map_append]
            congr 1
            · exact List.map_congr_left fun w hw => by simp [rowB, wput, hu w hw]
            · simp [rowB, wput, nD']
          have g2 : (upto (i + 1)).map (rowK (wput W (i + 1) u v x ys)) = (upto i).map (rowK W) ++ [(keyB "k" (i + 1), .tup [.int ((i + 1 : Nat) : Int), .int x])] := by
            rw [upto_succ hi, List.map_append]
            congr 1
            · exact List.map_congr_left fun w hw => by simp [rowK, wput, hu w hw]
            · simp [rowK, wput]
          have g3 : (upto (i + 1)).map (rowS (wput W (i + 1) u v x ys)) = (upto i).map (rowS W) ++ [(keyB "s" (i + 1), .tup [.int ((i + 1 : Nat) : Int), .tup (nD' ys)])] := by
            rw [upto_succ hi, List.map_append]
            congr 1
            · exact List.map_congr_left fun w hw => by simp [rowS, wput, hu w hw]
            · simp [rowS, wput]
          rw [g1, g2, g3]
          exact s
    · obtain ⟨_, W, o4, o5, o6, rfl, hW, s⟩ := hI
      have n4' := n4
      obtain ⟨na1, na2, na3, nb1, nb2, nc1⟩ := n4'
      walk_at "x"
      refine x_frz ?_
      walk_at "x"
      refine x_frzK s.h1 rfl ?_
      walk_at "x"
      refine x_frzK (by rw [mdel_ne nb1.symm]; exact s.h2) rfl ?_
      walk_at "x"
      refine x_frzK (by rw [mdel_ne nc1.symm, mdel_ne nb2.symm]; exact s.h3) rfl ?_
      walk_at "x"
      intro p hp
      refine ⟨mup_same, rfl, ?_⟩
      rw [mup_mup]
      refine ⟨p, rfl, ?_⟩
      rw [mup_same]
      show (retTo R X0).rt _ _
      rw [mdel_mup hp]
      obtain ⟨t, ht⟩ := s.ta
      have em : mdel (mdel (mdel M' p1) p2) p3 = mup M a (tobj t) := by
        funext b
        by_cases e3 : b = p3
        · rw [e3, mdel_same, mup_ne na3.symm, f3]
        rw [mdel_ne e3]
        by_cases e2 : b = p2
        · rw [e2, mdel_same, mup_ne na2.symm, f2]
        rw [mdel_ne e2]
        by_cases e1 : b = p1
        · rw [e1, mdel_same, mup_ne na1.symm, hp1]
        rw [mdel_ne e1]
        by_cases e0 : b = a
        · rw [e0, mup_same, ht]
        · rw [mup_ne e0]; exact s.ot b e0 e1 e2 e3
      rw [em]
      exact rt_here (q W t ⟨hW.tok, hW.kp, hW.st⟩)
end Law
namespace Law
open PySem PySem.Spec PyProof.Rows L2 DL
local macro_rules | `(tactic| walk_at "x1") => `(tactic| first
  | with_reducible refine x_seq ?_ | with_reducible refine x_set ?_ | with_reducible refine x_ret ?_ | with_reducible refine x_ifS ?_ | with_reducible refine x_next ?_ | with_reducible refine x_asg ?_ | with_reducible refine x_drop ?_ | with_reducible refine x_for ?_ | with_reducible refine x_par ?_ | with_reducible refine ⟨_, _, rfl, ?_⟩
  | with_reducible refine x_op ?_ | ((with_reducible refine x_var (d := ?d) ?hx ?_); case hx => exact rfl) | with_reducible refine x_c ?_ | with_reducible refine x_B ?_ | with_reducible refine ⟨_, rfl, ?_⟩ | with_reducible refine x_call ?_ | with_reducible refine x_cons ?_ | with_reducible refine x_nil ?_ | with_reducible refine x_fn ?_
  | with_reducible refine x_if ?_ | with_reducible refine x_and ?_ | with_reducible refine x_or ?_ | with_reducible refine x_not ?_ | with_reducible refine x_andV ?_ | with_reducible refine x_orV ?_ | with_reducible refine x_notV ?_ | with_reducible refine x_chain ?_ | with_reducible refine x_un ?_
  | with_reducible refine x_tup ?_ | with_reducible refine x_lst ?_ | with_reducible refine x_lstM ?_ | with_reducible refine x_sz (Nat.le_of_ble_eq_true rfl) ?_ | with_reducible refine x_sl ?_ | with_reducible refine x_noP ?_ | with_reducible refine x_pt ?_
  | with_reducible refine x_range1 ?_ | with_reducible refine x_iter ?_ | with_reducible refine x_go_tup ?_ | with_reducible refine x_go_lst ?_ | with_reducible refine x_lc ?_ | with_reducible refine x_lcM ?_ | with_reducible refine x_lc2 ?_ | with_reducible refine x_yes ?_ | with_reducible refine x_gName ?_ | with_reducible refine x_gSub ?_
  | ((with_reducible refine x_gTup ?hx ?_); case hx => exact rfl) | ((with_reducible refine x_gTupL ?hx ?_); case hx => exact rfl) | with_reducible refine x_gCons ?_ | with_reducible refine x_gNil ?_ | with_reducible refine x_retN ?_ | with_reducible refine x_brk ?_ | with_reducible refine x_cont ?_
  | with_reducible refine x_add_i ?_ | with_reducible refine x_sub ?_ | with_reducible refine x_band ?_ | with_reducible refine x_bor ?_ | with_reducible refine x_bxor ?_ | with_reducible refine x_neg ?_ | with_reducible refine x_lt ?_ | with_reducible refine x_le ?_ | with_reducible refine x_gt ?_ | with_reducible refine x_ge ?_ | with_reducible refine x_eqI ?_ | with_reducible refine x_neI ?_
  | with_reducible refine x_isN ?_ | with_reducible refine x_isnotN ?_ | with_reducible refine x_isB ?_ | with_reducible refine x_isnotB ?_ | with_reducible refine x_int ?_ | with_reducible refine x_intB ?_ | with_reducible refine x_abs ?_ | with_reducible refine x_len_t ?_ | with_reducible refine x_len_l ?_ | with_reducible refine x_tuple_t ?_ | with_reducible refine x_tuple_l ?_ | with_reducible refine x_list_t ?_ | with_reducible refine x_list_l ?_ | with_reducible refine x_list_s ?_
  | with_reducible refine x_sl_t ?_ | with_reducible refine x_sl_l ?_ | with_reducible refine x_iadd_i ?_ | with_reducible refine x_isi ?_ | with_reducible refine x_din ?_ | with_reducible refine x_dnotin ?_ | with_reducible refine x_dgetE ?_ | with_reducible refine x_dput ?_ | with_reducible refine x_append ?_
  | with_reducible refine x_leX ?_ | with_reducible refine x_leS ?_ | with_reducible refine x_fld ?_ | with_reducible refine x_setF ?_ | with_reducible refine x_meth ?_ | with_reducible refine x_new ?_ | with_reducible refine x_isiC ?_ | with_reducible refine x_dget2 ?_ | with_reducible refine x_pop ?_ | with_reducible refine x_par3 ?_ | with_reducible refine x_iterS ?_
  | with_reducible refine x_T ?_ | with_reducible refine x_F ?_ | with_reducible refine x_nT ?_ | with_reducible refine x_nF ?_)
local macro_rules | `(tactic| walk_at "x2") => `(tactic| first
  | with_reducible refine x_bd (by omega) ?_ | with_reducible refine x_mod (by omega) ?_ | with_reducible refine x_div (by omega) ?_ | with_reducible refine x_shr (by omega) ?_ | with_reducible refine x_mul' (by omega) ?_ | with_reducible refine x_pow (by decide) ?_
  | ((with_reducible refine x_aug (x := ?d) ?hx ?_); case hx => exact rfl)
  | ((with_reducible refine x_ix_t (d := ?d) ?h0 ?hx ?_); (case h0 => omega); case hx => walk_at "at")
  | ((with_reducible refine x_ix_l (d := ?d) ?h0 ?hx ?_); (case h0 => omega); case hx => walk_at "at")
  | ((with_reducible refine x_ix_loc (ds := ?ds) (d := ?d) ?hm ?h0 ?hx ?_); (case hm => walk_at "m"); (case h0 => omega); case hx => walk_at "at")
  | ((with_reducible refine x_len_loc (ds := ?ds) ?hm ?_); case hm => walk_at "m") | ((with_reducible refine x_tuple_loc (ds := ?ds) ?hm ?_); case hm => walk_at "m") | ((with_reducible refine x_sl_loc (xs := ?ds) ?hm ?_); case hm => walk_at "m")
  | ((with_reducible refine ⟨_, ?ds, rfl, ?hm, ?_⟩); case hm => walk_at "m")
  | ((with_reducible refine ⟨_, ?ds, _, ?j, rfl, rfl, ?hm, ?hj, ?_⟩); (case hm => walk_at "m"); (case hj => walk_at "j")))
local macro_rules | `(tactic| walk_at "j") => `(tactic| exact rfl)
local macro_rules | `(tactic| walk_at "at") => `(tactic| first | exact rfl | assumption)
local macro_rules | `(tactic| walk_at "lt") => `(tactic| first | decide | omega | (simp; omega))
local macro_rules | `(tactic| walk_at "m") => `(tactic| first | exact mup_same | assumption)
local macro_rules | `(tactic| walk_at "x3") => `(tactic| first
  | ((with_reducible refine x_fldO (x := ?d) ?hC ?hl ?_); (case hl => exact rfl); case hC => decide) | with_reducible refine x_eqST (by decide +kernel) ?_ | with_reducible refine x_eqSF (by decide +kernel) ?_ | with_reducible refine x_inT rfl rfl (by decide +kernel) (by decide +kernel) ?_ | with_reducible refine x_inN rfl rfl (by decide +kernel) (by decide +kernel) ?_
  | with_reducible refine x_ty (b := true) rfl (by decide +kernel) ?_ | with_reducible refine x_ty (b := false) rfl (by decide +kernel) ?_ | with_reducible refine x_nYes (by walk_at "dec") ?_ | with_reducible refine x_nNo (by walk_at "dec") ?_ | with_reducible refine x_yesD (by walk_at "dec") ?_ | with_reducible refine x_noD (by walk_at "dec") ?_ | with_reducible refine x_yesE (by walk_at "dec") ?_ | with_reducible refine x_noE (by walk_at "dec") ?_ | with_reducible refine x_yesN (by walk_at "dec") ?_ | with_reducible refine x_noN (by walk_at "dec") ?_)
local macro_rules | `(tactic| walk_at "dec") => `(tactic| first | omega | (simp only [List.length_cons, List.length_nil, List.length_map, List.length_append, nD_len, List.length_range]; omega))
local macro_rules | `(tactic| walk_at "x") => `(tactic| repeat (first | walk_at "x1" | walk_at "x2"))
local macro_rules | `(tactic| walk_at "xx") => `(tactic| repeat (first | walk_at "x1" | walk_at "x2" | walk_at "x3"))

def pD (p : Tm × Tm) : D := .tup [dTm p.1, dTm p.2]
def sp_law_ones : DSp
  | [.int w], M, R, _ => ∃ width : Nat, w = width ∧ 1 ≤ width ∧ width ≤ 8 ∧ R (dTm (.const width (2 ^ width - 1))) M
  | _, _, _, _ => False
abbrev N_law_ones : List Str := ["wide"]
def w_law_ones : DS := (dRet (dTup (dCons (dC (.str "const")) (dCons (dVar 0) (dCons (dOp oSub (dOp oShl (dC (.int 1)) (dVar 0)) (dC (.int 1))) dNil)))))
theorem rd_law_ones : ∀ ds M R, sp_law_ones ds M R X0 → w_law_ones (retTo R X0) (startG N_law_ones ds) M := fun ds M R h => by
  match ds, h with
  | [.int w], ⟨width, e, h1, h2, q⟩ =>
    subst e
    show w_law_ones (retTo R X0) [some (.int width)] M
    unfold w_law_ones
    walk_at "x"
    refine x_shl ⟨by omega, by omega, by decide⟩ ?_
    rw [shl1]
    walk_at "xx"
    have := pow_pos2 width
    rw [show (((2 ^ width : Nat) : Int) - 1) = ((2 ^ width - 1 : Nat) : Int) by omega]
    exact rt_here q
def add (a b : Tm) : Tm := .bin .add a b
def sub (a b : Tm) : Tm := .bin .sub a b
def mul (a b : Tm) : Tm := .bin .mul a b
def andT (a b : Tm) : Tm := .bin .and a b
def orT (a b : Tm) : Tm := .bin .or a b
def xorT (a b : Tm) : Tm := .bin .xor a b
def eqT (a b : Tm) : Tm := .cmp false a b
def lessT (a b : Tm) : Tm := .cmp true a b
def anyT (a : Tm) : Tm := .red .any a
def allT (a : Tm) : Tm := .red .all a
def oddT (a : Tm) : Tm := .red .odd a
def ones (w : Nat) : Tm := .const w (2 ^ w - 1)
def ninth (a b : Tm) (w : Nat) : Tm × Tm := if 1 < w then (add (xorT a b) (mul (add (.const w 1) (.const w 1)) (andT a b)), add a b) else (add a b, xorT a b)
def pairsL (a b c : Tm) (w : Nat) : List (Tm × Tm) :=
  [(add a b, add b a), (add (add a b) c, add a (add b c)), (sub a b, add a (add (.not b) (.const w 1))),
   (mul a (add b c), add (mul a b) (mul a c)), (mul a b, mul b a), (sub a a, .const w 0),
   (.not (andT a b), orT (.not a) (.not b)), (xorT a b, andT (orT a b) (.not (andT a b))), ninth a b w,
   (andT a (orT b c), orT (andT a b) (andT a c)), (orT a (ones w), ones w), (.not (.not a), a), (mul a (.const w 1), a), (sub (.const w 0) a, add (.not a) (.const w 1))]
def bitsL (a b : Tm) (w : Nat) : List (Tm × Tm) :=
  [(eqT a b, .not (anyT (xorT a b))), (allT a, eqT a (ones w)), (anyT a, lessT (.const w 0) a),
   (oddT (xorT a b), xorT (oddT a) (oddT b)), (anyT a, .not (allT (.not a))), (lessT a b, lessT (.not b) (.not a)),
   (orT (eqT a b) (orT (lessT a b) (lessT b a)), .const 1 1), (andT (lessT a b) (lessT b a), .const 1 0),
   (lessT a a, .const 1 0), (eqT a a, .const 1 1), (andT (lessT a b) (eqT a b), .const 1 0)]
def part1 (t a b c : Tm) : List (Tm × Tm) := [(.pick t a b, .pick (.not t) b a), (.pick t a a, a), (.pick t (add a c) (add b c), add (.pick t a b) c)]
def hiT (a : Tm) (w l : Nat) : Tm := .part a (w - 1) l
def loT (a : Tm) (l : Nat) : Tm := .part a (l - 1) 0
def part2 (a : Tm) (w l : Nat) : List (Tm × Tm) :=
  [(.join2 (hiT a w l) (loT a l), a), (.part (.join2 (hiT a w l) (loT a l)) (l - 1) 0, loT a l), (oddT a, xorT (oddT (hiT a w l)) (oddT (loT a l))),
   (mul a (.const w (2 ^ l)), .join2 (.part a (w - 1 - l) 0) (.const l 0)), (anyT a, orT (anyT (hiT a w l)) (anyT (loT a l)))]
def upT (a : Tm) (w l : Nat) : Tm := .part a (w - 1) (l + 1)
def miT (a : Tm) (l : Nat) : Tm := .part a l l
def part3 (t a : Tm) (w l : Nat) : List (Tm × Tm) :=
  [(.join3 (upT a w l) (miT a l) (loT a l), a), (.join3 (miT a l) (loT a l) (upT a w l), .join2 (.join2 (miT a l) (loT a l)) (upT a w l)),
   (.part (.join3 (loT a l) (upT a w l) (miT a l)) (w - 1 - l) 1, upT a w l), (.join4 t t t t, .join2 (.join2 t t) (.join2 t t))]
def part4 (a b : Tm) (w l : Nat) : List (Tm × Tm) := [(.part (.not a) (w - 1) l, .not (hiT a w l)), (.part (add a b) (l - 1) 0, add (loT a l) (loT b l))]
def partL (t a b c : Tm) (w l : Nat) : List (Tm × Tm) :=
  if 1 < w then (if 1 < w - l then part1 t a b c ++ part2 a w l ++ part3 t a w l ++ part4 a b w l else part1 t a b c ++ part2 a w l ++ part4 a b w l) else part1 t a b c
def okABC (a b c : Tm) (w : Nat) : Prop := (wf a ∧ wid a = w ∧ deep a ≤ 3 ∧ many a ≤ 7) ∧ (wf b ∧ wid b = w ∧ deep b ≤ 3 ∧ many b ≤ 7) ∧ (wf c ∧ wid c = w ∧ deep c ≤ 3 ∧ many c ≤ 7) ∧ 1 ≤ w ∧ w ≤ 8
def sp_law_pairs : DSp
  | [x, y, z, .int w], M, R, _ => ∃ (a b c : Tm) (width : Nat), x = dTm a ∧ y = dTm b ∧ z = dTm c ∧ w = width ∧ 1 ≤ width ∧ width ≤ 8 ∧ R (.lst ((pairsL a b c width).map pD)) M
  | _, _, _, _ => False
theorem x_addL {a b : List D} {M : Mem} {R : Pst} (hl : a.length + b.length ≤ 1000) (h : R (.lst (a ++ b)) M) : oAdd (.lst a) (.lst b) M R := ⟨a, b, rfl, rfl, Nat.le_trans hl (by decide), h⟩
abbrev N_law_pairs : List Str := ["a", "b", "c", "wide", "nought", "one", "ones", "found"]
def w_law_pairs : DS := (dSeq (dPar3 4 5 6 (dCons (dTup (dCons (dC (.str "const")) (dCons (dVar 3) (dCons (dC (.int 0)) dNil)))) (dCons (dTup (dCons (dC (.str "const")) (dCons (dVar 3) (dCons (dC (.int 1)) dNil)))) (dCons (dFn sp_law_ones [] (dCons (dVar 3) dNil)) dNil))))
    (dSeq (dSet 7 (dLst (dCons (dTup (dCons (dTup (dCons (dC (.str "add")) (dCons (dVar 0) (dCons (dVar 1) dNil)))) (dCons (dTup (dCons (dC (.str "add")) (dCons (dVar 1) (dCons (dVar 0) dNil)))) dNil))) (dCons (dTup (dCons (dTup (dCons (dC (.str "add")) (dCons (dTup (dCons (dC (.str "add")) (dCons (dVar 0) (dCons (dVar 1) dNil)))) (dCons (dVar 2) dNil)))) (dCons (dTup (dCons (dC (.str "add")) (dCons (dVar 0) (dCons (dTup (dCons (dC (.str "add")) (dCons (dVar 1) (dCons (dVar 2) dNil)))) dNil)))) dNil))) (dCons (dTup (dCons (dTup (dCons (dC (.str "sub")) (dCons (dVar 0) (dCons (dVar 1) dNil)))) (dCons (dTup (dCons (dC (.str "add")) (dCons (dVar 0) (dCons (dTup (dCons (dC (.str "add")) (dCons (dTup (dCons (dC (.str "not")) (dCons (dVar 1) dNil))) (dCons (dVar 5) dNil)))) dNil)))) dNil))) dNil)))))
    (dSeq (dSet 7 (dOp oAdd (dVar 7) (dLst (dCons (dTup (dCons (dTup (dCons (dC (.str "mul")) (dCons (dVar 0) (dCons (dTup (dCons (dC (.str "add")) (dCons (dVar 1) (dCons (dVar 2) dNil)))) dNil)))) (dCons (dTup (dCons (dC (.str "add")) (dCons (dTup (dCons (dC (.str "mul")) (dCons (dVar 0) (dCons (dVar 1) dNil)))) (dCons (dTup (dCons (dC (.str "mul")) (dCons (dVar 0) (dCons (dVar 2) dNil)))) dNil)))) dNil))) (dCons (dTup (dCons (dTup (dCons (dC (.str "mul")) (dCons (dVar 0) (dCons (dVar 1) dNil)))) (dCons (dTup (dCons (dC (.str "mul")) (dCons (dVar 1) (dCons (dVar 0) dNil)))) dNil))) (dCons (dTup (dCons (dTup (dCons (dC (.str "sub")) (dCons (dVar 0) (dCons (dVar 0) dNil)))) (dCons (dVar 4) dNil))) dNil))))))
    (dSeq (dSet 7 (dOp oAdd (dVar 7) (dLst (dCons (dTup (dCons (dTup (dCons (dC (.str "not")) (dCons (dTup (dCons (dC (.str "and")) (dCons (dVar 0) (dCons (dVar 1) dNil)))) dNil))) (dCons (dTup (dCons (dC (.str "or")) (dCons (dTup (dCons (dC (.str "not")) (dCons (dVar 0) dNil))) (dCons (dTup (dCons (dC (.str "not")) (dCons (dVar 1) dNil))) dNil)))) dNil))) (dCons (dTup (dCons (dTup (dCons (dC (.str "xor")) (dCons (dVar 0) (dCons (dVar 1) dNil)))) (dCons (dTup (dCons (dC (.str "and")) (dCons (dTup (dCons (dC (.str "or")) (dCons (dVar 0) (dCons (dVar 1) dNil)))) (dCons (dTup (dCons (dC (.str "not")) (dCons (dTup (dCons (dC (.str "and")) (dCons (dVar 0) (dCons (dVar 1) dNil)))) dNil))) dNil)))) dNil))) dNil)))))
    (dSeq (dSet 7 (dOp oAdd (dVar 7) (dLst (dCons (dIf (dB (dOp oGt (dVar 3) (dC (.int 1)))) (dTup (dCons (dTup (dCons (dC (.str "add")) (dCons (dTup (dCons (dC (.str "xor")) (dCons (dVar 0) (dCons (dVar 1) dNil)))) (dCons (dTup (dCons (dC (.str "mul")) (dCons (dTup (dCons (dC (.str "add")) (dCons (dVar 5) (dCons (dVar 5) dNil)))) (dCons (dTup (dCons (dC (.str "and")) (dCons (dVar 0) (dCons (dVar 1) dNil)))) dNil)))) dNil)))) (dCons (dTup (dCons (dC (.str "add")) (dCons (dVar 0) (dCons (dVar 1) dNil)))) dNil))) (dTup (dCons (dTup (dCons (dC (.str "add")) (dCons (dVar 0) (dCons (dVar 1) dNil)))) (dCons (dTup (dCons (dC (.str "xor")) (dCons (dVar 0) (dCons (dVar 1) dNil)))) dNil)))) dNil))))
    (dSeq (dSet 7 (dOp oAdd (dVar 7) (dLst (dCons (dTup (dCons (dTup (dCons (dC (.str "and")) (dCons (dVar 0) (dCons (dTup (dCons (dC (.str "or")) (dCons (dVar 1) (dCons (dVar 2) dNil)))) dNil)))) (dCons (dTup (dCons (dC (.str "or")) (dCons (dTup (dCons (dC (.str "and")) (dCons (dVar 0) (dCons (dVar 1) dNil)))) (dCons (dTup (dCons (dC (.str "and")) (dCons (dVar 0) (dCons (dVar 2) dNil)))) dNil)))) dNil))) (dCons (dTup (dCons (dTup (dCons (dC (.str "or")) (dCons (dVar 0) (dCons (dVar 6) dNil)))) (dCons (dVar 6) dNil))) (dCons (dTup (dCons (dTup (dCons (dC (.str "not")) (dCons (dTup (dCons (dC (.str "not")) (dCons (dVar 0) dNil))) dNil))) (dCons (dVar 0) dNil))) dNil))))))
    (dRet (dOp oAdd (dVar 7) (dLst (dCons (dTup (dCons (dTup (dCons (dC (.str "mul")) (dCons (dVar 0) (dCons (dVar 5) dNil)))) (dCons (dVar 0) dNil))) (dCons (dTup (dCons (dTup (dCons (dC (.str "sub")) (dCons (dVar 4) (dCons (dVar 0) dNil)))) (dCons (dTup (dCons (dC (.str "add")) (dCons (dTup (dCons (dC (.str "not")) (dCons (dVar 0) dNil))) (dCons (dVar 5) dNil)))) dNil))) dNil)))))))))))
theorem rd_law_pairs : ∀ ds M R, sp_law_pairs ds M R X0 → w_law_pairs (retTo R X0) (startG N_law_pairs ds) M := fun ds M R h => by
  match ds, h with
  | [x, y, z, .int w], ⟨a, b, c, width, e1, e2, e3, e4, h1, h2, q⟩ =>
    subst e1 e2 e3 e4
    show w_law_pairs (retTo R X0) [some (dTm a), some (dTm b), some (dTm c), some (.int width), none, none, none, none] M
    unfold w_law_pairs
    walk_at "x"
    refine ⟨width, rfl, h1, h2, ?_⟩
    walk_at "x"
    refine ⟨_, _, _, rfl, ?_⟩
    generalize he : dTm (.const width (2 ^ width - 1)) = dOnes
    walk_at "x"
    refine x_addL (Nat.le_of_ble_eq_true rfl) ?_
    walk_at "x"
    refine x_addL (Nat.le_of_ble_eq_true rfl) ?_
    walk_at "x"
    refine x_both (fun hw => ?_) (fun hw => ?_)
    · walk_at "x"
      refine x_addL (Nat.le_of_ble_eq_true rfl) ?_
      walk_at "x"
      refine x_addL (Nat.le_of_ble_eq_true rfl) ?_
      walk_at "x"
      refine x_addL (Nat.le_of_ble_eq_true rfl) ?_
      subst he
      have e : ninth a b width = (add (xorT a b) (mul (add (.const width 1) (.const width 1)) (andT a b)), add a b) := if_pos (by omega)
      unfold pairsL at q
      rw [e] at q
      exact rt_here q
    · walk_at "x"
      refine x_addL (Nat.le_of_ble_eq_true rfl) ?_
      walk_at "x"
      refine x_addL (Nat.le_of_ble_eq_true rfl) ?_
      walk_at "x"
      refine x_addL (Nat.le_of_ble_eq_true rfl) ?_
      subst he
      have e : ninth a b width = (add a b, xorT a b) := if_neg (by omega)
      unfold pairsL at q
      rw [e] at q
      exact rt_here q
def sp_law_bits : DSp
  | [x, y, .int w], M, R, _ => ∃ (a b : Tm) (width : Nat), x = dTm a ∧ y = dTm b ∧ w = width ∧ 1 ≤ width ∧ width ≤ 8 ∧ R (.lst ((bitsL a b width).map pD)) M
  | _, _, _, _ => False
abbrev N_law_bits : List Str := ["a", "b", "wide", "found"]
def w_law_bits : DS := (dSeq (dSet 3 (dLst (dCons (dTup (dCons (dTup (dCons (dC (.str "eq")) (dCons (dVar 0) (dCons (dVar 1) dNil)))) (dCons (dTup (dCons (dC (.str "not")) (dCons (dTup (dCons (dC (.str "any")) (dCons (dTup (dCons (dC (.str "xor")) (dCons (dVar 0) (dCons (dVar 1) dNil)))) dNil))) dNil))) dNil))) (dCons (dTup (dCons (dTup (dCons (dC (.str "all")) (dCons (dVar 0) dNil))) (dCons (dTup (dCons (dC (.str "eq")) (dCons (dVar 0) (dCons (dFn sp_law_ones [] (dCons (dVar 2) dNil)) dNil)))) dNil))) (dCons (dTup (dCons (dTup (dCons (dC (.str "any")) (dCons (dVar 0) dNil))) (dCons (dTup (dCons (dC (.str "less")) (dCons (dTup (dCons (dC (.str "const")) (dCons (dVar 2) (dCons (dC (.int 0)) dNil)))) (dCons (dVar 0) dNil)))) dNil))) dNil)))))
    (dSeq (dSet 3 (dOp oAdd (dVar 3) (dLst (dCons (dTup (dCons (dTup (dCons (dC (.str "odd")) (dCons (dTup (dCons (dC (.str "xor")) (dCons (dVar 0) (dCons (dVar 1) dNil)))) dNil))) (dCons (dTup (dCons (dC (.str "xor")) (dCons (dTup (dCons (dC (.str "odd")) (dCons (dVar 0) dNil))) (dCons (dTup (dCons (dC (.str "odd")) (dCons (dVar 1) dNil))) dNil)))) dNil))) (dCons (dTup (dCons (dTup (dCons (dC (.str "any")) (dCons (dVar 0) dNil))) (dCons (dTup (dCons (dC (.str "not")) (dCons (dTup (dCons (dC (.str "all")) (dCons (dTup (dCons (dC (.str "not")) (dCons (dVar 0) dNil))) dNil))) dNil))) dNil))) (dCons (dTup (dCons (dTup (dCons (dC (.str "less")) (dCons (dVar 0) (dCons (dVar 1) dNil)))) (dCons (dTup (dCons (dC (.str "less")) (dCons (dTup (dCons (dC (.str "not")) (dCons (dVar 1) dNil))) (dCons (dTup (dCons (dC (.str "not")) (dCons (dVar 0) dNil))) dNil)))) dNil))) dNil))))))
    (dSeq (dSet 3 (dOp oAdd (dVar 3) (dLst (dCons (dTup (dCons (dTup (dCons (dC (.str "or")) (dCons (dTup (dCons (dC (.str "eq")) (dCons (dVar 0) (dCons (dVar 1) dNil)))) (dCons (dTup (dCons (dC (.str "or")) (dCons (dTup (dCons (dC (.str "less")) (dCons (dVar 0) (dCons (dVar 1) dNil)))) (dCons (dTup (dCons (dC (.str "less")) (dCons (dVar 1) (dCons (dVar 0) dNil)))) dNil)))) dNil)))) (dCons (dTup (dCons (dC (.str "const")) (dCons (dC (.int 1)) (dCons (dC (.int 1)) dNil)))) dNil))) (dCons (dTup (dCons (dTup (dCons (dC (.str "and")) (dCons (dTup (dCons (dC (.str "less")) (dCons (dVar 0) (dCons (dVar 1) dNil)))) (dCons (dTup (dCons (dC (.str "less")) (dCons (dVar 1) (dCons (dVar 0) dNil)))) dNil)))) (dCons (dTup (dCons (dC (.str "const")) (dCons (dC (.int 1)) (dCons (dC (.int 0)) dNil)))) dNil))) dNil)))))
    (dRet (dOp oAdd (dVar 3) (dLst (dCons (dTup (dCons (dTup (dCons (dC (.str "less")) (dCons (dVar 0) (dCons (dVar 0) dNil)))) (dCons (dTup (dCons (dC (.str "const")) (dCons (dC (.int 1)) (dCons (dC (.int 0)) dNil)))) dNil))) (dCons (dTup (dCons (dTup (dCons (dC (.str "eq")) (dCons (dVar 0) (dCons (dVar 0) dNil)))) (dCons (dTup (dCons (dC (.str "const")) (dCons (dC (.int 1)) (dCons (dC (.int 1)) dNil)))) dNil))) (dCons (dTup (dCons (dTup (dCons (dC (.str "and")) (dCons (dTup (dCons (dC (.str "less")) (dCons (dVar 0) (dCons (dVar 1) dNil)))) (dCons (dTup (dCons (dC (.str "eq")) (dCons (dVar 0) (dCons (dVar 1) dNil)))) dNil)))) (dCons (dTup (dCons (dC (.str "const")) (dCons (dC (.int 1)) (dCons (dC (.int 0)) dNil)))) dNil))) dNil)))))))))
theorem rd_law_bits : ∀ ds M R, sp_law_bits ds M R X0 → w_law_bits (retTo R X0) (startG N_law_bits ds) M := fun ds M R h => by
  match ds, h with
  | [x, y, .int w], ⟨a, b, width, e1, e2, e4, h1, h2, q⟩ =>
    subst e1 e2 e4
    show w_law_bits (retTo R X0) [some (dTm a), some (dTm b), some (.int width), none] M
    unfold w_law_bits
    walk_at "x"
    refine ⟨width, rfl, h1, h2, ?_⟩
    walk_at "x"
    refine x_addL (Nat.le_of_ble_eq_true rfl) ?_
    walk_at "x"
    refine x_addL (Nat.le_of_ble_eq_true rfl) ?_
    walk_at "x"
    refine x_addL (Nat.le_of_ble_eq_true rfl) ?_
    exact rt_here q
end Law
namespace Law
open PySem PySem.Spec PyProof.Rows L2 DL
local macro_rules | `(tactic| walk_at "x1") => `(tactic| first
  | with_reducible refine x_seq ?_ | with_reducible refine x_set ?_ | with_reducible refine x_ret ?_ | with_reducible refine x_ifS ?_ | with_reducible refine x_next ?_ | with_reducible refine x_asg ?_ | with_reducible refine x_drop ?_ | with_reducible refine x_for ?_ | with_reducible refine x_par ?_ | with_reducible refine ⟨_, _, rfl, ?_⟩
  | with_reducible refine x_op ?_ | ((with_reducible refine x_var (d := ?d) ?hx ?_); case hx => exact rfl) | with_reducible refine x_c ?_ | with_reducible refine x_B ?_ | with_reducible refine ⟨_, rfl, ?_⟩ | with_reducible refine x_call ?_ | with_reducible refine x_cons ?_ | with_reducible refine x_nil ?_ | with_reducible refine x_fn ?_
  | with_reducible refine x_if ?_ | with_reducible refine x_and ?_ | with_reducible refine x_or ?_ | with_reducible refine x_not ?_ | with_reducible refine x_andV ?_ | with_reducible refine x_orV ?_ | with_reducible refine x_notV ?_ | with_reducible refine x_chain ?_ | with_reducible refine x_un ?_
  | with_reducible refine x_tup ?_ | with_reducible refine x_lst ?_ | with_reducible refine x_lstM ?_ | with_reducible refine x_sz (Nat.le_of_ble_eq_true rfl) ?_ | with_reducible refine x_sl ?_ | with_reducible refine x_noP ?_ | with_reducible refine x_pt ?_
  | with_reducible refine x_range1 ?_ | with_reducible refine x_iter ?_ | with_reducible refine x_go_tup ?_ | with_reducible refine x_go_lst ?_ | with_reducible refine x_lc ?_ | with_reducible refine x_lcM ?_ | with_reducible refine x_lc2 ?_ | with_reducible refine x_yes ?_ | with_reducible refine x_gName ?_ | with_reducible refine x_gSub ?_
  | ((with_reducible refine x_gTup ?hx ?_); case hx => exact rfl) | ((with_reducible refine x_gTupL ?hx ?_); case hx => exact rfl) | with_reducible refine x_gCons ?_ | with_reducible refine x_gNil ?_ | with_reducible refine x_retN ?_ | with_reducible refine x_brk ?_ | with_reducible refine x_cont ?_
  | with_reducible refine x_add_i ?_ | with_reducible refine x_sub ?_ | with_reducible refine x_band ?_ | with_reducible refine x_bor ?_ | with_reducible refine x_bxor ?_ | with_reducible refine x_neg ?_ | with_reducible refine x_lt ?_ | with_reducible refine x_le ?_ | with_reducible refine x_gt ?_ | with_reducible refine x_ge ?_ | with_reducible refine x_eqI ?_ | with_reducible refine x_neI ?_
  | with_reducible refine x_isN ?_ | with_reducible refine x_isnotN ?_ | with_reducible refine x_isB ?_ | with_reducible refine x_isnotB ?_ | with_reducible refine x_int ?_ | with_reducible refine x_intB ?_ | with_reducible refine x_abs ?_ | with_reducible refine x_len_t ?_ | with_reducible refine x_len_l ?_ | with_reducible refine x_tuple_t ?_ | with_reducible refine x_tuple_l ?_ | with_reducible refine x_list_t ?_ | with_reducible refine x_list_l ?_ | with_reducible refine x_list_s ?_
  | with_reducible refine x_sl_t ?_ | with_reducible refine x_sl_l ?_ | with_reducible refine x_iadd_i ?_ | with_reducible refine x_isi ?_ | with_reducible refine x_din ?_ | with_reducible refine x_dnotin ?_ | with_reducible refine x_dgetE ?_ | with_reducible refine x_dput ?_ | with_reducible refine x_append ?_
  | with_reducible refine x_leX ?_ | with_reducible refine x_leS ?_ | with_reducible refine x_fld ?_ | with_reducible refine x_setF ?_ | with_reducible refine x_meth ?_ | with_reducible refine x_new ?_ | with_reducible refine x_isiC ?_ | with_reducible refine x_dget2 ?_ | with_reducible refine x_pop ?_ | with_reducible refine x_par3 ?_ | with_reducible refine x_iterS ?_
  | with_reducible refine x_T ?_ | with_reducible refine x_F ?_ | with_reducible refine x_nT ?_ | with_reducible refine x_nF ?_)
local macro_rules | `(tactic| walk_at "x2") => `(tactic| first
  | with_reducible refine x_bd (by omega) ?_ | with_reducible refine x_mod (by omega) ?_ | with_reducible refine x_div (by omega) ?_ | with_reducible refine x_shr (by omega) ?_ | with_reducible refine x_mul' (by omega) ?_ | with_reducible refine x_pow (by decide) ?_
  | ((with_reducible refine x_aug (x := ?d) ?hx ?_); case hx => exact rfl)
  | ((with_reducible refine x_ix_t (d := ?d) ?h0 ?hx ?_); (case h0 => omega); case hx => walk_at "at")
  | ((with_reducible refine x_ix_l (d := ?d) ?h0 ?hx ?_); (case h0 => omega); case hx => walk_at "at")
  | ((with_reducible refine x_ix_loc (ds := ?ds) (d := ?d) ?hm ?h0 ?hx ?_); (case hm => walk_at "m"); (case h0 => omega); case hx => walk_at "at")
  | ((with_reducible refine x_len_loc (ds := ?ds) ?hm ?_); case hm => walk_at "m") | ((with_reducible refine x_tuple_loc (ds := ?ds) ?hm ?_); case hm => walk_at "m") | ((with_reducible refine x_sl_loc (xs := ?ds) ?hm ?_); case hm => walk_at "m")
  | ((with_reducible refine ⟨_, ?ds, rfl, ?hm, ?_⟩); case hm => walk_at "m")
  | ((with_reducible refine ⟨_, ?ds, _, ?j, rfl, rfl, ?hm, ?hj, ?_⟩); (case hm => walk_at "m"); (case hj => walk_at "j")))
local macro_rules | `(tactic| walk_at "j") => `(tactic| exact rfl)
local macro_rules | `(tactic| walk_at "at") => `(tactic| first | exact rfl | assumption)
local macro_rules | `(tactic| walk_at "lt") => `(tactic| first | decide | omega | (simp; omega))
local macro_rules | `(tactic| walk_at "m") => `(tactic| first | exact mup_same | assumption)
local macro_rules | `(tactic| walk_at "x3") => `(tactic| first
  | ((with_reducible refine x_fldO (x := ?d) ?hC ?hl ?_); (case hl => exact rfl); case hC => decide) | with_reducible refine x_eqST (by decide +kernel) ?_ | with_reducible refine x_eqSF (by decide +kernel) ?_ | with_reducible refine x_inT rfl rfl (by decide +kernel) (by decide +kernel) ?_ | with_reducible refine x_inN rfl rfl (by decide +kernel) (by decide +kernel) ?_
  | with_reducible refine x_ty (b := true) rfl (by decide +kernel) ?_ | with_reducible refine x_ty (b := false) rfl (by decide +kernel) ?_ | with_reducible refine x_nYes (by walk_at "dec") ?_ | with_reducible refine x_nNo (by walk_at "dec") ?_ | with_reducible refine x_yesD (by walk_at "dec") ?_ | with_reducible refine x_noD (by walk_at "dec") ?_ | with_reducible refine x_yesE (by walk_at "dec") ?_ | with_reducible refine x_noE (by walk_at "dec") ?_ | with_reducible refine x_yesN (by walk_at "dec") ?_ | with_reducible refine x_noN (by walk_at "dec") ?_)
local macro_rules | `(tactic| walk_at "dec") => `(tactic| first | omega | (simp only [List.length_cons, List.length_nil, List.length_map, List.length_append, nD_len, List.length_range]; omega))
local macro_rules | `(tactic| walk_at "x") => `(tactic| repeat (first | walk_at "x1" | walk_at "x2"))
local macro_rules | `(tactic| walk_at "xx") => `(tactic| repeat (first | walk_at "x1" | walk_at "x2" | walk_at "x3"))

def sp_law_parted : DSp
  | [.loc p, x, y, z, .int w], M, R, _ => ∃ (a b c : Tm) (width : Nat), x = dTm a ∧ y = dTm b ∧ z = dTm c ∧ w = width ∧ 1 ≤ width ∧ width ≤ 8 ∧ (∃ t, M p = some (tobj t)) ∧
      ∀ t l t', wf t → wid t = 1 → deep t ≤ 2 → many t ≤ 2 → (1 < width → 1 ≤ l ∧ l < width) → R (.lst ((partL t a b c width l).map pD)) (mup M p (tobj t'))
  | _, _, _, _ => False
abbrev N_law_parted : List Str := ["tape", "a", "b", "c", "wide", "bit", "found", "low", "high", "lower", "twice", "upper", "middle"]
def w_law_parted : DS := (dSeq (dSet 5 (dFn (sp_law_term 3) [] (dCons (dVar 0) (dCons (dC (.int 1)) (dCons (dC (.int 1)) dNil)))))
    (dSeq (dSet 6 (dLst (dCons (dTup (dCons (dTup (dCons (dC (.str "pick")) (dCons (dVar 5) (dCons (dVar 1) (dCons (dVar 2) dNil))))) (dCons (dTup (dCons (dC (.str "pick")) (dCons (dTup (dCons (dC (.str "not")) (dCons (dVar 5) dNil))) (dCons (dVar 2) (dCons (dVar 1) dNil))))) dNil))) (dCons (dTup (dCons (dTup (dCons (dC (.str "pick")) (dCons (dVar 5) (dCons (dVar 1) (dCons (dVar 1) dNil))))) (dCons (dVar 1) dNil))) (dCons (dTup (dCons (dTup (dCons (dC (.str "pick")) (dCons (dVar 5) (dCons (dTup (dCons (dC (.str "add")) (dCons (dVar 1) (dCons (dVar 3) dNil)))) (dCons (dTup (dCons (dC (.str "add")) (dCons (dVar 2) (dCons (dVar 3) dNil)))) dNil))))) (dCons (dTup (dCons (dC (.str "add")) (dCons (dTup (dCons (dC (.str "pick")) (dCons (dVar 5) (dCons (dVar 1) (dCons (dVar 2) dNil))))) (dCons (dVar 3) dNil)))) dNil))) dNil)))))
    (dSeq (dIfS (dB (dOp oGt (dVar 4) (dC (.int 1)))) (dSeq (dSet 7 (dOp oAdd (dC (.int 1)) (dFn sp_law_pull [] (dCons (dVar 0) (dCons (dOp oSub (dVar 4) (dC (.int 1))) dNil)))))
    (dSeq (dPar 8 9 (dCons (dTup (dCons (dC (.str "part")) (dCons (dVar 1) (dCons (dOp oSub (dVar 4) (dC (.int 1))) (dCons (dVar 7) dNil))))) (dCons (dTup (dCons (dC (.str "part")) (dCons (dVar 1) (dCons (dOp oSub (dVar 7) (dC (.int 1))) (dCons (dC (.int 0)) dNil))))) dNil)))
    (dSeq (dSet 6 (dOp oAdd (dVar 6) (dLst (dCons (dTup (dCons (dTup (dCons (dC (.str "join")) (dCons (dTup (dCons (dVar 8) (dCons (dVar 9) dNil))) dNil))) (dCons (dVar 1) dNil))) (dCons (dTup (dCons (dTup (dCons (dC (.str "part")) (dCons (dTup (dCons (dC (.str "join")) (dCons (dTup (dCons (dVar 8) (dCons (dVar 9) dNil))) dNil))) (dCons (dOp oSub (dVar 7) (dC (.int 1))) (dCons (dC (.int 0)) dNil))))) (dCons (dVar 9) dNil))) (dCons (dTup (dCons (dTup (dCons (dC (.str "odd")) (dCons (dVar 1) dNil))) (dCons (dTup (dCons (dC (.str "xor")) (dCons (dTup (dCons (dC (.str "odd")) (dCons (dVar 8) dNil))) (dCons (dTup (dCons (dC (.str "odd")) (dCons (dVar 9) dNil))) dNil)))) dNil))) dNil))))))
    (dSeq (dSet 10 (dTup (dCons (dC (.str "const")) (dCons (dVar 4) (dCons (dOp oShl (dC (.int 1)) (dVar 7)) dNil)))))
    (dSeq (dSet 6 (dOp oAdd (dVar 6) (dLst (dCons (dTup (dCons (dTup (dCons (dC (.str "mul")) (dCons (dVar 1) (dCons (dVar 10) dNil)))) (dCons (dTup (dCons (dC (.str "join")) (dCons (dTup (dCons (dTup (dCons (dC (.str "part")) (dCons (dVar 1) (dCons (dOp oSub (dOp oSub (dVar 4) (dC (.int 1))) (dVar 7)) (dCons (dC (.int 0)) dNil))))) (dCons (dTup (dCons (dC (.str "const")) (dCons (dVar 7) (dCons (dC (.int 0)) dNil)))) dNil))) dNil))) dNil))) (dCons (dTup (dCons (dTup (dCons (dC (.str "any")) (dCons (dVar 1) dNil))) (dCons (dTup (dCons (dC (.str "or")) (dCons (dTup (dCons (dC (.str "any")) (dCons (dVar 8) dNil))) (dCons (dTup (dCons (dC (.str "any")) (dCons (dVar 9) dNil))) dNil)))) dNil))) dNil)))))
    (dSeq (dIfS (dB (dOp oGt (dOp oSub (dVar 4) (dVar 7)) (dC (.int 1)))) (dSeq (dPar 11 12 (dCons (dTup (dCons (dC (.str "part")) (dCons (dVar 1) (dCons (dOp oSub (dVar 4) (dC (.int 1))) (dCons (dOp oAdd (dVar 7) (dC (.int 1))) dNil))))) (dCons (dTup (dCons (dC (.str "part")) (dCons (dVar 1) (dCons (dVar 7) (dCons (dVar 7) dNil))))) dNil)))
    (dSeq (dSet 6 (dOp oAdd (dVar 6) (dLst (dCons (dTup (dCons (dTup (dCons (dC (.str "join")) (dCons (dTup (dCons (dVar 11) (dCons (dVar 12) (dCons (dVar 9) dNil)))) dNil))) (dCons (dVar 1) dNil))) (dCons (dTup (dCons (dTup (dCons (dC (.str "join")) (dCons (dTup (dCons (dVar 12) (dCons (dVar 9) (dCons (dVar 11) dNil)))) dNil))) (dCons (dTup (dCons (dC (.str "join")) (dCons (dTup (dCons (dTup (dCons (dC (.str "join")) (dCons (dTup (dCons (dVar 12) (dCons (dVar 9) dNil))) dNil))) (dCons (dVar 11) dNil))) dNil))) dNil))) dNil)))))
    (dSet 6 (dOp oAdd (dVar 6) (dLst (dCons (dTup (dCons (dTup (dCons (dC (.str "part")) (dCons (dTup (dCons (dC (.str "join")) (dCons (dTup (dCons (dVar 9) (dCons (dVar 11) (dCons (dVar 12) dNil)))) dNil))) (dCons (dOp oSub (dOp oSub (dVar 4) (dC (.int 1))) (dVar 7)) (dCons (dC (.int 1)) dNil))))) (dCons (dVar 11) dNil))) (dCons (dTup (dCons (dTup (dCons (dC (.str "join")) (dCons (dOp oRepT (dTup (dCons (dVar 5) dNil)) (dC (.int 4))) dNil))) (dCons (dTup (dCons (dC (.str "join")) (dCons (dTup (dCons (dTup (dCons (dC (.str "join")) (dCons (dTup (dCons (dVar 5) (dCons (dVar 5) dNil))) dNil))) (dCons (dTup (dCons (dC (.str "join")) (dCons (dTup (dCons (dVar 5) (dCons (dVar 5) dNil))) dNil))) dNil))) dNil))) dNil))) dNil))))))) dNext)
    (dSet 6 (dOp oAdd (dVar 6) (dLst (dCons (dTup (dCons (dTup (dCons (dC (.str "part")) (dCons (dTup (dCons (dC (.str "not")) (dCons (dVar 1) dNil))) (dCons (dOp oSub (dVar 4) (dC (.int 1))) (dCons (dVar 7) dNil))))) (dCons (dTup (dCons (dC (.str "not")) (dCons (dVar 8) dNil))) dNil))) (dCons (dTup (dCons (dTup (dCons (dC (.str "part")) (dCons (dTup (dCons (dC (.str "add")) (dCons (dVar 1) (dCons (dVar 2) dNil)))) (dCons (dOp oSub (dVar 7) (dC (.int 1))) (dCons (dC (.int 0)) dNil))))) (dCons (dTup (dCons (dC (.str "add")) (dCons (dVar 9) (dCons (dTup (dCons (dC (.str "part")) (dCons (dVar 2) (dCons (dOp oSub (dVar 7) (dC (.int 1))) (dCons (dC (.int 0)) dNil))))) dNil)))) dNil))) dNil))))))))))) dNext)
    (dRet (dVar 6)))))
theorem rd_law_parted : ∀ ds M R, sp_law_parted ds M R X0 → w_law_parted (retTo R X0) (startG N_law_parted ds) M := fun ds M R h => by
  match ds, h with
  | [.loc p, x, y, z, .int w], ⟨a, b, c, width, e1, e2, e3, e4, h1, h2, ⟨t0, ht0⟩, q⟩ =>
    subst e1 e2 e3 e4
    show w_law_parted (retTo R X0) [some (.loc p), some (dTm a), some (dTm b), some (dTm c), some (.int width), none, none, none, none, none, none, none, none] M
    have q : ∀ t l M', wf t → wid t = 1 → deep t ≤ 2 → many t ≤ 2 → (1 < width → 1 ≤ l ∧ l < width) → Tt p M M' → (retTo R X0).rt (.lst ((partL t a b c width l).map pD)) M' := fun t l M' g1 g2 g3 g4 g5 ⟨t', e⟩ => rt_here (by rw [e]; exact q t l t' g1 g2 g3 g4 g5)
    unfold w_law_parted
    walk_at "x"
    refine term_at (Tt.refl ht0) 1 1 rfl rfl (by omega) (by omega) (by omega) (by omega) (by omega) fun t M1 a1 a2 a3 a4 T1 => ?_
    walk_at "x"
    refine x_both (fun hw => ?_) (fun hw => ?_)
    · have hw : 1 < width := by omega
      walk_at "x"
      refine pull_at T1 (by omega) (by omega) fun d M2 f1 f2 T2 => ?_
      obtain ⟨v, rfl⟩ := Int.eq_ofNat_of_zero_le f1
      obtain ⟨l, rfl⟩ : ∃ l, l = 1 + v := ⟨_, rfl⟩
      have hl : 1 ≤ 1 + v ∧ 1 + v < width := by omega
      generalize hll : 1 + v = l at hl
      refine x_add_i ?_
      rw [show (1 : Int) + (v : Int) = (l : Int) by omega]
      have q := q t l M2 a1 a2 a3 a4 (fun _ => hl) T2
      unfold partL at q
      rw [if_pos hw] at q
      have ez1 : (width : Int) - 1 = ((width - 1 : Nat) : Int) := by omega
      have ez2 : (l : Int) - 1 = ((l - 1 : Nat) : Int) := by omega
      have ez3 : ((width - 1 : Nat) : Int) - (l : Int) = ((width - 1 - l : Nat) : Int) := by omega
      have ez4 : (l : Int) + 1 = ((l + 1 : Nat) : Int) := by omega
      walk_at "x"
      rw [ez1, ez2]
      refine x_addL (Nat.le_of_ble_eq_true rfl) ?_
      walk_at "x"
      refine x_shl ⟨by omega, by omega, by decide⟩ ?_
      rw [shl1]
      walk_at "x"
      rw [ez1, ez3]
      refine x_addL (Nat.le_of_ble_eq_true rfl) ?_
      walk_at "x"
      refine x_both (fun hu => ?_) (fun hu => ?_)
      · rw [if_pos (by omega)] at q
        walk_at "x"
        refine x_addL (Nat.le_of_ble_eq_true rfl) ?_
        walk_at "x"
        refine ⟨by simp, by decide, by decide, by simp, ?_⟩
        walk_at "x"
        refine x_addL (Nat.le_of_ble_eq_true rfl) ?_
        walk_at "x"
        refine x_addL (Nat.le_of_ble_eq_true rfl) ?_
        walk_at "x"
        try rw [ez1]
        try rw [ez2]
        try rw [ez3]
        try rw [ez4]
        exact q
      · rw [if_neg (by omega)] at q
        walk_at "x"
        refine x_addL (Nat.le_of_ble_eq_true rfl) ?_
        walk_at "x"
        try rw [ez1]
        try rw [ez2]
        exact q
    · walk_at "x"
      have q := q t 1 M1 a1 a2 a3 a4 (fun h => absurd h (by omega)) T1
      unfold partL at q
      rw [if_neg (by omega)] at q
      exact q
end Law
namespace Law
open PySem PySem.Spec PyProof.Rows L2 DL
def Same (w : Nat) (p : Tm × Tm) : Prop := (wf p.1 ∧ wf p.2 ∧ wid p.1 = w ∧ wid p.2 = w) ∧ (∀ W, WdOk W → val W p.1 = val W p.2) ∧ (deep p.1 ≤ 12 ∧ deep p.2 ≤ 12 ∧ many p.1 ≤ 60 ∧ many p.2 ≤ 60)
local macro_rules | `(tactic| walk_at "un") => `(tactic| simp only [wf, wid, val, binV, redV, deep, many, add, sub, mul, andT, orT, xorT, eqT, lessT, anyT, allT, oddT, ones, hiT, loT, upT, miT, if_true, Bool.false_eq_true, if_false, *])
local macro_rules | `(tactic| walk_at "sz") => `(tactic| (simp only [deep, many, add, sub, mul, andT, orT, xorT, eqT, lessT, anyT, allT, oddT, ones, hiT, loT, upT, miT]; omega))
local macro_rules | `(tactic| walk_at "wf") => `(tactic| (simp only [wf, wid, add, sub, mul, andT, orT, xorT, eqT, lessT, anyT, allT, oddT, ones, hiT, loT, upT, miT, true_and, and_true, *]; try omega))
theorem i_less_anti (a b : Nat) : ((if a < b then 1 else 0 : Nat) &&& if b < a then 1 else 0) = 0 := by
  by_cases h : a < b
  · rw [if_pos h, if_neg (by omega)]; rfl
  · rw [if_neg h]; exact Nat.zero_and _
section
variable {a b c : Tm} {w : Nat} (ha : wf a) (wa : wid a = w) (da : deep a ≤ 3) (ma : many a ≤ 7) (hb : wf b) (wb : wid b = w) (db : deep b ≤ 3) (mb : many b ≤ 7) (hc : wf c) (wc : wid c = w) (dc : deep c ≤ 3) (mc : many c ≤ 7) (h1 : 1 ≤ w) (h2 : w ≤ 8)
include ha wa da ma hb wb db mb hc wc dc mc h1 h2
theorem same_pairs : ∀ p ∈ pairsL a b c w, Same w p := by
  have hp := pow_pos2 w
  have hp1 : 1 < 2 ^ w := Nat.lt_of_lt_of_le (by decide : 1 < 2 ^ 1) (Nat.pow_le_pow_right (by decide) h1)
  have e0 : 2 ^ w - 1 < 2 ^ w := by omega
  have e3 : 0 < 2 ^ w := hp
  intro p hm
  simp only [pairsL, List.mem_cons, List.mem_nil_iff, or_false] at hm
  have va : ∀ W, WdOk W → val W a < 2 ^ w := fun W hW => wa ▸ val_lt hW a ha
  have vb : ∀ W, WdOk W → val W b < 2 ^ w := fun W hW => wb ▸ val_lt hW b hb
  have vc : ∀ W, WdOk W → val W c < 2 ^ w := fun W hW => wc ▸ val_lt hW c hc
  rcases hm with rfl | rfl | rfl | rfl | rfl | rfl | rfl | rfl | rfl | rfl | rfl | rfl | rfl | rfl
  case inr.inr.inr.inr.inr.inr.inr.inr.inl =>
    unfold ninth
    by_cases hw : 1 < w
    · rw [if_pos hw]
      refine ⟨by walk_at "wf", fun W hW => ?_, by walk_at "sz"⟩
      have := va W hW; have := vb W hW; walk_at "un"
      exact i_sum_w hw
    · rw [if_neg hw]
      refine ⟨by walk_at "wf", fun W hW => ?_, by walk_at "sz"⟩
      have g1 := va W hW; have g2 := vb W hW; walk_at "un"
      have : w = 1 := by omega
      subst this
      exact i_sum_1 g1 g2
  all_goals refine ⟨by walk_at "wf", fun W hW => ?_, by walk_at "sz"⟩
  all_goals have g1 := va W hW; have g2 := vb W hW; have g3 := vc W hW; walk_at "un"
  · rw [Nat.add_comm]
  · exact i_add_assoc w _ _ _
  · exact i_sub g2
  · exact i_mul_add w _ _ _
  · rw [Nat.mul_comm]
  · exact i_sub_self g1
  · exact i_not_and g1 g2
  · exact i_xor g1 g2
  · exact i_and_or _ _ _
  · exact i_or_ones g1
  · exact i_not_not g1
  · rw [Nat.mul_one]; exact Nat.mod_eq_of_lt g1
  · exact i_neg g1
theorem same_bits : ∀ p ∈ bitsL a b w, Same 1 p := by
  have hp := pow_pos2 w
  have e0 : 2 ^ w - 1 < 2 ^ w := by omega
  have e3 : 0 < 2 ^ w := hp
  intro p hm
  simp only [bitsL, List.mem_cons, List.mem_nil_iff, or_false] at hm
  have va : ∀ W, WdOk W → val W a < 2 ^ w := fun W hW => wa ▸ val_lt hW a ha
  have vb : ∀ W, WdOk W → val W b < 2 ^ w := fun W hW => wb ▸ val_lt hW b hb
  rcases hm with rfl | rfl | rfl | rfl | rfl | rfl | rfl | rfl | rfl | rfl | rfl
  all_goals refine ⟨by walk_at "wf", fun W hW => ?_, by walk_at "sz"⟩
  all_goals have g1 := va W hW; have g2 := vb W hW; walk_at "un"
  · have hx := Nat.xor_lt_two_pow g1 g2
    have i1 := pop_pos w _ hx
    have i2 := xor_zero_iff (val W a) (val W b)
    by_cases h : val W a = val W b
    · rw [if_pos h, if_neg (by rw [i1, i2]; simpa using h)]
    · rw [if_neg h, if_pos (by rw [i1, i2]; exact h)]
  · have i1 := pop_all g1
    show (if pop w (val W a) = w then 1 else 0 : Nat) = (if val W a = 2 ^ w - 1 then 1 else 0 : Nat)
    by_cases h : val W a = 2 ^ w - 1
    · rw [if_pos (i1.mpr h), if_pos h]
    · rw [if_neg (fun k => h (i1.mp k)), if_neg h]
  · have i1 := pop_pos w _ g1
    show (if 0 < pop w (val W a) then 1 else 0 : Nat) = (if 0 < val W a then 1 else 0 : Nat)
    by_cases h : 0 < val W a
    · rw [if_pos (i1.mpr h), if_pos h]
    · rw [if_neg (fun k => h (i1.mp k)), if_neg h]
  · rw [pop_xor, Nat.add_mod]
    have i1 := Nat.mod_lt (pop w (val W a)) (by decide : 0 < 2)
    have i2 := Nat.mod_lt (pop w (val W b)) (by decide : 0 < 2)
    generalize pop w (val W a) % 2 = x at i1 ⊢
    generalize pop w (val W b) % 2 = y at i2 ⊢
    rcases (by omega : x = 0 ∨ x = 1) with rfl | rfl <;> rcases (by omega : y = 0 ∨ y = 1) with rfl | rfl <;> rfl
  · have i1 := pop_not w _ g1
    by_cases h : 0 < pop w (val W a)
    · rw [if_pos h, if_neg (by omega)]
    · rw [if_neg h, if_pos (by omega)]
  · have i1 := p_less g1 g2
    by_cases h : val W a < val W b
    · rw [if_pos h, if_pos (i1.mp h)]
    · rw [if_neg h, if_neg (fun k => h (i1.mpr k))]
  · rcases Nat.lt_trichotomy (val W a) (val W b) with h | h | h
    · rw [if_neg (by omega), if_pos h, if_neg (by omega)]; rfl
    · rw [if_pos h, if_neg (by omega), if_neg (by omega)]; rfl
    · rw [if_neg (by omega), if_neg (by omega), if_pos h]; rfl
  · exact i_less_anti _ _
  · rw [if_neg (by omega)]
  · by_cases h : val W a < val W b
    · rw [if_pos h, if_neg (by omega)]; rfl
    · rw [if_neg h]; exact Nat.zero_and _
theorem same_part1 {t : Tm} (ht : wf t) (wt : wid t = 1) (dt : deep t ≤ 2) (mt : many t ≤ 2) : ∀ p ∈ part1 t a b c, Same w p := by
  have hp := pow_pos2 w
  intro p hm
  simp only [part1, List.mem_cons, List.mem_nil_iff, or_false] at hm
  have vt : ∀ W, WdOk W → val W t < 2 ^ 1 := fun W hW => wt ▸ val_lt hW t ht
  rcases hm with rfl | rfl | rfl
  all_goals refine ⟨by walk_at "wf", fun W hW => ?_, by walk_at "sz"⟩
  all_goals have g0 := vt W hW; walk_at "un"
  · rcases (by omega : val W t = 0 ∨ val W t = 1) with h | h <;> rw [h] <;> rfl
  · split <;> rfl
  · split <;> rfl
theorem same_part2 {l : Nat} (hl1 : 1 ≤ l) (hl2 : l < w) : ∀ p ∈ part2 a w l, Same (wid p.1) p := by
  have hp := pow_pos2 w
  intro p hm
  have e1 : l - 1 - 0 + 1 = l := by omega
  have e2 : w - 1 - l + 1 = w - l := by omega
  have e3 : 2 ^ l < 2 ^ w := Nat.pow_lt_pow_right (by decide) hl2
  simp only [part2, List.mem_cons, List.mem_nil_iff, or_false] at hm
  have va : ∀ W, WdOk W → val W a < 2 ^ w := fun W hW => wa ▸ val_lt hW a ha
  rcases hm with rfl | rfl | rfl | rfl | rfl
  all_goals refine ⟨by first | (walk_at "wf"; done) | (walk_at "wf"; have := pow_pos2 l; refine ⟨⟨⟨by omega, by omega⟩, ⟨by omega, by omega⟩, by omega⟩, by omega⟩), fun W hW => ?_, by walk_at "sz"⟩
  all_goals have g1 := va W hW; walk_at "un"
  · rw [hi_eq (by omega) g1, Nat.pow_zero, Nat.div_one]; exact p_join l _
  · rw [hi_eq (by omega) g1, Nat.pow_zero, Nat.div_one, Nat.div_one]; exact p_low _ l _
  · rw [hi_eq (by omega) g1, Nat.pow_zero, Nat.div_one]
    have i0 := pop_parts l w (val W a) (by omega)
    rw [i0, Nat.add_mod]
    have i1 := Nat.mod_lt (pop (w - l) (val W a / 2 ^ l)) (by decide : 0 < 2)
    have i2 := Nat.mod_lt (pop l (val W a % 2 ^ l)) (by decide : 0 < 2)
    generalize pop (w - l) (val W a / 2 ^ l) % 2 = x at i1 ⊢
    generalize pop l (val W a % 2 ^ l) % 2 = y at i2 ⊢
    rcases (by omega : x = 0 ∨ x = 1) with rfl | rfl <;> rcases (by omega : y = 0 ∨ y = 1) with rfl | rfl <;> rfl
  · rw [Nat.pow_zero, Nat.div_one, show w - 1 - l - 0 + 1 = w - l by omega]; exact p_twice (by omega) _
  · rw [hi_eq (by omega) g1, Nat.pow_zero, Nat.div_one]
    have i1 := pop_pos w _ g1
    have i2 := pop_pos (w - l) _ (hi_lt (by omega : l ≤ w) g1)
    have i3 := pop_pos l _ (Nat.mod_lt (val W a) (pow_pos2 l))
    have i4 := p_any l (val W a)
    by_cases h1 : 0 < val W a / 2 ^ l
    · rw [if_pos (i1.mpr (i4.mpr (.inl h1))), if_pos (i2.mpr h1)]; split <;> rfl
    · by_cases h2 : 0 < val W a % 2 ^ l
      · rw [if_pos (i1.mpr (i4.mpr (.inr h2))), if_neg (fun k => h1 (i2.mp k)), if_pos (i3.mpr h2)]; rfl
      · rw [if_neg (fun k => (i4.mp (i1.mp k)).elim h1 h2), if_neg (fun k => h1 (i2.mp k)), if_neg (fun k => h2 (i3.mp k))]; rfl
theorem same_part3 {t : Tm} (ht : wf t) (wt : wid t = 1) (dt : deep t ≤ 2) (mt : many t ≤ 2) {l : Nat} (hl1 : 1 ≤ l) (hl2 : 1 < w - l) : ∀ p ∈ part3 t a w l, Same (wid p.1) p := by
  have hp := pow_pos2 w
  intro p hm
  have e1 : l - 1 - 0 + 1 = l := by omega
  have e2 : w - 1 - (l + 1) + 1 = w - l - 1 := by omega
  have e4 : l - l + 1 = 1 := by omega
  have e5 : w - 1 - l - 1 + 1 = w - l - 1 := by omega
  have vt : ∀ W, WdOk W → val W t < 2 ^ 1 := fun W hW => wt ▸ val_lt hW t ht
  simp only [part3, List.mem_cons, List.mem_nil_iff, or_false] at hm
  have va : ∀ W, WdOk W → val W a < 2 ^ w := fun W hW => wa ▸ val_lt hW a ha
  rcases hm with rfl | rfl | rfl | rfl
  all_goals refine ⟨by walk_at "wf", fun W hW => ?_, by walk_at "sz"⟩
  all_goals have g1 := va W hW; have g0 := vt W hW; walk_at "un"
  · rw [show w - l - 1 = w - (l + 1) by omega, hi_eq (by omega) g1, Nat.pow_zero, Nat.div_one]; exact p_join3 l _
  · rw [show w - l - 1 = w - (l + 1) by omega, hi_eq (by omega) g1]
    exact p_upper (hi_lt (by omega) g1) (Nat.mod_lt _ (by decide))
  · omega
theorem same_part4 {l : Nat} (hl1 : 1 ≤ l) (hl2 : l < w) : ∀ p ∈ part4 a b w l, Same (wid p.1) p := by
  have hp := pow_pos2 w
  intro p hm
  have e1 : l - 1 - 0 + 1 = l := by omega
  have e2 : w - 1 - l + 1 = w - l := by omega
  simp only [part4, List.mem_cons, List.mem_nil_iff, or_false] at hm
  have va : ∀ W, WdOk W → val W a < 2 ^ w := fun W hW => wa ▸ val_lt hW a ha
  have vb : ∀ W, WdOk W → val W b < 2 ^ w := fun W hW => wb ▸ val_lt hW b hb
  rcases hm with rfl | rfl
  all_goals refine ⟨by walk_at "wf", fun W hW => ?_, by walk_at "sz"⟩
  all_goals have g1 := va W hW; have g2 := vb W hW; walk_at "un"
  · rw [hi_eq (by omega) (by have := not_lt w (val W a); omega), hi_eq (by omega) g1]; exact p_not (by omega) g1
  · rw [Nat.pow_zero, Nat.div_one, Nat.div_one, Nat.div_one]; exact p_add (by omega) _ _
end
end Law
namespace Law
open PySem PySem.Spec PyProof.Rows L2 DL
local macro_rules | `(tactic| walk_at "x1") => `(tactic| first
  | with_reducible refine x_seq ?_ | with_reducible refine x_set ?_ | with_reducible refine x_ret ?_ | with_reducible refine x_ifS ?_ | with_reducible refine x_next ?_ | with_reducible refine x_asg ?_ | with_reducible refine x_drop ?_ | with_reducible refine x_for ?_ | with_reducible refine x_par ?_ | with_reducible refine ⟨_, _, rfl, ?_⟩
  | with_reducible refine x_op ?_ | ((with_reducible refine x_var (d := ?d) ?hx ?_); case hx => exact rfl) | with_reducible refine x_c ?_ | with_reducible refine x_B ?_ | with_reducible refine ⟨_, rfl, ?_⟩ | with_reducible refine x_call ?_ | with_reducible refine x_cons ?_ | with_reducible refine x_nil ?_ | with_reducible refine x_fn ?_
  | with_reducible refine x_if ?_ | with_reducible refine x_and ?_ | with_reducible refine x_or ?_ | with_reducible refine x_not ?_ | with_reducible refine x_andV ?_ | with_reducible refine x_orV ?_ | with_reducible refine x_notV ?_ | with_reducible refine x_chain ?_ | with_reducible refine x_un ?_
  | with_reducible refine x_tup ?_ | with_reducible refine x_lst ?_ | with_reducible refine x_lstM ?_ | with_reducible refine x_sz (Nat.le_of_ble_eq_true rfl) ?_ | with_reducible refine x_sl ?_ | with_reducible refine x_noP ?_ | with_reducible refine x_pt ?_
  | with_reducible refine x_range1 ?_ | with_reducible refine x_iter ?_ | with_reducible refine x_go_tup ?_ | with_reducible refine x_go_lst ?_ | with_reducible refine x_lc ?_ | with_reducible refine x_lcM ?_ | with_reducible refine x_lc2 ?_ | with_reducible refine x_yes ?_ | with_reducible refine x_gName ?_ | with_reducible refine x_gSub ?_
  | ((with_reducible refine x_gTup ?hx ?_); case hx => exact rfl) | ((with_reducible refine x_gTupL ?hx ?_); case hx => exact rfl) | with_reducible refine x_gCons ?_ | with_reducible refine x_gNil ?_ | with_reducible refine x_retN ?_ | with_reducible refine x_brk ?_ | with_reducible refine x_cont ?_
  | with_reducible refine x_add_i ?_ | with_reducible refine x_sub ?_ | with_reducible refine x_band ?_ | with_reducible refine x_bor ?_ | with_reducible refine x_bxor ?_ | with_reducible refine x_neg ?_ | with_reducible refine x_lt ?_ | with_reducible refine x_le ?_ | with_reducible refine x_gt ?_ | with_reducible refine x_ge ?_ | with_reducible refine x_eqI ?_ | with_reducible refine x_neI ?_
  | with_reducible refine x_isN ?_ | with_reducible refine x_isnotN ?_ | with_reducible refine x_isB ?_ | with_reducible refine x_isnotB ?_ | with_reducible refine x_int ?_ | with_reducible refine x_intB ?_ | with_reducible refine x_abs ?_ | with_reducible refine x_len_t ?_ | with_reducible refine x_len_l ?_ | with_reducible refine x_tuple_t ?_ | with_reducible refine x_tuple_l ?_ | with_reducible refine x_list_t ?_ | with_reducible refine x_list_l ?_ | with_reducible refine x_list_s ?_
  | with_reducible refine x_sl_t ?_ | with_reducible refine x_sl_l ?_ | with_reducible refine x_iadd_i ?_ | with_reducible refine x_isi ?_ | with_reducible refine x_din ?_ | with_reducible refine x_dnotin ?_ | with_reducible refine x_dgetE ?_ | with_reducible refine x_dput ?_ | with_reducible refine x_append ?_
  | with_reducible refine x_leX ?_ | with_reducible refine x_leS ?_ | with_reducible refine x_fld ?_ | with_reducible refine x_setF ?_ | with_reducible refine x_meth ?_ | with_reducible refine x_new ?_ | with_reducible refine x_isiC ?_ | with_reducible refine x_dget2 ?_ | with_reducible refine x_pop ?_ | with_reducible refine x_par3 ?_ | with_reducible refine x_iterS ?_
  | with_reducible refine x_T ?_ | with_reducible refine x_F ?_ | with_reducible refine x_nT ?_ | with_reducible refine x_nF ?_)
local macro_rules | `(tactic| walk_at "x2") => `(tactic| first
  | with_reducible refine x_bd (by omega) ?_ | with_reducible refine x_mod (by omega) ?_ | with_reducible refine x_div (by omega) ?_ | with_reducible refine x_shr (by omega) ?_ | with_reducible refine x_mul' (by omega) ?_ | with_reducible refine x_pow (by decide) ?_
  | ((with_reducible refine x_aug (x := ?d) ?hx ?_); case hx => exact rfl)
  | ((with_reducible refine x_ix_t (d := ?d) ?h0 ?hx ?_); (case h0 => omega); case hx => walk_at "at")
  | ((with_reducible refine x_ix_l (d := ?d) ?h0 ?hx ?_); (case h0 => omega); case hx => walk_at "at")
  | ((with_reducible refine x_ix_loc (ds := ?ds) (d := ?d) ?hm ?h0 ?hx ?_); (case hm => walk_at "m"); (case h0 => omega); case hx => walk_at "at")
  | ((with_reducible refine x_len_loc (ds := ?ds) ?hm ?_); case hm => walk_at "m") | ((with_reducible refine x_tuple_loc (ds := ?ds) ?hm ?_); case hm => walk_at "m") | ((with_reducible refine x_sl_loc (xs := ?ds) ?hm ?_); case hm => walk_at "m")
  | ((with_reducible refine ⟨_, ?ds, rfl, ?hm, ?_⟩); case hm => walk_at "m")
  | ((with_reducible refine ⟨_, ?ds, _, ?j, rfl, rfl, ?hm, ?hj, ?_⟩); (case hm => walk_at "m"); (case hj => walk_at "j")))
local macro_rules | `(tactic| walk_at "j") => `(tactic| exact rfl)
local macro_rules | `(tactic| walk_at "at") => `(tactic| first | exact rfl | assumption)
local macro_rules | `(tactic| walk_at "lt") => `(tactic| first | decide | omega | (simp; omega))
local macro_rules | `(tactic| walk_at "m") => `(tactic| first | exact mup_same | assumption)
local macro_rules | `(tactic| walk_at "x3") => `(tactic| first
  | ((with_reducible refine x_fldO (x := ?d) ?hC ?hl ?_); (case hl => exact rfl); case hC => decide) | with_reducible refine x_eqST (by decide +kernel) ?_ | with_reducible refine x_eqSF (by decide +kernel) ?_ | with_reducible refine x_inT rfl rfl (by decide +kernel) (by decide +kernel) ?_ | with_reducible refine x_inN rfl rfl (by decide +kernel) (by decide +kernel) ?_
  | with_reducible refine x_ty (b := true) rfl (by decide +kernel) ?_ | with_reducible refine x_ty (b := false) rfl (by decide +kernel) ?_ | with_reducible refine x_nYes (by walk_at "dec") ?_ | with_reducible refine x_nNo (by walk_at "dec") ?_ | with_reducible refine x_yesD (by walk_at "dec") ?_ | with_reducible refine x_noD (by walk_at "dec") ?_ | with_reducible refine x_yesE (by walk_at "dec") ?_ | with_reducible refine x_noE (by walk_at "dec") ?_ | with_reducible refine x_yesN (by walk_at "dec") ?_ | with_reducible refine x_noN (by walk_at "dec") ?_)
local macro_rules | `(tactic| walk_at "dec") => `(tactic| first | omega | (simp only [List.length_cons, List.length_nil, List.length_map, List.length_append, nD_len, List.length_range]; omega))
local macro_rules | `(tactic| walk_at "x") => `(tactic| repeat (first | walk_at "x1" | walk_at "x2"))
local macro_rules | `(tactic| walk_at "xx") => `(tactic| repeat (first | walk_at "x1" | walk_at "x2" | walk_at "x3"))

def sp_law : DSp
  | [.sl xs], M, R, _ => ∃ ns : List Int, xs = ns.map D.int ∧ R (.bl true) M
  | _, _, _, _ => False
def oD : Option Nat → D
  | none => .non
  | some w => .int (w : Int)
def fD (r : Option Nat × (Tm × Tm)) : D := .tup [oD r.1, pD r.2]
def OkF (r : Option Nat × (Tm × Tm)) : Prop := ∃ w, Same w r.2 ∧ ∀ d, r.1 = some d → d = w
theorem part1_take (t a b c : Tm) (w l : Nat) : (partL t a b c w l).take 3 = part1 t a b c := by
  unfold partL
  split
  · split <;> rfl
  · rfl
theorem partL_drop {t a b c : Tm} {w l : Nat} : ∀ p ∈ (partL t a b c w l).drop 3, 1 < w ∧ (p ∈ part2 a w l ∨ (1 < w - l ∧ p ∈ part3 t a w l) ∨ p ∈ part4 a b w l) := by
  intro p hp
  unfold partL at hp
  split at hp
  · next hw =>
    refine ⟨hw, ?_⟩
    split at hp
    · next hl =>
      have hp : p ∈ part2 a w l ++ part3 t a w l ++ part4 a b w l := hp
      simp only [List.mem_append] at hp
      rcases hp with (h | h) | h
      · exact .inl h
      · exact .inr (.inl ⟨hl, h⟩)
      · exact .inr (.inr h)
    · have hp : p ∈ part2 a w l ++ part4 a b w l := hp
      rcases List.mem_append.mp hp with h | h
      · exact .inl h
      · exact .inr (.inr h)
  · exact absurd hp (by simp [part1])
theorem partL_len (t a b c : Tm) (w l : Nat) : (partL t a b c w l).length ≤ 14 := by
  unfold partL
  split
  · split <;> simp [part1, part2, part3, part4]
  · simp [part1]
theorem vD_same {W : Wd} (hW : WdOk W) {w : Nat} {p : Tm × Tm} (h : Same w p) : vD W p.2 = vD W p.1 := by
  unfold vD
  rw [h.2.1 W hW, h.1.2.2.1, h.1.2.2.2]
theorem eqb_vD (W : Wd) (p : Tm) : eqb (vD W p) (vD W p) = true := by simp [vD, eqb, eqbs]
/-- one pair in one world -/
theorem turn_ok {DD : DEnds} {M : Mem} {W : Wd} {r : Option Nat × (Tm × Tm)} (hW : WdOk W) (hr : OkF r) {x0 x1 x2 x3 x4 x5 x6 x7 : Option D} {o12 o13 o14 : Option D}
    (q : ∀ a b, DD.nx [x0, x1, x2, x3, x4, x5, x6, x7, some (dWd W), some (oD r.1), some (dTm r.2.1), some (dTm r.2.2), some a, some b, o14] M) :
    (dSeq (dPar 12 13 (dCons (dFn (sp_term_value 12) [] (dCons (dVar 10) (dCons (dVar 8) dNil))) (dCons (dFn (sp_term_value 12) [] (dCons (dVar 11) (dCons (dVar 8) dNil))) dNil)))
    (dSeq (dIfS (dOr (dB (dOp oNe (dVar 12) (dVar 13))) (dOr (dB (dOp oNe (dFn sp_width_of [] (dCons (dVar 10) (dCons (dVar 8) dNil))) (dOp oIx (dVar 12) (dC (.int 0))))) (dOr (dB (dOp oNe (dFn sp_width_of [] (dCons (dVar 11) (dCons (dVar 8) dNil))) (dOp oIx (dVar 12) (dC (.int 0))))) (dAnd (dB (dOp oIsNot (dVar 9) (dC .non))) (dB (dOp oNe (dOp oIx (dVar 12) (dC (.int 0))) (dVar 9))))))) (dRet (dC (.bl false))) dNext)
    (dIfS (dOr (dB (dOp oIsNot (dFn sp_is_term [] (dCons (dVar 10) dNil)) (dC (.bl true)))) (dOr (dB (dOp oIsNot (dFn sp_is_term [] (dCons (dVar 11) dNil)) (dC (.bl true)))) (dNot (dB (dChain oLe oLt (dC (.int 0)) (dOp oIx (dVar 12) (dC (.int 1))) (dOp oShl (dC (.int 1)) (dOp oIx (dVar 12) (dC (.int 0))))))))) (dRet (dC (.bl false))) dNext))) DD
    [x0, x1, x2, x3, x4, x5, x6, x7, some (dWd W), some (oD r.1), some (dTm r.2.1), some (dTm r.2.2), o12, o13, o14] M := by
  obtain ⟨w, hs, hd⟩ := hr
  obtain ⟨o, p⟩ := r
  simp only [] at hs hd q ⊢
  have hv := vD_same hW hs
  obtain ⟨⟨f1, f2, w1, w2⟩, h2, d1, d2, m1, m2⟩ := hs
  have hw := wid_ok _ f1
  have hlt := val_lt hW _ f1
  walk_at "x"
  refine tv_call f1 hW d1 ?_
  walk_at "x"
  refine tv_call f2 hW d2 ?_
  rw [hv]
  walk_at "x"
  refine x_ne rfl rfl ?_
  rw [eqb_vD]
  walk_at "xx"
  refine ⟨p.1, W, rfl, rfl, f1, hW, d1, ?_⟩
  walk_at "xx"
  refine ⟨p.2, W, rfl, rfl, f2, hW, d2, ?_⟩
  walk_at "xx"
  cases o with
  | none =>
    rw [show isNon (oD none) = true from rfl]
    walk_at "xx"
    refine ⟨p.1, rfl, f1, d1, m1, ?_⟩
    walk_at "x"
    refine x_nNo rfl ?_
    walk_at "x"
    refine ⟨p.2, rfl, f2, d2, m2, ?_⟩
    walk_at "x"
    refine x_nNo rfl ?_
    walk_at "xx"
    refine x_shl ⟨by omega, by omega, by decide⟩ ?_
    rw [shl1]
    walk_at "xx"
    exact q _ _
  | some d =>
    have hd := hd d rfl
    rw [show isNon (oD (some d)) = false from rfl]
    unfold oD at q ⊢
    walk_at "xx"
    refine ⟨p.1, rfl, f1, d1, m1, ?_⟩
    walk_at "x"
    refine x_nNo rfl ?_
    walk_at "x"
    refine ⟨p.2, rfl, f2, d2, m2, ?_⟩
    walk_at "x"
    refine x_nNo rfl ?_
    walk_at "xx"
    refine x_shl ⟨by omega, by omega, by decide⟩ ?_
    rw [shl1]
    walk_at "xx"
    exact q _ _
end Law
namespace Law
open PySem PySem.Spec PyProof.Rows L2 DL
local macro_rules | `(tactic| walk_at "x1") => `(tactic| first
  | with_reducible refine x_seq ?_ | with_reducible refine x_set ?_ | with_reducible refine x_ret ?_ | with_reducible refine x_ifS ?_ | with_reducible refine x_next ?_ | with_reducible refine x_asg ?_ | with_reducible refine x_drop ?_ | with_reducible refine x_for ?_ | with_reducible refine x_par ?_ | with_reducible refine ⟨_, _, rfl, ?_⟩
  | with_reducible refine x_op ?_ | ((with_reducible refine x_var (d := ?d) ?hx ?_); case hx => exact rfl) | with_reducible refine x_c ?_ | with_reducible refine x_B ?_ | with_reducible refine ⟨_, rfl, ?_⟩ | with_reducible refine x_call ?_ | with_reducible refine x_cons ?_ | with_reducible refine x_nil ?_ | with_reducible refine x_fn ?_
  | with_reducible refine x_if ?_ | with_reducible refine x_and ?_ | with_reducible refine x_or ?_ | with_reducible refine x_not ?_ | with_reducible refine x_andV ?_ | with_reducible refine x_orV ?_ | with_reducible refine x_notV ?_ | with_reducible refine x_chain ?_ | with_reducible refine x_un ?_
  | with_reducible refine x_tup ?_ | with_reducible refine x_lst ?_ | with_reducible refine x_lstM ?_ | with_reducible refine x_sz (Nat.le_of_ble_eq_true rfl) ?_ | with_reducible refine x_sl ?_ | with_reducible refine x_noP ?_ | with_reducible refine x_pt ?_
  | with_reducible refine x_range1 ?_ | with_reducible refine x_iter ?_ | with_reducible refine x_go_tup ?_ | with_reducible refine x_go_lst ?_ | with_reducible refine x_lc ?_ | with_reducible refine x_lcM ?_ | with_reducible refine x_lc2 ?_ | with_reducible refine x_yes ?_ | with_reducible refine x_gName ?_ | with_reducible refine x_gSub ?_
  | ((with_reducible refine x_gTup ?hx ?_); case hx => exact rfl) | ((with_reducible refine x_gTupL ?hx ?_); case hx => exact rfl) | with_reducible refine x_gCons ?_ | with_reducible refine x_gNil ?_ | with_reducible refine x_retN ?_ | with_reducible refine x_brk ?_ | with_reducible refine x_cont ?_
  | with_reducible refine x_add_i ?_ | with_reducible refine x_sub ?_ | with_reducible refine x_band ?_ | with_reducible refine x_bor ?_ | with_reducible refine x_bxor ?_ | with_reducible refine x_neg ?_ | with_reducible refine x_lt ?_ | with_reducible refine x_le ?_ | with_reducible refine x_gt ?_ | with_reducible refine x_ge ?_ | with_reducible refine x_eqI ?_ | with_reducible refine x_neI ?_
  | with_reducible refine x_isN ?_ | with_reducible refine x_isnotN ?_ | with_reducible refine x_isB ?_ | with_reducible refine x_isnotB ?_ | with_reducible refine x_int ?_ | with_reducible refine x_intB ?_ | with_reducible refine x_abs ?_ | with_reducible refine x_len_t ?_ | with_reducible refine x_len_l ?_ | with_reducible refine x_tuple_t ?_ | with_reducible refine x_tuple_l ?_ | with_reducible refine x_list_t ?_ | with_reducible refine x_list_l ?_ | with_reducible refine x_list_s ?_
  | with_reducible refine x_sl_t ?_ | with_reducible refine x_sl_l ?_ | with_reducible refine x_iadd_i ?_ | with_reducible refine x_isi ?_ | with_reducible refine x_din ?_ | with_reducible refine x_dnotin ?_ | with_reducible refine x_dgetE ?_ | with_reducible refine x_dput ?_ | with_reducible refine x_append ?_
  | with_reducible refine x_leX ?_ | with_reducible refine x_leS ?_ | with_reducible refine x_fld ?_ | with_reducible refine x_setF ?_ | with_reducible refine x_meth ?_ | with_reducible refine x_new ?_ | with_reducible refine x_isiC ?_ | with_reducible refine x_dget2 ?_ | with_reducible refine x_pop ?_ | with_reducible refine x_par3 ?_ | with_reducible refine x_iterS ?_
  | with_reducible refine x_T ?_ | with_reducible refine x_F ?_ | with_reducible refine x_nT ?_ | with_reducible refine x_nF ?_)
local macro_rules | `(tactic| walk_at "x2") => `(tactic| first
  | with_reducible refine x_bd (by omega) ?_ | with_reducible refine x_mod (by omega) ?_ | with_reducible refine x_div (by omega) ?_ | with_reducible refine x_shr (by omega) ?_ | with_reducible refine x_mul' (by omega) ?_ | with_reducible refine x_pow (by decide) ?_
  | ((with_reducible refine x_aug (x := ?d) ?hx ?_); case hx => exact rfl)
  | ((with_reducible refine x_ix_t (d := ?d) ?h0 ?hx ?_); (case h0 => omega); case hx => walk_at "at")
  | ((with_reducible refine x_ix_l (d := ?d) ?h0 ?hx ?_); (case h0 => omega); case hx => walk_at "at")
  | ((with_reducible refine x_ix_loc (ds := ?ds) (d := ?d) ?hm ?h0 ?hx ?_); (case hm => walk_at "m"); (case h0 => omega); case hx => walk_at "at")
  | ((with_reducible refine x_len_loc (ds := ?ds) ?hm ?_); case hm => walk_at "m") | ((with_reducible refine x_tuple_loc (ds := ?ds) ?hm ?_); case hm => walk_at "m") | ((with_reducible refine x_sl_loc (xs := ?ds) ?hm ?_); case hm => walk_at "m")
  | ((with_reducible refine ⟨_, ?ds, rfl, ?hm, ?_⟩); case hm => walk_at "m")
  | ((with_reducible refine ⟨_, ?ds, _, ?j, rfl, rfl, ?hm, ?hj, ?_⟩); (case hm => walk_at "m"); (case hj => walk_at "j")))
local macro_rules | `(tactic| walk_at "j") => `(tactic| exact rfl)
local macro_rules | `(tactic| walk_at "at") => `(tactic| first | exact rfl | assumption)
local macro_rules | `(tactic| walk_at "lt") => `(tactic| first | decide | omega | (simp; omega))
local macro_rules | `(tactic| walk_at "m") => `(tactic| first | exact mup_same | assumption)
local macro_rules | `(tactic| walk_at "x3") => `(tactic| first
  | ((with_reducible refine x_fldO (x := ?d) ?hC ?hl ?_); (case hl => exact rfl); case hC => decide) | with_reducible refine x_eqST (by decide +kernel) ?_ | with_reducible refine x_eqSF (by decide +kernel) ?_ | with_reducible refine x_inT rfl rfl (by decide +kernel) (by decide +kernel) ?_ | with_reducible refine x_inN rfl rfl (by decide +kernel) (by decide +kernel) ?_
  | with_reducible refine x_ty (b := true) rfl (by decide +kernel) ?_ | with_reducible refine x_ty (b := false) rfl (by decide +kernel) ?_ | with_reducible refine x_nYes (by walk_at "dec") ?_ | with_reducible refine x_nNo (by walk_at "dec") ?_ | with_reducible refine x_yesD (by walk_at "dec") ?_ | with_reducible refine x_noD (by walk_at "dec") ?_ | with_reducible refine x_yesE (by walk_at "dec") ?_ | with_reducible refine x_noE (by walk_at "dec") ?_ | with_reducible refine x_yesN (by walk_at "dec") ?_ | with_reducible refine x_noN (by walk_at "dec") ?_)
local macro_rules | `(tactic| walk_at "dec") => `(tactic| first | omega | (simp only [List.length_cons, List.length_nil, List.length_map, List.length_append, nD_len, List.length_range]; omega))
local macro_rules | `(tactic| walk_at "x") => `(tactic| repeat (first | walk_at "x1" | walk_at "x2"))
local macro_rules | `(tactic| walk_at "xx") => `(tactic| repeat (first | walk_at "x1" | walk_at "x2" | walk_at "x3"))

theorem okF_len {t t2 a b c : Tm} {w l l2 : Nat} : ((partL t2 a b c w l2).drop 3).length ≤ 14 := by
  rw [List.length_drop]; have := partL_len t2 a b c w l2; omega
theorem eqb_refl3 (x y z : Int) : eqb (.lst [.int x, .int y, .int z]) (.lst [.int x, .int y, .int z]) = true := by simp [eqb, eqbs]
theorem eqb_refl2 (x y : Int) : eqb (.tup [.int x, .int y]) (.tup [.int x, .int y]) = true := by simp [eqb, eqbs]
abbrev N_law : List Str := ["script", "tape", "wide", "a", "b", "c", "found", "turn", "world", "due", "first", "second", "one", "other", "sums"]
def w_law : DS := (dSeq (dSet 1 (dLstM (dCons (dCall oList (dCons (dVar 0) dNil)) (dCons (dC (.int 0)) (dCons (dC (.int 0)) (dCons (dC (.int 2)) dNil))))))
    (dSeq (dSet 2 (dOp oAdd (dC (.int 1)) (dFn sp_law_pull [] (dCons (dVar 1) (dCons (dC (.int 8)) dNil)))))
    (dSeq (dPar3 3 4 5 (dCons (dFn (sp_law_term 3) [] (dCons (dVar 1) (dCons (dC (.int 2)) (dCons (dVar 2) dNil)))) (dCons (dFn (sp_law_term 3) [] (dCons (dVar 1) (dCons (dC (.int 2)) (dCons (dVar 2) dNil)))) (dCons (dFn (sp_law_term 3) [] (dCons (dVar 1) (dCons (dC (.int 2)) (dCons (dVar 2) dNil)))) dNil))))
    (dSeq (dSet 6 (dLc (dIter (dOp oAdd (dFn sp_law_pairs [] (dCons (dVar 3) (dCons (dVar 4) (dCons (dVar 5) (dCons (dVar 2) dNil))))) (dSl (dFn sp_law_parted [] (dCons (dVar 1) (dCons (dVar 3) (dCons (dVar 4) (dCons (dVar 5) (dCons (dVar 2) dNil)))))) dNoP (dPt (dC (.int 3)))))) (dgName 12) dYes (dTup (dCons (dVar 2) (dCons (dVar 12) dNil))) [12]))
    (dSeq (dSet 6 (dOp oAdd (dOp oAdd (dVar 6) (dLc (dIter (dFn sp_law_bits [] (dCons (dVar 3) (dCons (dVar 4) (dCons (dVar 2) dNil))))) (dgName 12) dYes (dTup (dCons (dC (.int 1)) (dCons (dVar 12) dNil))) [12])) (dLc (dIter (dSl (dFn sp_law_parted [] (dCons (dVar 1) (dCons (dVar 3) (dCons (dVar 4) (dCons (dVar 5) (dCons (dVar 2) dNil)))))) (dPt (dC (.int 3))) dNoP)) (dgName 12) dYes (dTup (dCons (dC .non) (dCons (dVar 12) dNil))) [12])))
    (dSeq (dFor (dRange1 (dC (.int 4))) (dgName 7) (dSeq (dSet 8 (dFn sp_law_world [] (dCons (dVar 1) dNil)))
    (dSeq (dFor (dIter (dVar 6)) (dgTup 2 (dgCons (dgName 9) (dgCons (dgTup 2 (dgCons (dgName 10) (dgCons (dgName 11) dgNil))) dgNil))) (dSeq (dPar 12 13 (dCons (dFn (sp_term_value 12) [] (dCons (dVar 10) (dCons (dVar 8) dNil))) (dCons (dFn (sp_term_value 12) [] (dCons (dVar 11) (dCons (dVar 8) dNil))) dNil)))
    (dSeq (dIfS (dOr (dB (dOp oNe (dVar 12) (dVar 13))) (dOr (dB (dOp oNe (dFn sp_width_of [] (dCons (dVar 10) (dCons (dVar 8) dNil))) (dOp oIx (dVar 12) (dC (.int 0))))) (dOr (dB (dOp oNe (dFn sp_width_of [] (dCons (dVar 11) (dCons (dVar 8) dNil))) (dOp oIx (dVar 12) (dC (.int 0))))) (dAnd (dB (dOp oIsNot (dVar 9) (dC .non))) (dB (dOp oNe (dOp oIx (dVar 12) (dC (.int 0))) (dVar 9))))))) (dRet (dC (.bl false))) dNext)
    (dIfS (dOr (dB (dOp oIsNot (dFn sp_is_term [] (dCons (dVar 10) dNil)) (dC (.bl true)))) (dOr (dB (dOp oIsNot (dFn sp_is_term [] (dCons (dVar 11) dNil)) (dC (.bl true)))) (dNot (dB (dChain oLe oLt (dC (.int 0)) (dOp oIx (dVar 12) (dC (.int 1))) (dOp oShl (dC (.int 1)) (dOp oIx (dVar 12) (dC (.int 0))))))))) (dRet (dC (.bl false))) dNext))))
    (dSeq (dSet 14 (dLc (dIter (dTup (dCons (dVar 3) (dCons (dVar 4) (dCons (dTup (dCons (dC (.str "add")) (dCons (dVar 3) (dCons (dVar 4) dNil)))) (dCons (dTup (dCons (dC (.str "mul")) (dCons (dVar 3) (dCons (dVar 4) dNil)))) (dCons (dTup (dCons (dC (.str "sub")) (dCons (dVar 3) (dCons (dVar 4) dNil)))) dNil))))))) (dgName 12) dYes (dOp oIx (dFn (sp_term_value 12) [] (dCons (dVar 12) (dCons (dVar 8) dNil))) (dC (.int 1))) [12]))
    (dSeq (dIfS (dB (dOp oNe (dLst (dCons (dOp oIx (dVar 14) (dC (.int 2))) (dCons (dOp oIx (dVar 14) (dC (.int 3))) (dCons (dOp oIx (dVar 14) (dC (.int 4))) dNil)))) (dLst (dCons (dOp oMod (dOp oAdd (dOp oIx (dVar 14) (dC (.int 0))) (dOp oIx (dVar 14) (dC (.int 1)))) (dOp oShl (dC (.int 1)) (dVar 2))) (dCons (dOp oMod (dOp oMul (dOp oIx (dVar 14) (dC (.int 0))) (dOp oIx (dVar 14) (dC (.int 1)))) (dOp oShl (dC (.int 1)) (dVar 2))) (dCons (dOp oMod (dOp oSub (dOp oIx (dVar 14) (dC (.int 0))) (dOp oIx (dVar 14) (dC (.int 1)))) (dOp oShl (dC (.int 1)) (dVar 2))) dNil)))))) (dRet (dC (.bl false))) dNext)
    (dIfS (dOr (dB (dOp oNe (dFn (sp_term_value 12) [] (dCons (dTup (dCons (dC (.str "less")) (dCons (dVar 3) (dCons (dVar 4) dNil)))) (dCons (dVar 8) dNil))) (dTup (dCons (dC (.int 1)) (dCons (dCall oInt (dCons (dOp oLt (dOp oIx (dVar 14) (dC (.int 0))) (dOp oIx (dVar 14) (dC (.int 1)))) dNil)) dNil))))) (dB (dOp oNe (dOp oIx (dFn (sp_term_value 12) [] (dCons (dTup (dCons (dC (.str "join")) (dCons (dTup (dCons (dTup (dCons (dC (.str "less")) (dCons (dVar 3) (dCons (dVar 4) dNil)))) (dCons (dTup (dCons (dC (.str "eq")) (dCons (dVar 3) (dCons (dVar 4) dNil)))) dNil))) dNil))) (dCons (dVar 8) dNil))) (dC (.int 1))) (dOp oAdd (dOp oMul (dC (.int 2)) (dCall oInt (dCons (dOp oLt (dOp oIx (dVar 14) (dC (.int 0))) (dOp oIx (dVar 14) (dC (.int 1)))) dNil))) (dCall oInt (dCons (dOp oEq (dOp oIx (dVar 14) (dC (.int 0))) (dOp oIx (dVar 14) (dC (.int 1)))) dNil)))))) (dRet (dC (.bl false))) dNext))))))
    (dRet (dC (.bl true)))))))))
theorem rd_law : ∀ ds M R, sp_law ds M R X0 → w_law (retTo R X0) (startG N_law ds) M := fun ds M R h => by
  match ds, h with
  | [.sl xs], h =>
    obtain ⟨ns, rfl, q⟩ := h
    show w_law (retTo R X0) [some (.sl (ns.map D.int)), none, none, none, none, none, none, none, none, none, none, none, none, none, none] M
    unfold w_law
    walk_at "x"
    intro A hA
    have e0 : mup M A (.lst [.lst (ns.map D.int), .int 0, .int 0, .int 2]) = mup M A (tobj ⟨ns, 0, 0, 2⟩) := rfl
    rw [e0]
    have T0 : Tt A M (mup M A (tobj ⟨ns, 0, 0, 2⟩)) := ⟨_, rfl⟩
    generalize mup M A (tobj ⟨ns, 0, 0, 2⟩) = M0 at T0
    walk_at "x"
    refine pull_at T0 (by omega) (by omega) fun d M1 g1 g2 T1 => ?_
    obtain ⟨v, rfl⟩ := Int.eq_ofNat_of_zero_le g1
    refine x_add_i ?_
    obtain ⟨w, hw⟩ : ∃ w, w = 1 + v := ⟨_, rfl⟩
    rw [show (1 : Int) + (v : Int) = (w : Int) by omega]
    have h1 : 1 ≤ w := by omega
    have h2 : w ≤ 8 := by omega
    clear hw g1 g2 e0
    walk_at "x"
    refine term_at T1 2 w rfl rfl (by omega) (by omega) (by omega) h1 h2 fun a M2 a1 a2 a3 a4 T2 => ?_
    walk_at "x"
    refine term_at T2 2 w rfl rfl (by omega) (by omega) (by omega) h1 h2 fun b M3 b1 b2 b3 b4 T3 => ?_
    walk_at "x"
    refine term_at T3 2 w rfl rfl (by omega) (by omega) (by omega) h1 h2 fun c M4 c1 c2 c3 c4 T4 => ?_
    have a4 : many a ≤ 7 := a4
    have b4 : many b ≤ 7 := b4
    have c4 : many c ≤ 7 := c4
    have a3 : deep a ≤ 3 := a3
    have b3 : deep b ≤ 3 := b3
    have c3 : deep c ≤ 3 := c3
    walk_at "x"
    refine ⟨_, _, _, rfl, ?_⟩
    walk_at "x"
    refine ⟨a, b, c, w, rfl, rfl, rfl, rfl, h1, h2, ?_⟩
    walk_at "x"
    refine ⟨a, b, c, w, rfl, rfl, rfl, rfl, h1, h2, T4.at, fun t l t' t1 t2 t3 t4 hl => ?_⟩
    have T5 := T4.put t'
    generalize mup M4 A (tobj t') = M5 at T5
    walk_at "x"
    rw [show (3 : Int) = ((3 : Nat) : Int) from rfl, cut_to, ← List.map_take, part1_take]
    have sp := same_pairs a1 a2 a3 a4 b1 b2 b3 b4 c1 c2 c3 c4 h1 h2
    have sb := same_bits a1 a2 a3 a4 b1 b2 b3 b4 c1 c2 c3 c4 h1 h2
    have s1 := same_part1 a1 a2 a3 a4 b1 b2 b3 b4 c1 c2 c3 c4 h1 h2 t1 t2 t3 t4
    refine x_addL (Nat.le_of_ble_eq_true rfl) ?_
    rw [← List.map_append]
    walk_at "x"
    have ok1 : ∀ p ∈ pairsL a b c w ++ part1 t a b c, Same w p := fun p hp => (List.mem_append.mp hp).elim (sp p) (s1 p)
    refine lc_mapT (ts := pairsL a b c w ++ part1 t a b c) pD (fun p => fD (some w, p)) rfl (Nat.le_of_ble_eq_true rfl) (fun p hp M' sb K F k => ?_) (fun B hB => lcF_mk hB ?_)
    · walk_at "x"
      exact k
    have hf1 : ∃ fs : List (Option Nat × (Tm × Tm)), (pairsL a b c w ++ part1 t a b c).map (fun p => fD (some w, p)) = fs.map fD ∧ fs.length = 17 ∧ ∀ r ∈ fs, OkF r :=
      ⟨(pairsL a b c w ++ part1 t a b c).map fun p => (some w, p), by rw [List.map_map]; rfl, rfl, fun r hr => by
        obtain ⟨p, hp, rfl⟩ := List.mem_map.mp hr
        exact ⟨w, ok1 p hp, fun d e => by injection e with e; exact e.symm⟩⟩
    obtain ⟨f1, e1, l1, k1⟩ := hf1
    rw [e1]
    clear ok1 sp s1 hl t1 t2 t3 t4
    walk_at "x"
    refine ⟨a, b, w, rfl, rfl, rfl, h1, h2, ?_⟩
    walk_at "x"
    refine lc_mapT (ts := bitsL a b w) pD (fun p => fD (some 1, p)) rfl (Nat.le_of_ble_eq_true rfl) (fun p hp M' sb K F k => ?_) (fun B hB => lcF_mk hB ?_)
    · walk_at "x"
      exact k
    have hf2 : ∃ fs : List (Option Nat × (Tm × Tm)), (bitsL a b w).map (fun p => fD (some 1, p)) = fs.map fD ∧ fs.length = 11 ∧ ∀ r ∈ fs, OkF r :=
      ⟨(bitsL a b w).map fun p => (some 1, p), by rw [List.map_map]; rfl, rfl, fun r hr => by
        obtain ⟨p, hp, rfl⟩ := List.mem_map.mp hr
        exact ⟨1, sb p hp, fun d e => by injection e with e; exact e.symm⟩⟩
    obtain ⟨f2, e2, l2, k2⟩ := hf2
    rw [e2]
    clear sb
    refine x_addL (by rw [List.length_map, List.length_map, l1, l2]; decide) ?_
    rw [← List.map_append]
    walk_at "x"
    refine ⟨a, b, c, w, rfl, rfl, rfl, rfl, h1, h2, T5.at, fun t2 l2' t' t1 t2' t3 t4 hl => ?_⟩
    have T6 := T5.put t'
    generalize mup M5 A (tobj t') = M6 at T6
    walk_at "x"
    have ln := okF_len (t := t) (t2 := t2) (a := a) (b := b) (c := c) (w := w) (l := l) (l2 := l2')
    refine lc_mapT (ts := (partL t2 a b c w l2').drop 3) pD (fun p => fD (none, p)) (by rw [List.map_drop]; exact cut_from _ 3) (Nat.le_trans ln (by decide)) (fun p hp M' sb K F k => ?_) (fun B hB => lcF_mk hB ?_)
    · walk_at "x"
      exact k
    have hf3 : ∃ fs : List (Option Nat × (Tm × Tm)), ((partL t2 a b c w l2').drop 3).map (fun p => fD (none, p)) = fs.map fD ∧ fs.length ≤ 14 ∧ ∀ r ∈ fs, OkF r :=
      ⟨((partL t2 a b c w l2').drop 3).map fun p => (none, p), by rw [List.map_map]; rfl, by rw [List.length_map]; exact ln, fun r hr => by
        obtain ⟨p, hp, rfl⟩ := List.mem_map.mp hr
        obtain ⟨hw1, h⟩ := partL_drop p hp
        obtain ⟨q1, q2⟩ := hl hw1
        refine ⟨wid p.1, ?_, fun d e => by cases e⟩
        rcases h with h | ⟨q3, h⟩ | h
        · exact same_part2 a1 a2 a3 a4 b1 b2 b3 b4 c1 c2 c3 c4 h1 h2 q1 q2 p h
        · exact same_part3 a1 a2 a3 a4 b1 b2 b3 b4 c1 c2 c3 c4 h1 h2 t1 t2' t3 t4 q1 q3 p h
        · exact same_part4 a1 a2 a3 a4 b1 b2 b3 b4 c1 c2 c3 c4 h1 h2 q1 q2 p h⟩
    obtain ⟨f3, e3, l3, k3⟩ := hf3
    rw [e3]
    refine x_addL (by rw [List.length_map, List.length_map, List.length_append, l1, l2]; omega) ?_
    rw [← List.map_append]
    have kf : ∀ r ∈ f1 ++ f2 ++ f3, OkF r := fun r hr => by
      rcases List.mem_append.mp hr with h | h
      · rcases List.mem_append.mp h with h | h
        · exact k1 r h
        · exact k2 r h
      · exact k3 r h
    generalize f1 ++ f2 ++ f3 = fs at kf ⊢
    clear e1 e2 e3 l1 l2 l3 k1 k2 k3 hl ln
    walk_at "x"
    refine for_rg (n := 4) (fun i Γ' M' => ∃ o7 o8 o9 o10 o11 o12 o13 o14, Γ' = [some (.sl (ns.map D.int)), some (.loc A), some (.int w), some (dTm a), some (dTm b), some (dTm c), some (.lst (fs.map fD)), o7, o8, o9, o10, o11, o12, o13, o14] ∧ Tt A M M') rfl ⟨_, _, _, _, _, _, _, _, rfl, T6⟩ (fun _ _ _ _ => trivial) (fun i Γ' M' N hi hI hN => ?_) (fun Γ' M' hI => ?_)
    · obtain ⟨o7, o8, o9, o10, o11, o12, o13, o14, rfl, T7⟩ := hI
      clear T6
      walk_at "x"
      refine ⟨T7.at, fun W t' hW => ?_⟩
      have T8 := T7.put t'
      generalize mup M' A (tobj t') = M8 at T8
      clear T7
      walk_at "x"
      refine for_inv (fun i Γ' M' => ∃ o7 o9 o10 o11 o12 o13 o14, Γ' = [some (.sl (ns.map D.int)), some (.loc A), some (.int w), some (dTm a), some (dTm b), some (dTm c), some (.lst (fs.map fD)), o7, some (dWd W), o9, o10, o11, o12, o13, o14] ∧ M' = M8) ⟨_, _, _, _, _, _, _, rfl, rfl⟩ (fun _ _ _ _ => trivial) (fun i d Γ' M' N hd hI hN => ?_) (fun Γ' M' hI => ?_)
      · obtain ⟨o7, o9, o10, o11, o12, o13, o14, rfl, rfl⟩ := hI
        rw [List.getElem?_map] at hd
        obtain ⟨r, hri, rfl⟩ := Option.map_eq_some_iff.mp hd
        have hr := kf r (List.mem_of_getElem? hri)
        unfold fD pD
        refine x_gTup rfl (x_gCons (x_gName (x_gCons (x_gTup rfl (x_gCons (x_gName (x_gCons (x_gName (x_gNil (x_gNil ?_))))))))))
        exact turn_ok hW hr (fun _ _ => hN _ _ ⟨_, _, _, _, _, _, _, rfl, rfl⟩)
      · obtain ⟨o7, o9, o10, o11, o12, o13, o14, rfl, rfl⟩ := hI
        walk_at "x"
        have wfs : ∀ T ∈ [a, b, add a b, mul a b, sub a b], wf T ∧ deep T ≤ 12 := by
          intro T hT
          simp only [List.mem_cons, List.mem_nil_iff, or_false] at hT
          rcases hT with rfl | rfl | rfl | rfl | rfl
          · exact ⟨a1, by omega⟩
          · exact ⟨b1, by omega⟩
          · exact ⟨⟨a1, b1, by omega⟩, by simp only [add, deep]; omega⟩
          · exact ⟨⟨a1, b1, by omega⟩, by simp only [mul, deep]; omega⟩
          · exact ⟨⟨a1, b1, by omega⟩, by simp only [sub, deep]; omega⟩
        refine lc_mapT (ts := [a, b, add a b, mul a b, sub a b]) dTm (fun T => .int ((val W T : Nat) : Int)) rfl (Nat.le_of_ble_eq_true rfl) (fun T hT M' sb K F k => ?_) (fun B hB => lcF_mk hB ?_)
        · walk_at "x"
          refine tv_call (wfs T hT).1 hW (wfs T hT).2 ?_
          walk_at "x"
          exact k
        have hva := val_lt hW a a1
        have hvb := val_lt hW b b1
        rw [a2] at hva
        rw [b2] at hvb
        have h256 : 2 ^ w ≤ 2 ^ 8 := Nat.pow_le_pow_right (by decide) h2
        have hp0 := pow_pos2 w
        have v1 : (((val W (add a b) : Nat)) : Int) = (((val W a : Nat) : Int) + ((val W b : Nat) : Int)) % ((2 ^ w : Nat) : Int) := by
          show (((val W a + val W b) % 2 ^ wid a : Nat) : Int) = _
          rw [a2, Int.natCast_emod, Int.natCast_add]
        have v2 : (((val W (mul a b) : Nat)) : Int) = (((val W a : Nat) : Int) * ((val W b : Nat) : Int)) % ((2 ^ w : Nat) : Int) := by
          show (((val W a * val W b) % 2 ^ wid a : Nat) : Int) = _
          rw [a2, Int.natCast_emod, Int.natCast_mul]
        have v3 : (((val W (sub a b) : Nat)) : Int) = (((val W a : Nat) : Int) - ((val W b : Nat) : Int)) % ((2 ^ w : Nat) : Int) := by
          show (((val W a + (2 ^ wid a - val W b)) % 2 ^ wid a : Nat) : Int) = _
          rw [a2, Int.natCast_emod]
          generalize 2 ^ w = P at hvb
          have e : ((val W a + (P - val W b) : Nat) : Int) = (((val W a : Nat) : Int) - ((val W b : Nat) : Int)) + (P : Int) * 1 := by omega
          rw [e, Int.add_mul_emod_self_left]
        walk_at "x"
        refine x_shl ⟨by omega, by omega, by decide⟩ ?_
        rw [shl1]
        walk_at "x"
        refine x_shl ⟨by omega, by omega, by decide⟩ ?_
        rw [shl1]
        walk_at "x"
        refine x_shl ⟨by omega, by omega, by decide⟩ ?_
        rw [shl1]
        walk_at "x"
        refine x_ne rfl rfl ?_
        dsimp only
        rw [v1, v2, v3, eqb_refl3]
        walk_at "x"
        refine tv_call (T := lessT a b) (by simp only [wf, lessT]; exact ⟨a1, b1, by omega⟩) hW (by simp only [lessT, deep]; omega) ?_
        walk_at "x"
        refine x_ne rfl rfl ?_
        have v4 : (if decide (((val W a : Nat) : Int) < ((val W b : Nat) : Int)) = true then (1 : Int) else 0) = ((val W (lessT a b) : Nat) : Int) := by
          show _ = ((if val W a < val W b then 1 else 0 : Nat) : Int)
          by_cases z : val W a < val W b
          · rw [if_pos (by simpa using z), if_pos z]; rfl
          · rw [if_neg (by simpa using z), if_neg z]; rfl
        have v5 : (if (((val W a : Nat) : Int) == ((val W b : Nat) : Int)) = true then (1 : Int) else 0) = ((val W (eqT a b) : Nat) : Int) := by
          show _ = ((if val W a = val W b then 1 else 0 : Nat) : Int)
          by_cases z : val W a = val W b
          · rw [if_pos (by rw [z]; exact beq_self_eq_true _), if_pos z]; rfl
          · rw [if_neg (fun k => z (by have := eq_of_beq k; omega)), if_neg z]; rfl
        dsimp only
        rw [v4]
        rw [show eqb (vD W (lessT a b)) (.tup [.int 1, .int ((val W (lessT a b) : Nat) : Int)]) = true from eqb_refl2 _ _]
        walk_at "x"
        refine tv_call (T := .join2 (lessT a b) (eqT a b)) (by simp only [wf, lessT, eqT, wid]; exact ⟨⟨a1, b1, by omega⟩, ⟨a1, b1, by omega⟩, by omega⟩) hW (by simp only [lessT, eqT, deep]; omega) ?_
        walk_at "x"
        rw [v4, v5]
        rw [show ((val W (.join2 (lessT a b) (eqT a b)) : Nat) : Int) = 2 * ((val W (lessT a b) : Nat) : Int) + ((val W (eqT a b) : Nat) : Int) by
          show ((val W (lessT a b) * 2 + val W (eqT a b) : Nat) : Int) = _; omega]
        walk_at "xx"
        exact hN _ _ ⟨_, _, _, _, _, _, _, _, rfl, T8⟩
    · obtain ⟨o7, o8, o9, o10, o11, o12, o13, o14, rfl, T7⟩ := hI
      obtain ⟨t', rfl⟩ := T7
      walk_at "x"
      exact rt_sub (sub_new hA) q
end Law
namespace Law
open PySem PySem.Spec PyProof.Rows L2 DL
theorem len_is_count : ∀ ds M R XR, sp_is_count ds M R XR → ds.length = 1 := fun ds M R XR h => by
  unfold sp_is_count at h; (try unfold spDraw at h); split at h <;> first | rfl | exact h.elim
theorem x0_is_count : ∀ ds M R XR, sp_is_count ds M R XR → sp_is_count ds M R X0 := fun ds M R XR h => by
  unfold sp_is_count at h ⊢; (try unfold spDraw at h ⊢); split at h <;> first | exact h | exact h.elim
theorem len_is_width : ∀ ds M R XR, sp_is_width ds M R XR → ds.length = 1 := fun ds M R XR h => by
  unfold sp_is_width at h; (try unfold spDraw at h); split at h <;> first | rfl | exact h.elim
theorem x0_is_width : ∀ ds M R XR, sp_is_width ds M R XR → sp_is_width ds M R X0 := fun ds M R XR h => by
  unfold sp_is_width at h ⊢; (try unfold spDraw at h ⊢); split at h <;> first | exact h | exact h.elim
theorem len_is_word : ∀ ds M R XR, sp_is_word ds M R XR → ds.length = 2 := fun ds M R XR h => by
  unfold sp_is_word at h; (try unfold spDraw at h); split at h <;> first | rfl | exact h.elim
theorem x0_is_word : ∀ ds M R XR, sp_is_word ds M R XR → sp_is_word ds M R X0 := fun ds M R XR h => by
  unfold sp_is_word at h ⊢; (try unfold spDraw at h ⊢); split at h <;> first | exact h | exact h.elim
theorem len_cut_word : ∀ ds M R XR, sp_cut_word ds M R XR → ds.length = 2 := fun ds M R XR h => by
  unfold sp_cut_word at h; (try unfold spDraw at h); split at h <;> first | rfl | exact h.elim
theorem x0_cut_word : ∀ ds M R XR, sp_cut_word ds M R XR → sp_cut_word ds M R X0 := fun ds M R XR h => by
  unfold sp_cut_word at h ⊢; (try unfold spDraw at h ⊢); split at h <;> first | exact h | exact h.elim
theorem len_one_count : ∀ ds M R XR, sp_one_count ds M R XR → ds.length = 1 := fun ds M R XR h => by
  unfold sp_one_count at h; (try unfold spDraw at h); split at h <;> first | rfl | exact h.elim
theorem x0_one_count : ∀ ds M R XR, sp_one_count ds M R XR → sp_one_count ds M R X0 := fun ds M R XR h => by
  unfold sp_one_count at h ⊢; (try unfold spDraw at h ⊢); split at h <;> first | exact h | exact h.elim
theorem len_is_name : ∀ ds M R XR, sp_is_name ds M R XR → ds.length = 1 := fun ds M R XR h => by
  unfold sp_is_name at h; (try unfold spDraw at h); split at h <;> first | rfl | exact h.elim
theorem x0_is_name : ∀ ds M R XR, sp_is_name ds M R XR → sp_is_name ds M R X0 := fun ds M R XR h => by
  unfold sp_is_name at h ⊢; (try unfold spDraw at h ⊢); split at h <;> first | exact h | exact h.elim
theorem len_is_term : ∀ ds M R XR, sp_is_term ds M R XR → ds.length = 1 := fun ds M R XR h => by
  unfold sp_is_term at h; (try unfold spDraw at h); split at h <;> first | rfl | exact h.elim
theorem x0_is_term : ∀ ds M R XR, sp_is_term ds M R XR → sp_is_term ds M R X0 := fun ds M R XR h => by
  unfold sp_is_term at h ⊢; (try unfold spDraw at h ⊢); split at h <;> first | exact h | exact h.elim
theorem len_is_term_head : ∀ ds M R XR, sp_is_term_head ds M R XR → ds.length = 1 := fun ds M R XR h => by
  unfold sp_is_term_head at h; (try unfold spDraw at h); split at h <;> first | rfl | exact h.elim
theorem x0_is_term_head : ∀ ds M R XR, sp_is_term_head ds M R XR → sp_is_term_head ds M R X0 := fun ds M R XR h => by
  unfold sp_is_term_head at h ⊢; (try unfold spDraw at h ⊢); split at h <;> first | exact h | exact h.elim
theorem len_parts_of : ∀ ds M R XR, sp_parts_of ds M R XR → ds.length = 1 := fun ds M R XR h => by
  unfold sp_parts_of at h; (try unfold spDraw at h); split at h <;> first | rfl | exact h.elim
theorem x0_parts_of : ∀ ds M R XR, sp_parts_of ds M R XR → sp_parts_of ds M R X0 := fun ds M R XR h => by
  unfold sp_parts_of at h ⊢; (try unfold spDraw at h ⊢); split at h <;> first | exact h | exact h.elim
theorem len_World_init : ∀ ds M R XR, sp_World_init ds M R XR → ds.length = 4 := fun ds M R XR h => by
  unfold sp_World_init at h; (try unfold spDraw at h); split at h <;> first | rfl | exact h.elim
theorem x0_World_init : ∀ ds M R XR, sp_World_init ds M R XR → sp_World_init ds M R X0 := fun ds M R XR h => by
  unfold sp_World_init at h ⊢; (try unfold spDraw at h ⊢); split at h <;> first | exact h | exact h.elim
theorem len_width_of : ∀ ds M R XR, sp_width_of ds M R XR → ds.length = 2 := fun ds M R XR h => by
  unfold sp_width_of at h; (try unfold spDraw at h); split at h <;> first | rfl | exact h.elim
theorem x0_width_of : ∀ ds M R XR, sp_width_of ds M R XR → sp_width_of ds M R X0 := fun ds M R XR h => by
  unfold sp_width_of at h ⊢; (try unfold spDraw at h ⊢); split at h <;> first | exact h | exact h.elim
theorem no_width_at : ∀ ds M R XR, ¬ sp_width_at 0 ds M R XR := fun ds M R XR h => by
  unfold sp_width_at at h; split at h <;> first | exact h | (rename_i e _; omega) | omega
theorem len_width_at : ∀ n ds M R XR, sp_width_at n ds M R XR → ds.length = 3 := fun n ds M R XR h => by
  unfold sp_width_at at h; split at h <;> first | rfl | exact h.elim
theorem x0_width_at : ∀ n ds M R XR, sp_width_at n ds M R XR → sp_width_at n ds M R X0 := fun n ds M R XR h => by
  unfold sp_width_at at h ⊢; split at h <;> first | exact h | exact h.elim
theorem len_width_made : ∀ ds M R XR, sp_width_made ds M R XR → ds.length = 3 := fun ds M R XR h => by
  unfold sp_width_made at h; (try unfold spDraw at h); split at h <;> first | rfl | exact h.elim
theorem x0_width_made : ∀ ds M R XR, sp_width_made ds M R XR → sp_width_made ds M R X0 := fun ds M R XR h => by
  unfold sp_width_made at h ⊢; (try unfold spDraw at h ⊢); split at h <;> first | exact h | exact h.elim
theorem len_leaf_width : ∀ ds M R XR, sp_leaf_width ds M R XR → ds.length = 2 := fun ds M R XR h => by
  unfold sp_leaf_width at h; (try unfold spDraw at h); split at h <;> first | rfl | exact h.elim
theorem x0_leaf_width : ∀ ds M R XR, sp_leaf_width ds M R XR → sp_leaf_width ds M R X0 := fun ds M R XR h => by
  unfold sp_leaf_width at h ⊢; (try unfold spDraw at h ⊢); split at h <;> first | exact h | exact h.elim
theorem no_term_value : ∀ ds M R XR, ¬ sp_term_value 0 ds M R XR := fun ds M R XR h => by
  unfold sp_term_value at h; split at h <;> first | exact h | (rename_i e _; omega) | omega
theorem len_term_value : ∀ n ds M R XR, sp_term_value n ds M R XR → ds.length = 2 := fun n ds M R XR h => by
  unfold sp_term_value at h; split at h <;> first | rfl | exact h.elim
theorem x0_term_value : ∀ n ds M R XR, sp_term_value n ds M R XR → sp_term_value n ds M R X0 := fun n ds M R XR h => by
  unfold sp_term_value at h ⊢; split at h <;> first | exact h | exact h.elim
theorem len_value_of_one : ∀ ds M R XR, sp_value_of_one ds M R XR → ds.length = 2 := fun ds M R XR h => by
  unfold sp_value_of_one at h; (try unfold spDraw at h); split at h <;> first | rfl | exact h.elim
theorem x0_value_of_one : ∀ ds M R XR, sp_value_of_one ds M R XR → sp_value_of_one ds M R X0 := fun ds M R XR h => by
  unfold sp_value_of_one at h ⊢; (try unfold spDraw at h ⊢); split at h <;> first | exact h | exact h.elim
theorem len_value_of_pair : ∀ ds M R XR, sp_value_of_pair ds M R XR → ds.length = 3 := fun ds M R XR h => by
  unfold sp_value_of_pair at h; (try unfold spDraw at h); split at h <;> first | rfl | exact h.elim
theorem x0_value_of_pair : ∀ ds M R XR, sp_value_of_pair ds M R XR → sp_value_of_pair ds M R X0 := fun ds M R XR h => by
  unfold sp_value_of_pair at h ⊢; (try unfold spDraw at h ⊢); split at h <;> first | exact h | exact h.elim
theorem len_law_pull : ∀ ds M R XR, sp_law_pull ds M R XR → ds.length = 2 := fun ds M R XR h => by
  unfold sp_law_pull at h; (try unfold spDraw at h); split at h <;> first | rfl | exact h.elim
theorem x0_law_pull : ∀ ds M R XR, sp_law_pull ds M R XR → sp_law_pull ds M R X0 := fun ds M R XR h => by
  unfold sp_law_pull at h ⊢; (try unfold spDraw at h ⊢); split at h <;> first | exact h | exact h.elim
theorem no_law_term : ∀ ds M R XR, ¬ sp_law_term 0 ds M R XR := fun ds M R XR h => by
  unfold sp_law_term at h; split at h <;> first | exact h | (rename_i e _; omega) | omega
theorem len_law_term : ∀ n ds M R XR, sp_law_term n ds M R XR → ds.length = 3 := fun n ds M R XR h => by
  unfold sp_law_term at h; split at h <;> first | rfl | exact h.elim
theorem x0_law_term : ∀ n ds M R XR, sp_law_term n ds M R XR → sp_law_term n ds M R X0 := fun n ds M R XR h => by
  unfold sp_law_term at h ⊢; split at h <;> first | exact h | exact h.elim
theorem len_law_world : ∀ ds M R XR, sp_law_world ds M R XR → ds.length = 1 := fun ds M R XR h => by
  unfold sp_law_world at h; (try unfold spDraw at h); split at h <;> first | rfl | exact h.elim
theorem x0_law_world : ∀ ds M R XR, sp_law_world ds M R XR → sp_law_world ds M R X0 := fun ds M R XR h => by
  unfold sp_law_world at h ⊢; (try unfold spDraw at h ⊢); split at h <;> first | exact h | exact h.elim
theorem len_law_ones : ∀ ds M R XR, sp_law_ones ds M R XR → ds.length = 1 := fun ds M R XR h => by
  unfold sp_law_ones at h; (try unfold spDraw at h); split at h <;> first | rfl | exact h.elim
theorem x0_law_ones : ∀ ds M R XR, sp_law_ones ds M R XR → sp_law_ones ds M R X0 := fun ds M R XR h => by
  unfold sp_law_ones at h ⊢; (try unfold spDraw at h ⊢); split at h <;> first | exact h | exact h.elim
theorem len_law_pairs : ∀ ds M R XR, sp_law_pairs ds M R XR → ds.length = 4 := fun ds M R XR h => by
  unfold sp_law_pairs at h; (try unfold spDraw at h); split at h <;> first | rfl | exact h.elim
theorem x0_law_pairs : ∀ ds M R XR, sp_law_pairs ds M R XR → sp_law_pairs ds M R X0 := fun ds M R XR h => by
  unfold sp_law_pairs at h ⊢; (try unfold spDraw at h ⊢); split at h <;> first | exact h | exact h.elim
theorem len_law_bits : ∀ ds M R XR, sp_law_bits ds M R XR → ds.length = 3 := fun ds M R XR h => by
  unfold sp_law_bits at h; (try unfold spDraw at h); split at h <;> first | rfl | exact h.elim
theorem x0_law_bits : ∀ ds M R XR, sp_law_bits ds M R XR → sp_law_bits ds M R X0 := fun ds M R XR h => by
  unfold sp_law_bits at h ⊢; (try unfold spDraw at h ⊢); split at h <;> first | exact h | exact h.elim
theorem len_law_parted : ∀ ds M R XR, sp_law_parted ds M R XR → ds.length = 5 := fun ds M R XR h => by
  unfold sp_law_parted at h; (try unfold spDraw at h); split at h <;> first | rfl | exact h.elim
theorem x0_law_parted : ∀ ds M R XR, sp_law_parted ds M R XR → sp_law_parted ds M R X0 := fun ds M R XR h => by
  unfold sp_law_parted at h ⊢; (try unfold spDraw at h ⊢); split at h <;> first | exact h | exact h.elim
theorem len_law : ∀ ds M R XR, sp_law ds M R XR → ds.length = 1 := fun ds M R XR h => by
  unfold sp_law at h; (try unfold spDraw at h); split at h <;> first | rfl | exact h.elim
theorem x0_law : ∀ ds M R XR, sp_law ds M R XR → sp_law ds M R X0 := fun ds M R XR h => by
  unfold sp_law at h ⊢; (try unfold spDraw at h ⊢); split at h <;> first | exact h | exact h.elim
theorem end_law {K : PySem.W.Frag} {H : Hp} {a : Addr} {ns : List Int} {n : Nat} (hl : ns.length ≤ n) (hO : Only H) (hS : SqL K H a (ns.map V.int)) : lSp K sp_law [.ref a] H (fun v _ => v = .bl true) fun _ _ _ => False :=
  ⟨[.sl (ns.map D.int)], fun _ => none, fun d _ => d = .bl true, X0, (fun _ _ h => nomatch h), ⟨.ref a, [], rfl, ⟨a, _, rfl, hS.imp (fun h => ⟨h, rfl⟩) id, reps_ints ns⟩, rfl⟩, ⟨ns, rfl, rfl⟩, (fun d M' v H' r _ _ h => by
    subst r
    exact h), KX0⟩
end Law
namespace Law
open PySem PySem.Spec PyProof.Rows L2 DL
def topS (i : Nat) : Stmt := PySem.Challenge.pw_citywright_k02_whole_sums_and_bits_agree.main.body.getD i (.Pass ⟨0, 0, 0, 0⟩)
def clsS (i j : Nat) : Stmt := match topS i with
  | .ClassDef (body := b) .. => b.getD j (.Pass ⟨0, 0, 0, 0⟩)
  | _ => .Pass ⟨0, 0, 0, 0⟩
abbrev s_is_count : Stmt := topS 5
theorem sc_is_count : FnScope N_is_count ["value"] (defScope s_is_count) := ⟨rfl, rfl, rfl, by decide +kernel, rfl, by decide +kernel, by decide +kernel⟩
abbrev s_is_width : Stmt := topS 6
theorem sc_is_width : FnScope N_is_width ["value"] (defScope s_is_width) := ⟨rfl, rfl, rfl, by decide +kernel, rfl, by decide +kernel, by decide +kernel⟩
abbrev s_is_word : Stmt := topS 7
theorem sc_is_word : FnScope N_is_word ["value", "width"] (defScope s_is_word) := ⟨rfl, rfl, rfl, by decide +kernel, rfl, by decide +kernel, by decide +kernel⟩
abbrev s_cut_word : Stmt := topS 8
theorem sc_cut_word : FnScope N_cut_word ["value", "width"] (defScope s_cut_word) := ⟨rfl, rfl, rfl, by decide +kernel, rfl, by decide +kernel, by decide +kernel⟩
abbrev s_one_count : Stmt := topS 9
theorem sc_one_count : FnScope N_one_count ["word"] (defScope s_one_count) := ⟨rfl, rfl, rfl, by decide +kernel, rfl, by decide +kernel, by decide +kernel⟩
abbrev s_is_name : Stmt := topS 17
theorem sc_is_name : FnScope N_is_name ["value"] (defScope s_is_name) := ⟨rfl, rfl, rfl, by decide +kernel, rfl, by decide +kernel, by decide +kernel⟩
abbrev s_is_term : Stmt := topS 18
theorem sc_is_term : FnScope N_is_term ["value"] (defScope s_is_term) := ⟨rfl, rfl, rfl, by decide +kernel, rfl, by decide +kernel, by decide +kernel⟩
abbrev s_is_term_head : Stmt := topS 19
theorem sc_is_term_head : FnScope N_is_term_head ["value"] (defScope s_is_term_head) := ⟨rfl, rfl, rfl, by decide +kernel, rfl, by decide +kernel, by decide +kernel⟩
abbrev s_parts_of : Stmt := topS 20
theorem sc_parts_of : FnScope N_parts_of ["term"] (defScope s_parts_of) := ⟨rfl, rfl, rfl, by decide +kernel, rfl, by decide +kernel, by decide +kernel⟩
abbrev s_World_init : Stmt := clsS 21 0
theorem sc_World_init : FnScope N_World_init ["self", "tokens", "keeps", "stores"] (defScope s_World_init) := ⟨rfl, rfl, rfl, by decide +kernel, rfl, by decide +kernel, by decide +kernel⟩
abbrev s_width_of : Stmt := topS 22
theorem sc_width_of : FnScope N_width_of ["term", "world"] (defScope s_width_of) := ⟨rfl, rfl, rfl, by decide +kernel, rfl, by decide +kernel, by decide +kernel⟩
abbrev s_width_at : Stmt := topS 23
theorem sc_width_at : FnScope N_width_at ["term", "world", "path"] (defScope s_width_at) := ⟨rfl, rfl, rfl, by decide +kernel, rfl, by decide +kernel, by decide +kernel⟩
abbrev s_width_made : Stmt := topS 24
theorem sc_width_made : FnScope N_width_made ["term", "told", "world"] (defScope s_width_made) := ⟨rfl, rfl, rfl, by decide +kernel, rfl, by decide +kernel, by decide +kernel⟩
abbrev s_leaf_width : Stmt := topS 25
theorem sc_leaf_width : FnScope N_leaf_width ["term", "world"] (defScope s_leaf_width) := ⟨rfl, rfl, rfl, by decide +kernel, rfl, by decide +kernel, by decide +kernel⟩
abbrev s_term_value : Stmt := topS 26
theorem sc_term_value : FnScope N_term_value ["term", "world"] (defScope s_term_value) := ⟨rfl, rfl, rfl, by decide +kernel, rfl, by decide +kernel, by decide +kernel⟩
abbrev s_value_of_one : Stmt := topS 27
theorem sc_value_of_one : FnScope N_value_of_one ["kind", "told"] (defScope s_value_of_one) := ⟨rfl, rfl, rfl, by decide +kernel, rfl, by decide +kernel, by decide +kernel⟩
abbrev s_value_of_pair : Stmt := topS 28
theorem sc_value_of_pair : FnScope N_value_of_pair ["kind", "first", "second"] (defScope s_value_of_pair) := ⟨rfl, rfl, rfl, by decide +kernel, rfl, by decide +kernel, by decide +kernel⟩
abbrev s_law_pull : Stmt := topS 30
theorem sc_law_pull : FnScope N_law_pull ["tape", "many"] (defScope s_law_pull) := ⟨rfl, rfl, rfl, by decide +kernel, rfl, by decide +kernel, by decide +kernel⟩
abbrev s_law_term : Stmt := topS 31
theorem sc_law_term : FnScope N_law_term ["tape", "deep", "wide"] (defScope s_law_term) := ⟨rfl, rfl, rfl, by decide +kernel, rfl, by decide +kernel, by decide +kernel⟩
abbrev s_law_world : Stmt := topS 32
theorem sc_law_world : FnScope N_law_world ["tape"] (defScope s_law_world) := ⟨rfl, rfl, rfl, by decide +kernel, rfl, by decide +kernel, by decide +kernel⟩
abbrev s_law_ones : Stmt := topS 33
theorem sc_law_ones : FnScope N_law_ones ["wide"] (defScope s_law_ones) := ⟨rfl, rfl, rfl, by decide +kernel, rfl, by decide +kernel, by decide +kernel⟩
abbrev s_law_pairs : Stmt := topS 34
theorem sc_law_pairs : FnScope N_law_pairs ["a", "b", "c", "wide"] (defScope s_law_pairs) := ⟨rfl, rfl, rfl, by decide +kernel, rfl, by decide +kernel, by decide +kernel⟩
abbrev s_law_bits : Stmt := topS 35
theorem sc_law_bits : FnScope N_law_bits ["a", "b", "wide"] (defScope s_law_bits) := ⟨rfl, rfl, rfl, by decide +kernel, rfl, by decide +kernel, by decide +kernel⟩
abbrev s_law_parted : Stmt := topS 36
theorem sc_law_parted : FnScope N_law_parted ["tape", "a", "b", "c", "wide"] (defScope s_law_parted) := ⟨rfl, rfl, rfl, by decide +kernel, rfl, by decide +kernel, by decide +kernel⟩
abbrev s_law : Stmt := topS 37
theorem sc_law : FnScope N_law ["script"] (defScope s_law) := ⟨rfl, rfl, rfl, by decide +kernel, rfl, by decide +kernel, by decide +kernel⟩
/-- what stands behind the top -/
structure Tx (K : PySem.W.Frag) (mg : Str → Option Value) where
  f_is_count : Addr
  d_is_count : FuncData
  F_is_count : Fun K "is_count" "is_count" s_is_count f_is_count d_is_count
  b_is_count : Binds K d_is_count ["value"] []
  g_is_count : mg "is_count" = some (.ref f_is_count)
  f_is_width : Addr
  d_is_width : FuncData
  F_is_width : Fun K "is_width" "is_width" s_is_width f_is_width d_is_width
  b_is_width : Binds K d_is_width ["value"] []
  g_is_width : mg "is_width" = some (.ref f_is_width)
  f_is_word : Addr
  d_is_word : FuncData
  F_is_word : Fun K "is_word" "is_word" s_is_word f_is_word d_is_word
  b_is_word : Binds K d_is_word ["value", "width"] []
  g_is_word : mg "is_word" = some (.ref f_is_word)
  f_cut_word : Addr
  d_cut_word : FuncData
  F_cut_word : Fun K "cut_word" "cut_word" s_cut_word f_cut_word d_cut_word
  b_cut_word : Binds K d_cut_word ["value", "width"] []
  g_cut_word : mg "cut_word" = some (.ref f_cut_word)
  f_one_count : Addr
  d_one_count : FuncData
  F_one_count : Fun K "one_count" "one_count" s_one_count f_one_count d_one_count
  b_one_count : Binds K d_one_count ["word"] []
  g_one_count : mg "one_count" = some (.ref f_one_count)
  f_is_name : Addr
  d_is_name : FuncData
  F_is_name : Fun K "is_name" "is_name" s_is_name f_is_name d_is_name
  b_is_name : Binds K d_is_name ["value"] []
  g_is_name : mg "is_name" = some (.ref f_is_name)
  f_is_term : Addr
  d_is_term : FuncData
  F_is_term : Fun K "is_term" "is_term" s_is_term f_is_term d_is_term
  b_is_term : Binds K d_is_term ["value"] []
  g_is_term : mg "is_term" = some (.ref f_is_term)
  f_is_term_head : Addr
  d_is_term_head : FuncData
  F_is_term_head : Fun K "is_term_head" "is_term_head" s_is_term_head f_is_term_head d_is_term_head
  b_is_term_head : Binds K d_is_term_head ["value"] []
  g_is_term_head : mg "is_term_head" = some (.ref f_is_term_head)
  f_parts_of : Addr
  d_parts_of : FuncData
  F_parts_of : Fun K "parts_of" "parts_of" s_parts_of f_parts_of d_parts_of
  b_parts_of : Binds K d_parts_of ["term"] []
  g_parts_of : mg "parts_of" = some (.ref f_parts_of)
  f_World_init : Addr
  d_World_init : FuncData
  F_World_init : Fun K "__init__" "World.__init__" s_World_init f_World_init d_World_init
  b_World_init : Binds K d_World_init ["self", "tokens", "keeps", "stores"] []
  f_width_of : Addr
  d_width_of : FuncData
  F_width_of : Fun K "width_of" "width_of" s_width_of f_width_of d_width_of
  b_width_of : Binds K d_width_of ["term", "world"] []
  g_width_of : mg "width_of" = some (.ref f_width_of)
  f_width_at : Addr
  d_width_at : FuncData
  F_width_at : Fun K "width_at" "width_at" s_width_at f_width_at d_width_at
  b_width_at : Binds K d_width_at ["term", "world", "path"] []
  g_width_at : mg "width_at" = some (.ref f_width_at)
  f_width_made : Addr
  d_width_made : FuncData
  F_width_made : Fun K "width_made" "width_made" s_width_made f_width_made d_width_made
  b_width_made : Binds K d_width_made ["term", "told", "world"] []
  g_width_made : mg "width_made" = some (.ref f_width_made)
  f_leaf_width : Addr
  d_leaf_width : FuncData
  F_leaf_width : Fun K "leaf_width" "leaf_width" s_leaf_width f_leaf_width d_leaf_width
  b_leaf_width : Binds K d_leaf_width ["term", "world"] []
  g_leaf_width : mg "leaf_width" = some (.ref f_leaf_width)
  f_term_value : Addr
  d_term_value : FuncData
  F_term_value : Fun K "term_value" "term_value" s_term_value f_term_value d_term_value
  b_term_value : Binds K d_term_value ["term", "world"] []
  g_term_value : mg "term_value" = some (.ref f_term_value)
  f_value_of_one : Addr
  d_value_of_one : FuncData
  F_value_of_one : Fun K "value_of_one" "value_of_one" s_value_of_one f_value_of_one d_value_of_one
  b_value_of_one : Binds K d_value_of_one ["kind", "told"] []
  g_value_of_one : mg "value_of_one" = some (.ref f_value_of_one)
  f_value_of_pair : Addr
  d_value_of_pair : FuncData
  F_value_of_pair : Fun K "value_of_pair" "value_of_pair" s_value_of_pair f_value_of_pair d_value_of_pair
  b_value_of_pair : Binds K d_value_of_pair ["kind", "first", "second"] []
  g_value_of_pair : mg "value_of_pair" = some (.ref f_value_of_pair)
  f_law_pull : Addr
  d_law_pull : FuncData
  F_law_pull : Fun K "_law_pull" "_law_pull" s_law_pull f_law_pull d_law_pull
  b_law_pull : Binds K d_law_pull ["tape", "many"] []
  g_law_pull : mg "_law_pull" = some (.ref f_law_pull)
  f_law_term : Addr
  d_law_term : FuncData
  F_law_term : Fun K "_law_term" "_law_term" s_law_term f_law_term d_law_term
  b_law_term : Binds K d_law_term ["tape", "deep", "wide"] []
  g_law_term : mg "_law_term" = some (.ref f_law_term)
  f_law_world : Addr
  d_law_world : FuncData
  F_law_world : Fun K "_law_world" "_law_world" s_law_world f_law_world d_law_world
  b_law_world : Binds K d_law_world ["tape"] []
  g_law_world : mg "_law_world" = some (.ref f_law_world)
  f_law_ones : Addr
  d_law_ones : FuncData
  F_law_ones : Fun K "_law_ones" "_law_ones" s_law_ones f_law_ones d_law_ones
  b_law_ones : Binds K d_law_ones ["wide"] []
  g_law_ones : mg "_law_ones" = some (.ref f_law_ones)
  f_law_pairs : Addr
  d_law_pairs : FuncData
  F_law_pairs : Fun K "_law_pairs" "_law_pairs" s_law_pairs f_law_pairs d_law_pairs
  b_law_pairs : Binds K d_law_pairs ["a", "b", "c", "wide"] []
  g_law_pairs : mg "_law_pairs" = some (.ref f_law_pairs)
  f_law_bits : Addr
  d_law_bits : FuncData
  F_law_bits : Fun K "_law_bits" "_law_bits" s_law_bits f_law_bits d_law_bits
  b_law_bits : Binds K d_law_bits ["a", "b", "wide"] []
  g_law_bits : mg "_law_bits" = some (.ref f_law_bits)
  f_law_parted : Addr
  d_law_parted : FuncData
  F_law_parted : Fun K "_law_parted" "_law_parted" s_law_parted f_law_parted d_law_parted
  b_law_parted : Binds K d_law_parted ["tape", "a", "b", "c", "wide"] []
  g_law_parted : mg "_law_parted" = some (.ref f_law_parted)
  f_law : Addr
  d_law : FuncData
  F_law : Fun K "law" "law" s_law f_law d_law
  b_law : Binds K d_law ["script"] []
  g_law : mg "law" = some (.ref f_law)
  c_World : Addr
  kn_World : Kn K "World" c_World
  g_World : mg "World" = some (.ref c_World)
  cl_World : Cls K c_World
  mk_World : Mk K c_World f_World_init
  v_KEPT : ∃ a, mg "KEPT" = some (.ref a) ∧ TupS K a v_KEPT
  v_MOST_DEEP : ∃ t, mg "MOST_DEEP" = some (.int 12 t)
  v_MOST_PARTS : ∃ t, mg "MOST_PARTS" = some (.int 60 t)
  v_ONES : ∃ a, mg "ONES" = some (.ref a) ∧ TupS K a v_ONES
  v_PAIRS : ∃ a, mg "PAIRS" = some (.ref a) ∧ TupS K a v_PAIRS
  v_WIDEST : ∃ t, mg "WIDEST" = some (.int 8 t)
  o_tokens : FldOk K ["World"] "tokens"
  o_keeps : FldOk K ["World"] "keeps"
  o_stores : FldOk K ["World"] "stores"
  n_abs : mg "abs" = none
  n_all : mg "all" = none
  n_bool : mg "bool" = none
  n_int : mg "int" = none
  n_isinstance : mg "isinstance" = none
  n_len : mg "len" = none
  n_list : mg "list" = none
  n_range : mg "range" = none
  n_str : mg "str" = none
  n_sum : mg "sum" = none
  n_tuple : mg "tuple" = none
section
variable {P : Program} {wd : World} {K : PySem.W.Frag} {mg : Str → Option Value} {base : Heap}
theorem ok_is_count (T : Tx K mg) : FnOk P wd K mg base CX0 1 T.f_is_count T.d_is_count ["value"] (lSp K sp_is_count) := by
  refine fn0 T.F_is_count sc_is_count len_is_count ⟨w_is_count, fun cdv A outer s H E hr => (dss_one (ds_ret (de_and (de_isi (by rfl) T.n_isinstance (by rfl) T.n_int bt_int (dv 0)) (de_and (de_not (de_isi (by rfl) T.n_isinstance (by rfl) T.n_bool bt_bool (dv 0))) (de_one (de_cmp lo_ge (dv 0) de_int (nomark _))))))), rd_is_count⟩ x0_is_count
theorem ok_is_width (T : Tx K mg) : FnOk P wd K mg base CX0 2 T.f_is_width T.d_is_width ["value"] (lSp K sp_is_width) := by
  refine fn0 T.F_is_width sc_is_width len_is_width ⟨w_is_width, fun cdv A outer s H E hr => (dss_one (ds_ret (de_and (de_call (ok_is_count T) (hr.mono (by decide)) (by rfl) T.g_is_count T.F_is_count.kp T.b_is_count (da_cons (dv 0) da_nil)) (de_one (de_chain lo_le lo_le de_int (dv 0) (de_globI (by rfl) T.v_WIDEST)))))), rd_is_width⟩ x0_is_width
theorem ok_is_word (T : Tx K mg) : FnOk P wd K mg base CX0 2 T.f_is_word T.d_is_word ["value", "width"] (lSp K sp_is_word) := by
  refine fn0 T.F_is_word sc_is_word len_is_word ⟨w_is_word, fun cdv A outer s H E hr => (dss_one (ds_ret (de_and (de_call (ok_is_count T) (hr.mono (by decide)) (by rfl) T.g_is_count T.F_is_count.kp T.b_is_count (da_cons (dv 0) da_nil)) (de_one (de_cmp lo_lt (dv 0) (de_op lo_shl de_int (dv 1)) (nomark _)))))), rd_is_word⟩ x0_is_word
theorem ok_cut_word (T : Tx K mg) : FnOk P wd K mg base CX0 1 T.f_cut_word T.d_cut_word ["value", "width"] (lSp K sp_cut_word) := by
  refine fn0 T.F_cut_word sc_cut_word len_cut_word ⟨w_cut_word, fun cdv A outer s H E hr => (dss_one (ds_ret (de_op lo_and (dv 0) (de_op lo_sub (de_op lo_shl de_int (dv 1)) de_int)))), rd_cut_word⟩ x0_cut_word
theorem ok_one_count (T : Tx K mg) : FnOk P wd K mg base CX0 1 T.f_one_count T.d_one_count ["word"] (lSp K sp_one_count) := by
  refine fn0 T.F_one_count sc_one_count len_one_count ⟨w_one_count, fun cdv A outer s H E hr => (dss_cons (ds_set (i := 1) sc_one_count.nd rfl (by first | exact Or.inl rfl | exact Or.inr rfl) de_int)
      (dss_cons (ds_while PassesOwn.never (dt_cmp lo_gt (dv 0) de_int (nomark _)) (dss_one (ds_par (i := 1) (j := 0) rfl sc_one_count.nd rfl rfl (by decide) rfl rfl (da_cons (de_op lo_add (dv 1) (de_op lo_and (dv 0) de_int)) (da_cons (de_op lo_shr (dv 0) de_int) da_nil)) rfl)))
      (dss_one (ds_ret (dv 1))))), rd_one_count⟩ x0_one_count
theorem ok_is_name (T : Tx K mg) : FnOk P wd K mg base CX0 1 T.f_is_name T.d_is_name ["value"] (lSp K sp_is_name) := by
  refine fn0 T.F_is_name sc_is_name len_is_name ⟨w_is_name, fun cdv A outer s H E hr => (dss_cons (ds_if (PW.pt (dw_or (dt_not (dt_val (de_isi (by rfl) T.n_isinstance (by rfl) T.n_str bt_str (dv 0)))) (dw_or (dt_not (dt_chain lo_leX lo_leX de_int (de_callB lc_len (by rfl) T.n_len bt_len (da_cons (dv 0) da_nil)) de_int)) (dw_or (dt_cmp lo_inF (dv 0) (de_globT (by rfl) T.v_KEPT) rfl) (dw_or1 (dt_not (dt_chain lo_leX lo_leX de_str (de_ix (dv 0) de_int (fun _ _ => rfl)) de_str))))))) (dss_one (ds_ret de_bl)) dss_nil)
      (dss_one (ds_ret (de_callB (lc_all rfl) (by rfl) T.n_all bt_all (da_cons (de_lc rfl sc_is_name.nd (di_str (dv 0)) (blkOk_by (own := [("one", 1)]) (N := N_is_name) (sc := defScope s_is_name) (by decide +kernel)) (fun _ _ _ _ _ => (dg_name (i := 1) sc_is_name.nd rfl (by first | exact Or.inl rfl | exact Or.inr rfl))) (fun _ _ _ _ _ => dts_nil) (fun _ _ _ _ _ => (de_or (de_chain lo_leX lo_leX de_str (dv 1) de_str) (de_one (de_chain lo_leX lo_leX de_str (dv 1) de_str))))) da_nil))))), rd_is_name⟩ x0_is_name
theorem ok_is_term_head (T : Tx K mg) : FnOk P wd K mg base CX0 3 T.f_is_term_head T.d_is_term_head ["value"] (lSp K sp_is_term_head) := by
  refine fn0 T.F_is_term_head sc_is_term_head len_is_term_head ⟨w_is_term_head, fun cdv A outer s H E hr => (dss_cons (ds_if (PW.pt (dw_or (dt_not (dt_val (de_isi (by rfl) T.n_isinstance (by rfl) T.n_tuple bt_tuple (dv 0)))) (dw_or (dt_cmp lo_lt (de_callB lc_len (by rfl) T.n_len bt_len (da_cons (dv 0) da_nil)) de_int (nomark _)) (dw_or1 (dt_not (dt_val (de_isi (by rfl) T.n_isinstance (by rfl) T.n_str bt_str (de_ix (dv 0) de_int (fun _ _ => rfl))))))))) (dss_one (ds_ret de_bl)) dss_nil)
      (dss_cons (ds_par (i := 1) (j := 2) rfl sc_is_term_head.nd rfl rfl (by decide) rfl rfl (da_cons (de_ix (dv 0) de_int (fun _ _ => rfl)) (da_cons (de_callB lc_len (by rfl) T.n_len bt_len (da_cons (dv 0) da_nil)) da_nil)) rfl)
      (dss_cons (ds_if (dt_cmp (lo_eq hr.units) (dv 1) de_str (nomark _)) (dss_one (ds_ret (de_and (de_cmp (lo_eq hr.units) (dv 2) de_int (nomark _)) (de_and (de_call (ok_is_width T) (hr.mono (by decide)) (by rfl) T.g_is_width T.F_is_width.kp T.b_is_width (da_cons (de_ix (dv 0) de_int (fun _ _ => rfl)) da_nil)) (de_one (de_call (ok_is_word T) (hr.mono (by decide)) (by rfl) T.g_is_word T.F_is_word.kp T.b_is_word (da_cons (de_ix (dv 0) de_int (fun _ _ => rfl)) (da_cons (de_ix (dv 0) de_int (fun _ _ => rfl)) da_nil)))))))) dss_nil)
      (dss_cons (ds_if (dt_cmp (lo_eq hr.units) (dv 1) de_str (nomark _)) (dss_one (ds_ret (de_and (de_cmp (lo_eq hr.units) (dv 2) de_int (nomark _)) (de_and (de_call (ok_is_name T) (hr.mono (by decide)) (by rfl) T.g_is_name T.F_is_name.kp T.b_is_name (da_cons (de_ix (dv 0) de_int (fun _ _ => rfl)) da_nil)) (de_one (de_call (ok_is_count T) (hr.mono (by decide)) (by rfl) T.g_is_count T.F_is_count.kp T.b_is_count (da_cons (de_ix (dv 0) de_int (fun _ _ => rfl)) da_nil))))))) dss_nil)
      (dss_cons (ds_if (dt_cmp lo_inF (dv 1) (de_tup (da_cons de_str (da_cons de_str da_nil))) rfl) (dss_one (ds_ret (de_and (de_cmp (lo_eq hr.units) (dv 2) (de_if (dt_cmp (lo_eq hr.units) (dv 1) de_str (nomark _)) de_int de_int) (nomark _)) (de_one (de_call (ok_is_name T) (hr.mono (by decide)) (by rfl) T.g_is_name T.F_is_name.kp T.b_is_name (da_cons (de_ix (dv 0) de_int (fun _ _ => rfl)) da_nil)))))) dss_nil)
      (dss_cons (ds_if (dt_cmp (lo_eq hr.units) (dv 1) de_str (nomark _)) (dss_one (ds_ret (de_and (de_cmp (lo_eq hr.units) (dv 2) de_int (nomark _)) (de_and (de_isi (by rfl) T.n_isinstance (by rfl) T.n_tuple bt_tuple (de_ix (dv 0) de_int (fun _ _ => rfl))) (de_one (de_cmp lo_gt (de_callB lc_len (by rfl) T.n_len bt_len (da_cons (de_ix (dv 0) de_int (fun _ _ => rfl)) da_nil)) de_int (nomark _))))))) dss_nil)
      (dss_cons (ds_if (dt_cmp (lo_eq hr.units) (dv 1) de_str (nomark _)) (dss_one (ds_ret (de_and (de_cmp (lo_eq hr.units) (dv 2) de_int (nomark _)) (de_and (de_call (ok_is_count T) (hr.mono (by decide)) (by rfl) T.g_is_count T.F_is_count.kp T.b_is_count (da_cons (de_ix (dv 0) de_int (fun _ _ => rfl)) da_nil)) (de_and (de_call (ok_is_count T) (hr.mono (by decide)) (by rfl) T.g_is_count T.F_is_count.kp T.b_is_count (da_cons (de_ix (dv 0) de_int (fun _ _ => rfl)) da_nil)) (de_one (de_chain lo_gt lo_ge (de_globI (by rfl) T.v_WIDEST) (de_ix (dv 0) de_int (fun _ _ => rfl)) (de_ix (dv 0) de_int (fun _ _ => rfl))))))))) dss_nil)
      (dss_one (ds_ret (de_or (de_and (de_cmp lo_inF (dv 1) (de_globT (by rfl) T.v_ONES) rfl) (de_one (de_cmp (lo_eq hr.units) (dv 2) de_int (nomark _)))) (de_or (de_and (de_cmp lo_inF (dv 1) (de_globT (by rfl) T.v_PAIRS) rfl) (de_one (de_cmp (lo_eq hr.units) (dv 2) de_int (nomark _)))) (de_one (de_and (de_cmp (lo_eq hr.units) (dv 1) de_str (nomark _)) (de_one (de_cmp (lo_eq hr.units) (dv 2) de_int (nomark _)))))))))))))))), rd_is_term_head⟩ x0_is_term_head
theorem ok_parts_of (T : Tx K mg) : FnOk P wd K mg base CX0 1 T.f_parts_of T.d_parts_of ["term"] (lSp K sp_parts_of) := by
  refine fn0 T.F_parts_of sc_parts_of len_parts_of ⟨w_parts_of, fun cdv A outer s H E hr => (dss_cons (ds_set (i := 1) sc_parts_of.nd rfl (by first | exact Or.inl rfl | exact Or.inr rfl) (de_ix (dv 0) de_int (fun _ _ => rfl)))
      (dss_cons (ds_if (dt_cmp lo_inF (dv 1) (de_tup (da_cons de_str (da_cons de_str (da_cons de_str da_nil)))) rfl) (dss_one (ds_ret (de_tup da_nil))) dss_nil)
      (dss_cons (ds_if (dt_cmp (lo_eq hr.units) (dv 1) de_str (nomark _)) (dss_one (ds_ret (de_ix (dv 0) de_int (fun _ _ => rfl)))) dss_nil)
      (dss_cons (ds_if (dt_cmp (lo_eq hr.units) (dv 1) de_str (nomark _)) (dss_one (ds_ret (de_sl (dv 0) (do_some de_int) do_none))) dss_nil)
      (dss_one (ds_ret (de_if (dt_cmp (lo_eq hr.units) (dv 1) de_str (nomark _)) (de_sl (dv 0) (do_some de_int) (do_some de_int)) (de_sl (dv 0) (do_some de_int) do_none)))))))), rd_parts_of⟩ x0_parts_of
theorem ok_is_term (T : Tx K mg) : FnOk P wd K mg base CX0 4 T.f_is_term T.d_is_term ["value"] (lSp K sp_is_term) := by
  refine fn0 T.F_is_term sc_is_term len_is_term ⟨w_is_term, fun cdv A outer s H E hr => (dss_cons (ds_par (i := 1) (j := 2) rfl sc_is_term.nd rfl rfl (by decide) rfl rfl (da_cons (de_lstM (da_cons (de_tup (da_cons (dv 0) (da_cons de_int da_nil))) da_nil)) (da_cons de_int da_nil)) rfl)
      (dss_cons (ds_while PassesOwn.never (dt_cmp (lo_ne hr.units) (dv 1) (de_lst da_nil) (nomark _)) (dss_cons (ds_asg (vs := List.range 6) (de_pop (dv 1)) (dg_tup rfl (dgs_cons (dg_name (i := 3) sc_is_term.nd rfl (by first | exact Or.inl rfl | exact Or.inr rfl)) (dgs_cons (dg_name (i := 4) sc_is_term.nd rfl (by first | exact Or.inl rfl | exact Or.inr rfl)) dgs_nil))))
      (dss_cons (ds_aug (i := 2) sc_is_term.nd rfl (by first | exact Or.inl rfl | exact Or.inr rfl) de_int li_add)
      (dss_cons (ds_if (PW.pt (dw_or (dt_cmp lo_gt (dv 4) (de_globI (by rfl) T.v_MOST_DEEP) (nomark _)) (dw_or (dt_cmp lo_gt (dv 2) (de_globI (by rfl) T.v_MOST_PARTS) (nomark _)) (dw_or1 (dt_not (dt_val (de_call (ok_is_term_head T) (hr.mono (by decide)) (by rfl) T.g_is_term_head T.F_is_term_head.kp T.b_is_term_head (da_cons (dv 3) da_nil)))))))) (dss_one (ds_ret de_bl)) dss_nil)
      (dss_one (ds_aug (i := 1) sc_is_term.nd rfl (by first | exact Or.inl rfl | exact Or.inr rfl) (de_lc rfl sc_is_term.nd (di_seq (de_call (ok_parts_of T) (hr.mono (by decide)) (by rfl) T.g_parts_of T.F_parts_of.kp T.b_parts_of (da_cons (dv 3) da_nil))) (blkOk_by (own := [("part", 5)]) (N := N_is_term) (sc := defScope s_is_term) (by decide +kernel)) (fun _ _ _ _ _ => (dg_name (i := 5) sc_is_term.nd rfl (by first | exact Or.inl rfl | exact Or.inr rfl))) (fun _ _ _ _ _ => dts_nil) (fun _ _ _ _ _ => (de_tup (da_cons (dv 5) (da_cons (de_op lo_add (dv 4) de_int) da_nil))))) li_add))))))
      (dss_one (ds_ret de_bl)))), rd_is_term⟩ x0_is_term
theorem ok_World_init (T : Tx K mg) : FnOk P wd K mg base CX0 1 T.f_World_init T.d_World_init ["self", "tokens", "keeps", "stores"] (lSp K sp_World_init) := by
  refine fn0 T.F_World_init sc_World_init len_World_init ⟨w_World_init, fun cdv A outer s H E hr => (dss_cons (ds_setF T.o_tokens (dv 0) (dv 1))
      (dss_cons (ds_setF T.o_keeps (dv 0) (dv 2))
      (dss_one (ds_setF T.o_stores (dv 0) (dv 3))))), rd_World_init⟩ x0_World_init
theorem ok_leaf_width (T : Tx K mg) : FnOk P wd K mg base CX0 1 T.f_leaf_width T.d_leaf_width ["term", "world"] (lSp K sp_leaf_width) := by
  refine fn0 T.F_leaf_width sc_leaf_width len_leaf_width ⟨w_leaf_width, fun cdv A outer s H E hr => (dss_cons (ds_if (dt_cmp (lo_eq hr.units) (de_ix (dv 0) de_int (fun _ _ => rfl)) de_str (nomark _)) (dss_one (ds_ret (de_ix (dv 0) de_int (fun _ _ => rfl)))) dss_nil)
      (dss_cons (ds_if (dt_cmp (lo_eq hr.units) (de_ix (dv 0) de_int (fun _ _ => rfl)) de_str (nomark _)) (dss_cons (ds_asg (vs := List.range 4) (de_dget2 (hu_of hr) (de_fld T.o_tokens (dv 1)) (de_ix (dv 0) de_int (fun _ _ => rfl)) (de_tup (da_cons de_non (da_cons (de_tup da_nil) da_nil)))) (dg_tup rfl (dgs_cons (dg_name (i := 2) sc_leaf_width.nd rfl (by first | exact Or.inl rfl | exact Or.inr rfl)) (dgs_cons (dg_name (i := 3) sc_leaf_width.nd rfl (by first | exact Or.inl rfl | exact Or.inr rfl)) dgs_nil))))
      (dss_one (ds_ret (de_if (dt_cmp lo_lt (de_ix (dv 0) de_int (fun _ _ => rfl)) (de_callB lc_len (by rfl) T.n_len bt_len (da_cons (dv 3) da_nil)) (nomark _)) (dv 2) de_non)))) dss_nil)
      (dss_one (ds_ret (de_ix (de_dget2 (hu_of hr) (de_if (dt_cmp (lo_eq hr.units) (de_ix (dv 0) de_int (fun _ _ => rfl)) de_str (nomark _)) (de_fld T.o_keeps (dv 1)) (de_fld T.o_stores (dv 1))) (de_ix (dv 0) de_int (fun _ _ => rfl)) (de_tup (da_cons de_non (da_cons de_int da_nil)))) de_int (fun _ _ => rfl)))))), rd_leaf_width⟩ x0_leaf_width
theorem ok_width_made (T : Tx K mg) : FnOk P wd K mg base CX0 3 T.f_width_made T.d_width_made ["term", "told", "world"] (lSp K sp_width_made) := by
  refine fn0 T.F_width_made sc_width_made len_width_made ⟨w_width_made, fun cdv A outer s H E hr => (dss_cons (ds_set (i := 3) sc_width_made.nd rfl (by first | exact Or.inl rfl | exact Or.inr rfl) (de_ix (dv 0) de_int (fun _ _ => rfl)))
      (dss_cons (ds_if (dt_cmp lo_inF (dv 3) (de_tup (da_cons de_str (da_cons de_str (da_cons de_str (da_cons de_str da_nil))))) rfl) (dss_one (ds_ret (de_call (ok_leaf_width T) (hr.mono (by decide)) (by rfl) T.g_leaf_width T.F_leaf_width.kp T.b_leaf_width (da_cons (dv 0) (da_cons (dv 2) da_nil))))) dss_nil)
      (dss_cons (ds_if (dt_cmp (lo_eq hr.units) (dv 3) de_str (nomark _)) (dss_one (ds_ret (de_ix (dv 1) de_int (fun _ _ => rfl)))) dss_nil)
      (dss_cons (ds_if (dt_cmp lo_inF (dv 3) (de_globT (by rfl) T.v_ONES) rfl) (dss_one (ds_ret de_int)) dss_nil)
      (dss_cons (ds_if (dt_cmp lo_inF (dv 3) (de_tup (da_cons de_str (da_cons de_str da_nil))) rfl) (dss_one (ds_ret (de_if (dt_cmp (lo_eq hr.units) (de_ix (dv 1) de_int (fun _ _ => rfl)) (de_ix (dv 1) de_int (fun _ _ => rfl)) (nomark _)) de_int de_non))) dss_nil)
      (dss_cons (ds_if (dt_cmp (lo_eq hr.units) (dv 3) de_str (nomark _)) (dss_one (ds_ret (de_if (PW.pt (dw_and (dt_cmp (lo_eq hr.units) (de_ix (dv 1) de_int (fun _ _ => rfl)) de_int (nomark _)) (dw_and1 (dt_cmp (lo_eq hr.units) (de_ix (dv 1) de_int (fun _ _ => rfl)) (de_ix (dv 1) de_int (fun _ _ => rfl)) (nomark _))))) (de_ix (dv 1) de_int (fun _ _ => rfl)) de_non))) dss_nil)
      (dss_cons (ds_if (dt_cmp (lo_eq hr.units) (dv 3) de_str (nomark _)) (dss_one (ds_ret (de_if (dt_cmp lo_lt (de_ix (dv 0) de_int (fun _ _ => rfl)) (de_ix (dv 1) de_int (fun _ _ => rfl)) (nomark _)) (de_op lo_add (de_op lo_sub (de_ix (dv 0) de_int (fun _ _ => rfl)) (de_ix (dv 0) de_int (fun _ _ => rfl))) de_int) de_non))) dss_nil)
      (dss_cons (ds_if (dt_cmp (lo_eq hr.units) (dv 3) de_str (nomark _)) (dss_one (ds_ret (de_if (dt_val (de_call (ok_is_width T) (hr.mono (by decide)) (by rfl) T.g_is_width T.F_is_width.kp T.b_is_width (da_cons (de_callB (lc_sum rfl) (by rfl) T.n_sum bt_sum (da_cons (dv 1) da_nil)) da_nil))) (de_callB (lc_sum rfl) (by rfl) T.n_sum bt_sum (da_cons (dv 1) da_nil)) de_non))) dss_nil)
      (dss_one (ds_ret (de_if (dt_cmp (lo_eq hr.units) (de_ix (dv 1) de_int (fun _ _ => rfl)) (de_ix (dv 1) de_int (fun _ _ => rfl)) (nomark _)) (de_ix (dv 1) de_int (fun _ _ => rfl)) de_non))))))))))), rd_width_made⟩ x0_width_made
theorem ok_width_at (T : Tx K mg) : ∀ n, FnOk P wd K mg base CX0 (3 + n) T.f_width_at T.d_width_at ["term", "world", "path"] (lSp K (sp_width_at n))
  | 0 => fn_false no_width_at
  | n + 1 => by
    refine fn0 T.F_width_at sc_width_at (len_width_at (n + 1)) ⟨w_width_at n, fun cdv A outer s H E hr => (dss_cons (ds_set (i := 3) sc_width_at.nd rfl (by first | exact Or.inl rfl | exact Or.inr rfl) (de_call (ok_parts_of T) (hr.mono (by first | exact Nat.le_refl _ | exact Nat.le_trans (by decide) (Nat.le_add_right 3 n))) (by rfl) T.g_parts_of T.F_parts_of.kp T.b_parts_of (da_cons (dv 0) da_nil)))
      (dss_cons (ds_setLc (i := 4) rfl sc_width_at.nd rfl rfl (sw_true rfl rfl rfl (by decide +kernel)) (di_range1 (by rfl) T.n_range (de_callB lc_len (by rfl) T.n_len bt_len (da_cons (dv 3) da_nil))) (blkOk_by (own := [("k", 6)]) (N := N_width_at) (sc := defScope s_width_at) (by decide +kernel)) (fun _ _ _ _ _ => (dg_name (i := 6) sc_width_at.nd rfl (by first | exact Or.inl rfl | exact Or.inr rfl))) (fun _ _ _ _ _ => dts_nil) (fun _ _ _ _ _ => (de_call (ok_width_at T n) (hr.mono (by first | exact Nat.le_refl _ | exact Nat.le_trans (by decide) (Nat.le_add_right 3 n))) (by rfl) T.g_width_at T.F_width_at.kp T.b_width_at (da_cons (de_ix (dv 3) (dv 6) (fun _ _ => rfl)) (da_cons (dv 1) (da_cons (de_op lo_add (dv 2) (de_tup (da_cons (dv 6) da_nil))) da_nil))))))
      (dss_cons (ds_set (i := 5) sc_width_at.nd rfl (by first | exact Or.inl rfl | exact Or.inr rfl) (de_call (ok_width_made T) (hr.mono (by first | exact Nat.le_refl _ | exact Nat.le_trans (by decide) (Nat.le_add_right 3 n))) (by rfl) T.g_width_made T.F_width_made.kp T.b_width_made (da_cons (dv 0) (da_cons (dv 4) (da_cons (dv 1) da_nil)))))
      (dss_cons (ds_if (dt_cmp lo_is (dv 5) de_non (nomark _)) (dss_one ds_never) dss_nil)
      (dss_one (ds_ret (dv 5))))))), rd_width_at n⟩ (x0_width_at (n + 1))
theorem ok_width_of (T : Tx K mg) : FnOk P wd K mg base CX0 16 T.f_width_of T.d_width_of ["term", "world"] (lSp K sp_width_of) := by
  refine fn0 T.F_width_of sc_width_of len_width_of ⟨w_width_of, fun cdv A outer s H E hr => (dss_one (ds_ret (de_call (ok_width_at T 12) (hr.mono (by decide)) (by rfl) T.g_width_at T.F_width_at.kp T.b_width_at (da_cons (dv 0) (da_cons (dv 1) (da_cons (de_tup da_nil) da_nil)))))), rd_width_of⟩ x0_width_of
theorem ok_value_of_one (T : Tx K mg) : FnOk P wd K mg base CX0 2 T.f_value_of_one T.d_value_of_one ["kind", "told"] (lSp K sp_value_of_one) := by
  refine fn0 T.F_value_of_one sc_value_of_one len_value_of_one ⟨w_value_of_one, fun cdv A outer s H E hr => (dss_cons (ds_asg (vs := List.range 5) (dv 1) (dg_tup rfl (dgs_cons (dg_name (i := 2) sc_value_of_one.nd rfl (by first | exact Or.inl rfl | exact Or.inr rfl)) (dgs_cons (dg_name (i := 3) sc_value_of_one.nd rfl (by first | exact Or.inl rfl | exact Or.inr rfl)) dgs_nil))))
      (dss_cons (ds_if (dt_cmp (lo_eq hr.units) (dv 0) de_str (nomark _)) (dss_one (ds_ret (de_tup (da_cons (dv 2) (da_cons (de_call (ok_cut_word T) (hr.mono (by decide)) (by rfl) T.g_cut_word T.F_cut_word.kp T.b_cut_word (da_cons (de_op lo_sub (de_op lo_sub de_int de_int) (dv 3)) (da_cons (dv 2) da_nil))) da_nil))))) dss_nil)
      (dss_cons (ds_set (i := 4) sc_value_of_one.nd rfl (by first | exact Or.inl rfl | exact Or.inr rfl) (de_call (ok_one_count T) (hr.mono (by decide)) (by rfl) T.g_one_count T.F_one_count.kp T.b_one_count (da_cons (dv 3) da_nil)))
      (dss_one (ds_ret (de_tup (da_cons de_int (da_cons (de_dget (hu_of hr) (de_disp (pd_cons (de_callTy lc_int (by rfl) T.n_int bt_int (da_cons (de_cmp (lo_eq hr.units) (dv 4) (dv 2) (nomark _)) da_nil)) (pd_cons (de_callTy lc_int (by rfl) T.n_int bt_int (da_cons (de_cmp lo_gt (dv 4) de_int (nomark _)) da_nil)) (pd_cons (de_op lo_and (dv 4) de_int) pd_nil))) (by decide) (by decide)) (dv 0) (fun _ _ => rfl)) da_nil)))))))), rd_value_of_one⟩ x0_value_of_one
theorem ok_value_of_pair (T : Tx K mg) : FnOk P wd K mg base CX0 2 T.f_value_of_pair T.d_value_of_pair ["kind", "first", "second"] (lSp K sp_value_of_pair) := by
  refine fn0 T.F_value_of_pair sc_value_of_pair len_value_of_pair ⟨w_value_of_pair, fun cdv A outer s H E hr => (dss_cons (ds_asg (vs := List.range 6) (dv 1) (dg_tup rfl (dgs_cons (dg_name (i := 3) sc_value_of_pair.nd rfl (by first | exact Or.inl rfl | exact Or.inr rfl)) (dgs_cons (dg_name (i := 4) sc_value_of_pair.nd rfl (by first | exact Or.inl rfl | exact Or.inr rfl)) dgs_nil))))
      (dss_cons (ds_set (i := 5) sc_value_of_pair.nd rfl (by first | exact Or.inl rfl | exact Or.inr rfl) (de_ix (dv 2) de_int (fun _ _ => rfl)))
      (dss_cons (ds_if (dt_cmp lo_inF (dv 0) (de_tup (da_cons de_str (da_cons de_str da_nil))) rfl) (dss_one (ds_ret (de_tup (da_cons de_int (da_cons (de_callTy lc_int (by rfl) T.n_int bt_int (da_cons (de_if (dt_cmp (lo_eq hr.units) (dv 0) de_str (nomark _)) (de_cmp (lo_eq hr.units) (dv 4) (dv 5) (nomark _)) (de_cmp lo_lt (dv 4) (dv 5) (nomark _))) da_nil)) da_nil))))) dss_nil)
      (dss_cons (ds_if (dt_cmp lo_inF (dv 0) (de_tup (da_cons de_str (da_cons de_str (da_cons de_str da_nil)))) rfl) (dss_one (ds_ret (de_tup (da_cons (dv 3) (da_cons (de_dget (hu_of hr) (de_disp (pd_cons (de_op lo_and (dv 4) (dv 5)) (pd_cons (de_op lo_or (dv 4) (dv 5)) (pd_cons (de_op lo_xor (dv 4) (dv 5)) pd_nil))) (by decide) (by decide)) (dv 0) (fun _ _ => rfl)) da_nil))))) dss_nil)
      (dss_one (ds_ret (de_tup (da_cons (dv 3) (da_cons (de_call (ok_cut_word T) (hr.mono (by decide)) (by rfl) T.g_cut_word T.F_cut_word.kp T.b_cut_word (da_cons (de_dget (hu_of hr) (de_disp (pd_cons (de_op lo_add (dv 4) (dv 5)) (pd_cons (de_op lo_sub (dv 4) (dv 5)) (pd_cons (de_op lo_mul (dv 4) (dv 5)) pd_nil))) (by decide) (by decide)) (dv 0) (fun _ _ => rfl)) (da_cons (dv 3) da_nil))) da_nil))))))))), rd_value_of_pair⟩ x0_value_of_pair
theorem ok_term_value (T : Tx K mg) : ∀ n, FnOk P wd K mg base CX0 (2 + n) T.f_term_value T.d_term_value ["term", "world"] (lSp K (sp_term_value n))
  | 0 => fn_false no_term_value
  | n + 1 => by
    refine fn0 T.F_term_value sc_term_value (len_term_value (n + 1)) ⟨w_term_value n, fun cdv A outer s H E hr => (dss_cons (ds_set (i := 2) sc_term_value.nd rfl (by first | exact Or.inl rfl | exact Or.inr rfl) (de_ix (dv 0) de_int (fun _ _ => rfl)))
      (dss_cons (ds_if (dt_cmp (lo_eq hr.units) (dv 2) de_str (nomark _)) (dss_one (ds_ret (de_tup (da_cons (de_ix (dv 0) de_int (fun _ _ => rfl)) (da_cons (de_ix (dv 0) de_int (fun _ _ => rfl)) da_nil))))) dss_nil)
      (dss_cons (ds_if (dt_cmp (lo_eq hr.units) (dv 2) de_str (nomark _)) (dss_one (ds_ret (de_dget (hu_of hr) (de_fld T.o_keeps (dv 1)) (de_ix (dv 0) de_int (fun _ _ => rfl)) (fun _ _ => rfl)))) dss_nil)
      (dss_cons (ds_if (dt_cmp (lo_eq hr.units) (dv 2) de_str (nomark _)) (dss_one (ds_ret (de_tup (da_cons (de_ix (de_dget (hu_of hr) (de_fld T.o_tokens (dv 1)) (de_ix (dv 0) de_int (fun _ _ => rfl)) (fun _ _ => rfl)) de_int (fun _ _ => rfl)) (da_cons (de_ix (de_ix (de_dget (hu_of hr) (de_fld T.o_tokens (dv 1)) (de_ix (dv 0) de_int (fun _ _ => rfl)) (fun _ _ => rfl)) de_int (fun _ _ => rfl)) (de_ix (dv 0) de_int (fun _ _ => rfl)) (fun _ _ => rfl)) da_nil))))) dss_nil)
      (dss_cons (ds_setLc (i := 3) rfl sc_term_value.nd rfl rfl (sw_true rfl rfl rfl (by decide +kernel)) (di_seq (de_call (ok_parts_of T) (hr.mono (by first | exact Nat.le_refl _ | exact Nat.le_trans (by decide) (Nat.le_add_right 2 n))) (by rfl) T.g_parts_of T.F_parts_of.kp T.b_parts_of (da_cons (dv 0) da_nil))) (blkOk_by (own := [("one", 7)]) (N := N_term_value) (sc := defScope s_term_value) (by decide +kernel)) (fun _ _ _ _ _ => (dg_name (i := 7) sc_term_value.nd rfl (by first | exact Or.inl rfl | exact Or.inr rfl))) (fun _ _ _ _ _ => dts_nil) (fun _ _ _ _ _ => (de_call (ok_term_value T n) (hr.mono (by first | exact Nat.le_refl _ | exact Nat.le_trans (by decide) (Nat.le_add_right 2 n))) (by rfl) T.g_term_value T.F_term_value.kp T.b_term_value (da_cons (dv 7) (da_cons (dv 1) da_nil)))))
      (dss_cons (ds_if (dt_cmp (lo_eq hr.units) (dv 2) de_str (nomark _)) (dss_cons (ds_asg (vs := List.range 8) (de_dget (hu_of hr) (de_fld T.o_stores (dv 1)) (de_ix (dv 0) de_int (fun _ _ => rfl)) (fun _ _ => rfl)) (dg_tup rfl (dgs_cons (dg_name (i := 4) sc_term_value.nd rfl (by first | exact Or.inl rfl | exact Or.inr rfl)) (dgs_cons (dg_name (i := 5) sc_term_value.nd rfl (by first | exact Or.inl rfl | exact Or.inr rfl)) dgs_nil))))
      (dss_one (ds_ret (de_tup (da_cons (dv 4) (da_cons (de_if (dt_cmp lo_lt (de_ix (de_ix (dv 3) de_int (fun _ _ => rfl)) de_int (fun _ _ => rfl)) (de_callB lc_len (by rfl) T.n_len bt_len (da_cons (dv 5) da_nil)) (nomark _)) (de_ix (dv 5) (de_ix (de_ix (dv 3) de_int (fun _ _ => rfl)) de_int (fun _ _ => rfl)) (fun _ _ => rfl)) de_int) da_nil)))))) dss_nil)
      (dss_cons (ds_if (dt_cmp (lo_eq hr.units) (dv 2) de_str (nomark _)) (dss_one (ds_ret (de_if (dt_cmp (lo_eq hr.units) (de_ix (de_ix (dv 3) de_int (fun _ _ => rfl)) de_int (fun _ _ => rfl)) de_int (nomark _)) (de_ix (dv 3) de_int (fun _ _ => rfl)) (de_ix (dv 3) de_int (fun _ _ => rfl))))) dss_nil)
      (dss_cons (ds_if (dt_cmp (lo_eq hr.units) (dv 2) de_str (nomark _)) (dss_cons (ds_set (i := 4) sc_term_value.nd rfl (by first | exact Or.inl rfl | exact Or.inr rfl) (de_op lo_add (de_op lo_sub (de_ix (dv 0) de_int (fun _ _ => rfl)) (de_ix (dv 0) de_int (fun _ _ => rfl))) de_int))
      (dss_one (ds_ret (de_tup (da_cons (dv 4) (da_cons (de_call (ok_cut_word T) (hr.mono (by first | exact Nat.le_refl _ | exact Nat.le_trans (by decide) (Nat.le_add_right 2 n))) (by rfl) T.g_cut_word T.F_cut_word.kp T.b_cut_word (da_cons (de_op lo_shr (de_ix (de_ix (dv 3) de_int (fun _ _ => rfl)) de_int (fun _ _ => rfl)) (de_ix (dv 0) de_int (fun _ _ => rfl))) (da_cons (dv 4) da_nil))) da_nil)))))) dss_nil)
      (dss_cons (ds_if (dt_cmp (lo_eq hr.units) (dv 2) de_str (nomark _)) (dss_cons (ds_asg (vs := List.range 8) (de_tup (da_cons de_int (da_cons de_int da_nil))) (dg_tup rfl (dgs_cons (dg_name (i := 6) sc_term_value.nd rfl (by first | exact Or.inl rfl | exact Or.inr rfl)) (dgs_cons (dg_name (i := 4) sc_term_value.nd rfl (by first | exact Or.inl rfl | exact Or.inr rfl)) dgs_nil))))
      (dss_cons (ds_for (vs := List.range 8) PassesOwn.never rfl (di_seq (dv 3)) (dg_name (i := 7) sc_term_value.nd rfl (by first | exact Or.inl rfl | exact Or.inr rfl)) (dss_one (ds_par (i := 6) (j := 4) rfl sc_term_value.nd rfl rfl (by decide) rfl rfl (da_cons (de_op lo_or (de_op lo_shl (dv 6) (de_ix (dv 7) de_int (fun _ _ => rfl))) (de_ix (dv 7) de_int (fun _ _ => rfl))) (da_cons (de_op lo_add (dv 4) (de_ix (dv 7) de_int (fun _ _ => rfl))) da_nil)) rfl)))
      (dss_one (ds_ret (de_tup (da_cons (dv 4) (da_cons (dv 6) da_nil))))))) dss_nil)
      (dss_one (ds_ret (de_if (dt_cmp lo_inF (dv 2) (de_globT (by rfl) T.v_ONES) rfl) (de_call (ok_value_of_one T) (hr.mono (by first | exact Nat.le_refl _ | exact Nat.le_trans (by decide) (Nat.le_add_right 2 n))) (by rfl) T.g_value_of_one T.F_value_of_one.kp T.b_value_of_one (da_cons (dv 2) (da_cons (de_ix (dv 3) de_int (fun _ _ => rfl)) da_nil))) (de_call (ok_value_of_pair T) (hr.mono (by first | exact Nat.le_refl _ | exact Nat.le_trans (by decide) (Nat.le_add_right 2 n))) (by rfl) T.g_value_of_pair T.F_value_of_pair.kp T.b_value_of_pair (da_cons (dv 2) (da_cons (de_ix (dv 3) de_int (fun _ _ => rfl)) (da_cons (de_ix (dv 3) de_int (fun _ _ => rfl)) da_nil)))))))))))))))), rd_term_value n⟩ (x0_term_value (n + 1))
theorem ok_law_pull (T : Tx K mg) : FnOk P wd K mg base CX0 1 T.f_law_pull T.d_law_pull ["tape", "many"] (lSp K sp_law_pull) := by
  refine fn0 T.F_law_pull sc_law_pull len_law_pull ⟨w_law_pull, fun cdv A outer s H E hr => (dss_cons (ds_if (dt_cmp (lo_eq hr.units) (de_ix (dv 0) de_int (fun _ _ => rfl)) de_int (nomark _)) (dss_cons (ds_set (i := 2) sc_law_pull.nd rfl (by first | exact Or.inl rfl | exact Or.inr rfl) de_int)
      (dss_cons (ds_if (dt_cmp lo_lt (de_ix (dv 0) de_int (fun _ _ => rfl)) (de_callB lc_len (by rfl) T.n_len bt_len (da_cons (de_ix (dv 0) de_int (fun _ _ => rfl)) da_nil)) (nomark _)) (dss_one (ds_set (i := 2) sc_law_pull.nd rfl (by first | exact Or.inl rfl | exact Or.inr rfl) (de_callB lc_abs (by rfl) T.n_abs bt_abs (da_cons (de_callTy lc_int (by rfl) T.n_int bt_int (da_cons (de_ix (de_ix (dv 0) de_int (fun _ _ => rfl)) (de_ix (dv 0) de_int (fun _ _ => rfl)) (fun _ _ => rfl)) da_nil)) da_nil)))) dss_nil)
      (dss_cons (ds_asg (vs := List.range 4) (de_op lo_add (de_ix (dv 0) de_int (fun _ _ => rfl)) de_int) (dg_sub (dv 0) de_int))
      (dss_cons (ds_if (dt_cmp lo_lt (dv 2) (de_op lo_pow de_int de_int) (nomark _)) (dss_cons (ds_asg (vs := List.range 4) (de_op lo_mod (de_callTy lc_int (by rfl) T.n_int bt_int (da_cons (de_op lo_add (de_op lo_add (de_op lo_mul (de_ix (dv 0) de_int (fun _ _ => rfl)) de_int) (de_op lo_mul (dv 2) de_int)) de_int) da_nil)) de_int) (dg_sub (dv 0) de_int))
      (dss_one (ds_ret (de_op lo_mod (de_op lo_mod (de_callTy lc_int (by rfl) T.n_int bt_int (da_cons (de_op lo_mul (de_callTy lc_int (by rfl) T.n_int bt_int (da_cons (de_op lo_div (de_ix (dv 0) de_int (fun _ _ => rfl)) de_int) da_nil)) de_int) da_nil)) de_int) (dv 1))))) dss_nil)
      (dss_one (ds_asg (vs := List.range 4) (dv 2) (dg_sub (dv 0) de_int))))))) dss_nil)
      (dss_cons (ds_set (i := 3) sc_law_pull.nd rfl (by first | exact Or.inl rfl | exact Or.inr rfl) (de_op lo_mod (de_callTy lc_int (by rfl) T.n_int bt_int (da_cons (de_ix (dv 0) de_int (fun _ _ => rfl)) da_nil)) (dv 1)))
      (dss_cons (ds_asg (vs := List.range 4) (de_op lo_div (de_callTy lc_int (by rfl) T.n_int bt_int (da_cons (de_ix (dv 0) de_int (fun _ _ => rfl)) da_nil)) (dv 1)) (dg_sub (dv 0) de_int))
      (dss_one (ds_ret (dv 3)))))), rd_law_pull⟩ x0_law_pull
theorem ok_law_term (T : Tx K mg) : ∀ n, FnOk P wd K mg base CX0 (1 + n) T.f_law_term T.d_law_term ["tape", "deep", "wide"] (lSp K (sp_law_term n))
  | 0 => fn_false no_law_term
  | n + 1 => by
    refine fn0 T.F_law_term sc_law_term (len_law_term (n + 1)) ⟨w_law_term n, fun cdv A outer s H E hr => (dss_cons (ds_set (i := 3) sc_law_term.nd rfl (by first | exact Or.inl rfl | exact Or.inr rfl) (de_if (dt_cmp lo_gt (dv 1) de_int (nomark _)) (de_call (ok_law_pull T) (hr.mono (by first | exact Nat.le_refl _ | exact Nat.le_trans (by decide) (Nat.le_add_right 1 n))) (by rfl) T.g_law_pull T.F_law_pull.kp T.b_law_pull (da_cons (dv 0) (da_cons de_int da_nil))) (de_call (ok_law_pull T) (hr.mono (by first | exact Nat.le_refl _ | exact Nat.le_trans (by decide) (Nat.le_add_right 1 n))) (by rfl) T.g_law_pull T.F_law_pull.kp T.b_law_pull (da_cons (dv 0) (da_cons de_int da_nil)))))
      (dss_cons (ds_if (dt_cmp (lo_eq hr.units) (dv 3) de_int (nomark _)) (dss_one (ds_ret (de_tup (da_cons de_str (da_cons (dv 2) (da_cons (de_call (ok_law_pull T) (hr.mono (by first | exact Nat.le_refl _ | exact Nat.le_trans (by decide) (Nat.le_add_right 1 n))) (by rfl) T.g_law_pull T.F_law_pull.kp T.b_law_pull (da_cons (dv 0) (da_cons (de_op lo_shl de_int (dv 2)) da_nil))) da_nil)))))) dss_nil)
      (dss_cons (ds_if (dt_cmp lo_lt (dv 3) de_int (nomark _)) (dss_one (ds_ret (de_ix (de_tup (da_cons (de_tup (da_cons de_str (da_cons (de_op lo_add de_str (de_callTy lc_str (by rfl) T.n_str bt_str (da_cons (dv 2) da_nil))) (da_cons (de_call (ok_law_pull T) (hr.mono (by first | exact Nat.le_refl _ | exact Nat.le_trans (by decide) (Nat.le_add_right 1 n))) (by rfl) T.g_law_pull T.F_law_pull.kp T.b_law_pull (da_cons (dv 0) (da_cons de_int da_nil))) da_nil)))) (da_cons (de_tup (da_cons de_str (da_cons (de_op lo_add de_str (de_callTy lc_str (by rfl) T.n_str bt_str (da_cons (dv 2) da_nil))) da_nil))) (da_cons (de_tup (da_cons de_str (da_cons (de_op lo_add de_str (de_callTy lc_str (by rfl) T.n_str bt_str (da_cons (dv 2) da_nil))) (da_cons (de_tup (da_cons de_str (da_cons de_str (da_cons de_int da_nil)))) da_nil)))) da_nil)))) (de_op lo_sub (dv 3) de_int) (fun _ _ => rfl)))) dss_nil)
      (dss_cons (ds_if (dt_cmp lo_lt (dv 3) de_int (nomark _)) (dss_cons (ds_set (i := 4) sc_law_term.nd rfl (by first | exact Or.inl rfl | exact Or.inr rfl) (de_ix (de_tup (da_cons de_str (da_cons de_str (da_cons de_str (da_cons de_str (da_cons de_str (da_cons de_str da_nil))))))) (de_call (ok_law_pull T) (hr.mono (by first | exact Nat.le_refl _ | exact Nat.le_trans (by decide) (Nat.le_add_right 1 n))) (by rfl) T.g_law_pull T.F_law_pull.kp T.b_law_pull (da_cons (dv 0) (da_cons de_int da_nil))) (fun _ _ => rfl)))
      (dss_one (ds_ret (de_tup (da_cons (dv 4) (da_cons (de_call (ok_law_term T n) (hr.mono (by first | exact Nat.le_refl _ | exact Nat.le_trans (by decide) (Nat.le_add_right 1 n))) (by rfl) T.g_law_term T.F_law_term.kp T.b_law_term (da_cons (dv 0) (da_cons (de_op lo_sub (dv 1) de_int) (da_cons (dv 2) da_nil)))) (da_cons (de_call (ok_law_term T n) (hr.mono (by first | exact Nat.le_refl _ | exact Nat.le_trans (by decide) (Nat.le_add_right 1 n))) (by rfl) T.g_law_term T.F_law_term.kp T.b_law_term (da_cons (dv 0) (da_cons (de_op lo_sub (dv 1) de_int) (da_cons (dv 2) da_nil)))) da_nil))))))) dss_nil)
      (dss_cons (ds_if (dt_cmp (lo_eq hr.units) (dv 3) de_int (nomark _)) (dss_one (ds_ret (de_tup (da_cons de_str (da_cons (de_call (ok_law_term T n) (hr.mono (by first | exact Nat.le_refl _ | exact Nat.le_trans (by decide) (Nat.le_add_right 1 n))) (by rfl) T.g_law_term T.F_law_term.kp T.b_law_term (da_cons (dv 0) (da_cons (de_op lo_sub (dv 1) de_int) (da_cons (dv 2) da_nil)))) da_nil))))) dss_nil)
      (dss_cons (ds_if (dt_cmp (lo_eq hr.units) (dv 3) de_int (nomark _)) (dss_one (ds_ret (de_tup (da_cons de_str (da_cons (de_call (ok_law_term T n) (hr.mono (by first | exact Nat.le_refl _ | exact Nat.le_trans (by decide) (Nat.le_add_right 1 n))) (by rfl) T.g_law_term T.F_law_term.kp T.b_law_term (da_cons (dv 0) (da_cons de_int (da_cons de_int da_nil)))) (da_cons (de_call (ok_law_term T n) (hr.mono (by first | exact Nat.le_refl _ | exact Nat.le_trans (by decide) (Nat.le_add_right 1 n))) (by rfl) T.g_law_term T.F_law_term.kp T.b_law_term (da_cons (dv 0) (da_cons (de_op lo_sub (dv 1) de_int) (da_cons (dv 2) da_nil)))) (da_cons (de_call (ok_law_term T n) (hr.mono (by first | exact Nat.le_refl _ | exact Nat.le_trans (by decide) (Nat.le_add_right 1 n))) (by rfl) T.g_law_term T.F_law_term.kp T.b_law_term (da_cons (dv 0) (da_cons (de_op lo_sub (dv 1) de_int) (da_cons (dv 2) da_nil)))) da_nil))))))) dss_nil)
      (dss_cons (ds_if (dt_cmp lo_gt (dv 2) de_int (nomark _)) (dss_cons (ds_set (i := 5) sc_law_term.nd rfl (by first | exact Or.inl rfl | exact Or.inr rfl) (de_op lo_add de_int (de_call (ok_law_pull T) (hr.mono (by first | exact Nat.le_refl _ | exact Nat.le_trans (by decide) (Nat.le_add_right 1 n))) (by rfl) T.g_law_pull T.F_law_pull.kp T.b_law_pull (da_cons (dv 0) (da_cons (de_op lo_sub (dv 2) de_int) da_nil)))))
      (dss_cons (ds_if (PW.pt (dw_and (dt_cmp lo_gt (de_op lo_sub (dv 2) (dv 5)) de_int (nomark _)) (dw_and1 (dt_cmp (lo_eq hr.units) (de_call (ok_law_pull T) (hr.mono (by first | exact Nat.le_refl _ | exact Nat.le_trans (by decide) (Nat.le_add_right 1 n))) (by rfl) T.g_law_pull T.F_law_pull.kp T.b_law_pull (da_cons (dv 0) (da_cons de_int da_nil))) de_int (nomark _))))) (dss_cons (ds_set (i := 6) sc_law_term.nd rfl (by first | exact Or.inl rfl | exact Or.inr rfl) (de_op lo_add de_int (de_call (ok_law_pull T) (hr.mono (by first | exact Nat.le_refl _ | exact Nat.le_trans (by decide) (Nat.le_add_right 1 n))) (by rfl) T.g_law_pull T.F_law_pull.kp T.b_law_pull (da_cons (dv 0) (da_cons (de_op lo_sub (de_op lo_sub (dv 2) (dv 5)) de_int) da_nil)))))
      (dss_one (ds_ret (de_tup (da_cons de_str (da_cons (de_tup (da_cons (de_call (ok_law_term T n) (hr.mono (by first | exact Nat.le_refl _ | exact Nat.le_trans (by decide) (Nat.le_add_right 1 n))) (by rfl) T.g_law_term T.F_law_term.kp T.b_law_term (da_cons (dv 0) (da_cons (de_op lo_sub (dv 1) de_int) (da_cons (de_op lo_sub (de_op lo_sub (dv 2) (dv 5)) (dv 6)) da_nil)))) (da_cons (de_call (ok_law_term T n) (hr.mono (by first | exact Nat.le_refl _ | exact Nat.le_trans (by decide) (Nat.le_add_right 1 n))) (by rfl) T.g_law_term T.F_law_term.kp T.b_law_term (da_cons (dv 0) (da_cons (de_op lo_sub (dv 1) de_int) (da_cons (dv 6) da_nil)))) (da_cons (de_call (ok_law_term T n) (hr.mono (by first | exact Nat.le_refl _ | exact Nat.le_trans (by decide) (Nat.le_add_right 1 n))) (by rfl) T.g_law_term T.F_law_term.kp T.b_law_term (da_cons (dv 0) (da_cons (de_op lo_sub (dv 1) de_int) (da_cons (dv 5) da_nil)))) da_nil)))) da_nil)))))) dss_nil)
      (dss_one (ds_ret (de_tup (da_cons de_str (da_cons (de_tup (da_cons (de_call (ok_law_term T n) (hr.mono (by first | exact Nat.le_refl _ | exact Nat.le_trans (by decide) (Nat.le_add_right 1 n))) (by rfl) T.g_law_term T.F_law_term.kp T.b_law_term (da_cons (dv 0) (da_cons (de_op lo_sub (dv 1) de_int) (da_cons (de_op lo_sub (dv 2) (dv 5)) da_nil)))) (da_cons (de_call (ok_law_term T n) (hr.mono (by first | exact Nat.le_refl _ | exact Nat.le_trans (by decide) (Nat.le_add_right 1 n))) (by rfl) T.g_law_term T.F_law_term.kp T.b_law_term (da_cons (dv 0) (da_cons (de_op lo_sub (dv 1) de_int) (da_cons (dv 5) da_nil)))) da_nil))) da_nil))))))) dss_nil)
      (dss_one (ds_ret (de_tup (da_cons (de_ix (de_tup (da_cons de_str (da_cons de_str (da_cons de_str da_nil)))) (de_call (ok_law_pull T) (hr.mono (by first | exact Nat.le_refl _ | exact Nat.le_trans (by decide) (Nat.le_add_right 1 n))) (by rfl) T.g_law_pull T.F_law_pull.kp T.b_law_pull (da_cons (dv 0) (da_cons de_int da_nil))) (fun _ _ => rfl)) (da_cons (de_call (ok_law_term T n) (hr.mono (by first | exact Nat.le_refl _ | exact Nat.le_trans (by decide) (Nat.le_add_right 1 n))) (by rfl) T.g_law_term T.F_law_term.kp T.b_law_term (da_cons (dv 0) (da_cons (de_op lo_sub (dv 1) de_int) (da_cons (de_op lo_add de_int (de_call (ok_law_pull T) (hr.mono (by first | exact Nat.le_refl _ | exact Nat.le_trans (by decide) (Nat.le_add_right 1 n))) (by rfl) T.g_law_pull T.F_law_pull.kp T.b_law_pull (da_cons (dv 0) (da_cons de_int da_nil)))) da_nil)))) da_nil)))))))))))), rd_law_term n⟩ (x0_law_term (n + 1))
theorem ok_law_world (T : Tx K mg) : FnOk P wd K mg base CX0 3 T.f_law_world T.d_law_world ["tape"] (lSp K sp_law_world) := by
  refine fn0 T.F_law_world sc_law_world len_law_world ⟨w_law_world, fun cdv A outer s H E hr => (dss_cons (ds_par3 (i := 1) (j := 2) (l := 3) rfl sc_law_world.nd rfl rfl rfl (by decide) (by decide) (by decide) rfl rfl rfl (da_cons de_dnewK (da_cons de_dnewK (da_cons de_dnewK da_nil))) rfl)
      (dss_cons (ds_for (vs := List.range 7) PassesOwn.never rfl (di_range2 (by rfl) T.n_range de_int de_int) (dg_name (i := 4) sc_law_world.nd rfl (by first | exact Or.inl rfl | exact Or.inr rfl)) (dss_cons (ds_set (i := 5) sc_law_world.nd rfl (by first | exact Or.inl rfl | exact Or.inr rfl) (de_op lo_shl de_int (dv 4)))
      (dss_cons (ds_dput (hu_of hr) (dv 1) (de_op lo_add de_str (de_callTy lc_str (by rfl) T.n_str bt_str (da_cons (dv 4) da_nil))) (de_tup (da_cons (dv 4) (da_cons (de_tup (da_cons (de_call (ok_law_pull T) (hr.mono (by decide)) (by rfl) T.g_law_pull T.F_law_pull.kp T.b_law_pull (da_cons (dv 0) (da_cons (dv 5) da_nil))) (da_cons (de_call (ok_law_pull T) (hr.mono (by decide)) (by rfl) T.g_law_pull T.F_law_pull.kp T.b_law_pull (da_cons (dv 0) (da_cons (dv 5) da_nil))) da_nil))) da_nil))) rfl)
      (dss_cons (ds_dput (hu_of hr) (dv 2) (de_op lo_add de_str (de_callTy lc_str (by rfl) T.n_str bt_str (da_cons (dv 4) da_nil))) (de_tup (da_cons (dv 4) (da_cons (de_call (ok_law_pull T) (hr.mono (by decide)) (by rfl) T.g_law_pull T.F_law_pull.kp T.b_law_pull (da_cons (dv 0) (da_cons (dv 5) da_nil))) da_nil))) rfl)
      (dss_one (ds_dput (hu_of hr) (dv 3) (de_op lo_add de_str (de_callTy lc_str (by rfl) T.n_str bt_str (da_cons (dv 4) da_nil))) (de_tup (da_cons (dv 4) (da_cons (de_callTy lc_tuple (by rfl) T.n_tuple bt_tuple (da_cons (de_lc rfl sc_law_world.nd (di_range1 (by rfl) T.n_range (de_op lo_add de_int (de_call (ok_law_pull T) (hr.mono (by decide)) (by rfl) T.g_law_pull T.F_law_pull.kp T.b_law_pull (da_cons (dv 0) (da_cons de_int da_nil))))) (blkOk_by (own := [("k", 6)]) (N := N_law_world) (sc := defScope s_law_world) (by decide +kernel)) (fun _ _ _ _ _ => (dg_name (i := 6) sc_law_world.nd rfl (by first | exact Or.inl rfl | exact Or.inr rfl))) (fun _ _ _ _ _ => dts_nil) (fun _ _ _ _ _ => (de_call (ok_law_pull T) (hr.mono (by decide)) (by rfl) T.g_law_pull T.F_law_pull.kp T.b_law_pull (da_cons (dv 0) (da_cons (dv 5) da_nil))))) da_nil)) da_nil))) rfl))))))
      (dss_one (ds_ret (de_frz (de_new T.mk_World T.kn_World (ok_World_init T) (hr.mono (by decide)) (by rfl) T.g_World T.b_World_init (da_cons (de_frz (dv 1)) (da_cons (de_frz (dv 2)) (da_cons (de_frz (dv 3)) da_nil))))))))), rd_law_world⟩ x0_law_world
theorem ok_law_ones (T : Tx K mg) : FnOk P wd K mg base CX0 1 T.f_law_ones T.d_law_ones ["wide"] (lSp K sp_law_ones) := by
  refine fn0 T.F_law_ones sc_law_ones len_law_ones ⟨w_law_ones, fun cdv A outer s H E hr => (dss_one (ds_ret (de_tup (da_cons de_str (da_cons (dv 0) (da_cons (de_op lo_sub (de_op lo_shl de_int (dv 0)) de_int) da_nil)))))), rd_law_ones⟩ x0_law_ones
theorem ok_law_pairs (T : Tx K mg) : FnOk P wd K mg base CX0 2 T.f_law_pairs T.d_law_pairs ["a", "b", "c", "wide"] (lSp K sp_law_pairs) := by
  refine fn0 T.F_law_pairs sc_law_pairs len_law_pairs ⟨w_law_pairs, fun cdv A outer s H E hr => (dss_cons (ds_par3 (i := 4) (j := 5) (l := 6) rfl sc_law_pairs.nd rfl rfl rfl (by decide) (by decide) (by decide) rfl rfl rfl (da_cons (de_tup (da_cons de_str (da_cons (dv 3) (da_cons de_int da_nil)))) (da_cons (de_tup (da_cons de_str (da_cons (dv 3) (da_cons de_int da_nil)))) (da_cons (de_call (ok_law_ones T) (hr.mono (by decide)) (by rfl) T.g_law_ones T.F_law_ones.kp T.b_law_ones (da_cons (dv 3) da_nil)) da_nil))) rfl)
      (dss_cons (ds_set (i := 7) sc_law_pairs.nd rfl (by first | exact Or.inl rfl | exact Or.inr rfl) (de_lst (da_cons (de_tup (da_cons (de_tup (da_cons de_str (da_cons (dv 0) (da_cons (dv 1) da_nil)))) (da_cons (de_tup (da_cons de_str (da_cons (dv 1) (da_cons (dv 0) da_nil)))) da_nil))) (da_cons (de_tup (da_cons (de_tup (da_cons de_str (da_cons (de_tup (da_cons de_str (da_cons (dv 0) (da_cons (dv 1) da_nil)))) (da_cons (dv 2) da_nil)))) (da_cons (de_tup (da_cons de_str (da_cons (dv 0) (da_cons (de_tup (da_cons de_str (da_cons (dv 1) (da_cons (dv 2) da_nil)))) da_nil)))) da_nil))) (da_cons (de_tup (da_cons (de_tup (da_cons de_str (da_cons (dv 0) (da_cons (dv 1) da_nil)))) (da_cons (de_tup (da_cons de_str (da_cons (dv 0) (da_cons (de_tup (da_cons de_str (da_cons (de_tup (da_cons de_str (da_cons (dv 1) da_nil))) (da_cons (dv 5) da_nil)))) da_nil)))) da_nil))) da_nil)))))
      (dss_cons (ds_set (i := 7) sc_law_pairs.nd rfl (by first | exact Or.inl rfl | exact Or.inr rfl) (de_op lo_add (dv 7) (de_lst (da_cons (de_tup (da_cons (de_tup (da_cons de_str (da_cons (dv 0) (da_cons (de_tup (da_cons de_str (da_cons (dv 1) (da_cons (dv 2) da_nil)))) da_nil)))) (da_cons (de_tup (da_cons de_str (da_cons (de_tup (da_cons de_str (da_cons (dv 0) (da_cons (dv 1) da_nil)))) (da_cons (de_tup (da_cons de_str (da_cons (dv 0) (da_cons (dv 2) da_nil)))) da_nil)))) da_nil))) (da_cons (de_tup (da_cons (de_tup (da_cons de_str (da_cons (dv 0) (da_cons (dv 1) da_nil)))) (da_cons (de_tup (da_cons de_str (da_cons (dv 1) (da_cons (dv 0) da_nil)))) da_nil))) (da_cons (de_tup (da_cons (de_tup (da_cons de_str (da_cons (dv 0) (da_cons (dv 0) da_nil)))) (da_cons (dv 4) da_nil))) da_nil))))))
      (dss_cons (ds_set (i := 7) sc_law_pairs.nd rfl (by first | exact Or.inl rfl | exact Or.inr rfl) (de_op lo_add (dv 7) (de_lst (da_cons (de_tup (da_cons (de_tup (da_cons de_str (da_cons (de_tup (da_cons de_str (da_cons (dv 0) (da_cons (dv 1) da_nil)))) da_nil))) (da_cons (de_tup (da_cons de_str (da_cons (de_tup (da_cons de_str (da_cons (dv 0) da_nil))) (da_cons (de_tup (da_cons de_str (da_cons (dv 1) da_nil))) da_nil)))) da_nil))) (da_cons (de_tup (da_cons (de_tup (da_cons de_str (da_cons (dv 0) (da_cons (dv 1) da_nil)))) (da_cons (de_tup (da_cons de_str (da_cons (de_tup (da_cons de_str (da_cons (dv 0) (da_cons (dv 1) da_nil)))) (da_cons (de_tup (da_cons de_str (da_cons (de_tup (da_cons de_str (da_cons (dv 0) (da_cons (dv 1) da_nil)))) da_nil))) da_nil)))) da_nil))) da_nil)))))
      (dss_cons (ds_set (i := 7) sc_law_pairs.nd rfl (by first | exact Or.inl rfl | exact Or.inr rfl) (de_op lo_add (dv 7) (de_lst (da_cons (de_if (dt_cmp lo_gt (dv 3) de_int (nomark _)) (de_tup (da_cons (de_tup (da_cons de_str (da_cons (de_tup (da_cons de_str (da_cons (dv 0) (da_cons (dv 1) da_nil)))) (da_cons (de_tup (da_cons de_str (da_cons (de_tup (da_cons de_str (da_cons (dv 5) (da_cons (dv 5) da_nil)))) (da_cons (de_tup (da_cons de_str (da_cons (dv 0) (da_cons (dv 1) da_nil)))) da_nil)))) da_nil)))) (da_cons (de_tup (da_cons de_str (da_cons (dv 0) (da_cons (dv 1) da_nil)))) da_nil))) (de_tup (da_cons (de_tup (da_cons de_str (da_cons (dv 0) (da_cons (dv 1) da_nil)))) (da_cons (de_tup (da_cons de_str (da_cons (dv 0) (da_cons (dv 1) da_nil)))) da_nil)))) da_nil))))
      (dss_cons (ds_set (i := 7) sc_law_pairs.nd rfl (by first | exact Or.inl rfl | exact Or.inr rfl) (de_op lo_add (dv 7) (de_lst (da_cons (de_tup (da_cons (de_tup (da_cons de_str (da_cons (dv 0) (da_cons (de_tup (da_cons de_str (da_cons (dv 1) (da_cons (dv 2) da_nil)))) da_nil)))) (da_cons (de_tup (da_cons de_str (da_cons (de_tup (da_cons de_str (da_cons (dv 0) (da_cons (dv 1) da_nil)))) (da_cons (de_tup (da_cons de_str (da_cons (dv 0) (da_cons (dv 2) da_nil)))) da_nil)))) da_nil))) (da_cons (de_tup (da_cons (de_tup (da_cons de_str (da_cons (dv 0) (da_cons (dv 6) da_nil)))) (da_cons (dv 6) da_nil))) (da_cons (de_tup (da_cons (de_tup (da_cons de_str (da_cons (de_tup (da_cons de_str (da_cons (dv 0) da_nil))) da_nil))) (da_cons (dv 0) da_nil))) da_nil))))))
      (dss_one (ds_ret (de_op lo_add (dv 7) (de_lst (da_cons (de_tup (da_cons (de_tup (da_cons de_str (da_cons (dv 0) (da_cons (dv 5) da_nil)))) (da_cons (dv 0) da_nil))) (da_cons (de_tup (da_cons (de_tup (da_cons de_str (da_cons (dv 4) (da_cons (dv 0) da_nil)))) (da_cons (de_tup (da_cons de_str (da_cons (de_tup (da_cons de_str (da_cons (dv 0) da_nil))) (da_cons (dv 5) da_nil)))) da_nil))) da_nil)))))))))))), rd_law_pairs⟩ x0_law_pairs
theorem ok_law_bits (T : Tx K mg) : FnOk P wd K mg base CX0 2 T.f_law_bits T.d_law_bits ["a", "b", "wide"] (lSp K sp_law_bits) := by
  refine fn0 T.F_law_bits sc_law_bits len_law_bits ⟨w_law_bits, fun cdv A outer s H E hr => (dss_cons (ds_set (i := 3) sc_law_bits.nd rfl (by first | exact Or.inl rfl | exact Or.inr rfl) (de_lst (da_cons (de_tup (da_cons (de_tup (da_cons de_str (da_cons (dv 0) (da_cons (dv 1) da_nil)))) (da_cons (de_tup (da_cons de_str (da_cons (de_tup (da_cons de_str (da_cons (de_tup (da_cons de_str (da_cons (dv 0) (da_cons (dv 1) da_nil)))) da_nil))) da_nil))) da_nil))) (da_cons (de_tup (da_cons (de_tup (da_cons de_str (da_cons (dv 0) da_nil))) (da_cons (de_tup (da_cons de_str (da_cons (dv 0) (da_cons (de_call (ok_law_ones T) (hr.mono (by decide)) (by rfl) T.g_law_ones T.F_law_ones.kp T.b_law_ones (da_cons (dv 2) da_nil)) da_nil)))) da_nil))) (da_cons (de_tup (da_cons (de_tup (da_cons de_str (da_cons (dv 0) da_nil))) (da_cons (de_tup (da_cons de_str (da_cons (de_tup (da_cons de_str (da_cons (dv 2) (da_cons de_int da_nil)))) (da_cons (dv 0) da_nil)))) da_nil))) da_nil)))))
      (dss_cons (ds_set (i := 3) sc_law_bits.nd rfl (by first | exact Or.inl rfl | exact Or.inr rfl) (de_op lo_add (dv 3) (de_lst (da_cons (de_tup (da_cons (de_tup (da_cons de_str (da_cons (de_tup (da_cons de_str (da_cons (dv 0) (da_cons (dv 1) da_nil)))) da_nil))) (da_cons (de_tup (da_cons de_str (da_cons (de_tup (da_cons de_str (da_cons (dv 0) da_nil))) (da_cons (de_tup (da_cons de_str (da_cons (dv 1) da_nil))) da_nil)))) da_nil))) (da_cons (de_tup (da_cons (de_tup (da_cons de_str (da_cons (dv 0) da_nil))) (da_cons (de_tup (da_cons de_str (da_cons (de_tup (da_cons de_str (da_cons (de_tup (da_cons de_str (da_cons (dv 0) da_nil))) da_nil))) da_nil))) da_nil))) (da_cons (de_tup (da_cons (de_tup (da_cons de_str (da_cons (dv 0) (da_cons (dv 1) da_nil)))) (da_cons (de_tup (da_cons de_str (da_cons (de_tup (da_cons de_str (da_cons (dv 1) da_nil))) (da_cons (de_tup (da_cons de_str (da_cons (dv 0) da_nil))) da_nil)))) da_nil))) da_nil))))))
      (dss_cons (ds_set (i := 3) sc_law_bits.nd rfl (by first | exact Or.inl rfl | exact Or.inr rfl) (de_op lo_add (dv 3) (de_lst (da_cons (de_tup (da_cons (de_tup (da_cons de_str (da_cons (de_tup (da_cons de_str (da_cons (dv 0) (da_cons (dv 1) da_nil)))) (da_cons (de_tup (da_cons de_str (da_cons (de_tup (da_cons de_str (da_cons (dv 0) (da_cons (dv 1) da_nil)))) (da_cons (de_tup (da_cons de_str (da_cons (dv 1) (da_cons (dv 0) da_nil)))) da_nil)))) da_nil)))) (da_cons (de_tup (da_cons de_str (da_cons de_int (da_cons de_int da_nil)))) da_nil))) (da_cons (de_tup (da_cons (de_tup (da_cons de_str (da_cons (de_tup (da_cons de_str (da_cons (dv 0) (da_cons (dv 1) da_nil)))) (da_cons (de_tup (da_cons de_str (da_cons (dv 1) (da_cons (dv 0) da_nil)))) da_nil)))) (da_cons (de_tup (da_cons de_str (da_cons de_int (da_cons de_int da_nil)))) da_nil))) da_nil)))))
      (dss_one (ds_ret (de_op lo_add (dv 3) (de_lst (da_cons (de_tup (da_cons (de_tup (da_cons de_str (da_cons (dv 0) (da_cons (dv 0) da_nil)))) (da_cons (de_tup (da_cons de_str (da_cons de_int (da_cons de_int da_nil)))) da_nil))) (da_cons (de_tup (da_cons (de_tup (da_cons de_str (da_cons (dv 0) (da_cons (dv 0) da_nil)))) (da_cons (de_tup (da_cons de_str (da_cons de_int (da_cons de_int da_nil)))) da_nil))) (da_cons (de_tup (da_cons (de_tup (da_cons de_str (da_cons (de_tup (da_cons de_str (da_cons (dv 0) (da_cons (dv 1) da_nil)))) (da_cons (de_tup (da_cons de_str (da_cons (dv 0) (da_cons (dv 1) da_nil)))) da_nil)))) (da_cons (de_tup (da_cons de_str (da_cons de_int (da_cons de_int da_nil)))) da_nil))) da_nil)))))))))), rd_law_bits⟩ x0_law_bits
theorem ok_law_parted (T : Tx K mg) : FnOk P wd K mg base CX0 5 T.f_law_parted T.d_law_parted ["tape", "a", "b", "c", "wide"] (lSp K sp_law_parted) := by
  refine fn0 T.F_law_parted sc_law_parted len_law_parted ⟨w_law_parted, fun cdv A outer s H E hr => (dss_cons (ds_set (i := 5) sc_law_parted.nd rfl (by first | exact Or.inl rfl | exact Or.inr rfl) (de_call (ok_law_term T 3) (hr.mono (by decide)) (by rfl) T.g_law_term T.F_law_term.kp T.b_law_term (da_cons (dv 0) (da_cons de_int (da_cons de_int da_nil)))))
      (dss_cons (ds_set (i := 6) sc_law_parted.nd rfl (by first | exact Or.inl rfl | exact Or.inr rfl) (de_lst (da_cons (de_tup (da_cons (de_tup (da_cons de_str (da_cons (dv 5) (da_cons (dv 1) (da_cons (dv 2) da_nil))))) (da_cons (de_tup (da_cons de_str (da_cons (de_tup (da_cons de_str (da_cons (dv 5) da_nil))) (da_cons (dv 2) (da_cons (dv 1) da_nil))))) da_nil))) (da_cons (de_tup (da_cons (de_tup (da_cons de_str (da_cons (dv 5) (da_cons (dv 1) (da_cons (dv 1) da_nil))))) (da_cons (dv 1) da_nil))) (da_cons (de_tup (da_cons (de_tup (da_cons de_str (da_cons (dv 5) (da_cons (de_tup (da_cons de_str (da_cons (dv 1) (da_cons (dv 3) da_nil)))) (da_cons (de_tup (da_cons de_str (da_cons (dv 2) (da_cons (dv 3) da_nil)))) da_nil))))) (da_cons (de_tup (da_cons de_str (da_cons (de_tup (da_cons de_str (da_cons (dv 5) (da_cons (dv 1) (da_cons (dv 2) da_nil))))) (da_cons (dv 3) da_nil)))) da_nil))) da_nil)))))
      (dss_cons (ds_if (dt_cmp lo_gt (dv 4) de_int (nomark _)) (dss_cons (ds_set (i := 7) sc_law_parted.nd rfl (by first | exact Or.inl rfl | exact Or.inr rfl) (de_op lo_add de_int (de_call (ok_law_pull T) (hr.mono (by decide)) (by rfl) T.g_law_pull T.F_law_pull.kp T.b_law_pull (da_cons (dv 0) (da_cons (de_op lo_sub (dv 4) de_int) da_nil)))))
      (dss_cons (ds_par (i := 8) (j := 9) rfl sc_law_parted.nd rfl rfl (by decide) rfl rfl (da_cons (de_tup (da_cons de_str (da_cons (dv 1) (da_cons (de_op lo_sub (dv 4) de_int) (da_cons (dv 7) da_nil))))) (da_cons (de_tup (da_cons de_str (da_cons (dv 1) (da_cons (de_op lo_sub (dv 7) de_int) (da_cons de_int da_nil))))) da_nil)) rfl)
      (dss_cons (ds_set (i := 6) sc_law_parted.nd rfl (by first | exact Or.inl rfl | exact Or.inr rfl) (de_op lo_add (dv 6) (de_lst (da_cons (de_tup (da_cons (de_tup (da_cons de_str (da_cons (de_tup (da_cons (dv 8) (da_cons (dv 9) da_nil))) da_nil))) (da_cons (dv 1) da_nil))) (da_cons (de_tup (da_cons (de_tup (da_cons de_str (da_cons (de_tup (da_cons de_str (da_cons (de_tup (da_cons (dv 8) (da_cons (dv 9) da_nil))) da_nil))) (da_cons (de_op lo_sub (dv 7) de_int) (da_cons de_int da_nil))))) (da_cons (dv 9) da_nil))) (da_cons (de_tup (da_cons (de_tup (da_cons de_str (da_cons (dv 1) da_nil))) (da_cons (de_tup (da_cons de_str (da_cons (de_tup (da_cons de_str (da_cons (dv 8) da_nil))) (da_cons (de_tup (da_cons de_str (da_cons (dv 9) da_nil))) da_nil)))) da_nil))) da_nil))))))
      (dss_cons (ds_set (i := 10) sc_law_parted.nd rfl (by first | exact Or.inl rfl | exact Or.inr rfl) (de_tup (da_cons de_str (da_cons (dv 4) (da_cons (de_op lo_shl de_int (dv 7)) da_nil)))))
      (dss_cons (ds_set (i := 6) sc_law_parted.nd rfl (by first | exact Or.inl rfl | exact Or.inr rfl) (de_op lo_add (dv 6) (de_lst (da_cons (de_tup (da_cons (de_tup (da_cons de_str (da_cons (dv 1) (da_cons (dv 10) da_nil)))) (da_cons (de_tup (da_cons de_str (da_cons (de_tup (da_cons (de_tup (da_cons de_str (da_cons (dv 1) (da_cons (de_op lo_sub (de_op lo_sub (dv 4) de_int) (dv 7)) (da_cons de_int da_nil))))) (da_cons (de_tup (da_cons de_str (da_cons (dv 7) (da_cons de_int da_nil)))) da_nil))) da_nil))) da_nil))) (da_cons (de_tup (da_cons (de_tup (da_cons de_str (da_cons (dv 1) da_nil))) (da_cons (de_tup (da_cons de_str (da_cons (de_tup (da_cons de_str (da_cons (dv 8) da_nil))) (da_cons (de_tup (da_cons de_str (da_cons (dv 9) da_nil))) da_nil)))) da_nil))) da_nil)))))
      (dss_cons (ds_if (dt_cmp lo_gt (de_op lo_sub (dv 4) (dv 7)) de_int (nomark _)) (dss_cons (ds_par (i := 11) (j := 12) rfl sc_law_parted.nd rfl rfl (by decide) rfl rfl (da_cons (de_tup (da_cons de_str (da_cons (dv 1) (da_cons (de_op lo_sub (dv 4) de_int) (da_cons (de_op lo_add (dv 7) de_int) da_nil))))) (da_cons (de_tup (da_cons de_str (da_cons (dv 1) (da_cons (dv 7) (da_cons (dv 7) da_nil))))) da_nil)) rfl)
      (dss_cons (ds_set (i := 6) sc_law_parted.nd rfl (by first | exact Or.inl rfl | exact Or.inr rfl) (de_op lo_add (dv 6) (de_lst (da_cons (de_tup (da_cons (de_tup (da_cons de_str (da_cons (de_tup (da_cons (dv 11) (da_cons (dv 12) (da_cons (dv 9) da_nil)))) da_nil))) (da_cons (dv 1) da_nil))) (da_cons (de_tup (da_cons (de_tup (da_cons de_str (da_cons (de_tup (da_cons (dv 12) (da_cons (dv 9) (da_cons (dv 11) da_nil)))) da_nil))) (da_cons (de_tup (da_cons de_str (da_cons (de_tup (da_cons (de_tup (da_cons de_str (da_cons (de_tup (da_cons (dv 12) (da_cons (dv 9) da_nil))) da_nil))) (da_cons (dv 11) da_nil))) da_nil))) da_nil))) da_nil)))))
      (dss_one (ds_set (i := 6) sc_law_parted.nd rfl (by first | exact Or.inl rfl | exact Or.inr rfl) (de_op lo_add (dv 6) (de_lst (da_cons (de_tup (da_cons (de_tup (da_cons de_str (da_cons (de_tup (da_cons de_str (da_cons (de_tup (da_cons (dv 9) (da_cons (dv 11) (da_cons (dv 12) da_nil)))) da_nil))) (da_cons (de_op lo_sub (de_op lo_sub (dv 4) de_int) (dv 7)) (da_cons de_int da_nil))))) (da_cons (dv 11) da_nil))) (da_cons (de_tup (da_cons (de_tup (da_cons de_str (da_cons (de_op lo_repT (de_tup (da_cons (dv 5) da_nil)) de_int) da_nil))) (da_cons (de_tup (da_cons de_str (da_cons (de_tup (da_cons (de_tup (da_cons de_str (da_cons (de_tup (da_cons (dv 5) (da_cons (dv 5) da_nil))) da_nil))) (da_cons (de_tup (da_cons de_str (da_cons (de_tup (da_cons (dv 5) (da_cons (dv 5) da_nil))) da_nil))) da_nil))) da_nil))) da_nil))) da_nil)))))))) dss_nil)
      (dss_one (ds_set (i := 6) sc_law_parted.nd rfl (by first | exact Or.inl rfl | exact Or.inr rfl) (de_op lo_add (dv 6) (de_lst (da_cons (de_tup (da_cons (de_tup (da_cons de_str (da_cons (de_tup (da_cons de_str (da_cons (dv 1) da_nil))) (da_cons (de_op lo_sub (dv 4) de_int) (da_cons (dv 7) da_nil))))) (da_cons (de_tup (da_cons de_str (da_cons (dv 8) da_nil))) da_nil))) (da_cons (de_tup (da_cons (de_tup (da_cons de_str (da_cons (de_tup (da_cons de_str (da_cons (dv 1) (da_cons (dv 2) da_nil)))) (da_cons (de_op lo_sub (dv 7) de_int) (da_cons de_int da_nil))))) (da_cons (de_tup (da_cons de_str (da_cons (dv 9) (da_cons (de_tup (da_cons de_str (da_cons (dv 2) (da_cons (de_op lo_sub (dv 7) de_int) (da_cons de_int da_nil))))) da_nil)))) da_nil))) da_nil)))))))))))) dss_nil)
      (dss_one (ds_ret (dv 6)))))), rd_law_parted⟩ x0_law_parted
theorem ok_law (T : Tx K mg) : FnOk P wd K mg base CX0 17 T.f_law T.d_law ["script"] (lSp K sp_law) := by
  refine fn0 T.F_law sc_law len_law ⟨w_law, fun cdv A outer s H E hr => (dss_cons (ds_set (i := 1) sc_law.nd rfl (by first | exact Or.inl rfl | exact Or.inr rfl) (de_lstM (da_cons (de_callTy lc_list (by rfl) T.n_list bt_list (da_cons (dv 0) da_nil)) (da_cons de_int (da_cons de_int (da_cons de_int da_nil))))))
      (dss_cons (ds_set (i := 2) sc_law.nd rfl (by first | exact Or.inl rfl | exact Or.inr rfl) (de_op lo_add de_int (de_call (ok_law_pull T) (hr.mono (by decide)) (by rfl) T.g_law_pull T.F_law_pull.kp T.b_law_pull (da_cons (dv 1) (da_cons de_int da_nil)))))
      (dss_cons (ds_par3 (i := 3) (j := 4) (l := 5) rfl sc_law.nd rfl rfl rfl (by decide) (by decide) (by decide) rfl rfl rfl (da_cons (de_call (ok_law_term T 3) (hr.mono (by decide)) (by rfl) T.g_law_term T.F_law_term.kp T.b_law_term (da_cons (dv 1) (da_cons de_int (da_cons (dv 2) da_nil)))) (da_cons (de_call (ok_law_term T 3) (hr.mono (by decide)) (by rfl) T.g_law_term T.F_law_term.kp T.b_law_term (da_cons (dv 1) (da_cons de_int (da_cons (dv 2) da_nil)))) (da_cons (de_call (ok_law_term T 3) (hr.mono (by decide)) (by rfl) T.g_law_term T.F_law_term.kp T.b_law_term (da_cons (dv 1) (da_cons de_int (da_cons (dv 2) da_nil)))) da_nil))) rfl)
      (dss_cons (ds_setLc (i := 6) rfl sc_law.nd rfl rfl (sw_true rfl rfl rfl (by decide +kernel)) (di_seq (de_op lo_add (de_call (ok_law_pairs T) (hr.mono (by decide)) (by rfl) T.g_law_pairs T.F_law_pairs.kp T.b_law_pairs (da_cons (dv 3) (da_cons (dv 4) (da_cons (dv 5) (da_cons (dv 2) da_nil))))) (de_sl (de_call (ok_law_parted T) (hr.mono (by decide)) (by rfl) T.g_law_parted T.F_law_parted.kp T.b_law_parted (da_cons (dv 1) (da_cons (dv 3) (da_cons (dv 4) (da_cons (dv 5) (da_cons (dv 2) da_nil)))))) do_none (do_some de_int)))) (blkOk_by (own := [("one", 12)]) (N := N_law) (sc := defScope s_law) (by decide +kernel)) (fun _ _ _ _ _ => (dg_name (i := 12) sc_law.nd rfl (by first | exact Or.inl rfl | exact Or.inr rfl))) (fun _ _ _ _ _ => dts_nil) (fun _ _ _ _ _ => (de_tup (da_cons (dv 2) (da_cons (dv 12) da_nil)))))
      (dss_cons (ds_set (i := 6) sc_law.nd rfl (by first | exact Or.inl rfl | exact Or.inr rfl) (de_op lo_add (de_op lo_add (dv 6) (de_lc rfl sc_law.nd (di_seq (de_call (ok_law_bits T) (hr.mono (by decide)) (by rfl) T.g_law_bits T.F_law_bits.kp T.b_law_bits (da_cons (dv 3) (da_cons (dv 4) (da_cons (dv 2) da_nil))))) (blkOk_by (own := [("one", 12)]) (N := N_law) (sc := defScope s_law) (by decide +kernel)) (fun _ _ _ _ _ => (dg_name (i := 12) sc_law.nd rfl (by first | exact Or.inl rfl | exact Or.inr rfl))) (fun _ _ _ _ _ => dts_nil) (fun _ _ _ _ _ => (de_tup (da_cons de_int (da_cons (dv 12) da_nil)))))) (de_lc rfl sc_law.nd (di_seq (de_sl (de_call (ok_law_parted T) (hr.mono (by decide)) (by rfl) T.g_law_parted T.F_law_parted.kp T.b_law_parted (da_cons (dv 1) (da_cons (dv 3) (da_cons (dv 4) (da_cons (dv 5) (da_cons (dv 2) da_nil)))))) (do_some de_int) do_none)) (blkOk_by (own := [("one", 12)]) (N := N_law) (sc := defScope s_law) (by decide +kernel)) (fun _ _ _ _ _ => (dg_name (i := 12) sc_law.nd rfl (by first | exact Or.inl rfl | exact Or.inr rfl))) (fun _ _ _ _ _ => dts_nil) (fun _ _ _ _ _ => (de_tup (da_cons de_non (da_cons (dv 12) da_nil)))))))
      (dss_cons (ds_for (vs := List.range 15) PassesOwn.never rfl (di_range1 (by rfl) T.n_range de_int) (dg_name (i := 7) sc_law.nd rfl (by first | exact Or.inl rfl | exact Or.inr rfl)) (dss_cons (ds_set (i := 8) sc_law.nd rfl (by first | exact Or.inl rfl | exact Or.inr rfl) (de_call (ok_law_world T) (hr.mono (by decide)) (by rfl) T.g_law_world T.F_law_world.kp T.b_law_world (da_cons (dv 1) da_nil)))
      (dss_cons (ds_for (vs := List.range 15) PassesOwn.never rfl (di_seq (dv 6)) (dg_tup rfl (dgs_cons (dg_name (i := 9) sc_law.nd rfl (by first | exact Or.inl rfl | exact Or.inr rfl)) (dgs_cons (dg_tup rfl (dgs_cons (dg_name (i := 10) sc_law.nd rfl (by first | exact Or.inl rfl | exact Or.inr rfl)) (dgs_cons (dg_name (i := 11) sc_law.nd rfl (by first | exact Or.inl rfl | exact Or.inr rfl)) dgs_nil))) dgs_nil))) (dss_cons (ds_par (i := 12) (j := 13) rfl sc_law.nd rfl rfl (by decide) rfl rfl (da_cons (de_call (ok_term_value T 12) (hr.mono (by decide)) (by rfl) T.g_term_value T.F_term_value.kp T.b_term_value (da_cons (dv 10) (da_cons (dv 8) da_nil))) (da_cons (de_call (ok_term_value T 12) (hr.mono (by decide)) (by rfl) T.g_term_value T.F_term_value.kp T.b_term_value (da_cons (dv 11) (da_cons (dv 8) da_nil))) da_nil)) rfl)
      (dss_cons (ds_if (PW.pt (dw_or (dt_cmp (lo_ne hr.units) (dv 12) (dv 13) (nomark _)) (dw_or (dt_cmp (lo_ne hr.units) (de_call (ok_width_of T) (hr.mono (by decide)) (by rfl) T.g_width_of T.F_width_of.kp T.b_width_of (da_cons (dv 10) (da_cons (dv 8) da_nil))) (de_ix (dv 12) de_int (fun _ _ => rfl)) (nomark _)) (dw_or (dt_cmp (lo_ne hr.units) (de_call (ok_width_of T) (hr.mono (by decide)) (by rfl) T.g_width_of T.F_width_of.kp T.b_width_of (da_cons (dv 11) (da_cons (dv 8) da_nil))) (de_ix (dv 12) de_int (fun _ _ => rfl)) (nomark _)) (dw_or1 (PW.pt (dw_and (dt_cmp lo_isnot (dv 9) de_non (nomark _)) (dw_and1 (dt_cmp (lo_ne hr.units) (de_ix (dv 12) de_int (fun _ _ => rfl)) (dv 9) (nomark _)))))))))) (dss_one (ds_ret de_bl)) dss_nil)
      (dss_one (ds_if (PW.pt (dw_or (dt_cmp lo_isnot (de_call (ok_is_term T) (hr.mono (by decide)) (by rfl) T.g_is_term T.F_is_term.kp T.b_is_term (da_cons (dv 10) da_nil)) de_bl (nomark _)) (dw_or (dt_cmp lo_isnot (de_call (ok_is_term T) (hr.mono (by decide)) (by rfl) T.g_is_term T.F_is_term.kp T.b_is_term (da_cons (dv 11) da_nil)) de_bl (nomark _)) (dw_or1 (dt_not (dt_chain lo_le lo_lt de_int (de_ix (dv 12) de_int (fun _ _ => rfl)) (de_op lo_shl de_int (de_ix (dv 12) de_int (fun _ _ => rfl))))))))) (dss_one (ds_ret de_bl)) dss_nil)))))
      (dss_cons (ds_setLc (i := 14) rfl sc_law.nd rfl rfl (sw_true rfl rfl rfl (by decide +kernel)) (di_seq (de_tup (da_cons (dv 3) (da_cons (dv 4) (da_cons (de_tup (da_cons de_str (da_cons (dv 3) (da_cons (dv 4) da_nil)))) (da_cons (de_tup (da_cons de_str (da_cons (dv 3) (da_cons (dv 4) da_nil)))) (da_cons (de_tup (da_cons de_str (da_cons (dv 3) (da_cons (dv 4) da_nil)))) da_nil))))))) (blkOk_by (own := [("one", 12)]) (N := N_law) (sc := defScope s_law) (by decide +kernel)) (fun _ _ _ _ _ => (dg_name (i := 12) sc_law.nd rfl (by first | exact Or.inl rfl | exact Or.inr rfl))) (fun _ _ _ _ _ => dts_nil) (fun _ _ _ _ _ => (de_ix (de_call (ok_term_value T 12) (hr.mono (by decide)) (by rfl) T.g_term_value T.F_term_value.kp T.b_term_value (da_cons (dv 12) (da_cons (dv 8) da_nil))) de_int (fun _ _ => rfl))))
      (dss_cons (ds_if (dt_cmp (lo_ne hr.units) (de_lst (da_cons (de_ix (dv 14) de_int (fun _ _ => rfl)) (da_cons (de_ix (dv 14) de_int (fun _ _ => rfl)) (da_cons (de_ix (dv 14) de_int (fun _ _ => rfl)) da_nil)))) (de_lst (da_cons (de_op lo_mod (de_op lo_add (de_ix (dv 14) de_int (fun _ _ => rfl)) (de_ix (dv 14) de_int (fun _ _ => rfl))) (de_op lo_shl de_int (dv 2))) (da_cons (de_op lo_mod (de_op lo_mul (de_ix (dv 14) de_int (fun _ _ => rfl)) (de_ix (dv 14) de_int (fun _ _ => rfl))) (de_op lo_shl de_int (dv 2))) (da_cons (de_op lo_mod (de_op lo_sub (de_ix (dv 14) de_int (fun _ _ => rfl)) (de_ix (dv 14) de_int (fun _ _ => rfl))) (de_op lo_shl de_int (dv 2))) da_nil)))) (nomark _)) (dss_one (ds_ret de_bl)) dss_nil)
      (dss_one (ds_if (PW.pt (dw_or (dt_cmp (lo_ne hr.units) (de_call (ok_term_value T 12) (hr.mono (by decide)) (by rfl) T.g_term_value T.F_term_value.kp T.b_term_value (da_cons (de_tup (da_cons de_str (da_cons (dv 3) (da_cons (dv 4) da_nil)))) (da_cons (dv 8) da_nil))) (de_tup (da_cons de_int (da_cons (de_callTy lc_int (by rfl) T.n_int bt_int (da_cons (de_cmp lo_lt (de_ix (dv 14) de_int (fun _ _ => rfl)) (de_ix (dv 14) de_int (fun _ _ => rfl)) (nomark _)) da_nil)) da_nil))) (nomark _)) (dw_or1 (dt_cmp (lo_ne hr.units) (de_ix (de_call (ok_term_value T 12) (hr.mono (by decide)) (by rfl) T.g_term_value T.F_term_value.kp T.b_term_value (da_cons (de_tup (da_cons de_str (da_cons (de_tup (da_cons (de_tup (da_cons de_str (da_cons (dv 3) (da_cons (dv 4) da_nil)))) (da_cons (de_tup (da_cons de_str (da_cons (dv 3) (da_cons (dv 4) da_nil)))) da_nil))) da_nil))) (da_cons (dv 8) da_nil))) de_int (fun _ _ => rfl)) (de_op lo_add (de_op lo_mul de_int (de_callTy lc_int (by rfl) T.n_int bt_int (da_cons (de_cmp lo_lt (de_ix (dv 14) de_int (fun _ _ => rfl)) (de_ix (dv 14) de_int (fun _ _ => rfl)) (nomark _)) da_nil))) (de_callTy lc_int (by rfl) T.n_int bt_int (da_cons (de_cmp (lo_eq hr.units) (de_ix (dv 14) de_int (fun _ _ => rfl)) (de_ix (dv 14) de_int (fun _ _ => rfl)) (nomark _)) da_nil))) (nomark _))))) (dss_one (ds_ret de_bl)) dss_nil)))))))
      (dss_one (ds_ret de_bl)))))))), rd_law⟩ x0_law
end
theorem all_mk {l : PySem.W.OpenLaw} {wd : World} {K : PySem.W.Frag} {h : Heap} {mg : Str → Option Value} {fa : Addr} (X : K.In h) (G : h.Ns mainGlobals mg) (hfa : mg "law" = some (.ref fa))
    {f0 : Addr} {od0 an0 : Option Addr} {sl0 : Array (Option Value)} {oc0 kV0 dc0 pm0 cd0 ct0 : Value}
    {f1 : Addr} {od1 an1 : Option Addr} {sl1 : Array (Option Value)} {oc1 kV1 dc1 pm1 cd1 ct1 : Value}
    {f2 : Addr} {od2 an2 : Option Addr} {sl2 : Array (Option Value)} {oc2 kV2 dc2 pm2 cd2 ct2 : Value}
    {f3 : Addr} {od3 an3 : Option Addr} {sl3 : Array (Option Value)} {oc3 kV3 dc3 pm3 cd3 ct3 : Value}
    {f4 : Addr} {od4 an4 : Option Addr} {sl4 : Array (Option Value)} {oc4 kV4 dc4 pm4 cd4 ct4 : Value}
    {f5 : Addr} {od5 an5 : Option Addr} {sl5 : Array (Option Value)} {oc5 kV5 dc5 pm5 cd5 ct5 : Value}
    {f6 : Addr} {od6 an6 : Option Addr} {sl6 : Array (Option Value)} {oc6 kV6 dc6 pm6 cd6 ct6 : Value}
    {f7 : Addr} {od7 an7 : Option Addr} {sl7 : Array (Option Value)} {oc7 kV7 dc7 pm7 cd7 ct7 : Value}
    {f8 : Addr} {od8 an8 : Option Addr} {sl8 : Array (Option Value)} {oc8 kV8 dc8 pm8 cd8 ct8 : Value}
    {f9 : Addr} {od9 an9 : Option Addr} {sl9 : Array (Option Value)} {oc9 kV9 dc9 pm9 cd9 ct9 : Value}
    {f10 : Addr} {od10 an10 : Option Addr} {sl10 : Array (Option Value)} {oc10 kV10 dc10 pm10 cd10 ct10 : Value}
    {f11 : Addr} {od11 an11 : Option Addr} {sl11 : Array (Option Value)} {oc11 kV11 dc11 pm11 cd11 ct11 : Value}
    {f12 : Addr} {od12 an12 : Option Addr} {sl12 : Array (Option Value)} {oc12 kV12 dc12 pm12 cd12 ct12 : Value}
    {f13 : Addr} {od13 an13 : Option Addr} {sl13 : Array (Option Value)} {oc13 kV13 dc13 pm13 cd13 ct13 : Value}
    {f14 : Addr} {od14 an14 : Option Addr} {sl14 : Array (Option Value)} {oc14 kV14 dc14 pm14 cd14 ct14 : Value}
    {f15 : Addr} {od15 an15 : Option Addr} {sl15 : Array (Option Value)} {oc15 kV15 dc15 pm15 cd15 ct15 : Value}
    {f16 : Addr} {od16 an16 : Option Addr} {sl16 : Array (Option Value)} {oc16 kV16 dc16 pm16 cd16 ct16 : Value}
    {f17 : Addr} {od17 an17 : Option Addr} {sl17 : Array (Option Value)} {oc17 kV17 dc17 pm17 cd17 ct17 : Value}
    {f18 : Addr} {od18 an18 : Option Addr} {sl18 : Array (Option Value)} {oc18 kV18 dc18 pm18 cd18 ct18 : Value}
    {f19 : Addr} {od19 an19 : Option Addr} {sl19 : Array (Option Value)} {oc19 kV19 dc19 pm19 cd19 ct19 : Value}
    {f20 : Addr} {od20 an20 : Option Addr} {sl20 : Array (Option Value)} {oc20 kV20 dc20 pm20 cd20 ct20 : Value}
    {f21 : Addr} {od21 an21 : Option Addr} {sl21 : Array (Option Value)} {oc21 kV21 dc21 pm21 cd21 ct21 : Value}
    {f22 : Addr} {od22 an22 : Option Addr} {sl22 : Array (Option Value)} {oc22 kV22 dc22 pm22 cd22 ct22 : Value}
    {f23 : Addr} {od23 an23 : Option Addr} {sl23 : Array (Option Value)} {oc23 kV23 dc23 pm23 cd23 ct23 : Value}
    {f24 : Addr} {od24 an24 : Option Addr} {sl24 : Array (Option Value)} {oc24 kV24 dc24 pm24 cd24 ct24 : Value}
    {c_World : Addr}
    {t_KEPT : Addr} {dd_KEPT : Option Addr} {n_KEPT : Nat} {sl_KEPT : Array (Option Value)} {k_KEPT0 k_KEPT1 k_KEPT2 k_KEPT3 k_KEPT4 k_KEPT5 k_KEPT6 k_KEPT7 k_KEPT8 k_KEPT9 k_KEPT10 k_KEPT11 k_KEPT12 k_KEPT13 k_KEPT14 k_KEPT15 k_KEPT16 k_KEPT17 : Tok}
    {t_MOST_DEEP : Tok}
    {t_MOST_PARTS : Tok}
    {t_ONES : Addr} {dd_ONES : Option Addr} {n_ONES : Nat} {sl_ONES : Array (Option Value)} {k_ONES0 k_ONES1 k_ONES2 k_ONES3 : Tok}
    {t_PAIRS : Addr} {dd_PAIRS : Option Addr} {n_PAIRS : Nat} {sl_PAIRS : Array (Option Value)} {k_PAIRS0 k_PAIRS1 k_PAIRS2 k_PAIRS3 k_PAIRS4 k_PAIRS5 k_PAIRS6 k_PAIRS7 : Tok}
    {t_WIDEST : Tok}
    (u_KEPT : PySem.W.nsIn K mainGlobals "KEPT" = some (some (.ref t_KEPT)))
    (s_KEPT : K.lookup t_KEPT = some ⟨.type "tuple", dd_KEPT, .seq [Value.str "all" k_KEPT0, Value.str "any" k_KEPT1, Value.str "odd" k_KEPT2, Value.str "read" k_KEPT3, Value.str "keep" k_KEPT4, Value.str "next" k_KEPT5, Value.str "store" k_KEPT6, Value.str "write" k_KEPT7, Value.str "put" k_KEPT8, Value.str "flow" k_KEPT9, Value.str "type" k_KEPT10, Value.str "in" k_KEPT11, Value.str "out" k_KEPT12, Value.str "chan" k_KEPT13, Value.str "work" k_KEPT14, Value.str "fair" k_KEPT15, Value.str "choose" k_KEPT16, Value.str "split" k_KEPT17].toArray n_KEPT, sl_KEPT⟩)
    (u_MOST_DEEP : PySem.W.nsIn K mainGlobals "MOST_DEEP" = some (some (.int 12 t_MOST_DEEP)))
    (u_MOST_PARTS : PySem.W.nsIn K mainGlobals "MOST_PARTS" = some (some (.int 60 t_MOST_PARTS)))
    (u_ONES : PySem.W.nsIn K mainGlobals "ONES" = some (some (.ref t_ONES)))
    (s_ONES : K.lookup t_ONES = some ⟨.type "tuple", dd_ONES, .seq [Value.str "not" k_ONES0, Value.str "all" k_ONES1, Value.str "any" k_ONES2, Value.str "odd" k_ONES3].toArray n_ONES, sl_ONES⟩)
    (u_PAIRS : PySem.W.nsIn K mainGlobals "PAIRS" = some (some (.ref t_PAIRS)))
    (s_PAIRS : K.lookup t_PAIRS = some ⟨.type "tuple", dd_PAIRS, .seq [Value.str "and" k_PAIRS0, Value.str "or" k_PAIRS1, Value.str "xor" k_PAIRS2, Value.str "add" k_PAIRS3, Value.str "sub" k_PAIRS4, Value.str "mul" k_PAIRS5, Value.str "eq" k_PAIRS6, Value.str "less" k_PAIRS7].toArray n_PAIRS, sl_PAIRS⟩)
    (u_WIDEST : PySem.W.nsIn K mainGlobals "WIDEST" = some (some (.int 8 t_WIDEST)))
    (n_World : PySem.W.nsIn K mainGlobals "World" = some (some (.ref c_World)))
    (p1_World : PySem.W.plainGet K c_World Str.empty = true)
    (p2_World : PySem.W.hasDictIn K c_World = true)
    (p3_World : PySem.W.plainOver K c_World = true)
    (p4_World : PySem.W.findIn K (.ref c_World) "__setattr__" = some (some (.builtin "object.__setattr__")))
    (x_World_tokens : PySem.W.findIn K (.ref c_World) "tokens" = some none)
    (x_World_keeps : PySem.W.findIn K (.ref c_World) "keeps" = some none)
    (x_World_stores : PySem.W.findIn K (.ref c_World) "stores" = some none)
    (a9 : PySem.W.findIn K (.ref c_World) "__init__" = some (some (.ref f9)))
    (i9 : PySem.W.isFn K (.ref f9) = true)
    (m9 : PySem.W.makesIn K c_World = true)
    (e9 : PySem.W.keepIn K (.ref c_World) = true)
    (a0 : PySem.W.nsIn K mainGlobals "is_count" = some (some (.ref f0))) (l0 : K.lookup f0 = some ⟨oc0, od0, .func (PySem.W.fnOf "is_count" "is_count" (defArgs s_is_count) (defBody s_is_count) (defScope s_is_count) .none kV0 dc0 pm0 an0 cd0 ct0), sl0⟩) (c0 : PySem.W.codeIn K cd0 "is_count" = true) (k0 : PySem.W.keepIn K (.ref f0) = true)
    (a1 : PySem.W.nsIn K mainGlobals "is_width" = some (some (.ref f1))) (l1 : K.lookup f1 = some ⟨oc1, od1, .func (PySem.W.fnOf "is_width" "is_width" (defArgs s_is_width) (defBody s_is_width) (defScope s_is_width) .none kV1 dc1 pm1 an1 cd1 ct1), sl1⟩) (c1 : PySem.W.codeIn K cd1 "is_width" = true) (k1 : PySem.W.keepIn K (.ref f1) = true)
    (a2 : PySem.W.nsIn K mainGlobals "is_word" = some (some (.ref f2))) (l2 : K.lookup f2 = some ⟨oc2, od2, .func (PySem.W.fnOf "is_word" "is_word" (defArgs s_is_word) (defBody s_is_word) (defScope s_is_word) .none kV2 dc2 pm2 an2 cd2 ct2), sl2⟩) (c2 : PySem.W.codeIn K cd2 "is_word" = true) (k2 : PySem.W.keepIn K (.ref f2) = true)
    (a3 : PySem.W.nsIn K mainGlobals "cut_word" = some (some (.ref f3))) (l3 : K.lookup f3 = some ⟨oc3, od3, .func (PySem.W.fnOf "cut_word" "cut_word" (defArgs s_cut_word) (defBody s_cut_word) (defScope s_cut_word) .none kV3 dc3 pm3 an3 cd3 ct3), sl3⟩) (c3 : PySem.W.codeIn K cd3 "cut_word" = true) (k3 : PySem.W.keepIn K (.ref f3) = true)
    (a4 : PySem.W.nsIn K mainGlobals "one_count" = some (some (.ref f4))) (l4 : K.lookup f4 = some ⟨oc4, od4, .func (PySem.W.fnOf "one_count" "one_count" (defArgs s_one_count) (defBody s_one_count) (defScope s_one_count) .none kV4 dc4 pm4 an4 cd4 ct4), sl4⟩) (c4 : PySem.W.codeIn K cd4 "one_count" = true) (k4 : PySem.W.keepIn K (.ref f4) = true)
    (a5 : PySem.W.nsIn K mainGlobals "is_name" = some (some (.ref f5))) (l5 : K.lookup f5 = some ⟨oc5, od5, .func (PySem.W.fnOf "is_name" "is_name" (defArgs s_is_name) (defBody s_is_name) (defScope s_is_name) .none kV5 dc5 pm5 an5 cd5 ct5), sl5⟩) (c5 : PySem.W.codeIn K cd5 "is_name" = true) (k5 : PySem.W.keepIn K (.ref f5) = true)
    (a6 : PySem.W.nsIn K mainGlobals "is_term" = some (some (.ref f6))) (l6 : K.lookup f6 = some ⟨oc6, od6, .func (PySem.W.fnOf "is_term" "is_term" (defArgs s_is_term) (defBody s_is_term) (defScope s_is_term) .none kV6 dc6 pm6 an6 cd6 ct6), sl6⟩) (c6 : PySem.W.codeIn K cd6 "is_term" = true) (k6 : PySem.W.keepIn K (.ref f6) = true)
    (a7 : PySem.W.nsIn K mainGlobals "is_term_head" = some (some (.ref f7))) (l7 : K.lookup f7 = some ⟨oc7, od7, .func (PySem.W.fnOf "is_term_head" "is_term_head" (defArgs s_is_term_head) (defBody s_is_term_head) (defScope s_is_term_head) .none kV7 dc7 pm7 an7 cd7 ct7), sl7⟩) (c7 : PySem.W.codeIn K cd7 "is_term_head" = true) (k7 : PySem.W.keepIn K (.ref f7) = true)
    (a8 : PySem.W.nsIn K mainGlobals "parts_of" = some (some (.ref f8))) (l8 : K.lookup f8 = some ⟨oc8, od8, .func (PySem.W.fnOf "parts_of" "parts_of" (defArgs s_parts_of) (defBody s_parts_of) (defScope s_parts_of) .none kV8 dc8 pm8 an8 cd8 ct8), sl8⟩) (c8 : PySem.W.codeIn K cd8 "parts_of" = true) (k8 : PySem.W.keepIn K (.ref f8) = true)
    (l9 : K.lookup f9 = some ⟨oc9, od9, .func (PySem.W.fnOf "__init__" "World.__init__" (defArgs s_World_init) (defBody s_World_init) (defScope s_World_init) .none kV9 dc9 pm9 an9 cd9 ct9), sl9⟩) (c9 : PySem.W.codeIn K cd9 "World.__init__" = true) (k9 : PySem.W.keepIn K (.ref f9) = true)
    (a10 : PySem.W.nsIn K mainGlobals "width_of" = some (some (.ref f10))) (l10 : K.lookup f10 = some ⟨oc10, od10, .func (PySem.W.fnOf "width_of" "width_of" (defArgs s_width_of) (defBody s_width_of) (defScope s_width_of) .none kV10 dc10 pm10 an10 cd10 ct10), sl10⟩) (c10 : PySem.W.codeIn K cd10 "width_of" = true) (k10 : PySem.W.keepIn K (.ref f10) = true)
    (a11 : PySem.W.nsIn K mainGlobals "width_at" = some (some (.ref f11))) (l11 : K.lookup f11 = some ⟨oc11, od11, .func (PySem.W.fnOf "width_at" "width_at" (defArgs s_width_at) (defBody s_width_at) (defScope s_width_at) .none kV11 dc11 pm11 an11 cd11 ct11), sl11⟩) (c11 : PySem.W.codeIn K cd11 "width_at" = true) (k11 : PySem.W.keepIn K (.ref f11) = true)
    (a12 : PySem.W.nsIn K mainGlobals "width_made" = some (some (.ref f12))) (l12 : K.lookup f12 = some ⟨oc12, od12, .func (PySem.W.fnOf "width_made" "width_made" (defArgs s_width_made) (defBody s_width_made) (defScope s_width_made) .none kV12 dc12 pm12 an12 cd12 ct12), sl12⟩) (c12 : PySem.W.codeIn K cd12 "width_made" = true) (k12 : PySem.W.keepIn K (.ref f12) = true)
    (a13 : PySem.W.nsIn K mainGlobals "leaf_width" = some (some (.ref f13))) (l13 : K.lookup f13 = some ⟨oc13, od13, .func (PySem.W.fnOf "leaf_width" "leaf_width" (defArgs s_leaf_width) (defBody s_leaf_width) (defScope s_leaf_width) .none kV13 dc13 pm13 an13 cd13 ct13), sl13⟩) (c13 : PySem.W.codeIn K cd13 "leaf_width" = true) (k13 : PySem.W.keepIn K (.ref f13) = true)
    (a14 : PySem.W.nsIn K mainGlobals "term_value" = some (some (.ref f14))) (l14 : K.lookup f14 = some ⟨oc14, od14, .func (PySem.W.fnOf "term_value" "term_value" (defArgs s_term_value) (defBody s_term_value) (defScope s_term_value) .none kV14 dc14 pm14 an14 cd14 ct14), sl14⟩) (c14 : PySem.W.codeIn K cd14 "term_value" = true) (k14 : PySem.W.keepIn K (.ref f14) = true)
    (a15 : PySem.W.nsIn K mainGlobals "value_of_one" = some (some (.ref f15))) (l15 : K.lookup f15 = some ⟨oc15, od15, .func (PySem.W.fnOf "value_of_one" "value_of_one" (defArgs s_value_of_one) (defBody s_value_of_one) (defScope s_value_of_one) .none kV15 dc15 pm15 an15 cd15 ct15), sl15⟩) (c15 : PySem.W.codeIn K cd15 "value_of_one" = true) (k15 : PySem.W.keepIn K (.ref f15) = true)
    (a16 : PySem.W.nsIn K mainGlobals "value_of_pair" = some (some (.ref f16))) (l16 : K.lookup f16 = some ⟨oc16, od16, .func (PySem.W.fnOf "value_of_pair" "value_of_pair" (defArgs s_value_of_pair) (defBody s_value_of_pair) (defScope s_value_of_pair) .none kV16 dc16 pm16 an16 cd16 ct16), sl16⟩) (c16 : PySem.W.codeIn K cd16 "value_of_pair" = true) (k16 : PySem.W.keepIn K (.ref f16) = true)
    (a17 : PySem.W.nsIn K mainGlobals "_law_pull" = some (some (.ref f17))) (l17 : K.lookup f17 = some ⟨oc17, od17, .func (PySem.W.fnOf "_law_pull" "_law_pull" (defArgs s_law_pull) (defBody s_law_pull) (defScope s_law_pull) .none kV17 dc17 pm17 an17 cd17 ct17), sl17⟩) (c17 : PySem.W.codeIn K cd17 "_law_pull" = true) (k17 : PySem.W.keepIn K (.ref f17) = true)
    (a18 : PySem.W.nsIn K mainGlobals "_law_term" = some (some (.ref f18))) (l18 : K.lookup f18 = some ⟨oc18, od18, .func (PySem.W.fnOf "_law_term" "_law_term" (defArgs s_law_term) (defBody s_law_term) (defScope s_law_term) .none kV18 dc18 pm18 an18 cd18 ct18), sl18⟩) (c18 : PySem.W.codeIn K cd18 "_law_term" = true) (k18 : PySem.W.keepIn K (.ref f18) = true)
    (a19 : PySem.W.nsIn K mainGlobals "_law_world" = some (some (.ref f19))) (l19 : K.lookup f19 = some ⟨oc19, od19, .func (PySem.W.fnOf "_law_world" "_law_world" (defArgs s_law_world) (defBody s_law_world) (defScope s_law_world) .none kV19 dc19 pm19 an19 cd19 ct19), sl19⟩) (c19 : PySem.W.codeIn K cd19 "_law_world" = true) (k19 : PySem.W.keepIn K (.ref f19) = true)
    (a20 : PySem.W.nsIn K mainGlobals "_law_ones" = some (some (.ref f20))) (l20 : K.lookup f20 = some ⟨oc20, od20, .func (PySem.W.fnOf "_law_ones" "_law_ones" (defArgs s_law_ones) (defBody s_law_ones) (defScope s_law_ones) .none kV20 dc20 pm20 an20 cd20 ct20), sl20⟩) (c20 : PySem.W.codeIn K cd20 "_law_ones" = true) (k20 : PySem.W.keepIn K (.ref f20) = true)
    (a21 : PySem.W.nsIn K mainGlobals "_law_pairs" = some (some (.ref f21))) (l21 : K.lookup f21 = some ⟨oc21, od21, .func (PySem.W.fnOf "_law_pairs" "_law_pairs" (defArgs s_law_pairs) (defBody s_law_pairs) (defScope s_law_pairs) .none kV21 dc21 pm21 an21 cd21 ct21), sl21⟩) (c21 : PySem.W.codeIn K cd21 "_law_pairs" = true) (k21 : PySem.W.keepIn K (.ref f21) = true)
    (a22 : PySem.W.nsIn K mainGlobals "_law_bits" = some (some (.ref f22))) (l22 : K.lookup f22 = some ⟨oc22, od22, .func (PySem.W.fnOf "_law_bits" "_law_bits" (defArgs s_law_bits) (defBody s_law_bits) (defScope s_law_bits) .none kV22 dc22 pm22 an22 cd22 ct22), sl22⟩) (c22 : PySem.W.codeIn K cd22 "_law_bits" = true) (k22 : PySem.W.keepIn K (.ref f22) = true)
    (a23 : PySem.W.nsIn K mainGlobals "_law_parted" = some (some (.ref f23))) (l23 : K.lookup f23 = some ⟨oc23, od23, .func (PySem.W.fnOf "_law_parted" "_law_parted" (defArgs s_law_parted) (defBody s_law_parted) (defScope s_law_parted) .none kV23 dc23 pm23 an23 cd23 ct23), sl23⟩) (c23 : PySem.W.codeIn K cd23 "_law_parted" = true) (k23 : PySem.W.keepIn K (.ref f23) = true)
    (a24 : PySem.W.nsIn K mainGlobals "law" = some (some (.ref f24))) (l24 : K.lookup f24 = some ⟨oc24, od24, .func (PySem.W.fnOf "law" "law" (defArgs s_law) (defBody s_law) (defScope s_law) .none kV24 dc24 pm24 an24 cd24 ct24), sl24⟩) (c24 : PySem.W.codeIn K cd24 "law" = true) (k24 : PySem.W.keepIn K (.ref f24) = true)
    (z0 : PySem.W.nsIn K mainGlobals "abs" = some none)
    (z1 : PySem.W.nsIn K mainGlobals "all" = some none)
    (z2 : PySem.W.nsIn K mainGlobals "bool" = some none)
    (z3 : PySem.W.nsIn K mainGlobals "int" = some none)
    (z4 : PySem.W.nsIn K mainGlobals "isinstance" = some none)
    (z5 : PySem.W.nsIn K mainGlobals "len" = some none)
    (z6 : PySem.W.nsIn K mainGlobals "list" = some none)
    (z7 : PySem.W.nsIn K mainGlobals "range" = some none)
    (z8 : PySem.W.nsIn K mainGlobals "str" = some none)
    (z9 : PySem.W.nsIn K mainGlobals "sum" = some none)
    (z10 : PySem.W.nsIn K mainGlobals "tuple" = some none)
    : ∃ fd : FuncData, (∀ (s : Shared) (v : Value), BindsTo s fd ⟨[v], []⟩ [("script", v)]) ∧ ∀ base : Heap, K.In base → base.Ns mainGlobals mg → FnOk l.prog wd K mg base CX0 17 fa fd ["script"] (lSp K sp_law) := by
  have e := hfa.symm.trans (PySem.W.mg_of X G a24)
  cases e
  have F0 := fun_mk (st := s_is_count) l0 c0 k0
  have B0 := F0.binds (ps := ["value"]) fun _ _ _ _ _ _ us hl => match us, hl with | [_], _ => rfl
  have F1 := fun_mk (st := s_is_width) l1 c1 k1
  have B1 := F1.binds (ps := ["value"]) fun _ _ _ _ _ _ us hl => match us, hl with | [_], _ => rfl
  have F2 := fun_mk (st := s_is_word) l2 c2 k2
  have B2 := F2.binds (ps := ["value", "width"]) fun _ _ _ _ _ _ us hl => match us, hl with | [_, _], _ => rfl
  have F3 := fun_mk (st := s_cut_word) l3 c3 k3
  have B3 := F3.binds (ps := ["value", "width"]) fun _ _ _ _ _ _ us hl => match us, hl with | [_, _], _ => rfl
  have F4 := fun_mk (st := s_one_count) l4 c4 k4
  have B4 := F4.binds (ps := ["word"]) fun _ _ _ _ _ _ us hl => match us, hl with | [_], _ => rfl
  have F5 := fun_mk (st := s_is_name) l5 c5 k5
  have B5 := F5.binds (ps := ["value"]) fun _ _ _ _ _ _ us hl => match us, hl with | [_], _ => rfl
  have F6 := fun_mk (st := s_is_term) l6 c6 k6
  have B6 := F6.binds (ps := ["value"]) fun _ _ _ _ _ _ us hl => match us, hl with | [_], _ => rfl
  have F7 := fun_mk (st := s_is_term_head) l7 c7 k7
  have B7 := F7.binds (ps := ["value"]) fun _ _ _ _ _ _ us hl => match us, hl with | [_], _ => rfl
  have F8 := fun_mk (st := s_parts_of) l8 c8 k8
  have B8 := F8.binds (ps := ["term"]) fun _ _ _ _ _ _ us hl => match us, hl with | [_], _ => rfl
  have F9 := fun_mk (st := s_World_init) l9 c9 k9
  have B9 := F9.binds (ps := ["self", "tokens", "keeps", "stores"]) fun _ _ _ _ _ _ us hl => match us, hl with | [_, _, _, _], _ => rfl
  have F10 := fun_mk (st := s_width_of) l10 c10 k10
  have B10 := F10.binds (ps := ["term", "world"]) fun _ _ _ _ _ _ us hl => match us, hl with | [_, _], _ => rfl
  have F11 := fun_mk (st := s_width_at) l11 c11 k11
  have B11 := F11.binds (ps := ["term", "world", "path"]) fun _ _ _ _ _ _ us hl => match us, hl with | [_, _, _], _ => rfl
  have F12 := fun_mk (st := s_width_made) l12 c12 k12
  have B12 := F12.binds (ps := ["term", "told", "world"]) fun _ _ _ _ _ _ us hl => match us, hl with | [_, _, _], _ => rfl
  have F13 := fun_mk (st := s_leaf_width) l13 c13 k13
  have B13 := F13.binds (ps := ["term", "world"]) fun _ _ _ _ _ _ us hl => match us, hl with | [_, _], _ => rfl
  have F14 := fun_mk (st := s_term_value) l14 c14 k14
  have B14 := F14.binds (ps := ["term", "world"]) fun _ _ _ _ _ _ us hl => match us, hl with | [_, _], _ => rfl
  have F15 := fun_mk (st := s_value_of_one) l15 c15 k15
  have B15 := F15.binds (ps := ["kind", "told"]) fun _ _ _ _ _ _ us hl => match us, hl with | [_, _], _ => rfl
  have F16 := fun_mk (st := s_value_of_pair) l16 c16 k16
  have B16 := F16.binds (ps := ["kind", "first", "second"]) fun _ _ _ _ _ _ us hl => match us, hl with | [_, _, _], _ => rfl
  have F17 := fun_mk (st := s_law_pull) l17 c17 k17
  have B17 := F17.binds (ps := ["tape", "many"]) fun _ _ _ _ _ _ us hl => match us, hl with | [_, _], _ => rfl
  have F18 := fun_mk (st := s_law_term) l18 c18 k18
  have B18 := F18.binds (ps := ["tape", "deep", "wide"]) fun _ _ _ _ _ _ us hl => match us, hl with | [_, _, _], _ => rfl
  have F19 := fun_mk (st := s_law_world) l19 c19 k19
  have B19 := F19.binds (ps := ["tape"]) fun _ _ _ _ _ _ us hl => match us, hl with | [_], _ => rfl
  have F20 := fun_mk (st := s_law_ones) l20 c20 k20
  have B20 := F20.binds (ps := ["wide"]) fun _ _ _ _ _ _ us hl => match us, hl with | [_], _ => rfl
  have F21 := fun_mk (st := s_law_pairs) l21 c21 k21
  have B21 := F21.binds (ps := ["a", "b", "c", "wide"]) fun _ _ _ _ _ _ us hl => match us, hl with | [_, _, _, _], _ => rfl
  have F22 := fun_mk (st := s_law_bits) l22 c22 k22
  have B22 := F22.binds (ps := ["a", "b", "wide"]) fun _ _ _ _ _ _ us hl => match us, hl with | [_, _, _], _ => rfl
  have F23 := fun_mk (st := s_law_parted) l23 c23 k23
  have B23 := F23.binds (ps := ["tape", "a", "b", "c", "wide"]) fun _ _ _ _ _ _ us hl => match us, hl with | [_, _, _, _, _], _ => rfl
  have F24 := fun_mk (st := s_law) l24 c24 k24
  have B24 := F24.binds (ps := ["script"]) fun _ _ _ _ _ _ us hl => match us, hl with | [_], _ => rfl
  let T : Tx K mg := { f_is_count := _, d_is_count := _, F_is_count := F0, b_is_count := B0, g_is_count := PySem.W.mg_of X G a0, f_is_width := _, d_is_width := _, F_is_width := F1, b_is_width := B1, g_is_width := PySem.W.mg_of X G a1, f_is_word := _, d_is_word := _, F_is_word := F2, b_is_word := B2, g_is_word := PySem.W.mg_of X G a2, f_cut_word := _, d_cut_word := _, F_cut_word := F3, b_cut_word := B3, g_cut_word := PySem.W.mg_of X G a3, f_one_count := _, d_one_count := _, F_one_count := F4, b_one_count := B4, g_one_count := PySem.W.mg_of X G a4, f_is_name := _, d_is_name := _, F_is_name := F5, b_is_name := B5, g_is_name := PySem.W.mg_of X G a5, f_is_term := _, d_is_term := _, F_is_term := F6, b_is_term := B6, g_is_term := PySem.W.mg_of X G a6, f_is_term_head := _, d_is_term_head := _, F_is_term_head := F7, b_is_term_head := B7, g_is_term_head := PySem.W.mg_of X G a7, f_parts_of := _, d_parts_of := _, F_parts_of := F8, b_parts_of := B8, g_parts_of := PySem.W.mg_of X G a8, f_World_init := _, d_World_init := _, F_World_init := F9, b_World_init := B9, f_width_of := _, d_width_of := _, F_width_of := F10, b_width_of := B10, g_width_of := PySem.W.mg_of X G a10, f_width_at := _, d_width_at := _, F_width_at := F11, b_width_at := B11, g_width_at := PySem.W.mg_of X G a11, f_width_made := _, d_width_made := _, F_width_made := F12, b_width_made := B12, g_width_made := PySem.W.mg_of X G a12, f_leaf_width := _, d_leaf_width := _, F_leaf_width := F13, b_leaf_width := B13, g_leaf_width := PySem.W.mg_of X G a13, f_term_value := _, d_term_value := _, F_term_value := F14, b_term_value := B14, g_term_value := PySem.W.mg_of X G a14, f_value_of_one := _, d_value_of_one := _, F_value_of_one := F15, b_value_of_one := B15, g_value_of_one := PySem.W.mg_of X G a15, f_value_of_pair := _, d_value_of_pair := _, F_value_of_pair := F16, b_value_of_pair := B16, g_value_of_pair := PySem.W.mg_of X G a16, f_law_pull := _, d_law_pull := _, F_law_pull := F17, b_law_pull := B17, g_law_pull := PySem.W.mg_of X G a17, f_law_term := _, d_law_term := _, F_law_term := F18, b_law_term := B18, g_law_term := PySem.W.mg_of X G a18, f_law_world := _, d_law_world := _, F_law_world := F19, b_law_world := B19, g_law_world := PySem.W.mg_of X G a19, f_law_ones := _, d_law_ones := _, F_law_ones := F20, b_law_ones := B20, g_law_ones := PySem.W.mg_of X G a20, f_law_pairs := _, d_law_pairs := _, F_law_pairs := F21, b_law_pairs := B21, g_law_pairs := PySem.W.mg_of X G a21, f_law_bits := _, d_law_bits := _, F_law_bits := F22, b_law_bits := B22, g_law_bits := PySem.W.mg_of X G a22, f_law_parted := _, d_law_parted := _, F_law_parted := F23, b_law_parted := B23, g_law_parted := PySem.W.mg_of X G a23, f_law := _, d_law := _, F_law := F24, b_law := B24, g_law := PySem.W.mg_of X G a24, c_World := _, kn_World := n_World, g_World := PySem.W.mg_of X G n_World, cl_World := ⟨p1_World, p2_World, p3_World, p4_World⟩, mk_World := ⟨m9, a9, i9, e9⟩, v_KEPT := ⟨_, PySem.W.mg_of X G u_KEPT, TupS.mk s_KEPT (Nat.le_of_ble_eq_true rfl) (.cons ⟨_, rfl⟩ (.cons ⟨_, rfl⟩ (.cons ⟨_, rfl⟩ (.cons ⟨_, rfl⟩ (.cons ⟨_, rfl⟩ (.cons ⟨_, rfl⟩ (.cons ⟨_, rfl⟩ (.cons ⟨_, rfl⟩ (.cons ⟨_, rfl⟩ (.cons ⟨_, rfl⟩ (.cons ⟨_, rfl⟩ (.cons ⟨_, rfl⟩ (.cons ⟨_, rfl⟩ (.cons ⟨_, rfl⟩ (.cons ⟨_, rfl⟩ (.cons ⟨_, rfl⟩ (.cons ⟨_, rfl⟩ (.cons ⟨_, rfl⟩ (.nil)))))))))))))))))))⟩, v_MOST_DEEP := ⟨_, PySem.W.mg_of X G u_MOST_DEEP⟩, v_MOST_PARTS := ⟨_, PySem.W.mg_of X G u_MOST_PARTS⟩, v_ONES := ⟨_, PySem.W.mg_of X G u_ONES, TupS.mk s_ONES (Nat.le_of_ble_eq_true rfl) (.cons ⟨_, rfl⟩ (.cons ⟨_, rfl⟩ (.cons ⟨_, rfl⟩ (.cons ⟨_, rfl⟩ (.nil)))))⟩, v_PAIRS := ⟨_, PySem.W.mg_of X G u_PAIRS, TupS.mk s_PAIRS (Nat.le_of_ble_eq_true rfl) (.cons ⟨_, rfl⟩ (.cons ⟨_, rfl⟩ (.cons ⟨_, rfl⟩ (.cons ⟨_, rfl⟩ (.cons ⟨_, rfl⟩ (.cons ⟨_, rfl⟩ (.cons ⟨_, rfl⟩ (.cons ⟨_, rfl⟩ (.nil)))))))))⟩, v_WIDEST := ⟨_, PySem.W.mg_of X G u_WIDEST⟩, o_tokens := (.cons n_World ⟨p1_World, p2_World, p3_World, p4_World⟩ x_World_tokens .nil), o_keeps := (.cons n_World ⟨p1_World, p2_World, p3_World, p4_World⟩ x_World_keeps .nil), o_stores := (.cons n_World ⟨p1_World, p2_World, p3_World, p4_World⟩ x_World_stores .nil), n_abs := PySem.W.mg_none_of X G z0, n_all := PySem.W.mg_none_of X G z1, n_bool := PySem.W.mg_none_of X G z2, n_int := PySem.W.mg_none_of X G z3, n_isinstance := PySem.W.mg_none_of X G z4, n_len := PySem.W.mg_none_of X G z5, n_list := PySem.W.mg_none_of X G z6, n_range := PySem.W.mg_none_of X G z7, n_str := PySem.W.mg_none_of X G z8, n_sum := PySem.W.mg_none_of X G z9, n_tuple := PySem.W.mg_none_of X G z10 }
  exact ⟨_, fun s v => .of_eq rfl, fun base _ _ => ok_law T⟩
end Law
open PySem PySem.W PyProof.Rows
set_option maxHeartbeats 0 in
theorem PySem.Challenge.cw_citywright_k02_whole_sums_and_bits_agree_holds : PySem.Challenge.rw_citywright_k02_whole_sums_and_bits_agree.Holds := by
  w_on; o_law; k_head; (case hw => w_witness2)
  k_fill
  refine L2.walk_of (l := PySem.Challenge.rw_citywright_k02_whole_sums_and_bits_agree) (n := 63) (k := 17) (x := "script") (CX := fun _ => L2.CX0) (sp := fun w => DL.lSp _ Law.sp_law) rfl (by decide) rfl ⟨rfl, by decide, by decide⟩ (fun w h Y => PySem.W.kIn_of Y) ?F (fun _ _ a ns hl hO hS => Law.end_law hl hO hS) (fun _ _ _ _ _ h => h)
  case F =>
    intro w mg fa h KX G hmg
    refine' Law.all_mk KX G hmg ?u_KEPT ?s_KEPT ?u_MOST_DEEP ?u_MOST_PARTS ?u_ONES ?s_ONES ?u_PAIRS ?s_PAIRS ?u_WIDEST ?n_World ?p1_World ?p2_World ?p3_World ?p4_World ?x_World_tokens ?x_World_keeps ?x_World_stores ?a9 ?i9 ?m9 ?e9 ?a0 ?l0 ?c0 ?k0 ?a1 ?l1 ?c1 ?k1 ?a2 ?l2 ?c2 ?k2 ?a3 ?l3 ?c3 ?k3 ?a4 ?l4 ?c4 ?k4 ?a5 ?l5 ?c5 ?k5 ?a6 ?l6 ?c6 ?k6 ?a7 ?l7 ?c7 ?k7 ?a8 ?l8 ?c8 ?k8 ?l9 ?c9 ?k9 ?a10 ?l10 ?c10 ?k10 ?a11 ?l11 ?c11 ?k11 ?a12 ?l12 ?c12 ?k12 ?a13 ?l13 ?c13 ?k13 ?a14 ?l14 ?c14 ?k14 ?a15 ?l15 ?c15 ?k15 ?a16 ?l16 ?c16 ?k16 ?a17 ?l17 ?c17 ?k17 ?a18 ?l18 ?c18 ?k18 ?a19 ?l19 ?c19 ?k19 ?a20 ?l20 ?c20 ?k20 ?a21 ?l21 ?c21 ?k21 ?a22 ?l22 ?c22 ?k22 ?a23 ?l23 ?c23 ?k23 ?a24 ?l24 ?c24 ?k24 ?z0 ?z1 ?z2 ?z3 ?z4 ?z5 ?z6 ?z7 ?z8 ?z9 ?z10
    (case u_KEPT => k_is); (case s_KEPT => k_is); (case u_MOST_DEEP => k_is); (case u_MOST_PARTS => k_is); (case u_ONES => k_is); (case s_ONES => k_is); (case u_PAIRS => k_is); (case s_PAIRS => k_is); (case u_WIDEST => k_is); (case n_World => k_is); (case p1_World => k_is); (case p2_World => k_is); (case p3_World => k_is); (case p4_World => k_is); (case x_World_tokens => k_is); (case x_World_keeps => k_is); (case x_World_stores => k_is); (case a9 => k_is); (case i9 => k_is); (case m9 => k_is); (case e9 => k_is); (case a0 => k_is); (case l0 => k_is); (case c0 => k_is); (case k0 => k_is); (case a1 => k_is); (case l1 => k_is); (case c1 => k_is); (case k1 => k_is); (case a2 => k_is); (case l2 => k_is); (case c2 => k_is); (case k2 => k_is); (case a3 => k_is); (case l3 => k_is); (case c3 => k_is); (case k3 => k_is); (case a4 => k_is); (case l4 => k_is); (case c4 => k_is); (case k4 => k_is); (case a5 => k_is); (case l5 => k_is); (case c5 => k_is); (case k5 => k_is); (case a6 => k_is); (case l6 => k_is); (case c6 => k_is); (case k6 => k_is); (case a7 => k_is); (case l7 => k_is); (case c7 => k_is); (case k7 => k_is); (case a8 => k_is); (case l8 => k_is); (case c8 => k_is); (case k8 => k_is); (case l9 => k_is); (case c9 => k_is); (case k9 => k_is); (case a10 => k_is); (case l10 => k_is); (case c10 => k_is); (case k10 => k_is); (case a11 => k_is); (case l11 => k_is); (case c11 => k_is); (case k11 => k_is); (case a12 => k_is); (case l12 => k_is); (case c12 => k_is); (case k12 => k_is); (case a13 => k_is); (case l13 => k_is); (case c13 => k_is); (case k13 => k_is); (case a14 => k_is); (case l14 => k_is); (case c14 => k_is); (case k14 => k_is); (case a15 => k_is); (case l15 => k_is); (case c15 => k_is); (case k15 => k_is); (case a16 => k_is); (case l16 => k_is); (case c16 => k_is); (case k16 => k_is); (case a17 => k_is); (case l17 => k_is); (case c17 => k_is); (case k17 => k_is); (case a18 => k_is); (case l18 => k_is); (case c18 => k_is); (case k18 => k_is); (case a19 => k_is); (case l19 => k_is); (case c19 => k_is); (case k19 => k_is); (case a20 => k_is); (case l20 => k_is); (case c20 => k_is); (case k20 => k_is); (case a21 => k_is); (case l21 => k_is); (case c21 => k_is); (case k21 => k_is); (case a22 => k_is); (case l22 => k_is); (case c22 => k_is); (case k22 => k_is); (case a23 => k_is); (case l23 => k_is); (case c23 => k_is); (case k23 => k_is); (case a24 => k_is); (case l24 => k_is); (case c24 => k_is); (case k24 => k_is); (case z0 => k_is); (case z1 => k_is); (case z2 => k_is); (case z3 => k_is); (case z4 => k_is); (case z5 => k_is); (case z6 => k_is); (case z7 => k_is); (case z8 => k_is); (case z9 => k_is); (case z10 => k_is)
