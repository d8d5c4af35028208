import PyProof.Rows.All
import Wide.All
import OpenK.AllK
import Wide.FinOn
import HandS.ForMost
import HandS.IsInst
import HandS.Wide
import HandS.Flow
import HandS.RaiseMore
import HandS.EndBits
import PyProof.ReprRoads
import HandS.TupAny
import HandS.Exc
import HandS.WordsExc
import KE.IntTextLaws
import PyProof.ReprLen
import PyProof.Rows.ReprOcc
import PySem.Challenge.RW_termstream_k15_whole_neighbours
set_option Elab.async false
set_option linter.all false
set_option maxRecDepth 100000
set_option maxHeartbeats 2000000
/-! Data over the heap (Rp), frames, slots, and the wp over data -/
namespace Tq
open PySem PySem.Spec PyProof.Rows L2
abbrev D := PyData
abbrev Fg := PySem.W.Frag
abbrev St := L2.St
def kD : Key → D
  | .inl i => .int i
  | .inr x => .str x
/-- a list of the written part -/
def KL (K : Fg) (a : Addr) (xs : List V) : Prop := ∃ (o : Obj) (its : Array Value) (n : Nat), K.lookup a = some o ∧ o.cls = .type "list" ∧ o.dict = none ∧ o.data = .seq its n ∧ its.size ≤ sizeLine ∧ Vals xs its.toList
def KT (K : Fg) (a : Addr) (xs : List V) : Prop := ∃ (o : Obj) (its : Array Value) (n : Nat), K.lookup a = some o ∧ o.cls = .type "tuple" ∧ o.data = .seq its n ∧ its.size ≤ sizeLine ∧ Vals xs its.toList
/-- a list, a tuple, apart from what may change -/
def LsA (K : Fg) (M : Addr → Prop) (H : Hp) (a : Addr) (xs : List V) : Prop := (¬ M a ∧ Rd H a (.lst xs)) ∨ KL K a xs
def TsA (K : Fg) (M : Addr → Prop) (H : Hp) (a : Addr) (xs : List V) : Prop := (¬ M a ∧ Rd H a (.tup xs)) ∨ KT K a xs
theorem LsA.sq {K : Fg} {M : Addr → Prop} {H : Hp} {a : Addr} {xs : List V} (h : LsA K M H a xs) : SqL K H a xs := h.elim (fun z => .inl z.2) .inr
theorem TsA.sq {K : Fg} {M : Addr → Prop} {H : Hp} {a : Addr} {xs : List V} (h : TsA K M H a xs) : SqT K H a xs := h.elim (fun z => .inl z.2) .inr
mutual
inductive Rp (K : Fg) (M : Addr → Prop) (H : Hp) : V → D → Prop
  | non : Rp K M H .non .none
  | bl (b : Bool) : Rp K M H (.bl b) (.bool b)
  | int (i : Int) : Rp K M H (.int i) (.int i)
  | str (x : Str) : Rp K M H (.str x) (.str x)
  | lst {a : Addr} {xs : List V} {ds : List D} : LsA K M H a xs → RpA K M H xs ds → Rp K M H (.ref a) (.list ds)
  | tup {a : Addr} {xs : List V} {ds : List D} : TsA K M H a xs → RpA K M H xs ds → Rp K M H (.ref a) (.tuple ds)
  | dic {a : Addr} {kvs : List (Key × V)} {ds : List (D × D)} : ¬ M a → H a = some (.dK kvs) → RpK K M H kvs ds → Rp K M H (.ref a) (.dict ds)
inductive RpA (K : Fg) (M : Addr → Prop) (H : Hp) : List V → List D → Prop
  | nil : RpA K M H [] []
  | cons {v : V} {d : D} {vs : List V} {ds : List D} : Rp K M H v d → RpA K M H vs ds → RpA K M H (v :: vs) (d :: ds)
inductive RpK (K : Fg) (M : Addr → Prop) (H : Hp) : List (Key × V) → List (D × D) → Prop
  | nil : RpK K M H [] []
  | cons {k : Key} {v : V} {d : D} {vs : List (Key × V)} {ds : List (D × D)} : Rp K M H v d → RpK K M H vs ds → RpK K M H ((k, v) :: vs) ((kD k, d) :: ds)
end
/-- what stood apart stands, and apart -/
def GoH (M : Addr → Prop) (H : Hp) (M' : Addr → Prop) (H' : Hp) : Prop := ∀ a o, ¬ M a → H a = some o → ¬ M' a ∧ H' a = some o
theorem GoH.refl {M : Addr → Prop} {H : Hp} : GoH M H M H := fun _ _ h e => ⟨h, e⟩
theorem GoH.trans {M M1 M2 : Addr → Prop} {H H1 H2 : Hp} (g : GoH M H M1 H1) (g' : GoH M1 H1 M2 H2) : GoH M H M2 H2 := fun a o h e => g' a o (g a o h e).1 (g a o h e).2
section
variable {K : Fg} {M M' : Addr → Prop} {H H' : Hp}
theorem Rd.go {a : Addr} {u : HO} (g : GoH M H M' H') (n : ¬ M a) (r : Rd H a u) : ¬ M' a ∧ Rd H' a u := by
  rcases r with r | ⟨o, r⟩
  · exact ⟨(g a _ n r).1, .inl (g a _ n r).2⟩
  · exact ⟨(g a _ n r).1, .inr ⟨o, (g a _ n r).2⟩⟩
theorem LsA.go {a : Addr} {xs : List V} (g : GoH M H M' H') (h : LsA K M H a xs) : LsA K M' H' a xs := h.elim (fun z => .inl (Rd.go g z.1 z.2)) .inr
theorem TsA.go {a : Addr} {xs : List V} (g : GoH M H M' H') (h : TsA K M H a xs) : TsA K M' H' a xs := h.elim (fun z => .inl (Rd.go g z.1 z.2)) .inr
theorem Rp.go (g : GoH M H M' H') {v : V} {d : D} (r : Rp K M H v d) : Rp K M' H' v d :=
  Rp.rec (motive_1 := fun v d _ => Rp K M' H' v d) (motive_2 := fun vs ds _ => RpA K M' H' vs ds) (motive_3 := fun vs ds _ => RpK K M' H' vs ds)
    .non .bl .int .str (fun h _ i => .lst (h.go g) i) (fun h _ i => .tup (h.go g) i) (fun n h _ i => .dic (g _ _ n h).1 (g _ _ n h).2 i)
    .nil (fun _ _ a b => .cons a b) .nil (fun _ _ a b => .cons a b) r
theorem RpA.go (g : GoH M H M' H') : ∀ {vs : List V} {ds : List D}, RpA K M H vs ds → RpA K M' H' vs ds
  | _, _, .nil => .nil
  | _, _, .cons a b => .cons (a.go g) (b.go g)
theorem RpK.go (g : GoH M H M' H') : ∀ {vs : List (Key × V)} {ds : List (D × D)}, RpK K M H vs ds → RpK K M' H' vs ds
  | _, _, .nil => .nil
  | _, _, .cons a b => .cons (a.go g) (b.go g)
theorem RpA.len : ∀ {vs : List V} {ds : List D}, RpA K M H vs ds → vs.length = ds.length
  | _, _, .nil => rfl
  | _, _, .cons _ b => congrArg (· + 1) b.len
theorem RpA.get : ∀ {vs : List V} {ds : List D} {i : Nat} {d : D}, RpA K M H vs ds → ds[i]? = some d → ∃ v, vs[i]? = some v ∧ Rp K M H v d
  | _, _, _, _, .nil, e => by simp at e
  | _, _, 0, _, .cons a _, e => by simp at e; subst e; exact ⟨_, rfl, a⟩
  | _, _, i + 1, d, .cons _ b, e => by
    obtain ⟨u, h1, h2⟩ := b.get (i := i) (d := d) (by simpa using e)
    exact ⟨u, by simpa using h1, h2⟩
theorem RpA.getV : ∀ {vs : List V} {ds : List D} {i : Nat} {v : V}, RpA K M H vs ds → vs[i]? = some v → ∃ d, ds[i]? = some d ∧ Rp K M H v d
  | _, _, _, _, .nil, e => by simp at e
  | _, _, 0, _, .cons a _, e => by simp at e; subst e; exact ⟨_, rfl, a⟩
  | _, _, i + 1, d, .cons _ b, e => by
    obtain ⟨u, h1, h2⟩ := b.getV (i := i) (v := d) (by simpa using e)
    exact ⟨u, by simpa using h1, h2⟩
theorem RpA.app : ∀ {vs us : List V} {ds es : List D}, RpA K M H vs ds → RpA K M H us es → RpA K M H (vs ++ us) (ds ++ es)
  | _, _, _, _, .nil, h => h
  | _, _, _, _, .cons a b, h => .cons a (b.app h)
theorem RpA.take : ∀ (n : Nat) {vs : List V} {ds : List D}, RpA K M H vs ds → RpA K M H (vs.take n) (ds.take n)
  | 0, _, _, _ => .nil
  | _ + 1, _, _, .nil => .nil
  | n + 1, _, _, .cons a b => .cons a (b.take n)
theorem RpA.drop : ∀ (n : Nat) {vs : List V} {ds : List D}, RpA K M H vs ds → RpA K M H (vs.drop n) (ds.drop n)
  | 0, _, _, h => h
  | _ + 1, _, _, .nil => .nil
  | n + 1, _, _, .cons _ b => b.drop n
theorem RpA.rev : ∀ {vs : List V} {ds : List D}, RpA K M H vs ds → RpA K M H vs.reverse ds.reverse
  | _, _, .nil => .nil
  | _, _, .cons a b => by
    rw [List.reverse_cons, List.reverse_cons]
    exact b.rev.app (.cons a .nil)
theorem rp_int {v : V} {i : Int} (r : Rp K M H v (.int i)) : v = .int i := by cases r; rfl
theorem rp_bl {v : V} {i : Bool} (r : Rp K M H v (.bool i)) : v = .bl i := by cases r; rfl
theorem rp_str {v : V} {i : Str} (r : Rp K M H v (.str i)) : v = .str i := by cases r; rfl
theorem rp_non {v : V} (r : Rp K M H v .none) : v = .non := by cases r; rfl
theorem rp_lst {v : V} {ds : List D} (r : Rp K M H v (.list ds)) : ∃ a xs, v = .ref a ∧ LsA K M H a xs ∧ RpA K M H xs ds := by
  cases r with | lst h1 h2 => exact ⟨_, _, rfl, h1, h2⟩
theorem rp_tup {v : V} {ds : List D} (r : Rp K M H v (.tuple ds)) : ∃ a xs, v = .ref a ∧ TsA K M H a xs ∧ RpA K M H xs ds := by
  cases r with | tup h1 h2 => exact ⟨_, _, rfl, h1, h2⟩
theorem rpA_ints : ∀ {vs : List V} {ns : List Int}, RpA K M H vs (ns.map PyData.int) → vs = ns.map V.int
  | [], [], _ => rfl
  | [], _ :: _, h => by cases h
  | _ :: _, [], h => by cases h
  | v :: vs, n :: ns, h => by
    cases h with | cons a b =>
    rw [rp_int a, rpA_ints b] <;> rfl
theorem rpA_strs : ∀ {vs : List V} {ns : List Str}, RpA K M H vs (ns.map PyData.str) → vs = ns.map V.str
  | [], [], _ => rfl
  | [], _ :: _, h => by cases h
  | _ :: _, [], h => by cases h
  | v :: vs, n :: ns, h => by
    cases h with | cons a b =>
    rw [rp_str a, rpA_strs b] <;> rfl
theorem rpA_bls : ∀ {vs : List V} {ns : List Bool}, RpA K M H vs (ns.map PyData.bool) → vs = ns.map V.bl
  | [], [], _ => rfl
  | [], _ :: _, h => by cases h
  | _ :: _, [], h => by cases h
  | v :: vs, n :: ns, h => by
    cases h with | cons a b =>
    rw [rp_bl a, rpA_bls b] <;> rfl
theorem rpA_int : ∀ (ns : List Int), RpA K M H (ns.map V.int) (ns.map PyData.int)
  | [] => .nil
  | n :: ns => .cons (.int n) (rpA_int ns)
theorem rpA_str : ∀ (ns : List Str), RpA K M H (ns.map V.str) (ns.map PyData.str)
  | [] => .nil
  | n :: ns => .cons (.str n) (rpA_str ns)
end
/-- scalars -/
inductive Sc : V → D → Prop
  | non : Sc .non .none
  | bl (b : Bool) : Sc (.bl b) (.bool b)
  | int (i : Int) : Sc (.int i) (.int i)
  | str (x : Str) : Sc (.str x) (.str x)
theorem Sc.rp {K : Fg} {M : Addr → Prop} {H : Hp} {v : V} {d : D} (s : Sc v d) : Rp K M H v d := by
  cases s
  · exact .non
  · exact .bl _
  · exact .int _
  · exact .str _

/-! ### frames and slots -/
/-- a purse with room for n more draws -/
def PuOk (H : Hp) (a : Addr) (n : Nat) : Prop := ∃ x b c : Int, H a = some (.lst [.int x, .int b, .int c]) ∧ 0 ≤ x ∧ 0 ≤ b ∧ b < 2147483629 ∧ 0 ≤ c ∧ c + n ≤ 8000000
structure Ct where
  K : Fg
  pp : Bool
structure Fr where
  H0 : Hp
  S0 : Addr → Prop
  M0 : Addr → Prop
  p : Addr
  st : Bool
inductive Y where
  | d (d : D)
  | pu (n : Nat)
  | own (ds : List D)
def Y.o : Y → Bool
  | .d _ => false
  | _ => true
abbrev S := List (Option Y)
inductive Z where
  | d (d : D)
  | ptr (i : Nat)
def isO (y : S) (i : Nat) : Bool := match y[i]? with
  | some (some z) => z.o
  | _ => false
def Own (σ : St) (y : S) (a : Addr) : Prop := ∃ i, isO y i = true ∧ σ[i]? = some (some (.ref a))
def Mv (F : Fr) (σ : St) (y : S) (a : Addr) : Prop := F.M0 a ∨ Own σ y a
def SlotOk (K : Fg) (M : Addr → Prop) (H : Hp) (v : Option (Option V)) : Y → Prop
  | .d d => ∃ x, v = some (some x) ∧ Rp K M H x d
  | .pu n => ∃ a, v = some (some (.ref a)) ∧ PuOk H a n
  | .own ds => ∃ a xs, v = some (some (.ref a)) ∧ H a = some (.lst xs) ∧ RpA K M H xs ds
structure Wd (C : Ct) (F : Fr) (σ : St) (y : S) (H : Hp) : Prop where
  keep : ∀ a o, ¬ F.S0 a → F.H0 a = some o → H a = some o
  live0 : ∀ a, F.M0 a → F.H0 a ≠ none
  live : ∀ a, F.M0 a → H a ≠ none
  len : σ.length = y.length
  slot : ∀ (i : Nat) (z : Y), y[i]? = some (some z) → SlotOk C.K (Mv F σ y) H σ[i]? z
  dist : ∀ (i j : Nat) (a : Addr), isO y i = true → isO y j = true → σ[i]? = some (some (.ref a)) → σ[j]? = some (some (.ref a)) → i = j
  frsh : ∀ a, Own σ y a → F.S0 a ∨ F.H0 a = none
  pin : C.pp = true → σ[0]? = some (some (.ref F.p))
  sm : ∀ a, F.S0 a → F.M0 a
  nb : F.st = true → ∀ (i : Nat) (a : Addr), isO y i = true → σ[i]? = some (some (.ref a)) → F.S0 a → i = 0 ∧ C.pp = true
abbrev Go (F : Fr) (σ : St) (y : S) (H : Hp) (σ' : St) (y' : S) (H' : Hp) : Prop := GoH (Mv F σ y) H (Mv F σ' y') H'
def Sh (y y' : S) : Prop := ∀ i, isO y' i = isO y i
theorem Sh.refl (y : S) : Sh y y := fun _ => rfl
theorem Sh.trans {y y1 y2 : S} (a : Sh y y1) (b : Sh y1 y2) : Sh y y2 := fun i => (b i).trans (a i)
def Rz (C : Ct) (F : Fr) (σ : St) (y : S) (H : Hp) (v : V) : Z → Prop
  | .d d => Rp C.K (Mv F σ y) H v d
  | .ptr i => isO y i = true ∧ σ[i]? = some (some v)
inductive RzA (C : Ct) (F : Fr) (σ : St) (y : S) (H : Hp) : List V → List Z → Prop
  | nil : RzA C F σ y H [] []
  | cons {v : V} {z : Z} {vs : List V} {zs : List Z} : Rz C F σ y H v z → RzA C F σ y H vs zs → RzA C F σ y H (v :: vs) (z :: zs)
section
variable {C : Ct} {F : Fr} {σ : St} {y y' : S} {H H' : Hp}
theorem Rz.go {v : V} {z : Z} (g : Go F σ y H σ y' H') (s : Sh y y') (r : Rz C F σ y H v z) : Rz C F σ y' H' v z := by
  cases z with
  | d d => exact Rp.go g r
  | ptr i => exact ⟨(s i).trans r.1, r.2⟩
theorem RzA.go (g : Go F σ y H σ y' H') (s : Sh y y') : ∀ {vs : List V} {zs : List Z}, RzA C F σ y H vs zs → RzA C F σ y' H' vs zs
  | _, _, .nil => .nil
  | _, _, .cons a b => .cons (Rz.go g s a) (b.go g s)
theorem RzA.ds : ∀ {vs : List V} {ds : List D}, RzA C F σ y H vs (ds.map Z.d) → RpA C.K (Mv F σ y) H vs ds
  | [], [], _ => .nil
  | [], _ :: _, h => by cases h
  | _ :: _, [], h => by cases h
  | v :: vs, n :: ns, h => by
    cases h with | cons a b => exact .cons a b.ds
/-- a fresh address is apart -/
theorem Wd.new (w : Wd C F σ y H) {p : Addr} (h : H p = none) : ¬ Mv F σ y p := by
  rintro (z | ⟨i, hi, e⟩)
  · exact w.live p z h
  · cases q : y[i]? with
    | none => unfold isO at hi; rw [q] at hi; cases hi
    | some o =>
      cases o with
      | none => unfold isO at hi; rw [q] at hi; cases hi
      | some z =>
        have s := w.slot i z q
        cases z with
        | d d => unfold isO at hi; rw [q] at hi; cases hi
        | pu n =>
          obtain ⟨a, ea, x, b, c, ha, _⟩ := s
          rw [e] at ea; cases ea
          rw [h] at ha; cases ha
        | own ds =>
          obtain ⟨a, xs, ea, ha, _⟩ := s
          rw [e] at ea; cases ea
          rw [h] at ha; cases ha
/-- the heap grows, apart from what may change; what may change stays as it is -/
theorem Wd.grow (w : Wd C F σ y H) (g : ∀ a o, H a = some o → H' a = some o) : Wd C F σ y H' := by
  refine ⟨fun a o n e => g _ _ (w.keep a o n e), w.live0, fun a m e => ?_, w.len, fun i z e => ?_, w.dist, w.frsh, w.pin, w.sm, w.nb⟩
  · cases q : H a with
    | none => exact w.live a m q
    | some o => rw [g a o q] at e; cases e
  · have s := w.slot i z e
    have gg : GoH (Mv F σ y) H (Mv F σ y) H' := fun a o n e => ⟨n, g a o e⟩
    cases z with
    | d d => obtain ⟨x, h1, h2⟩ := s; exact ⟨x, h1, h2.go gg⟩
    | pu n => obtain ⟨a, h1, x, b, c, h2, h3⟩ := s; exact ⟨a, h1, x, b, c, g _ _ h2, h3⟩
    | own ds => obtain ⟨a, xs, h1, h2, h3⟩ := s; exact ⟨a, xs, h1, g _ _ h2, h3.go gg⟩
theorem go_grow (g : ∀ a o, H a = some o → H' a = some o) : Go F σ y H σ y H' := fun a o n e => ⟨n, g a o e⟩
theorem grow_upd {p : Addr} {o : HO} (h : H p = none) : ∀ a u, H a = some u → upd H p o a = some u := fun a u e => by
  rw [upd_ne (ne_of_none e h)]; exact e
end

/-! ### the wp over data -/
section
variable (C : Ct)
def wE (te : TE) (y : S) (Q : Z → S → Prop) : Prop := ∀ (F : Fr) σ H (K : VK), Wd C F σ y H → (∀ v H' z y', Wd C F σ y' H' → Go F σ y H σ y' H' → Sh y y' → Rz C F σ y' H' v z → Q z y' → K v H') → te σ H K
def wT (tt : TT) (y : S) (Q : Bool → S → Prop) : Prop := ∀ (F : Fr) σ H (K : Bool → Hp → Prop), Wd C F σ y H → (∀ b H' y', Wd C F σ y' H' → Go F σ y H σ y' H' → Sh y y' → Q b y' → K b H') → tt σ H K
def wA (ta : TA) (y : S) (Q : List Z → S → Prop) : Prop := ∀ (F : Fr) σ H (K : List V → Hp → Prop), Wd C F σ y H → (∀ vs H' zs y', Wd C F σ y' H' → Go F σ y H σ y' H' → Sh y y' → RzA C F σ y' H' vs zs → Q zs y' → K vs H') → ta σ H K
def wO (to : TO) (y : S) (Q : Option Int → S → Prop) : Prop := ∀ (F : Fr) σ H (K : Option Int → Hp → Prop), Wd C F σ y H → (∀ b H' y', Wd C F σ y' H' → Go F σ y H σ y' H' → Sh y y' → Q b y' → K b H') → to σ H K
structure En where
  nx : S → Prop
  rt : Z → S → Prop
  bk : S → Prop := fun _ => False
  ct : S → Prop := fun _ => False
structure EnOk (F : Fr) (σ : St) (y : S) (H : Hp) (e : En) (E : Ends) : Prop where
  nx : ∀ σ' H' y', Wd C F σ' y' H' → Go F σ y H σ' y' H' → e.nx y' → E.nx σ' H'
  rt : ∀ σ' v H' z y', Wd C F σ' y' H' → Go F σ y H σ' y' H' → Rz C F σ' y' H' v z → e.rt z y' → E.rt v H'
  bk : ∀ σ' H' y', Wd C F σ' y' H' → Go F σ y H σ' y' H' → e.bk y' → E.bk σ' H'
  ct : ∀ σ' H' y', Wd C F σ' y' H' → Go F σ y H σ' y' H' → e.ct y' → E.ct σ' H'
def wS (ts : TS) (y : S) (e : En) : Prop := ∀ (F : Fr) σ H (E : Ends), F.st = true → Wd C F σ y H → EnOk C F σ y H e E → ts E σ H
end
end Tq
set_option maxRecDepth 100000
set_option maxHeartbeats 2000000
namespace Tq
open PySem PySem.Spec PyProof.Rows L2
/-! ### storing in a slot -/
section
variable {C : Ct} {F : Fr} {σ : St} {y y' : S} {H H' : Hp}
theorem isO_set {i j : Nat} {u : Option Y} (h : isO (y.set i u) j = true) : (j = i ∧ i < y.length ∧ ∃ z, u = some z ∧ z.o = true) ∨ (j ≠ i ∧ isO y j = true) ∨ (j = i ∧ y.length ≤ i) := by
  by_cases e : j = i
  · by_cases hl : i < y.length
    · refine .inl ⟨e, hl, ?_⟩
      subst e
      unfold isO at h
      rw [List.getElem?_set_self hl] at h
      cases u with
      | none => cases h
      | some z => exact ⟨z, rfl, h⟩
    · exact .inr (.inr ⟨e, by omega⟩)
  · refine .inr (.inl ⟨e, ?_⟩)
    unfold isO at h ⊢
    rw [List.getElem?_set_ne (Ne.symm e)] at h
    exact h
theorem isO_lt {i : Nat} (h : isO y i = true) : i < y.length := by
  unfold isO at h
  cases q : y[i]? with
  | none => rw [q] at h; cases h
  | some o => exact (List.getElem?_eq_some_iff.mp q).1
theorem isO_set_d {i j : Nat} {d : D} (h : isO (y.set i (some (.d d))) j = true) : j ≠ i ∧ isO y j = true := by
  rcases isO_set h with ⟨_, _, z, e, o⟩ | h | ⟨e, l⟩
  · cases e; cases o
  · exact h
  · have := isO_lt h; rw [List.length_set] at this; omega
theorem Mv_set_d {i : Nat} {v : Option V} {d : D} {a : Addr} (h : Mv F (σ.set i v) (y.set i (some (.d d))) a) : Mv F σ y a := by
  rcases h with h | ⟨j, hj, e⟩
  · exact .inl h
  · obtain ⟨n, o⟩ := isO_set_d hj
    rw [List.getElem?_set_ne (Ne.symm n)] at e
    exact .inr ⟨j, o, e⟩
theorem go_set_d {i : Nat} {v : Option V} {d : D} : Go F σ y H (σ.set i v) (y.set i (some (.d d))) H := fun a o n e => ⟨fun z => n (Mv_set_d z), e⟩
theorem Wd.set_d (w : Wd C F σ y H) {i : Nat} {v : V} {d : D} (hp : i ≠ 0 ∨ C.pp = false) (r : Rp C.K (Mv F σ y) H v d) : Wd C F (σ.set i (some v)) (y.set i (some (.d d))) H := by
  have g : Go F σ y H (σ.set i (some v)) (y.set i (some (.d d))) H := go_set_d
  refine ⟨w.keep, w.live0, w.live, by rw [List.length_set, List.length_set]; exact w.len, fun j z e => ?_, fun j k a h1 h2 e1 e2 => ?_, fun a h => ?_, fun e => ?_, w.sm, fun st j a h e s => ?_⟩
  · by_cases n : j = i
    · subst n
      have hl : j < y.length := by
        have := (List.getElem?_eq_some_iff.mp e).1
        rw [List.length_set] at this; exact this
      rw [List.getElem?_set_self hl] at e
      cases e
      refine ⟨v, ?_, r.go g⟩
      rw [List.getElem?_set_self (by rw [w.len]; exact hl)]
    · rw [List.getElem?_set_ne (Ne.symm n)] at e ⊢
      have s := w.slot j z e
      cases z with
      | d d => obtain ⟨x, h1, h2⟩ := s; exact ⟨x, h1, h2.go g⟩
      | pu n => exact s
      | own ds => obtain ⟨a, xs, h1, h2, h3⟩ := s; exact ⟨a, xs, h1, h2, h3.go g⟩
  · obtain ⟨n1, o1⟩ := isO_set_d h1
    obtain ⟨n2, o2⟩ := isO_set_d h2
    rw [List.getElem?_set_ne (Ne.symm n1)] at e1
    rw [List.getElem?_set_ne (Ne.symm n2)] at e2
    exact w.dist j k a o1 o2 e1 e2
  · obtain ⟨j, hj, e⟩ := h
    obtain ⟨n1, o1⟩ := isO_set_d hj
    rw [List.getElem?_set_ne (Ne.symm n1)] at e
    exact w.frsh a ⟨j, o1, e⟩
  · rcases hp with hp | hp
    · rw [List.getElem?_set_ne hp]; exact w.pin e
    · rw [hp] at e; cases e
  · obtain ⟨n1, o1⟩ := isO_set_d h
    rw [List.getElem?_set_ne (Ne.symm n1)] at e
    exact w.nb st j a o1 e s
end

/-! ### expressions -/
section
variable {C : Ct} {y : S} {ta tb tc te : TE} {Q : Z → S → Prop}
theorem wE_var {i : Nat} {d : D} (h : y[i]? = some (some (.d d))) (q : Q (.d d) y) : wE C (tVar i) y Q := fun F σ H K w k => by
  obtain ⟨x, h1, h2⟩ := w.slot i _ h
  exact ⟨x, h1, k x H (.d d) y w GoH.refl (Sh.refl y) h2 q⟩
theorem wE_ptr {i : Nat} (h : isO y i = true) (q : Q (.ptr i) y) : wE C (tVar i) y Q := fun F σ H K w k => by
  unfold isO at h
  cases e : y[i]? with
  | none => rw [e] at h; cases h
  | some o =>
    cases o with
    | none => rw [e] at h; cases h
    | some z =>
      have hO : isO y i = true := by unfold isO; rw [e]; rw [e] at h; exact h
      have s := w.slot i z e
      cases z with
      | d d => rw [e] at h; cases h
      | pu n => obtain ⟨a, h1, _⟩ := s; exact ⟨_, h1, k _ H (.ptr i) y w GoH.refl (Sh.refl y) ⟨hO, h1⟩ q⟩
      | own ds => obtain ⟨a, xs, h1, _⟩ := s; exact ⟨_, h1, k _ H (.ptr i) y w GoH.refl (Sh.refl y) ⟨hO, h1⟩ q⟩
theorem wE_sc {v : V} {d : D} (s : Sc v d) (q : Q (.d d) y) : wE C (tC v) y Q := fun F σ H K w k => k v H (.d d) y w GoH.refl (Sh.refl y) s.rp q
theorem wE_int {i : Int} (q : Q (.d (.int i)) y) : wE C (tC (.int i)) y Q := wE_sc (.int i) q
theorem wE_str {i : Str} (q : Q (.d (.str i)) y) : wE C (tC (.str i)) y Q := wE_sc (.str i) q
theorem wE_bl {i : Bool} (q : Q (.d (.bool i)) y) : wE C (tC (.bl i)) y Q := wE_sc (.bl i) q
theorem wE_non (q : Q (.d .none) y) : wE C (tC .non) y Q := wE_sc .non q
theorem wE_mono {R : Z → S → Prop} (h : wE C te y Q) (q : ∀ z y', Q z y' → R z y') : wE C te y R := fun F σ H K w k => h F σ H K w fun v H' z y' a b c d e => k v H' z y' a b c d (q z y' e)
/-- a fact over the data, a new heap that only grows -/
def OpD (K : Fg) (r : R2) (res : D → D → D → Prop) : Prop := ∀ (M : Addr → Prop) (H : Hp) (x y : V) (d e g : D) (Q : VK), (∀ a, H a = none → ¬ M a) → Rp K M H x d → Rp K M H y e → res d e g →
  (∀ v H', (∀ a o, H a = some o → H' a = some o) → Rp K M H' v g → Q v H') → r x y H Q
theorem wE_op {r : R2} {res : D → D → D → Prop} (h : OpD C.K r res) (w : wE C ta y fun z y1 => wE C tb y1 fun z' y2 => ∃ d e g, z = .d d ∧ z' = .d e ∧ res d e g ∧ Q (.d g) y2) : wE C (tOp r ta tb) y Q := by
  intro F σ H K wd k
  refine w F σ H _ wd fun x H1 z y1 w1 g1 s1 r1 q1 => ?_
  refine q1 F σ H1 _ w1 fun x2 H2 z' y2 w2 g2 s2 r2 q2 => ?_
  obtain ⟨d, e, g, rfl, rfl, hres, hq⟩ := q2
  refine h (Mv F σ y2) H2 x x2 d e g K (fun a => w2.new) (Rp.go g2 r1) r2 hres fun v H3 gr rv => ?_
  exact k v H3 (.d g) y2 (w2.grow gr) ((g1.trans g2).trans (go_grow gr)) (s1.trans s2) rv hq
theorem opD_I {C : Int → Int → Prop} {g : Int → Int → V} {gd : Int → Int → D} (hg : ∀ i j, Sc (g i j) (gd i j)) {K : Fg} : OpD K (rI C g) (fun d e r => ∃ i j, d = .int i ∧ e = .int j ∧ C i j ∧ r = gd i j) := by
  rintro M H x y d e r Q _ rx ry ⟨i, j, rfl, rfl, c, rfl⟩ k
  exact ⟨i, j, rp_int rx, rp_int ry, c, k _ H (fun _ _ e => e) (hg i j).rp⟩
theorem opD_I0 {g : Int → Int → V} {gd : Int → Int → D} (hg : ∀ i j, Sc (g i j) (gd i j)) {K : Fg} : OpD K (rI0 g) (fun d e r => ∃ i j, d = .int i ∧ e = .int j ∧ r = gd i j) := by
  rintro M H x y d e r Q _ rx ry ⟨i, j, rfl, rfl, rfl⟩ k
  exact ⟨i, j, rp_int rx, rp_int ry, k _ H (fun _ _ e => e) (hg i j).rp⟩
theorem wE_I {P : Int → Int → Prop} {g : Int → Int → V} (gd : Int → Int → D) (hg : ∀ i j, Sc (g i j) (gd i j)) (w : wE C ta y fun z y1 => wE C tb y1 fun z' y2 => ∃ i j, z = .d (.int i) ∧ z' = .d (.int j) ∧ P i j ∧ Q (.d (gd i j)) y2) : wE C (tOp (rI P g) ta tb) y Q :=
  wE_op (opD_I hg) (wE_mono w fun z y1 h => wE_mono h fun z' y2 ⟨i, j, e1, e2, c, q⟩ => ⟨_, _, _, e1, e2, ⟨i, j, rfl, rfl, c, rfl⟩, q⟩)
theorem wE_I0 {g : Int → Int → V} (gd : Int → Int → D) (hg : ∀ i j, Sc (g i j) (gd i j)) (w : wE C ta y fun z y1 => wE C tb y1 fun z' y2 => ∃ i j, z = .d (.int i) ∧ z' = .d (.int j) ∧ Q (.d (gd i j)) y2) : wE C (tOp (rI0 g) ta tb) y Q :=
  wE_op (opD_I0 hg) (wE_mono w fun z y1 h => wE_mono h fun z' y2 ⟨i, j, e1, e2, q⟩ => ⟨_, _, _, e1, e2, ⟨i, j, rfl, rfl, rfl⟩, q⟩)
theorem wE_add (w : wE C ta y fun z y1 => wE C tb y1 fun z' y2 => ∃ i j, z = .d (.int i) ∧ z' = .d (.int j) ∧ Q (.d (.int (i + j))) y2) : wE C (tOp (rI0 fun i j => .int (i + j)) ta tb) y Q := wE_I0 _ (fun _ _ => .int _) w
theorem wE_sub (w : wE C ta y fun z y1 => wE C tb y1 fun z' y2 => ∃ i j, z = .d (.int i) ∧ z' = .d (.int j) ∧ Q (.d (.int (i - j))) y2) : wE C (tOp (rI0 fun i j => .int (i - j)) ta tb) y Q := wE_I0 _ (fun _ _ => .int _) w
theorem wE_lt (w : wE C ta y fun z y1 => wE C tb y1 fun z' y2 => ∃ i j, z = .d (.int i) ∧ z' = .d (.int j) ∧ Q (.d (.bool (decide (i < j)))) y2) : wE C (tOp (rI0 fun i j => .bl (decide (i < j))) ta tb) y Q := wE_I0 (fun i j => .bool (decide (i < j))) (fun _ _ => .bl _) w
theorem wE_le (w : wE C ta y fun z y1 => wE C tb y1 fun z' y2 => ∃ i j, z = .d (.int i) ∧ z' = .d (.int j) ∧ Q (.d (.bool (decide (i ≤ j)))) y2) : wE C (tOp (rI0 fun i j => .bl (decide (i ≤ j))) ta tb) y Q := wE_I0 (fun i j => .bool (decide (i ≤ j))) (fun _ _ => .bl _) w
theorem wE_gt (w : wE C ta y fun z y1 => wE C tb y1 fun z' y2 => ∃ i j, z = .d (.int i) ∧ z' = .d (.int j) ∧ Q (.d (.bool (decide (j < i)))) y2) : wE C (tOp (rI0 fun i j => .bl (decide (j < i))) ta tb) y Q := wE_I0 (fun i j => .bool (decide (j < i))) (fun _ _ => .bl _) w
theorem wE_ge (w : wE C ta y fun z y1 => wE C tb y1 fun z' y2 => ∃ i j, z = .d (.int i) ∧ z' = .d (.int j) ∧ Q (.d (.bool (decide (j ≤ i)))) y2) : wE C (tOp (rI0 fun i j => .bl (decide (j ≤ i))) ta tb) y Q := wE_I0 (fun i j => .bool (decide (j ≤ i))) (fun _ _ => .bl _) w
theorem wE_mulW (w : wE C ta y fun z y1 => wE C tb y1 fun z' y2 => ∃ i j, z = .d (.int i) ∧ z' = .d (.int j) ∧ CMulW i j ∧ Q (.d (.int (i * j))) y2) : wE C (tOp (rI CMulW fun i j => .int (i * j)) ta tb) y Q := wE_I _ (fun _ _ => .int _) w
theorem wE_mul (w : wE C ta y fun z y1 => wE C tb y1 fun z' y2 => ∃ i j, z = .d (.int i) ∧ z' = .d (.int j) ∧ CMul i j ∧ Q (.d (.int (i * j))) y2) : wE C (tOp (rI CMul fun i j => .int (i * j)) ta tb) y Q := wE_I _ (fun _ _ => .int _) w
theorem wE_mod (w : wE C ta y fun z y1 => wE C tb y1 fun z' y2 => ∃ i j, z = .d (.int i) ∧ z' = .d (.int j) ∧ 0 < j ∧ Q (.d (.int (i % j))) y2) : wE C (tOp (rI (fun _ j => 0 < j) fun i j => .int (i % j)) ta tb) y Q := wE_I _ (fun _ _ => .int _) w
theorem wE_pow (w : wE C ta y fun z y1 => wE C tb y1 fun z' y2 => ∃ i j, z = .d (.int i) ∧ z' = .d (.int j) ∧ CPow i j ∧ Q (.d (.int (i ^ j.toNat))) y2) : wE C (tOp (rI CPow fun i j => .int (i ^ j.toNat)) ta tb) y Q := wE_I _ (fun _ _ => .int _) w
theorem wE_fdivW (w : wE C ta y fun z y1 => wE C tb y1 fun z' y2 => ∃ i j, z = .d (.int i) ∧ z' = .d (.int j) ∧ CDivW i j ∧ Q (.d (.int (i / j))) y2) : wE C (tOp (rI CDivW fun i j => .int (i / j)) ta tb) y Q := wE_I _ (fun _ _ => .int _) w
theorem wE_neg (w : wE C ta y fun z y1 => ∃ i, z = .d (.int i) ∧ Q (.d (.int (-i))) y1) : wE C (tUn (rU fun i => .int (-i)) ta) y Q := by
  intro F σ H K wd k
  refine w F σ H _ wd fun x H1 z y1 w1 g1 s1 r1 q1 => ?_
  obtain ⟨i, rfl, q⟩ := q1
  exact ⟨i, rp_int r1, k _ H1 (.d (.int (-i))) y1 w1 g1 s1 (.int _) q⟩
theorem wE_S0 {α : Type} {g : Str → Str → V} (gd : Str → Str → D) (hg : ∀ i j, Sc (g i j) (gd i j)) (w : wE C ta y fun z y1 => wE C tb y1 fun z' y2 => ∃ i j, z = .d (.str i) ∧ z' = .d (.str j) ∧ Q (.d (gd i j)) y2) : wE C (tOp (fun x y H Q => ∃ i j, x = .str i ∧ y = .str j ∧ Q (g i j) H) ta tb) y Q := by
  refine wE_op (res := fun d e r => ∃ i j, d = .str i ∧ e = .str j ∧ r = gd i j) ?_ (wE_mono w fun z y1 h => wE_mono h fun z' y2 ⟨i, j, e1, e2, q⟩ => ⟨_, _, _, e1, e2, ⟨i, j, rfl, rfl, rfl⟩, q⟩)
  rintro M H x y d e r Q _ rx ry ⟨i, j, rfl, rfl, rfl⟩ k
  exact ⟨i, j, rp_str rx, rp_str ry, k _ H (fun _ _ e => e) (hg i j).rp⟩
theorem wE_ltS (w : wE C ta y fun z y1 => wE C tb y1 fun z' y2 => ∃ i j, z = .d (.str i) ∧ z' = .d (.str j) ∧ Q (.d (.bool (decide (i.cps.toList < j.cps.toList)))) y2) :
    wE C (tOp (fun x y H Q => ∃ i j, x = .str i ∧ y = .str j ∧ Q (.bl (decide (i.cps.toList < j.cps.toList))) H) ta tb) y Q := wE_S0 (α := Unit) (fun i j => .bool (decide (i.cps.toList < j.cps.toList))) (fun _ _ => .bl _) w
theorem wE_leS (w : wE C ta y fun z y1 => wE C tb y1 fun z' y2 => ∃ i j, z = .d (.str i) ∧ z' = .d (.str j) ∧ Q (.d (.bool (!decide (j.cps.toList < i.cps.toList)))) y2) :
    wE C (tOp (fun x y H Q => ∃ i j, x = .str i ∧ y = .str j ∧ Q (.bl (!decide (j.cps.toList < i.cps.toList))) H) ta tb) y Q := wE_S0 (α := Unit) (fun i j => .bool (!decide (j.cps.toList < i.cps.toList))) (fun _ _ => .bl _) w
theorem wE_addS (w : wE C ta y fun z y1 => wE C tb y1 fun z' y2 => ∃ i j, z = .d (.str i) ∧ z' = .d (.str j) ∧ i.length + j.length ≤ sizeLine ∧ Q (.d (.str (i ++ j))) y2) :
    wE C (tOp (fun x y H Q => ∃ i j, x = .str i ∧ y = .str j ∧ i.length + j.length ≤ sizeLine ∧ Q (.str (i ++ j)) H) ta tb) y Q := by
  refine wE_op (res := fun d e r => ∃ i j, d = .str i ∧ e = .str j ∧ i.length + j.length ≤ sizeLine ∧ r = .str (i ++ j)) ?_ (wE_mono w fun z y1 h => wE_mono h fun z' y2 ⟨i, j, e1, e2, c, q⟩ => ⟨_, _, _, e1, e2, ⟨i, j, rfl, rfl, c, rfl⟩, q⟩)
  rintro M H x y d e r Q _ rx ry ⟨i, j, rfl, rfl, c, rfl⟩ k
  exact ⟨i, j, rp_str rx, rp_str ry, c, k _ H (fun _ _ e => e) (.str _)⟩
theorem wE_inSign (w : wE C ta y fun z y1 => wE C tb y1 fun z' y2 => ∃ (c : Nat) (j : Str), z = .d (.str ⟨#[c]⟩) ∧ z' = .d (.str j) ∧ Q (.d (.bool (decide (c ∈ j.cps.toList)))) y2) :
    wE C (tOp (fun x y H Q => ∃ (c : Nat) (z : Str), x = .str ⟨#[c]⟩ ∧ y = .str z ∧ Q (.bl (decide (c ∈ z.cps.toList))) H) ta tb) y Q := by
  refine wE_op (res := fun d e r => ∃ (c : Nat) (j : Str), d = .str ⟨#[c]⟩ ∧ e = .str j ∧ r = .bool (decide (c ∈ j.cps.toList))) ?_ (wE_mono w fun z y1 h => wE_mono h fun z' y2 ⟨i, j, e1, e2, q⟩ => ⟨_, _, _, e1, e2, ⟨i, j, rfl, rfl, rfl⟩, q⟩)
  rintro M H x y d e r Q _ rx ry ⟨i, j, rfl, rfl, rfl⟩ k
  exact ⟨i, j, rp_str rx, rp_str ry, k _ H (fun _ _ e => e) (.bl _)⟩
/-- data without dicts, for == -/
theorem Rp.dp {K : Fg} {M : Addr → Prop} {H : Hp} {v : V} {d : D} (r : Rp K M H v d) : d.hasDict = false → Dp K H v d :=
  Rp.rec (motive_1 := fun v d _ => d.hasDict = false → Dp K H v d) (motive_2 := fun vs ds _ => PyData.hasDictAll ds = false → DpAll K H vs ds) (motive_3 := fun _ _ _ => True)
    (fun _ => .non) (fun b _ => .bl b) (fun b _ => .int b) (fun b _ => .str b)
    (fun h _ i e => .lst h.sq (i (by simpa only [PyData.hasDict] using e))) (fun h _ i e => .tup h.sq (i (by simpa only [PyData.hasDict] using e)))
    (fun _ _ _ _ e => by simp [PyData.hasDict] at e)
    (fun _ => .nil) (fun _ _ a b e => by
      simp only [PyData.hasDictAll, Bool.or_eq_false_iff] at e
      exact .cons (a e.1) (b e.2)) trivial (fun _ _ _ _ => trivial) r
/-- what == may be asked of -/
def eqOk (d : D) : Bool := SeqAt.shaped d
theorem canLay_noDict {d : D} (h : SeqAt.shaped d = true) : d.hasDict = false := PyData.hasDict_of_canLay d (SeqAt.canLay_of_shaped h)
theorem wE_eqD (w : wE C ta y fun z y1 => wE C tb y1 fun z' y2 => ∃ d e, z = .d d ∧ z' = .d e ∧ SeqAt.shaped d = true ∧ SeqAt.shaped e = true ∧ Q (.d (.bool (PyData.eqv d e))) y2) : wE C (tOp (rEqD C.K) ta tb) y Q := by
  refine wE_op (res := fun d e r => SeqAt.shaped d = true ∧ SeqAt.shaped e = true ∧ r = .bool (PyData.eqv d e)) ?_ (wE_mono w fun z y1 h => wE_mono h fun z' y2 ⟨d, e, e1, e2, s1, s2, q⟩ => ⟨_, _, _, e1, e2, ⟨s1, s2, rfl⟩, q⟩)
  rintro M H x y d e r Q _ rx ry ⟨s1, s2, rfl⟩ k
  exact ⟨d, e, rx.dp (canLay_noDict s1), ry.dp (canLay_noDict s2), s1, s2, k _ H (fun _ _ e => e) (.bl _)⟩
theorem wE_neD (w : wE C ta y fun z y1 => wE C tb y1 fun z' y2 => ∃ d e, z = .d d ∧ z' = .d e ∧ SeqAt.shaped d = true ∧ SeqAt.shaped e = true ∧ Q (.d (.bool (!PyData.eqv d e))) y2) : wE C (tOp (rNeD C.K) ta tb) y Q := by
  refine wE_op (res := fun d e r => SeqAt.shaped d = true ∧ SeqAt.shaped e = true ∧ r = .bool (!PyData.eqv d e)) ?_ (wE_mono w fun z y1 h => wE_mono h fun z' y2 ⟨d, e, e1, e2, s1, s2, q⟩ => ⟨_, _, _, e1, e2, ⟨s1, s2, rfl⟩, q⟩)
  rintro M H x y d e r Q _ rx ry ⟨s1, s2, rfl⟩ k
  exact ⟨d, e, rx.dp (canLay_noDict s1), ry.dp (canLay_noDict s2), s1, s2, k _ H (fun _ _ e => e) (.bl _)⟩
theorem wE_isN (w : wE C ta y fun z y1 => wE C tb y1 fun z' y2 => ∃ d, z = .d d ∧ z' = .d .none ∧ Q (.d (.bool (match d with | .none => true | _ => false))) y2) :
    wE C (tOp (fun x y H Q => y = .non ∧ Q (.bl (decide (x = .non))) H) ta tb) y Q := by
  refine wE_op (res := fun d e r => e = .none ∧ r = .bool (match d with | .none => true | _ => false)) ?_ (wE_mono w fun z y1 h => wE_mono h fun z' y2 ⟨d, e1, e2, q⟩ => ⟨_, _, _, e1, e2, ⟨rfl, rfl⟩, q⟩)
  rintro M H x y d e r Q _ rx ry ⟨rfl, rfl⟩ k
  refine ⟨rp_non ry, k _ H (fun _ _ e => e) ?_⟩
  cases rx <;> exact .bl _
theorem wE_notN (w : wE C ta y fun z y1 => wE C tb y1 fun z' y2 => ∃ d, z = .d d ∧ z' = .d .none ∧ Q (.d (.bool (match d with | .none => false | _ => true))) y2) :
    wE C (tOp (fun x y H Q => y = .non ∧ Q (.bl (!decide (x = .non))) H) ta tb) y Q := by
  refine wE_op (res := fun d e r => e = .none ∧ r = .bool (match d with | .none => false | _ => true)) ?_ (wE_mono w fun z y1 h => wE_mono h fun z' y2 ⟨d, e1, e2, q⟩ => ⟨_, _, _, e1, e2, ⟨rfl, rfl⟩, q⟩)
  rintro M H x y d e r Q _ rx ry ⟨rfl, rfl⟩ k
  refine ⟨rp_non ry, k _ H (fun _ _ e => e) ?_⟩
  cases rx <;> exact .bl _
/-! items -/
def dIx (d : D) (i : Int) : Option D := match d with
  | .list xs => atI xs i
  | .tuple xs => atI xs i
  | .str z => if z.length ≤ sizeLine then (atI z.cps.toList i).map fun c => .str ⟨#[c]⟩ else none
  | _ => none
theorem atI_rp {K : Fg} {M : Addr → Prop} {H : Hp} {vs : List V} {ds : List D} {i : Int} {d : D} (r : RpA K M H vs ds) (h : atI ds i = some d) : ∃ v, atI vs i = some v ∧ Rp K M H v d := by
  unfold atI at h ⊢
  rw [r.len]
  cases e : ixN ds.length i with
  | none => rw [e] at h; cases h
  | some j =>
    rw [e] at h
    exact r.get (i := j) h
theorem wE_ix (w : wE C ta y fun z y1 => wE C tb y1 fun z' y2 => ∃ d i g, z = .d d ∧ z' = .d (.int i) ∧ dIx d i = some g ∧ Q (.d g) y2) : wE C (tOp (rIx C.K) ta tb) y Q := by
  refine wE_op (res := fun d e r => ∃ i, e = .int i ∧ dIx d i = some r) ?_ (wE_mono w fun z y1 h => wE_mono h fun z' y2 ⟨d, i, g, e1, e2, s, q⟩ => ⟨_, _, _, e1, e2, ⟨i, rfl, s⟩, q⟩)
  rintro M H x y d e r Q _ rx ry ⟨i, rfl, h⟩ k
  have ey := rp_int ry
  cases rx with
  | non => cases h
  | bl b => cases h
  | int b => cases h
  | dic _ _ _ => cases h
  | str z =>
    simp only [dIx] at h
    by_cases hz : z.length ≤ sizeLine
    · rw [if_pos hz] at h
      cases q : atI z.cps.toList i with
      | none => rw [q] at h; cases h
      | some c =>
        rw [q] at h; cases h
        exact .inr (.inr ⟨z, i, c, rfl, ey, hz, q, k _ H (fun _ _ e => e) (.str _)⟩)
    · rw [if_neg hz] at h; cases h
  | lst h1 h2 =>
    obtain ⟨v, e, rv⟩ := atI_rp h2 h
    exact .inl ⟨_, _, i, v, rfl, ey, h1.sq, e, k _ H (fun _ _ e => e) rv⟩
  | tup h1 h2 =>
    obtain ⟨v, e, rv⟩ := atI_rp h2 h
    exact .inr (.inl ⟨_, _, i, v, rfl, ey, h1.sq, e, k _ H (fun _ _ e => e) rv⟩)
end
end Tq
set_option maxRecDepth 100000
set_option maxHeartbeats 2000000
namespace Tq
open PySem PySem.Spec PyProof.Rows L2
/-! ### further operators over HandS -/
section
variable {X : Cx}
/-- list + list, whatever the lists are -/
def rCatG (K : Fg) : R2 := fun x y H Q => ∃ l b xs zs, x = .ref l ∧ y = .ref b ∧ SqL K H l xs ∧ SqL K H b zs ∧ xs.length + zs.length ≤ sizeLine ∧ ∀ p, H p = none → Q (.ref p) (upd H p (.lst (xs ++ zs)))
theorem op_catG : OpR X (binaryOp .Add) (rCatG X.K) := by
  intro pins s σ H x y v u Q I rx ry h
  obtain ⟨l, b, xs, zs, rfl, rfl, hl, hb, hz, q⟩ := h
  cases rx
  cases ry
  obtain ⟨i1, r1, p1, z1⟩ := I.list hl
  obtain ⟨i2, r2, p2, z2⟩ := I.list hb
  obtain ⟨⟨c1, d1, t1, s1⟩, ho1, hc1, n1, hd1⟩ := p1.isList
  obtain ⟨⟨c2, d2, t2, s2⟩, ho2, hc2, n2, hd2⟩ := p2.isList
  simp only at hc1 hd1 hc2 hd2
  subst hc1 hd1 hc2 hd2
  have l1 := r1.length
  have l2 := r2.length
  refine concat_meets ⟨_, ho1, rfl⟩ ⟨_, ho2, rfl⟩ noFill_list_add seq_list_add PySem.F.slot_list_add PySem.F.entry_list_add (PySem.F.args_list_add_2 _ _)
    (list_addW l b i1.toArray i2.toArray n1 n2 d1 d2 s1 s2 (by rw [List.size_toArray, List.size_toArray]; omega)) ⟨ho1, ho2, ?_⟩
  have ea : i1.toArray ++ i2.toArray = (i1 ++ i2).toArray := by simp
  rw [ea]
  exact ⟨.ref _, _, I.lnew (t' := s.toks) (r1.append r2) (by rw [List.length_append]; omega), rfl, q _ I.fresh⟩
/-- // by any number but nought, below 2 ^ 9000 in size -/
def CDivZ (_ j : Int) : Prop := j ≠ 0 ∧ j.natAbs.log2 < 9000
theorem op_fdivZ : OpR X (binaryOp .FloorDiv) (rI CDivZ fun i j => .int (i.fdiv j)) := opI fun i j _ _ _ _ _ hc q => floordiv_int hc.1 q (.inl (PyProof.noPylong_of_log2 hc.2))
end
/-! ### repr -/
def scD : D → Bool
  | .none | .bool _ | .int _ | .str _ => true
  | _ => false
/-- no dict but at the top, and there with plain values -/
def dsm (d : D) : Bool := match d with
  | .dict kvs => kvs.all fun kv => scD kv.2
  | d => !d.hasDict
abbrev M0 : Addr → Prop := fun _ => False
theorem Rp.any {K : Fg} {M : Addr → Prop} {H : Hp} {v : V} {d : D} (r : Rp K M H v d) : Rp K M0 H v d := r.go fun a o _ e => ⟨fun z => z, e⟩
section
variable {X : Cx} {pins : List (Addr × Obj)} {σ : St} {H : Hp} {s : Shared}
theorem rpk_reads : ∀ {kvs : List (Key × V)} {ds : List (D × D)} {vs : List (Key × Value)} {es : List DictEntry}, RpK X.K M0 H kvs ds → ds.all (fun kv => scD kv.2) = true → KV kvs vs → Pairs (mixKind X.prog X.w) es vs →
    ReadsAll s.heap (es.map (·.key)) (ds.map (·.1)) [] ∧ ReadsAll s.heap (es.map (·.val)) (ds.map (·.2)) []
  | _, _, _, _, .nil, _, kv, pr => by
    cases kv
    cases pr
    exact ⟨.nil, .nil⟩
  | _, _, _, _, @RpK.cons _ _ _ k v d _ _ a b, hs, kv, pr => by
    cases kv with
    | @cons _ kw _ _ r1 r2 =>
      cases pr with
      | @cons e _ es _ p1 p2 p3 =>
        rw [List.all_cons, Bool.and_eq_true] at hs
        obtain ⟨q1, q2⟩ := rpk_reads b hs.2 r2 p3
        have e1 : k = kw.1 := r1.1
        have rv : RelV v kw.2 := r1.2
        constructor
        · have rk : Reads s.heap e.key (kD k) [] := by
            rw [← e1, mixKind_is] at p1
            rcases keyIs_shape p1 with ⟨i, t, z1, z2⟩ | ⟨x, t, z1, z2⟩
            · rw [z1, z2]; exact .int i t
            · rw [z1, z2]; exact .str x t
          exact ReadsAll.cons (as := []) (bs := []) rk q1
        · have rw' : Reads s.heap e.val d [] := by
            rw [p2]
            cases a with
            | non => rw [show kw.2 = Value.none from rv]; exact .none
            | bl b => rw [show kw.2 = Value.bool b from rv]; exact .bool b
            | int b => obtain ⟨t, z⟩ := (show ∃ t, kw.2 = Value.int b t from rv); rw [z]; exact .int b t
            | str b => obtain ⟨t, z⟩ := (show ∃ t, kw.2 = Value.str b t from rv); rw [z]; exact .str b t
            | lst _ _ => cases hs.1
            | tup _ _ => cases hs.1
            | dic _ _ _ => cases hs.1
          exact ReadsAll.cons (as := []) (bs := []) rw' q2
theorem Rp.reads (I : Inv X pins σ H s) {v : V} {u : Value} {d : D} (r : Rp X.K M0 H v d) (rv : RelV v u) (hs : dsm d = true) : ∃ as, Reads s.heap u d as ∧ (d.hasDict = true → sysModules ∉ as) := by
  by_cases hd : d.hasDict = false
  · obtain ⟨as, q⟩ := Dp.reads I d v u (r.dp hd) rv
    exact ⟨as, q, fun z => by rw [hd] at z; cases z⟩
  · cases r with
    | non => exact absurd rfl hd
    | bl _ => exact absurd rfl hd
    | int _ => exact absurd rfl hd
    | str _ => exact absurd rfl hd
    | lst _ _ => simp only [dsm, Bool.not_eq_true'] at hs; exact absurd hs hd
    | tup _ _ => simp only [dsm, Bool.not_eq_true'] at hs; exact absurd hs hd
    | @dic a kvs ds _ h k =>
      cases (show u = Value.ref a from rv)
      obtain ⟨_, nsm, vs, kv, o, es, ep, ho, ex, hdt, _, pr, _⟩ := (show ObjOk X.prog X.w H s.heap a (.dK kvs) from I.hok a _ h)
      obtain ⟨q1, q2⟩ := rpk_reads (X := X) (s := s) k hs kv pr
      refine ⟨_, Reads.dict (as := []) (bs := []) ho ex.1 hdt q1 q2, fun _ z => ?_⟩
      have z' : sysModules = a := by simpa using z
      rw [z'] at nsm
      simp at nsm
def rRepr (K : Fg) : List V → Hp → VK → Prop := fun xs H Q => ∃ x d, xs = [x] ∧ Rp K M0 H x d ∧ dsm d = true ∧ d.showable = true ∧ d.depth ≤ 60 ∧ d.shown.length ≤ sizeLine ∧ Q (.str d.shown) H
theorem call_reprD (hg : X.A.guards = some []) (hu : X.A.units + 64 < cLine) : CallR X (.builtin "repr") (rRepr X.K) := by
  intro pins s σ H xs us Q I r h
  obtain ⟨x, d, rfl, rx, hm, hs, hd, hz, q⟩ := h
  obtain ⟨u, rfl, rv⟩ := vals1 r
  obtain ⟨as, rd, hsm⟩ := rx.reads I rv hm
  have fin : ∀ tk t h', (∀ b o, s.heap.get? b = some o → h'.get? b = some o) → EP X pins σ Q (.str d.shown t) { s with heap := h', toks := tk } := fun tk t h' k => ⟨.str d.shown, H, I.kept (t' := tk) k, ⟨t, rfl⟩, q⟩
  cases rx with
  | non =>
    cases (show u = Value.none from rv)
    exact PySem.P.repr_of_none (by have := fin (s.toks + 1) s.toks s.heap (fun _ _ e => e); simpa only [PyData.shown] using this)
  | bl b =>
    cases (show u = Value.bool b from rv)
    exact PySem.P.repr_of_bool (by have := fin (s.toks + 1) s.toks s.heap (fun _ _ e => e); simpa only [PyData.shown] using this)
  | int b =>
    obtain ⟨t, e⟩ := (show ∃ t, u = Value.int b t from rv)
    cases e
    exact PySem.P.repr_of_int (by simpa only [PyData.showable, decide_eq_true_eq] using hs) (by have := fin (s.toks + 1) s.toks s.heap (fun _ _ e => e); simpa only [PyData.shown] using this)
  | str b =>
    obtain ⟨t, e⟩ := (show ∃ t, u = Value.str b t from rv)
    cases e
    exact PySem.P.repr_of_str (by have := fin (s.toks + 1) s.toks s.heap (fun _ _ e => e); simpa only [PyData.shown] using this) (by simpa only [PyData.shown] using hz)
  | @lst a _ _ _ _ =>
    cases (show u = Value.ref a from rv)
    exact repr_of_reads' rd hs hsm hg (by omega) (fun _ _ e => e) (fun h' t tk k => fin tk t h' k) hz
  | @tup a _ _ _ _ =>
    cases (show u = Value.ref a from rv)
    exact repr_of_reads' rd hs hsm hg (by omega) (fun _ _ e => e) (fun h' t tk k => fin tk t h' k) hz
  | @dic a _ _ _ _ _ =>
    cases (show u = Value.ref a from rv)
    exact repr_of_reads' rd hs hsm hg (by omega) (fun _ _ e => e) (fun h' t tk k => fin tk t h' k) hz
end
/-! ### promises where nothing is being shown: as FnOk, with the guards told -/
structure FnG (P : Program) (w : World) (K : Fg) (mg : Str → Option Value) (base : Heap) (CX : CXT) (k : Nat) (f : Addr) (fd : FuncData) (ps : List Str) (sp : Sp) : Prop where
  len : ∀ vs H Q E, sp vs H Q E → vs.length = ps.length
  run : ∀ (A : Around) (outer : List Env) (s : Shared) (H : Hp) (args : Args) (us : List Value) (vs : List V) (Q : VK) (E : XK), Room k A → A.guards = some [] →
    Env0 P w K mg base A outer s H → BindsTo s fd args (ps.zip us) → Vals vs us → sp vs H Q E → codeAny (model P w) A (.call (.ref f) args) (CR CX outer P w H s Q E) s
theorem FnG.of {P : Program} {w : World} {K : Fg} {mg : Str → Option Value} {base : Heap} {CX : CXT} {k : Nat} {f : Addr} {fd : FuncData} {ps : List Str} {sp : Sp} (F : FnOk P w K mg base CX k f fd ps sp) :
    FnG P w K mg base CX k f fd ps sp := ⟨F.len, fun A outer s H args us vs Q E hr _ => F.run A outer s H args us vs Q E hr⟩
theorem FnG.mono {P : Program} {w : World} {K : Fg} {mg : Str → Option Value} {base : Heap} {CX : CXT} {j k : Nat} {f : Addr} {fd : FuncData} {ps : List Str} {sp : Sp} (F : FnG P w K mg base CX j f fd ps sp) (h : j ≤ k) :
    FnG P w K mg base CX k f fd ps sp := ⟨F.len, fun A outer s H args us vs Q E hr => F.run A outer s H args us vs Q E (hr.mono h)⟩
section
variable {X : Cx} {CX : CXT} {k : Nat} {f : Addr} {fd : FuncData} {ps : List Str} {sp : Sp} {dvs : List V} {ds : List Value} {E : XK} {x : Str} {p pos : Pos} {e : Expr} {es : List Expr} {t : TA}
theorem run_fnG {pins : List (Addr × Obj)} {σ : St} {H : Hp} {s : Shared} {Q : VK} {us : List Value} {vs : List V} (F : FnG X.prog X.w X.K X.mg X.base CX k f fd ps sp) (hr : Room k X.A) (hg : X.A.guards = some []) (hb : Binds X.K fd ps ds) (hd : Vals dvs ds)
    (hx : Passes CX X E) (I : Inv X pins σ H s) (r : Vals vs us) (h : sp (vs ++ dvs) H Q E) : wpAny (model X.prog X.w) X.A (call (.ref f) us) (EP X pins σ Q) X.xe s := by
  have r2 : Vals (vs ++ dvs) (us ++ ds) := r.append hd
  have hl : (us ++ ds).length = ps.length := by
    rw [← r2.length]
    exact F.len _ _ _ _ h
  refine wpAny_call (codeAny_mono (F.run X.A X.stack s H ⟨us, []⟩ (us ++ ds) (vs ++ dvs) Q E hr hg I.env0 (hb s us I.kIn hl) r2 h) fun res s2 hq => ?_)
  cases res with
  | error ev => exact hx pins σ H s ev s2 I hq
  | ok fl =>
    cases fl
    case ret u => exact I.after hq
    all_goals exact False.elim hq
theorem pe_callG (F : FnG X.prog X.w X.K X.mg X.base CX k f fd ps sp) (hr : Room k X.A) (hgu : X.A.guards = some []) (hg : Gl X x) (hm : X.mg x = some (.ref f)) (hk : PySem.W.keepIn X.K (.ref f) = true) (hb : Binds X.K fd ps ds) (hd : Vals dvs ds)
    (hx : Passes CX X E) (ha : PA X (e :: es) t) (hdb : (x == ("__debug__" : Str)) = false := by decide)
    (he : starEach (e :: es) X.env = (false, eval e X.env) :: starEach es X.env := by rfl)
    (hpl : (backTo pos (starEach es X.env)).any (·.1) = false := by rfl) : PE X (.Call (.Name x p) (e :: es) [] pos) (tCall sp dvs E t) := by
  constructor
  intro pins s σ H Q I h
  refine wpAny_Call_Name_kw (ld_glob I hg hm ?_ hdb)
  refine PySem.W.callWith_K (h₀ := X.base) I.ok.mod.kin hk (thn (ha.run pos pins s σ H _ I h) fun us s1 ⟨vs, H1, I1, r, q⟩ => ⟨I1.kIn, ?_⟩) he hpl
  exact run_fnG F hr hgu hb hd hx I1 r q
end
theorem fn_ofG {CX : CXT} {P : Program} {w : World} {K : Fg} {mg : Str → Option Value} {base : Heap} {k : Nat} {f : Addr} {name qual : Str} {params : Arguments} {body : List Stmt} {scope : Scope} {dV kV doc pm cdv ct oc : Value} {an od : Option Addr}
    {osl : Array (Option Value)} {N ps : List Str} {sp : Sp} (lk : K.lookup f = some ⟨oc, od, .func (PySem.W.fnOf name qual params body scope dV kV doc pm an cdv ct), osl⟩) (hcd : PySem.W.codeIn K cdv qual = true) (Sc : FnScope N ps scope)
    (len : ∀ vs H Q E, sp vs H Q E → vs.length = ps.length)
    (hbody : ∀ (A : Around) (outer : List Env) (s : Shared) (H : Hp) (vs : List V) (Q : VK) (E : XK), Room k (A.deeper (envOfC qual scope s.heap.objs.size f cdv)) → (A.deeper (envOfC qual scope s.heap.objs.size f cdv)).guards = some [] → sp vs H Q E →
      ∃ t, PSs (cxOf CX P w K mg base N qual scope f cdv A outer s H E) body t ∧ t { nx := fun _ H' => Q .non H', rt := Q } (start N vs) H) :
    FnG P w K mg base CX (k + 1) f (PySem.W.fnOf name qual params body scope dV kV doc pm an cdv ct) ps sp := by
  refine ⟨len, fun A outer s H args us vs Q E hr hgu e0 hb r hsp => ?_⟩
  have hl := len _ _ _ _ hsp
  have kpd : ∀ b o, base.get? b = some o → s.heap.get? b = some o := fun b o e => (e0.bs b o e).1
  have KX : K.In s.heap := e0.mod.kin.keeps kpd
  have lim : s.heap.NoLimit := e0.mod.nolimit.keeps kpd
  have hkind : ∀ z ∈ ps.zip us, scope.names.lookup z.1 = some .local ∨ (scope.names.lookup z.1 = some .cell ∧ ((cellsFrom (s.heap.objs.size + 1) scope.names []).lookup z.1).isSome = true) := by
    rintro ⟨n, v⟩ hz
    rcases Sc.par n (List.of_mem_zip hz).1 with q | q
    · exact .inl q
    · exact .inr ⟨q, PySem.W.cellsFrom_some _ _ _ (.inl q)⟩
  refine codeAny_call_function hr.depth (KX _ _ lk) rfl Sc.co Sc.gen rfl (PySem.W.codeRec_of KX hcd) (hb _ _ _ _ ?_)
  refine wpAny_newFunctionEnv_cells Sc.kind hkind fun env he s1 x => ?_
  subst he
  refine ⟨lim.keeps x.toInCall.keep, codeAny_func ?_⟩
  obtain ⟨t, ht, hq⟩ := hbody A outer s H vs Q E (hr.deeper _) hgu hsp
  have I : Inv (cxOf CX P w K mg base N qual scope f cdv A outer s H E) [] (start N vs) H s1 := inv_start Sc hr.hd e0 hl r x
  refine wpAny_mono (ht.run [] s1 (start N vs) H _ I hq) (fun fl s2 hs => ?_) fun ev s2 hs => hs
  cases fl with
  | ret u =>
    obtain ⟨v, τ, G, J, rv, q⟩ := hs
    exact ⟨v, G, J.os, J.bare, J.base, J.hok, rv, q⟩
  | next =>
    obtain ⟨τ, G, J, q⟩ := hs
    exact ⟨V.non, G, J.os, J.bare, J.base, J.hok, rfl, q⟩
  | brk =>
    obtain ⟨_, _, _, q⟩ := hs
    exact False.elim q
  | cont =>
    obtain ⟨_, _, _, q⟩ := hs
    exact False.elim q
theorem okG {P : Program} {w : World} {K : Fg} {mg : Str → Option Value} {base : Heap} {x qual : Str} {st : Stmt} {f : Addr} {fd : FuncData} {N ps : List Str} {k : Nat} {sp : Sp} (F : Fun K x qual st f fd) (Sc : FnScope N ps (defScope st))
    (len : ∀ vs H Q E, sp vs H Q E → vs.length = ps.length)
    (hbody : ∀ (cdv : Value) (A : Around) (outer : List Env) (s : Shared) (H : Hp) (vs : List V) (Q : VK) (E : XK), Room k (A.deeper (envOfC qual (defScope st) s.heap.objs.size f cdv)) →
      (A.deeper (envOfC qual (defScope st) s.heap.objs.size f cdv)).guards = some [] → sp vs H Q E →
      ∃ t, PSs (cxOf CX0 P w K mg base N qual (defScope st) f cdv A outer s H E).nox (defBody st) t ∧ t { nx := fun _ G => Q .non G, rt := Q } (start N vs) H) : FnG P w K mg base CX0 (k + 1) f fd ps sp := by
  obtain ⟨oc, od, kV, doc, pm, an, cdv, ct, osl, rfl, lk, hcd⟩ := F.ex
  refine fn_ofG lk hcd Sc len fun A outer s H vs Q E hr hgu hsp => ?_
  obtain ⟨t, h, q⟩ := hbody cdv A outer s H vs Q E hr hgu hsp
  exact ⟨t, h.nox, q⟩
end Tq
set_option maxRecDepth 100000
set_option maxHeartbeats 2000000
namespace Tq
open PySem PySem.Spec PyProof.Rows L2
/-- what the law's call is to show -/
abbrev LawEnd (s₁ : Shared) : Result → Shared → Prop := fun r s' => r = .ok (.ret (.bool true)) ∧ OldK s₁.heap s'.heap ∧ s'.os = s₁.os ∧ AllBare s'.gens
section
variable {P : Program} {w : World} {K : Fg} {mg mb : Str → Option Value} {CX : CXT} {k : Nat} {fa a : Addr} {fd : FuncData} {x : Str} {sp : Sp} {s₁ : Shared} {vs : List Value} {ns : List Int}
theorem law_coreG (KX : K.In s₁.heap) (hns : s₁.heap.Ns mainGlobals mg) (hb : s₁.heap.Ns builtinsNs mb) (hbb : ∀ x : Str, x ≠ "__name__" → mb x = bootBuiltins x) (hlim : s₁.heap.NoLimit) (hg : s₁.gens = #[])
    (ha : s₁.heap.get? a = some { cls := .type "list", data := .seq vs.toArray }) (hr : Room k callerA)
    (F : ∀ base : Heap, K.In base → base.Ns mainGlobals mg → FnG P w K mg base CX k fa fd [x] sp) (hbind : ∀ (s : Shared) (u : Value), BindsTo s fd ⟨[u], []⟩ [(x, u)])
    (hCX : ∀ H e s', CX [] H s₁ (fun _ _ _ => False) e s' → False)
    (H : Hp) (hsp : sp [.ref a] H (fun v _ => v = .bl true) fun _ _ _ => False) (hO : Only H) (hok : HOk P w H s₁.heap) (hA : ∀ b, H b ≠ none → b = a) (hK : H a ≠ none → K.lookup a = none) :
    codeAny (model P w) callerA (.call (.ref fa) ⟨[.ref a], []⟩) (LawEnd s₁) s₁ := by
  have isA : ∀ {b : Addr} {u : HO}, H b = some u → b = a := fun {b u} q => hA b (by rw [q]; simp)
  have noA : ∀ {b : Addr} {o : Obj} {es : Array DictEntry} {ep : Nat}, s₁.heap.get? b = some o → o.data = .dict es ep → H b = none := by
    intro b o es ep e d
    cases q : H b with
    | none => rfl
    | some u =>
      rw [isA q, ha] at e
      cases e
      cases (show Data.seq vs.toArray _ = Data.dict es ep from d)
  have nsK : ∀ {b : Addr} {m : Str → Option Value}, s₁.heap.Ns b m → (hidT s₁.heap H).Ns b m := fun {b m} ⟨o, es, ep, e, d, r⟩ => ⟨o, es, ep, hidT_get e (noA e d), d, r⟩
  have hKb : K.In (hidT s₁.heap H) := by
    intro b o e
    refine hidT_get (KX b o e) ?_
    cases q : H b with
    | none => rfl
    | some u =>
      have eb := isA q
      subst eb
      rw [hK (by rw [q]; simp)] at e
      cases e
  obtain ⟨mc, lim1, lim2⟩ := hlim
  have hM : Mod K mg (hidT s₁.heap H) := ⟨hKb, nsK hns, ⟨mb, nsK hb, hbb⟩, ⟨mc, nsK lim1, lim2⟩⟩
  have e0 : Env0 P w K mg (hidT s₁.heap H) callerA [] s₁ H :=
    ⟨rfl, hM, fun b o e => of_hidT e, Nat.le_of_eq (hidT_size _ _), trivial, fun b hb => absurd (show b ∈ ([] : List Addr) from hb) (by simp), hok, .of_eq hg⟩
  refine codeAny_mono ((F _ hKb (nsK hns)).run callerA [] s₁ H ⟨[.ref a], []⟩ [.ref a] [.ref a] _ _ hr rfl e0 (hbind s₁ (.ref a)) (.cons rfl .nil) hsp) fun r s' h => ?_
  cases r with
  | error e => exact (hCX H e s' h).elim
  | ok fl =>
    cases fl
    case ret u =>
      obtain ⟨v, G, os, bare, un, hok', r', q⟩ := h
      cases (show v = .bl true from q)
      cases (show u = Value.bool true from r')
      refine ⟨rfl, OldK.of_keep fun b o e => ?_, os, bare⟩
      rcases hO b with z | ⟨ob, xs, z⟩
      · exact un.keep b o e z (by intro zz; exact absurd (show b ∈ ([] : List Addr) from zz) (by simp)) (by simp)
      · obtain ⟨e1, _⟩ := hok b _ z
        obtain ⟨e2, _⟩ := hok' b _ (un.frzs b ob _ z)
        rw [e] at e1
        cases e1
        exact e2
    all_goals exact False.elim h
/-- the law's promise at the heap behind the top, the guards told -/
theorem law_callG (KX : K.In s₁.heap) (hns : s₁.heap.Ns mainGlobals mg) (hb : s₁.heap.Ns builtinsNs mb) (hbb : ∀ x : Str, x ≠ "__name__" → mb x = bootBuiltins x) (hlim : s₁.heap.NoLimit) (hg : s₁.gens = #[])
    (ha : s₁.heap.get? a = some { cls := .type "list", data := .seq vs.toArray }) (hi : IntsAre vs ns) (hl : ns.length ≤ sizeLine) (hr : Room k callerA)
    (F : ∀ base : Heap, K.In base → base.Ns mainGlobals mg → FnG P w K mg base CX k fa fd [x] sp) (hbind : ∀ (s : Shared) (u : Value), BindsTo s fd ⟨[u], []⟩ [(x, u)])
    (hsp : ∀ H : Hp, Only H → SqL K H a (ns.map V.int) → sp [.ref a] H (fun v _ => v = .bl true) fun _ _ _ => False)
    (hCX : ∀ H e s', CX [] H s₁ (fun _ _ _ => False) e s' → False) :
    codeAny (model P w) callerA (.call (.ref fa) ⟨[.ref a], []⟩) (LawEnd s₁) s₁ := by
  have rv := vals_ints hi
  cases hk : K.lookup a with
  | some o =>
    have e := KX a o hk
    rw [ha] at e
    cases e
    have hO : Only (fun _ => none) := fun _ => .inl rfl
    refine law_coreG KX hns hb hbb hlim hg ha hr F hbind hCX (fun _ => none) (hsp _ hO ?_) hO (fun b u z => by cases z) (fun b z => absurd rfl z) fun z => absurd rfl z
    refine .inr ⟨_, vs.toArray, _, hk, rfl, rfl, rfl, ?_, by simpa using rv⟩
    rw [List.size_toArray, hi.length]
    exact hl
  | none =>
    have ob : (({ cls := .type "list", data := .seq vs.toArray } : Obj)) = { cls := .type "list", data := .seq vs.toArray } := rfl
    generalize hH : (fun b : Addr => if b = a then some (HO.frz { cls := .type "list", data := .seq vs.toArray } (.lst (ns.map V.int))) else none) = H
    have at1 : H a = some (HO.frz { cls := .type "list", data := .seq vs.toArray } (.lst (ns.map V.int))) := by rw [← hH]; exact if_pos rfl
    have at2 : ∀ b, b ≠ a → H b = none := fun b hb => by rw [← hH]; exact if_neg hb
    have hO : Only H := fun b => by
      by_cases hb : b = a
      · subst hb; exact .inr ⟨_, _, at1⟩
      · exact .inl (at2 b hb)
    refine law_coreG KX hns hb hbb hlim hg ha hr F hbind hCX H (hsp _ hO (.inl (.inr ⟨_, at1⟩))) hO (fun b u z => ?_) (fun b z => ?_) fun _ => hk
    · by_cases hb : b = a
      · subst hb
        rw [at1] at z
        cases z
        exact ⟨ha, by rw [List.length_map]; exact hl, vs, _, rv, ha⟩
      · rw [at2 b hb] at z; cases z
    · by_cases hb : b = a
      · exact hb
      · exact absurd (at2 b hb) z
end
theorem walk_ofG {l : PySem.W.OpenLaw} {n k : Nat} {q : Program} {loose : List Str} {XP : (Str → Option Value) → Heap → Prop} {YP : World → Heap → Prop} {d : DefRec} {K : Params → Fg} {sp : Fg → Sp} {x : Str}
    (hn : l.most = some n) (hn2 : n ≤ sizeLine) (hdf : d.params.defaults = []) (hr : Room k callerA)
    (hY : ∀ (w : World) (h : Heap), YP w h → (K w.params).In h)
    (F : ∀ (w : World) (mg : Str → Option Value) (fa : Addr) (h : Heap), (K w.params).In h → h.Ns mainGlobals mg → mg d.name = some (.ref fa) →
      ∃ fd : FuncData, (∀ (s : Shared) (u : Value), BindsTo s fd ⟨[u], []⟩ [(x, u)]) ∧
        ∀ base : Heap, (K w.params).In base → base.Ns mainGlobals mg → FnG l.prog w (K w.params) mg base CX0 k fa fd [x] (sp (K w.params)))
    (hsp : ∀ (K : Fg) (H : Hp) (a : Addr) (ns : List Int), ns.length ≤ n → Only H → SqL K H a (ns.map V.int) → sp K [.ref a] H (fun v _ => v = .bl true) fun _ _ _ => False) :
    PySem.W.WalkO q loose XP YP l.row.toRowW d [] (fun f vs => PySem.call f vs) := by
  refine Att.attach_call hn hdf fun w s₀ s₁ mg mb fa o pm cd doc a vs ns G Y ho hd hcd hmg hobj hints hlen hg => ?_
  have KX := hY w _ Y
  obtain ⟨fd, hb, hF⟩ := F w mg fa _ KX G.T.g hmg
  exact law_callG KX G.T.g G.T.b G.T.builtins G.T.nolimit hg hobj hints (Nat.le_trans hlen hn2) hr hF hb (fun H hO hS => hsp (K w.params) H a ns hlen hO hS) fun H e s' h => h
end Tq
set_option maxRecDepth 100000
set_option maxHeartbeats 2000000
namespace Tq
open PySem PySem.Spec PyProof.Rows L2
section
variable {C : Ct} {y : S} {ta tb tc te : TE} {t u : TT} {ts : TA} {Q : Z → S → Prop} {R : Bool → S → Prop}
theorem wE_catG (w : wE C ta y fun z y1 => wE C tb y1 fun z' y2 => ∃ xs ys, z = .d (.list xs) ∧ z' = .d (.list ys) ∧ xs.length + ys.length ≤ sizeLine ∧ Q (.d (.list (xs ++ ys))) y2) : wE C (tOp (rCatG C.K) ta tb) y Q := by
  refine wE_op (res := fun d e r => ∃ xs ys, d = .list xs ∧ e = .list ys ∧ xs.length + ys.length ≤ sizeLine ∧ r = .list (xs ++ ys)) ?_ (wE_mono w fun z y1 h => wE_mono h fun z' y2 ⟨xs, ys, e1, e2, c, q⟩ => ⟨_, _, _, e1, e2, ⟨xs, ys, rfl, rfl, c, rfl⟩, q⟩)
  rintro M H x y d e r Q fr rx ry ⟨xs, ys, rfl, rfl, c, rfl⟩ k
  obtain ⟨a, us, rfl, h1, h2⟩ := rp_lst rx
  obtain ⟨b, vs, rfl, h3, h4⟩ := rp_lst ry
  refine ⟨a, b, us, vs, rfl, rfl, h1.sq, h3.sq, by rw [h2.len, h4.len]; exact c, fun p hp => k _ _ (grow_upd hp) ?_⟩
  have g : GoH M H M (upd H p (.lst (us ++ vs))) := fun a o n e => ⟨n, grow_upd hp a o e⟩
  exact .lst (.inl ⟨fr p hp, .inl upd_same⟩) ((h2.go g).app (h4.go g))
theorem wE_fdivZ (w : wE C ta y fun z y1 => wE C tb y1 fun z' y2 => ∃ i j, z = .d (.int i) ∧ z' = .d (.int j) ∧ CDivZ i j ∧ Q (.d (.int (i.fdiv j))) y2) : wE C (tOp (rI CDivZ fun i j => .int (i.fdiv j)) ta tb) y Q := wE_I _ (fun _ _ => .int _) w
theorem wE_modN (w : wE C ta y fun z y1 => wE C tb y1 fun z' y2 => ∃ i j, z = .d (.int i) ∧ z' = .d (.int j) ∧ j ≠ 0 ∧ Q (.d (.int (i.fmod j))) y2) : wE C (tOp (rI (fun _ j => j ≠ 0) fun i j => .int (i.fmod j)) ta tb) y Q := wE_I _ (fun _ _ => .int _) w
/-! truth -/
theorem wE_andV (w : wE C ta y fun z y1 => ∃ b, z = .d (.bool b) ∧ if b = true then wE C tb y1 Q else Q (.d (.bool false)) y1) : wE C (tAndV ta tb) y Q := by
  intro F σ H K wd k
  refine w F σ H _ wd fun x H1 z y1 w1 g1 s1 r1 q1 => ?_
  obtain ⟨b, rfl, q⟩ := q1
  refine ⟨b, rp_bl r1, ?_⟩
  cases b with
  | true => exact q F σ H1 _ w1 fun v H2 z y2 w2 g2 s2 r2 q2 => k v H2 z y2 w2 (g1.trans g2) (s1.trans s2) r2 q2
  | false => exact k _ H1 (.d (.bool false)) y1 w1 g1 s1 (.bl _) q
theorem wE_orV (w : wE C ta y fun z y1 => ∃ b, z = .d (.bool b) ∧ if b = true then Q (.d (.bool true)) y1 else wE C tb y1 Q) : wE C (tOrV ta tb) y Q := by
  intro F σ H K wd k
  refine w F σ H _ wd fun x H1 z y1 w1 g1 s1 r1 q1 => ?_
  obtain ⟨b, rfl, q⟩ := q1
  refine ⟨b, rp_bl r1, ?_⟩
  cases b with
  | true => exact k _ H1 (.d (.bool true)) y1 w1 g1 s1 (.bl _) q
  | false => exact q F σ H1 _ w1 fun v H2 z y2 w2 g2 s2 r2 q2 => k v H2 z y2 w2 (g1.trans g2) (s1.trans s2) r2 q2
theorem wE_notV (w : wE C ta y fun z y1 => ∃ b, z = .d (.bool b) ∧ Q (.d (.bool (!b))) y1) : wE C (tNotV ta) y Q := by
  intro F σ H K wd k
  refine w F σ H _ wd fun x H1 z y1 w1 g1 s1 r1 q1 => ?_
  obtain ⟨b, rfl, q⟩ := q1
  exact ⟨b, rp_bl r1, k _ H1 (.d (.bool !b)) y1 w1 g1 s1 (.bl _) q⟩
theorem wE_if (w : wT C t y fun b y1 => if b = true then wE C ta y1 Q else wE C tb y1 Q) : wE C (tIf t ta tb) y Q := by
  intro F σ H K wd k
  refine w F σ H _ wd fun b H1 y1 w1 g1 s1 q => ?_
  cases b with
  | true => exact q F σ H1 _ w1 fun v H2 z y2 w2 g2 s2 r2 q2 => k v H2 z y2 w2 (g1.trans g2) (s1.trans s2) r2 q2
  | false => exact q F σ H1 _ w1 fun v H2 z y2 w2 g2 s2 r2 q2 => k v H2 z y2 w2 (g1.trans g2) (s1.trans s2) r2 q2
theorem wT_test (w : wE C te y fun z y1 => ∃ b, z = .d (.bool b) ∧ R b y1) : wT C (tTest te) y R := by
  intro F σ H K wd k
  refine w F σ H _ wd fun x H1 z y1 w1 g1 s1 r1 q1 => ?_
  obtain ⟨b, rfl, q⟩ := q1
  exact ⟨b, rp_bl r1, k b H1 y1 w1 g1 s1 q⟩
theorem wT_B (w : wE C te y fun z y1 => ∃ b, z = .d (.bool b) ∧ R b y1) : wT C (tB te) y R := wT_test w
theorem wT_and (w : wT C t y fun b y1 => if b = true then wT C u y1 R else R false y1) : wT C (tAnd t u) y R := by
  intro F σ H K wd k
  refine w F σ H _ wd fun b H1 y1 w1 g1 s1 q => ?_
  cases b with
  | true => exact q F σ H1 _ w1 fun v H2 y2 w2 g2 s2 q2 => k v H2 y2 w2 (g1.trans g2) (s1.trans s2) q2
  | false => exact k false H1 y1 w1 g1 s1 q
theorem wT_or (w : wT C t y fun b y1 => if b = true then R true y1 else wT C u y1 R) : wT C (tOr t u) y R := by
  intro F σ H K wd k
  refine w F σ H _ wd fun b H1 y1 w1 g1 s1 q => ?_
  cases b with
  | true => exact k true H1 y1 w1 g1 s1 q
  | false => exact q F σ H1 _ w1 fun v H2 y2 w2 g2 s2 q2 => k v H2 y2 w2 (g1.trans g2) (s1.trans s2) q2
theorem wT_not (w : wT C t y fun b y1 => R (!b) y1) : wT C (tNot t) y R := by
  intro F σ H K wd k
  exact w F σ H _ wd fun b H1 y1 w1 g1 s1 q => k (!b) H1 y1 w1 g1 s1 q
theorem wT_yes (q : R true y) : wT C tYes y R := fun F σ H K wd k => k true H y wd GoH.refl (Sh.refl y) q
theorem wT_mono {R' : Bool → S → Prop} (h : wT C t y R) (q : ∀ z y', R z y' → R' z y') : wT C t y R' := fun F σ H K w k => h F σ H K w fun z H' y' a b c e => k z H' y' a b c (q z y' e)
/-- chains -/
theorem wE_chain {r r' : R2} {res res' : D → D → D → Prop} (h : OpD C.K r res) (h' : OpD C.K r' res')
    (w : wE C ta y fun z1 y1 => wE C tb y1 fun z2 y2 => ∃ d1 d2 b, z1 = .d d1 ∧ z2 = .d d2 ∧ res d1 d2 (.bool b) ∧ if b = true then wE C tc y2 fun z3 y3 => ∃ d3 g, z3 = .d d3 ∧ res' d2 d3 g ∧ Q (.d g) y3 else Q (.d (.bool false)) y2) :
    wE C (tChain r r' ta tb tc) y Q := by
  intro F σ H K wd k
  refine w F σ H _ wd fun x H1 z y1 w1 g1 s1 r1 q1 => ?_
  refine q1 F σ H1 _ w1 fun x2 H2 z' y2 w2 g2 s2 r2 q2 => ?_
  obtain ⟨d1, d2, b, rfl, rfl, hres, hq⟩ := q2
  refine h (Mv F σ y2) H2 x x2 d1 d2 (.bool b) _ (fun a => w2.new) (Rp.go g2 r1) r2 hres fun v H3 gr rv => ?_
  have w3 := w2.grow gr
  have g3 := (g1.trans g2).trans (go_grow (F := F) (σ := σ) (y := y2) gr)
  refine ⟨b, rp_bl rv, ?_⟩
  cases b with
  | false => exact k _ H3 (.d (.bool false)) y2 w3 g3 (s1.trans s2) (.bl _) hq
  | true =>
    refine hq F σ H3 _ w3 fun x4 H4 z4 y4 w4 g4 s4 r4 q4 => ?_
    obtain ⟨d3, g, rfl, hres', hq'⟩ := q4
    refine h' (Mv F σ y4) H4 x2 x4 d2 d3 g _ (fun a => w4.new) (Rp.go g4 (Rp.go (go_grow (F := F) (σ := σ) (y := y2) gr) r2)) r4 hres' fun v5 H5 gr5 rv5 => ?_
    exact k v5 H5 (.d g) y4 (w4.grow gr5) ((g3.trans g4).trans (go_grow gr5)) ((s1.trans s2).trans s4) rv5 hq'
theorem wE_chainI {p p' : Int → Int → Bool} (w : wE C ta y fun z1 y1 => wE C tb y1 fun z2 y2 => ∃ i j, z1 = .d (.int i) ∧ z2 = .d (.int j) ∧ if p i j = true then wE C tc y2 fun z3 y3 => ∃ m, z3 = .d (.int m) ∧ Q (.d (.bool (p' j m))) y3 else Q (.d (.bool false)) y2) :
    wE C (tChain (rI0 fun i j => .bl (p i j)) (rI0 fun i j => .bl (p' i j)) ta tb tc) y Q := by
  refine wE_chain (opD_I0 (gd := fun i j => .bool (p i j)) fun _ _ => .bl _) (opD_I0 (gd := fun i j => .bool (p' i j)) fun _ _ => .bl _) (wE_mono w fun z1 y1 h => wE_mono h fun z2 y2 ⟨i, j, e1, e2, q⟩ => ⟨_, _, p i j, e1, e2, ⟨i, j, rfl, rfl, rfl⟩, ?_⟩)
  cases hb : p i j with
  | true =>
    rw [hb] at q
    exact wE_mono (show wE C tc y2 _ from q) fun z3 y3 ⟨m, e3, q3⟩ => ⟨_, _, e3, ⟨j, m, rfl, rfl, rfl⟩, q3⟩
  | false => rw [hb] at q; exact q
theorem opD_S0 {g : Str → Str → V} {gd : Str → Str → D} (hg : ∀ i j, Sc (g i j) (gd i j)) {K : Fg} : OpD K (fun x y H Q => ∃ i j, x = .str i ∧ y = .str j ∧ Q (g i j) H) (fun d e r => ∃ i j, d = .str i ∧ e = .str j ∧ r = gd i j) := by
  rintro M H x y d e r Q _ rx ry ⟨i, j, rfl, rfl, rfl⟩ k
  exact ⟨i, j, rp_str rx, rp_str ry, k _ H (fun _ _ e => e) (hg i j).rp⟩
theorem wE_chainS {p p' : Str → Str → Bool} (w : wE C ta y fun z1 y1 => wE C tb y1 fun z2 y2 => ∃ i j, z1 = .d (.str i) ∧ z2 = .d (.str j) ∧ if p i j = true then wE C tc y2 fun z3 y3 => ∃ m, z3 = .d (.str m) ∧ Q (.d (.bool (p' j m))) y3 else Q (.d (.bool false)) y2) :
    wE C (tChain (fun x y H Q => ∃ i j, x = .str i ∧ y = .str j ∧ Q (.bl (p i j)) H) (fun x y H Q => ∃ i j, x = .str i ∧ y = .str j ∧ Q (.bl (p' i j)) H) ta tb tc) y Q := by
  refine wE_chain (opD_S0 (gd := fun i j => .bool (p i j)) fun _ _ => .bl _) (opD_S0 (gd := fun i j => .bool (p' i j)) fun _ _ => .bl _) (wE_mono w fun z1 y1 h => wE_mono h fun z2 y2 ⟨i, j, e1, e2, q⟩ => ⟨_, _, p i j, e1, e2, ⟨i, j, rfl, rfl, rfl⟩, ?_⟩)
  cases hb : p i j with
  | true =>
    rw [hb] at q
    exact wE_mono (show wE C tc y2 _ from q) fun z3 y3 ⟨m, e3, q3⟩ => ⟨_, _, e3, ⟨j, m, rfl, rfl, rfl⟩, q3⟩
  | false => rw [hb] at q; exact q
/-! arguments, displays -/
def wD (C : Ct) (ta : TA) (y : S) (Q : List D → S → Prop) : Prop := ∀ (F : Fr) σ H (K : List V → Hp → Prop), Wd C F σ y H → (∀ vs H' ds y', Wd C F σ y' H' → Go F σ y H σ y' H' → Sh y y' → RpA C.K (Mv F σ y') H' vs ds → Q ds y' → K vs H') → ta σ H K
variable {q : List D → S → Prop}
theorem wD_nil (h : q [] y) : wD C tNil y q := fun F σ H K wd k => k [] H [] y wd GoH.refl (Sh.refl y) .nil h
theorem wD_cons (w : wE C ta y fun z y1 => ∃ d, z = .d d ∧ wD C ts y1 fun ds y2 => q (d :: ds) y2) : wD C (tCons ta ts) y q := by
  intro F σ H K wd k
  refine w F σ H _ wd fun x H1 z y1 w1 g1 s1 r1 q1 => ?_
  obtain ⟨d, rfl, h⟩ := q1
  exact h F σ H1 _ w1 fun vs H2 ds y2 w2 g2 s2 r2 q2 => k (x :: vs) H2 (d :: ds) y2 w2 (g1.trans g2) (s1.trans s2) (.cons (Rp.go g2 r1) r2) q2
theorem wD_mono {q' : List D → S → Prop} (h : wD C ts y q) (e : ∀ z y', q z y' → q' z y') : wD C ts y q' := fun F σ H K w k => h F σ H K w fun vs H' z y' a b c d f => k vs H' z y' a b c d (e z y' f)
theorem wE_tup (w : wD C ts y fun ds y1 => ds.length ≤ sizeLine ∧ Q (.d (.tuple ds)) y1) : wE C (tTup ts) y Q := by
  intro F σ H K wd k
  refine w F σ H _ wd fun vs H1 ds y1 w1 g1 s1 r1 ⟨hz, q1⟩ => ⟨by rw [r1.len]; exact hz, fun p hp => ?_⟩
  have gr := grow_upd (o := .tup vs) hp
  exact k _ _ (.d (.tuple ds)) y1 (w1.grow gr) (g1.trans (go_grow gr)) s1 (.tup (.inl ⟨w1.new hp, .inl upd_same⟩) (r1.go (go_grow gr))) q1
theorem wE_lst (w : wD C ts y fun ds y1 => ds.length ≤ sizeLine ∧ Q (.d (.list ds)) y1) : wE C (tLst ts) y Q := by
  intro F σ H K wd k
  refine w F σ H _ wd fun vs H1 ds y1 w1 g1 s1 r1 ⟨hz, q1⟩ => ⟨by rw [r1.len]; exact hz, fun p hp => ?_⟩
  have gr := grow_upd (o := .lst vs) hp
  exact k _ _ (.d (.list ds)) y1 (w1.grow gr) (g1.trans (go_grow gr)) s1 (.lst (.inl ⟨w1.new hp, .inl upd_same⟩) (r1.go (go_grow gr))) q1
theorem wE_dnew (h : Q (.d (.dict [])) y) : wE C tDNewK y Q := by
  intro F σ H K wd k p hp
  have gr := grow_upd (o := .dK []) hp
  exact k _ _ (.d (.dict [])) y (wd.grow gr) (go_grow gr) (Sh.refl y) (.dic (wd.new hp) upd_same .nil) h
/-- {k: v}, one written pair of scalars -/
theorem wE_disp1 {kk : Key} {v : V} {d : D} (s : Sc v d) (h : Q (.d (.dict [(kD kk, d)])) y) : wE C (tDisp [(tC (kV kk), tC v)]) y Q := by
  intro F σ H K wd k p hp
  refine ⟨upd_same, [(kk, v)], rfl, by simp, ?_⟩
  have gr : ∀ a u, H a = some u → upd (upd H p (.dK [])) p (.dK (mergeK [] [(kk, v)])) a = some u := fun a u e => by rw [upd_upd]; exact grow_upd hp a u e
  refine k _ _ (.d (.dict [(kD kk, d)])) y (wd.grow gr) (go_grow gr) (Sh.refl y) (.dic (wd.new hp) (kvs := [(kk, v)]) ?_ (.cons s.rp .nil)) h
  rw [upd_same]
  rfl
/-! built-ins -/
def CbD (K : Fg) (r : List V → Hp → VK → Prop) (res : List D → D → Prop) : Prop := ∀ (M : Addr → Prop) (H : Hp) (xs : List V) (ds : List D) (g : D) (Q : VK), (∀ a, H a = none → ¬ M a) → RpA K M H xs ds → res ds g →
  (∀ v H', (∀ a o, H a = some o → H' a = some o) → Rp K M H' v g → Q v H') → r xs H Q
theorem wE_cb {r : List V → Hp → VK → Prop} {res : List D → D → Prop} (h : CbD C.K r res) (w : wD C ts y fun ds y1 => ∃ g, res ds g ∧ Q (.d g) y1) : wE C (tCB r ts) y Q := by
  intro F σ H K wd k
  refine w F σ H _ wd fun vs H1 ds y1 w1 g1 s1 r1 q1 => ?_
  obtain ⟨g, hres, hq⟩ := q1
  exact h (Mv F σ y1) H1 vs ds g K (fun a => w1.new) r1 hres fun v H2 gr rv => k v H2 (.d g) y1 (w1.grow gr) (g1.trans (go_grow gr)) s1 rv hq
theorem rpA1 {K : Fg} {M : Addr → Prop} {H : Hp} {vs : List V} {d : D} (r : RpA K M H vs [d]) : ∃ v, vs = [v] ∧ Rp K M H v d := by
  cases r with | cons a b => cases b; exact ⟨_, rfl, a⟩
theorem rpA2 {K : Fg} {M : Addr → Prop} {H : Hp} {vs : List V} {d e : D} (r : RpA K M H vs [d, e]) : ∃ v u, vs = [v, u] ∧ Rp K M H v d ∧ Rp K M H u e := by
  cases r with | cons a b => obtain ⟨u, rfl, h⟩ := rpA1 b; exact ⟨_, u, rfl, a, h⟩
theorem wE_abs (w : wD C ts y fun ds y1 => ∃ i, ds = [.int i] ∧ Q (.d (.int (if i < 0 then -i else i))) y1) : wE C (tCB (fun xs H Q => ∃ i, xs = [.int i] ∧ Q (.int (if i < 0 then -i else i)) H) ts) y Q := by
  refine wE_cb (res := fun ds g => ∃ i, ds = [.int i] ∧ g = .int (if i < 0 then -i else i)) ?_ (wD_mono w fun ds y1 ⟨i, e, q⟩ => ⟨_, ⟨i, e, rfl⟩, q⟩)
  rintro M H xs ds g Q _ r ⟨i, rfl, rfl⟩ k
  obtain ⟨v, rfl, rv⟩ := rpA1 r
  exact ⟨i, by rw [rp_int rv], k _ H (fun _ _ e => e) (.int _)⟩
theorem wE_max2 (w : wD C ts y fun ds y1 => ∃ i j, ds = [.int i, .int j] ∧ Q (.d (.int (if j > i then j else i))) y1) : wE C (tCB (fun xs H Q => ∃ i j, xs = [.int i, .int j] ∧ Q (.int (if j > i then j else i)) H) ts) y Q := by
  refine wE_cb (res := fun ds g => ∃ i j, ds = [.int i, .int j] ∧ g = .int (if j > i then j else i)) ?_ (wD_mono w fun ds y1 ⟨i, j, e, q⟩ => ⟨_, ⟨i, j, e, rfl⟩, q⟩)
  rintro M H xs ds g Q _ r ⟨i, j, rfl, rfl⟩ k
  obtain ⟨v, u, rfl, rv, ru⟩ := rpA2 r
  exact ⟨i, j, by rw [rp_int rv, rp_int ru], k _ H (fun _ _ e => e) (.int _)⟩
theorem wE_min2 (w : wD C ts y fun ds y1 => ∃ i j, ds = [.int i, .int j] ∧ Q (.d (.int (if j < i then j else i))) y1) : wE C (tCB (fun xs H Q => ∃ i j, xs = [.int i, .int j] ∧ Q (.int (if j < i then j else i)) H) ts) y Q := by
  refine wE_cb (res := fun ds g => ∃ i j, ds = [.int i, .int j] ∧ g = .int (if j < i then j else i)) ?_ (wD_mono w fun ds y1 ⟨i, j, e, q⟩ => ⟨_, ⟨i, j, e, rfl⟩, q⟩)
  rintro M H xs ds g Q _ r ⟨i, j, rfl, rfl⟩ k
  obtain ⟨v, u, rfl, rv, ru⟩ := rpA2 r
  exact ⟨i, j, by rw [rp_int rv, rp_int ru], k _ H (fun _ _ e => e) (.int _)⟩
theorem wE_int1 (w : wD C ts y fun ds y1 => (∃ i, ds = [.int i] ∧ Q (.d (.int i)) y1) ∨ ∃ b, ds = [.bool b] ∧ Q (.d (.int (if b then 1 else 0))) y1) :
    wE C (tCB (fun xs H Q => (∃ i, xs = [.int i] ∧ Q (.int i) H) ∨ ∃ k, xs = [.bl k] ∧ Q (.int (if k then 1 else 0)) H) ts) y Q := by
  refine wE_cb (res := fun ds g => (∃ i, ds = [.int i] ∧ g = .int i) ∨ ∃ b, ds = [.bool b] ∧ g = .int (if b then 1 else 0)) ?_ (wD_mono w fun ds y1 h => ?_)
  · rintro M H xs ds g Q _ r (⟨i, rfl, rfl⟩ | ⟨b, rfl, rfl⟩) k
    · obtain ⟨v, rfl, rv⟩ := rpA1 r
      exact .inl ⟨i, by rw [rp_int rv], k _ H (fun _ _ e => e) (.int _)⟩
    · obtain ⟨v, rfl, rv⟩ := rpA1 r
      exact .inr ⟨b, by rw [rp_bl rv], k _ H (fun _ _ e => e) (.int _)⟩
  · rcases h with ⟨i, e, q⟩ | ⟨b, e, q⟩
    · exact ⟨_, .inl ⟨i, e, rfl⟩, q⟩
    · exact ⟨_, .inr ⟨b, e, rfl⟩, q⟩
theorem wE_strI (w : wD C ts y fun ds y1 => ∃ i, ds = [.int i] ∧ i.natAbs.log2 < 1920 ∧ Q (.d (.str (toString i))) y1) : wE C (tCB (fun xs H Q => ∃ i, xs = [.int i] ∧ i.natAbs.log2 < 1920 ∧ Q (.str (toString i)) H) ts) y Q := by
  refine wE_cb (res := fun ds g => ∃ i, ds = [.int i] ∧ i.natAbs.log2 < 1920 ∧ g = .str (toString i)) ?_ (wD_mono w fun ds y1 ⟨i, e, c, q⟩ => ⟨_, ⟨i, e, c, rfl⟩, q⟩)
  rintro M H xs ds g Q _ r ⟨i, rfl, c, rfl⟩ k
  obtain ⟨v, rfl, rv⟩ := rpA1 r
  exact ⟨i, by rw [rp_int rv], c, k _ H (fun _ _ e => e) (.str _)⟩
theorem wE_intS (w : wD C ts y fun ds y1 => ∃ a n, ds = [.str a] ∧ PySem.intText? a = some n ∧ a.length ≤ 640 ∧ Q (.d (.int n)) y1) : wE C (tCB (fun xs H Q => ∃ a n, xs = [.str a] ∧ PySem.intText? a = some n ∧ a.length ≤ 640 ∧ Q (.int n) H) ts) y Q := by
  refine wE_cb (res := fun ds g => ∃ a n, ds = [.str a] ∧ PySem.intText? a = some n ∧ a.length ≤ 640 ∧ g = .int n) ?_ (wD_mono w fun ds y1 ⟨i, n, e, c, l, q⟩ => ⟨_, ⟨i, n, e, c, l, rfl⟩, q⟩)
  rintro M H xs ds g Q _ r ⟨i, n, rfl, c, l, rfl⟩ k
  obtain ⟨v, rfl, rv⟩ := rpA1 r
  exact ⟨i, n, by rw [rp_str rv], c, l, k _ H (fun _ _ e => e) (.int _)⟩
def dLen (d : D) : Option Nat := match d with
  | .str z => if z.length ≤ sizeLine then some z.length else none
  | .list xs => some xs.length
  | .tuple xs => some xs.length
  | _ => none
theorem wE_len (w : wD C ts y fun ds y1 => ∃ d n, ds = [d] ∧ dLen d = some n ∧ Q (.d (.int n)) y1) : wE C (tCB (fun xs H Q => ∃ x n, xs = [x] ∧ LenV C.K x H n ∧ Q (.int (n : Nat)) H) ts) y Q := by
  refine wE_cb (res := fun ds g => ∃ d n, ds = [d] ∧ dLen d = some n ∧ g = .int n) ?_ (wD_mono w fun ds y1 ⟨d, n, e, c, q⟩ => ⟨_, ⟨d, n, e, c, rfl⟩, q⟩)
  rintro M H xs ds g Q _ r ⟨d, n, rfl, c, rfl⟩ k
  obtain ⟨v, rfl, rv⟩ := rpA1 r
  refine ⟨v, n, rfl, ?_, k _ H (fun _ _ e => e) (.int _)⟩
  cases rv with
  | non => cases c
  | bl _ => cases c
  | int _ => cases c
  | dic _ _ _ => cases c
  | str z =>
    simp only [dLen] at c
    by_cases h : z.length ≤ sizeLine
    · rw [if_pos h] at c; cases c; exact ⟨h, rfl⟩
    · rw [if_neg h] at c; cases c
  | lst h1 h2 => cases c; exact .inl ⟨_, h1.sq, h2.len.symm⟩
  | tup h1 h2 => cases c; exact .inr ⟨_, h1.sq, h2.len.symm⟩
theorem wE_all (w : wD C ts y fun ds y1 => ∃ bs : List Bool, ds = [.list (bs.map PyData.bool)] ∧ Q (.d (.bool (bs.all id))) y1) : wE C (tCB (rAll C.K) ts) y Q := by
  refine wE_cb (res := fun ds g => ∃ bs : List Bool, ds = [.list (bs.map PyData.bool)] ∧ g = .bool (bs.all id)) ?_ (wD_mono w fun ds y1 ⟨i, e, q⟩ => ⟨_, ⟨i, e, rfl⟩, q⟩)
  rintro M H xs ds g Q _ r ⟨bs, rfl, rfl⟩ k
  obtain ⟨v, rfl, rv⟩ := rpA1 r
  obtain ⟨a, us, rfl, h1, h2⟩ := rp_lst rv
  have e := rpA_bls h2
  subst e
  exact ⟨a, bs, rfl, h1.sq, k _ H (fun _ _ e => e) (.bl _)⟩
theorem wE_any (w : wD C ts y fun ds y1 => ∃ bs : List Bool, ds = [.list (bs.map PyData.bool)] ∧ Q (.d (.bool (bs.any id))) y1) : wE C (tCB (rAny C.K) ts) y Q := by
  refine wE_cb (res := fun ds g => ∃ bs : List Bool, ds = [.list (bs.map PyData.bool)] ∧ g = .bool (bs.any id)) ?_ (wD_mono w fun ds y1 ⟨i, e, q⟩ => ⟨_, ⟨i, e, rfl⟩, q⟩)
  rintro M H xs ds g Q _ r ⟨bs, rfl, rfl⟩ k
  obtain ⟨v, rfl, rv⟩ := rpA1 r
  obtain ⟨a, us, rfl, h1, h2⟩ := rp_lst rv
  have e := rpA_bls h2
  subst e
  exact ⟨a, bs, rfl, h1.sq, k _ H (fun _ _ e => e) (.bl _)⟩
theorem wE_sum (w : wD C ts y fun ds y1 => ∃ bs : List Int, ds = [.list (bs.map PyData.int)] ∧ Q (.d (.int bs.sum)) y1) : wE C (tCB (rSum C.K) ts) y Q := by
  refine wE_cb (res := fun ds g => ∃ bs : List Int, ds = [.list (bs.map PyData.int)] ∧ g = .int bs.sum) ?_ (wD_mono w fun ds y1 ⟨i, e, q⟩ => ⟨_, ⟨i, e, rfl⟩, q⟩)
  rintro M H xs ds g Q _ r ⟨bs, rfl, rfl⟩ k
  obtain ⟨v, rfl, rv⟩ := rpA1 r
  obtain ⟨a, us, rfl, h1, h2⟩ := rp_lst rv
  have e := rpA_ints h2
  subst e
  exact ⟨a, bs, rfl, h1.sq, k _ H (fun _ _ e => e) (.int _)⟩
def dItems : D → Option (List D)
  | .list xs => some xs
  | .tuple xs => some xs
  | _ => none
theorem rp_items {K : Fg} {M : Addr → Prop} {H : Hp} {v : V} {d : D} {xs : List D} (r : Rp K M H v d) (h : dItems d = some xs) : ∃ a us, v = .ref a ∧ (LsA K M H a us ∨ TsA K M H a us) ∧ RpA K M H us xs := by
  cases r with
  | non => cases h
  | bl _ => cases h
  | int _ => cases h
  | str _ => cases h
  | dic _ _ _ => cases h
  | lst h1 h2 => cases h; exact ⟨_, _, rfl, .inl h1, h2⟩
  | tup h1 h2 => cases h; exact ⟨_, _, rfl, .inr h1, h2⟩
theorem wE_listOf (w : wD C ts y fun ds y1 => ∃ d xs, ds = [d] ∧ dItems d = some xs ∧ Q (.d (.list xs)) y1) :
    wE C (tCB (fun xs H Q => ∃ p ys, xs = [.ref p] ∧ (SqL C.K H p ys ∨ SqT C.K H p ys) ∧ ∀ l, H l = none → Q (.ref l) (upd H l (.lst ys))) ts) y Q := by
  refine wE_cb (res := fun ds g => ∃ d xs, ds = [d] ∧ dItems d = some xs ∧ g = .list xs) ?_ (wD_mono w fun ds y1 ⟨i, xs, e, c, q⟩ => ⟨_, ⟨i, xs, e, c, rfl⟩, q⟩)
  rintro M H xs ds g Q fr r ⟨d, es, rfl, c, rfl⟩ k
  obtain ⟨v, rfl, rv⟩ := rpA1 r
  obtain ⟨a, us, rfl, h1, h2⟩ := rp_items rv c
  refine ⟨a, us, rfl, h1.elim (fun z => .inl z.sq) (fun z => .inr z.sq), fun p hp => k _ _ (grow_upd hp) (.lst (.inl ⟨fr p hp, .inl upd_same⟩) (h2.go fun a o n e => ⟨n, grow_upd hp a o e⟩))⟩
theorem wE_tupOf (w : wD C ts y fun ds y1 => ∃ d xs, ds = [d] ∧ dItems d = some xs ∧ Q (.d (.tuple xs)) y1) :
    wE C (tCB (fun xs H Q => ∃ p ys, xs = [.ref p] ∧ ((SqL C.K H p ys ∧ ∀ l, H l = none → Q (.ref l) (upd H l (.tup ys))) ∨ (SqT C.K H p ys ∧ Q (.ref p) H))) ts) y Q := by
  refine wE_cb (res := fun ds g => ∃ d xs, ds = [d] ∧ dItems d = some xs ∧ g = .tuple xs) ?_ (wD_mono w fun ds y1 ⟨i, xs, e, c, q⟩ => ⟨_, ⟨i, xs, e, c, rfl⟩, q⟩)
  rintro M H xs ds g Q fr r ⟨d, es, rfl, c, rfl⟩ k
  obtain ⟨v, rfl, rv⟩ := rpA1 r
  obtain ⟨a, us, rfl, h1, h2⟩ := rp_items rv c
  refine ⟨a, us, rfl, ?_⟩
  rcases h1 with h1 | h1
  · exact .inl ⟨h1.sq, fun p hp => k _ _ (grow_upd hp) (.tup (.inl ⟨fr p hp, .inl upd_same⟩) (h2.go fun a o n e => ⟨n, grow_upd hp a o e⟩))⟩
  · exact .inr ⟨h1.sq, k _ H (fun _ _ e => e) (.tup h1 h2)⟩
theorem wE_repr (w : wD C ts y fun ds y1 => ∃ d, ds = [d] ∧ dsm d = true ∧ d.showable = true ∧ d.depth ≤ 60 ∧ d.shown.length ≤ sizeLine ∧ Q (.d (.str d.shown)) y1) : wE C (tCB (rRepr C.K) ts) y Q := by
  refine wE_cb (res := fun ds g => ∃ d, ds = [d] ∧ dsm d = true ∧ d.showable = true ∧ d.depth ≤ 60 ∧ d.shown.length ≤ sizeLine ∧ g = .str d.shown) ?_ (wD_mono w fun ds y1 ⟨d, e, c1, c2, c3, c4, q⟩ => ⟨_, ⟨d, e, c1, c2, c3, c4, rfl⟩, q⟩)
  rintro M H xs ds g Q _ r ⟨d, rfl, c1, c2, c3, c4, rfl⟩ k
  obtain ⟨v, rfl, rv⟩ := rpA1 r
  exact ⟨v, d, rfl, rv.any, c1, c2, c3, c4, k _ H (fun _ _ e => e) (.str _)⟩
/-! isinstance -/
def tyN : D → String
  | .none => "NoneType"
  | .bool _ => "bool"
  | .int _ => "int"
  | .str _ => "str"
  | .list _ => "list"
  | .tuple _ => "tuple"
  | .dict _ => "dict"
def tyNames : List String := ["NoneType", "bool", "int", "str", "list", "tuple", "dict"]
def isT (T : String) (d : D) : Bool := (kitB (tyN d) T).getD false
theorem rp_ty {K : Fg} {M : Addr → Prop} {H : Hp} {v : V} {d : D} (r : Rp K M H v d) : TyX K H v (.type (tyN d)) := by
  cases r with
  | non => exact .base .non
  | bl b => exact .base (.bl b)
  | int b => exact .base (.int b)
  | str b => exact .base (.str b)
  | lst h _ =>
    rcases h with ⟨_, h | ⟨o, h⟩⟩ | ⟨o, its, n, h1, h2, _⟩
    · exact .base (.lst h)
    · exact .base (.frz h)
    · exact .kList h1 h2
  | tup h _ =>
    rcases h with ⟨_, h | ⟨o, h⟩⟩ | ⟨o, its, n, h1, h2, _⟩
    · exact .base (.tup h)
    · exact .fTuple h
    · exact .kTuple h1 h2
  | dic _ h _ => exact .base (.dK h)
theorem kit_isT {T : String} (hT : (tyNames.all fun n => (kitB n T).isSome) = true) (d : D) : kitB (tyN d) T = some (isT T d) := by
  have h : (kitB (tyN d) T).isSome = true := by
    have z := List.all_eq_true.mp hT
    exact z (tyN d) (by cases d <;> simp [tyN, tyNames])
  unfold isT
  cases e : kitB (tyN d) T with
  | none => rw [e] at h; cases h
  | some b => rfl
theorem wE_isi {T : String} (w : wE C te y fun z y1 => ∃ d, z = .d d ∧ Q (.d (.bool (isT T d))) y1) (hT : (tyNames.all fun n => (kitB n T).isSome) = true := by decide +kernel) : wE C (tCB (rIsi C.K) (tCons te (tCons (tC (.ty T)) tNil))) y Q := by
  intro F σ H K wd k
  refine w F σ H _ wd fun x H1 z y1 w1 g1 s1 r1 q1 => ?_
  obtain ⟨d, rfl, h⟩ := q1
  exact ⟨x, .ty T, _, _, isT T d, rfl, .ty T, rp_ty r1, kit_ty (kit_isT hT d), k _ H1 (.d (.bool (isT T d))) y1 w1 g1 s1 (.bl _) h⟩
theorem wE_isi2 {T U : String} (w : wE C te y fun z y1 => ∃ d, z = .d d ∧ Q (.d (.bool (isT T d || isT U d))) y1) (hT : (tyNames.all fun n => (kitB n T).isSome) = true := by decide +kernel) (hU : (tyNames.all fun n => (kitB n U).isSome) = true := by decide +kernel) :
    wE C (tCB (rIsiT C.K) (tCons te (tCons (tTup (tCons (tC (.ty T)) (tCons (tC (.ty U)) tNil))) tNil))) y Q := by
  intro F σ H K wd k
  refine w F σ H _ wd fun x H1 z y1 w1 g1 s1 r1 q1 => ?_
  obtain ⟨d, rfl, h⟩ := q1
  refine ⟨by show 2 ≤ sizeLine; decide, fun p hp => ?_⟩
  have gr := grow_upd (o := .tup [.ty T, .ty U]) hp
  refine ⟨x, p, [.ty T, .ty U], _, [.type T, .type U], isT T d || isT U d, rfl, upd_same, .cons (.ty T) (.cons (.ty U) .nil), rp_ty (Rp.go (go_grow (F := F) (σ := σ) (y := y1) gr) r1), ?_, k _ _ (.d (.bool (isT T d || isT U d))) y1 (w1.grow gr) (g1.trans (go_grow gr)) s1 (.bl _) h⟩
  refine kitAny_cons (b := isT T d) (kit_ty (kit_isT hT d)) (fun e => ?_) (fun e => by rw [e]; rfl)
  refine kitAny_cons (b := isT U d) (kit_ty (kit_isT hU d)) (fun e2 => ?_) (fun e2 => by rw [e, e2]; rfl)
  rw [e, e2]
  rfl
/-! slices -/
def wP (C : Ct) (to : TO) (y : S) (Q : Option Int → S → Prop) : Prop := wO C to y Q
variable {tl th : TO}
theorem wO_no {q : Option Int → S → Prop} (h : q none y) : wO C tNoPart y q := fun F σ H K wd k => k none H y wd GoH.refl (Sh.refl y) h
theorem wO_part {q : Option Int → S → Prop} (w : wE C te y fun z y1 => ∃ i, z = .d (.int i) ∧ q (some i) y1) : wO C (tPart te) y q := by
  intro F σ H K wd k
  refine w F σ H _ wd fun x H1 z y1 w1 g1 s1 r1 q1 => ?_
  obtain ⟨i, rfl, h⟩ := q1
  exact ⟨i, rp_int r1, k (some i) H1 y1 w1 g1 s1 h⟩
def cutD {α : Type} (xs : List α) (lo hi : Option Int) : List α := (xs.drop (HT.sIx xs.length 0 lo)).take (HT.sIx xs.length xs.length hi - HT.sIx xs.length 0 lo)
theorem rpA_cut {K : Fg} {M : Addr → Prop} {H : Hp} {vs : List V} {ds : List D} (r : RpA K M H vs ds) (lo hi : Option Int) : RpA K M H (cutV vs lo hi) (cutD ds lo hi) := by
  unfold cutV cutD
  rw [r.len]
  exact (r.drop _).take _
def dCut (d : D) (lo hi : Option Int) : Option D := match d with
  | .list xs => some (.list (cutD xs lo hi))
  | .tuple xs => some (.tuple (cutD xs lo hi))
  | .str z => if z.length ≤ sizeLine then some (.str (cutS z lo hi)) else none
  | _ => none
def rSlD (K : Fg) : V → Option Int → Option Int → Hp → VK → Prop := fun x lo hi H Q => rSlL K x lo hi H Q ∨ rSlA K x lo hi H Q ∨ rSlS x lo hi H Q
theorem sl_any {X : Cx} : SlR X (rSlD X.K) := sl_list.or (sl_tupA.or sl_str)
theorem cutD_whole {α : Type} (xs : List α) (lo hi : Option Int) (h : HT.sIx xs.length 0 lo = 0 ∧ HT.sIx xs.length xs.length hi = xs.length) : cutD xs lo hi = xs := by
  unfold cutD
  rw [h.1, h.2, List.drop_zero, Nat.sub_zero, List.take_length]
theorem wE_sl (w : wE C te y fun z y1 => wO C tl y1 fun l y2 => wO C th y2 fun h y3 => ∃ d g, z = .d d ∧ dCut d l h = some g ∧ Q (.d g) y3) : wE C (tSl (rSlD C.K) te tl th) y Q := by
  intro F σ H K wd k
  refine w F σ H _ wd fun x H1 z y1 w1 g1 s1 r1 q1 => ?_
  refine q1 F σ H1 _ w1 fun l H2 y2 w2 g2 s2 q2 => ?_
  refine q2 F σ H2 _ w2 fun h H3 y3 w3 g3 s3 q3 => ?_
  obtain ⟨d, g, rfl, c, hq⟩ := q3
  have r3 : Rp C.K (Mv F σ y3) H3 x d := Rp.go (g2.trans g3) r1
  have G := (g1.trans g2).trans g3
  have SS := (s1.trans s2).trans s3
  cases r3 with
  | non => cases c
  | bl _ => cases c
  | int _ => cases c
  | dic _ _ _ => cases c
  | str z =>
    simp only [dCut] at c
    by_cases hz : z.length ≤ sizeLine
    · rw [if_pos hz] at c; cases c
      exact .inr (.inr ⟨z, rfl, hz, k _ H3 (.d (.str (cutS z l h))) y3 w3 G SS (.str _) hq⟩)
    · rw [if_neg hz] at c; cases c
  | @lst a xs ds h1 h2 =>
    cases c
    refine .inl ⟨a, xs, rfl, h1.sq, fun p hp => ?_⟩
    have gr := grow_upd (o := .lst (cutV xs l h)) hp
    exact k _ _ (.d (.list (cutD ds l h))) y3 (w3.grow gr) (G.trans (go_grow gr)) SS (.lst (.inl ⟨w3.new hp, .inl upd_same⟩) ((rpA_cut h2 l h).go (go_grow gr))) hq
  | @tup a xs ds h1 h2 =>
    cases c
    refine .inr (.inl ⟨a, xs, rfl, h1.sq, fun e => ?_, fun e p hp => ?_⟩)
    · rw [h2.len] at e
      rw [cutD_whole ds l h e] at hq
      exact k _ H3 (.d (.tuple ds)) y3 w3 G SS (.tup h1 h2) hq
    · have gr := grow_upd (o := .tup (cutV xs l h)) hp
      exact k _ _ (.d (.tuple (cutD ds l h))) y3 (w3.grow gr) (G.trans (go_grow gr)) SS (.tup (.inl ⟨w3.new hp, .inl upd_same⟩) ((rpA_cut h2 l h).go (go_grow gr))) hq
/-! texts' methods -/
theorem wE_starts (w : wE C ta y fun z y1 => ∃ a, z = .d (.str a) ∧ wE C tb y1 fun z' y2 => ∃ b, z' = .d (.str b) ∧ Q (.d (.bool (Txt.startswith a b))) y2) :
    wE C (tM1 (fun x xs H Q => ∃ a b, x = .str a ∧ xs = [.str b] ∧ Q (.bl (Txt.startswith a b)) H) ta tb) y Q := by
  intro F σ H K wd k
  refine w F σ H _ wd fun x H1 z y1 w1 g1 s1 r1 q1 => ?_
  obtain ⟨a, rfl, q1⟩ := q1
  have e := rp_str r1
  subst e
  refine ⟨⟨a, rfl⟩, q1 F σ H1 _ w1 fun x2 H2 z' y2 w2 g2 s2 r2 q2 => ?_⟩
  obtain ⟨b, rfl, hq⟩ := q2
  exact ⟨a, b, rfl, by rw [rp_str r2], k _ H2 (.d (.bool _)) y2 w2 (g1.trans g2) (s1.trans s2) (.bl _) hq⟩
theorem wE_join (w : wE C ta y fun z y1 => ∃ a, z = .d (.str a) ∧ wE C tb y1 fun z' y2 => ∃ (d : D) (ys : List Str), z' = .d d ∧ dItems d = some (ys.map PyData.str) ∧ (ys.map (·.length)).sum + ys.length * a.length ≤ 16777216 ∧ Q (.d (.str (Txt.join a ys))) y2) :
    wE C (tM1 (fun x xs H Q => ∃ a p, ∃ ys : List Str, x = .str a ∧ xs = [.ref p] ∧ (SqL C.K H p (ys.map V.str) ∨ SqT C.K H p (ys.map V.str)) ∧ (ys.map (·.length)).sum + ys.length * a.length ≤ 16777216 ∧ Q (.str (Txt.join a ys)) H) ta tb) y Q := by
  intro F σ H K wd k
  refine w F σ H _ wd fun x H1 z y1 w1 g1 s1 r1 q1 => ?_
  obtain ⟨a, rfl, q1⟩ := q1
  have e := rp_str r1
  subst e
  refine ⟨⟨a, rfl⟩, q1 F σ H1 _ w1 fun x2 H2 z' y2 w2 g2 s2 r2 q2 => ?_⟩
  obtain ⟨d, ys, rfl, hi, hz, hq⟩ := q2
  obtain ⟨p, us, rfl, h1, h2⟩ := rp_items r2 hi
  have e := rpA_strs h2
  subst e
  exact ⟨a, p, ys, rfl, rfl, h1.elim (fun z => .inl z.sq) (fun z => .inr z.sq), hz, k _ H2 (.d (.str _)) y2 w2 (g1.trans g2) (s1.trans s2) (.str _) hq⟩
end
end Tq
set_option maxRecDepth 100000
set_option maxHeartbeats 2000000
namespace Tq
open PySem PySem.Spec PyProof.Rows L2
section
variable {C : Ct} {y : S} {ta tb tc te : TE} {t u : TT} {tx tz : TS} {ts : TA} {e : En} {R : Bool → S → Prop}
theorem EnOk.go {σ σ' : St} {y' : S} {H H' : Hp} {E : Ends} (k : EnOk C F σ y H e E) (g : Go F σ y H σ' y' H') : EnOk C F σ' y' H' e E :=
  ⟨fun a b c w g2 q => k.nx a b c w (g.trans g2) q, fun a b c d f w g2 r q => k.rt a b c d f w (g.trans g2) r q, fun a b c w g2 q => k.bk a b c w (g.trans g2) q, fun a b c w g2 q => k.ct a b c w (g.trans g2) q⟩
theorem wS_seq (w : wS C tx y { e with nx := fun y1 => wS C tz y1 e }) : wS C (tSeq tx tz) y e := by
  intro F σ H E st wd k
  refine w F σ H _ st wd ⟨fun σ1 H1 y1 w1 g1 q => ?_, k.rt, k.bk, k.ct⟩
  exact q F σ1 H1 E st w1 (k.go g1)
theorem wS_next (h : e.nx y) : wS C tNext y e := fun F σ H E st wd k => k.nx σ H y wd GoH.refl h
theorem wS_break (h : e.bk y) : wS C tBreak y e := fun F σ H E st wd k => k.bk σ H y wd GoH.refl h
theorem wS_cont (h : e.ct y) : wS C tCont y e := fun F σ H E st wd k => k.ct σ H y wd GoH.refl h
theorem wS_ret (w : wE C te y fun z y1 => e.rt z y1) : wS C (tRet te) y e := by
  intro F σ H E st wd k
  exact w F σ H _ wd fun v H1 z y1 w1 g1 s1 r1 q => k.rt σ v H1 z y1 w1 g1 r1 q
theorem wS_retN (h : e.rt (.d .none) y) : wS C tRetN y e := fun F σ H E st wd k => k.rt σ .non H (.d .none) y wd GoH.refl .non h
theorem wS_drop (w : wE C te y fun z y1 => e.nx y1) : wS C (tDrop te) y e := by
  intro F σ H E st wd k
  exact w F σ H _ wd fun v H1 z y1 w1 g1 s1 r1 q => k.nx σ H1 y1 w1 g1 q
theorem wS_asg {i : Nat} (w : wE C te y fun z y1 => ∃ d, z = .d d ∧ e.nx (y1.set i (some (.d d)))) (hp : i ≠ 0 ∨ C.pp = false := by first | exact Or.inr rfl | exact Or.inl (by decide)) : wS C (tAsg te (gName i)) y e := by
  intro F σ H E st wd k
  refine w F σ H _ wd fun v H1 z y1 w1 g1 s1 r1 q => ?_
  obtain ⟨d, rfl, q⟩ := q
  exact k.nx _ H1 _ (w1.set_d hp r1) (g1.trans go_set_d) q
theorem wS_if (w : wT C t y fun b y1 => if b = true then wS C tx y1 e else wS C tz y1 e) : wS C (tIfS t tx tz) y e := by
  intro F σ H E st wd k
  refine w F σ H _ wd fun b H1 y1 w1 g1 s1 q => ?_
  cases b with
  | true => exact q F σ H1 E st w1 (k.go g1)
  | false => exact q F σ H1 E st w1 (k.go g1)
theorem wS_par {i j : Nat} (w : wD C ts y fun ds y1 => ∃ d g, ds = [d, g] ∧ e.nx ((y1.set i (some (.d d))).set j (some (.d g)))) (hp : i ≠ 0 ∨ C.pp = false := by first | exact Or.inr rfl | exact Or.inl (by decide)) (hq : j ≠ 0 ∨ C.pp = false := by first | exact Or.inr rfl | exact Or.inl (by decide)) : wS C (tPar i j ts) y e := by
  intro F σ H E st wd k
  refine w F σ H _ wd fun vs H1 ds y1 w1 g1 s1 r1 q => ?_
  obtain ⟨d, g, rfl, q⟩ := q
  obtain ⟨v, u, rfl, rv, ru⟩ := rpA2 r1
  refine ⟨v, u, rfl, k.nx _ H1 _ ((w1.set_d hp rv).set_d hq (ru.go go_set_d)) ((g1.trans go_set_d).trans go_set_d) q⟩
theorem wS_aug {i : Nat} {f : Int → Int → Int} {a : Int} (hx : y[i]? = some (some (.d (.int a)))) (w : wE C te y fun z y1 => ∃ b, z = .d (.int b) ∧ e.nx (y1.set i (some (.d (.int (f a b)))))) (hp : i ≠ 0 ∨ C.pp = false := by first | exact Or.inr rfl | exact Or.inl (by decide)) : wS C (tAug i te (ipI f)) y e := by
  intro F σ H E st wd k
  obtain ⟨x, h1, h2⟩ := wd.slot i _ hx
  refine ⟨x, h1, w F σ H _ wd fun v H1 z y1 w1 g1 s1 r1 q => ?_⟩
  obtain ⟨b, rfl, q⟩ := q
  exact ⟨a, b, rp_int h2, rp_int r1, k.nx _ H1 _ (w1.set_d hp (.int _)) (g1.trans go_set_d) q⟩
theorem wS_mono {e' : En} (h : wS C tx y e) (h1 : ∀ y, e.nx y → e'.nx y) (h2 : ∀ z y, e.rt z y → e'.rt z y) (h3 : ∀ y, e.bk y → e'.bk y) (h4 : ∀ y, e.ct y → e'.ct y) : wS C tx y e' := fun F σ H E st wd k =>
  h F σ H E st wd ⟨fun a b c w g q => k.nx a b c w g (h1 _ q), fun a b c d f w g r q => k.rt a b c d f w g r (h2 _ _ q), fun a b c w g q => k.bk a b c w g (h3 _ q), fun a b c w g q => k.ct a b c w g (h4 _ q)⟩
/-! ### the usual pairs -/
theorem wS_seqA {i : Nat} (w : wE C te y fun z y1 => ∃ d, z = .d d ∧ wS C tz (y1.set i (some (.d d))) e) (hp : i ≠ 0 ∨ C.pp = false := by first | exact Or.inr rfl | exact Or.inl (by decide)) : wS C (tSeq (tAsg te (gName i)) tz) y e := wS_seq (wS_asg w hp)
theorem wS_seqP {i j : Nat} (w : wD C ts y fun ds y1 => ∃ d g, ds = [d, g] ∧ wS C tz ((y1.set i (some (.d d))).set j (some (.d g))) e) (hp : i ≠ 0 ∨ C.pp = false := by first | exact Or.inr rfl | exact Or.inl (by decide)) (hq : j ≠ 0 ∨ C.pp = false := by first | exact Or.inr rfl | exact Or.inl (by decide)) : wS C (tSeq (tPar i j ts) tz) y e := wS_seq (wS_par w hp hq)
theorem wS_seqI (w : wT C t y fun b y1 => if b = true then wS C tx y1 { nx := fun y2 => wS C tz y2 e, rt := e.rt, bk := e.bk, ct := e.ct } else wS C tz y1 e) : wS C (tSeq (tIfS t tx tNext) tz) y e := by
  refine wS_seq (wS_if (wT_mono w fun b y1 h => ?_))
  cases b with
  | true => exact h
  | false => exact wS_next h
theorem wS_ifN (w : wT C t y fun b y1 => if b = true then wS C tx y1 e else e.nx y1) : wS C (tIfS t tx tNext) y e := by
  refine wS_if (wT_mono w fun b y1 h => ?_)
  cases b with
  | true => exact h
  | false => exact wS_next h
/-! ### what is walked -/
def JOk (C : Ct) (F : Fr) (J : It) (σ : St) (y : S) (H : Hp) (xs : List D) : Prop := ∀ (F1 : Fr) σ1 y1 H1, Wd C F1 σ1 y1 H1 → GoH (Mv F σ y) H (Mv F1 σ1 y1) H1 → ∀ i : Nat, (i < xs.length → J.go i H1) ∧ (xs.length ≤ i → J.stop i H1) ∧
  ∀ x, xs[i]? = some x → ∀ v H2, J.yld i H1 v H2 → (∀ a o, H1 a = some o → H2 a = some o) ∧ Rp C.K (Mv F1 σ1 y1) H2 v x
def wI (C : Ct) (wi : TI) (y : S) (Q : List D → S → Prop) : Prop := ∀ (F : Fr) σ H (R : It → Hp → Prop), Wd C F σ y H → (∀ J H' xs y', Wd C F σ y' H' → Go F σ y H σ y' H' → Sh y y' → JOk C F J σ y' H' xs → Q xs y' → R J H') → wi σ H R
variable {Qi : List D → S → Prop} {wi : TI}
theorem wI_list (w : wE C te y fun z y1 => ∃ xs, z = .d (.list xs) ∧ Qi xs y1) : wI C (iList C.K te) y Qi := by
  intro F σ H R wd k
  refine w F σ H _ wd fun v H1 z y1 w1 g1 s1 r1 q => ?_
  obtain ⟨xs, rfl, q⟩ := q
  obtain ⟨a, us, rfl, h1, h2⟩ := rp_lst r1
  refine ⟨a, rfl, ⟨us, h1.sq⟩, k _ H1 xs y1 w1 g1 s1 (fun F1 σ2 y2 H2 w2 g2 i => ?_) q⟩
  have e1 := (h1.go g2).sq
  have e2 := h2.go g2
  refine ⟨fun hi => ?_, fun hi => ⟨us, e1, by rw [h2.len]; exact hi⟩, fun x hx v H3 hy => ?_⟩
  · have : i < us.length := by rw [h2.len]; exact hi
    exact ⟨us, us[i], e1, by simp [this]⟩
  · obtain ⟨rfl, hv⟩ := hy
    obtain ⟨d, hd, rd⟩ := e2.getV (hv us e1)
    rw [hx] at hd
    cases hd
    exact ⟨fun _ _ e => e, rd⟩
theorem wI_tup (w : wE C te y fun z y1 => ∃ xs, z = .d (.tuple xs) ∧ Qi xs y1) : wI C (iTup C.K te) y Qi := by
  intro F σ H R wd k
  refine w F σ H _ wd fun v H1 z y1 w1 g1 s1 r1 q => ?_
  obtain ⟨xs, rfl, q⟩ := q
  obtain ⟨a, us, rfl, h1, h2⟩ := rp_tup r1
  refine ⟨a, rfl, ⟨us, h1.sq⟩, k _ H1 xs y1 w1 g1 s1 (fun F1 σ2 y2 H2 w2 g2 i => ?_) q⟩
  have e1 := (h1.go g2).sq
  have e2 := h2.go g2
  refine ⟨fun hi => ?_, fun hi => ⟨us, e1, by rw [h2.len]; exact hi⟩, fun x hx v H3 hy => ?_⟩
  · have : i < us.length := by rw [h2.len]; exact hi
    exact ⟨us, us[i], e1, by simp [this]⟩
  · obtain ⟨rfl, hv⟩ := hy
    obtain ⟨d, hd, rd⟩ := e2.getV (hv us e1)
    rw [hx] at hd
    cases hd
    exact ⟨fun _ _ e => e, rd⟩
/-- the signs of a text -/
def signs (z : Str) : List D := z.cps.toList.map fun c => .str ⟨#[c]⟩
theorem signs_len (z : Str) : (signs z).length = z.cps.size := by unfold signs; rw [List.length_map, Array.length_toList]
theorem wI_str (w : wE C te y fun z y1 => ∃ x, z = .d (.str x) ∧ Qi (signs x) y1) : wI C (iStr te) y Qi := by
  intro F σ H R wd k
  refine w F σ H _ wd fun v H1 z y1 w1 g1 s1 r1 q => ?_
  obtain ⟨x, rfl, q⟩ := q
  refine ⟨x, rp_str r1, k _ H1 (signs x) y1 w1 g1 s1 (fun F1 σ2 y2 H2 w2 g2 i => ⟨fun hi => ?_, fun hi => ?_, fun d hd v H3 hy => ?_⟩) q⟩
  · rw [signs_len] at hi; exact hi
  · rw [signs_len] at hi; exact hi
  · obtain ⟨rfl, c, hc, rfl⟩ := hy
    refine ⟨fun _ _ e => e, ?_⟩
    unfold signs at hd
    rw [List.getElem?_map, Array.getElem?_toList, hc] at hd
    cases hd
    exact .str _
def rangeD (lo : Int) (n : Nat) : List D := (List.range n).map fun k => .int (lo + (k : Nat))
theorem rangeD_len (lo : Int) (n : Nat) : (rangeD lo n).length = n := by unfold rangeD; rw [List.length_map, List.length_range]
theorem rangeD_get {lo : Int} {n i : Nat} {x : D} (h : (rangeD lo n)[i]? = some x) : i < n ∧ x = .int (lo + (i : Nat)) := by
  have hl : i < n := by have := (List.getElem?_eq_some_iff.mp h).1; rwa [rangeD_len] at this
  unfold rangeD at h
  rw [List.getElem?_map, List.getElem?_range hl] at h
  cases h
  exact ⟨hl, rfl⟩
theorem wI_rng1 (w : wD C ts y fun ds y1 => ∃ j : Int, ds = [.int j] ∧ -(2 ^ 62) ≤ j ∧ j < 2 ^ 62 ∧ Qi (rangeD 0 j.toNat) y1) : wI C (iRng1 ts) y Qi := by
  intro F σ H R wd k
  refine w F σ H _ wd fun vs H1 ds y1 w1 g1 s1 r1 q => ?_
  obtain ⟨j, rfl, h1, h2, q⟩ := q
  obtain ⟨v, rfl, rv⟩ := rpA1 r1
  have e := rp_int rv
  subst e
  refine ⟨j, rfl, h1, h2, k _ H1 _ y1 w1 g1 s1 (fun F1 σ2 y2 H2 w2 g2 i => ⟨fun hi => ?_, fun hi => ?_, fun d hd v H3 hy => ?_⟩) q⟩
  · rw [rangeD_len] at hi; exact hi
  · rw [rangeD_len] at hi; exact hi
  · obtain ⟨rfl, rfl⟩ := hy
    obtain ⟨_, rfl⟩ := rangeD_get hd
    exact ⟨fun _ _ e => e, .int _⟩
theorem wI_rng2 (w : wD C ts y fun ds y1 => ∃ i j : Int, ds = [.int i, .int j] ∧ (-(2 ^ 62) ≤ i ∧ i < 2 ^ 62 ∧ -(2 ^ 62) ≤ j ∧ j < 2 ^ 62) ∧ Qi (rangeD i (j - i).toNat) y1) : wI C (iRng2 ts) y Qi := by
  intro F σ H R wd k
  refine w F σ H _ wd fun vs H1 ds y1 w1 g1 s1 r1 q => ?_
  obtain ⟨i0, j, rfl, h1, q⟩ := q
  obtain ⟨v, u, rfl, rv, ru⟩ := rpA2 r1
  have e := rp_int rv
  have e' := rp_int ru
  subst e e'
  refine ⟨i0, j, rfl, h1, k _ H1 _ y1 w1 g1 s1 (fun F1 σ2 y2 H2 w2 g2 i => ⟨fun hi => ?_, fun hi => ?_, fun d hd v H3 hy => ?_⟩) q⟩
  · rw [rangeD_len] at hi; exact hi
  · rw [rangeD_len] at hi; exact hi
  · obtain ⟨rfl, rfl⟩ := hy
    obtain ⟨_, rfl⟩ := rangeD_get hd
    exact ⟨fun _ _ e => e, .int _⟩
/-! ### for, while -/
/-- the target takes a datum -/
def wG (C : Ct) (g : TG) (d : D) (y : S) (Q : S → Prop) : Prop := ∀ (F : Fr) σ H (v : V) (R : St → Hp → Prop), Wd C F σ y H → Rp C.K (Mv F σ y) H v d → (∀ σ' y', Wd C F σ' y' H → Go F σ y H σ' y' H → Q y' → R σ' H) → g v σ H R
variable {g : TG} {Qg : S → Prop}
theorem wG_name {i : Nat} {d : D} (h : Qg (y.set i (some (.d d)))) (hp : i ≠ 0 ∨ C.pp = false := by first | exact Or.inr rfl | exact Or.inl (by decide)) : wG C (gName i) d y Qg := fun F σ H v R wd r k => k _ _ (wd.set_d hp r) go_set_d h
def wGs (C : Ct) (g : TGs) (ds : List D) (y : S) (Q : S → Prop) : Prop := ∀ (F : Fr) σ H (vs : List V) (R : St → Hp → Prop), Wd C F σ y H → RpA C.K (Mv F σ y) H vs ds → (∀ σ' y', Wd C F σ' y' H → Go F σ y H σ' y' H → Q y' → R σ' H) → g vs σ H R
theorem wGs_nil (h : Qg y) : wGs C gNil [] y Qg := fun F σ H vs R wd r k => by
  cases r
  exact ⟨rfl, k σ y wd GoH.refl h⟩
theorem wGs_cons {gs : TGs} {d : D} {ds : List D} (h : wG C g d y fun y1 => wGs C gs ds y1 Qg) : wGs C (gCons g gs) (d :: ds) y Qg := fun F σ H vs R wd r k => by
  cases r with
  | @cons v _ vs _ r1 r2 =>
    refine ⟨v, vs, rfl, h F σ H v _ wd r1 fun σ1 y1 w1 g1 q1 => ?_⟩
    exact q1 F σ1 H vs R w1 (r2.go g1) fun σ2 y2 w2 g2 q2 => k σ2 y2 w2 (g1.trans g2) q2
theorem wG_tup {n : Nat} {gs : TGs} {ds : List D} (hn : ds.length = n) (h : wGs C gs ds y Qg) : wG C (gTup C.K n gs) (.tuple ds) y Qg := fun F σ H v R wd r k => by
  obtain ⟨a, us, rfl, h1, h2⟩ := rp_tup r
  exact ⟨a, us, rfl, h1.sq, by rw [h2.len]; exact hn, h F σ H us R wd h2 k⟩
theorem wS_asgG (w : wE C te y fun z y1 => ∃ d, z = .d d ∧ wG C g d y1 e.nx) : wS C (tAsg te g) y e := by
  intro F σ H E st wd k
  refine w F σ H _ wd fun v H1 z y1 w1 g1 s1 r1 q => ?_
  obtain ⟨d, rfl, q⟩ := q
  exact q F σ H1 v _ w1 r1 fun σ2 y2 w2 g2 q2 => k.nx σ2 H1 y2 w2 (g1.trans g2) q2
theorem wS_for (w : wI C wi y fun xs y1 => ∃ I : Nat → S → Prop, I 0 y1 ∧ (∀ i x y2, xs[i]? = some x → I i y2 → wG C g x y2 fun y3 => wS C tx y3 { nx := I (i + 1), ct := I (i + 1), bk := e.nx, rt := e.rt }) ∧ (∀ y2, I xs.length y2 → e.nx y2)) :
    wS C (tFor wi g tx) y e := by
  intro F σ H E st wd k
  refine w F σ H _ wd fun J H1 xs y1 w1 g1 s1 hJ ⟨I, h0, hs, hd⟩ => ?_
  refine ⟨fun i m σ2 H2 => m = xs.length - i ∧ i ≤ xs.length ∧ ∃ y2, Wd C F σ2 y2 H2 ∧ Go F σ y1 H1 σ2 y2 H2 ∧ I i y2, ⟨xs.length, by simp, Nat.zero_le _, y1, w1, GoH.refl, h0⟩, ?_⟩
  rintro i m σ2 H2 ⟨rfl, hi, y2, w2, g2, hI⟩
  obtain ⟨j1, j2, j3⟩ := hJ F σ2 y2 H2 w2 g2 i
  by_cases hlt : i < xs.length
  · refine .inr ⟨j1 hlt, fun σ3 H3 => ∃ y3, Wd C F σ3 y3 H3 ∧ Go F σ y1 H1 σ3 y3 H3 ∧ I (i + 1) y3, fun σ3 H3 ⟨y3, w3, g3, h3⟩ => ⟨xs.length - (i + 1), by omega, rfl, hlt, y3, w3, g3, h3⟩, fun v H3 hy => ?_⟩
    have ex : xs[i]? = some xs[i] := List.getElem?_eq_getElem hlt
    obtain ⟨gr, rv⟩ := j3 _ ex v H3 hy
    have w3 := w2.grow gr
    have g3 := g2.trans (go_grow (F := F) (σ := σ2) (y := y2) gr)
    refine hs i _ y2 ex hI F σ2 H3 v _ w3 rv fun σ4 y4 w4 g4 q4 => ?_
    refine q4 F σ4 H3 _ st w4 ⟨fun σ5 H5 y5 w5 g5 q5 => ⟨y5, w5, (g3.trans g4).trans g5, q5⟩, fun σ5 v5 H5 z5 y5 w5 g5 r5 q5 => k.rt σ5 v5 H5 z5 y5 w5 (((g1.trans g3).trans g4).trans g5) r5 q5,
      fun σ5 H5 y5 w5 g5 q5 => k.nx σ5 H5 y5 w5 (((g1.trans g3).trans g4).trans g5) q5, fun σ5 H5 y5 w5 g5 q5 => ⟨y5, w5, (g3.trans g4).trans g5, q5⟩⟩
  · have ei : i = xs.length := by omega
    subst ei
    exact .inl ⟨j2 (Nat.le_refl _), k.nx σ2 H2 y2 w2 (g1.trans g2) (hd y2 hI)⟩
/-- W: a word of the slots, with a measure -/
theorem wS_while (W : Nat → S → Prop) (h0 : ∃ m, W m y) (hs : ∀ m y1, W m y1 → wT C t y1 fun b y2 => if b = true then wS C tx y2 { nx := fun y3 => ∃ m', m' < m ∧ W m' y3, ct := fun y3 => ∃ m', m' < m ∧ W m' y3, bk := e.nx, rt := e.rt } else e.nx y2) :
    wS C (tWhile t tx) y e := by
  intro F σ H E st wd k
  obtain ⟨m0, h0⟩ := h0
  refine ⟨fun m σ1 H1 => ∃ y1, Wd C F σ1 y1 H1 ∧ Go F σ y H σ1 y1 H1 ∧ W m y1, ⟨m0, y, wd, GoH.refl, h0⟩, ?_⟩
  rintro m σ1 H1 ⟨y1, w1, g1, hw⟩
  refine hs m y1 hw F σ1 H1 _ w1 fun b H2 y2 w2 g2 s2 q => ?_
  cases b with
  | true =>
    refine ⟨fun σ3 H3 => ∃ m', m' < m ∧ ∃ y3, Wd C F σ3 y3 H3 ∧ Go F σ y H σ3 y3 H3 ∧ W m' y3, fun σ3 H3 ⟨m', hm, z⟩ => ⟨m', hm, z⟩, ?_⟩
    exact q F σ1 H2 _ st w2 ⟨fun σ5 H5 y5 w5 g5 ⟨m', hm, q5⟩ => ⟨m', hm, y5, w5, (g1.trans g2).trans g5, q5⟩, fun σ5 v5 H5 z5 y5 w5 g5 r5 q5 => k.rt σ5 v5 H5 z5 y5 w5 ((g1.trans g2).trans g5) r5 q5,
      fun σ5 H5 y5 w5 g5 q5 => k.nx σ5 H5 y5 w5 ((g1.trans g2).trans g5) q5, fun σ5 H5 y5 w5 g5 ⟨m', hm, q5⟩ => ⟨m', hm, y5, w5, (g1.trans g2).trans g5, q5⟩⟩
  | false => exact k.nx σ1 H2 y2 w2 (g1.trans g2) q
end
end Tq
set_option maxRecDepth 100000
set_option maxHeartbeats 2000000
namespace Tq
open PySem PySem.Spec PyProof.Rows L2
section
variable {C : Ct} {F : Fr} {σ : St} {y y' : S} {H H' : Hp}
theorem isO_none {j i : Nat} (h : isO (y.set j none) i = true) : i ≠ j ∧ isO y i = true := by
  rcases isO_set h with ⟨_, _, z, e, _⟩ | h | ⟨e, l⟩
  · cases e
  · exact h
  · have := isO_lt h; rw [List.length_set] at this; omega
theorem isO_none' {j i : Nat} (n : i ≠ j) : isO (y.set j none) i = isO y i := by
  unfold isO
  rw [List.getElem?_set_ne (Ne.symm n)]
theorem sh_none {j : Nat} (h : isO y j = false) : Sh y (y.set j none) := fun i => by
  by_cases e : i = j
  · subst e
    rw [h]
    cases q : isO (y.set i none) i with
    | false => rfl
    | true => exact absurd rfl (isO_none q).1
  · exact isO_none' e
/-- a slot is forgotten, its value may be another one -/
theorem Wd.unset (w : Wd C F σ y H) {j : Nat} {τ : St} (hl : τ.length = σ.length) (hτ : ∀ i, i ≠ j → τ[i]? = σ[i]?) (hp : j ≠ 0 ∨ C.pp = false) : Wd C F τ (y.set j none) H ∧ Go F σ y H τ (y.set j none) H := by
  have own : ∀ a, Own τ (y.set j none) a → Own σ y a := by
    rintro a ⟨i, hi, e⟩
    obtain ⟨n, o⟩ := isO_none hi
    rw [hτ i n] at e
    exact ⟨i, o, e⟩
  have g : Go F σ y H τ (y.set j none) H := fun a o n e => ⟨fun z => n (z.elim .inl fun z => .inr (own a z)), e⟩
  refine ⟨⟨w.keep, w.live0, w.live, by rw [hl, List.length_set]; exact w.len, fun i z e => ?_, fun i k a h1 h2 e1 e2 => ?_, fun a h => w.frsh a (own a h), fun e => ?_, w.sm, fun st i a h e s => ?_⟩, g⟩
  · have n : i ≠ j := by
      rintro rfl
      have hl := (List.getElem?_eq_some_iff.mp e).1
      rw [List.length_set] at hl
      rw [List.getElem?_set_self hl] at e
      cases e
    rw [List.getElem?_set_ne (Ne.symm n)] at e
    rw [hτ i n]
    have s := w.slot i z e
    cases z with
    | d d => obtain ⟨x, h1, h2⟩ := s; exact ⟨x, h1, h2.go g⟩
    | pu n => exact s
    | own ds => obtain ⟨a, xs, h1, h2, h3⟩ := s; exact ⟨a, xs, h1, h2, h3.go g⟩
  · obtain ⟨n1, o1⟩ := isO_none h1
    obtain ⟨n2, o2⟩ := isO_none h2
    rw [hτ i n1] at e1
    rw [hτ k n2] at e2
    exact w.dist i k a o1 o2 e1 e2
  · rcases hp with hp | hp
    · rw [hτ 0 (Ne.symm hp)]; exact w.pin e
    · rw [hp] at e; cases e
  · obtain ⟨n1, o1⟩ := isO_none h
    rw [hτ i n1] at e
    exact w.nb st i a o1 e s
theorem own_sh (s : Sh y y') {a : Addr} : Own σ y' a ↔ Own σ y a := by
  constructor
  · rintro ⟨i, hi, e⟩; exact ⟨i, by rw [← s i]; exact hi, e⟩
  · rintro ⟨i, hi, e⟩; exact ⟨i, by rw [s i]; exact hi, e⟩
theorem own_live (w : Wd C F σ y H) {a : Addr} (h : Own σ y a) : H a ≠ none := fun e => w.new e (.inr h)
/-- a frame within, at the heap as it stands: what is owned may change; l is apart -/
def sub (F : Fr) (σ : St) (y : S) (H : Hp) (l : Addr) : Fr := ⟨H, Own σ y, fun a => Mv F σ y a ∨ a = l, F.p, false⟩
theorem sub_mv {l a : Addr} {H0 : Hp} {u : S} (s : Sh u y) : Mv (sub F σ u H0 l) σ y a ↔ (Mv F σ u a ∨ a = l) := by
  constructor
  · rintro (z | z)
    · exact z
    · exact .inl (.inr ((own_sh s).mp z))
  · exact .inl
theorem slots_go {M : Addr → Prop} {z : Y} {v : Option (Option V)} (g : GoH (Mv F σ y) H M H') (hk : ∀ a o, v = some (some (.ref a)) → z.o = true → H a = some o → H' a = some o) (s : SlotOk C.K (Mv F σ y) H v z) : SlotOk C.K M H' v z := by
  cases z with
  | d d => obtain ⟨x, h1, h2⟩ := s; exact ⟨x, h1, h2.go g⟩
  | pu n => obtain ⟨b, h1, x, c, d, h2, h3⟩ := s; exact ⟨b, h1, x, c, d, hk _ _ h1 rfl h2, h3⟩
  | own ds => obtain ⟨b, xs, h1, h2, h3⟩ := s; exact ⟨b, xs, h1, hk _ _ h1 rfl h2, h3.go g⟩
theorem Wd.into (w : Wd C F σ y H) {l : Addr} {o : HO} (h : H l = none) : Wd C (sub F σ y (upd H l o) l) σ y (upd H l o) := by
  have nl : ¬ Mv F σ y l := w.new h
  have g : GoH (Mv F σ y) H (Mv (sub F σ y (upd H l o) l) σ y) (upd H l o) := fun a u n e => by
    have ne : a ≠ l := ne_of_none e h
    exact ⟨fun z => ((sub_mv (Sh.refl y)).mp z).elim n ne, by rw [upd_ne ne]; exact e⟩
  have lv : ∀ a, (Mv F σ y a ∨ a = l) → upd H l o a ≠ none := by
    rintro a (z | z) e
    · by_cases ha : a = l
      · exact nl (ha ▸ z)
      · rw [upd_ne ha] at e
        rcases z with z | z
        · exact w.live a z e
        · exact own_live w z e
    · rw [z, upd_same] at e; cases e
  exact ⟨fun a u _ e => e, lv, lv, w.len, fun i z e => slots_go g (fun a u _ _ e => grow_upd h a u e) (w.slot i z e), w.dist, fun a ha => .inl ha, w.pin, fun a z => .inl (.inr z), fun q => nomatch q⟩
/-- the frame within, with l written, at the heap as it stands then -/
theorem Wd.reb {u : S} {H0 : Hp} {l : Addr} {o : HO} (w : Wd C (sub F σ u H0 l) σ y H) (s : Sh u y) (nl : ¬ Own σ u l) : Wd C (sub F σ u (upd H l o) l) σ y (upd H l o) := by
  have g : GoH (Mv (sub F σ u H0 l) σ y) H (Mv (sub F σ u (upd H l o) l) σ y) (upd H l o) := fun a v n e => by
    have ne : a ≠ l := fun z => n ((sub_mv s).mpr (.inr z))
    exact ⟨fun z => n ((sub_mv s).mpr ((sub_mv s).mp z)), by rw [upd_ne ne]; exact e⟩
  have lv : ∀ a, (Mv F σ u a ∨ a = l) → upd H l o a ≠ none := fun a z e => by
    by_cases ha : a = l
    · rw [ha, upd_same] at e; cases e
    · rw [upd_ne ha] at e; exact w.live a z e
  refine ⟨fun a v _ e => e, lv, lv, w.len, fun i z e => slots_go g (fun a v e1 e2 e3 => ?_) (w.slot i z e), w.dist, fun a ha => .inl ((own_sh s).mp ha), w.pin, fun a z => .inl (.inr z), fun q => nomatch q⟩
  have ne : a ≠ l := by
    rintro rfl
    exact nl ((own_sh s).mp ⟨i, by unfold isO; rw [e]; exact e2, e1⟩)
  rw [upd_ne ne]; exact e3
theorem Wd.regrow {u : S} {H0 : Hp} {l : Addr} (w : Wd C (sub F σ u H0 l) σ y H) (s : Sh u y) (gr : ∀ a o, H a = some o → H' a = some o) : Wd C (sub F σ u H' l) σ y H' := by
  have w2 := w.grow gr
  exact ⟨fun a v _ e => e, w2.live, w2.live, w2.len, w2.slot, w2.dist, fun a ha => .inl ((own_sh s).mp ha), w2.pin, fun a z => .inl (.inr z), fun q => nomatch q⟩
theorem Wd.outOf {u : S} {H0 H2 : Hp} {l : Addr} (w : Wd C F σ u H) (h : H l = none) (w2 : Wd C (sub F σ u H0 l) σ y H2) (s : Sh u y) (kp : ∀ a o, ¬ Own σ u a → H a = some o → H2 a = some o) :
    Wd C F σ y H2 ∧ Go F σ u H σ y H2 ∧ ¬ Mv F σ y l ∧ GoH (Mv (sub F σ u H0 l) σ y) H2 (Mv F σ y) H2 ∧ GoH (Mv F σ u) H (Mv (sub F σ u H0 l) σ y) H2 := by
  have nl : ¬ Mv F σ u l := w.new h
  have mv : ∀ a, Mv F σ y a ↔ Mv F σ u a := fun a => ⟨fun z => z.elim .inl fun z => .inr ((own_sh s).mp z), fun z => z.elim .inl fun z => .inr ((own_sh s).mpr z)⟩
  have gd : GoH (Mv (sub F σ u H0 l) σ y) H2 (Mv F σ y) H2 := fun a v n e => ⟨fun z => n ((sub_mv s).mpr (.inl ((mv a).mp z))), e⟩
  have st : ∀ a o, ¬ Mv F σ u a → H a = some o → H2 a = some o := fun a o n e => kp a o (fun z => n (.inr z)) e
  refine ⟨⟨fun a v n e => ?_, w.live0, fun a m => w2.live a (.inl (.inl m)), w2.len, fun i z e => slots_go gd (fun _ _ _ _ e => e) (w2.slot i z e), w2.dist, fun a ha => w.frsh a ((own_sh s).mp ha), w2.pin, w.sm, fun q i a h e => w.nb q i a (by rw [← s i]; exact h) e⟩, fun a v n e => ⟨fun z => n ((mv a).mp z), st a v n e⟩, fun z => nl ((mv l).mp z), gd, fun a v n e => ⟨fun z => ((sub_mv s).mp z).elim n (ne_of_none e h), st a v n e⟩⟩
  refine kp a v (fun z => ?_) (w.keep a v n e)
  rcases w.frsh a z with q | q
  · exact n q
  · rw [q] at e; cases e
end
section
variable {C : Ct} {y : S} {te : TE} {tt : TT} {wi : TI} {Q : Z → S → Prop}
/-- [e for x in .. if ..] -/
theorem wE_lc {j : Nat} (hj : isO y j = false)
    (w : wI C wi y fun xs y1 => ∃ I : Nat → List D → S → Prop, xs.length ≤ sizeLine ∧ I 0 [] (y1.set j none) ∧
      (∀ i x acc y2, xs[i]? = some x → I i acc y2 → wT C tt (y2.set j (some (.d x))) fun b y3 => if b = true then wE C te y3 fun z y4 => ∃ d, z = .d d ∧ I (i + 1) (acc ++ [d]) (y4.set j none) else I (i + 1) acc (y3.set j none)) ∧
      (∀ acc y2, I xs.length acc y2 → acc.length ≤ xs.length → Q (.d (.list acc)) y2))
    (hp : j ≠ 0 ∨ C.pp = false := by first | exact Or.inr rfl | exact Or.inl (by decide)) :
    wE C (tLc wi (gName j) tt te [j]) y Q := by
  intro F σ H K wd k
  refine w F σ H _ wd fun J H1 xs y1 w1 g1 s1 hJ ⟨I, hz, h0, hs, hd⟩ => ?_
  intro l hl
  have wz : wipe σ [j] = σ.set j none := rfl
  obtain ⟨w1', g1'⟩ := w1.unset (j := j) (τ := σ) rfl (fun _ _ => rfl) hp
  have sz : Sh y1 (y1.set j none) := sh_none ((s1 j).trans hj)
  have uj : isO (y1.set j none) j = false := (sz j).trans ((s1 j).trans hj)
  generalize y1.set j none = u at w1' g1' sz h0 uj
  have wi1 := w1'.into (l := l) (o := .lst []) hl
  have nOl : ¬ Own σ u l := fun z => w1'.new hl (.inr z)
  refine ⟨fun i m H2 => m = xs.length - i ∧ i ≤ xs.length ∧ ∃ y2 acc vs, Wd C (sub F σ u H2 l) σ y2 H2 ∧ Sh u y2 ∧ (∀ a o, ¬ Own σ u a → H1 a = some o → H2 a = some o) ∧ I i acc y2 ∧ H2 l = some (.lst vs) ∧ RpA C.K (Mv (sub F σ u H2 l) σ y2) H2 vs acc ∧ acc.length ≤ i,
    ⟨xs.length, by simp, Nat.zero_le _, u, [], [], wi1, Sh.refl u, fun a o _ e => grow_upd hl a o e, h0, upd_same, .nil, Nat.zero_le _⟩, ?_⟩
  rintro i m H2 ⟨rfl, hi, y2, acc, vs, w2, s2, kp2, hI, hl2, rv2, ha2⟩
  obtain ⟨o1, o2, o3, o4, o5⟩ := w1'.outOf hl w2 s2 kp2
  obtain ⟨j1, j2, j3⟩ := hJ (sub F σ u H2 l) σ y2 H2 w2 (g1'.trans o5) i
  by_cases hlt : i < xs.length
  · refine .inr ⟨j1 hlt, fun H3 => ∃ y3 acc vs, Wd C (sub F σ u H3 l) σ y3 H3 ∧ Sh u y3 ∧ (∀ a o, ¬ Own σ u a → H1 a = some o → H3 a = some o) ∧ I (i + 1) acc y3 ∧ H3 l = some (.lst vs) ∧ RpA C.K (Mv (sub F σ u H3 l) σ y3) H3 vs acc ∧ acc.length ≤ i + 1,
      fun H3 h => ⟨xs.length - (i + 1), by omega, rfl, hlt, h⟩, fun v H3 hy => ?_⟩
    have ex : xs[i]? = some xs[i] := List.getElem?_eq_getElem hlt
    obtain ⟨gr, rv⟩ := j3 _ ex v H3 hy
    have w3 := w2.regrow s2 gr
    have gx : GoH (Mv (sub F σ u H2 l) σ y2) H2 (Mv (sub F σ u H3 l) σ y2) H3 := fun a o n e => ⟨fun z => n ((sub_mv s2).mpr ((sub_mv s2).mp z)), gr a o e⟩
    have gy : GoH (Mv (sub F σ u H2 l) σ y2) H3 (Mv (sub F σ u H3 l) σ y2) H3 := fun a o n e => ⟨fun z => n ((sub_mv s2).mpr ((sub_mv s2).mp z)), e⟩
    have w4 : Wd C (sub F σ u H3 l) (σ.set j (some v)) (y2.set j (some (.d xs[i]))) H3 := w3.set_d hp (rv.go gy)
    have g4 : GoH (Mv (sub F σ u H2 l) σ y2) H2 (Mv (sub F σ u H3 l) (σ.set j (some v)) (y2.set j (some (.d xs[i])))) H3 := gx.trans go_set_d
    have eσ : (wipe σ [j]).set j (some v) = σ.set j (some v) := by rw [wz, List.set_set]
    show wipe ((wipe σ [j]).set j (some v)) [j] = wipe σ [j] ∧ tt ((wipe σ [j]).set j (some v)) H3 _
    rw [eσ]
    refine ⟨by show (σ.set j (some v)).set j none = σ.set j none; rw [List.set_set], ?_⟩
    have back : ∀ {yy : S} {HH : Hp}, Wd C (sub F σ u H3 l) (σ.set j (some v)) yy HH → Sh (y2.set j (some (.d xs[i]))) yy →
        Wd C (sub F σ u H3 l) σ (yy.set j none) HH ∧ Sh u (yy.set j none) ∧ GoH (Mv (sub F σ u H3 l) (σ.set j (some v)) yy) HH (Mv (sub F σ u H3 l) σ (yy.set j none)) HH ∧
          (∀ a o, ¬ Own σ u a → H1 a = some o → HH a = some o) ∧ HH l = some (.lst vs) := by
      intro yy HH ww ss
      obtain ⟨a1, a2⟩ := ww.unset (j := j) (τ := σ) (by rw [List.length_set]) (fun n hn => (List.getElem?_set_ne (Ne.symm hn)).symm) hp
      refine ⟨a1, fun n => ?_, a2, fun a o na e => ww.keep a o na (gr a o (kp2 a o na e)), ww.keep l _ nOl (gr l _ hl2)⟩
      by_cases hn : n = j
      · subst hn
        rw [uj]
        cases q : isO (yy.set n none) n with
        | false => rfl
        | true => exact absurd rfl (isO_none q).1
      · rw [isO_none' hn, ss n]
        have : isO (y2.set j (some (.d xs[i]))) n = isO y2 n := by
          unfold isO
          rw [List.getElem?_set_ne (Ne.symm hn)]
        rw [this]
        exact s2 n
    refine hs i _ acc y2 ex hI (sub F σ u H3 l) _ H3 _ w4 fun b H5 y5 w5 g5 s5 q5 => ?_
    cases b with
    | false =>
      obtain ⟨b1, b2, b3, b4, b5⟩ := back w5 s5
      have b6 := b1.regrow b2 (H' := H5) (fun _ _ e => e)
      have gz : GoH (Mv (sub F σ u H3 l) σ (y5.set j none)) H5 (Mv (sub F σ u H5 l) σ (y5.set j none)) H5 := fun a o n e => ⟨fun z => n ((sub_mv b2).mpr ((sub_mv b2).mp z)), e⟩
      exact ⟨y5.set j none, acc, vs, b6, b2, b4, q5, b5, rv2.go (((g4.trans g5).trans b3).trans gz), by omega⟩
    | true =>
      refine q5 (sub F σ u H3 l) _ H5 _ w5 fun x6 H6 z6 y6 w6 g6 s6 r6 q6 => ?_
      obtain ⟨d, rfl, q6⟩ := q6
      obtain ⟨b1, b2, b3, b4, b5⟩ := back w6 (s5.trans s6)
      have hlen : vs.length = acc.length := rv2.len
      refine ⟨vs, b5, by omega, y6.set j none, acc ++ [d], vs ++ [x6], b1.reb b2 nOl, b2, fun a o na e => ?_, q6, upd_same, ?_, by rw [List.length_append]; simp; omega⟩
      · rw [upd_ne (ne_of_none e hl)]
        exact b4 a o na e
      · have gz : GoH (Mv (sub F σ u H3 l) σ (y6.set j none)) H6 (Mv (sub F σ u (upd H6 l (.lst (vs ++ [x6]))) l) σ (y6.set j none)) (upd H6 l (.lst (vs ++ [x6]))) := fun a o n e => by
          have ne : a ≠ l := fun z => n ((sub_mv b2).mpr (.inr z))
          exact ⟨fun z => n ((sub_mv b2).mpr ((sub_mv b2).mp z)), by rw [upd_ne ne]; exact e⟩
        exact (rv2.go ((((g4.trans g5).trans g6).trans b3).trans gz)).app (.cons (Rp.go (b3.trans gz) r6) .nil)
  · have ei : i = xs.length := by omega
    subst ei
    refine .inl ⟨j2 (Nat.le_refl _), ?_⟩
    exact k _ H2 (.d (.list acc)) y2 o1 ((g1.trans g1').trans o2) ((s1.trans sz).trans s2) (.lst (.inl ⟨o3, .inl hl2⟩) (rv2.go o4)) (hd acc y2 hI ha2)
/-- a comprehension whose turns change nothing -/
theorem wE_lcF {j : Nat} {y' : S} (p : D → Bool) (f : D → D) (hj : isO y j = false)
    (w : wI C wi y fun xs y1 => y1 = y' ∧ xs.length ≤ sizeLine ∧ (∀ x ∈ xs, wT C tt (y'.set j (some (.d x))) fun b y3 => y3 = y'.set j (some (.d x)) ∧ b = p x ∧ (p x = true → wE C te y3 fun z y4 => z = .d (f x) ∧ y4 = y'.set j (some (.d x)))) ∧ Q (.d (.list ((xs.filter p).map f))) (y'.set j none))
    (hp : j ≠ 0 ∨ C.pp = false := by first | exact Or.inr rfl | exact Or.inl (by decide)) :
    wE C (tLc wi (gName j) tt te [j]) y Q := by
  refine wE_lc hj (fun F σ H R wd k => w F σ H R wd fun J H1 xs y1 w1 g1 s1 hJ ⟨e, hz, hs, hq⟩ => k J H1 xs y1 w1 g1 s1 hJ ?_) hp
  subst e
  refine ⟨fun i acc y2 => y2 = y1.set j none ∧ acc = ((xs.take i).filter p).map f, hz, ⟨rfl, rfl⟩, fun i x acc y2 hx ⟨e1, e2⟩ => ?_, fun acc y2 ⟨e1, e2⟩ _ => ?_⟩
  · subst e1 e2
    have hm : x ∈ xs := List.mem_of_getElem? hx
    have ht : xs.take (i + 1) = xs.take i ++ [x] := by rw [List.take_add_one, hx]; rfl
    have es : (y1.set j none).set j (some (.d x)) = y1.set j (some (.d x)) := List.set_set ..
    have ef : (y1.set j (some (.d x))).set j none = y1.set j none := List.set_set ..
    rw [es]
    refine wT_mono (hs x hm) fun b y3 ⟨e3, eb, h3⟩ => ?_
    subst eb e3
    cases hpx : p x with
    | true =>
      show wE C te _ _
      refine wE_mono (h3 hpx) fun z y4 ⟨ez, ey⟩ => ⟨f x, ez, ?_, ?_⟩
      · rw [ey, ef]
      · rw [ht, List.filter_append, List.map_append, List.filter_cons, if_pos hpx]
        rfl
    | false =>
      refine ⟨ef, ?_⟩
      rw [ht, List.filter_append, List.filter_cons, if_neg (by rw [hpx]; simp), List.filter_nil, List.append_nil]
  · subst e1 e2
    rw [List.take_length]
    exact hq
end
end Tq
set_option maxRecDepth 100000
set_option maxHeartbeats 2000000
namespace Tq
open PySem PySem.Spec PyProof.Rows L2
/-! ### owned things -/
section
variable {C : Ct} {F : Fr} {σ : St} {y y' : S} {H H' : Hp}
theorem PuOk.mono {H : Hp} {a : Addr} {m n : Nat} (h : PuOk H a n) (l : m ≤ n) : PuOk H a m := by
  obtain ⟨x, b, c, h1, h2, h3, h4, h5, h6⟩ := h
  exact ⟨x, b, c, h1, h2, h3, h4, h5, by omega⟩
/-- a new thing is taken into a slot, owned -/
theorem Wd.set_own (w : Wd C F σ y H) {i : Nat} {p : Addr} {o : HO} {z : Y} (hz : z.o = true) (hn : H p = none) (hp : i ≠ 0 ∨ C.pp = false)
    (ok : ∀ M, GoH (Mv F σ y) H M (upd H p o) → SlotOk C.K M (upd H p o) (some (some (.ref p))) z) :
    Wd C F (σ.set i (some (.ref p))) (y.set i (some z)) (upd H p o) ∧ Go F σ y H (σ.set i (some (.ref p))) (y.set i (some z)) (upd H p o) := by
  have own : ∀ a, Own (σ.set i (some (.ref p))) (y.set i (some z)) a → a = p ∨ Own σ y a := by
    rintro a ⟨j, hj, e⟩
    rcases isO_set hj with ⟨rfl, hl, _⟩ | ⟨n, hO⟩ | ⟨rfl, hl⟩
    · rw [List.getElem?_set_self (by rw [w.len]; exact hl)] at e
      cases e
      exact .inl rfl
    · rw [List.getElem?_set_ne (Ne.symm n)] at e
      exact .inr ⟨j, hO, e⟩
    · have := isO_lt hj; rw [List.length_set] at this; omega
  have g : Go F σ y H (σ.set i (some (.ref p))) (y.set i (some z)) (upd H p o) := fun a u n e => by
    have ne : a ≠ p := ne_of_none e hn
    refine ⟨?_, by rw [upd_ne ne]; exact e⟩
    rintro (q | q)
    · exact n (.inl q)
    · rcases own a q with q | q
      · exact ne q
      · exact n (.inr q)
  have old : ∀ {j : Nat} {a : Addr}, isO y j = true → σ[j]? = some (some (.ref a)) → a ≠ p := fun hO e z => own_live w ⟨_, hO, e⟩ (z ▸ hn)
  refine ⟨⟨fun a u n e => grow_upd hn a u (w.keep a u n e), w.live0, fun a m e => ?_, by rw [List.length_set, List.length_set]; exact w.len, fun j x e => ?_, fun j k a h1 h2 e1 e2 => ?_, fun a h => ?_, fun e => ?_, w.sm, fun st j a h e s => ?_⟩, g⟩
  · cases q : H a with
    | none => exact w.live a m q
    | some u => rw [grow_upd hn a u q] at e; cases e
  · by_cases n : j = i
    · subst n
      have hl : j < y.length := by
        have := (List.getElem?_eq_some_iff.mp e).1
        rw [List.length_set] at this; exact this
      rw [List.getElem?_set_self hl] at e
      cases e
      rw [List.getElem?_set_self (by rw [w.len]; exact hl)]
      exact ok _ g
    · rw [List.getElem?_set_ne (Ne.symm n)] at e ⊢
      exact slots_go g (fun a u _ _ e => grow_upd hn a u e) (w.slot j x e)
  · rcases isO_set h1 with ⟨r1, l1, _⟩ | ⟨n1, o1⟩ | ⟨r1, l1⟩
    · rcases isO_set h2 with ⟨r2, l2, _⟩ | ⟨n2, o2⟩ | ⟨r2, l2⟩
      · rw [r1, r2]
      · rw [r1, List.getElem?_set_self (by rw [w.len]; exact l1)] at e1
        rw [List.getElem?_set_ne (Ne.symm n2)] at e2
        cases e1
        exact absurd rfl (old o2 e2)
      · have := isO_lt h2; rw [List.length_set] at this; omega
    · rcases isO_set h2 with ⟨r2, l2, _⟩ | ⟨n2, o2⟩ | ⟨r2, l2⟩
      · rw [r2, List.getElem?_set_self (by rw [w.len]; exact l2)] at e2
        rw [List.getElem?_set_ne (Ne.symm n1)] at e1
        cases e2
        exact absurd rfl (old o1 e1)
      · rw [List.getElem?_set_ne (Ne.symm n1)] at e1
        rw [List.getElem?_set_ne (Ne.symm n2)] at e2
        exact w.dist j k a o1 o2 e1 e2
      · have := isO_lt h2; rw [List.length_set] at this; omega
    · have := isO_lt h1; rw [List.length_set] at this; omega
  · rcases own a h with q | q
    · subst q
      by_cases s : F.S0 a
      · exact .inl s
      · refine .inr ?_
        cases e : F.H0 a with
        | none => rfl
        | some u => rw [w.keep a u s e] at hn; cases hn
    · exact w.frsh a q
  · rcases hp with hp | hp
    · rw [List.getElem?_set_ne hp]; exact w.pin e
    · rw [hp] at e; cases e
  · rcases isO_set h with ⟨r1, l1, _⟩ | ⟨n1, o1⟩ | ⟨r1, l1⟩
    · rw [r1, List.getElem?_set_self (by rw [w.len]; exact l1)] at e
      cases e
      exact absurd hn (w.live p (w.sm p s))
    · rw [List.getElem?_set_ne (Ne.symm n1)] at e
      exact w.nb st j a o1 e s
    · have := isO_lt h; rw [List.length_set] at this; omega
theorem isO_of {i : Nat} {z : Y} (h : y[i]? = some (some z)) : isO y i = z.o := by unfold isO; rw [h]
theorem sh_set {i : Nat} {z x : Y} (h : y[i]? = some (some z)) (e : x.o = z.o) : Sh y (y.set i (some x)) := fun j => by
  by_cases n : j = i
  · subst n
    have hl := (List.getElem?_eq_some_iff.mp h).1
    rw [isO_of h, isO_of (List.getElem?_set_self hl)]
    exact e
  · unfold isO
    rw [List.getElem?_set_ne (Ne.symm n)]
/-- an owned thing has changed, and no other -/
theorem Wd.set_mut (w : Wd C F σ y H) {i : Nat} {p : Addr} {z x : Y} (hi : y[i]? = some (some z)) (hz : z.o = true) (hx : x.o = true) (hσ : σ[i]? = some (some (.ref p))) (kp : ∀ a o, a ≠ p → H a = some o → H' a = some o) (hl : H' p ≠ none)
    (ok : ∀ M, GoH (Mv F σ y) H M H' → SlotOk C.K M H' (some (some (.ref p))) x) : Wd C F σ (y.set i (some x)) H' ∧ Go F σ y H σ (y.set i (some x)) H' ∧ Sh y (y.set i (some x)) := by
  have s : Sh y (y.set i (some x)) := sh_set hi (by rw [hx, hz])
  have hO : Own σ y p := ⟨i, by rw [isO_of hi]; exact hz, hσ⟩
  have mv : ∀ a, Mv F σ (y.set i (some x)) a → Mv F σ y a := fun a z => z.elim .inl fun z => .inr ((own_sh s).mp z)
  have g : Go F σ y H σ (y.set i (some x)) H' := fun a u n e => ⟨fun z => n (mv a z), kp a u (fun z => n (.inr (z ▸ hO))) e⟩
  refine ⟨⟨fun a u n e => kp a u (fun q => ?_) (w.keep a u n e), w.live0, fun a m e => ?_, by rw [List.length_set]; exact w.len, fun j v e => ?_, fun j k a h1 h2 e1 e2 => ?_, fun a h => w.frsh a ((own_sh s).mp h), w.pin, w.sm, fun q j a h e => w.nb q j a (by rw [← s j]; exact h) e⟩, g, s⟩
  · subst q
    rcases w.frsh a hO with q | q
    · exact n q
    · rw [q] at e; cases e
  · by_cases ha : a = p
    · exact hl (ha ▸ e)
    · cases q : H a with
      | none => exact w.live a m q
      | some u => rw [kp a u ha q] at e; cases e
  · by_cases n : j = i
    · subst n
      have hl := (List.getElem?_eq_some_iff.mp hi).1
      rw [List.getElem?_set_self hl] at e
      cases e
      rw [hσ]
      exact ok _ g
    · rw [List.getElem?_set_ne (Ne.symm n)] at e
      refine slots_go g (fun a u e1 e2 e3 => kp a u (fun q => n ?_) e3) (w.slot j v e)
      subst q
      exact w.dist j i a (by rw [isO_of e]; exact e2) (by rw [isO_of hi]; exact hz) e1 hσ
  · rw [s j] at h1
    rw [s k] at h2
    exact w.dist j k a h1 h2 e1 e2
end
section
variable {C : Ct} {y : S} {te : TE} {ts : TA} {tx : TS} {e : En} {Q : Z → S → Prop}
/-- x = [..], owned -/
theorem wS_own {i : Nat} (w : wD C ts y fun ds y1 => ds.length ≤ sizeLine ∧ e.nx (y1.set i (some (.own ds)))) (hp : i ≠ 0 ∨ C.pp = false := by first | exact Or.inr rfl | exact Or.inl (by decide)) : wS C (tAsg (tLst ts) (gName i)) y e := by
  intro F σ H E st wd k
  refine w F σ H _ wd fun vs H1 ds y1 w1 g1 s1 r1 ⟨hz, q⟩ => ⟨by rw [r1.len]; exact hz, fun p hn => ?_⟩
  obtain ⟨w2, g2⟩ := w1.set_own (i := i) (o := .lst vs) (z := .own ds) rfl hn hp fun M g => ⟨p, vs, rfl, upd_same, r1.go g⟩
  exact k.nx _ _ _ w2 (g1.trans g2) q
/-- x.append(e) -/
theorem wS_app {i : Nat} {ds0 : List D} (hi : y[i]? = some (some (.own ds0))) (w : wE C te y fun z y1 => ∃ d ds, z = .d d ∧ y1[i]? = some (some (.own ds)) ∧ ds.length < sizeLine ∧ e.nx (y1.set i (some (.own (ds ++ [d]))))) :
    wS C (tDrop (tBM C.K "list" rAppend (tVar i) (tCons te tNil))) y e := by
  intro F σ H E st wd k
  obtain ⟨a, xs, h1, h2, h3⟩ := wd.slot i _ hi
  refine ⟨.ref a, h1, Or.inl ⟨rfl, xs, .inl (.inl h2)⟩, w F σ H _ wd fun v H1 z y1 w1 g1 s1 r1 q => ?_⟩
  obtain ⟨d, ds, rfl, hi1, hz, q⟩ := q
  obtain ⟨b, us, e1, e2, e3⟩ := w1.slot i _ hi1
  have eb : a = b := by rw [h1] at e1; cases e1; rfl
  subst eb
  refine ⟨a, us, v, rfl, rfl, e2, by rw [e3.len]; exact hz, ?_⟩
  obtain ⟨w2, g2, s2⟩ := w1.set_mut (H' := upd H1 a (.lst (us ++ [v]))) (x := .own (ds ++ [d])) hi1 rfl rfl e1 (fun b o n e => by rw [upd_ne n]; exact e) (by rw [upd_same]; simp)
    fun M g => ⟨a, us ++ [v], rfl, upd_same, (e3.go g).app (.cons (Rp.go g r1) .nil)⟩
  exact k.nx _ _ _ w2 (g1.trans g2) q
theorem Wd.freeze {F : Fr} {σ : St} {H : Hp} {i : Nat} {ds : List D} (w : Wd C F σ y H) (st : F.st = true) (hi : y[i]? = some (some (.own ds))) (hp : i ≠ 0 ∨ C.pp = false) :
    Wd C F σ (y.set i (some (.d (.list ds)))) H ∧ Go F σ y H σ (y.set i (some (.d (.list ds)))) H := by
  obtain ⟨a, xs, h1, h2, h3⟩ := w.slot i _ hi
  have hO : isO y i = true := by rw [isO_of hi]; rfl
  have hb : ¬ F.S0 a := fun z => by
    obtain ⟨q1, q2⟩ := w.nb st i a hO h1 z
    rcases hp with hp | hp
    · exact hp q1
    · rw [hp] at q2; cases q2
  have own : ∀ b, Own σ (y.set i (some (.d (.list ds)))) b → Own σ y b ∧ b ≠ a := by
    rintro b ⟨j, hj, e⟩
    obtain ⟨n, o⟩ := isO_set_d hj
    refine ⟨⟨j, o, e⟩, fun z => n ?_⟩
    subst z
    exact w.dist j i b o hO e h1
  have g : Go F σ y H σ (y.set i (some (.d (.list ds)))) H := fun b o n e => ⟨fun z => n (z.elim .inl fun z => .inr (own b z).1), e⟩
  refine ⟨⟨w.keep, w.live0, w.live, by rw [List.length_set]; exact w.len, fun j z e => ?_, fun j k b q1 q2 e1 e2 => ?_, fun b h => w.frsh b (own b h).1, w.pin, w.sm, fun q j b h e s => w.nb q j b (isO_set_d h).2 e s⟩, g⟩
  · by_cases n : j = i
    · subst n
      have hl := (List.getElem?_eq_some_iff.mp hi).1
      rw [List.getElem?_set_self hl] at e
      cases e
      refine ⟨.ref a, h1, .lst (.inl ⟨?_, .inl h2⟩) (h3.go g)⟩
      rintro (z | z)
      · rcases w.frsh a ⟨j, hO, h1⟩ with q | q
        · exact hb q
        · exact w.live0 a z q
      · exact (own a z).2 rfl
    · rw [List.getElem?_set_ne (Ne.symm n)] at e
      exact slots_go g (fun _ _ _ _ e => e) (w.slot j z e)
  · exact w.dist j k b (isO_set_d q1).2 (isO_set_d q2).2 e1 e2
/-- an owned list is a list like others from here on -/
theorem wS_freeze (i : Nat) {ds : List D} (hi : y[i]? = some (some (.own ds))) (w : wS C tx (y.set i (some (.d (.list ds)))) e) (hp : i ≠ 0 ∨ C.pp = false := by first | exact Or.inr rfl | exact Or.inl (by decide)) : wS C tx y e := by
  intro F σ H E st wd k
  obtain ⟨w1, g1⟩ := wd.freeze st hi hp
  exact w F σ H E st w1 (k.go g1)
end
/-! ### promises over data -/
def pureSp (K : Fg) (n : Nat) (pre : List D → Prop) (post : List D → D → Prop) : Sp := fun vs H Q _ => ∃ (M : Addr → Prop) (ds : List D), (∀ a, M a → H a ≠ none) ∧ RpA K M H vs ds ∧ ds.length = n ∧ pre ds ∧
  ∀ d v H', post ds d → (∀ a o, H a = some o → H' a = some o) → Rp K M H' v d → Q v H'
theorem pureSp_len {K : Fg} {n : Nat} {pre : List D → Prop} {post : List D → D → Prop} {ps : List Str} (h : ps.length = n) : ∀ vs H Q E, pureSp K n pre post vs H Q E → vs.length = ps.length := by
  rintro vs H Q E ⟨M, ds, _, r, l, _⟩
  rw [r.len, l, h]
/-- a purse ahead of the arguments; cost: the draws at most -/
def puSp (K : Fg) (n : Nat) (pre : List D → Prop) (cost : List D → Nat) (post : List D → D → Prop) : Sp := fun vs H Q _ => ∃ (M : Addr → Prop) (p : Addr) (us : List V) (ds : List D) (m : Nat), vs = .ref p :: us ∧ M p ∧ (∀ a, M a → H a ≠ none) ∧ PuOk H p m ∧
  RpA K M H us ds ∧ ds.length = n ∧ pre ds ∧ cost ds ≤ m ∧ ∀ d v H', post ds d → (∀ a o, a ≠ p → H a = some o → H' a = some o) → PuOk H' p (m - cost ds) → Rp K M H' v d → Q v H'
theorem puSp_len {K : Fg} {n : Nat} {pre : List D → Prop} {cost : List D → Nat} {post : List D → D → Prop} {ps : List Str} (h : ps.length = n + 1) : ∀ vs H Q E, puSp K n pre cost post vs H Q E → vs.length = ps.length := by
  rintro vs H Q E ⟨M, p, us, ds, m, rfl, _, _, _, r, l, _⟩
  rw [List.length_cons, r.len, l, h]
section
variable {K : Fg} {N : List Str} {t : TS} {vs : List V} {H : Hp} {Q : VK} {E : XK} {n : Nat} {pre : List D → Prop} {post : List D → D → Prop} {cost : List D → Nat}
def y0 (N : List Str) (ds : List D) : S := ds.map (fun d => some (.d d)) ++ List.replicate (N.length - ds.length) none
theorem getElem?_app_none {α : Type} {as : List (Option α)} {k i : Nat} {z : α} (h : (as ++ List.replicate k none)[i]? = some (some z)) : as[i]? = some (some z) := by
  by_cases hi : i < as.length
  · rwa [List.getElem?_append_left hi] at h
  · rw [List.getElem?_append_right (by omega), List.getElem?_replicate] at h
    split at h <;> cases h
theorem start_get {i : Nat} {v : V} (h : vs[i]? = some v) : (start N vs)[i]? = some (some v) := by
  unfold L2.start
  have hl := (List.getElem?_eq_some_iff.mp h).1
  rw [List.getElem?_append_left (by rw [List.length_map]; exact hl), List.getElem?_map, h]
  rfl
theorem y0_isO (N : List Str) (ds : List D) (j : Nat) : isO (y0 N ds) j = false := by
  unfold isO y0
  split
  · rename_i q2
    have q3 := getElem?_app_none q2
    rw [List.getElem?_map] at q3
    cases q4 : ds[j]? with
    | none => rw [q4] at q3; cases q3
    | some d => rw [q4] at q3; cases q3; rfl
  · rfl
theorem pure_body (h : pureSp K n pre post vs H Q E) (b : ∀ ds, ds.length = n → pre ds → ∀ e : En, (∀ y, post ds .none → e.nx y) → (∀ d y, post ds d → e.rt (.d d) y) → wS ⟨K, false⟩ t (y0 N ds) e) :
    t { nx := fun _ G => Q .non G, rt := Q } (start N vs) H := by
  obtain ⟨M, ds, al, r, l, hp, k⟩ := h
  refine b ds l hp { nx := fun _ => post ds .none, rt := fun z _ => ∃ d, z = .d d ∧ post ds d } (fun _ q => q) (fun d _ q => ⟨d, rfl, q⟩) ⟨H, fun _ => False, M, 0, true⟩ (start N vs) H _ rfl ⟨fun a o _ e => e, al, al, ?_, fun i z e => ?_, fun i j a h1 _ _ _ => ?_, fun a ⟨i, h1, _⟩ => ?_, fun q => (nomatch q), fun a z => z.elim, fun _ _ _ _ _ z => z.elim⟩ ⟨fun σ' H' y' w g q => ?_, fun σ' v H' z y' w g rz q => ?_, fun _ _ _ _ _ q => q.elim, fun _ _ _ _ _ q => q.elim⟩
  · unfold L2.start y0
    rw [List.length_append, List.length_append, List.length_map, List.length_map, List.length_replicate, List.length_replicate, r.len]
  · have e1 := getElem?_app_none e
    rw [List.getElem?_map] at e1
    cases q : ds[i]? with
    | none => rw [q] at e1; cases e1
    | some d =>
      rw [q] at e1
      cases e1
      obtain ⟨v, hv, rv⟩ := r.get q
      refine ⟨v, start_get hv, rv.go fun a o na e => ⟨fun z => z.elim na ?_, e⟩⟩
      rintro ⟨j, hj, _⟩
      rw [y0_isO] at hj
      cases hj
  · rw [y0_isO] at h1; cases h1
  · rw [y0_isO] at h1; cases h1
  · exact k .none .non H' q (fun a o e => w.keep a o (fun z => z) e) .non
  · obtain ⟨d, rfl, q⟩ := q
    exact k d v H' q (fun a o e => w.keep a o (fun z => z) e) (Rp.go (fun a o n e => ⟨fun z => n (.inl z), e⟩) rz)
theorem pu_body (h : puSp K n pre cost post vs H Q E) (b : ∀ ds m, ds.length = n → pre ds → cost ds ≤ m → ∀ e : En, (∀ y k, post ds .none → y[0]? = some (some (.pu k)) → m - cost ds ≤ k → e.nx y) → (∀ d y k, post ds d → y[0]? = some (some (.pu k)) → m - cost ds ≤ k → e.rt (.d d) y) → wS ⟨K, true⟩ t (some (.pu m) :: y0 (N.drop 1) ds) e)
    (hN : 0 < N.length := by decide) : t { nx := fun _ G => Q .non G, rt := Q } (start N vs) H := by
  obtain ⟨M, p, us, ds, m, rfl, mp, al, pk, r, l, hp, hc, k⟩ := h
  have isd : ∀ j, isO (y0 (N.drop 1) ds) j = false := y0_isO _ _
  have is0 : ∀ j, isO (some (.pu m) :: y0 (N.drop 1) ds) j = true → j = 0 := fun j hj => by
    cases j with
    | zero => rfl
    | succ j =>
      have : isO (some (.pu m) :: y0 (N.drop 1) ds) (j + 1) = isO (y0 (N.drop 1) ds) j := by unfold isO; rw [List.getElem?_cons_succ]
      rw [this, isd j] at hj
      cases hj
  have s0 : (start N (.ref p :: us))[0]? = some (some (.ref p)) := start_get rfl
  have own : ∀ a, Own (start N (.ref p :: us)) (some (.pu m) :: y0 (N.drop 1) ds) a → a = p := fun a ⟨j, hj, e⟩ => by
    have := is0 j hj
    subst this
    rw [s0] at e
    cases e
    rfl
  have fin : ∀ {σ' : St} {H' : Hp} {y' : S} {q : Nat}, Wd ⟨K, true⟩ ⟨H, fun a => a = p, M, p, true⟩ σ' y' H' → y'[0]? = some (some (.pu q)) → m - cost ds ≤ q → PuOk H' p (m - cost ds) := fun {σ' H' y' q} w e hq => by
    obtain ⟨a, h1, h2⟩ := w.slot 0 _ e
    rw [w.pin rfl] at h1
    cases h1
    exact h2.mono hq
  refine b ds m l hp hc { nx := fun y => post ds .none ∧ ∃ k, y[0]? = some (some (.pu k)) ∧ m - cost ds ≤ k, rt := fun z y => ∃ d k, z = .d d ∧ post ds d ∧ y[0]? = some (some (.pu k)) ∧ m - cost ds ≤ k }
    (fun y k q1 q2 q3 => ⟨q1, k, q2, q3⟩) (fun d y k q1 q2 q3 => ⟨d, k, rfl, q1, q2, q3⟩) ⟨H, fun a => a = p, M, p, true⟩ (start N (.ref p :: us)) H _ rfl ⟨fun a o _ e => e, al, al, ?_, fun i z e => ?_, fun i j a h1 h2 _ _ => (is0 i h1).trans (is0 j h2).symm, fun a h => .inl (own a h), fun _ => s0, fun a z => (show a = p from z) ▸ mp, fun _ i a h _ _ => ⟨is0 i h, rfl⟩⟩ ⟨fun σ' H' y' w g q => ?_, fun σ' v H' z y' w g rz q => ?_, fun _ _ _ _ _ q => q.elim, fun _ _ _ _ _ q => q.elim⟩
  · unfold L2.start y0
    simp only [List.length_append, List.length_cons, List.length_map, List.length_replicate, List.length_drop]
    rw [r.len]
    omega
  · cases i with
    | zero =>
      cases e
      exact ⟨p, s0, pk⟩
    | succ i =>
      rw [List.getElem?_cons_succ] at e
      have e1 := getElem?_app_none e
      rw [List.getElem?_map] at e1
      cases q : ds[i]? with
      | none => rw [q] at e1; cases e1
      | some d =>
        rw [q] at e1
        cases e1
        obtain ⟨v, hv, rv⟩ := r.get q
        refine ⟨v, start_get (by rw [List.getElem?_cons_succ]; exact hv), rv.go fun a o na e => ⟨fun z => z.elim na fun z => ?_, e⟩⟩
        exact na ((own a z) ▸ mp)
  · obtain ⟨q1, c, q2, q3⟩ := q
    exact k .none .non H' q1 (fun a o n e => w.keep a o n e) (fin w q2 q3) .non
  · obtain ⟨d, c, rfl, q1, q2, q3⟩ := q
    exact k d v H' q1 (fun a o n e => w.keep a o n e) (fin w q2 q3) (Rp.go (fun a o n e => ⟨fun z => n (.inl z), e⟩) rz)
end
section
variable {C : Ct} {y : S} {ts : TA} {Q : Z → S → Prop} {E : XK} {n : Nat} {pre : List D → Prop} {post : List D → D → Prop} {cost : List D → Nat} {e : En}
theorem wE_pure (w : wD C ts y fun ds y1 => ds.length = n ∧ pre ds ∧ ∀ d, post ds d → Q (.d d) y1) : wE C (tCall (pureSp C.K n pre post) [] E ts) y Q := by
  intro F σ H K wd k
  refine w F σ H _ wd fun vs H1 ds y1 w1 g1 s1 r1 ⟨hn, hp, q⟩ => ?_
  rw [List.append_nil]
  exact ⟨Mv F σ y1, ds, fun a m e => w1.new e m, r1, hn, hp, fun d v H2 hd gr rv => k v H2 (.d d) y1 (w1.grow gr) (g1.trans (go_grow gr)) s1 rv (q d hd)⟩
theorem wE_pu {i m0 : Nat} (hi : y[i]? = some (some (.pu m0))) (w : wD C ts y fun ds y1 => ∃ m, y1[i]? = some (some (.pu m)) ∧ ds.length = n ∧ pre ds ∧ cost ds ≤ m ∧ ∀ d, post ds d → Q (.d d) (y1.set i (some (.pu (m - cost ds))))) :
    wE C (tCall (puSp C.K n pre cost post) [] E (tCons (tVar i) ts)) y Q := by
  intro F σ H K wd k
  obtain ⟨a, h1, h2⟩ := wd.slot i _ hi
  refine ⟨.ref a, h1, w F σ H _ wd fun vs H1 ds y1 w1 g1 s1 r1 ⟨m, hi1, hn, hp, hc, q⟩ => ?_⟩
  obtain ⟨b, e1, e2⟩ := w1.slot i _ hi1
  have eb : a = b := by rw [h1] at e1; cases e1; rfl
  subst eb
  rw [List.append_nil]
  refine ⟨Mv F σ y1, a, vs, ds, m, rfl, .inr ⟨i, by rw [isO_of hi1]; rfl, e1⟩, fun a m e => w1.new e m, e2, r1, hn, hp, hc, fun d v H2 hd kp pk rv => ?_⟩
  have hl : H2 a ≠ none := by
    obtain ⟨x, b, c, z, _⟩ := pk
    rw [z]; simp
  obtain ⟨w2, g2, s2⟩ := w1.set_mut (H' := H2) (x := .pu (m - cost ds)) hi1 rfl rfl e1 kp hl fun M g => ⟨a, rfl, pk⟩
  refine k v H2 (.d d) _ w2 (g1.trans g2) (s1.trans s2) (Rp.go (fun b o nb eb => ⟨fun z => nb (z.elim .inl fun z => .inr ((own_sh s2).mp z)), eb⟩) rv) (q d hd)
end
end Tq
set_option maxRecDepth 100000
set_option maxHeartbeats 2000000
namespace Tq
open PySem PySem.Spec PyProof.Rows L2
/-! ### defs of the text by their names -/
/-- the def x of the text, behind the top -/
structure Df (K : Fg) (mg : Str → Option Value) (x : Str) (st : Stmt) (ps : List Str) : Prop where
  ex : ∃ (f : Addr) (fd : FuncData), Fun K x x st f fd ∧ mg x = some (.ref f) ∧ Binds K fd ps []
/-- the name x is a def that keeps sp -/
structure Cal (P : Program) (w : World) (K : Fg) (mg : Str → Option Value) (base : Heap) (k : Nat) (x : Str) (ps : List Str) (sp : Sp) : Prop where
  ex : ∃ (f : Addr) (fd : FuncData), FnG P w K mg base CX0 k f fd ps sp ∧ mg x = some (.ref f) ∧ PySem.W.keepIn K (.ref f) = true ∧ Binds K fd ps []
section
variable {P : Program} {w : World} {K : Fg} {mg : Str → Option Value} {base : Heap} {k : Nat} {x : Str} {ps N : List Str} {sp : Sp} {st : Stmt}
theorem Df.ok (d : Df K mg x st ps) (Sc : FnScope N ps (defScope st)) (len : ∀ vs H Q E, sp vs H Q E → vs.length = ps.length)
    (hbody : ∀ (f : Addr) (cdv : Value) (A : Around) (outer : List Env) (s : Shared) (H : Hp) (vs : List V) (Q : VK) (E : XK), Room k (A.deeper (envOfC x (defScope st) s.heap.objs.size f cdv)) →
      (A.deeper (envOfC x (defScope st) s.heap.objs.size f cdv)).guards = some [] → sp vs H Q E →
      ∃ t, PSs (cxOf CX0 P w K mg base N x (defScope st) f cdv A outer s H E).nox (defBody st) t ∧ t { nx := fun _ G => Q .non G, rt := Q } (start N vs) H) : Cal P w K mg base (k + 1) x ps sp := by
  obtain ⟨f, fd, F, hm, hb⟩ := d.ex
  exact ⟨f, fd, okG F Sc len (hbody f), hm, F.kp, hb⟩
theorem pe_cal {X : Cx} {p pos : Pos} {e : Expr} {es : List Expr} {t : TA} (c : Cal X.prog X.w X.K X.mg X.base k x ps sp) (hr : Room k X.A) (hgu : X.A.guards = some []) (hg : Gl X x) (ha : PA X (e :: es) t) (hdb : (x == ("__debug__" : Str)) = false := by decide)
    (he : starEach (e :: es) X.env = (false, eval e X.env) :: starEach es X.env := by rfl)
    (hpl : (backTo pos (starEach es X.env)).any (·.1) = false := by rfl) : PE X (.Call (.Name x p) (e :: es) [] pos) (tCall sp [] E0 t) := by
  obtain ⟨f, fd, F, hm, hk, hb⟩ := c.ex
  exact pe_callG F hr hgu hg hm hk hb .nil pass0 ha hdb he hpl
theorem Cal.mono {j : Nat} (c : Cal P w K mg base j x ps sp) (h : j ≤ k) : Cal P w K mg base k x ps sp := by
  obtain ⟨f, fd, F, hm, hk, hb⟩ := c.ex
  exact ⟨f, fd, F.mono h, hm, hk, hb⟩
end
/-! ### the law's purse -/
def spPurse : Sp := fun vs H Q _ => ∃ c : Int, vs = [.int c] ∧ ∀ (p : Addr) (x b : Int), H p = none → 0 ≤ x → 0 ≤ b → b < 2147483629 → Q (.ref p) (upd H p (.lst [.int x, .int b, .int 0]))
/-- [max(0, c - 10 ** 18), c % 2147483629, 0] -/
def t_purse : TS := tRet (tLst (tCons (tCB (fun xs H Q => ∃ i j, xs = [.int i, .int j] ∧ Q (.int (if j > i then j else i)) H) (tCons (tC (.int 0)) (tCons (tOp (rI0 fun i j => .int (i - j)) (tVar 0) (tOp (rI CPow fun i j => .int (i ^ j.toNat)) (tC (.int 10)) (tC (.int 18)))) tNil)))
  (tCons (tOp (rI (fun _ j => 0 < j) fun i j => .int (i % j)) (tVar 0) (tC (.int 2147483629))) (tCons (tC (.int 0)) tNil))))
theorem purse_read {vs : List V} {H : Hp} {Q : VK} {E : XK} {N : List Str} (hN : N.length = 1) (h : spPurse vs H Q E) : t_purse { nx := fun _ G => Q .non G, rt := Q } (start N vs) H := by
  obtain ⟨c, rfl, k⟩ := h
  have es : start N [.int c] = [some (.int c)] := by
    unfold L2.start
    rw [hN]
    rfl
  rw [es]
  have z : (10 : Int).natAbs < 2 ^ 64 := by decide
  refine ⟨_, rfl, _, _, rfl, rfl, ⟨by decide, by decide, z⟩, _, _, rfl, rfl, _, _, rfl, _, rfl, _, _, rfl, rfl, (by show (0 : Int) < 2147483629; decide), by show 3 ≤ sizeLine; decide, fun p hp => k p _ _ hp ?_ (Int.emod_nonneg _ (by decide)) (Int.emod_lt_of_pos _ (by decide))⟩
  split <;> omega
/-- r of 0 .. many - 1 -/
def postTake : List D → D → Prop := fun ds d => ∃ m r : Int, ds = [.int m] ∧ d = .int r ∧ 0 ≤ r ∧ r < m
def preTake : List D → Prop := fun ds => ∃ m : Int, ds = [.int m] ∧ 0 < m ∧ m.natAbs.log2 < 9000
abbrev spTake (K : Fg) : Sp := puSp K 1 preTake (fun _ => 1) postTake
abbrev rMd : R2 := rI (fun _ j => 0 < j) fun i j => .int (i % j)
abbrev rDv : R2 := rI CDivW fun i j => .int (i / j)
abbrev rAd : R2 := rI0 fun i j => .int (i + j)
abbrev rMu : R2 := rI CMul fun i j => .int (i * j)
abbrev rPw : R2 := rI CPow fun i j => .int (i ^ j.toNat)
def t_take (K : Fg) (c : Int) : TS :=
  tSeq (tIfS (tTest (tOp (rI0 fun i j => .bl (decide (j < i))) (tOp (rIx K) (tVar 0) (tC (.int 0))) (tC (.int 0))))
    (tSeq (tAsg (tOp rMd (tOp (rIx K) (tVar 0) (tC (.int 0))) (tVar 1)) (gName 2))
    (tSeq (tAsg (tOp rDv (tOp (rIx K) (tVar 0) (tC (.int 0))) (tVar 1)) (gSub (tVar 0) (tC (.int 0)) rSetL))
    (tRet (tVar 2)))) tNext)
  (tSeq (tAsg (tOp rAd (tOp (rIx K) (tVar 0) (tC (.int 2))) (tC (.int 1))) (gSub (tVar 0) (tC (.int 2)) rSetL))
  (tSeq (tAsg (tOp rMd (tOp rPw (tOp rAd (tOp rAd (tOp (rIx K) (tVar 0) (tC (.int 1))) (tOp rMu (tC (.int 7919)) (tOp (rIx K) (tVar 0) (tC (.int 2))))) (tC (.int c))) (tC (.int 5))) (tC (.int 2147483647))) (gName 3))
  (tSeq (tAsg (tOp rMd (tOp rPw (tOp rAd (tOp rAd (tOp rDv (tVar 3) (tC (.int 8))) (tOp rMu (tOp rMu (tC (.int 104729)) (tOp (rIx K) (tVar 0) (tC (.int 2)))) (tOp (rIx K) (tVar 0) (tC (.int 2))))) (tC (.int 3))) (tC (.int 3))) (tC (.int 2147483587))) (gName 4))
  (tRet (tOp rMd (tOp rAd (tOp rDv (tVar 3) (tC (.int 4))) (tOp rMu (tC (.int 536870909)) (tOp rDv (tVar 4) (tC (.int 4))))) (tVar 1))))))
theorem ix_at {K : Fg} {H : Hp} {p : Addr} {xs : List V} {i : Int} {v : V} {Q : VK} (h : H p = some (.lst xs)) (e : atI xs i = some v) (q : Q v H) : rIx K (.ref p) (.int i) H Q := .inl ⟨p, xs, i, v, rfl, rfl, .inl (.inl h), e, q⟩
theorem natAbs_lt {x : Int} {n : Nat} (h1 : 0 ≤ x) (h2 : x < (n : Int)) : x.natAbs < n := by omega
theorem div_ok {i j : Int} (h : 0 < j) (h2 : j < 1073741824) : CDivW i j := wide_div (b := 30) h (by omega) (by decide) (by decide)
theorem take_read {K : Fg} {c : Int} (hc : 0 ≤ c ∧ c ≤ 100000) {vs : List V} {H : Hp} {Q : VK} {E : XK} {N : List Str} (hN : N.length = 5) (h : spTake K vs H Q E) : t_take K c { nx := fun _ G => Q .non G, rt := Q } (start N vs) H := by
  obtain ⟨M, p, us, ds, n, rfl, mp, al, pk, r, hl, ⟨m, rfl, m0, mb⟩, hn, k⟩ := h
  have hn : 1 ≤ n := hn
  have k : ∀ d v H', postTake [.int m] d → (∀ a o, a ≠ p → H a = some o → H' a = some o) → PuOk H' p (n - 1) → Rp K M H' v d → Q v H' := k
  obtain ⟨v, rfl, rv⟩ := rpA1 r
  have e := rp_int rv
  subst e
  have es : start N [.ref p, .int m] = [some (.ref p), some (.int m), none, none, none] := by
    unfold L2.start
    rw [hN]
    rfl
  rw [es]
  obtain ⟨x, b, q, hp, hx, hb0, hb1, hq0, hq1⟩ := pk
  refine ⟨_, rfl, ix_at hp rfl ⟨_, _, rfl, rfl, _, rfl, ite2 (fun hc => ?_) (fun hc => ?_)⟩⟩
  · -- a digit
    refine ⟨_, rfl, ix_at hp rfl ⟨_, rfl, _, _, rfl, rfl, m0, ?_⟩⟩
    refine ⟨_, rfl, ix_at hp rfl ⟨_, rfl, _, _, rfl, rfl, ⟨m0, mb⟩, _, rfl, p, _, 0, 0, rfl, rfl, hp, rfl, ?_⟩⟩
    refine ⟨_, rfl, k (.int (x % m)) _ _ ⟨m, x % m, rfl, rfl, Int.emod_nonneg _ (by omega), Int.emod_lt_of_pos _ m0⟩ (fun a o na e => by rw [upd_ne na]; exact e) ⟨x / m, b, q, upd_same, Int.ediv_nonneg hx (by omega), hb0, hb1, hq0, by omega⟩ (.int _)⟩
  · have nn : (n : Int) ≥ 1 := by omega
    refine ⟨_, rfl, ix_at hp rfl ⟨_, _, rfl, rfl, _, rfl, p, _, 2, 2, rfl, rfl, hp, rfl, ?_⟩⟩
    generalize hH2 : upd H p (.lst ([V.int x, .int b, .int q].set 2 (.int (q + 1)))) = H2
    have hp2 : H2 p = some (.lst [.int x, .int b, .int (q + 1)]) := by rw [← hH2]; exact upd_same
    have hbd : 0 ≤ b + 7919 * (q + 1) + c ∧ b + 7919 * (q + 1) + c < 18446744073709551616 := by constructor <;> omega
    refine ⟨_, rfl, ix_at hp2 rfl ⟨_, rfl, ix_at hp2 rfl ⟨_, _, rfl, rfl, .inl (by constructor <;> decide), _, _, rfl, rfl, _, _, rfl, rfl, _, _, rfl, rfl, ⟨by decide, by decide, natAbs_lt hbd.1 hbd.2⟩, _, _, rfl, rfl, (by show (0 : Int) < 2147483647; decide), ?_⟩⟩⟩
    obtain ⟨one, hone⟩ : ∃ o, o = (b + 7919 * (q + 1) + c) ^ (5 : Int).toNat % 2147483647 := ⟨_, rfl⟩
    have one0 : 0 ≤ one := by rw [hone]; exact Int.emod_nonneg _ (by decide)
    have one1 : one < 2147483647 := by rw [hone]; exact Int.emod_lt_of_pos _ (by decide)
    have q2 : 0 ≤ (q + 1) * (q + 1) := Int.mul_nonneg (by omega) (by omega)
    have q3 : (q + 1) * (q + 1) ≤ 8000000 * 8000000 := Int.mul_le_mul (by omega) (by omega) (by omega) (by omega)
    have q4 : 104729 * (q + 1) * (q + 1) = 104729 * ((q + 1) * (q + 1)) := Int.mul_assoc _ _ _
    have hb2 : 0 ≤ one / 8 + 104729 * (q + 1) * (q + 1) + 3 ∧ one / 8 + 104729 * (q + 1) * (q + 1) + 3 < 18446744073709551616 := by
      rw [q4]
      constructor <;> omega
    rw [hone] at hb2
    refine ⟨_, rfl, _, _, rfl, rfl, div_ok (by decide) (by decide), _, rfl, ix_at hp2 rfl ⟨_, _, rfl, rfl, .inl (by constructor <;> decide), _, rfl, ix_at hp2 rfl ⟨_, _, rfl, rfl, .inl (by constructor <;> omega), _, _, rfl, rfl, _, _, rfl, rfl, _, _, rfl, rfl, ⟨by decide, by decide, natAbs_lt hb2.1 hb2.2⟩, _, _, rfl, rfl, (by show (0 : Int) < 2147483587; decide), ?_⟩⟩⟩
    refine ⟨_, rfl, _, _, rfl, rfl, div_ok (by decide) (by decide), _, rfl, _, _, rfl, rfl, div_ok (by decide) (by decide), _, _, rfl, rfl, .inl (by constructor <;> decide), _, _, rfl, rfl, _, rfl, _, _, rfl, rfl, m0, ?_⟩
    refine k _ _ _ ⟨m, _, rfl, rfl, Int.emod_nonneg _ (by omega), Int.emod_lt_of_pos _ m0⟩ (fun a o na e => by rw [← hH2, upd_ne na]; exact e) ⟨x, b, q + 1, hp2, hx, hb0, hb1, by omega, by omega⟩ (.int _)
/-- purse = _law_purse(c) -/
theorem wS_purse {C : Ct} {y : S} {e : En} {ts : TA} {E : XK} {i : Nat} (w : wD C ts y fun ds y1 => ∃ c : Int, ds = [.int c] ∧ e.nx (y1.set i (some (.pu 8000000)))) (hp : i ≠ 0 ∨ C.pp = false := by first | exact Or.inr rfl | exact Or.inl (by decide)) :
    wS C (tAsg (tCall spPurse [] E ts) (gName i)) y e := by
  intro F σ H E st wd k
  refine w F σ H _ wd fun vs H1 ds y1 w1 g1 s1 r1 ⟨c, hc, q⟩ => ?_
  subst hc
  obtain ⟨v, rfl, rv⟩ := rpA1 r1
  refine ⟨c, by rw [rp_int rv]; rfl, fun p x b hn hx hb hb2 => ?_⟩
  obtain ⟨w2, g2⟩ := w1.set_own (i := i) (o := .lst [.int x, .int b, .int 0]) (z := .pu 8000000) rfl hn hp fun M g => ⟨p, rfl, x, b, 0, upd_same, hx, hb, hb2, by decide, by decide⟩
  exact k.nx _ _ _ w2 (g1.trans g2) q
end Tq
set_option maxRecDepth 100000
set_option maxHeartbeats 2000000
/-! The rules that speak of the written part, with that part told (so that they serve within a comprehension's block, too) -/
namespace Tq
open PySem PySem.Spec PyProof.Rows L2
abbrev rLenD (K : Fg) : List V → Hp → VK → Prop := fun xs H Q => ∃ x n, xs = [x] ∧ LenV K x H n ∧ Q (.int (n : Nat)) H
abbrev rListD (K : Fg) : List V → Hp → VK → Prop := fun xs H Q => ∃ p ys, xs = [.ref p] ∧ (SqL K H p ys ∨ SqT K H p ys) ∧ ∀ l, H l = none → Q (.ref l) (upd H l (.lst ys))
abbrev rTupD (K : Fg) : List V → Hp → VK → Prop := fun xs H Q => ∃ p ys, xs = [.ref p] ∧ ((SqL K H p ys ∧ ∀ l, H l = none → Q (.ref l) (upd H l (.tup ys))) ∨ (SqT K H p ys ∧ Q (.ref p) H))
abbrev rJoinD (K : Fg) : V → List V → Hp → VK → Prop := fun x xs H Q => ∃ a p, ∃ ys : List Str, x = .str a ∧ xs = [.ref p] ∧ (SqL K H p (ys.map V.str) ∨ SqT K H p (ys.map V.str)) ∧ (ys.map (·.length)).sum + ys.length * a.length ≤ 16777216 ∧ Q (.str (Txt.join a ys)) H
def iAny (K : Fg) (tl : TE) : TI := fun σ H R => iList K tl σ H R ∨ iTup K tl σ H R
section
variable {X : Cx} (K : Fg)
theorem ixK (h : X.K = K := by rfl) : IxR X (rIx K) := h ▸ ix_seq
theorem slK (h : X.K = K := by rfl) : SlR X (rSlD K) := h ▸ sl_any
theorem catK (h : X.K = K := by rfl) : OpR X (binaryOp .Add) (rCatG K) := h ▸ op_catG
theorem catTK (h : X.K = K := by rfl) : OpR X (binaryOp .Add) (rCatA K) := h ▸ op_catA
theorem eqK (hu : X.A.units + 64 < cLine) (h : X.K = K := by rfl) : OpR X (compareOp .Eq) (rEqD K) := h ▸ op_eqD hu
theorem neK (hu : X.A.units + 64 < cLine) (h : X.K = K := by rfl) : OpR X (compareOp .NotEq) (rNeD K) := h ▸ op_neD hu
theorem inK (h : X.K = K := by rfl) : OpR X (compareOp .In) (rIn K false) := h ▸ op_in_seq
theorem notInK (h : X.K = K := by rfl) : OpR X (compareOp .NotIn) (rIn K true) := h ▸ op_notIn_seq
theorem lenK (h : X.K = K := by rfl) : CallR X (.builtin "len") (rLenD K) := h ▸ call_len
theorem allK (hc : X.calm = true) (h : X.K = K := by rfl) : CallR X (.builtin "all") (rAll K) := h ▸ cr_all hc
theorem anyK (hc : X.calm = true) (h : X.K = K := by rfl) : CallR X (.builtin "any") (rAny K) := h ▸ cr_any hc
theorem sumK (hc : X.calm = true) (h : X.K = K := by rfl) : CallR X (.builtin "sum") (rSum K) := h ▸ cr_sum hc
theorem isiK (h : X.K = K := by rfl) : CallR X (.builtin "isinstance") (rIsi K) := h ▸ call_isi
theorem isiTK (h : X.K = K := by rfl) : CallR X (.builtin "isinstance") (rIsiT K) := h ▸ call_isiT
theorem listK (h : X.K = K := by rfl) : CallR X (.type "list") (rListD K) := h ▸ call_list_of
theorem tupK (h : X.K = K := by rfl) : CallR X (.type "tuple") (rTupD K) := h ▸ call_tuple_of
theorem reprK (hg : X.A.guards = some []) (hu : X.A.units + 64 < cLine) (h : X.K = K := by rfl) : CallR X (.builtin "repr") (rRepr K) := h ▸ call_reprD hg hu
theorem piL {tg l : Expr} {tl : TE} (hl : PE X l tl) (h : X.K = K := by rfl) : PI X tg l (iList K tl) := h ▸ pi_list hl
theorem piT {tg l : Expr} {tl : TE} (hl : PE X l tl) (h : X.K = K := by rfl) : PI X tg l (iTup K tl) := h ▸ pi_tup hl
theorem piA {tg l : Expr} {tl : TE} (hl : PE X l tl) (h : X.K = K := by rfl) : PI X tg l (iAny K tl) :=
  ⟨fun pins s σ H R I q => q.elim (fun z => (piL K hl h).run pins s σ H R I z) fun z => (piT K hl h).run pins s σ H R I z⟩
theorem piE {e : Expr} {ta : TA} {p pos tpos : Pos} {elts : List Expr} {kk : Nat} (hg : Gl X "enumerate") (hm : X.mg "enumerate" = none) (ha : PA X [e] ta) (h : X.K = K := by rfl) (hs : starEach [e] X.env = [(false, eval e X.env)] := by rfl) :
    PI X (.Tuple elts kk tpos) (.Call (.Name "enumerate" p) [e] [] pos) (iEnum K ta) := h ▸ pi_enum hg hm ha hs
theorem piZ {e e2 : Expr} {ta : TA} {p pos tpos : Pos} {elts : List Expr} {kk : Nat} (hg : Gl X "zip") (hm : X.mg "zip" = none) (ha : PA X [e, e2] ta) (h : X.K = K := by rfl)
    (hs : starEach [e, e2] X.env = (false, eval e X.env) :: starEach [e2] X.env := by rfl) (hpl : (backTo pos (starEach [e2] X.env)).any (·.1) = false := by rfl) :
    PI X (.Tuple elts kk tpos) (.Call (.Name "zip" p) [e, e2] [] pos) (iZip K ta) := h ▸ pi_zip hg hm ha hs hpl
theorem pgT {pos : Pos} {es : List Expr} {k : Nat} {t : TGs} {n : Nat} (hc : X.calm = true) (g : PGs X es t) (h : X.K = K := by rfl) (hn : (assignEach es X.env).length = n := by rfl) (hst : (assignEach es X.env).findIdx? (·.1) = none := by rfl) :
    PG X (.Tuple es k pos) (gTup K n t) := h ▸ pg_tup hc g hn hst
theorem joinK {o e : Expr} {to te : TE} {apos pos : Pos} (ho : PE X o to) (he : PE X e te) (h : X.K = K := by rfl) (hs : starEach [e] X.env = [(false, eval e X.env)] := by rfl) (hbase : attributeBase o "join" X.env (eval o X.env) = eval o X.env := by rfl)
    (hline : (apos.endLine == pos.line) = true := by rfl) : PE X (.Call (.Attribute o "join" apos) [e] [] pos) (tM1 (rJoinD K) to te) := h ▸ pe_join ho he hs hbase hline
end
section
variable {C : Ct} {y : S} {Qi : List D → S → Prop}
theorem wI_any {i : Nat} {d : D} {xs : List D} (h : y[i]? = some (some (.d d))) (hx : dItems d = some xs) (q : Qi xs y) : wI C (iAny C.K (tVar i)) y Qi := by
  intro F σ H R wd k
  cases d with
  | list us =>
    cases hx
    exact .inl (wI_list (wE_var h ⟨_, rfl, q⟩) F σ H R wd k)
  | tuple us =>
    cases hx
    exact .inr (wI_tup (wE_var h ⟨_, rfl, q⟩) F σ H R wd k)
  | _ => cases hx
end
end Tq
set_option maxRecDepth 100000
set_option maxHeartbeats 4000000
namespace Tq
open PySem PySem.Spec PyProof.Rows L2
theorem len1 {ds : List D} (h : ds.length = 1) : ∃ x, ds = [x] := match ds, h with | [x], _ => ⟨x, rfl⟩
theorem len2 {ds : List D} (h : ds.length = 2) : ∃ x y, ds = [x, y] := match ds, h with | [x, y], _ => ⟨x, y, rfl⟩
theorem len3 {ds : List D} (h : ds.length = 3) : ∃ x y z, ds = [x, y, z] := match ds, h with | [x, y, z], _ => ⟨x, y, z, rfl⟩
theorem len0 {ds : List D} (h : ds.length = 0) : ds = [] := match ds, h with | [], _ => rfl
/-! kinds -/
def isNum : D → Bool
  | .int _ => true
  | _ => false
theorem isT_int (d : D) : isT "int" d = (match d with | .int _ => true | .bool _ => true | _ => false) := by
  cases d with
  | none => show (kitB "NoneType" "int").getD false = false; decide +kernel
  | bool _ => show (kitB "bool" "int").getD false = true; decide +kernel
  | int _ => show (kitB "int" "int").getD false = true; decide +kernel
  | str _ => show (kitB "str" "int").getD false = false; decide +kernel
  | list _ => show (kitB "list" "int").getD false = false; decide +kernel
  | tuple _ => show (kitB "tuple" "int").getD false = false; decide +kernel
  | dict _ => show (kitB "dict" "int").getD false = false; decide +kernel
theorem isT_bool (d : D) : isT "bool" d = (match d with | .bool _ => true | _ => false) := by
  cases d with
  | none => show (kitB "NoneType" "bool").getD false = false; decide +kernel
  | bool _ => show (kitB "bool" "bool").getD false = true; decide +kernel
  | int _ => show (kitB "int" "bool").getD false = false; decide +kernel
  | str _ => show (kitB "str" "bool").getD false = false; decide +kernel
  | list _ => show (kitB "list" "bool").getD false = false; decide +kernel
  | tuple _ => show (kitB "tuple" "bool").getD false = false; decide +kernel
  | dict _ => show (kitB "dict" "bool").getD false = false; decide +kernel
theorem isT_str (d : D) : isT "str" d = (match d with | .str _ => true | _ => false) := by
  cases d with
  | none => show (kitB "NoneType" "str").getD false = false; decide +kernel
  | bool _ => show (kitB "bool" "str").getD false = false; decide +kernel
  | int _ => show (kitB "int" "str").getD false = false; decide +kernel
  | str _ => show (kitB "str" "str").getD false = true; decide +kernel
  | list _ => show (kitB "list" "str").getD false = false; decide +kernel
  | tuple _ => show (kitB "tuple" "str").getD false = false; decide +kernel
  | dict _ => show (kitB "dict" "str").getD false = false; decide +kernel
theorem isT_list (d : D) : isT "list" d = (match d with | .list _ => true | _ => false) := by
  cases d with
  | none => show (kitB "NoneType" "list").getD false = false; decide +kernel
  | bool _ => show (kitB "bool" "list").getD false = false; decide +kernel
  | int _ => show (kitB "int" "list").getD false = false; decide +kernel
  | str _ => show (kitB "str" "list").getD false = false; decide +kernel
  | list _ => show (kitB "list" "list").getD false = true; decide +kernel
  | tuple _ => show (kitB "tuple" "list").getD false = false; decide +kernel
  | dict _ => show (kitB "dict" "list").getD false = false; decide +kernel
theorem isT_tuple (d : D) : isT "tuple" d = (match d with | .tuple _ => true | _ => false) := by
  cases d with
  | none => show (kitB "NoneType" "tuple").getD false = false; decide +kernel
  | bool _ => show (kitB "bool" "tuple").getD false = false; decide +kernel
  | int _ => show (kitB "int" "tuple").getD false = false; decide +kernel
  | str _ => show (kitB "str" "tuple").getD false = false; decide +kernel
  | list _ => show (kitB "list" "tuple").getD false = false; decide +kernel
  | tuple _ => show (kitB "tuple" "tuple").getD false = true; decide +kernel
  | dict _ => show (kitB "dict" "tuple").getD false = false; decide +kernel
theorem isT_dict (d : D) : isT "dict" d = (match d with | .dict _ => true | _ => false) := by
  cases d with
  | none => show (kitB "NoneType" "dict").getD false = false; decide +kernel
  | bool _ => show (kitB "bool" "dict").getD false = false; decide +kernel
  | int _ => show (kitB "int" "dict").getD false = false; decide +kernel
  | str _ => show (kitB "str" "dict").getD false = false; decide +kernel
  | list _ => show (kitB "list" "dict").getD false = false; decide +kernel
  | tuple _ => show (kitB "tuple" "dict").getD false = false; decide +kernel
  | dict _ => show (kitB "dict" "dict").getD false = true; decide +kernel
theorem isNum_eq (d : D) : isNum d = (isT "int" d && !isT "bool" d) := by
  rw [isT_int, isT_bool]
  cases d <;> rfl
/-- tests on ints -/
theorem eqv_int (i j : Int) : PyData.eqv (.int i) (.int j) = decide (i = j) := by
  simp only [PyData.eqv]
  first | rfl | (by_cases h : i = j <;> simp [h])
theorem shaped_int (i : Int) : SeqAt.shaped (.int i) = true := by
  simp [SeqAt.shaped, PyData.canLay0, PyData.depth]
theorem shaped_str {i : Str} (h : PyData.strOk i = true) : SeqAt.shaped (.str i) = true := by
  simp [SeqAt.shaped, PyData.canLay0, PyData.depth, h]
theorem eqv_str (i j : Str) : PyData.eqv (.str i) (.str j) = decide (i = j) := by
  simp only [PyData.eqv]
  first | rfl | (by_cases h : i = j <;> simp [h])
theorem sz_small {n : Nat} (h : n ≤ 100000) : n ≤ sizeLine := Nat.le_trans h (by decide)
theorem log2_lt {x : Int} {n : Nat} (h : x.natAbs < 2 ^ n) (h0 : 0 < n) : x.natAbs.log2 < n := PySem.Flt.log2_lt_of h0 h
theorem itb_t {b : Bool} {A B : Prop} (h : b = true) (a : A) : if b = true then A else B := by rw [if_pos h]; exact a
theorem itb_f {b : Bool} {A B : Prop} (h : b = false) (a : B) : if b = true then A else B := by rw [if_neg (by rw [h]; simp)]; exact a
/-- B, then the side A -/
theorem and_sw {A B : Prop} (b : B) (a : A) : A ∧ B := ⟨a, b⟩
/-! the numbers' common divisor -/
def gcdI (a b : Int) : Int := (Nat.gcd a.natAbs b.natAbs : Nat)
theorem gcd_turn {a b : Int} (ha : 0 ≤ a) (hb : 0 < b) : gcdI b (a % b) = gcdI a b := by
  unfold gcdI
  have h1 : (a % b).natAbs = a.natAbs % b.natAbs := by
    obtain ⟨n, rfl⟩ := Int.eq_ofNat_of_zero_le ha
    obtain ⟨m, rfl⟩ := Int.eq_ofNat_of_zero_le (show 0 ≤ b by omega)
    rw [← Int.natCast_emod, Int.natAbs_natCast, Int.natAbs_natCast, Int.natAbs_natCast]
  rw [h1]
  congr 1
  rw [Nat.gcd_comm a.natAbs b.natAbs, Nat.gcd_comm b.natAbs (a.natAbs % b.natAbs)]
  exact (Nat.gcd_rec b.natAbs a.natAbs).symm
theorem gcd_zero {a : Int} (ha : 0 ≤ a) : gcdI a 0 = a := by
  unfold gcdI
  simp
  omega
theorem gcd_abs (a b : Int) : gcdI (if a < 0 then -a else a) (if b < 0 then -b else b) = gcdI a b := by
  unfold gcdI
  congr 2 <;> (split <;> omega)
/-! promises of defs whose answer is a function of what is handed in -/
abbrev a0 (ds : List D) : D := ds.getD 0 .none
abbrev a1 (ds : List D) : D := ds.getD 1 .none
abbrev a2 (ds : List D) : D := ds.getD 2 .none
abbrev detSp (K : Fg) (n : Nat) (pre : List D → Prop) (G : List D → D) : Sp := pureSp K n pre (fun ds d => d = G ds)
theorem wE_det {C : Ct} {y : S} {ts : TA} {Q : Z → S → Prop} {E : XK} {n : Nat} {pre : List D → Prop} {G : List D → D} (w : wD C ts y fun ds y1 => (ds.length = n ∧ pre ds) ∧ Q (.d (G ds)) y1) : wE C (tCall (detSp C.K n pre G) [] E ts) y Q :=
  wE_pure (wD_mono w fun ds y1 ⟨⟨h1, h2⟩, q⟩ => ⟨h1, h2, fun d e => by subst e; exact q⟩)
abbrev sp_law_cell (K : Fg) : Sp := pureSp K 2 (fun ds => ∃ (ns : List Int) (k : Int), ds = [.list (ns.map PyData.int), .int k] ∧ 0 ≤ k ∧ k < 1000) (fun _ d => ∃ n : Int, d = .int n)
abbrev sp_law_purse (K : Fg) : Sp := spPurse
abbrev sp_law_take (K : Fg) : Sp := spTake K
abbrev sp_is_number (K : Fg) : Sp := detSp K 1 (fun _ => True) (fun ds => .bool (isNum (a0 ds)))
section
variable {C : Ct} {y : S} {te : TE} {Q : Z → S → Prop} {E : XK}
/-- a draw -/
theorem wE_take {i m0 : Nat} (hi : y[i]? = some (some (.pu m0))) (w : wE C te y fun z y1 => ∃ (k : Int) (m : Nat), z = .d (.int k) ∧ y1[i]? = some (some (.pu m)) ∧ (0 < k ∧ k ≤ 10 ^ 40 ∧ 1 ≤ m) ∧ ∀ r : Int, 0 ≤ r → r < k → Q (.d (.int r)) (y1.set i (some (.pu (m - 1))))) :
    wE C (tCall (spTake C.K) [] E (tCons (tVar i) (tCons te tNil))) y Q := by
  refine wE_pu hi (wD_cons (wE_mono w fun z y1 ⟨k, m, e, hm, ⟨h0, h1, h2⟩, q⟩ => ⟨_, e, wD_nil ⟨m, hm, rfl, ⟨k, rfl, h0, ?_⟩, h2, fun d hd => ?_⟩⟩))
  · have hb : k.natAbs < 2 ^ 200 := Nat.lt_of_le_of_lt (show k.natAbs ≤ 10 ^ 40 by omega) (by decide)
    exact Nat.lt_of_lt_of_le (log2_lt hb (by decide)) (by decide)
  · obtain ⟨k', r, e1, e2, h3, h4⟩ := hd
    cases e1
    subst e2
    exact q r h3 h4
theorem wE_powN {a : Int} {n : Nat} (q : Q (.d (.int (a ^ (OfNat.ofNat n : Nat)))) y) (ha : a.natAbs < 2 ^ 64 := by decide) (hn : n ≤ 1000000 := by decide) : wE C (tOp (rI CPow fun i j => .int (i ^ j.toNat)) (tC (.int a)) (tC (.int (OfNat.ofNat n)))) y Q := by
  refine wE_pow (wE_int (wE_int ⟨_, _, rfl, rfl, ⟨?_, ?_, ha⟩, q⟩))
  · show (0 : Int) ≤ (n : Nat); omega
  · show ((n : Nat) : Int) ≤ 1000000; omega
theorem wE_dispS {k : Str} {v : V} {d : D} (s : Sc v d) (h : Q (.d (.dict [(.str k, d)])) y) : wE C (tDisp [(tC (.str k), tC v)]) y Q := wE_disp1 (kk := .inr k) s h
theorem wE_dispI {k : Int} {v : V} {d : D} (s : Sc v d) (h : Q (.d (.dict [(.int k, d)])) y) : wE C (tDisp [(tC (.int k), tC v)]) y Q := wE_disp1 (kk := .inl k) s h
end
/-! == of plain things -/
def scalD : D → D → Bool
  | .int _, .int _ => true
  | .str _, .str _ => true
  | .bool _, .bool _ => true
  | .none, .none => true
  | _, _ => false
def eqS : D → D → Bool
  | .int i, .int j => decide (i = j)
  | .str i, .str j => decide (i = j)
  | .bool i, .bool j => decide (i = j)
  | .none, .none => true
  | _, _ => false
section
variable {C : Ct} {y : S} {ta tb : TE} {Q : Z → S → Prop}
theorem eqS_ok {K : Fg} {M : Addr → Prop} {H : Hp} {x u : V} {d e : D} (rx : Rp K M H x d) (ru : Rp K M H u e) (h : scalD d e = true) : scal x u = true ∧ decide (x = u) = eqS d e := by
  cases rx <;> cases ru <;> first | (cases h; done) | (refine ⟨rfl, ?_⟩; simp [eqS])
theorem wE_eqS (w : wE C ta y fun z y1 => wE C tb y1 fun z' y2 => ∃ d e, z = .d d ∧ z' = .d e ∧ scalD d e = true ∧ Q (.d (.bool (eqS d e))) y2) : wE C (tOp rEq ta tb) y Q := by
  refine wE_op (res := fun d e r => scalD d e = true ∧ r = .bool (eqS d e)) ?_ (wE_mono w fun z y1 h => wE_mono h fun z' y2 ⟨d, e, e1, e2, s, q⟩ => ⟨_, _, _, e1, e2, ⟨s, rfl⟩, q⟩)
  rintro M H x u d e r Q _ rx ru ⟨s, rfl⟩ k
  obtain ⟨h1, h2⟩ := eqS_ok rx ru s
  refine ⟨h1, ?_⟩
  rw [h2]
  exact k _ H (fun _ _ e => e) (.bl _)
theorem wE_neS (w : wE C ta y fun z y1 => wE C tb y1 fun z' y2 => ∃ d e, z = .d d ∧ z' = .d e ∧ scalD d e = true ∧ Q (.d (.bool (!eqS d e))) y2) : wE C (tOp rNe ta tb) y Q := by
  refine wE_op (res := fun d e r => scalD d e = true ∧ r = .bool (!eqS d e)) ?_ (wE_mono w fun z y1 h => wE_mono h fun z' y2 ⟨d, e, e1, e2, s, q⟩ => ⟨_, _, _, e1, e2, ⟨s, rfl⟩, q⟩)
  rintro M H x u d e r Q _ rx ru ⟨s, rfl⟩ k
  obtain ⟨h1, h2⟩ := eqS_ok rx ru s
  refine ⟨h1, ?_⟩
  rw [h2]
  exact k _ H (fun _ _ e => e) (.bl _)
end
end Tq
set_option maxRecDepth 100000
set_option maxHeartbeats 4000000
namespace Tq
open PySem PySem.Spec PyProof.Rows L2
/-! ### the law's own promise -/
def spLaw (K : Fg) : Sp := fun vs H Q _ => ∃ (a : Addr) (ns : List Int), vs = [.ref a] ∧ SqL K H a (ns.map V.int) ∧ ns.length ≤ 63 ∧ ∀ H', Q (.bl true) H'
theorem spLaw_len {K : Fg} {x : Str} : ∀ vs H Q E, spLaw K vs H Q E → vs.length = [x].length := by
  rintro vs H Q E ⟨a, ns, rfl, _⟩
  rfl
theorem law_body {K : Fg} {N : List Str} {t : TS} {vs : List V} {H : Hp} {Q : VK} {E : XK} (h : spLaw K vs H Q E) (b : ∀ ns : List Int, ns.length ≤ 63 → ∀ e : En, (∀ y, e.rt (.d (.bool true)) y) → wS ⟨K, false⟩ t (y0 N [.list (ns.map PyData.int)]) e) :
    t { nx := fun _ G => Q .non G, rt := Q } (start N vs) H := by
  obtain ⟨a, ns, rfl, hs, hl, k⟩ := h
  refine pure_body (K := K) (n := 1) (pre := fun ds => ds = [.list (ns.map PyData.int)]) (post := fun _ d => d = .bool true) (Q := Q) (E := fun _ _ _ => False) ⟨fun _ => False, [.list (ns.map PyData.int)], fun a z => z.elim, .cons (.lst ?_ (rpA_int ns)) .nil, rfl, rfl, fun d v H' e _ r => ?_⟩ ?_
  · rcases hs with hs | hs
    · exact .inl ⟨fun z => z, hs⟩
    · exact .inr hs
  · subst e
    rw [rp_bl r]
    exact k H'
  · rintro ds _ rfl e hn hr
    exact b ns hl e fun y => hr _ y rfl
/-! ### kinds of things: the program's, the law's -/
def wholeB (x : D) (lo hi : Int) : Bool := match x with
  | .int i => decide (lo ≤ i) && decide (i ≤ hi)
  | _ => false
abbrev sp_is_whole (K : Fg) : Sp := detSp K 3 (fun ds => ∃ x lo hi, ds = [x, .int lo, .int hi]) (fun ds => .bool (match ds with | [x, .int lo, .int hi] => wholeB x lo hi | _ => false))
def onlyB (t s : Str) : Bool := t.cps.toList.all fun c => decide (c ∈ s.cps.toList)
abbrev sp_has_only (K : Fg) : Sp := detSp K 2 (fun ds => ∃ t s, ds = [.str t, .str s] ∧ t.length ≤ sizeLine) (fun ds => .bool (match ds with | [.str t, .str s] => onlyB t s | _ => false))
/-- every sign is one -/
def okT (t : Str) : Prop := ∀ c ∈ t.cps.toList, c < 1114112
def okS : D → Prop
  | .str t => t.length ≤ sizeLine ∧ okT t
  | _ => True
def letters : Str := "abcdefghijklmnopqrstuvwxyz"
def nameB : D → Bool
  | .str t => decide (1 ≤ t.length) && decide (t.length ≤ 6) && onlyB t letters
  | _ => false
abbrev sp_is_name (K : Fg) : Sp := detSp K 1 (fun ds => ∃ x, ds = [x] ∧ okS x) (fun ds => .bool (nameB (a0 ds)))
abbrev sp_common (K : Fg) : Sp := detSp K 2 (fun ds => ∃ a b, ds = [.int a, .int b]) (fun ds => .int (match ds with | [.int a, .int b] => gcdI a b | _ => 0))
def fracB : D → Bool
  | .tuple [.int a, .int b] => decide (1 ≤ b) && decide (gcdI a b = 1)
  | _ => false
abbrev sp_is_fraction (K : Fg) : Sp := detSp K 1 (fun _ => True) (fun ds => .bool (fracB (a0 ds)))
abbrev sp_law_is_number (K : Fg) : Sp := sp_is_number K
abbrev sp_law_is_name (K : Fg) : Sp := sp_is_name K
abbrev sp_law_common (K : Fg) : Sp := sp_common K
abbrev sp_law_is_fraction (K : Fg) : Sp := sp_is_fraction K
def odds : List D := [.none, .bool true, .bool false, .int 0, .int (-1), .int 7, .int (10 ^ 29), .int (-(10 ^ 29)), .str "", .str "a", .str "7", .str "-3/7", .str "3;7", .str "floor", .list [], .list [.int 1], .list [.str "a"],
  .tuple [], .tuple [.int 1], .tuple [.int 3, .int 7], .tuple [.int 4, .int 2], .tuple [.int 3, .int 0], .tuple [.int 3, .int (-7)], .tuple [.bool true, .int 2], .list [.int 3, .int 7], .tuple [.int 3, .int 7, .int 1], .dict [], .dict [(.str "a", .int 1)], .dict [(.int 7, .none)],
  .list [.list [.list [.list [.list [.str "a"]]]]], .tuple [.tuple [.int 1, .int 0], .tuple [.int 0, .int 1]]]
abbrev sp_law_odd (K : Fg) : Sp := puSp K 0 (fun _ => True) (fun _ => 1) (fun _ d => d ∈ odds)
abbrev sp_law_whole (K : Fg) : Sp := puSp K 0 (fun _ => True) (fun _ => 6) (fun _ d => ∃ n : Int, d = .int n ∧ -(10 ^ 30) < n ∧ n < 10 ^ 30)
abbrev sp_law_text (K : Fg) : Sp := puSp K 0 (fun _ => True) (fun _ => 20) (fun _ d => ∃ t : Str, d = .str t ∧ t.length ≤ 20 ∧ okT t)
abbrev sp_law (K : Fg) : Sp := spLaw K
theorem atI_mem {α : Type} {xs : List α} {i : Int} (h0 : 0 ≤ i) (h1 : i < xs.length) : ∃ x, atI xs i = some x ∧ x ∈ xs := by
  obtain ⟨n, rfl⟩ := Int.eq_ofNat_of_zero_le h0
  have hn : n < xs.length := by omega
  exact ⟨xs[n], atI_nat (List.getElem?_eq_getElem hn), List.getElem_mem hn⟩
theorem join_le (y : Str) : ∀ ps : List Str, (Txt.join y ps).length ≤ (ps.map (·.length)).sum + ps.length * y.length := by
  intro ps
  rw [TL.join_eq]
  induction ps with
  | nil => exact Nat.zero_le _
  | cons p r ih =>
    cases r with
    | nil =>
      show p.length ≤ _
      simp
    | cons q r =>
      show (p ++ y ++ Str.join y (q :: r)).length ≤ _
      rw [strLen_append, strLen_append, List.map_cons, List.sum_cons, List.length_cons, Nat.succ_mul]
      omega
theorem sum_ones : ∀ {cs : List Str}, (∀ c ∈ cs, c.length = 1) → (cs.map (·.length)).sum = cs.length
  | [], _ => rfl
  | c :: cs, h => by
    rw [List.map_cons, List.sum_cons, List.length_cons, h c List.mem_cons_self, sum_ones (fun c' q => h c' (List.mem_cons_of_mem _ q))]
    omega
theorem dCut_str {t : Str} (h : t.length ≤ 1000) (lo hi : Option Int) : dCut (.str t) lo hi = some (.str (cutS t lo hi)) := if_pos (sz_small (by omega))
theorem dIx_str {t : Str} (h : t.length ≤ 1000) {i : Int} (h0 : 0 ≤ i) (h1 : i < t.length) : ∃ c : Nat, dIx (.str t) i = some (.str ⟨#[c]⟩) ∧ c ∈ t.cps.toList := by
  obtain ⟨c, hc, hm⟩ := atI_mem (xs := t.cps.toList) h0 (by rw [Array.length_toList]; exact h1)
  refine ⟨c, ?_, hm⟩
  show (if t.length ≤ sizeLine then _ else _) = _
  rw [if_pos (sz_small (by omega)), hc]
  rfl
theorem strOk_of {t : Str} (h : okT t) : PyData.strOk t = true := by
  unfold PyData.strOk
  rw [Array.all_eq_true']
  intro c hc
  exact decide_eq_true (h c (by simpa using hc))
theorem okT_app {s t : Str} (h : okT s) (h' : okT t) : okT (s ++ t) := by
  intro c hc
  have e : (s ++ t).cps.toList = s.cps.toList ++ t.cps.toList := TL.tl_append s t
  rw [e] at hc
  exact (List.mem_append.mp hc).elim (h c) (h' c)
theorem okT_cut {t : Str} (h : okT t) (lo hi : Option Int) : okT (cutS t lo hi) := by
  intro c hc
  refine h c ?_
  have hc2 : c ∈ (t.cps.toList.drop (HT.sIx t.length 0 lo)).take (HT.sIx t.length t.length hi - HT.sIx t.length 0 lo) := by simpa [cutS] using hc
  exact List.mem_of_mem_drop (List.mem_of_mem_take hc2)
theorem okT_join {y : Str} (hy : okT y) : ∀ {ps : List Str}, (∀ p ∈ ps, okT p) → okT (Txt.join y ps) := by
  intro ps hp
  rw [TL.join_eq]
  induction ps with
  | nil => intro c hc; exact absurd hc (by simp [Str.join, Str.empty])
  | cons p r ih =>
    cases r with
    | nil => exact hp p List.mem_cons_self
    | cons q r => exact okT_app (okT_app (hp p List.mem_cons_self) hy) (ih fun p' h => hp p' (List.mem_cons_of_mem _ h))
theorem okT_one {c : Nat} (h : c < 1114112) : okT ⟨#[c]⟩ := by
  intro c' hc
  have : c' = c := by simpa using hc
  rw [this]; exact h
theorem okT_empty : okT "" := by
  intro c hc
  have z : c ∈ ([] : List Nat) := hc
  cases z
theorem shaped_strs {xs : List D} (h : ∀ d ∈ xs, ∃ t, d = .str t ∧ okT t) : SeqAt.shaped (.list xs) = true := by
  have z : PyData.canLayAll0 xs = true ∧ PyData.depthAll xs = 0 := by
    induction xs with
    | nil => exact ⟨by simp [PyData.canLayAll0], by simp [PyData.depthAll]⟩
    | cons x r ih =>
      obtain ⟨h1, h2⟩ := ih fun d hd => h d (List.mem_cons_of_mem _ hd)
      obtain ⟨t, rfl, ht⟩ := h x List.mem_cons_self
      refine ⟨?_, ?_⟩
      · simp [PyData.canLayAll0, PyData.canLay0, strOk_of ht, h1]
      · simp [PyData.depthAll, PyData.depth, h2]
  simp [SeqAt.shaped, PyData.canLay0, PyData.depth, z.1, z.2]
theorem shaped_nil : SeqAt.shaped (.list []) = true := shaped_strs (by simp)
theorem eqv_nil (xs : List D) : PyData.eqv (.list xs) (.list []) = xs.isEmpty := by
  cases xs <;> simp [PyData.eqv, PyData.eqvAll]
/-- a letter -/
theorem letter_iff (c : Nat) : c ∈ letters.cps.toList ↔ 97 ≤ c ∧ c ≤ 122 := by
  have e : letters.cps.toList = List.range' 97 26 := by decide
  rw [e, List.mem_range']
  constructor
  · rintro ⟨i, hi, rfl⟩; omega
  · intro h; exact ⟨c - 97, by omega, by omega⟩
theorem lt_one (a b : Nat) : decide ([a] < [b]) = decide (a < b) := by
  by_cases h : a < b
  · rw [decide_eq_true h, decide_eq_true]; exact List.Lex.rel h
  · rw [decide_eq_false h, decide_eq_false]
    intro z
    cases z with
    | rel q => exact h q
    | cons q => cases q
theorem only_filter (t : Str) (p : D → Bool) (hp : ∀ c : Nat, p (.str ⟨#[c]⟩) = !(decide (97 ≤ c) && decide (c ≤ 122))) : ((signs t).filter p).isEmpty = onlyB t letters := by
  unfold onlyB signs
  induction t.cps.toList with
  | nil => rfl
  | cons c r ih =>
    rw [List.map_cons, List.filter_cons, hp c, List.all_cons]
    by_cases h : 97 ≤ c ∧ c ≤ 122
    · have h2 : decide (c ∈ letters.cps.toList) = true := decide_eq_true ((letter_iff c).mpr h)
      have h3 : (!(decide (97 ≤ c) && decide (c ≤ 122))) = false := by simp [h.1, h.2]
      rw [h2, h3]
      exact ih
    · have h2 : decide (c ∈ letters.cps.toList) = false := decide_eq_false fun z => h ((letter_iff c).mp z)
      have h3 : (!(decide (97 ≤ c) && decide (c ≤ 122))) = true := by
        simp only [Bool.not_eq_true', Bool.and_eq_false_iff, decide_eq_false_iff_not]
        omega
      rw [h2, h3]
      rfl
/-! what repr is asked of -/
def ShOk (d : D) : Prop := dsm d = true ∧ d.showable = true ∧ d.depth ≤ 60 ∧ d.shown.length ≤ sizeLine
theorem sh_bool (a : Bool) : ShOk (.bool a) := by cases a <;> exact ⟨by decide +kernel, by decide +kernel, by decide +kernel, by decide +kernel⟩
theorem sh_bool3 (a b c : Bool) : ShOk (.list [.bool a, .bool b, .bool c]) := by cases a <;> cases b <;> cases c <;> exact ⟨by decide +kernel, by decide +kernel, by decide +kernel, by decide +kernel⟩
theorem wE_reprS {C : Ct} {y : S} {te : TE} {Q : Z → S → Prop} (w : wE C te y fun z y1 => ∃ d, z = .d d ∧ ShOk d ∧ Q (.d (.str d.shown)) y1) : wE C (tCB (rRepr C.K) (tCons te tNil)) y Q :=
  wE_repr (wD_cons (wE_mono w fun z y1 ⟨d, e, ⟨h1, h2, h3, h4⟩, q⟩ => ⟨d, e, wD_nil ⟨d, rfl, h1, h2, h3, h4, q⟩⟩))
theorem gcd_pos {a b : Int} (h : b ≠ 0) : 0 < gcdI a b := by
  unfold gcdI
  have : 0 < Nat.gcd a.natAbs b.natAbs := Nat.gcd_pos_of_pos_right _ (by omega)
  omega
theorem gcd_le {a b : Int} (h : 0 < b) : gcdI a b ≤ b := by
  unfold gcdI
  have := Nat.gcd_le_right a.natAbs (show 0 < b.natAbs by omega)
  omega
theorem whole_and (x : D) (lo hi : Int) : (isNum x = false → wholeB x lo hi = false) := by
  cases x <;> intro h <;> first | rfl | cases h
theorem okS_odds : ∀ d ∈ odds, okS d := by
  have e : ∀ d ∈ odds, (match d with | .str t => decide (t.length ≤ 100) && t.cps.toList.all (fun c => decide (c < 1114112)) | _ => true) = true := by decide +kernel
  intro d hd
  have q := e d hd
  cases d with
  | str t =>
    rw [Bool.and_eq_true] at q
    refine ⟨sz_small (by have := of_decide_eq_true q.1; omega), fun c hc => ?_⟩
    exact of_decide_eq_true (List.all_eq_true.mp q.2 c hc)
  | _ => trivial
theorem take_one {l : List D} {i : Nat} {x : D} (h : l[i]? = some x) : l.take (i + 1) = l.take i ++ [x] := by rw [List.take_add_one, h]; rfl
end Tq
set_option maxRecDepth 100000
set_option maxHeartbeats 4000000
namespace Tq
open PySem PySem.Spec PyProof.Rows L2
theorem sz_lt1 {n : Nat} (h : n < 100000) : n < sizeLine := Nat.lt_of_lt_of_le h (by decide)
theorem divW_ok {i j : Int} (h : 0 < j) (h2 : j ≤ 10 ^ 40) : CDivW i j := wide_div (b := 200) h (Nat.lt_of_le_of_lt (show j.natAbs ≤ 10 ^ 40 by omega) (by decide)) (by decide) (by decide)
theorem wS_norm {C : Ct} {t : TS} {y y' : S} {e : En} (h : y = y') (w : wS C t y' e) : wS C t y e := h ▸ w
/-! ### what is known of the slots may be forgotten -/
def Less (y' y : S) : Prop := y'.length = y.length ∧ ∀ (i : Nat) (z : Y), y'[i]? = some (some z) → y[i]? = some (some z)
theorem Less.isO {y' y : S} (h : Less y' y) {i : Nat} (o : Tq.isO y' i = true) : Tq.isO y i = true := by
  unfold Tq.isO at o
  cases q : y'[i]? with
  | none => rw [q] at o; cases o
  | some u =>
    cases u with
    | none => rw [q] at o; cases o
    | some z =>
      rw [q] at o
      rw [isO_of (h.2 i z q)]
      exact o
theorem Wd.weak {C : Ct} {F : Fr} {σ : St} {y y' : S} {H : Hp} (w : Wd C F σ y H) (h : Less y' y) : Wd C F σ y' H ∧ Go F σ y H σ y' H := by
  have own : ∀ a, Own σ y' a → Own σ y a := fun a ⟨i, o, e⟩ => ⟨i, h.isO o, e⟩
  have g : Go F σ y H σ y' H := fun a o n e => ⟨fun z => n (z.elim .inl fun z => .inr (own a z)), e⟩
  exact ⟨⟨w.keep, w.live0, w.live, w.len.trans h.1.symm, fun i z e => slots_go g (fun _ _ _ _ e => e) (w.slot i z (h.2 i z e)), fun i j a o1 o2 => w.dist i j a (h.isO o1) (h.isO o2), fun a o => w.frsh a (own a o), w.pin, w.sm, fun st i a o => w.nb st i a (h.isO o)⟩, g⟩
theorem wS_weak {C : Ct} {t : TS} {y y' : S} {e : En} (w : wS C t y' e) (h : Less y' y) : wS C t y e := by
  intro F σ H E st wd k
  obtain ⟨w1, g1⟩ := wd.weak h
  exact w F σ H E st w1 (k.go g1)
abbrev rMx : List V → Hp → VK → Prop := fun xs H Q => ∃ i j, xs = [.int i, .int j] ∧ Q (.int (if j > i then j else i)) H
abbrev rMn : List V → Hp → VK → Prop := fun xs H Q => ∃ i j, xs = [.int i, .int j] ∧ Q (.int (if j < i then j else i)) H
/-- what stands between two cells: the script alone is known -/
def cellEnd (n : Nat) (s : D) (y : S) : Prop := y.length = n + 2 ∧ y[0]? = some (some (.d s))
/-- for _law_k in range(max(2, min(c, len(script)))): tb; return True -/
theorem law_loop {K : Fg} {tb : TS} {e : En} {ns : List Int} {c : Int} {n : Nat} (hc : 0 ≤ c ∧ c ≤ 900) (hz : ∀ y, e.rt (.d (.bool true)) y)
    (hb : ∀ k : Int, 0 ≤ k → k < 1000 → wS ⟨K, false⟩ tb (some (.d (.list (ns.map PyData.int))) :: some (.d (.int k)) :: List.replicate n none)
      { nx := cellEnd n (.list (ns.map PyData.int)), ct := cellEnd n (.list (ns.map PyData.int)), bk := fun y1 => wS ⟨K, false⟩ (tRet (tC (.bl true))) y1 e, rt := e.rt }) :
    wS ⟨K, false⟩ (tSeq (tFor (iRng1 (tCons (tCB rMx (tCons (tC (.int 2)) (tCons (tCB rMn (tCons (tC (.int c)) (tCons (tCB (rLenD K) (tCons (tVar 0) tNil)) tNil))) tNil))) tNil)) (gName 1) tb) (tRet (tC (.bl true))))
      (some (.d (.list (ns.map PyData.int))) :: none :: List.replicate n none) e := by
  refine wS_seq (wS_for (wI_rng1 (wD_cons (wE_max2 (wD_cons (wE_int ⟨_, rfl, wD_cons (wE_min2 (wD_cons (wE_int ⟨_, rfl, wD_cons (wE_len (wD_cons (wE_var rfl ⟨_, rfl, wD_nil ⟨_, _, rfl, rfl, ?_⟩⟩))) ⟩)))⟩))))))
  refine ⟨_, rfl, wD_nil ⟨_, _, rfl, _, rfl, wD_nil ⟨_, _, rfl, _, rfl, wD_nil ⟨_, rfl, ?_⟩⟩⟩⟩
  rw [List.length_map]
  generalize hj : (if (if (ns.length : Int) < c then (ns.length : Int) else c) > 2 then (if (ns.length : Int) < c then (ns.length : Int) else c) else 2) = j
  have h1 : 2 ≤ j ∧ j ≤ 900 := by
    rw [← hj]
    constructor
    · split <;> omega
    · split
      · split <;> omega
      · omega
  refine ⟨by omega, by omega, fun _ y => cellEnd n (.list (ns.map PyData.int)) y, ⟨by simp, rfl⟩, fun i x y2 hx ⟨hy1, hy2⟩ => ?_, fun y2 _ => wS_ret (wE_bl (hz _))⟩
  obtain ⟨hi, rfl⟩ := rangeD_get hx
  refine wG_name (wS_weak (hb (0 + (i : Int)) (by omega) (by omega)) ⟨by rw [List.length_set, hy1]; simp, fun k z e => ?_⟩)
  match k, e with
  | 0, e =>
    cases e
    rw [List.getElem?_set_ne (by decide)]
    exact hy2
  | 1, e =>
    cases e
    exact List.getElem?_set_self (by omega)
  | k + 2, e =>
    have e2 : (List.replicate n (none : Option Y))[k]? = some (some z) := e
    rw [List.getElem?_replicate] at e2
    split at e2 <;> cases e2
end Tq
set_option maxRecDepth 100000
set_option maxHeartbeats 4000000
namespace Tq
open PySem PySem.Spec PyProof.Rows L2
theorem less_nil : Less [] [] := ⟨rfl, fun i z e => e⟩
theorem less_none {a b : S} {z : Option Y} (h : Less a b) : Less (none :: a) (z :: b) := by
  refine ⟨congrArg (· + 1) h.1, fun i u e => ?_⟩
  cases i with
  | zero => cases e
  | succ i => exact h.2 i u e
theorem less_some {a b : S} {z : Option Y} (h : Less a b) : Less (z :: a) (z :: b) := by
  refine ⟨congrArg (· + 1) h.1, fun i u e => ?_⟩
  cases i with
  | zero => exact e
  | succ i => exact h.2 i u e
theorem less_set {a b : S} {i : Nat} {z : Option Y} (h : Less a b) : Less (a.set i z) (b.set i z) := by
  refine ⟨by rw [List.length_set, List.length_set, h.1], fun j u e => ?_⟩
  rw [List.getElem?_set] at e ⊢
  rw [← h.1]
  split at e
  · next q => rw [if_pos q]; exact e
  · next q => rw [if_neg q]; exact h.2 j u e
theorem less_cell {a y : S} {n : Nat} {s : D} (h : Less a y) (hl : a.length = n + 2) (h0 : a[0]? = some (some (.d s))) : cellEnd n s y := ⟨h.1.symm.trans hl, h.2 0 _ h0⟩
/-- a loop whose turns forget all but y' -/
theorem forW {C : Ct} {v : Nat} {tx : TS} {xs : List D} {y0 : S} {bk : S → Prop} {rt : Z → S → Prop} {R : S → Prop} (y' : S) (hv : v ≠ 0) (h0 : Less y' y0)
    (hb : ∀ x ∈ xs, wS C tx (y'.set v (some (.d x))) { nx := Less y', ct := Less y', bk := bk, rt := rt }) (he : ∀ y2, Less y' y2 → R y2) :
    ∃ I : Nat → S → Prop, I 0 y0 ∧ (∀ i x y2, xs[i]? = some x → I i y2 → wG C (gName v) x y2 fun y3 => wS C tx y3 { nx := I (i + 1), ct := I (i + 1), bk := bk, rt := rt }) ∧ (∀ y2, I xs.length y2 → R y2) :=
  ⟨fun _ => Less y', h0, fun i x y2 hx hy => wG_name (hp := Or.inl hv) (wS_weak (hb x (List.mem_of_getElem? hx)) (less_set hy)), he⟩
theorem eqS_self (t : Str) : eqS (.str t) (.str t) = true := by simp [eqS]
theorem ne_self (t : Str) : (!eqS (.str t) (.str t)) = false := by rw [eqS_self]; rfl
theorem ne_eq {a b : Str} (h : a = b) : (!eqS (.str a) (.str b)) = false := by rw [h, eqS_self]; rfl
theorem shown_eq {a b : D} (h : a = b) : a.shown = b.shown := by rw [h]
end Tq
set_option maxRecDepth 100000
set_option maxHeartbeats 4000000
namespace Tq
open PySem PySem.Spec PyProof.Rows L2
/-! ### what the top has written -/
theorem df_mk {K : Fg} {h : Heap} {mg : Str → Option Value} {x : Str} {st : Stmt} {ps : List Str} {f : Addr} {od an : Option Addr} {sl : Array (Option Value)} {oc kV dc pm cd ct : Value} (X : K.In h) (G : h.Ns mainGlobals mg)
    (hb : ∀ (kV dc pm : Value) (an : Option Addr) (cd ct : Value) (us : List Value), us.length = ps.length → bindArgs (PySem.W.fnOf x x (defArgs st) (defBody st) (defScope st) .none kV dc pm an cd ct) ⟨us, []⟩ = pure (ps.zip us))
    (a : PySem.W.nsIn K mainGlobals x = some (some (.ref f))) (l : K.lookup f = some ⟨oc, od, .func (PySem.W.fnOf x x (defArgs st) (defBody st) (defScope st) .none kV dc pm an cd ct), sl⟩) (c : PySem.W.codeIn K cd x = true) (k : PySem.W.keepIn K (.ref f) = true) : Df K mg x st ps :=
  ⟨f, _, fun_mk l c k, PySem.W.mg_of X G a, (fun_mk l c k).binds hb⟩
theorem law_mk {P : Program} {w : World} {K : Fg} {h : Heap} {mg : Str → Option Value} {st : Stmt} {x : Str} {f fa : Addr} {n : Nat} {sp : Sp} {od an : Option Addr} {sl : Array (Option Value)} {oc kV dc pm cd ct : Value} (X : K.In h) (G : h.Ns mainGlobals mg) (hfa : mg "law" = some (.ref fa))
    (ok : ∀ (base : Heap) (f : Addr) (fd : FuncData), Fun K "law" "law" st f fd → FnG P w K mg base CX0 n f fd [x] sp)
    (hb : ∀ (kV dc pm : Value) (an : Option Addr) (cd ct : Value) (s : Shared) (u : Value), BindsTo s (PySem.W.fnOf "law" "law" (defArgs st) (defBody st) (defScope st) .none kV dc pm an cd ct) ⟨[u], []⟩ [(x, u)])
    (a : PySem.W.nsIn K mainGlobals "law" = some (some (.ref f))) (l : K.lookup f = some ⟨oc, od, .func (PySem.W.fnOf "law" "law" (defArgs st) (defBody st) (defScope st) .none kV dc pm an cd ct), sl⟩) (c : PySem.W.codeIn K cd "law" = true) (k : PySem.W.keepIn K (.ref f) = true) :
    ∃ fd : FuncData, (∀ (s : Shared) (u : Value), BindsTo s fd ⟨[u], []⟩ [(x, u)]) ∧ ∀ base : Heap, K.In base → base.Ns mainGlobals mg → FnG P w K mg base CX0 n fa fd [x] sp := by
  have e := hfa.symm.trans (PySem.W.mg_of X G a)
  cases e
  exact ⟨_, hb kV dc pm an cd ct, fun base _ _ => ok base _ _ (fun_mk l c k)⟩
end Tq
set_option maxRecDepth 100000
set_option maxHeartbeats 4000000
namespace Tq
open PySem PySem.Spec PyProof.Rows L2
open PySem.Builtin.Str (occurrences subAt)
open PySem.NumText (digitsVal AllDigits)
/-! ### numbers in texts -/
abbrev rIndex : V → List V → Hp → VK → Prop := fun x xs H Q => ∃ a b i r, x = .str a ∧ xs = [.str b] ∧ occurrences a b 0 a.length 1 = i :: r ∧ Q (.int (i : Nat)) H
theorem mt_index {X : Cx} : MtR X "str.index" rIndex := by
  intro pins s σ H x xs v us Q I rx rs h
  obtain ⟨a, b, i, r, rfl, rfl, ho, h⟩ := h
  obtain ⟨t, rfl⟩ := rx
  cases rs with
  | cons r1 rs =>
    cases rs
    obtain ⟨u, rfl⟩ := r1
    exact PySem.SC.index ho ⟨.int (i : Nat), H, I.tok _, ⟨_, rfl⟩, h⟩
theorem wE_index {C : Ct} {ta tb : TE} {y : S} {Q : Z → S → Prop} (w : wE C ta y fun z y1 => ∃ a, z = .d (.str a) ∧ wE C tb y1 fun z' y2 => ∃ b i r, z' = .d (.str b) ∧ occurrences a b 0 a.length 1 = i :: r ∧ Q (.d (.int (i : Nat))) y2) :
    wE C (tM1 rIndex ta tb) y Q := by
  intro F σ H K wd k
  refine w F σ H _ wd fun x H1 z y1 w1 g1 s1 r1 q1 => ?_
  obtain ⟨a, rfl, q1⟩ := q1
  have e := rp_str r1
  subst e
  refine ⟨⟨a, rfl⟩, q1 F σ H1 _ w1 fun x2 H2 z' y2 w2 g2 s2 r2 q2 => ?_⟩
  obtain ⟨b, i, r, rfl, ho, hq⟩ := q2
  exact ⟨a, b, i, r, rfl, by rw [rp_str r2], ho, k _ H2 (.d (.int _)) y2 w2 (g1.trans g2) (s1.trans s2) (.int _) hq⟩
theorem digit_iff (c : Nat) : c ∈ ("0123456789" : Str).cps.toList ↔ 48 ≤ c ∧ c ≤ 57 := by
  have e : ("0123456789" : Str).cps.toList = (List.range 10).map (· + 48) := by decide
  rw [e, List.mem_map]
  constructor
  · rintro ⟨a, h, rfl⟩
    have := List.mem_range.mp h
    omega
  · intro h
    exact ⟨c - 48, List.mem_range.mpr (by omega), by omega⟩
theorem digit_ix {c : Nat} (h : 48 ≤ c ∧ c ≤ 57) : ∃ r, occurrences "0123456789" ⟨#[c]⟩ 0 ("0123456789" : Str).length 1 = (c - 48) :: r := by
  have e : ∀ k < 10, occurrences "0123456789" ⟨#[k + 48]⟩ 0 ("0123456789" : Str).length 1 = [k] := by decide +kernel
  refine ⟨[], ?_⟩
  have := e (c - 48) (by omega)
  rwa [show c - 48 + 48 = c by omega] at this
theorem str_list (t : Str) : t = ⟨t.cps.toList.toArray⟩ := by cases t; simp
theorem str_lenL (t : Str) : t.cps.toList.length = t.length := Array.length_toList
theorem cut_drop1 (t : Str) : (cutS t (some 1) none).cps.toList = t.cps.toList.drop 1 := by
  unfold cutS
  have h := HT.sIx_nat t.length 0 1
  rw [show ((1 : Nat) : Int) = 1 from rfl] at h
  rw [h, HT.sIx_none]
  have hl := str_lenL t
  show (List.take _ (List.drop _ _)) = _
  rcases Nat.eq_zero_or_pos t.length with z | z
  · have : t.cps.toList = [] := List.eq_nil_of_length_eq_zero (by omega)
    rw [this]; simp
  · rw [show min 1 t.length = 1 by omega, List.take_of_length_le]
    rw [List.length_drop]; omega
theorem cut_take1 (t : Str) : (cutS t none (some 1)).cps.toList = t.cps.toList.take 1 := by
  unfold cutS
  have h := HT.sIx_nat t.length t.length 1
  rw [show ((1 : Nat) : Int) = 1 from rfl] at h
  rw [h, HT.sIx_none]
  have hl := str_lenL t
  show (List.take _ (List.drop _ _)) = _
  rw [List.drop_zero]
  rcases Nat.eq_zero_or_pos t.length with z | z
  · have : t.cps.toList = [] := List.eq_nil_of_length_eq_zero (by omega)
    rw [this]; simp
  · rw [show min 1 t.length = 1 by omega]
theorem str_ext {a b : Str} (h : a.cps.toList = b.cps.toList) : a = b := by rw [str_list a, str_list b, h]
/-- has it a bar ahead -/
def barL (cs : List Nat) : Bool := decide (cs.take 1 = [45])
theorem starts_bar (t : Str) : Txt.startswith t "-" = barL t.cps.toList := by
  rw [str_list t]
  cases t.cps.toList with
  | nil => rfl
  | cons c r =>
    show (decide (0 + 1 ≤ (r.length + 1)) && (((c :: r).toArray.extract 0 1) == #[45])) = decide ([c] = [45])
    rw [decide_eq_true (by omega), Bool.true_and]
    have : ((c :: r).toArray.extract 0 1) = #[c] := by simp
    rw [this]
    by_cases h : c = 45
    · subst h; rfl
    · rw [decide_eq_false (by simpa using h)]
      exact beq_eq_false_iff_ne.mpr (by simpa using h)
theorem eq_bar (t : Str) : eqS (.str (cutS t none (some 1))) (.str "-") = barL t.cps.toList := by
  show decide (cutS t none (some 1) = "-") = decide (t.cps.toList.take 1 = [45])
  rw [← cut_take1]
  by_cases h : cutS t none (some 1) = "-"
  · rw [decide_eq_true h, decide_eq_true]; rw [h]; rfl
  · rw [decide_eq_false h, decide_eq_false]; exact fun z => h (str_ext z)
def figOk (bl : Bool) (cs : List Nat) : Bool := decide (1 ≤ cs.length) && decide (cs.length ≤ 30) && cs.all (fun c => decide (48 ≤ c) && decide (c ≤ 57)) && !(decide (cs.take 1 = [48]) && (bl || decide (cs ≠ [48])))
def numOf (bl : Bool) (cs : List Nat) : D := if figOk bl cs = true then .int (if bl then -((digitsVal cs : Nat) : Int) else (digitsVal cs : Nat)) else .none
def numL (cs : List Nat) : D := if barL cs = true then numOf true (cs.drop 1) else numOf false cs
/-- the number that a text writes, or None -/
def numD : D → D
  | .str t => numL t.cps.toList
  | _ => .none
end Tq
set_option maxRecDepth 100000
set_option maxHeartbeats 4000000
namespace Tq
open PySem PySem.Spec PyProof.Rows L2
/-! ### what repr shows, bounded -/
structure Shw (b k : Nat) (d : D) : Prop where
  nd : d.hasDict = false
  sw : d.showable = true
  dp : d.depth ≤ k
  ln : d.shown.length ≤ b
theorem Shw.ok {b k : Nat} {d : D} (h : Shw b k d) (hb : b ≤ 10000000 := by decide) (hk : k ≤ 60 := by decide) : ShOk d := by
  refine ⟨?_, h.sw, Nat.le_trans h.dp hk, Nat.le_trans h.ln (Nat.le_trans hb (by decide))⟩
  have := h.nd
  cases d with
  | dict kvs => cases this
  | list xs => show (!(PyData.list xs).hasDict) = true; rw [this]; rfl
  | tuple xs => show (!(PyData.tuple xs).hasDict) = true; rw [this]; rfl
  | _ => rfl
theorem Shw.mono {b k b' k' : Nat} {d : D} (h : Shw b k d) (hb : b ≤ b') (hk : k ≤ k') : Shw b' k' d := ⟨h.nd, h.sw, Nat.le_trans h.dp hk, Nat.le_trans h.ln hb⟩
theorem rz_none : Shw 4 0 .none := ⟨rfl, rfl, Nat.le_refl _, by decide⟩
theorem rz_bl (b : Bool) : Shw 5 0 (.bool b) := ⟨rfl, rfl, Nat.le_refl _, by cases b <;> decide⟩
theorem rz_int {i : Int} {k : Nat} (h : i.natAbs < 10 ^ k) (hk : 0 < k := by decide) (h2 : k ≤ 500 := by decide) : Shw (k + 1) 0 (.int i) := by
  refine ⟨rfl, ?_, Nat.le_refl _, ?_⟩
  · refine decide_eq_true (log2_lt (Nat.lt_of_lt_of_le h ?_) (by decide))
    exact Nat.le_trans (Nat.pow_le_pow_right (by decide) h2) (by decide +kernel)
  · show (Str.ofString (toString i)).length ≤ _
    rw [PySem.ofString_length]
    exact int_text_length_le10 hk h
theorem shownAll_map (xs : List D) : PyData.shownAll xs = xs.map PyData.shown := by
  induction xs with
  | nil => rfl
  | cons x r ih => rw [List.map_cons, ← ih]; rfl
theorem rz_all {b k : Nat} {xs : List D} (h : ∀ x ∈ xs, Shw b k x) : PyData.hasDictAll xs = false ∧ PyData.showableAll xs = true ∧ PyData.depthAll xs ≤ k ∧ ((PyData.shownAll xs).map (·.length)).sum ≤ xs.length * b := by
  induction xs with
  | nil => exact ⟨rfl, rfl, Nat.zero_le _, Nat.zero_le _⟩
  | cons x r ih =>
    obtain ⟨h1, h2, h3, h4⟩ := ih fun z hz => h z (List.mem_cons_of_mem _ hz)
    have hx := h x (List.mem_cons_self ..)
    refine ⟨?_, ?_, ?_, ?_⟩
    · show (x.hasDict || PyData.hasDictAll r) = false
      rw [hx.nd, h1]; rfl
    · show (x.showable && PyData.showableAll r) = true
      rw [hx.sw, h2]; rfl
    · exact Nat.max_le.mpr ⟨hx.dp, h3⟩
    · show ((x.shown :: PyData.shownAll r).map (·.length)).sum ≤ _
      rw [List.map_cons, List.sum_cons]
      have := hx.ln
      rw [List.length_cons, Nat.add_mul, Nat.one_mul]
      omega
theorem rz_list {b k : Nat} {xs : List D} (h : ∀ x ∈ xs, Shw b k x) : Shw (xs.length * (b + 2) + 3) (k + 1) (.list xs) := by
  obtain ⟨h1, h2, h3, h4⟩ := rz_all h
  refine ⟨h1, h2, Nat.succ_le_succ h3, ?_⟩
  have := listText_len_le (PyData.shownAll xs)
  have hl : (PyData.shownAll xs).length = xs.length := by rw [shownAll_map, List.length_map]
  show (listText (PyData.shownAll xs)).length ≤ _
  rw [Nat.mul_add]
  omega
theorem rz_tup {b k : Nat} {xs : List D} (h : ∀ x ∈ xs, Shw b k x) : Shw (xs.length * (b + 2) + 3) (k + 1) (.tuple xs) := by
  obtain ⟨h1, h2, h3, h4⟩ := rz_all h
  refine ⟨h1, h2, Nat.succ_le_succ h3, ?_⟩
  have := tupleText_len_le (PyData.shownAll xs)
  have hl : (PyData.shownAll xs).length = xs.length := by rw [shownAll_map, List.length_map]
  show (tupleText (PyData.shownAll xs)).length ≤ _
  rw [Nat.mul_add]
  omega
end Tq
set_option maxRecDepth 100000
set_option maxHeartbeats 4000000
namespace Tq
open PySem PySem.Spec PyProof.Rows L2
open PySem.NumText (digitsVal AllDigits)
/-- a loop whose turns know J alone -/
theorem forJ {C : Ct} {v : Nat} {tx : TS} {xs : List D} {y0 : S} {bk : S → Prop} {rt : Z → S → Prop} {R : S → Prop} (J : Nat → S → Prop) (hv : v ≠ 0 := by decide) (h0 : ∃ y', J 0 y' ∧ Less y' y0)
    (hb : ∀ i x y', xs[i]? = some x → J i y' → wS C tx (y'.set v (some (.d x))) { nx := fun y => ∃ y', J (i + 1) y' ∧ Less y' y, ct := fun y => ∃ y', J (i + 1) y' ∧ Less y' y, bk := bk, rt := rt }) (he : ∀ y2 y', J xs.length y' → Less y' y2 → R y2) :
    ∃ I : Nat → S → Prop, I 0 y0 ∧ (∀ i x y2, xs[i]? = some x → I i y2 → wG C (gName v) x y2 fun y3 => wS C tx y3 { nx := I (i + 1), ct := I (i + 1), bk := bk, rt := rt }) ∧ (∀ y2, I xs.length y2 → R y2) :=
  ⟨fun i y => ∃ y', J i y' ∧ Less y' y, h0, fun i x y2 hx ⟨y', hj, hl⟩ => wG_name (hp := Or.inl hv) (wS_weak (hb i x y' hx hj) (less_set hl)), fun y2 ⟨y', hj, hl⟩ => he y2 y' hj hl⟩
def okN : D → Prop
  | .str t => t.length ≤ 900 ∧ okT t
  | _ => True
abbrev sp_number_of (K : Fg) : Sp := detSp K 1 (fun ds => ∃ x, ds = [x] ∧ okN x) (fun ds => numD (a0 ds))
abbrev sp_law_due_num (K : Fg) : Sp := sp_number_of K
abbrev sp_law_near (K : Fg) : Sp := puSp K 1 (fun ds => ∃ t, ds = [.str t] ∧ t.length ≤ 800 ∧ okT t) (fun _ => 8) (fun ds d => ∃ t, d = .str t ∧ t.length ≤ 810 ∧ okT t)
theorem num_t {t : Str} (h : Txt.startswith t "-" = true) : numD (.str t) = numOf true (cutS t (some 1) none).cps.toList := by
  rw [starts_bar] at h
  show (if barL t.cps.toList = true then _ else _) = _
  rw [if_pos h, cut_drop1]
theorem num_f {t : Str} (h : ¬ Txt.startswith t "-" = true) : numD (.str t) = numOf false t.cps.toList := by
  rw [starts_bar] at h
  exact if_neg h
theorem dIx0 {f : Str} (h : f.length ≤ 900) (h1 : 1 ≤ f.length) : ∃ c : Nat, dIx (.str f) 0 = some (.str ⟨#[c]⟩) ∧ f.cps.toList.take 1 = [c] := by
  have hl := str_lenL f
  cases e : f.cps.toList with
  | nil => rw [e] at hl; simp at hl; omega
  | cons c r =>
    refine ⟨c, ?_, rfl⟩
    show (if f.length ≤ sizeLine then _ else _) = _
    have ha : atI (c :: r) 0 = some c := atI_nat (j := 0) rfl
    rw [if_pos (sz_small (by omega)), e, ha]
    rfl
theorem all_digits {cs : List Nat} (h : cs.all (fun c => decide (48 ≤ c) && decide (c ≤ 57)) = true) : AllDigits cs := fun c hc => by
  have := List.all_eq_true.mp h c hc
  rw [Bool.and_eq_true] at this
  exact ⟨of_decide_eq_true this.1, of_decide_eq_true this.2⟩
theorem only_dig (f : Str) : onlyB f "0123456789" = f.cps.toList.all (fun c => decide (48 ≤ c) && decide (c ≤ 57)) := by
  unfold onlyB
  congr 1
  funext c
  have := digit_iff c
  by_cases h : 48 ≤ c ∧ c ≤ 57
  · rw [decide_eq_true (this.mpr h), decide_eq_true h.1, decide_eq_true h.2]; rfl
  · rw [decide_eq_false (fun z => h (this.mp z))]
    symm
    rw [Bool.and_eq_false_iff]
    rcases Nat.lt_or_ge c 48 with z | z
    · exact .inl (decide_eq_false (by omega))
    · exact .inr (decide_eq_false (by omega))
theorem num_len {bl : Bool} {f : Str} (h : ¬ (1 ≤ f.length ∧ f.length ≤ 30)) : numOf bl f.cps.toList = .none := by
  have hl := str_lenL f
  refine if_neg fun z => h ?_
  unfold figOk at z
  simp only [Bool.and_eq_true, decide_eq_true_eq] at z
  omega
theorem num_dig {bl : Bool} {f : Str} (h : ¬ onlyB f "0123456789" = true) : numOf bl f.cps.toList = .none := by
  rw [only_dig] at h
  refine if_neg fun z => h ?_
  unfold figOk at z
  rw [Bool.and_eq_true, Bool.and_eq_true, Bool.and_eq_true] at z
  exact z.1.2
theorem num_zero {bl : Bool} {f : Str} (h : f.cps.toList.take 1 = [48]) (h2 : bl = true ∨ f.cps.toList ≠ [48]) : numOf bl f.cps.toList = .none := by
  refine if_neg fun z => ?_
  unfold figOk at z
  rw [Bool.and_eq_true, decide_eq_true h, Bool.true_and] at z
  have z2 := z.2
  rcases h2 with rfl | h2
  · cases z2
  · rw [decide_eq_true h2, Bool.or_true] at z2; cases z2
theorem num_some {bl : Bool} {f : Str} (h1 : 1 ≤ f.length) (h2 : f.length ≤ 30) (h3 : onlyB f "0123456789" = true) (h4 : ¬ (f.cps.toList.take 1 = [48] ∧ (bl = true ∨ f.cps.toList ≠ [48]))) :
    numOf bl f.cps.toList = .int (if bl then -((digitsVal f.cps.toList : Nat) : Int) else (digitsVal f.cps.toList : Nat)) := by
  have hl := str_lenL f
  refine if_pos ?_
  rw [only_dig] at h3
  unfold figOk
  rw [h3, decide_eq_true (show 1 ≤ f.cps.toList.length by omega), decide_eq_true (show f.cps.toList.length ≤ 30 by omega)]
  simp only [Bool.true_and, Bool.and_eq_true, Bool.not_eq_true', Bool.and_eq_false_iff, decide_eq_false_iff_not]
  by_cases z : f.cps.toList.take 1 = [48]
  · right
    rw [Bool.or_eq_false_iff]
    have := fun w => h4 ⟨z, w⟩
    constructor
    · cases bl
      · rfl
      · exact absurd (Or.inl rfl) this
    · refine decide_eq_false fun w => this (Or.inr w)
  · exact .inl z
theorem int_dig {f : Str} (h1 : 1 ≤ f.length) (h2 : f.length ≤ 30) (h3 : onlyB f "0123456789" = true) : PySem.intText? f = some ((digitsVal f.cps.toList : Nat) : Int) := by
  have hl := str_lenL f
  rw [only_dig] at h3
  exact PySem.intText_digits (all_digits h3) (fun z => by rw [z] at hl; simp at hl; omega) (by omega)
theorem eq0 {f : Str} {c : Nat} (h : f.cps.toList.take 1 = [c]) : eqS (.str ⟨#[c]⟩) (.str "0") = decide (f.cps.toList.take 1 = [48]) := by
  show decide ((⟨#[c]⟩ : Str) = "0") = _
  rw [h]
  by_cases z : c = 48
  · subst z; rfl
  · rw [decide_eq_false, decide_eq_false]
    · simpa using z
    · intro w
      have : (⟨#[c]⟩ : Str).cps.toList = ("0" : Str).cps.toList := congrArg (fun s : Str => s.cps.toList) w
      have : [c] = [48] := this
      exact z (by simpa using this)
theorem eq0t (f : Str) : eqS (.str f) (.str "0") = decide (f.cps.toList = [48]) := by
  show decide (f = "0") = _
  by_cases z : f = "0"
  · subst z; rfl
  · rw [decide_eq_false z, decide_eq_false]
    exact fun w => z (str_ext w)
theorem nt_t {b : Bool} (h : (!b) = true) : b = false := by cases b <;> first | rfl | cases h
theorem nt_f {b : Bool} (h : ¬ (!b) = true) : b = true := by cases b <;> first | rfl | exact absurd rfl h
theorem dLen_str {t : Str} (h : t.length ≤ 1000) : dLen (.str t) = some t.length := if_pos (sz_small (by omega))
theorem cutS_len (t : Str) (lo hi : Option Int) : (cutS t lo hi).length = min (HT.sIx t.length t.length hi - HT.sIx t.length 0 lo) (t.length - HT.sIx t.length 0 lo) := by
  have := str_lenL t
  rw [← str_lenL (cutS t lo hi)]
  unfold cutS
  simp only [List.length_take, List.length_drop, this]
theorem cutS_both (t : Str) (a : Int) : (cutS t none (some a)).length + (cutS t (some a) none).length ≤ t.length := by
  rw [cutS_len, cutS_len, HT.sIx_none, HT.sIx_none]
  have h : ∀ d, HT.sIx t.length d (some a) = (if a < 0 then (a + (t.length : Int)).toNat else min a.toNat t.length) := fun _ => rfl
  rw [h, h]
  split <;> omega
theorem cutS_both1 {t : Str} {a : Int} (h0 : 0 ≤ a) : (cutS t none (some a)).length + (cutS t (some (a + 1)) none).length ≤ t.length := by
  rw [cutS_len, cutS_len, HT.sIx_none, HT.sIx_none]
  have h : ∀ d, HT.sIx t.length d (some a) = (if a < 0 then (a + (t.length : Int)).toNat else min a.toNat t.length) := fun _ => rfl
  have h' : ∀ d, HT.sIx t.length d (some (a + 1)) = (if a + 1 < 0 then (a + 1 + (t.length : Int)).toNat else min (a + 1).toNat t.length) := fun _ => rfl
  rw [h, h', if_neg (by omega), if_neg (by omega)]
  omega
theorem num_bt {t : Str} (h : barL t.cps.toList = true) : numD (.str t) = numOf true (cutS t (some 1) none).cps.toList := num_t ((starts_bar t).trans h)
theorem num_bf {t : Str} (h : ¬ barL t.cps.toList = true) : numD (.str t) = numOf false t.cps.toList := num_f fun z => h ((starts_bar t).symm.trans z)
theorem bar_ne0 {t : Str} (h : barL t.cps.toList = true) : eqS (.str t) (.str "0") = false := by
  rw [eq0t]
  refine decide_eq_false fun z => ?_
  rw [z] at h
  cases h
theorem digitsVal_snoc (cs : List Nat) (c : Nat) : digitsVal (cs ++ [c]) = digitsVal cs * 10 + (c - 48) := by
  unfold PySem.NumText.digitsVal
  rw [List.foldl_append]
  rfl
theorem digitsVal_lt : ∀ (n : Nat) (cs : List Nat), cs.length = n → AllDigits cs → digitsVal cs < 10 ^ n
  | 0, cs, h, _ => by
    cases cs with
    | nil => decide
    | cons c r => cases h
  | n + 1, cs, h, ha => by
    have hne : cs ≠ [] := fun z => by rw [z] at h; cases h
    have e := List.dropLast_concat_getLast hne
    have hl : cs.dropLast.length = n := by rw [List.length_dropLast, h]; rfl
    have ih := digitsVal_lt n cs.dropLast hl fun c hc => ha c (List.dropLast_subset cs hc)
    have hc := ha _ (List.getLast_mem hne)
    rw [← e, digitsVal_snoc, Nat.pow_succ]
    omega
theorem ten_two (a : Nat) : (10 : Nat) ^ a ≤ 2 ^ (4 * a) := by
  rw [Nat.pow_mul]
  exact Nat.pow_le_pow_left (by decide) a
theorem mulW_ok {i j : Int} (a b : Nat) (hi : i.natAbs < 10 ^ a) (hj : j.natAbs < 10 ^ b) (h : a ≤ 50000 := by omega) (h2 : b ≤ 50000 := by omega) : CMulW i j := by
  refine wide_mul (a := 4 * a + 1) (b := 4 * b + 1) (Nat.lt_of_lt_of_le hi ?_) (Nat.lt_of_lt_of_le hj ?_) (by omega) (by omega) (by omega)
  · exact Nat.le_trans (ten_two a) (Nat.pow_le_pow_right (by decide) (by omega))
  · exact Nat.le_trans (ten_two b) (Nat.pow_le_pow_right (by decide) (by omega))
theorem filt_empty (t : Str) (p : D → Bool) (q : Nat → Bool) (hp : ∀ c : Nat, p (.str ⟨#[c]⟩) = !q c) : ((signs t).filter p).isEmpty = t.cps.toList.all q := by
  unfold signs
  induction t.cps.toList with
  | nil => rfl
  | cons c r ih =>
    rw [List.map_cons, List.filter_cons, hp c, List.all_cons]
    cases q c with
    | true => exact ih
    | false => rfl
theorem ge_one (c a : Nat) : (!decide ((⟨#[c]⟩ : Str).cps.toList < (⟨#[a]⟩ : Str).cps.toList)) = decide (a ≤ c) := by
  show (!decide ([c] < [a])) = _
  rw [lt_one]
  by_cases z : c < a
  · rw [decide_eq_true z, decide_eq_false (by omega)]; rfl
  · rw [decide_eq_false z, decide_eq_true (by omega)]; rfl
theorem signs_get {f : Str} {i : Nat} {x : D} (h : (signs f)[i]? = some x) : ∃ c : Nat, f.cps.toList[i]? = some c ∧ x = .str ⟨#[c]⟩ := by
  unfold signs at h
  rw [List.getElem?_map] at h
  cases e : f.cps.toList[i]? with
  | none => rw [e] at h; cases h
  | some c => rw [e] at h; cases h; exact ⟨c, rfl, rfl⟩
theorem signs_lenL (f : Str) : (signs f).length = f.cps.toList.length := by unfold signs; rw [List.length_map]
theorem take_snoc {α : Type} {l : List α} {i : Nat} {x : α} (h : l[i]? = some x) : l.take (i + 1) = l.take i ++ [x] := by rw [List.take_add_one, h]; rfl
theorem okT_ofS (s : String) : okT (Str.ofString s) := by
  intro c hc
  rw [PyProof.Rows.signs_ofString] at hc
  obtain ⟨ch, _, rfl⟩ := List.mem_map.mp hc
  have := ch.valid
  show ch.val.toNat < 1114112
  rcases this with h | h
  · have : ch.val.toNat < 55296 := h
    omega
  · exact h.2
theorem int_len {i : Int} {k : Nat} (h : i.natAbs < 10 ^ k) (hk : 0 < k := by decide) : (Str.ofString (toString i)).length ≤ k + 1 := by
  rw [PySem.ofString_length]
  exact int_text_length_le10 hk h
theorem num_small (bl : Bool) (cs : List Nat) : numOf bl cs = .none ∨ ∃ i : Int, numOf bl cs = .int i ∧ i.natAbs < 10 ^ 30 := by
  unfold numOf
  split
  · next h =>
    right
    unfold figOk at h
    rw [Bool.and_eq_true, Bool.and_eq_true, Bool.and_eq_true] at h
    have hl := of_decide_eq_true h.1.1.2
    have hd := digitsVal_lt _ cs rfl (all_digits h.1.2)
    have := Nat.lt_of_lt_of_le hd (Nat.pow_le_pow_right (by decide) hl)
    refine ⟨_, rfl, ?_⟩
    cases bl
    · show ((digitsVal cs : Nat) : Int).natAbs < _; omega
    · show (-((digitsVal cs : Nat) : Int)).natAbs < _; omega
  · exact .inl rfl
theorem numD_small (x : D) : numD x = .none ∨ ∃ i : Int, numD x = .int i ∧ i.natAbs < 10 ^ 30 := by
  cases x with
  | str t =>
    show numL _ = _ ∨ ∃ i : Int, numL _ = _ ∧ _
    unfold numL
    split <;> exact num_small _ _
  | _ => exact .inl rfl
theorem sh_numD (x : D) : ShOk (numD x) := by
  rcases numD_small x with h | ⟨i, h, hi⟩
  · rw [h]; exact rz_none.ok
  · rw [h]; exact (rz_int hi).ok
theorem okN_odds : ∀ d ∈ odds, okN d := by
  have e : ∀ d ∈ odds, (match d with | .str t => decide (t.length ≤ 100) && t.cps.toList.all (fun c => decide (c < 1114112)) | _ => true) = true := by decide +kernel
  intro d hd
  have q := e d hd
  cases d with
  | str t =>
    rw [Bool.and_eq_true] at q
    refine ⟨by have := of_decide_eq_true q.1; omega, fun c hc => ?_⟩
    exact of_decide_eq_true (List.all_eq_true.mp q.2 c hc)
  | _ => trivial
end Tq
set_option maxRecDepth 100000
set_option maxHeartbeats 4000000
namespace Tq
open PySem PySem.Spec PyProof.Rows L2
/-- the purse's second form -/
def t_take2 (K : Fg) (c1 c2 c3 : Int) : TS :=
  tSeq (tIfS (tTest (tOp (rI0 fun i j => .bl (decide (j < i))) (tOp (rIx K) (tVar 0) (tC (.int 0))) (tC (.int 0))))
    (tSeq (tAsg (tOp rMd (tOp (rIx K) (tVar 0) (tC (.int 0))) (tVar 1)) (gName 2))
    (tSeq (tAsg (tOp rDv (tOp (rIx K) (tVar 0) (tC (.int 0))) (tVar 1)) (gSub (tVar 0) (tC (.int 0)) rSetL))
    (tRet (tVar 2)))) tNext)
  (tSeq (tAsg (tOp rAd (tOp (rIx K) (tVar 0) (tC (.int 2))) (tC (.int 1))) (gSub (tVar 0) (tC (.int 2)) rSetL))
  (tSeq (tAsg (tOp rMd (tOp rPw (tOp rAd (tOp rAd (tOp (rIx K) (tVar 0) (tC (.int 1))) (tOp rMu (tC (.int c1)) (tOp (rIx K) (tVar 0) (tC (.int 2))))) (tC (.int c2))) (tC (.int 5))) (tC (.int 2147483647))) (gName 3))
  (tSeq (tAsg (tOp rMd (tOp rPw (tOp rAd (tOp rMu (tOp (rIx K) (tVar 0) (tC (.int 1))) (tOp (rIx K) (tVar 0) (tC (.int 2)))) (tC (.int c3))) (tC (.int 3))) (tC (.int 2147483587))) (gName 4))
  (tRet (tOp rMd (tOp rDv (tOp rAd (tOp rMu (tVar 3) (tC (.int 2147483587))) (tVar 4)) (tC (.int 8))) (tVar 1))))))
theorem take2_read {K : Fg} {c1 c2 c3 : Int} (hc1 : 0 ≤ c1 ∧ c1 ≤ 1000000) (hc2 : 0 ≤ c2 ∧ c2 ≤ 1000000) (hc3 : 0 ≤ c3 ∧ c3 ≤ 1000000) {vs : List V} {H : Hp} {Q : VK} {E : XK} {N : List Str} (hN : N.length = 5) (h : spTake K vs H Q E) : t_take2 K c1 c2 c3 { nx := fun _ G => Q .non G, rt := Q } (start N vs) H := by
  obtain ⟨M, p, us, ds, n, rfl, mp, al, pk, r, hl, ⟨m, rfl, m0, mb⟩, hn, k⟩ := h
  have hn : 1 ≤ n := hn
  have k : ∀ d v H', postTake [.int m] d → (∀ a o, a ≠ p → H a = some o → H' a = some o) → PuOk H' p (n - 1) → Rp K M H' v d → Q v H' := k
  obtain ⟨v, rfl, rv⟩ := rpA1 r
  have e := rp_int rv
  subst e
  have es : start N [.ref p, .int m] = [some (.ref p), some (.int m), none, none, none] := by
    unfold L2.start
    rw [hN]
    rfl
  rw [es]
  obtain ⟨x, b, q, hp, hx, hb0, hb1, hq0, hq1⟩ := pk
  refine ⟨_, rfl, ix_at hp rfl ⟨_, _, rfl, rfl, _, rfl, ite2 (fun hc => ?_) (fun hc => ?_)⟩⟩
  · refine ⟨_, rfl, ix_at hp rfl ⟨_, rfl, _, _, rfl, rfl, m0, ?_⟩⟩
    refine ⟨_, rfl, ix_at hp rfl ⟨_, rfl, _, _, rfl, rfl, ⟨m0, mb⟩, _, rfl, p, _, 0, 0, rfl, rfl, hp, rfl, ?_⟩⟩
    refine ⟨_, rfl, k (.int (x % m)) _ _ ⟨m, x % m, rfl, rfl, Int.emod_nonneg _ (by omega), Int.emod_lt_of_pos _ m0⟩ (fun a o na e => by rw [upd_ne na]; exact e) ⟨x / m, b, q, upd_same, Int.ediv_nonneg hx (by omega), hb0, hb1, hq0, by omega⟩ (.int _)⟩
  · have nn : (n : Int) ≥ 1 := by omega
    refine ⟨_, rfl, ix_at hp rfl ⟨_, _, rfl, rfl, _, rfl, p, _, 2, 2, rfl, rfl, hp, rfl, ?_⟩⟩
    generalize hH2 : upd H p (.lst ([V.int x, .int b, .int q].set 2 (.int (q + 1)))) = H2
    have hp2 : H2 p = some (.lst [.int x, .int b, .int (q + 1)]) := by rw [← hH2]; exact upd_same
    have q0 : 0 ≤ q + 1 ∧ q + 1 ≤ 8000000 := by omega
    have m1 : 0 ≤ c1 * (q + 1) := Int.mul_nonneg hc1.1 (by omega)
    have m2 : c1 * (q + 1) ≤ 1000000 * 8000000 := Int.mul_le_mul hc1.2 q0.2 q0.1 (by omega)
    have m3 : 0 ≤ b * (q + 1) := Int.mul_nonneg hb0 (by omega)
    have m4 : b * (q + 1) ≤ 2147483629 * 8000000 := Int.mul_le_mul (by omega) q0.2 q0.1 (by omega)
    have hbd : 0 ≤ b + c1 * (q + 1) + c2 ∧ b + c1 * (q + 1) + c2 < 18446744073709551616 := by constructor <;> omega
    refine ⟨_, rfl, ix_at hp2 rfl ⟨_, rfl, ix_at hp2 rfl ⟨_, _, rfl, rfl, .inl (by constructor <;> omega), _, _, rfl, rfl, _, _, rfl, rfl, _, _, rfl, rfl, ⟨by decide, by decide, natAbs_lt hbd.1 hbd.2⟩, _, _, rfl, rfl, (by show (0 : Int) < 2147483647; decide), ?_⟩⟩⟩
    obtain ⟨one, hone⟩ : ∃ o, o = (b + c1 * (q + 1) + c2) ^ (5 : Int).toNat % 2147483647 := ⟨_, rfl⟩
    have one0 : 0 ≤ one := by rw [hone]; exact Int.emod_nonneg _ (by decide)
    have one1 : one < 2147483647 := by rw [hone]; exact Int.emod_lt_of_pos _ (by decide)
    have hb2 : 0 ≤ b * (q + 1) + c3 ∧ b * (q + 1) + c3 < 18446744073709551616 := by constructor <;> omega
    refine ⟨_, rfl, ix_at hp2 rfl ⟨_, rfl, ix_at hp2 rfl ⟨_, _, rfl, rfl, .inl (by constructor <;> omega), _, _, rfl, rfl, _, _, rfl, rfl, ⟨by decide, by decide, natAbs_lt hb2.1 hb2.2⟩, _, _, rfl, rfl, (by show (0 : Int) < 2147483587; decide), ?_⟩⟩⟩
    dsimp only
    rw [← hone]
    refine ⟨_, rfl, _, _, rfl, rfl, .inl (by constructor <;> omega), _, rfl, _, _, rfl, rfl, _, _, rfl, rfl, div_ok (by decide) (by decide), _, rfl, _, _, rfl, rfl, m0, ?_⟩
    refine k _ _ _ ⟨m, _, rfl, rfl, Int.emod_nonneg _ (by omega), Int.emod_lt_of_pos _ m0⟩ (fun a o na e => by rw [← hH2, upd_ne na]; exact e) ⟨x, b, q + 1, hp2, hx, hb0, hb1, by omega, by omega⟩ (.int _)
/-- a while loop whose turns know J alone -/
theorem wS_whileJ {C : Ct} {t : TT} {tx : TS} {y : S} {e : En} (J : Nat → S → Prop) (h0 : ∃ m y', J m y' ∧ Less y' y)
    (hs : ∀ m y1, J m y1 → wT C t y1 fun b y2 => if b = true then wS C tx y2 { nx := fun y3 => ∃ m' y', m' < m ∧ J m' y' ∧ Less y' y3, ct := fun y3 => ∃ m' y', m' < m ∧ J m' y' ∧ Less y' y3, bk := e.nx, rt := e.rt } else e.nx y2) :
    wS C (tWhile t tx) y e := by
  intro F σ H E st wd k
  obtain ⟨m0, y0, h0, l0⟩ := h0
  obtain ⟨wd0, g0⟩ := wd.weak l0
  refine ⟨fun m σ1 H1 => ∃ y1, Wd C F σ1 y1 H1 ∧ Go F σ y H σ1 y1 H1 ∧ J m y1, ⟨m0, y0, wd0, g0, h0⟩, ?_⟩
  rintro m σ1 H1 ⟨y1, w1, g1, hw⟩
  refine hs m y1 hw F σ1 H1 _ w1 fun b H2 y2 w2 g2 s2 q => ?_
  have fin : ∀ σ5 H5 y5, Wd C F σ5 y5 H5 → Go F σ1 y2 H2 σ5 y5 H5 → (∃ m' y', m' < m ∧ J m' y' ∧ Less y' y5) → ∃ m', m' < m ∧ ∃ y3, Wd C F σ5 y3 H5 ∧ Go F σ y H σ5 y3 H5 ∧ J m' y3 := by
    rintro σ5 H5 y5 w5 g5 ⟨m', y', hm, q5, l5⟩
    obtain ⟨w6, g6⟩ := w5.weak l5
    exact ⟨m', hm, y', w6, ((g1.trans g2).trans g5).trans g6, q5⟩
  cases b with
  | true =>
    refine ⟨fun σ3 H3 => ∃ m', m' < m ∧ ∃ y3, Wd C F σ3 y3 H3 ∧ Go F σ y H σ3 y3 H3 ∧ J m' y3, fun σ3 H3 ⟨m', hm, z⟩ => ⟨m', hm, z⟩, ?_⟩
    exact q F σ1 H2 _ st w2 ⟨fun σ5 H5 y5 w5 g5 q5 => fin σ5 H5 y5 w5 g5 q5, fun σ5 v5 H5 z5 y5 w5 g5 r5 q5 => k.rt σ5 v5 H5 z5 y5 w5 ((g1.trans g2).trans g5) r5 q5,
      fun σ5 H5 y5 w5 g5 q5 => k.nx σ5 H5 y5 w5 ((g1.trans g2).trans g5) q5, fun σ5 H5 y5 w5 g5 q5 => fin σ5 H5 y5 w5 g5 q5⟩
  | false => exact k.nx σ1 H2 y2 w2 (g1.trans g2) q
/-- what is never reached -/
def tNo : TS := fun _ _ _ => False
theorem ps_no {X : Cx} {st : Stmt} : PS X st tNo := ⟨fun _ _ _ _ _ _ h => h.elim⟩
end Tq
set_option maxRecDepth 100000
set_option maxHeartbeats 4000000
namespace Tq
open PySem PySem.Spec PyProof.Rows L2
/-! ### whole numbers of at most k figures -/
def Bd (k : Nat) (x : Int) : Prop := x.natAbs < 10 ^ k
theorem Bd.mono {k k' : Nat} {x : Int} (h : Bd k x) (hk : k ≤ k') : Bd k' x := Nat.lt_of_lt_of_le h (Nat.pow_le_pow_right (by decide) hk)
theorem Bd.add {k k' : Nat} {x y : Int} (h : Bd k x) (h' : Bd k' y) : Bd (k + k' + 1) (x + y) := by
  have h1 := h.mono (show k ≤ k + k' by omega)
  have h2 := h'.mono (show k' ≤ k + k' by omega)
  unfold Bd at *
  rw [Nat.pow_succ]
  omega
theorem Bd.neg {k : Nat} {x : Int} (h : Bd k x) : Bd k (-x) := by unfold Bd at *; omega
theorem Bd.sub {k k' : Nat} {x y : Int} (h : Bd k x) (h' : Bd k' y) : Bd (k + k' + 1) (x - y) := by
  rw [Int.sub_eq_add_neg]; exact h.add h'.neg
theorem Bd.mul {k k' : Nat} {x y : Int} (h : Bd k x) (h' : Bd k' y) : Bd (k + k') (x * y) := by
  unfold Bd at *
  rw [Int.natAbs_mul, Nat.pow_add]
  exact Nat.mul_lt_mul'' h h'
theorem Bd.div {k : Nat} {x y : Int} (h : Bd k x) (hy : 0 < y) : Bd (k + 1) (x / y) := by
  unfold Bd at *
  rw [Nat.pow_succ]
  have h1 : x / y ≤ x.natAbs := by
    rcases Int.lt_or_le x 0 with z | z
    · have := Int.ediv_neg_of_neg_of_pos z hy; omega
    · have := Int.ediv_le_self y z; omega
  have h2 : -(x.natAbs : Int) - 1 ≤ x / y := by
    rcases Int.lt_or_le x 0 with z | z
    · have e := Int.emod_add_mul_ediv x y
      have e1 := Int.emod_nonneg x (show y ≠ 0 by omega)
      have e2 := Int.emod_lt_of_pos x hy
      rcases Int.lt_or_le (x / y) (-(x.natAbs : Int) - 1) with w | w
      · have : y * (x / y) ≤ 1 * (x / y) := Int.mul_le_mul_of_nonpos_right (by omega) (by omega)
        have h3 : y * (x / y) ≤ y * (-(x.natAbs : Int) - 2) := Int.mul_le_mul_of_nonneg_left (by omega) (by omega)
        have h4 : y * (-(x.natAbs : Int) - 2) = -(y * x.natAbs) - 2 * y := by rw [Int.mul_sub, Int.mul_neg]; omega
        have h5 : 1 * (x.natAbs : Int) ≤ y * x.natAbs := Int.mul_le_mul_of_nonneg_right (by omega) (by omega)
        omega
      · exact w
    · have := Int.ediv_nonneg z (show 0 ≤ y by omega); omega
  omega
theorem Bd.mod {k : Nat} {x y : Int} (h : Bd k y) (hy : 0 < y) : Bd k (x % y) := by
  have e1 := Int.emod_nonneg x (show y ≠ 0 by omega)
  have e2 := Int.emod_lt_of_pos x hy
  unfold Bd at *
  omega
theorem Bd.lit {k : Nat} {x : Int} (h : x.natAbs < 10 ^ k) : Bd k x := h
theorem Bd.max {k k' : Nat} {x y : Int} (h : Bd k x) (h' : Bd k' y) : Bd (k + k') (if y > x then y else x) := by
  split
  · exact h'.mono (by omega)
  · exact h.mono (by omega)
theorem Bd.min {k k' : Nat} {x y : Int} (h : Bd k x) (h' : Bd k' y) : Bd (k + k') (if y < x then y else x) := by
  split
  · exact h'.mono (by omega)
  · exact h.mono (by omega)
theorem Bd.mulW {k k' : Nat} {x y : Int} (h : Bd k x) (h' : Bd k' y) (hk : k ≤ 50000 := by decide) (hk' : k' ≤ 50000 := by decide) : CMulW x y := mulW_ok k k' h h' hk hk'
theorem Bd.divW {k : Nat} {x y : Int} (h : Bd k y) (hy : 0 < y) (hk : k ≤ 2000 := by decide) : CDivW x y := wide_div (b := 4 * k + 1) hy (Nat.lt_of_lt_of_le h (Nat.le_trans (ten_two k) (Nat.pow_le_pow_right (by decide) (by omega)))) (by omega) (by omega)
/-! ### neighbours of a fraction -/
structure NB (p q N a b c d : Int) : Prop where
  b1 : 1 ≤ b
  d1 : 1 ≤ d
  bN : b ≤ N
  dN : d ≤ N
  ov : N < b + d
  one : c * b - a * d = 1
  lo : 0 < p * b - a * q
  hi : 0 < c * q - p * d
/-- the parts of a fraction between two neighbours -/
theorem nb_q {p q a b c d : Int} (h : c * b - a * d = 1) : q = b * (c * q - p * d) + d * (p * b - a * q) := by
  have : q * (c * b - a * d) = b * (c * q - p * d) + d * (p * b - a * q) := by
    simp only [Int.mul_sub, Int.sub_mul, Int.mul_assoc, Int.mul_comm, Int.mul_left_comm]
    omega
  rw [h, Int.mul_one] at this
  exact this
theorem nb_p {p q a b c d : Int} (h : c * b - a * d = 1) : p = a * (c * q - p * d) + c * (p * b - a * q) := by
  have : p * (c * b - a * d) = a * (c * q - p * d) + c * (p * b - a * q) := by
    simp only [Int.mul_sub, Int.sub_mul, Int.mul_assoc, Int.mul_comm, Int.mul_left_comm]
    omega
  rw [h, Int.mul_one] at this
  exact this
theorem le_mul {a x : Int} (ha : 0 ≤ a) (hx : 1 ≤ x) : a ≤ a * x := by
  have := Int.mul_le_mul_of_nonneg_left hx ha
  omega
theorem nb_sum {p q a b c d : Int} (h : c * b - a * d = 1) (hb : 1 ≤ b) (hd : 1 ≤ d) (hx : 0 < p * b - a * q) (hy : 0 < c * q - p * d) : b + d ≤ q := by
  have e := nb_q (p := p) (q := q) h
  have h1 := le_mul (a := b) (x := c * q - p * d) (by omega) hy
  have h2 := le_mul (a := d) (x := p * b - a * q) (by omega) hx
  omega
/-- one below the other and no smaller denominator fits between -/
theorem NB.le {p q N a b c d a' b' c' d' : Int} (h : NB p q N a b c d) (h' : NB p q N a' b' c' d') : a' * b ≤ a * b' := by
  -- a'/b' < p/q < c/d
  rcases Int.lt_or_le (a * b') (a' * b) with z | z
  · exfalso
    have q1 := nb_sum h.one h.b1 h.d1 h.lo h.hi
    have b1 := h.b1
    have d1 := h.d1
    have b1' := h'.b1
    -- a' d < c b'
    have hx := h'.lo
    have hy := h.hi
    have k1 : 0 < c * b' - a' * d := by
      have m1 : 0 < b' * (c * q - p * d) := Int.mul_pos (by omega) hy
      have m2 : 0 < d * (p * b' - a' * q) := Int.mul_pos (by omega) hx
      have e : q * (c * b' - a' * d) = b' * (c * q - p * d) + d * (p * b' - a' * q) := by
        simp only [Int.mul_sub, Int.sub_mul, Int.mul_assoc, Int.mul_comm, Int.mul_left_comm]
        omega
      rcases Int.lt_or_le 0 (c * b' - a' * d) with w | w
      · exact w
      · have : q * (c * b' - a' * d) ≤ 0 := Int.mul_nonpos_of_nonneg_of_nonpos (by omega) w
        omega
    have k2 : 0 < a' * b - a * b' := by omega
    have e := nb_q (p := a') (q := b') h.one
    have h1 := le_mul (a := b) (x := c * b' - a' * d) (by omega) k1
    have h2 := le_mul (a := d) (x := a' * b - a * b') (by omega) k2
    have := h'.bN
    have := h.ov
    omega
  · exact z
theorem NB.flip {p q N a b c d : Int} (h : NB p q N a b c d) : NB (-p) q N (-c) d (-a) b := by
  refine ⟨h.d1, h.b1, h.dN, h.bN, by have := h.ov; omega, ?_, ?_, ?_⟩
  · have := h.one; simp only [Int.neg_mul]; omega
  · have := h.hi; simp only [Int.neg_mul]; omega
  · have := h.lo; simp only [Int.neg_mul]; omega
theorem NB.low {p q N a b c d a' b' c' d' : Int} (h : NB p q N a b c d) (h' : NB p q N a' b' c' d') : a = a' ∧ b = b' := by
  have e : a' * b = a * b' := Int.le_antisymm (h.le h') (h'.le h)
  have key : ∀ {a b c d a' b' : Int}, c * b - a * d = 1 → 1 ≤ b → 1 ≤ b' → a' * b = a * b' → b ≤ b' := by
    intro a b c d a' b' h1 hb hb' e
    have e2 : b' = b * (c * b' - a' * d) := by
      have : b' * (c * b - a * d) = b * (c * b' - a' * d) := by
        have e3 : d * (a' * b) = d * (a * b') := by rw [e]
        simp only [Int.mul_sub, Int.sub_mul, Int.mul_assoc, Int.mul_comm, Int.mul_left_comm] at e3 ⊢
        omega
      rw [h1, Int.mul_one] at this
      exact this
    have h3 : 1 ≤ c * b' - a' * d := by
      rcases Int.lt_or_le (c * b' - a' * d) 1 with w | w
      · have : b * (c * b' - a' * d) ≤ 0 := Int.mul_nonpos_of_nonneg_of_nonpos (by omega) (by omega)
        omega
      · exact w
    have := le_mul (a := b) (by omega) h3
    omega
  have hb : b = b' := Int.le_antisymm (key h.one h.b1 h'.b1 e) (key h'.one h'.b1 h.b1 e.symm)
  subst hb
  exact ⟨(Int.eq_of_mul_eq_mul_right (by have := h.b1; omega) e).symm, rfl⟩
theorem NB.uniq {p q N a b c d a' b' c' d' : Int} (h : NB p q N a b c d) (h' : NB p q N a' b' c' d') : a = a' ∧ b = b' ∧ c = c' ∧ d = d' := by
  obtain ⟨e1, e2⟩ := h.low h'
  obtain ⟨e3, e4⟩ := h.flip.low h'.flip
  exact ⟨e1, e2, by omega, e4⟩
theorem gcd_one {a b c d : Int} (h : c * b - a * d = 1) : gcdI a b = 1 := by
  have h1 : gcdI a b ∣ a := Int.gcd_dvd_left a b
  have h2 : gcdI a b ∣ b := Int.gcd_dvd_right a b
  have h3 : gcdI a b ∣ 1 := by
    rw [← h]
    exact Int.dvd_sub (Int.dvd_mul_of_dvd_right h2) (Int.dvd_mul_of_dvd_left h1)
  have h4 : 0 ≤ gcdI a b := by unfold gcdI; omega
  exact Int.eq_one_of_dvd_one h4 h3
theorem gcd_dvd1 {p q y u v : Int} (h : gcdI p q = 1) (hp : p = u * y) (hq : q = v * y) (hy : 0 < y) : y = 1 := by
  have h1 : y ∣ gcdI p q := by
    unfold gcdI
    exact Int.dvd_coe_gcd ⟨u, by rw [hp, Int.mul_comm]⟩ ⟨v, by rw [hq, Int.mul_comm]⟩
  rw [h] at h1
  exact Int.eq_one_of_dvd_one (by omega) h1
/-- what stands at each turn -/
structure NI (p q N a b c d : Int) : Prop where
  b1 : 1 ≤ b
  d1 : 1 ≤ d
  bN : b ≤ N
  dN : d ≤ N
  one : c * b - a * d = 1
  lo : 0 < p * b - a * q
  hi : 0 < c * q - p * d
theorem NI.flip {p q N a b c d : Int} (h : NI p q N a b c d) : NI (-p) q N (-c) d (-a) b := by
  refine ⟨h.d1, h.b1, h.dN, h.bN, ?_, ?_, ?_⟩
  · have := h.one; simp only [Int.neg_mul]; omega
  · have := h.hi; simp only [Int.neg_mul]; omega
  · have := h.lo; simp only [Int.neg_mul]; omega
theorem ni_step {p q N a b c d m : Int} (h : NI p q N a b c d) (hg : gcdI p q = 1) (hq : N < q) (m0 : 0 ≤ m) (m1 : m ≤ (p * b - a * q) / (c * q - p * d)) (m2 : m ≤ (N - b) / d) : NI p q N (a + m * c) (b + m * d) c d := by
  have hb := h.b1
  have hd := h.d1
  have hY := h.hi
  have k1 : m * d ≤ N - b := Int.le_trans (Int.mul_le_mul_of_nonneg_right m2 (by omega)) (Int.ediv_mul_le _ (by omega))
  have k2 : m * (c * q - p * d) ≤ p * b - a * q := Int.le_trans (Int.mul_le_mul_of_nonneg_right m1 (by omega)) (Int.ediv_mul_le _ (by omega))
  have k3 : 0 ≤ m * d := Int.mul_nonneg m0 (by omega)
  have one : c * (b + m * d) - (a + m * c) * d = 1 := by
    have := h.one
    simp only [Int.mul_add, Int.add_mul, Int.mul_assoc, Int.mul_comm, Int.mul_left_comm] at this ⊢
    omega
  have ex : p * (b + m * d) - (a + m * c) * q = (p * b - a * q) - m * (c * q - p * d) := by
    simp only [Int.mul_add, Int.add_mul, Int.mul_sub, Int.mul_assoc, Int.mul_comm, Int.mul_left_comm]
    omega
  refine ⟨by omega, hd, by omega, h.dN, one, ?_, hY⟩
  rcases Int.lt_or_le 0 (p * (b + m * d) - (a + m * c) * q) with w | w
  · exact w
  · exfalso
    have z : p * (b + m * d) - (a + m * c) * q = 0 := by omega
    have e1 := nb_q (p := p) (q := q) one
    have e2 := nb_p (p := p) (q := q) one
    rw [z, Int.mul_zero, Int.add_zero] at e1 e2
    have y1 := gcd_dvd1 hg e2 e1 hY
    rw [y1, Int.mul_one] at e1
    omega
theorem Bd.of_mul {k : Nat} {a q : Int} (h : Bd k (a * q)) (hq : 1 ≤ q) : Bd k a := by
  unfold Bd at *
  rw [Int.natAbs_mul] at h
  have : a.natAbs * 1 ≤ a.natAbs * q.natAbs := Nat.mul_le_mul_left _ (by omega)
  omega
theorem NI.bd {p q N a b c d : Int} {k : Nat} (h : NI p q N a b c d) (hp : Bd k p) (hq : Bd k q) (hN : Bd k N) : Bd k b ∧ Bd k d ∧ Bd (3 * k + 1) a ∧ Bd (3 * k + 1) c ∧ (p * b - a * q) ≤ q ∧ (c * q - p * d) ≤ q ∧ 1 ≤ q := by
  have e := nb_q (p := p) (q := q) h.one
  have hb := h.b1
  have hd := h.d1
  have hX := h.lo
  have hY := h.hi
  have h1 := le_mul (a := c * q - p * d) (x := b) (by omega) hb
  have h2 := le_mul (a := p * b - a * q) (x := d) (by omega) hd
  rw [Int.mul_comm _ b] at h1
  rw [Int.mul_comm _ d] at h2
  have hXb : 0 < d * (p * b - a * q) := Int.mul_pos (by omega) hX
  have hYb : 0 < b * (c * q - p * d) := Int.mul_pos (by omega) hY
  have x1 : p * b - a * q ≤ q := by omega
  have y1 : c * q - p * d ≤ q := by omega
  have q1 : 1 ≤ q := by omega
  have bb : Bd k b := by have := h.bN; unfold Bd at *; omega
  have bd : Bd k d := by have := h.dN; unfold Bd at *; omega
  refine ⟨bb, bd, ?_, ?_, x1, y1, q1⟩
  · refine Bd.of_mul (q := q) ?_ q1
    have ex : a * q = p * b - (p * b - a * q) := by omega
    rw [ex]
    have hx : Bd k (p * b - a * q) := by unfold Bd at *; omega
    exact ((hp.mul bb).sub hx).mono (by omega)
  · refine Bd.of_mul (q := q) ?_ q1
    have ex : c * q = p * d + (c * q - p * d) := by omega
    rw [ex]
    have hx : Bd k (c * q - p * d) := by unfold Bd at *; omega
    exact ((hp.mul bd).add hx).mono (by omega)
end Tq
set_option maxRecDepth 100000
set_option maxHeartbeats 4000000
namespace Tq
open PySem PySem.Spec PyProof.Rows L2
abbrev fr (a b : Int) : D := .tuple [.int a, .int b]
abbrev sp_need_fraction (K : Fg) : Sp := detSp K 1 (fun ds => ∃ x, ds = [x] ∧ fracB x = true) (fun _ => .none)
abbrev sp_need_both (K : Fg) : Sp := detSp K 2 (fun ds => ∃ x n, ds = [x, .int n] ∧ fracB x = true ∧ 1 ≤ n) (fun _ => .none)
def movedD : List D → D
  | [.tuple [.int a, .int b], .tuple [.int c, .int d], .int m] => fr (a + m * c) (b + m * d)
  | _ => .none
abbrev sp_moved (K : Fg) : Sp := detSp K 3 (fun ds => ∃ a b c d m, ds = [fr a b, fr c d, .int m] ∧ Bd 900 c ∧ Bd 900 d ∧ Bd 900 m) movedD
def gapD : List D → D
  | [.tuple [.int a, .int b], .tuple [.int c, .int d]] => .int (c * b - a * d)
  | _ => .none
abbrev sp_gap (K : Fg) : Sp := detSp K 2 (fun ds => ∃ a b c d, ds = [fr a b, fr c d] ∧ Bd 900 a ∧ Bd 900 b ∧ Bd 900 c ∧ Bd 900 d) gapD
abbrev sp_law_gap (K : Fg) : Sp := sp_gap K
def NR (p q N : Int) (r : D) : Prop := (q ≤ N ∧ r = .tuple [fr p q, fr p q]) ∨ (N < q ∧ ∃ a b c d, NB p q N a b c d ∧ r = .tuple [fr a b, fr c d])
structure FN (p q N : Int) : Prop where
  q1 : 1 ≤ q
  g : gcdI p q = 1
  n1 : 1 ≤ N
  bp : Bd 65 p
  bq : Bd 65 q
  bN : Bd 65 N
abbrev sp_neighbours (K : Fg) : Sp := pureSp K 2 (fun ds => ∃ p q N, ds = [fr p q, .int N] ∧ FN p q N) (fun ds r => ∀ p q N, ds = [fr p q, .int N] → NR p q N r)
def nearF (p q a b c d : Int) : D := if (p * b - a * q) * d = (c * q - p * d) * b then (if b ≤ d then fr a b else fr c d) else if (p * b - a * q) * d < (c * q - p * d) * b then fr a b else fr c d
abbrev sp_nearest (K : Fg) : Sp := pureSp K 2 (fun ds => ∃ p q N, ds = [fr p q, .int N] ∧ FN p q N) (fun ds r => ∀ p q N, ds = [fr p q, .int N] → ∃ a b c d, NR p q N (.tuple [fr a b, fr c d]) ∧ r = nearF p q a b c d)
theorem fracB_fr {p q : Int} (h : 1 ≤ q) (g : gcdI p q = 1) : fracB (fr p q) = true := by
  show (decide (1 ≤ q) && decide (gcdI p q = 1)) = true
  rw [decide_eq_true h, decide_eq_true g]; rfl
theorem NR.uniq {p q N : Int} {r r' : D} (h : NR p q N r) (h' : NR p q N r') : r = r' := by
  rcases h with ⟨h1, e⟩ | ⟨h1, a, b, c, d, n, e⟩ <;> rcases h' with ⟨h1', e'⟩ | ⟨h1', a', b', c', d', n', e'⟩
  · rw [e, e']
  · omega
  · omega
  · obtain ⟨rfl, rfl, rfl, rfl⟩ := n.uniq n'
    rw [e, e']
theorem ni_step2 {p q N a b c d m : Int} (h : NI p q N a b c d) (hg : gcdI p q = 1) (hq : N < q) (m0 : 0 ≤ m) (m1 : m ≤ (c * q - p * d) / (p * b - a * q)) (m2 : m ≤ (N - d) / b) : NI p q N a b (c + m * a) (d + m * b) := by
  have hg' : gcdI (-p) q = 1 := by unfold gcdI at hg ⊢; rw [Int.natAbs_neg]; exact hg
  have e1 : -p * d - -c * q = c * q - p * d := by simp only [Int.neg_mul]; omega
  have e2 : -a * q - -p * b = p * b - a * q := by simp only [Int.neg_mul]; omega
  have k := (ni_step h.flip hg' hq m0 (by rw [e1, e2]; exact m1) m2).flip
  have e3 : -(-c + m * -a) = c + m * a := by simp only [Int.mul_neg]; omega
  rw [Int.neg_neg, Int.neg_neg, e3] at k
  exact k
theorem ni_start {p q N : Int} (n1 : 1 ≤ N) (hg : gcdI p q = 1) (hq : N < q) : NI p q N (p / q) 1 (p / q + 1) 1 := by
  have e := Int.emod_add_mul_ediv p q
  have e1 := Int.emod_nonneg p (show q ≠ 0 by omega)
  have e2 := Int.emod_lt_of_pos p (show 0 < q by omega)
  have e3 : p % q ≠ 0 := by
    intro z
    rw [z] at e
    have := gcd_dvd1 (p := p) (q := q) (y := q) (u := p / q) (v := 1) hg (by rw [Int.mul_comm]; omega) (by omega) (by omega)
    omega
  have e4 : p / q * q = q * (p / q) := Int.mul_comm _ _
  refine ⟨by omega, by omega, by omega, by omega, by omega, ?_, ?_⟩
  · omega
  · rw [Int.add_mul]; omega
theorem min_le {x y : Int} : (if y < x then y else x) ≤ x ∧ (if y < x then y else x) ≤ y := by split <;> constructor <;> omega
theorem NI.nb {p q N a b c d : Int} (h : NI p q N a b c d) (o : N < b + d) : NB p q N a b c d := ⟨h.b1, h.d1, h.bN, h.dN, o, h.one, h.lo, h.hi⟩
theorem NB.ni {p q N a b c d : Int} (h : NB p q N a b c d) : NI p q N a b c d := ⟨h.b1, h.d1, h.bN, h.dN, h.one, h.lo, h.hi⟩
theorem div_ge1 {x y : Int} (hy : 0 < y) (h : y ≤ x) : 1 ≤ x / y := (Int.le_ediv_iff_mul_le hy).mpr (by omega)
/-! ### what k15's law draws -/
def FrOk (r : D) : Prop := ∃ p q, r = fr p q ∧ 1 ≤ q ∧ gcdI p q = 1 ∧ Bd 64 p ∧ Bd 64 q
abbrev sp_law_made (K : Fg) : Sp := pureSp K 2 (fun ds => ∃ t b, ds = [.int t, .int b] ∧ 0 < b ∧ Bd 63 t ∧ Bd 63 b) (fun _ r => FrOk r)
abbrev sp_law_digits (K : Fg) : Sp := puSp K 1 (fun ds => ∃ n, ds = [.int n] ∧ 0 ≤ n ∧ n ≤ 30) (fun _ => 30) (fun _ r => ∃ x, r = .int x ∧ 0 ≤ x ∧ x < 10 ^ 30)
abbrev sp_law_fraction (K : Fg) : Sp := puSp K 0 (fun _ => True) (fun _ => 200) (fun _ r => FrOk r)
abbrev sp_law_bound (K : Fg) : Sp := puSp K 1 (fun ds => ∃ r, ds = [r] ∧ FrOk r) (fun _ => 40) (fun _ r => ∃ N, r = .int N ∧ 1 ≤ N ∧ Bd 64 N)
def nearPre (ds : List D) : Prop := ∃ a b c d p q, ds = [.tuple [fr a b, fr c d], fr p q] ∧ Bd 900 a ∧ Bd 900 b ∧ Bd 900 c ∧ Bd 900 d ∧ Bd 900 p ∧ Bd 900 q
def nearD : List D → D
  | [.tuple [.tuple [.int a, .int b], .tuple [.int c, .int d]], .tuple [.int p, .int q]] => nearF p q a b c d
  | _ => .none
abbrev sp_law_shown (K : Fg) : Sp := detSp K 3 (fun ds => ∃ p q N r, ds = [r, fr p q, .int N] ∧ FN p q N ∧ NR p q N r) (fun _ => .bool true)
abbrev sp_law_turns_right (K : Fg) : Sp := detSp K 2 (fun ds => ∃ p q N a b c d, ds = [.tuple [fr a b, fr c d], fr p q] ∧ FN p q N ∧ N < q ∧ NB p q N a b c d) (fun _ => .bool true)
theorem gcd_cut {t b : Int} (hb : 0 < b) : 0 < gcdI t b ∧ 1 ≤ b / gcdI t b ∧ gcdI (t / gcdI t b) (b / gcdI t b) = 1 := by
  have g0 : 0 < gcdI t b := gcd_pos (by omega)
  refine ⟨g0, div_ge1 g0 (gcd_le hb), ?_⟩
  have h := Int.gcd_ediv_gcd_ediv_gcd (i := t) (j := b) (by have : gcdI t b = ((Int.gcd t b : Nat) : Int) := rfl; omega)
  show ((Int.gcd (t / gcdI t b) (b / gcdI t b) : Nat) : Int) = 1
  have e : gcdI t b = ((Int.gcd t b : Nat) : Int) := rfl
  rw [e, h]
  rfl
theorem NR.bd {p q N : Int} {r : D} (h : NR p q N r) (f : FN p q N) : ∃ a b c d, r = .tuple [fr a b, fr c d] ∧ Bd 900 a ∧ Bd 900 b ∧ Bd 900 c ∧ Bd 900 d := by
  have f1 := f.bp
  have f2 := f.bq
  rcases h with ⟨h1, e⟩ | ⟨h1, a, b, c, d, n, e⟩
  · exact ⟨_, _, _, _, e, f1.mono (by decide), f2.mono (by decide), f1.mono (by decide), f2.mono (by decide)⟩
  · obtain ⟨b1, b2, b3, b4, _⟩ := n.ni.bd f.bp f.bq f.bN
    exact ⟨_, _, _, _, e, b3.mono (by decide), b1.mono (by decide), b4.mono (by decide), b2.mono (by decide)⟩
abbrev sp_law_near15 (K : Fg) : Sp := detSp K 2 nearPre nearD
abbrev sp_law_is_fraction15 (K : Fg) : Sp := detSp K 1 (fun ds => ∃ a b, ds = [fr a b]) (fun ds => .bool (fracB (a0 ds)))
theorem NB.flip.one' {p q N a b c d : Int} (h : NB (-p) q N (-c) d (-a) b) : b * c - d * a = 1 := by
  have := h.one
  simp only [Int.neg_mul] at this
  have e1 : b * c = c * b := Int.mul_comm _ _
  have e2 : d * a = a * d := Int.mul_comm _ _
  omega
theorem NB.gcd2 {p q N a b c d : Int} (h : NB p q N a b c d) : gcdI c d = 1 := by
  have e := h.one
  have : gcdI c d = gcdI d c := by unfold gcdI; rw [Nat.gcd_comm]
  refine gcd_one (a := c) (b := d) (c := -a) (d := -b) ?_
  simp only [Int.neg_mul, Int.mul_neg]
  omega
theorem shaped_fr (a b : Int) : SeqAt.shaped (fr a b) = true := by
  simp [SeqAt.shaped, PyData.canLay0, PyData.canLayAll0, PyData.depth, PyData.depthAll]
theorem shaped_fr2 (a b c d : Int) : SeqAt.shaped (.tuple [fr a b, fr c d]) = true := by
  simp [SeqAt.shaped, PyData.canLay0, PyData.canLayAll0, PyData.depth, PyData.depthAll]
theorem eqv_fr (a b : Int) : PyData.eqv (fr a b) (fr a b) = true := PySem.SeqAt.eqv_refl _ (SeqAt.canLay_of_shaped (shaped_fr a b))
theorem eqv_fr2 (a b c d : Int) : PyData.eqv (.tuple [fr a b, fr c d]) (.tuple [fr a b, fr c d]) = true := PySem.SeqAt.eqv_refl _ (SeqAt.canLay_of_shaped (shaped_fr2 a b c d))
theorem NB.at {p q N N' a b c d : Int} (n : NB p q N a b c d) (h1 : b ≤ N') (h2 : d ≤ N') (h3 : N' < b + d) : NB p q N' a b c d := ⟨n.b1, n.d1, h1, h2, h3, n.one, n.lo, n.hi⟩
theorem FN.at {p q N N' : Int} (f : FN p q N) (h1 : 1 ≤ N') (h2 : N' ≤ q) : FN p q N' := ⟨f.q1, f.g, h1, f.bp, f.bq, by have := f.bq; unfold Bd at *; omega⟩
/-- between two neighbours, at the sum of their denominators -/
theorem nr_mid {p q N a b c d : Int} (n : NB p q N a b c d) (f : FN p q N) : NR p q (b + d) (if p * (b + d) - (a + c) * q = 0 then .tuple [fr p q, fr p q] else if 0 < p * (b + d) - (a + c) * q then .tuple [fr (a + c) (b + d), fr c d] else .tuple [fr a b, fr (a + c) (b + d)]) := by
  have hb := n.b1
  have hd := n.d1
  have hX := n.lo
  have hY := n.hi
  have hO := n.one
  have eq := nb_q (p := p) (q := q) hO
  have ep := nb_p (p := p) (q := q) hO
  have es : p * (b + d) - (a + c) * q = (p * b - a * q) - (c * q - p * d) := by
    rw [Int.mul_add, Int.add_mul]; omega
  have hs := nb_sum hO hb hd hX hY
  have o1 : c * (b + d) - (a + c) * d = 1 := by rw [Int.mul_add, Int.add_mul]; omega
  have o2 : (a + c) * b - a * (b + d) = 1 := by rw [Int.mul_add, Int.add_mul]; have : c * b = c * b := rfl; omega
  rw [es]
  generalize hx : p * b - a * q = X at *
  generalize hy : c * q - p * d = Y at *
  by_cases z : X - Y = 0
  · rw [if_pos z]
    have z : X = Y := by omega
    subst z
    have q2 : q = (b + d) * X := by rw [Int.add_mul]; exact eq
    have p2 : p = (a + c) * X := by rw [Int.add_mul]; exact ep
    have x1 := gcd_dvd1 f.g p2 q2 hX
    rw [x1, Int.mul_one] at q2
    exact .inl ⟨by omega, rfl⟩
  · rw [if_neg z]
    by_cases w : 0 < X - Y
    · rw [if_pos w]
      have l1 := le_mul (a := b) (x := Y) (by omega) hY
      have l2 : d * 2 ≤ d * X := Int.mul_le_mul_of_nonneg_left (by omega) (by omega)
      refine .inr ⟨by omega, _, _, _, _, ⟨by omega, hd, by omega, by omega, by omega, o1, ?_, by omega⟩, rfl⟩
      rw [es]; exact w
    · rw [if_neg w]
      have l1 := le_mul (a := d) (x := X) (by omega) hX
      have l2 : b * 2 ≤ b * Y := Int.mul_le_mul_of_nonneg_left (by omega) (by omega)
      refine .inr ⟨by omega, _, _, _, _, ⟨hb, by omega, by omega, by omega, by omega, o2, by omega, ?_⟩, rfl⟩
      have : (a + c) * q - p * (b + d) = -(p * (b + d) - (a + c) * q) := by omega
      rw [this, es]; omega
theorem nearF_fr (p q a b c d : Int) : ∃ u v, nearF p q a b c d = fr u v := by
  unfold nearF
  split
  · split <;> exact ⟨_, _, rfl⟩
  · split <;> exact ⟨_, _, rfl⟩
theorem near_eqv (p q a b c d : Int) : SeqAt.shaped (nearF p q a b c d) = true ∧ PyData.eqv (nearF p q a b c d) (nearF p q a b c d) = true := by
  obtain ⟨u, v, e⟩ := nearF_fr p q a b c d
  rw [e]
  exact ⟨shaped_fr u v, eqv_fr u v⟩
end Tq
set_option maxRecDepth 100000
set_option maxHeartbeats 4000000
namespace Tq
open PySem PySem.Spec PyProof.Rows L2
open PySem.NumText (digitsVal AllDigits)
def topS (i : Nat) : Stmt := PySem.Challenge.pw_termstream_k15_whole_neighbours.main.body.getD i (.Pass ⟨0, 0, 0, 0⟩)
local macro_rules | `(tactic| walk_at "less") => `(tactic| (repeat' (first | exact less_nil | refine less_none ?_ | refine less_some ?_)))
local macro_rules | `(tactic| walk_at "bd") => `(tactic| (repeat' (first | assumption | with_reducible apply Bd.mul | with_reducible apply Bd.add | with_reducible apply Bd.sub | with_reducible apply Bd.neg | (with_reducible apply Bd.div; rotate_left; omega) | exact Bd.lit (k := 40) (by first | decide | omega))))
local macro_rules | `(tactic| walk_at "dq") => `(tactic| (first
  | (with_reducible show wS _ _ (List.set _ _ _) _; refine wS_norm (by simp only [List.set]; first | done | exact rfl) ?_)
  | (with_reducible show wE _ (tVar _) _ _; first | refine wE_var rfl ?_ | refine wE_ptr rfl ?_)
  | (with_reducible show wE _ (tC (.int _)) _ _; refine wE_int ?_)
  | (with_reducible show wE _ (tC (.str _)) _ _; refine wE_str ?_)
  | (with_reducible show wE _ (tC (.bl _)) _ _; refine wE_bl ?_)
  | (with_reducible show wE _ (tC .non) _ _; refine wE_non ?_)
  | (with_reducible show wD _ (tCons _ _) _ _; refine wD_cons ?_)
  | (with_reducible show wD _ tNil _ _; refine wD_nil ?_)
  | (with_reducible show wE _ (tOp (rI0 _) _ _) _ _; first | with_reducible refine wE_add ?_ | with_reducible refine wE_sub ?_ | with_reducible refine wE_lt ?_ | with_reducible refine wE_le ?_ | with_reducible refine wE_gt ?_ | with_reducible refine wE_ge ?_)
  | (with_reducible show wE _ (tOp (rI CPow _) (tC _) (tC _)) _ _; refine wE_powN ?_)
  | (with_reducible show wE _ (tDisp _) _ _; first | refine wE_dispS (by constructor) ?_ | refine wE_dispI (by constructor) ?_)
  | (with_reducible show wE _ (tCall (spTake _) _ _ _) _ _; refine wE_take rfl ?_)
  | (with_reducible show wE _ (tOp (rI _ _) _ _) _ _; first | with_reducible refine wE_mod ?_ | with_reducible refine wE_fdivW ?_ | with_reducible refine wE_mulW ?_ | with_reducible refine wE_pow ?_ | with_reducible refine wE_fdivZ ?_ | with_reducible refine wE_modN ?_ | with_reducible refine wE_mul ?_)
  | (with_reducible show wE _ (tOp (rIx _) _ _) _ _; refine wE_ix ?_)
  | (with_reducible show wE _ (tOp (rCatG _) _ _) _ _; refine wE_catG ?_)
  | (with_reducible show wE _ (tOp rEq _ _) _ _; refine wE_eqS ?_)
  | (with_reducible show wE _ (tOp rNe _ _) _ _; refine wE_neS ?_)
  | (with_reducible show wE _ (tOp (rEqD _) _ _) _ _; refine wE_eqD ?_)
  | (with_reducible show wE _ (tOp (rNeD _) _ _) _ _; refine wE_neD ?_)
  | (with_reducible show wE _ (tOp _ _ _) _ _; first | with_reducible refine wE_addS ?_ | with_reducible refine wE_isN ?_ | with_reducible refine wE_notN ?_ | with_reducible refine wE_inSign ?_ | with_reducible refine wE_ltS ?_ | with_reducible refine wE_leS ?_)
  | (with_reducible show wE _ (tUn _ _) _ _; refine wE_neg ?_)
  | (with_reducible show wE _ (tLst _) _ _; refine wE_lst ?_)
  | (with_reducible show wE _ (tTup _) _ _; refine wE_tup ?_)
  | (with_reducible show wE _ tDNewK _ _; refine wE_dnew ?_)
  | (with_reducible show wE _ (tCB (rIsi _) _) _ _; refine wE_isi ?_)
  | (with_reducible show wE _ (tCB (rIsiT _) _) _ _; refine wE_isi2 ?_)
  | (with_reducible show wE _ (tCB (rAll _) _) _ _; refine wE_all ?_)
  | (with_reducible show wE _ (tCB (rAny _) _) _ _; refine wE_any ?_)
  | (with_reducible show wE _ (tCB (rSum _) _) _ _; refine wE_sum ?_)
  | (with_reducible show wE _ (tCB (rRepr _) _) _ _; refine wE_reprS ?_)
  | (with_reducible show wE _ (tCB _ _) _ _; first | refine wE_len ?_ | with_reducible refine wE_abs ?_ | with_reducible refine wE_max2 ?_ | with_reducible refine wE_min2 ?_ | with_reducible refine wE_strI ?_ | with_reducible refine wE_intS ?_ | with_reducible refine wE_int1 ?_ | refine wE_listOf ?_ | refine wE_tupOf ?_)
  | (with_reducible show wE _ (tCall (detSp _ _ _ _) _ _ _) _ _; refine wE_det ?_)
  | (with_reducible show wE _ (tCall (pureSp _ _ _ _) _ _ _) _ _; refine wE_pure ?_)
  | (with_reducible show wE _ (tCall (puSp _ _ _ _ _) _ _ _) _ _; refine wE_pu rfl ?_)
  | (with_reducible show wE _ (tSl _ _ _ _) _ _; refine wE_sl ?_)
  | (with_reducible show wO _ tNoPart _ _; refine wO_no ?_)
  | (with_reducible show wO _ (tPart _) _ _; refine wO_part ?_)
  | (with_reducible show wE _ (tChain _ _ _ _ _) _ _; first | with_reducible refine wE_chainI ?_ | with_reducible refine wE_chainS ?_)
  | (with_reducible show wE _ (tAndV _ _) _ _; refine wE_andV ?_)
  | (with_reducible show wE _ (tOrV _ _) _ _; refine wE_orV ?_)
  | (with_reducible show wE _ (tNotV _) _ _; refine wE_notV ?_)
  | (with_reducible show wE _ (tIf _ _ _) _ _; refine wE_if ?_)
  | (with_reducible show wE _ (tM1 _ _ _) _ _; first | with_reducible refine wE_starts ?_ | with_reducible refine wE_index ?_ | refine wE_join ?_)
  | (with_reducible show wT _ (tTest _) _ _; refine wT_test ?_)
  | (with_reducible show wT _ (tB _) _ _; refine wT_B ?_)
  | (with_reducible show wT _ (tAnd _ _) _ _; refine wT_and ?_)
  | (with_reducible show wT _ (tOr _ _) _ _; refine wT_or ?_)
  | (with_reducible show wT _ (tNot _) _ _; refine wT_not ?_)
  | (with_reducible show wT _ tYes _ _; refine wT_yes ?_)
  | (with_reducible show wS _ (tSeq (tAsg (tLst _) (gName _)) (tSeq (tDrop (tBM _ _ rAppend _ _)) _)) _ _; refine wS_seq (wS_own ?_))
  | (with_reducible show wS _ (tSeq (tDrop (tBM _ _ rAppend (tVar _) _)) _) _ _; refine wS_seq (wS_app rfl ?_))
  | (with_reducible show wS _ (tSeq (tAsg (tCall spPurse _ _ _) _) _) _ _; refine wS_seq (wS_purse ?_))
  | (with_reducible show wS _ (tSeq (tAsg _ (gName _)) _) _ _; refine wS_seqA ?_)
  | (with_reducible show wS _ (tSeq (tPar _ _ _) _) _ _; refine wS_seqP ?_)
  | (with_reducible show wS _ (tSeq (tIfS _ _ tNext) _) _ _; refine wS_seqI ?_)
  | (with_reducible show wS _ (tDrop (tCall _ _ _ _)) _ _; refine wS_drop ?_)
  | (with_reducible show wS _ (tSeq _ _) _ _; refine wS_seq ?_)
  | (with_reducible show wS _ (tAsg _ (gName _)) _ _; refine wS_asg ?_)
  | (with_reducible show wS _ (tAsg _ _) _ _; refine wS_asgG ?_)
  | (with_reducible show wS _ (tPar _ _ _) _ _; refine wS_par ?_)
  | (with_reducible show wS _ (tIfS _ _ tNext) _ _; refine wS_ifN ?_)
  | (with_reducible show wS _ (tIfS _ _ _) _ _; refine wS_if ?_)
  | (with_reducible show wS _ (tRet _) _ _; refine wS_ret ?_)
  | (with_reducible show wS _ tRetN _ _; refine wS_retN ?_)
  | (with_reducible show wS _ tNext _ _; refine wS_next ?_)
  | (with_reducible show wS _ (tAug _ _ _) _ _; refine wS_aug rfl ?_)
  | (with_reducible show wI _ (iList _ _) _ _; refine wI_list ?_)
  | (with_reducible show wI _ (iTup _ _) _ _; refine wI_tup ?_)
  | (with_reducible show wI _ (iAny _ _) _ _; refine wI_any rfl rfl ?_)
  | (with_reducible show wI _ (iStr _) _ _; refine wI_str ?_)
  | (with_reducible show wI _ (iRng1 _) _ _; refine wI_rng1 ?_)
  | (with_reducible show wI _ (iRng2 _) _ _; refine wI_rng2 ?_)
  | (with_reducible show wG _ (gName _) _ _ _; refine wG_name ?_)
  | (with_reducible show wG _ (gTup _ _ _) _ _ _; refine wG_tup rfl ?_)
  | (with_reducible show wGs _ (gCons _ _) _ _ _; refine wGs_cons ?_)
  | (with_reducible show wGs _ gNil _ _ _; refine wGs_nil ?_)
  | (with_reducible show ite _ _ _; first | refine itb_t rfl ?_ | refine itb_f rfl ?_)
  | (with_reducible show @Exists _ _; first | refine ⟨_, _, rfl, rfl, by omega, fun r h0 h1 => ?_⟩ | refine ⟨_, rfl, ?_⟩ | refine ⟨_, _, rfl, dLen_str (by first | omega | decide), ?_⟩ | refine ⟨_, _, rfl, dCut_str (by first | omega | decide) _ _, ?_⟩ | refine ⟨_, _, rfl, rfl, sz_small (by first | omega | (simp only [strLen_append]; omega)), ?_⟩ | refine ⟨_, _, rfl, rfl, ?_⟩ | refine ⟨_, _, rfl, ?_⟩ | refine ⟨_, _, _, rfl, rfl, rfl, ?_⟩ | refine ⟨_, _, _, rfl, rfl, ?_⟩)
  | (with_reducible show CMulW _ _ ∧ _; refine ⟨Bd.mulW (by walk_at "bd") (by walk_at "bd"), ?_⟩)
  | (with_reducible show CDivW _ _ ∧ _; refine ⟨Bd.divW (by walk_at "bd") (by omega), ?_⟩)
  | (with_reducible show _ ∧ _; first | refine ⟨sz_small (by simp), ?_⟩ | refine ⟨sz_lt1 (by simp), ?_⟩ | refine and_sw ?_ ⟨rfl, trivial⟩ | refine and_sw ?_ ⟨rfl, ⟨_, rfl⟩⟩ | refine and_sw ?_ ⟨rfl, ⟨_, _, rfl⟩⟩ | refine and_sw ?_ ⟨rfl, ⟨_, _, _, rfl⟩⟩ | refine and_sw ?_ ⟨rfl, ⟨_, rfl, ?_⟩⟩ | refine and_sw ?_ ⟨rfl, ⟨_, _, rfl, ?_⟩⟩ | refine ⟨rfl, ?_⟩ | refine ⟨trivial, ?_⟩ | refine ⟨by omega, ?_⟩)
  | (with_reducible show _ ≤ sizeLine; exact sz_small (by omega))
  | fail))

section
variable {P : Program} {w : World} {K : Fg} {mg : Str → Option Value} {base : Heap}
abbrev s_is_number : Stmt := topS 5
abbrev N_is_number : List Str := ["thing"]
theorem sc_is_number : FnScope N_is_number ["thing"] (defScope s_is_number) := ⟨rfl, rfl, rfl, by decide +kernel, rfl, by decide +kernel, by decide +kernel⟩
theorem ok_is_number (d : Df K mg "is_number" s_is_number ["thing"]) (b_bool : mg "bool" = none) (b_int : mg "int" = none) (b_isinstance : mg "isinstance" = none) : Cal P w K mg base 1 "is_number" ["thing"] (sp_is_number K) := by
  refine d.ok sc_is_number (pureSp_len rfl) (fun f cdv A outer s H vs Q E hr hgu h => ?_)
  refine ⟨_, (pss_one (ps_ret (pe_and (pe_callB (isiK K) (by rfl) b_isinstance (by decide +kernel) (pa_cons (pv 0) (pa_cons (pe_bltn (v := .ty "int") (by rfl) b_int (by decide +kernel) rfl) pa_nil))) (pe_one (pe_not (pe_callB (isiK K) (by rfl) b_isinstance (by decide +kernel) (pa_cons (pv 0) (pa_cons (pe_bltn (v := .ty "bool") (by rfl) b_bool (by decide +kernel) rfl) pa_nil)))))))), ?_⟩
  try dsimp only [cxOf]
  refine pure_body h (fun ds hl hp e hn hz => ?_)
  obtain ⟨x, rfl⟩ : ∃ x, ds = [x] := len1 hl
  show wS _ _ [some (.d x)] _
  repeat' walk_at "dq"
  refine ite2 (fun b => ?_) (fun b => ?_)
  · repeat' walk_at "dq"
    refine hz _ _ ?_
    show PyData.bool (!isT "bool" x) = .bool (isNum x)
    rw [isNum_eq, b]; rfl
  · refine hz _ _ ?_
    show PyData.bool false = .bool (isNum x)
    rw [isNum_eq, Bool.eq_false_iff.mpr b]; rfl
abbrev s_common : Stmt := topS 7
abbrev N_common : List Str := ["one", "other"]
theorem sc_common : FnScope N_common ["one", "other"] (defScope s_common) := ⟨rfl, rfl, rfl, by decide +kernel, rfl, by decide +kernel, by decide +kernel⟩
theorem ok_common (d : Df K mg "common" s_common ["one", "other"]) (b_abs : mg "abs" = none) : Cal P w K mg base 1 "common" ["one", "other"] (sp_common K) := by
  refine d.ok sc_common (pureSp_len rfl) (fun f cdv A outer s H vs Q E hr hgu h => ?_)
  refine ⟨_, (pss_cons (ps_set (i := 0) sc_common.nd rfl (Or.inl rfl) (pe_callB call_abs (by rfl) b_abs (by decide +kernel) (pa_cons (pv 0) pa_nil)))
    (pss_cons (ps_set (i := 1) sc_common.nd rfl (Or.inl rfl) (pe_callB call_abs (by rfl) b_abs (by decide +kernel) (pa_cons (pv 1) pa_nil)))
    (pss_cons (ps_while PassesOwn.never (pt_cmpR op_ne (pv 1) pe_int (nomark _)) (pss_one (ps_par (i := 0) (j := 1) (by rfl) sc_common.nd rfl rfl (by decide) rfl rfl (pa_cons (pv 1) (pa_cons (pe_op op_mod (pv 0) (pv 1)) pa_nil)) (by rfl))))
    (pss_one (ps_ret (pv 0)))))), ?_⟩
  try dsimp only [cxOf]
  refine pure_body h (fun ds hl hp e hn hz => ?_)
  obtain ⟨a, b, rfl⟩ := hp
  show wS _ _ [some (.d (.int a)), some (.d (.int b))] _
  repeat' walk_at "dq"
  refine wS_while (fun m y => ∃ u v : Int, y = [some (.d (.int u)), some (.d (.int v))] ∧ 0 ≤ u ∧ 0 ≤ v ∧ gcdI u v = gcdI a b ∧ m = v.toNat) ⟨_, _, _, rfl, by split <;> omega, by split <;> omega, gcd_abs a b, rfl⟩ ?_
  rintro m y ⟨u, v, rfl, hu, hv, hg, rfl⟩
  repeat' walk_at "dq"
  refine ite2 (fun e1 => ?_) (fun e1 => ?_)
  · have hv0 : v ≠ 0 := fun z => by rw [z] at e1; exact absurd e1 (by decide)
    have hv1 : 0 < v := by omega
    have h1 := Int.emod_nonneg u hv0
    have h2 := Int.emod_lt_of_pos u hv1
    repeat' walk_at "dq"
    refine ⟨_, ?_, _, _, rfl, hv, h1, (gcd_turn hu hv1).trans hg, rfl⟩
    omega
  · have hv0 : v = 0 := by
      by_cases z : v = 0
      · exact z
      · exact absurd (show (!eqS (.int v) (.int 0)) = true by simp [eqS, z]) e1
    subst hv0
    repeat' walk_at "dq"
    refine hz _ _ ?_
    show PyData.int u = .int (gcdI a b)
    rw [← hg, gcd_zero hu]
abbrev s_is_fraction : Stmt := topS 8
abbrev N_is_fraction : List Str := ["thing"]
theorem sc_is_fraction : FnScope N_is_fraction ["thing"] (defScope s_is_fraction) := ⟨rfl, rfl, rfl, by decide +kernel, rfl, by decide +kernel, by decide +kernel⟩
theorem ok_is_fraction (d : Df K mg "is_fraction" s_is_fraction ["thing"]) (c_is_number : Cal P w K mg base 1 "is_number" ["thing"] (sp_is_number K)) (c_common : Cal P w K mg base 1 "common" ["one", "other"] (sp_common K)) (b_isinstance : mg "isinstance" = none) (b_len : mg "len" = none) (b_tuple : mg "tuple" = none) : Cal P w K mg base 2 "is_fraction" ["thing"] (sp_is_fraction K) := by
  refine d.ok sc_is_fraction (pureSp_len rfl) (fun f cdv A outer s H vs Q E hr hgu h => ?_)
  refine ⟨_, (pss_cons (ps_if (PW.pt (pw_or (pt_not (pt_val (pe_callB (isiK K) (by rfl) b_isinstance (by decide +kernel) (pa_cons (pv 0) (pa_cons (pe_bltn (v := .ty "tuple") (by rfl) b_tuple (by decide +kernel) rfl) pa_nil))))) (pw_or (pt_cmpR op_ne (pe_callB (lenK K) (by rfl) b_len (by decide +kernel) (pa_cons (pv 0) pa_nil)) pe_int (nomark _)) (pw_or (pt_not (pt_val (pe_cal c_is_number (hr.mono (by decide)) hgu (by rfl) (pa_cons (pe_ix (ixK K) (pv 0) pe_int (fun _ _ => rfl)) pa_nil)))) (pw_or1 (pt_not (pt_val (pe_cal c_is_number (hr.mono (by decide)) hgu (by rfl) (pa_cons (pe_ix (ixK K) (pv 0) pe_int (fun _ _ => rfl)) pa_nil))))))))) (pss_one (ps_ret pe_bl)) pss_nil)
    (pss_one (ps_ret (pe_and (pe_cmpR op_ge (pe_ix (ixK K) (pv 0) pe_int (fun _ _ => rfl)) pe_int (nomark _)) (pe_one (pe_cmpR op_eq (pe_cal c_common (hr.mono (by decide)) hgu (by rfl) (pa_cons (pe_ix (ixK K) (pv 0) pe_int (fun _ _ => rfl)) (pa_cons (pe_ix (ixK K) (pv 0) pe_int (fun _ _ => rfl)) pa_nil))) pe_int (nomark _))))))), ?_⟩
  try dsimp only [cxOf]
  refine pure_body h (fun ds hl hp e hn hz => ?_)
  obtain ⟨x, rfl⟩ : ∃ x, ds = [x] := len1 hl
  show wS _ _ [some (.d x)] _
  repeat' walk_at "dq"
  rw [isT_tuple]
  cases x with
  | tuple xs =>
    match xs with
    | [] => repeat' (first | walk_at "dq" | (exact hz _ _ rfl))
    | [u] => repeat' (first | walk_at "dq" | (exact hz _ _ (by cases u <;> rfl)))
    | [u, v] =>
      repeat' walk_at "dq"
      cases u with
      | int i =>
        cases v with
        | int j =>
          repeat' walk_at "dq"
          refine ite2 (fun b => ?_) (fun b => ?_)
          · repeat' walk_at "dq"
            refine hz _ _ ?_
            show PyData.bool (decide (gcdI i j = 1)) = .bool (decide (1 ≤ j) && decide (gcdI i j = 1))
            rw [b]; rfl
          · refine hz _ _ ?_
            show PyData.bool false = .bool (decide (1 ≤ j) && decide (gcdI i j = 1))
            rw [Bool.eq_false_iff.mpr b]; rfl
        | _ => repeat' (first | walk_at "dq" | (exact hz _ _ rfl))
      | _ => repeat' (first | walk_at "dq" | (exact hz _ _ rfl))
    | u :: v :: z :: r =>
      repeat' (first | walk_at "dq" | (exact hz _ _ (by cases u <;> first | rfl | (cases v <;> rfl))))
  | _ => repeat' (first | walk_at "dq" | (exact hz _ _ rfl))
abbrev s_need_fraction : Stmt := topS 10
abbrev N_need_fraction : List Str := ["thing"]
theorem sc_need_fraction : FnScope N_need_fraction ["thing"] (defScope s_need_fraction) := ⟨rfl, rfl, rfl, by decide +kernel, rfl, by decide +kernel, by decide +kernel⟩
theorem ok_need_fraction (d : Df K mg "need_fraction" s_need_fraction ["thing"]) (c_is_fraction : Cal P w K mg base 2 "is_fraction" ["thing"] (sp_is_fraction K)) : Cal P w K mg base 3 "need_fraction" ["thing"] (sp_need_fraction K) := by
  refine d.ok sc_need_fraction (pureSp_len rfl) (fun f cdv A outer s H vs Q E hr hgu h => ?_)
  refine ⟨_, (pss_one (ps_if (pt_not (pt_val (pe_cal c_is_fraction (hr.mono (by decide)) hgu (by rfl) (pa_cons (pv 0) pa_nil)))) (pss_one ps_no) pss_nil)), ?_⟩
  try dsimp only [cxOf]
  refine pure_body h (fun ds hl hp e hn hz => ?_)
  obtain ⟨x, rfl, hx⟩ := hp
  show wS _ _ [some (.d x)] _
  repeat' walk_at "dq"
  rw [show fracB (a0 [x]) = true from hx]
  repeat' walk_at "dq"
  exact hn _ rfl
abbrev s_need_both : Stmt := topS 11
abbrev N_need_both : List Str := ["fraction", "bound"]
theorem sc_need_both : FnScope N_need_both ["fraction", "bound"] (defScope s_need_both) := ⟨rfl, rfl, rfl, by decide +kernel, rfl, by decide +kernel, by decide +kernel⟩
theorem ok_need_both (d : Df K mg "need_both" s_need_both ["fraction", "bound"]) (c_is_number : Cal P w K mg base 1 "is_number" ["thing"] (sp_is_number K)) (c_need_fraction : Cal P w K mg base 3 "need_fraction" ["thing"] (sp_need_fraction K)) : Cal P w K mg base 4 "need_both" ["fraction", "bound"] (sp_need_both K) := by
  refine d.ok sc_need_both (pureSp_len rfl) (fun f cdv A outer s H vs Q E hr hgu h => ?_)
  refine ⟨_, (pss_cons (ps_expr (pe_cal c_need_fraction (hr.mono (by decide)) hgu (by rfl) (pa_cons (pv 0) pa_nil)))
    (pss_one (ps_if (PW.pt (pw_or (pt_not (pt_val (pe_cal c_is_number (hr.mono (by decide)) hgu (by rfl) (pa_cons (pv 1) pa_nil)))) (pw_or1 (pt_cmpR op_lt (pv 1) pe_int (nomark _))))) (pss_one ps_no) pss_nil))), ?_⟩
  try dsimp only [cxOf]
  refine pure_body h (fun ds hl hp e hn hz => ?_)
  obtain ⟨x, n, rfl, hx, hn1⟩ := hp
  show wS _ _ [some (.d x), some (.d (.int n))] _
  repeat' walk_at "dq"
  · rw [decide_eq_false (show ¬ n < 1 by omega)]
    repeat' walk_at "dq"
    exact hn _ rfl
  · exact hx
abbrev s_moved : Stmt := topS 12
abbrev N_moved : List Str := ["one", "other", "many"]
theorem sc_moved : FnScope N_moved ["one", "other", "many"] (defScope s_moved) := ⟨rfl, rfl, rfl, by decide +kernel, rfl, by decide +kernel, by decide +kernel⟩
theorem ok_moved (d : Df K mg "moved" s_moved ["one", "other", "many"])  : Cal P w K mg base 1 "moved" ["one", "other", "many"] (sp_moved K) := by
  refine d.ok sc_moved (pureSp_len rfl) (fun f cdv A outer s H vs Q E hr hgu h => ?_)
  refine ⟨_, (pss_one (ps_ret (pe_tup (pa_cons (pe_op op_add (pe_ix (ixK K) (pv 0) pe_int (fun _ _ => rfl)) (pe_op op_mulW (pv 2) (pe_ix (ixK K) (pv 1) pe_int (fun _ _ => rfl)))) (pa_cons (pe_op op_add (pe_ix (ixK K) (pv 0) pe_int (fun _ _ => rfl)) (pe_op op_mulW (pv 2) (pe_ix (ixK K) (pv 1) pe_int (fun _ _ => rfl)))) pa_nil))))), ?_⟩
  try dsimp only [cxOf]
  refine pure_body h (fun ds hl hp e hn hz => ?_)
  obtain ⟨a, b, c, d, m, rfl, bc, bd, bm⟩ := hp
  show wS _ _ [some (.d (fr a b)), some (.d (fr c d)), some (.d (.int m))] _
  repeat' walk_at "dq"
  exact hz _ _ rfl
abbrev s_gap : Stmt := topS 13
abbrev N_gap : List Str := ["lesser", "greater"]
theorem sc_gap : FnScope N_gap ["lesser", "greater"] (defScope s_gap) := ⟨rfl, rfl, rfl, by decide +kernel, rfl, by decide +kernel, by decide +kernel⟩
theorem ok_gap (d : Df K mg "gap" s_gap ["lesser", "greater"])  : Cal P w K mg base 1 "gap" ["lesser", "greater"] (sp_gap K) := by
  refine d.ok sc_gap (pureSp_len rfl) (fun f cdv A outer s H vs Q E hr hgu h => ?_)
  refine ⟨_, (pss_one (ps_ret (pe_op op_sub (pe_op op_mulW (pe_ix (ixK K) (pv 1) pe_int (fun _ _ => rfl)) (pe_ix (ixK K) (pv 0) pe_int (fun _ _ => rfl))) (pe_op op_mulW (pe_ix (ixK K) (pv 0) pe_int (fun _ _ => rfl)) (pe_ix (ixK K) (pv 1) pe_int (fun _ _ => rfl)))))), ?_⟩
  try dsimp only [cxOf]
  refine pure_body h (fun ds hl hp e hn hz => ?_)
  obtain ⟨a, b, c, d, rfl, ba, bb, bc, bd⟩ := hp
  show wS _ _ [some (.d (fr a b)), some (.d (fr c d))] _
  repeat' walk_at "dq"
  exact hz _ _ rfl
abbrev s_neighbours : Stmt := topS 14
abbrev N_neighbours : List Str := ["fraction", "bound", "whole", "low", "high", "many"]
theorem sc_neighbours : FnScope N_neighbours ["fraction", "bound"] (defScope s_neighbours) := ⟨rfl, rfl, rfl, by decide +kernel, rfl, by decide +kernel, by decide +kernel⟩
theorem ok_neighbours (d : Df K mg "neighbours" s_neighbours ["fraction", "bound"]) (c_need_both : Cal P w K mg base 4 "need_both" ["fraction", "bound"] (sp_need_both K)) (c_moved : Cal P w K mg base 1 "moved" ["one", "other", "many"] (sp_moved K)) (c_gap : Cal P w K mg base 1 "gap" ["lesser", "greater"] (sp_gap K)) (b_min : mg "min" = none) : Cal P w K mg base 5 "neighbours" ["fraction", "bound"] (sp_neighbours K) := by
  refine d.ok sc_neighbours (pureSp_len rfl) (fun f cdv A outer s H vs Q E hr hgu h => ?_)
  refine ⟨_, (pss_cons (ps_expr (pe_cal c_need_both (hr.mono (by decide)) hgu (by rfl) (pa_cons (pv 0) (pa_cons (pv 1) pa_nil))))
    (pss_cons (ps_if (pt_cmpR op_le (pe_ix (ixK K) (pv 0) pe_int (fun _ _ => rfl)) (pv 1) (nomark _)) (pss_one (ps_ret (pe_tup (pa_cons (pv 0) (pa_cons (pv 0) pa_nil))))) pss_nil)
    (pss_cons (ps_set (i := 2) sc_neighbours.nd rfl (Or.inl rfl) (pe_op op_fdivW (pe_ix (ixK K) (pv 0) pe_int (fun _ _ => rfl)) (pe_ix (ixK K) (pv 0) pe_int (fun _ _ => rfl))))
    (pss_cons (ps_par (i := 3) (j := 4) (by rfl) sc_neighbours.nd rfl rfl (by decide) rfl rfl (pa_cons (pe_tup (pa_cons (pv 2) (pa_cons pe_int pa_nil))) (pa_cons (pe_tup (pa_cons (pe_op op_add (pv 2) pe_int) (pa_cons pe_int pa_nil))) pa_nil)) (by rfl))
    (pss_cons (ps_while PassesOwn.never (pt_cmpR op_le (pe_op op_add (pe_ix (ixK K) (pv 3) pe_int (fun _ _ => rfl)) (pe_ix (ixK K) (pv 4) pe_int (fun _ _ => rfl))) (pv 1) (nomark _)) (pss_cons (ps_set (i := 5) sc_neighbours.nd rfl (Or.inl rfl) (pe_op op_fdivW (pe_cal c_gap (hr.mono (by decide)) hgu (by rfl) (pa_cons (pv 3) (pa_cons (pv 0) pa_nil))) (pe_cal c_gap (hr.mono (by decide)) hgu (by rfl) (pa_cons (pv 0) (pa_cons (pv 4) pa_nil)))))
    (pss_cons (ps_set (i := 3) sc_neighbours.nd rfl (Or.inl rfl) (pe_cal c_moved (hr.mono (by decide)) hgu (by rfl) (pa_cons (pv 3) (pa_cons (pv 4) (pa_cons (pe_callB (call_min2 rfl) (by rfl) b_min (by decide +kernel) (pa_cons (pv 5) (pa_cons (pe_op op_fdivW (pe_op op_sub (pv 1) (pe_ix (ixK K) (pv 3) pe_int (fun _ _ => rfl))) (pe_ix (ixK K) (pv 4) pe_int (fun _ _ => rfl))) pa_nil))) pa_nil)))))
    (pss_cons (ps_set (i := 5) sc_neighbours.nd rfl (Or.inl rfl) (pe_op op_fdivW (pe_cal c_gap (hr.mono (by decide)) hgu (by rfl) (pa_cons (pv 0) (pa_cons (pv 4) pa_nil))) (pe_cal c_gap (hr.mono (by decide)) hgu (by rfl) (pa_cons (pv 3) (pa_cons (pv 0) pa_nil)))))
    (pss_one (ps_set (i := 4) sc_neighbours.nd rfl (Or.inl rfl) (pe_cal c_moved (hr.mono (by decide)) hgu (by rfl) (pa_cons (pv 4) (pa_cons (pv 3) (pa_cons (pe_callB (call_min2 rfl) (by rfl) b_min (by decide +kernel) (pa_cons (pv 5) (pa_cons (pe_op op_fdivW (pe_op op_sub (pv 1) (pe_ix (ixK K) (pv 4) pe_int (fun _ _ => rfl))) (pe_ix (ixK K) (pv 3) pe_int (fun _ _ => rfl))) pa_nil))) pa_nil))))))))))
    (pss_one (ps_ret (pe_tup (pa_cons (pv 3) (pa_cons (pv 4) pa_nil)))))))))), ?_⟩
  try dsimp only [cxOf]
  refine pure_body h (fun ds hl hp e hn hz => ?_)
  obtain ⟨p, q, N, rfl, hf⟩ := hp
  have q1 := hf.q1
  have n1 := hf.n1
  have bp := hf.bp
  have bq := hf.bq
  have bN := hf.bN
  show wS _ _ [some (.d (fr p q)), some (.d (.int N)), none, none, none, none] _
  repeat' walk_at "dq"
  · refine ite2 (fun b => ?_) (fun b => ?_)
    · have b := of_decide_eq_true b
      repeat' walk_at "dq"
      refine hz _ _ (fun p' q' N' e => ?_)
      cases e
      exact .inl ⟨b, rfl⟩
    · have b : N < q := by
        have := of_decide_eq_false (Bool.eq_false_iff.mpr b)
        omega
      repeat' walk_at "dq"
      refine wS_whileJ (fun m y => ∃ (a b c d : Int), y = [some (.d (fr p q)), some (.d (.int N)), some (.d (.int (p / q))), some (.d (fr a b)), some (.d (fr c d)), none] ∧ NI p q N a b c d ∧ m = (2 * N - b - d).toNat) ⟨_, _, ⟨_, _, _, _, rfl, ni_start n1 hf.g b, rfl⟩, by walk_at "less"⟩ ?_
      rintro m y ⟨a, b', c, d, rfl, hi, rfl⟩
      obtain ⟨bb, bd, ba, bc, x1, y1, _⟩ := hi.bd bp bq bN
      have hX := hi.lo
      have hY := hi.hi
      have hb1 := hi.b1
      have hd1 := hi.d1
      have hbN := hi.bN
      have hdN := hi.dN
      have big : ∀ {z : Int}, Bd 65 z → Bd 900 z := fun h => h.mono (by decide)
      have big' : ∀ {z : Int}, Bd (3 * 65 + 1) z → Bd 900 z := fun h => h.mono (by decide)
      repeat' walk_at "dq"
      refine ite2 (fun e1 => ?_) (fun e1 => ?_)
      · have e1 := of_decide_eq_true e1
        have bX : Bd 65 (p * b' - a * q) := by unfold Bd at *; omega
        have bY : Bd 65 (c * q - p * d) := by unfold Bd at *; omega
        repeat' walk_at "dq"
        refine ⟨⟨rfl, _, _, _, _, rfl, big' ba, big bb, big bp, big bq⟩, ?_⟩
        repeat' walk_at "dq"
        refine ⟨⟨rfl, _, _, _, _, rfl, big bp, big bq, big' bc, big bd⟩, ?_⟩
        refine ⟨_, _, rfl, rfl, bY.divW hY, ?_⟩
        repeat' walk_at "dq"
        generalize hm : (if (N - b') / d < (p * b' - a * q) / (c * q - p * d) then (N - b') / d else (p * b' - a * q) / (c * q - p * d)) = m1
        have hml := min_le (x := (p * b' - a * q) / (c * q - p * d)) (y := (N - b') / d)
        rw [hm] at hml
        have m0 : 0 ≤ m1 := by
          rw [← hm]
          have k1 : 0 ≤ (N - b') / d := Int.ediv_nonneg (by omega) (by omega)
          have k2 : 0 ≤ (p * b' - a * q) / (c * q - p * d) := Int.ediv_nonneg (by omega) (by omega)
          split <;> assumption
        have bm : Bd 65 m1 := by
          have := Int.ediv_le_self d (show 0 ≤ N - b' by omega)
          unfold Bd at *; omega
        have h2 := ni_step hi hf.g b m0 hml.1 hml.2
        have hpr : b' + 1 ≤ b' + m1 * d ∨ (m1 = 0 ∧ p * b' - a * q < c * q - p * d) := by
          rcases Int.lt_or_le m1 1 with z | z
          · right
            have z : m1 = 0 := by omega
            refine ⟨z, ?_⟩
            rcases Int.lt_or_le (p * b' - a * q) (c * q - p * d) with w | w
            · exact w
            · have k1 := div_ge1 hY w
              have k2 := div_ge1 (show 0 < d by omega) (show d ≤ N - b' by omega)
              rw [z] at hm
              split at hm <;> omega
          · left
            have := Int.mul_le_mul z (show 1 ≤ d by omega) (by omega) (by omega)
            omega
        refine ⟨⟨rfl, _, _, _, _, _, rfl, big' bc, big bd, big bm⟩, ?_⟩
        show ∃ d_1, Z.d (fr (a + m1 * c) (b' + m1 * d)) = Z.d d_1 ∧ _
        have hmd : 0 ≤ m1 * d := Int.mul_nonneg m0 (by omega)
        have hz2 : m1 = 0 → a + m1 * c = a ∧ b' + m1 * d = b' := by rintro rfl; constructor <;> omega
        generalize a + m1 * c = a2 at h2 hz2 ⊢
        obtain ⟨b2, hb2⟩ : ∃ b2, b2 = b' + m1 * d := ⟨_, rfl⟩
        rw [← hb2] at h2 hz2 hpr ⊢
        obtain ⟨bb2, _, ba2, _, x12, _, _⟩ := h2.bd bp bq bN
        have hX2 := h2.lo
        have hb12 := h2.b1
        have hbN2 := h2.bN
        have bX2 : Bd 65 (p * b2 - a2 * q) := by unfold Bd at *; omega
        repeat' walk_at "dq"
        refine ⟨⟨rfl, _, _, _, _, rfl, big bp, big bq, big' bc, big bd⟩, ?_⟩
        repeat' walk_at "dq"
        refine ⟨⟨rfl, _, _, _, _, rfl, big' ba2, big bb2, big bp, big bq⟩, ?_⟩
        refine ⟨_, _, rfl, rfl, bX2.divW hX2, ?_⟩
        repeat' walk_at "dq"
        generalize hn2 : (if (N - d) / b2 < (c * q - p * d) / (p * b2 - a2 * q) then (N - d) / b2 else (c * q - p * d) / (p * b2 - a2 * q)) = m2
        have hnl := min_le (x := (c * q - p * d) / (p * b2 - a2 * q)) (y := (N - d) / b2)
        rw [hn2] at hnl
        have n0 : 0 ≤ m2 := by
          rw [← hn2]
          have k1 : 0 ≤ (N - d) / b2 := Int.ediv_nonneg (by omega) (by omega)
          have k2 : 0 ≤ (c * q - p * d) / (p * b2 - a2 * q) := Int.ediv_nonneg (by omega) (by omega)
          split <;> assumption
        have bm2 : Bd 65 m2 := by
          have := Int.ediv_le_self b2 (show 0 ≤ N - d by omega)
          unfold Bd at *; omega
        have h3 := ni_step2 h2 hf.g b n0 hnl.1 hnl.2
        refine ⟨⟨rfl, _, _, _, _, _, rfl, big' ba2, big bb2, big bm2⟩, ?_⟩
        show ∃ d_1, Z.d (fr (c + m2 * a2) (d + m2 * b2)) = Z.d d_1 ∧ _
        repeat' walk_at "dq"
        refine ⟨_, _, ?_, ⟨_, _, _, _, rfl, h3, rfl⟩, by walk_at "less"⟩
        have k1 : 0 ≤ m2 * b2 := Int.mul_nonneg n0 (by omega)
        rcases hpr with w | ⟨w, w2⟩
        · omega
        · obtain ⟨w3, w4⟩ := hz2 w
          have k2 : 1 ≤ m2 := by
            rw [← hn2]
            have k2 := div_ge1 hX2 (show p * b2 - a2 * q ≤ c * q - p * d by rw [w3, w4]; omega)
            have k3 := div_ge1 (show 0 < b2 by omega) (show b2 ≤ N - d by omega)
            split <;> assumption
          have := Int.mul_le_mul k2 hb12 (by omega) (by omega)
          omega
      · have e1 := of_decide_eq_false (Bool.eq_false_iff.mpr e1)
        show wS _ _ _ _
        repeat' walk_at "dq"
        refine hz _ _ (fun p' q' N' e => ?_)
        cases e
        exact .inr ⟨b, _, _, _, _, hi.nb (by omega), rfl⟩
  · exact ⟨fracB_fr q1 hf.g, n1⟩
abbrev s_nearest : Stmt := topS 15
abbrev N_nearest : List Str := ["fraction", "bound", "low", "high", "below", "above"]
theorem sc_nearest : FnScope N_nearest ["fraction", "bound"] (defScope s_nearest) := ⟨rfl, rfl, rfl, by decide +kernel, rfl, by decide +kernel, by decide +kernel⟩
theorem ok_nearest (d : Df K mg "nearest" s_nearest ["fraction", "bound"]) (c_gap : Cal P w K mg base 1 "gap" ["lesser", "greater"] (sp_gap K)) (c_neighbours : Cal P w K mg base 5 "neighbours" ["fraction", "bound"] (sp_neighbours K)) : Cal P w K mg base 6 "nearest" ["fraction", "bound"] (sp_nearest K) := by
  refine d.ok sc_nearest (pureSp_len rfl) (fun f cdv A outer s H vs Q E hr hgu h => ?_)
  refine ⟨_, (pss_cons (ps_asg (pe_cal c_neighbours (hr.mono (by decide)) hgu (by rfl) (pa_cons (pv 0) (pa_cons (pv 1) pa_nil))) (pgT K rfl (pgs_cons (pg_name (i := 2) sc_nearest.nd rfl (Or.inl rfl)) (pgs_cons (pg_name (i := 3) sc_nearest.nd rfl (Or.inl rfl)) pgs_nil))))
    (pss_cons (ps_set (i := 4) sc_nearest.nd rfl (Or.inl rfl) (pe_op op_mulW (pe_cal c_gap (hr.mono (by decide)) hgu (by rfl) (pa_cons (pv 2) (pa_cons (pv 0) pa_nil))) (pe_ix (ixK K) (pv 3) pe_int (fun _ _ => rfl))))
    (pss_cons (ps_set (i := 5) sc_nearest.nd rfl (Or.inl rfl) (pe_op op_mulW (pe_cal c_gap (hr.mono (by decide)) hgu (by rfl) (pa_cons (pv 0) (pa_cons (pv 3) pa_nil))) (pe_ix (ixK K) (pv 2) pe_int (fun _ _ => rfl))))
    (pss_cons (ps_if (pt_cmpR op_eq (pv 4) (pv 5) (nomark _)) (pss_one (ps_ret (pe_ifExp (pt_cmpR op_le (pe_ix (ixK K) (pv 2) pe_int (fun _ _ => rfl)) (pe_ix (ixK K) (pv 3) pe_int (fun _ _ => rfl)) (nomark _)) (pv 2) (pv 3)))) pss_nil)
    (pss_one (ps_ret (pe_ifExp (pt_cmpR op_lt (pv 4) (pv 5) (nomark _)) (pv 2) (pv 3)))))))), ?_⟩
  try dsimp only [cxOf]
  refine pure_body h (fun ds hl hp e hn hz => ?_)
  obtain ⟨p, q, N, rfl, hf⟩ := hp
  have bp : Bd 900 p := hf.bp.mono (by decide)
  have bq : Bd 900 q := hf.bq.mono (by decide)
  show wS _ _ [some (.d (fr p q)), some (.d (.int N)), none, none, none, none] _
  repeat' walk_at "dq"
  refine ⟨⟨p, q, N, rfl, hf⟩, ?_⟩
  rintro r hr
  have hr := hr p q N rfl
  obtain ⟨a, b, c, d, rfl, ba, bb, bc, bd⟩ := hr.bd hf
  repeat' walk_at "dq"
  refine ⟨⟨rfl, _, _, _, _, rfl, ba, bb, bp, bq⟩, ?_⟩
  repeat' walk_at "dq"
  refine ⟨⟨rfl, _, _, _, _, rfl, bp, bq, bc, bd⟩, ?_⟩
  repeat' walk_at "dq"
  refine ite2 (fun e1 => ?_) (fun e1 => ?_)
  · have e1 := of_decide_eq_true e1
    repeat' walk_at "dq"
    refine ite2 (fun e2 => ?_) (fun e2 => ?_)
    · have ev : fr a b = nearF p q a b c d := by unfold nearF; rw [if_pos e1, if_pos (of_decide_eq_true e2)]
      repeat' walk_at "dq"
      exact hz _ _ (fun p1 q1 N1 e => by cases e; exact ⟨a, b, c, d, hr, ev⟩)
    · have ev : fr c d = nearF p q a b c d := by unfold nearF; rw [if_pos e1, if_neg (of_decide_eq_false (Bool.eq_false_iff.mpr e2))]
      repeat' walk_at "dq"
      exact hz _ _ (fun p1 q1 N1 e => by cases e; exact ⟨a, b, c, d, hr, ev⟩)
  · have e1 := of_decide_eq_false (Bool.eq_false_iff.mpr e1)
    repeat' walk_at "dq"
    refine ite2 (fun e2 => ?_) (fun e2 => ?_)
    · have ev : fr a b = nearF p q a b c d := by unfold nearF; rw [if_neg e1, if_pos (of_decide_eq_true e2)]
      repeat' walk_at "dq"
      exact hz _ _ (fun p1 q1 N1 e => by cases e; exact ⟨a, b, c, d, hr, ev⟩)
    · have ev : fr c d = nearF p q a b c d := by unfold nearF; rw [if_neg e1, if_neg (of_decide_eq_false (Bool.eq_false_iff.mpr e2))]
      repeat' walk_at "dq"
      exact hz _ _ (fun p1 q1 N1 e => by cases e; exact ⟨a, b, c, d, hr, ev⟩)
abbrev s_law_cell : Stmt := topS 17
abbrev N_law_cell : List Str := ["_law_script", "_law_k"]
theorem sc_law_cell : FnScope N_law_cell ["_law_script", "_law_k"] (defScope s_law_cell) := ⟨rfl, rfl, rfl, by decide +kernel, rfl, by decide +kernel, by decide +kernel⟩
theorem ok_law_cell (d : Df K mg "_law_cell" s_law_cell ["_law_script", "_law_k"]) (b_len : mg "len" = none) : Cal P w K mg base 1 "_law_cell" ["_law_script", "_law_k"] (sp_law_cell K) := by
  refine d.ok sc_law_cell (pureSp_len rfl) (fun f cdv A outer s H vs Q E hr hgu h => ?_)
  refine ⟨_, (pss_cons (ps_if (pt_cmpR op_lt (pv 1) (pe_callB (lenK K) (by rfl) b_len (by decide +kernel) (pa_cons (pv 0) pa_nil)) (nomark _)) (pss_one (ps_ret (pe_ix (ixK K) (pv 0) (pv 1) (fun _ _ => rfl)))) pss_nil)
    (pss_one (ps_ret (pe_op op_add (pe_op op_mulW pe_int (pv 1)) pe_int)))), ?_⟩
  try dsimp only [cxOf]
  refine pure_body h (fun ds hl hp e hn hz => ?_)
  obtain ⟨ns, k, rfl, k0, k1⟩ := hp
  show wS _ _ [some (.d (.list (ns.map PyData.int))), some (.d (.int k))] _
  repeat' walk_at "dq"
  refine ite2 (fun b => ?_) (fun b => ?_)
  · repeat' walk_at "dq"
    obtain ⟨x, hx, hm⟩ := atI_mem (xs := ns.map PyData.int) k0 (of_decide_eq_true b)
    refine ⟨_, _, x, rfl, rfl, hx, hz _ _ ?_⟩
    obtain ⟨n, _, rfl⟩ := List.mem_map.mp hm
    exact ⟨n, rfl⟩
  · repeat' walk_at "dq"
    exact hz _ _ ⟨_, rfl⟩
abbrev s_law_purse : Stmt := topS 18
abbrev N_law_purse : List Str := ["_law_cell_here"]
theorem sc_law_purse : FnScope N_law_purse ["_law_cell_here"] (defScope s_law_purse) := ⟨rfl, rfl, rfl, by decide +kernel, rfl, by decide +kernel, by decide +kernel⟩
theorem ok_law_purse (d : Df K mg "_law_purse" s_law_purse ["_law_cell_here"]) (b_max : mg "max" = none) : Cal P w K mg base 1 "_law_purse" ["_law_cell_here"] (sp_law_purse K) := by
  refine d.ok sc_law_purse (fun vs H Q E z => by obtain ⟨c, rfl, _⟩ := z; rfl) (fun f cdv A outer s H vs Q E hr hgu h => ?_)
  exact ⟨t_purse, (pss_one (ps_ret (pe_lst (pa_cons (pe_callB (call_max2 rfl) (by rfl) b_max (by decide +kernel) (pa_cons pe_int (pa_cons (pe_op op_sub (pv 0) (pe_op op_pow pe_int pe_int)) pa_nil))) (pa_cons (pe_op op_mod (pv 0) pe_int) (pa_cons pe_int pa_nil)))))), purse_read rfl h⟩
abbrev s_law_take : Stmt := topS 19
abbrev N_law_take : List Str := ["_law_purse_here", "_law_many", "_law_digit", "_law_one", "_law_other"]
theorem sc_law_take : FnScope N_law_take ["_law_purse_here", "_law_many"] (defScope s_law_take) := ⟨rfl, rfl, rfl, by decide +kernel, rfl, by decide +kernel, by decide +kernel⟩
theorem ok_law_take (d : Df K mg "_law_take" s_law_take ["_law_purse_here", "_law_many"])  : Cal P w K mg base 1 "_law_take" ["_law_purse_here", "_law_many"] (sp_law_take K) := by
  refine d.ok sc_law_take (puSp_len rfl) (fun f cdv A outer s H vs Q E hr hgu h => ?_)
  exact ⟨t_take2 K _ _ _, (pss_cons (ps_if (pt_cmpR op_gt (pe_ix (ixK K) (pv 0) pe_int (fun _ _ => rfl)) pe_int (nomark _)) (pss_cons (ps_set (i := 2) sc_law_take.nd rfl (Or.inl rfl) (pe_op op_mod (pe_ix (ixK K) (pv 0) pe_int (fun _ _ => rfl)) (pv 1)))
    (pss_cons (ps_asg (pe_op op_fdivW (pe_ix (ixK K) (pv 0) pe_int (fun _ _ => rfl)) (pv 1)) (pg_sub (pv 0) pe_int set_list))
    (pss_one (ps_ret (pv 2))))) pss_nil)
    (pss_cons (ps_asg (pe_op op_add (pe_ix (ixK K) (pv 0) pe_int (fun _ _ => rfl)) pe_int) (pg_sub (pv 0) pe_int set_list))
    (pss_cons (ps_set (i := 3) sc_law_take.nd rfl (Or.inl rfl) (pe_op op_mod (pe_op op_pow (pe_op op_add (pe_op op_add (pe_ix (ixK K) (pv 0) pe_int (fun _ _ => rfl)) (pe_op op_mul pe_int (pe_ix (ixK K) (pv 0) pe_int (fun _ _ => rfl)))) pe_int) pe_int) pe_int))
    (pss_cons (ps_set (i := 4) sc_law_take.nd rfl (Or.inl rfl) (pe_op op_mod (pe_op op_pow (pe_op op_add (pe_op op_mul (pe_ix (ixK K) (pv 0) pe_int (fun _ _ => rfl)) (pe_ix (ixK K) (pv 0) pe_int (fun _ _ => rfl))) pe_int) pe_int) pe_int))
    (pss_one (ps_ret (pe_op op_mod (pe_op op_fdivW (pe_op op_add (pe_op op_mul (pv 3) pe_int) (pv 4)) pe_int) (pv 1)))))))), take2_read (by decide) (by decide) (by decide) rfl h⟩
abbrev s_law_common : Stmt := topS 20
abbrev N_law_common : List Str := ["_law_one", "_law_other"]
theorem sc_law_common : FnScope N_law_common ["_law_one", "_law_other"] (defScope s_law_common) := ⟨rfl, rfl, rfl, by decide +kernel, rfl, by decide +kernel, by decide +kernel⟩
theorem ok_law_common (d : Df K mg "_law_common" s_law_common ["_law_one", "_law_other"]) (b_abs : mg "abs" = none) : Cal P w K mg base 1 "_law_common" ["_law_one", "_law_other"] (sp_law_common K) := by
  refine d.ok sc_law_common (pureSp_len rfl) (fun f cdv A outer s H vs Q E hr hgu h => ?_)
  refine ⟨_, (pss_cons (ps_par (i := 0) (j := 1) (by rfl) sc_law_common.nd rfl rfl (by decide) rfl rfl (pa_cons (pe_callB call_abs (by rfl) b_abs (by decide +kernel) (pa_cons (pv 0) pa_nil)) (pa_cons (pe_callB call_abs (by rfl) b_abs (by decide +kernel) (pa_cons (pv 1) pa_nil)) pa_nil)) (by rfl))
    (pss_cons (ps_while PassesOwn.never (pt_cmpR op_ne (pv 1) pe_int (nomark _)) (pss_one (ps_par (i := 0) (j := 1) (by rfl) sc_law_common.nd rfl rfl (by decide) rfl rfl (pa_cons (pv 1) (pa_cons (pe_op op_mod (pv 0) (pv 1)) pa_nil)) (by rfl))))
    (pss_one (ps_ret (pv 0))))), ?_⟩
  try dsimp only [cxOf]
  refine pure_body h (fun ds hl hp e hn hz => ?_)
  obtain ⟨a, b, rfl⟩ := hp
  show wS _ _ [some (.d (.int a)), some (.d (.int b))] _
  repeat' walk_at "dq"
  refine wS_while (fun m y => ∃ u v : Int, y = [some (.d (.int u)), some (.d (.int v))] ∧ 0 ≤ u ∧ 0 ≤ v ∧ gcdI u v = gcdI a b ∧ m = v.toNat) ⟨_, _, _, rfl, by split <;> omega, by split <;> omega, gcd_abs a b, rfl⟩ ?_
  rintro m y ⟨u, v, rfl, hu, hv, hg, rfl⟩
  repeat' walk_at "dq"
  refine ite2 (fun e1 => ?_) (fun e1 => ?_)
  · have hv0 : v ≠ 0 := fun z => by rw [z] at e1; exact absurd e1 (by decide)
    have hv1 : 0 < v := by omega
    have h1 := Int.emod_nonneg u hv0
    have h2 := Int.emod_lt_of_pos u hv1
    repeat' walk_at "dq"
    refine ⟨_, ?_, _, _, rfl, hv, h1, (gcd_turn hu hv1).trans hg, rfl⟩
    omega
  · have hv0 : v = 0 := by
      by_cases z : v = 0
      · exact z
      · exact absurd (show (!eqS (.int v) (.int 0)) = true by simp [eqS, z]) e1
    subst hv0
    repeat' walk_at "dq"
    refine hz _ _ ?_
    show PyData.int u = .int (gcdI a b)
    rw [← hg, gcd_zero hu]
abbrev s_law_made : Stmt := topS 21
abbrev N_law_made : List Str := ["_law_top", "_law_bottom", "_law_by"]
theorem sc_law_made : FnScope N_law_made ["_law_top", "_law_bottom"] (defScope s_law_made) := ⟨rfl, rfl, rfl, by decide +kernel, rfl, by decide +kernel, by decide +kernel⟩
theorem ok_law_made (d : Df K mg "_law_made" s_law_made ["_law_top", "_law_bottom"]) (c_law_common : Cal P w K mg base 1 "_law_common" ["_law_one", "_law_other"] (sp_law_common K)) : Cal P w K mg base 2 "_law_made" ["_law_top", "_law_bottom"] (sp_law_made K) := by
  refine d.ok sc_law_made (pureSp_len rfl) (fun f cdv A outer s H vs Q E hr hgu h => ?_)
  refine ⟨_, (pss_cons (ps_set (i := 2) sc_law_made.nd rfl (Or.inl rfl) (pe_cal c_law_common (hr.mono (by decide)) hgu (by rfl) (pa_cons (pv 0) (pa_cons (pv 1) pa_nil))))
    (pss_cons (ps_if (pt_cmpR op_lt (pv 1) pe_int (nomark _)) (pss_one (ps_set (i := 2) sc_law_made.nd rfl (Or.inl rfl) (pe_op op_sub pe_int (pv 2)))) pss_nil)
    (pss_one (ps_ret (pe_tup (pa_cons (pe_op op_fdivW (pv 0) (pv 2)) (pa_cons (pe_op op_fdivW (pv 1) (pv 2)) pa_nil))))))), ?_⟩
  try dsimp only [cxOf]
  refine pure_body h (fun ds hl hp e hn hz => ?_)
  obtain ⟨t, b, rfl, hb, bt, bb⟩ := hp
  show wS _ _ [some (.d (.int t)), some (.d (.int b)), none] _
  obtain ⟨g0, g1, g2⟩ := gcd_cut (t := t) hb
  have g3 := gcd_le (a := t) hb
  repeat' walk_at "dq"
  rw [decide_eq_false (show ¬ b < 0 by omega)]
  have bg : Bd 63 (gcdI t b) := by unfold Bd at *; omega
  repeat' walk_at "dq"
  exact hz _ _ ⟨_, _, rfl, g1, g2, bt.div g0, bb.div g0⟩
abbrev s_law_digits : Stmt := topS 22
abbrev N_law_digits : List Str := ["_law_purse_here", "_law_figures", "_law_found", "_law_k"]
theorem sc_law_digits : FnScope N_law_digits ["_law_purse_here", "_law_figures"] (defScope s_law_digits) := ⟨rfl, rfl, rfl, by decide +kernel, rfl, by decide +kernel, by decide +kernel⟩
theorem ok_law_digits (d : Df K mg "_law_digits" s_law_digits ["_law_purse_here", "_law_figures"]) (c_law_take : Cal P w K mg base 1 "_law_take" ["_law_purse_here", "_law_many"] (sp_law_take K)) (b_range : mg "range" = none) : Cal P w K mg base 2 "_law_digits" ["_law_purse_here", "_law_figures"] (sp_law_digits K) := by
  refine d.ok sc_law_digits (puSp_len rfl) (fun f cdv A outer s H vs Q E hr hgu h => ?_)
  refine ⟨_, (pss_cons (ps_set (i := 2) sc_law_digits.nd rfl (Or.inl rfl) pe_int)
    (pss_cons (ps_for PassesOwn.never rfl (pi_range1 (by rfl) b_range (pa_cons (pv 1) pa_nil)) (pg_name (i := 3) sc_law_digits.nd rfl (Or.inl rfl)) (pss_one (ps_set (i := 2) sc_law_digits.nd rfl (Or.inl rfl) (pe_op op_add (pe_op op_mulW pe_int (pv 2)) (pe_cal c_law_take (hr.mono (by decide)) hgu (by rfl) (pa_cons (pv 0) (pa_cons pe_int pa_nil)))))))
    (pss_one (ps_ret (pv 2))))), ?_⟩
  try dsimp only [cxOf]
  refine pu_body h (fun ds m hl hp hc e hn hz => ?_)
  obtain ⟨n, rfl, n0, n1⟩ := hp
  have hc : 30 ≤ m := hc
  show wS _ _ [some (.pu m), some (.d (.int n)), none, none] _
  repeat' walk_at "dq"
  refine wS_for ?_
  repeat' walk_at "dq"
  try dsimp only [List.set]
  refine forJ (fun i y => ∃ x : Int, 0 ≤ x ∧ x < 10 ^ i ∧ y = [some (.pu (m - i)), some (.d (.int n)), some (.d (.int x)), none]) (by decide) ⟨_, ⟨0, by omega, by decide, rfl⟩, by walk_at "less"⟩ ?_ ?_
  · rintro i x y' hx ⟨v, v0, v1, rfl⟩
    obtain ⟨hi2, rfl⟩ := rangeD_get hx
    have hv : Bd 30 v := by
      have : v.natAbs < 10 ^ i := by
        have e : ((10 ^ i : Nat) : Int) = (10 : Int) ^ i := by norm_cast
        omega
      exact Nat.lt_of_lt_of_le this (Nat.pow_le_pow_right (by decide) (by omega))
    repeat' walk_at "dq"
    rename_i r r0 r1
    show ∃ y', (∃ x, _) ∧ Less y' _
    dsimp only [List.set]
    have e : (10 : Int) ^ (i + 1) = 10 ^ i * 10 := Int.pow_succ _ _
    refine ⟨_, ⟨10 * v + r, by omega, by omega, rfl⟩, ?_⟩
    rw [show m - (i + 1) = m - i - 1 by omega]
    walk_at "less"
  · rintro y2 y' ⟨v, v0, v1, rfl⟩ l
    rw [rangeD_len] at v1 l
    refine wS_weak ?_ l
    repeat' walk_at "dq"
    refine hz _ _ _ ⟨_, rfl, v0, Int.lt_of_lt_of_le v1 ?_⟩ rfl (by show m - 30 ≤ _; omega)
    exact_mod_cast Nat.pow_le_pow_right (show 0 < 10 by decide) (show n.toNat ≤ 30 by omega)
abbrev s_law_fraction : Stmt := topS 23
abbrev N_law_fraction : List Str := ["_law_purse_here", "_law_way", "_law_top", "_law_bottom", "_law_many", "_law_great", "_law_k", "_law_whole"]
theorem sc_law_fraction : FnScope N_law_fraction ["_law_purse_here"] (defScope s_law_fraction) := ⟨rfl, rfl, rfl, by decide +kernel, rfl, by decide +kernel, by decide +kernel⟩
theorem ok_law_fraction (d : Df K mg "_law_fraction" s_law_fraction ["_law_purse_here"]) (c_law_take : Cal P w K mg base 1 "_law_take" ["_law_purse_here", "_law_many"] (sp_law_take K)) (c_law_made : Cal P w K mg base 2 "_law_made" ["_law_top", "_law_bottom"] (sp_law_made K)) (c_law_digits : Cal P w K mg base 2 "_law_digits" ["_law_purse_here", "_law_figures"] (sp_law_digits K)) (b_abs : mg "abs" = none) (b_max : mg "max" = none) (b_range : mg "range" = none) : Cal P w K mg base 3 "_law_fraction" ["_law_purse_here"] (sp_law_fraction K) := by
  refine d.ok sc_law_fraction (puSp_len rfl) (fun f cdv A outer s H vs Q E hr hgu h => ?_)
  refine ⟨_, (pss_cons (ps_set (i := 1) sc_law_fraction.nd rfl (Or.inl rfl) (pe_cal c_law_take (hr.mono (by decide)) hgu (by rfl) (pa_cons (pv 0) (pa_cons pe_int pa_nil))))
    (pss_cons (ps_if (pt_cmpR op_lt (pv 1) pe_int (nomark _)) (pss_cons (ps_set (i := 2) sc_law_fraction.nd rfl (Or.inl rfl) (pe_cal c_law_digits (hr.mono (by decide)) hgu (by rfl) (pa_cons (pv 0) (pa_cons (pe_ix (ixK K) (pe_lst (pa_cons pe_int (pa_cons pe_int pa_nil))) (pv 1) (fun _ _ => rfl)) pa_nil))))
    (pss_cons (ps_set (i := 3) sc_law_fraction.nd rfl (Or.inl rfl) (pe_op op_add pe_int (pe_op op_mod (pe_cal c_law_digits (hr.mono (by decide)) hgu (by rfl) (pa_cons (pv 0) (pa_cons (pe_ix (ixK K) (pe_lst (pa_cons pe_int (pa_cons pe_int pa_nil))) (pe_cal c_law_take (hr.mono (by decide)) hgu (by rfl) (pa_cons (pv 0) (pa_cons pe_int pa_nil))) (fun _ _ => rfl)) pa_nil))) (pe_op op_sub (pe_op op_pow pe_int pe_int) pe_int))))
    (pss_one (ps_ret (pe_cal c_law_made (hr.mono (by decide)) hgu (by rfl) (pa_cons (pe_op op_mulW (pv 2) (pe_op op_sub pe_int (pe_op op_mulW pe_int (pe_cal c_law_take (hr.mono (by decide)) hgu (by rfl) (pa_cons (pv 0) (pa_cons pe_int pa_nil)))))) (pa_cons (pv 3) pa_nil))))))) pss_nil)
    (pss_cons (ps_asg (pe_tup (pa_cons pe_int (pa_cons pe_int pa_nil))) (pgT K rfl (pgs_cons (pg_name (i := 2) sc_law_fraction.nd rfl (Or.inl rfl)) (pgs_cons (pg_name (i := 3) sc_law_fraction.nd rfl (Or.inl rfl)) pgs_nil))))
    (pss_cons (ps_set (i := 4) sc_law_fraction.nd rfl (Or.inl rfl) (pe_op op_add pe_int (pe_cal c_law_take (hr.mono (by decide)) hgu (by rfl) (pa_cons (pv 0) (pa_cons pe_int pa_nil)))))
    (pss_cons (ps_set (i := 5) sc_law_fraction.nd rfl (Or.inl rfl) (pe_ix (ixK K) (pe_lst (pa_cons pe_int (pa_cons pe_int (pa_cons pe_int (pa_cons pe_int pa_nil))))) (pe_cal c_law_take (hr.mono (by decide)) hgu (by rfl) (pa_cons (pv 0) (pa_cons pe_int pa_nil))) (fun _ _ => rfl)))
    (pss_cons (ps_for PassesOwn.never rfl (pi_range1 (by rfl) b_range (pa_cons (pv 4) pa_nil)) (pg_name (i := 6) sc_law_fraction.nd rfl (Or.inl rfl)) (pss_one (ps_if (pt_cmpR op_lt (pe_callB (call_max2 rfl) (by rfl) b_max (by decide +kernel) (pa_cons (pe_callB call_abs (by rfl) b_abs (by decide +kernel) (pa_cons (pv 2) pa_nil)) (pa_cons (pv 3) pa_nil))) (pe_op op_pow pe_int pe_int) (nomark _)) (pss_one (ps_par (i := 2) (j := 3) (by rfl) sc_law_fraction.nd rfl rfl (by decide) rfl rfl (pa_cons (pe_op op_add (pe_op op_mulW (pv 2) (pe_op op_add pe_int (pe_cal c_law_take (hr.mono (by decide)) hgu (by rfl) (pa_cons (pv 0) (pa_cons (pv 5) pa_nil))))) (pv 3)) (pa_cons (pv 2) pa_nil)) (by rfl))) pss_nil)))
    (pss_cons (ps_set (i := 7) sc_law_fraction.nd rfl (Or.inl rfl) (pe_op op_sub (pe_cal c_law_take (hr.mono (by decide)) hgu (by rfl) (pa_cons (pv 0) (pa_cons pe_int pa_nil))) pe_int))
    (pss_one (ps_ret (pe_cal c_law_made (hr.mono (by decide)) hgu (by rfl) (pa_cons (pe_op op_add (pe_op op_mulW (pv 7) (pv 2)) (pv 3)) (pa_cons (pv 2) pa_nil)))))))))))), ?_⟩
  try dsimp only [cxOf]
  refine pu_body h (fun ds m hl hp hc e hn hz => ?_)
  obtain rfl := len0 hl
  have hc : 200 ≤ m := hc
  show wS _ _ [some (.pu m), none, none, none, none, none, none, none] _
  repeat' walk_at "dq"
  rename_i w w0 w1
  refine ite2 (fun e1 => ?_) (fun e1 => ?_)
  · have e1 := of_decide_eq_true e1
    repeat' walk_at "dq"
    obtain ⟨x, hx, hm⟩ := atI_mem (xs := ([PyData.int 30, PyData.int 12] : List D)) w0 (by show w < 2; omega)
    obtain ⟨n, rfl, n0, n1⟩ : ∃ n : Int, x = .int n ∧ 0 ≤ n ∧ n ≤ 30 := by
      simp only [List.mem_cons, List.not_mem_nil, or_false] at hm
      rcases hm with rfl | rfl <;> exact ⟨_, rfl, by decide, by decide⟩
    refine ⟨_, _, _, rfl, rfl, hx, ?_⟩
    repeat' walk_at "dq"
    refine ⟨⟨n, rfl, n0, n1⟩, by omega, ?_⟩
    rintro _ ⟨t, rfl, t0, t1⟩
    repeat' walk_at "dq"
    rename_i r2 r20 r21
    obtain ⟨x, hx, hm⟩ := atI_mem (xs := ([PyData.int 30, PyData.int 8] : List D)) r20 r21
    obtain ⟨n, rfl, n0, n1⟩ : ∃ n : Int, x = .int n ∧ 0 ≤ n ∧ n ≤ 30 := by
      simp only [List.mem_cons, List.not_mem_nil, or_false] at hm
      rcases hm with rfl | rfl <;> exact ⟨_, rfl, by decide, by decide⟩
    refine ⟨_, _, _, rfl, rfl, hx, ?_⟩
    repeat' walk_at "dq"
    refine ⟨⟨n, rfl, n0, n1⟩, by omega, ?_⟩
    rintro _ ⟨b, rfl, b0, b1⟩
    have hbm0 := Int.emod_nonneg b (show (10 : Int) ^ 30 - 1 ≠ 0 by decide)
    have hbm1 := Int.emod_lt_of_pos b (show 0 < (10 : Int) ^ 30 - 1 by decide)
    generalize b % (10 ^ 30 - 1) = bm at hbm0 hbm1 ⊢
    repeat' walk_at "dq"
    rename_i sg sg0 sg1
    have bt : Bd 30 t := by unfold Bd; omega
    refine ⟨⟨_, _, rfl, by omega, ?_, by unfold Bd; omega⟩, fun d hd => hz _ _ _ hd rfl ?_⟩
    · exact (bt.mul (show Bd 2 (1 - 2 * sg) by unfold Bd; omega)).mono (by decide)
    · show m - 200 ≤ _; omega
  · repeat' walk_at "dq"
    rename_i mn mn0 mn1 r2 r20 r21
    obtain ⟨x, hx, hm⟩ := atI_mem (xs := ([PyData.int 2, PyData.int 3, PyData.int 9, PyData.int 1000] : List D)) r20 r21
    obtain ⟨gr, rfl, gr0, gr1⟩ : ∃ n : Int, x = .int n ∧ 1 ≤ n ∧ n ≤ 1000 := by
      simp only [List.mem_cons, List.not_mem_nil, or_false] at hm
      rcases hm with rfl | rfl | rfl | rfl <;> exact ⟨_, rfl, by decide, by decide⟩
    refine ⟨_, _, _, rfl, rfl, hx, _, rfl, wS_seq (wS_for ?_)⟩
    repeat' walk_at "dq"
    try dsimp only [List.set]
    refine forJ (fun i y => ∃ (t b : Int) (k : Nat), 1 ≤ t ∧ 0 ≤ b ∧ t < 10 ^ 30 ∧ b < 10 ^ 30 ∧ m - 3 - i ≤ k ∧ k ≤ m ∧ y = [some (.pu k), some (.d (.int w)), some (.d (.int t)), some (.d (.int b)), some (.d (.int (1 + mn))), some (.d (.int gr)), none, none]) (by decide) ⟨_, ⟨1, 0, _, by omega, by omega, by omega, by omega, ?_, ?_, rfl⟩, by walk_at "less"⟩ ?_ ?_
    · omega
    · omega
    · rintro i x y' hx ⟨t, b, k, t0, b0, t1, b1, hk, hkm, rfl⟩
      obtain ⟨hi2, rfl⟩ := rangeD_get hx
      repeat' walk_at "dq"
      refine ite2 (fun e2 => ?_) (fun e2 => ?_)
      · have e2 := of_decide_eq_true e2
        rw [show (if t < 0 then -t else t) = t from if_neg (by omega)] at e2
        have t2 : t < 10 ^ 26 := by split at e2 <;> omega
        have b2 : b < 10 ^ 26 := by split at e2 <;> omega
        repeat' walk_at "dq"
        rename_i r r0 r1
        show ∃ y', (∃ t b k, _) ∧ Less y' _
        have k1 : t ≤ t * (1 + r) := le_mul (by omega) (by omega)
        have k2 : t * (1 + r) ≤ 10 ^ 26 * 1001 := Int.mul_le_mul (by omega) (by omega) (by omega) (by decide)
        try dsimp only [List.set]
        exact ⟨_, ⟨t * (1 + r) + b, t, k - 1, by omega, by omega, by omega, by omega, by omega, by omega, rfl⟩, by walk_at "less"⟩
      · repeat' walk_at "dq"
        exact ⟨_, ⟨t, b, k, by omega, by omega, by omega, by omega, by omega, by omega, rfl⟩, by walk_at "less"⟩
    · rintro y2 y' ⟨t, b, k, t0, b0, t1, b1, hk, hkm, rfl⟩ l
      rw [rangeD_len] at hk
      refine wS_weak ?_ l
      repeat' walk_at "dq"
      rename_i r r0 r1
      have bt : Bd 30 t := by unfold Bd; omega
      have bb : Bd 30 b := by unfold Bd; omega
      have br : Bd 1 (r - 4) := by unfold Bd; omega
      refine ⟨⟨_, _, rfl, by omega, ((br.mul bt).add bb).mono (by decide), bt.mono (by decide)⟩, fun d hd => hz _ _ _ hd rfl ?_⟩
      show m - 200 ≤ _; omega
abbrev s_law_bound : Stmt := topS 24
abbrev N_law_bound : List Str := ["_law_purse_here", "_law_fraction_here", "_law_way"]
theorem sc_law_bound : FnScope N_law_bound ["_law_purse_here", "_law_fraction_here"] (defScope s_law_bound) := ⟨rfl, rfl, rfl, by decide +kernel, rfl, by decide +kernel, by decide +kernel⟩
theorem ok_law_bound (d : Df K mg "_law_bound" s_law_bound ["_law_purse_here", "_law_fraction_here"]) (c_law_take : Cal P w K mg base 1 "_law_take" ["_law_purse_here", "_law_many"] (sp_law_take K)) (c_law_digits : Cal P w K mg base 2 "_law_digits" ["_law_purse_here", "_law_figures"] (sp_law_digits K)) (b_max : mg "max" = none) (b_min : mg "min" = none) : Cal P w K mg base 3 "_law_bound" ["_law_purse_here", "_law_fraction_here"] (sp_law_bound K) := by
  refine d.ok sc_law_bound (puSp_len rfl) (fun f cdv A outer s H vs Q E hr hgu h => ?_)
  refine ⟨_, (pss_cons (ps_set (i := 2) sc_law_bound.nd rfl (Or.inl rfl) (pe_cal c_law_take (hr.mono (by decide)) hgu (by rfl) (pa_cons (pv 0) (pa_cons pe_int pa_nil))))
    (pss_cons (ps_if (pt_cmpR op_eq (pv 2) pe_int (nomark _)) (pss_one (ps_ret (pe_callB (call_max2 rfl) (by rfl) b_max (by decide +kernel) (pa_cons pe_int (pa_cons (pe_callB (call_min2 rfl) (by rfl) b_min (by decide +kernel) (pa_cons (pe_op op_sub (pe_op op_pow pe_int pe_int) pe_int) (pa_cons (pe_op op_add (pe_op op_sub (pe_ix (ixK K) (pv 1) pe_int (fun _ _ => rfl)) pe_int) (pe_cal c_law_take (hr.mono (by decide)) hgu (by rfl) (pa_cons (pv 0) (pa_cons pe_int pa_nil)))) pa_nil))) pa_nil))))) pss_nil)
    (pss_cons (ps_if (pt_cmpR op_eq (pv 2) pe_int (nomark _)) (pss_one (ps_ret (pe_op op_add pe_int (pe_cal c_law_take (hr.mono (by decide)) hgu (by rfl) (pa_cons (pv 0) (pa_cons pe_int pa_nil)))))) pss_nil)
    (pss_one (ps_ret (pe_op op_add pe_int (pe_op op_mod (pe_cal c_law_digits (hr.mono (by decide)) hgu (by rfl) (pa_cons (pv 0) (pa_cons (pe_ix (ixK K) (pe_lst (pa_cons pe_int (pa_cons pe_int pa_nil))) (pe_op op_sub (pv 2) pe_int) (fun _ _ => rfl)) pa_nil))) (pe_op op_sub (pe_op op_pow pe_int pe_int) pe_int)))))))), ?_⟩
  try dsimp only [cxOf]
  refine pu_body h (fun ds m hl hp hc e hn hz => ?_)
  obtain ⟨_, rfl, p, q, rfl, q1, g, bp, bq⟩ := hp
  have hc : 40 ≤ m := hc
  show wS _ _ [some (.pu m), some (.d (fr p q)), none] _
  repeat' walk_at "dq"
  rename_i w w0 w1
  obtain rfl | rfl | rfl | rfl : w = 0 ∨ w = 1 ∨ w = 2 ∨ w = 3 := by omega
  all_goals repeat' walk_at "dq"
  · rename_i r r0 r1
    refine hz _ _ _ ⟨_, rfl, ?_, ?_⟩ rfl (by show m - 40 ≤ _; omega)
    · split <;> omega
    · unfold Bd
      split
      · split <;> omega
      · omega
  · rename_i r r0 r1
    refine hz _ _ _ ⟨_, rfl, by omega, by unfold Bd; omega⟩ rfl (by show m - 40 ≤ _; omega)
  all_goals refine ⟨⟨_, rfl, by decide, by decide⟩, by omega, ?_⟩
  all_goals rintro _ ⟨b, rfl, b0, b1⟩
  all_goals have hbm0 := Int.emod_nonneg b (show (10 : Int) ^ 30 - 1 ≠ 0 by decide)
  all_goals have hbm1 := Int.emod_lt_of_pos b (show 0 < (10 : Int) ^ 30 - 1 by decide)
  all_goals repeat' walk_at "dq"
  all_goals refine hz _ _ _ ⟨_, rfl, by omega, by unfold Bd; omega⟩ rfl (by show m - 40 ≤ _; omega)
abbrev s_law_is_fraction : Stmt := topS 25
abbrev N_law_is_fraction : List Str := ["_law_thing", "_law_part"]
theorem sc_law_is_fraction : FnScope N_law_is_fraction ["_law_thing"] (defScope s_law_is_fraction) := ⟨rfl, rfl, rfl, by decide +kernel, rfl, by decide +kernel, by decide +kernel⟩
theorem ok_law_is_fraction (d : Df K mg "_law_is_fraction" s_law_is_fraction ["_law_thing"]) (c_law_common : Cal P w K mg base 1 "_law_common" ["_law_one", "_law_other"] (sp_law_common K)) (b_all : mg "all" = none) (b_bool : mg "bool" = none) (b_int : mg "int" = none) (b_isinstance : mg "isinstance" = none) (b_len : mg "len" = none) (b_tuple : mg "tuple" = none) : Cal P w K mg base 2 "_law_is_fraction" ["_law_thing"] (sp_law_is_fraction15 K) := by
  refine d.ok sc_law_is_fraction (pureSp_len rfl) (fun f cdv A outer s H vs Q E hr hgu h => ?_)
  refine ⟨_, (pss_cons (ps_if (PW.pt (pw_or (pt_not (pt_val (pe_callB (isiK K) (by rfl) b_isinstance (by decide +kernel) (pa_cons (pv 0) (pa_cons (pe_bltn (v := .ty "tuple") (by rfl) b_tuple (by decide +kernel) rfl) pa_nil))))) (pw_or1 (pt_cmpR op_ne (pe_callB (lenK K) (by rfl) b_len (by decide +kernel) (pa_cons (pv 0) pa_nil)) pe_int (nomark _))))) (pss_one (ps_ret pe_bl)) pss_nil)
    (pss_cons (ps_if (pt_not (pt_val (pe_callB (allK K rfl) (by rfl) b_all (by decide +kernel) (pa_cons (pe_lc (own := [("_law_part", 1)]) (g := gName 1) rfl sc_law_is_fraction.nd (piA K (pv 0)) (blkOk_by (own := [("_law_part", 1)]) (N := N_law_is_fraction) (sc := defScope s_law_is_fraction) (by decide +kernel)) (fun _ _ _ _ _ => (pg_name (i := 1) sc_law_is_fraction.nd rfl (Or.inl rfl))) (fun _ _ _ _ _ => pts_nil) (fun _ _ _ _ _ => (pe_and (pe_callB (isiK K) (by rfl) b_isinstance (by decide +kernel) (pa_cons (pv 1) (pa_cons (pe_bltn (v := .ty "int") (by rfl) b_int (by decide +kernel) rfl) pa_nil))) (pe_one (pe_not (pe_callB (isiK K) (by rfl) b_isinstance (by decide +kernel) (pa_cons (pv 1) (pa_cons (pe_bltn (v := .ty "bool") (by rfl) b_bool (by decide +kernel) rfl) pa_nil)))))))) pa_nil)))) (pss_one (ps_ret pe_bl)) pss_nil)
    (pss_one (ps_ret (pe_and (pe_cmpR op_gt (pe_ix (ixK K) (pv 0) pe_int (fun _ _ => rfl)) pe_int (nomark _)) (pe_one (pe_cmpR op_eq (pe_cal c_law_common (hr.mono (by decide)) hgu (by rfl) (pa_cons (pe_ix (ixK K) (pv 0) pe_int (fun _ _ => rfl)) (pa_cons (pe_ix (ixK K) (pv 0) pe_int (fun _ _ => rfl)) pa_nil))) pe_int (nomark _)))))))), ?_⟩
  try dsimp only [cxOf]
  refine pure_body h (fun ds hl hp e hn hz => ?_)
  obtain ⟨a, b, rfl⟩ := hp
  show wS _ _ [some (.d (fr a b)), none] _
  repeat' walk_at "dq"
  refine wE_lcF (y' := [some (.d (fr a b)), none]) (fun _ => true) (fun _ => .bool true) rfl ?_
  repeat' walk_at "dq"
  refine ⟨fun x hx => ?_, ?_⟩
  · have hx : x ∈ [PyData.int a, PyData.int b] := hx
    simp only [List.mem_cons, List.not_mem_nil, or_false] at hx
    rcases hx with rfl | rfl
    all_goals repeat' (first | walk_at "dq" | rfl)
    all_goals intro _
    all_goals repeat' (first | walk_at "dq" | rfl)
  · refine ⟨_, rfl, wD_nil ⟨[true, true], rfl, ?_⟩⟩
    repeat' walk_at "dq"
    refine ite2 (fun b1 => ?_) (fun b1 => ?_)
    · repeat' walk_at "dq"
      refine hz _ _ ?_
      show PyData.bool (decide (gcdI a b = 1)) = .bool (decide (1 ≤ b) && decide (gcdI a b = 1))
      rw [show decide (1 ≤ b) = true from b1]; rfl
    · refine hz _ _ ?_
      show PyData.bool false = .bool (decide (1 ≤ b) && decide (gcdI a b = 1))
      rw [show decide (1 ≤ b) = false from Bool.eq_false_iff.mpr b1]; rfl
abbrev s_law_gap : Stmt := topS 26
abbrev N_law_gap : List Str := ["_law_low", "_law_high"]
theorem sc_law_gap : FnScope N_law_gap ["_law_low", "_law_high"] (defScope s_law_gap) := ⟨rfl, rfl, rfl, by decide +kernel, rfl, by decide +kernel, by decide +kernel⟩
theorem ok_law_gap (d : Df K mg "_law_gap" s_law_gap ["_law_low", "_law_high"])  : Cal P w K mg base 1 "_law_gap" ["_law_low", "_law_high"] (sp_law_gap K) := by
  refine d.ok sc_law_gap (pureSp_len rfl) (fun f cdv A outer s H vs Q E hr hgu h => ?_)
  refine ⟨_, (pss_one (ps_ret (pe_op op_sub (pe_op op_mulW (pe_ix (ixK K) (pv 1) pe_int (fun _ _ => rfl)) (pe_ix (ixK K) (pv 0) pe_int (fun _ _ => rfl))) (pe_op op_mulW (pe_ix (ixK K) (pv 0) pe_int (fun _ _ => rfl)) (pe_ix (ixK K) (pv 1) pe_int (fun _ _ => rfl)))))), ?_⟩
  try dsimp only [cxOf]
  refine pure_body h (fun ds hl hp e hn hz => ?_)
  obtain ⟨a, b, c, d, rfl, ba, bb, bc, bd⟩ := hp
  show wS _ _ [some (.d (fr a b)), some (.d (fr c d))] _
  repeat' walk_at "dq"
  exact hz _ _ rfl
abbrev s_law_shown : Stmt := topS 27
abbrev N_law_shown : List Str := ["_law_found", "_law_fraction_here", "_law_bound_here", "_law_low", "_law_high", "_law_one"]
theorem sc_law_shown : FnScope N_law_shown ["_law_found", "_law_fraction_here", "_law_bound_here"] (defScope s_law_shown) := ⟨rfl, rfl, rfl, by decide +kernel, rfl, by decide +kernel, by decide +kernel⟩
theorem ok_law_shown (d : Df K mg "_law_shown" s_law_shown ["_law_found", "_law_fraction_here", "_law_bound_here"]) (c_law_is_fraction : Cal P w K mg base 2 "_law_is_fraction" ["_law_thing"] (sp_law_is_fraction15 K)) (c_law_gap : Cal P w K mg base 1 "_law_gap" ["_law_low", "_law_high"] (sp_law_gap K)) (b_all : mg "all" = none) (b_isinstance : mg "isinstance" = none) (b_len : mg "len" = none) (b_tuple : mg "tuple" = none) : Cal P w K mg base 3 "_law_shown" ["_law_found", "_law_fraction_here", "_law_bound_here"] (sp_law_shown K) := by
  refine d.ok sc_law_shown (pureSp_len rfl) (fun f cdv A outer s H vs Q E hr hgu h => ?_)
  refine ⟨_, (pss_cons (ps_if (PW.pt (pw_or (pt_not (pt_val (pe_callB (isiK K) (by rfl) b_isinstance (by decide +kernel) (pa_cons (pv 0) (pa_cons (pe_bltn (v := .ty "tuple") (by rfl) b_tuple (by decide +kernel) rfl) pa_nil))))) (pw_or (pt_cmpR op_ne (pe_callB (lenK K) (by rfl) b_len (by decide +kernel) (pa_cons (pv 0) pa_nil)) pe_int (nomark _)) (pw_or1 (pt_not (pt_val (pe_callB (allK K rfl) (by rfl) b_all (by decide +kernel) (pa_cons (pe_lc (own := [("_law_one", 5)]) (g := gName 5) rfl sc_law_shown.nd (piA K (pv 0)) (blkOk_by (own := [("_law_one", 5)]) (N := N_law_shown) (sc := defScope s_law_shown) (by decide +kernel)) (fun _ _ _ _ _ => (pg_name (i := 5) sc_law_shown.nd rfl (Or.inl rfl))) (fun _ _ _ _ _ => pts_nil) (fun _ _ _ _ _ => (pe_cal c_law_is_fraction (hr.mono (by decide)) hgu (by rfl) (pa_cons (pv 5) pa_nil)))) pa_nil)))))))) (pss_one (ps_ret pe_bl)) pss_nil)
    (pss_cons (ps_asg (pv 0) (pgT K rfl (pgs_cons (pg_name (i := 3) sc_law_shown.nd rfl (Or.inl rfl)) (pgs_cons (pg_name (i := 4) sc_law_shown.nd rfl (Or.inl rfl)) pgs_nil))))
    (pss_cons (ps_if (pt_cmpR op_le (pe_ix (ixK K) (pv 1) pe_int (fun _ _ => rfl)) (pv 2) (nomark _)) (pss_one (ps_ret (pe_and (pe_cmpR (eqK K hr.units) (pv 3) (pv 1) (nomark _)) (pe_one (pe_cmpR (eqK K hr.units) (pv 4) (pv 1) (nomark _)))))) pss_nil)
    (pss_cons (ps_if (PW.pt (pw_or (pt_cmpR op_gt (pe_ix (ixK K) (pv 3) pe_int (fun _ _ => rfl)) (pv 2) (nomark _)) (pw_or (pt_cmpR op_gt (pe_ix (ixK K) (pv 4) pe_int (fun _ _ => rfl)) (pv 2) (nomark _)) (pw_or1 (pt_cmpR op_le (pe_op op_add (pe_ix (ixK K) (pv 3) pe_int (fun _ _ => rfl)) (pe_ix (ixK K) (pv 4) pe_int (fun _ _ => rfl))) (pv 2) (nomark _)))))) (pss_one (ps_ret pe_bl)) pss_nil)
    (pss_one (ps_ret (pe_and (pe_cmpR op_gt (pe_cal c_law_gap (hr.mono (by decide)) hgu (by rfl) (pa_cons (pv 3) (pa_cons (pv 1) pa_nil))) pe_int (nomark _)) (pe_and (pe_cmpR op_gt (pe_cal c_law_gap (hr.mono (by decide)) hgu (by rfl) (pa_cons (pv 1) (pa_cons (pv 4) pa_nil))) pe_int (nomark _)) (pe_one (pe_cmpR op_eq (pe_cal c_law_gap (hr.mono (by decide)) hgu (by rfl) (pa_cons (pv 3) (pa_cons (pv 4) pa_nil))) pe_int (nomark _))))))))))), ?_⟩
  try dsimp only [cxOf]
  refine pure_body h (fun ds hl hp e hn hz => ?_)
  obtain ⟨p, q, N, r, rfl, hf, hr⟩ := hp
  obtain ⟨a, b, c, d, rfl, ba, bb, bc, bd⟩ := hr.bd hf
  have bp : Bd 900 p := hf.bp.mono (by decide)
  have bq : Bd 900 q := hf.bq.mono (by decide)
  have q1 := hf.q1
  have hA : (1 ≤ b ∧ gcdI a b = 1) ∧ (1 ≤ d ∧ gcdI c d = 1) := by
    rcases hr with ⟨_, e⟩ | ⟨_, a', b', c', d', n, e⟩
    · cases e; exact ⟨⟨q1, hf.g⟩, ⟨q1, hf.g⟩⟩
    · cases e; exact ⟨⟨n.b1, gcd_one n.one⟩, ⟨n.d1, n.gcd2⟩⟩
  show wS _ _ [some (.d (.tuple [fr a b, fr c d])), some (.d (fr p q)), some (.d (.int N)), none, none, none] _
  repeat' walk_at "dq"
  refine wE_lcF (y' := [some (.d (.tuple [fr a b, fr c d])), some (.d (fr p q)), some (.d (.int N)), none, none, none]) (fun _ => true) (fun _ => .bool true) rfl ?_
  repeat' walk_at "dq"
  refine ⟨fun x hx => ?_, ?_⟩
  · have hx : x ∈ [fr a b, fr c d] := hx
    simp only [List.mem_cons, List.not_mem_nil, or_false] at hx
    have hx2 : ∃ u v, x = fr u v ∧ fracB (fr u v) = true := by
      rcases hx with rfl | rfl
      · exact ⟨_, _, rfl, fracB_fr hA.1.1 hA.1.2⟩
      · exact ⟨_, _, rfl, fracB_fr hA.2.1 hA.2.2⟩
    obtain ⟨u, v, rfl, hv⟩ := hx2
    repeat' (first | walk_at "dq" | rfl)
    intro _
    repeat' (first | walk_at "dq" | rfl)
    · exact ⟨by rw [show fracB (a0 [fr u v]) = true from hv], rfl⟩
  · refine ⟨_, rfl, wD_nil ⟨[true, true], rfl, ?_⟩⟩
    repeat' walk_at "dq"
    rcases hr with ⟨h1, e1⟩ | ⟨h1, a', b', c', d', n, e1⟩
    · cases e1
      rw [decide_eq_true h1]
      repeat' walk_at "dq"
      rw [eqv_fr]
      repeat' walk_at "dq"
      rw [eqv_fr]
      exact hz _ _ rfl
    · cases e1
      have hX := n.lo
      have hY := n.hi
      have hO := n.one
      have := n.bN
      have := n.dN
      have := n.ov
      rw [decide_eq_false (show ¬ q ≤ N by omega)]
      repeat' walk_at "dq"
      rw [decide_eq_false (show ¬ N < b by omega)]
      repeat' walk_at "dq"
      rw [decide_eq_false (show ¬ N < d by omega)]
      repeat' walk_at "dq"
      rw [decide_eq_false (show ¬ b + d ≤ N by omega)]
      repeat' walk_at "dq"
      refine ⟨⟨rfl, _, _, _, _, rfl, ba, bb, bp, bq⟩, ?_⟩
      repeat' walk_at "dq"
      rw [decide_eq_true (show 0 < p * b - a * q from hX)]
      repeat' walk_at "dq"
      refine ⟨⟨rfl, _, _, _, _, rfl, bp, bq, bc, bd⟩, ?_⟩
      repeat' walk_at "dq"
      rw [decide_eq_true (show 0 < c * q - p * d from hY)]
      repeat' walk_at "dq"
      refine ⟨⟨rfl, _, _, _, _, rfl, ba, bb, bc, bd⟩, ?_⟩
      repeat' walk_at "dq"
      refine hz _ _ ?_
      show PyData.bool (decide (c * b - a * d = 1)) = _
      rw [decide_eq_true hO]
abbrev s_law_near : Stmt := topS 28
abbrev N_law_near : List Str := ["_law_pair", "_law_fraction_here", "_law_low", "_law_high", "_law_below", "_law_above"]
theorem sc_law_near : FnScope N_law_near ["_law_pair", "_law_fraction_here"] (defScope s_law_near) := ⟨rfl, rfl, rfl, by decide +kernel, rfl, by decide +kernel, by decide +kernel⟩
theorem ok_law_near (d : Df K mg "_law_near" s_law_near ["_law_pair", "_law_fraction_here"]) (c_law_gap : Cal P w K mg base 1 "_law_gap" ["_law_low", "_law_high"] (sp_law_gap K)) : Cal P w K mg base 2 "_law_near" ["_law_pair", "_law_fraction_here"] (sp_law_near15 K) := by
  refine d.ok sc_law_near (pureSp_len rfl) (fun f cdv A outer s H vs Q E hr hgu h => ?_)
  refine ⟨_, (pss_cons (ps_asg (pv 0) (pgT K rfl (pgs_cons (pg_name (i := 2) sc_law_near.nd rfl (Or.inl rfl)) (pgs_cons (pg_name (i := 3) sc_law_near.nd rfl (Or.inl rfl)) pgs_nil))))
    (pss_cons (ps_set (i := 4) sc_law_near.nd rfl (Or.inl rfl) (pe_op op_mulW (pe_cal c_law_gap (hr.mono (by decide)) hgu (by rfl) (pa_cons (pv 2) (pa_cons (pv 1) pa_nil))) (pe_ix (ixK K) (pv 3) pe_int (fun _ _ => rfl))))
    (pss_cons (ps_set (i := 5) sc_law_near.nd rfl (Or.inl rfl) (pe_op op_mulW (pe_cal c_law_gap (hr.mono (by decide)) hgu (by rfl) (pa_cons (pv 1) (pa_cons (pv 3) pa_nil))) (pe_ix (ixK K) (pv 2) pe_int (fun _ _ => rfl))))
    (pss_cons (ps_if (pt_cmpR op_eq (pv 4) (pv 5) (nomark _)) (pss_one (ps_ret (pe_ifExp (pt_cmpR op_le (pe_ix (ixK K) (pv 2) pe_int (fun _ _ => rfl)) (pe_ix (ixK K) (pv 3) pe_int (fun _ _ => rfl)) (nomark _)) (pv 2) (pv 3)))) pss_nil)
    (pss_one (ps_ret (pe_ifExp (pt_cmpR op_lt (pv 4) (pv 5) (nomark _)) (pv 2) (pv 3)))))))), ?_⟩
  try dsimp only [cxOf]
  refine pure_body h (fun ds hl hp e hn hz => ?_)
  obtain ⟨a, b, c, d, p, q, rfl, ba, bb, bc, bd, bp, bq⟩ := hp
  show wS _ _ [some (.d (.tuple [fr a b, fr c d])), some (.d (fr p q)), none, none, none, none] _
  repeat' walk_at "dq"
  refine ⟨⟨rfl, _, _, _, _, rfl, ba, bb, bp, bq⟩, ?_⟩
  repeat' walk_at "dq"
  refine ⟨⟨rfl, _, _, _, _, rfl, bp, bq, bc, bd⟩, ?_⟩
  repeat' walk_at "dq"
  refine ite2 (fun e1 => ?_) (fun e1 => ?_)
  · have e1 := of_decide_eq_true e1
    repeat' walk_at "dq"
    refine ite2 (fun e2 => ?_) (fun e2 => ?_)
    · have ev : fr a b = nearF p q a b c d := by unfold nearF; rw [if_pos e1, if_pos (of_decide_eq_true e2)]
      repeat' walk_at "dq"
      exact hz _ _ ev
    · have ev : fr c d = nearF p q a b c d := by unfold nearF; rw [if_pos e1, if_neg (of_decide_eq_false (Bool.eq_false_iff.mpr e2))]
      repeat' walk_at "dq"
      exact hz _ _ ev
  · have e1 := of_decide_eq_false (Bool.eq_false_iff.mpr e1)
    repeat' walk_at "dq"
    refine ite2 (fun e2 => ?_) (fun e2 => ?_)
    · have ev : fr a b = nearF p q a b c d := by unfold nearF; rw [if_neg e1, if_pos (of_decide_eq_true e2)]
      repeat' walk_at "dq"
      exact hz _ _ ev
    · have ev : fr c d = nearF p q a b c d := by unfold nearF; rw [if_neg e1, if_neg (of_decide_eq_false (Bool.eq_false_iff.mpr e2))]
      repeat' walk_at "dq"
      exact hz _ _ ev
abbrev s_law_turns_right : Stmt := topS 29
abbrev N_law_turns_right : List Str := ["_law_pair", "_law_fraction_here", "_law_low", "_law_high", "_law_first", "_law_total", "_law_bound_here", "_law_amid", "_law_side", "_law_due"]
theorem sc_law_turns_right : FnScope N_law_turns_right ["_law_pair", "_law_fraction_here"] (defScope s_law_turns_right) := ⟨rfl, rfl, rfl, by decide +kernel, rfl, by decide +kernel, by decide +kernel⟩
theorem ok_law_turns_right (d : Df K mg "_law_turns_right" s_law_turns_right ["_law_pair", "_law_fraction_here"]) (c_neighbours : Cal P w K mg base 5 "neighbours" ["fraction", "bound"] (sp_neighbours K)) (c_nearest : Cal P w K mg base 6 "nearest" ["fraction", "bound"] (sp_nearest K)) (c_law_gap : Cal P w K mg base 1 "_law_gap" ["_law_low", "_law_high"] (sp_law_gap K)) (c_law_near : Cal P w K mg base 2 "_law_near" ["_law_pair", "_law_fraction_here"] (sp_law_near15 K)) (b_max : mg "max" = none) : Cal P w K mg base 7 "_law_turns_right" ["_law_pair", "_law_fraction_here"] (sp_law_turns_right K) := by
  refine d.ok sc_law_turns_right (pureSp_len rfl) (fun f cdv A outer s H vs Q E hr hgu h => ?_)
  refine ⟨_, (pss_cons (ps_asg (pv 0) (pgT K rfl (pgs_cons (pg_name (i := 2) sc_law_turns_right.nd rfl (Or.inl rfl)) (pgs_cons (pg_name (i := 3) sc_law_turns_right.nd rfl (Or.inl rfl)) pgs_nil))))
    (pss_cons (ps_set (i := 4) sc_law_turns_right.nd rfl (Or.inl rfl) (pe_callB (call_max2 rfl) (by rfl) b_max (by decide +kernel) (pa_cons (pe_ix (ixK K) (pv 2) pe_int (fun _ _ => rfl)) (pa_cons (pe_ix (ixK K) (pv 3) pe_int (fun _ _ => rfl)) pa_nil))))
    (pss_cons (ps_set (i := 5) sc_law_turns_right.nd rfl (Or.inl rfl) (pe_op op_add (pe_ix (ixK K) (pv 2) pe_int (fun _ _ => rfl)) (pe_ix (ixK K) (pv 3) pe_int (fun _ _ => rfl))))
    (pss_cons (ps_for PassesOwn.never rfl (piL K (pe_lst (pa_cons (pv 4) (pa_cons (pe_op op_sub (pv 5) pe_int) (pa_cons (pe_op op_fdivW (pe_op op_sub (pe_op op_add (pv 4) (pv 5)) pe_int) pe_int) pa_nil))))) (pg_name (i := 6) sc_law_turns_right.nd rfl (Or.inl rfl)) (pss_one (ps_if (PW.pt (pw_or (pt_cmpR (neK K hr.units) (pe_cal c_neighbours (hr.mono (by decide)) hgu (by rfl) (pa_cons (pv 1) (pa_cons (pv 6) pa_nil))) (pv 0) (nomark _)) (pw_or1 (pt_cmpR (neK K hr.units) (pe_cal c_nearest (hr.mono (by decide)) hgu (by rfl) (pa_cons (pv 1) (pa_cons (pv 6) pa_nil))) (pe_cal c_law_near (hr.mono (by decide)) hgu (by rfl) (pa_cons (pv 0) (pa_cons (pv 1) pa_nil))) (nomark _))))) (pss_one (ps_ret pe_bl)) pss_nil)))
    (pss_cons (ps_set (i := 7) sc_law_turns_right.nd rfl (Or.inl rfl) (pe_tup (pa_cons (pe_op op_add (pe_ix (ixK K) (pv 2) pe_int (fun _ _ => rfl)) (pe_ix (ixK K) (pv 3) pe_int (fun _ _ => rfl))) (pa_cons (pv 5) pa_nil))))
    (pss_cons (ps_set (i := 8) sc_law_turns_right.nd rfl (Or.inl rfl) (pe_cal c_law_gap (hr.mono (by decide)) hgu (by rfl) (pa_cons (pv 7) (pa_cons (pv 1) pa_nil))))
    (pss_cons (ps_set (i := 9) sc_law_turns_right.nd rfl (Or.inl rfl) (pe_ifExp (pt_cmpR op_eq (pv 8) pe_int (nomark _)) (pe_tup (pa_cons (pv 1) (pa_cons (pv 1) pa_nil))) (pe_ifExp (pt_cmpR op_gt (pv 8) pe_int (nomark _)) (pe_tup (pa_cons (pv 7) (pa_cons (pv 3) pa_nil))) (pe_tup (pa_cons (pv 2) (pa_cons (pv 7) pa_nil))))))
    (pss_one (ps_ret (pe_cmpR (eqK K hr.units) (pe_cal c_neighbours (hr.mono (by decide)) hgu (by rfl) (pa_cons (pv 1) (pa_cons (pv 5) pa_nil))) (pv 9) (nomark _))))))))))), ?_⟩
  try dsimp only [cxOf]
  refine pure_body h (fun ds hl hp e hn hz => ?_)
  obtain ⟨p, q, N, a, b, c, d, rfl, hf, hNq, n⟩ := hp
  have hb := n.b1
  have hd := n.d1
  have hs := nb_sum n.one hb hd n.lo n.hi
  obtain ⟨b1, b2, b3, b4, _⟩ := n.ni.bd hf.bp hf.bq hf.bN
  have ba : Bd 400 a := b3.mono (by decide)
  have bb : Bd 800 b := b1.mono (by decide)
  have bc : Bd 400 c := b4.mono (by decide)
  have bd : Bd 800 d := b2.mono (by decide)
  have bp : Bd 900 p := hf.bp.mono (by decide)
  have bq : Bd 900 q := hf.bq.mono (by decide)
  show wS _ _ [some (.d (.tuple [fr a b, fr c d])), some (.d (fr p q)), none, none, none, none, none, none, none, none] _
  repeat' walk_at "dq"
  generalize hfst : (if d > b then d else b) = fst
  have f1 : b ≤ fst ∧ d ≤ fst ∧ fst < b + d := by rw [← hfst]; split <;> omega
  repeat' walk_at "dq"
  refine wS_for ?_
  repeat' walk_at "dq"
  refine forW [some (.d (.tuple [fr a b, fr c d])), some (.d (fr p q)), some (.d (fr a b)), some (.d (fr c d)), none, some (.d (.int (b + d))), none, none, none, none] (by decide) (by walk_at "less") (fun x hx => ?_) (fun y2 l => ?_)
  · obtain ⟨N', rfl, h1, h2, h3⟩ : ∃ N', x = .int N' ∧ b ≤ N' ∧ d ≤ N' ∧ N' < b + d := by
      simp only [List.mem_cons, List.not_mem_nil, or_false] at hx
      rcases hx with rfl | rfl | rfl <;> exact ⟨_, rfl, by omega, by omega, by omega⟩
    have fn := hf.at (N' := N') (by omega) (by omega)
    have nr : NR p q N' (.tuple [fr a b, fr c d]) := .inr ⟨by omega, _, _, _, _, n.at h1 h2 h3, rfl⟩
    repeat' walk_at "dq"
    refine ⟨⟨p, q, N', rfl, fn⟩, ?_⟩
    rintro r hr
    have er := (hr p q N' rfl).uniq nr
    subst er
    repeat' walk_at "dq"
    rw [eqv_fr2]
    repeat' walk_at "dq"
    refine ⟨⟨p, q, N', rfl, fn⟩, ?_⟩
    rintro r hr
    obtain ⟨a', b', c', d', nr', rfl⟩ := hr p q N' rfl
    have er := nr'.uniq nr
    cases er
    repeat' walk_at "dq"
    obtain ⟨sn, en⟩ := near_eqv p q a b c d
    refine ⟨⟨rfl, _, _, _, _, _, _, rfl, ba.mono (by decide), bb.mono (by decide), bc.mono (by decide), bd.mono (by decide), bp, bq⟩, nearF p q a b c d, nearF p q a b c d, rfl, rfl, sn, sn, ?_⟩
    rw [en]
    repeat' walk_at "dq"
    show Less _ _
    walk_at "less"
  · refine wS_weak ?_ l
    have nm := nr_mid n hf
    have fm := hf.at (N' := b + d) (by omega) hs
    repeat' walk_at "dq"
    refine ⟨⟨rfl, _, _, _, _, rfl, (ba.add bc).mono (by decide), ?_, bp, bq⟩, ?_⟩
    · have := hf.bq; unfold Bd at *; omega
    show ∃ d_1, Z.d (.int (p * (b + d) - (a + c) * q)) = Z.d d_1 ∧ _
    generalize p * (b + d) - (a + c) * q = sd at nm ⊢
    repeat' walk_at "dq"
    refine ite2 (fun e1 => ?_) (fun e1 => ?_)
    · have e1 : sd = 0 := of_decide_eq_true e1
      rw [if_pos e1] at nm
      repeat' walk_at "dq"
      refine ⟨⟨p, q, b + d, rfl, fm⟩, ?_⟩
      rintro r hr
      have er := (hr p q (b + d) rfl).uniq nm
      subst er
      repeat' walk_at "dq"
      refine hz _ _ ?_
      rw [eqv_fr2]
    · have e1 : ¬ sd = 0 := of_decide_eq_false (Bool.eq_false_iff.mpr e1)
      rw [if_neg e1] at nm
      repeat' walk_at "dq"
      refine ite2 (fun e2 => ?_) (fun e2 => ?_)
      · rw [if_pos (of_decide_eq_true e2)] at nm
        repeat' walk_at "dq"
        refine ⟨⟨p, q, b + d, rfl, fm⟩, ?_⟩
        rintro r hr
        have er := (hr p q (b + d) rfl).uniq nm
        subst er
        repeat' walk_at "dq"
        refine hz _ _ ?_
        rw [eqv_fr2]
      · rw [if_neg (of_decide_eq_false (Bool.eq_false_iff.mpr e2))] at nm
        repeat' walk_at "dq"
        refine ⟨⟨p, q, b + d, rfl, fm⟩, ?_⟩
        rintro r hr
        have er := (hr p q (b + d) rfl).uniq nm
        subst er
        repeat' walk_at "dq"
        refine hz _ _ ?_
        rw [eqv_fr2]
abbrev s_law : Stmt := topS 30
abbrev N_law : List Str := ["_law_script", "_law_k", "_law_purse_here", "_law_fraction_here", "_law_bound_here", "_law_turn", "_law_pair", "_law_way", "_law_total"]
theorem sc_law : FnScope N_law ["_law_script"] (defScope s_law) := ⟨rfl, rfl, rfl, by decide +kernel, rfl, by decide +kernel, by decide +kernel⟩
theorem ok_law {f : Addr} {fd : FuncData} (F : Fun K "law" "law" s_law f fd) (c_neighbours : Cal P w K mg base 5 "neighbours" ["fraction", "bound"] (sp_neighbours K)) (c_nearest : Cal P w K mg base 6 "nearest" ["fraction", "bound"] (sp_nearest K)) (c_law_cell : Cal P w K mg base 1 "_law_cell" ["_law_script", "_law_k"] (sp_law_cell K)) (c_law_purse : Cal P w K mg base 1 "_law_purse" ["_law_cell_here"] (sp_law_purse K)) (c_law_take : Cal P w K mg base 1 "_law_take" ["_law_purse_here", "_law_many"] (sp_law_take K)) (c_law_fraction : Cal P w K mg base 3 "_law_fraction" ["_law_purse_here"] (sp_law_fraction K)) (c_law_bound : Cal P w K mg base 3 "_law_bound" ["_law_purse_here", "_law_fraction_here"] (sp_law_bound K)) (c_law_shown : Cal P w K mg base 3 "_law_shown" ["_law_found", "_law_fraction_here", "_law_bound_here"] (sp_law_shown K)) (c_law_near : Cal P w K mg base 2 "_law_near" ["_law_pair", "_law_fraction_here"] (sp_law_near15 K)) (c_law_turns_right : Cal P w K mg base 7 "_law_turns_right" ["_law_pair", "_law_fraction_here"] (sp_law_turns_right K)) (b_len : mg "len" = none) (b_max : mg "max" = none) (b_min : mg "min" = none) (b_range : mg "range" = none) : FnG P w K mg base CX0 8 f fd ["_law_script"] (sp_law K) := by
  refine okG F sc_law spLaw_len (fun cdv A outer s H vs Q E hr hgu h => ?_)
  refine ⟨_, (pss_cons (ps_for PassesOwn.never rfl (pi_range1 (by rfl) b_range (pa_cons (pe_callB (call_max2 rfl) (by rfl) b_max (by decide +kernel) (pa_cons pe_int (pa_cons (pe_callB (call_min2 rfl) (by rfl) b_min (by decide +kernel) (pa_cons pe_int (pa_cons (pe_callB (lenK K) (by rfl) b_len (by decide +kernel) (pa_cons (pv 0) pa_nil)) pa_nil))) pa_nil))) pa_nil)) (pg_name (i := 1) sc_law.nd rfl (Or.inl rfl)) (pss_cons (ps_set (i := 2) sc_law.nd rfl (Or.inl rfl) (pe_cal c_law_purse (hr.mono (by decide)) hgu (by rfl) (pa_cons (pe_cal c_law_cell (hr.mono (by decide)) hgu (by rfl) (pa_cons (pv 0) (pa_cons (pv 1) pa_nil))) pa_nil)))
    (pss_cons (ps_set (i := 3) sc_law.nd rfl (Or.inl rfl) (pe_cal c_law_fraction (hr.mono (by decide)) hgu (by rfl) (pa_cons (pv 2) pa_nil)))
    (pss_cons (ps_set (i := 4) sc_law.nd rfl (Or.inl rfl) (pe_cal c_law_bound (hr.mono (by decide)) hgu (by rfl) (pa_cons (pv 2) (pa_cons (pv 3) pa_nil))))
    (pss_one (ps_for PassesOwn.never rfl (pi_range1 (by rfl) b_range (pa_cons pe_int pa_nil)) (pg_name (i := 5) sc_law.nd rfl (Or.inl rfl)) (pss_cons (ps_set (i := 6) sc_law.nd rfl (Or.inl rfl) (pe_cal c_neighbours (hr.mono (by decide)) hgu (by rfl) (pa_cons (pv 3) (pa_cons (pv 4) pa_nil))))
    (pss_cons (ps_if (PW.pt (pw_or (pt_not (pt_val (pe_cal c_law_shown (hr.mono (by decide)) hgu (by rfl) (pa_cons (pv 6) (pa_cons (pv 3) (pa_cons (pv 4) pa_nil)))))) (pw_or1 (pt_cmpR (neK K hr.units) (pe_cal c_nearest (hr.mono (by decide)) hgu (by rfl) (pa_cons (pv 3) (pa_cons (pv 4) pa_nil))) (pe_cal c_law_near (hr.mono (by decide)) hgu (by rfl) (pa_cons (pv 6) (pa_cons (pv 3) pa_nil))) (nomark _))))) (pss_one (ps_ret pe_bl)) pss_nil)
    (pss_cons (ps_if (PW.pt (pw_and (pt_cmpR op_gt (pe_ix (ixK K) (pv 3) pe_int (fun _ _ => rfl)) (pv 4) (nomark _)) (pw_and1 (pt_not (pt_val (pe_cal c_law_turns_right (hr.mono (by decide)) hgu (by rfl) (pa_cons (pv 6) (pa_cons (pv 3) pa_nil)))))))) (pss_one (ps_ret pe_bl)) pss_nil)
    (pss_cons (ps_set (i := 7) sc_law.nd rfl (Or.inl rfl) (pe_cal c_law_take (hr.mono (by decide)) hgu (by rfl) (pa_cons (pv 2) (pa_cons pe_int pa_nil))))
    (pss_cons (ps_set (i := 8) sc_law.nd rfl (Or.inl rfl) (pe_callB (call_min2 rfl) (by rfl) b_min (by decide +kernel) (pa_cons (pe_op op_sub (pe_op op_pow pe_int pe_int) pe_int) (pa_cons (pe_op op_add (pe_ix (ixK K) (pe_ix (ixK K) (pv 6) pe_int (fun _ _ => rfl)) pe_int (fun _ _ => rfl)) (pe_ix (ixK K) (pe_ix (ixK K) (pv 6) pe_int (fun _ _ => rfl)) pe_int (fun _ _ => rfl))) pa_nil))))
    (pss_one (ps_set (i := 4) sc_law.nd rfl (Or.inl rfl) (pe_ix (ixK K) (pe_lst (pa_cons (pv 8) (pa_cons (pe_callB (call_max2 rfl) (by rfl) b_max (by decide +kernel) (pa_cons pe_int (pa_cons (pe_op op_fdivW (pv 4) pe_int) pa_nil))) (pa_cons (pe_op op_add pe_int (pe_cal c_law_take (hr.mono (by decide)) hgu (by rfl) (pa_cons (pv 2) (pa_cons (pe_op op_pow pe_int pe_int) pa_nil)))) pa_nil)))) (pv 7) (fun _ _ => rfl)))))))))))))))
    (pss_one (ps_ret pe_bl))), ?_⟩
  try dsimp only [cxOf]
  refine law_body h (fun ns hl e hz => ?_)
  refine law_loop (n := 7) (by decide) hz (fun k k0 k1 => ?_)
  show wS _ _ [some (.d (.list (ns.map PyData.int))), some (.d (.int k)), none, none, none, none, none, none, none] _
  repeat' walk_at "dq"
  refine ⟨⟨ns, k, rfl, k0, k1⟩, ?_⟩
  rintro _ ⟨c, rfl⟩
  repeat' walk_at "dq"
  rintro _ ⟨p, q, rfl, q1, g, bp, bq⟩
  repeat' walk_at "dq"
  refine ⟨⟨_, rfl, p, q, rfl, q1, g, bp, bq⟩, by omega, ?_⟩
  rintro _ ⟨N, rfl, n1, bN⟩
  repeat' walk_at "dq"
  refine wS_for ?_
  repeat' walk_at "dq"
  try dsimp only [List.set]
  refine forJ (fun i y => ∃ (N : Int) (kk : Nat), 1 ≤ N ∧ Bd 64 N ∧ 7999000 - 2 * i ≤ kk ∧ y = [some (.d (.list (ns.map PyData.int))), none, some (.pu kk), some (.d (fr p q)), some (.d (.int N)), none, none, none, none]) (by decide) ⟨_, ⟨N, _, n1, bN, ?_, rfl⟩, by walk_at "less"⟩ ?_ (fun y2 y' hj l => ?_)
  · omega
  · rintro i x y' hx ⟨N, kk, n1, bN, hkk, rfl⟩
    obtain ⟨hi2, rfl⟩ := rangeD_get hx
    have hi3 : i < 3 := by omega
    have fn : FN p q N := ⟨q1, g, n1, bp.mono (by decide), bq.mono (by decide), bN.mono (by decide)⟩
    have bp9 : Bd 900 p := bp.mono (by decide)
    have bq9 : Bd 900 q := bq.mono (by decide)
    repeat' walk_at "dq"
    refine ⟨⟨p, q, N, rfl, fn⟩, ?_⟩
    rintro r hr
    have hr := hr p q N rfl
    obtain ⟨a, b, c, d, rfl, ba, bb, bc, bd⟩ := hr.bd fn
    have hA : 1 ≤ b ∧ 1 ≤ d := by
      rcases hr with ⟨_, e⟩ | ⟨_, a', b', c', d', n, e⟩
      · cases e; exact ⟨q1, q1⟩
      · cases e; exact ⟨n.b1, n.d1⟩
    obtain ⟨hA1, hA2⟩ := hA
    repeat' walk_at "dq"
    refine ⟨⟨rfl, p, q, N, _, rfl, fn, hr⟩, ?_⟩
    repeat' walk_at "dq"
    refine ⟨⟨p, q, N, rfl, fn⟩, ?_⟩
    rintro r hr2
    obtain ⟨a', b', c', d', nr', rfl⟩ := hr2 p q N rfl
    have er := nr'.uniq hr
    cases er
    repeat' walk_at "dq"
    obtain ⟨sn, en⟩ := near_eqv p q a b c d
    refine ⟨⟨rfl, _, _, _, _, _, _, rfl, ba, bb, bc, bd, bp9, bq9⟩, nearF p q a b c d, nearF p q a b c d, rfl, rfl, sn, sn, ?_⟩
    rw [en]
    repeat' walk_at "dq"
    refine ite2 (fun e1 => ?_) (fun e1 => ?_)
    · have e1 := of_decide_eq_true e1
      have hn2 : NB p q N a b c d := by
        rcases hr with ⟨z, _⟩ | ⟨_, a', b', c', d', n, e2⟩
        · omega
        · cases e2; exact n
      repeat' walk_at "dq"
      refine ⟨⟨rfl, p, q, N, _, _, _, _, rfl, fn, e1, hn2⟩, ?_⟩
      repeat' walk_at "dq"
      rename_i way w0 w1 r9 r90 r91
      obtain ⟨x, hx, hm⟩ := atI_mem (xs := ([PyData.int (if b + d < 10 ^ 30 - 1 then b + d else 10 ^ 30 - 1), PyData.int (if N / 2 > 1 then N / 2 else 1), PyData.int (1 + r9)] : List D)) w0 w1
      obtain ⟨N2, rfl, m1, m2⟩ : ∃ n : Int, x = .int n ∧ 1 ≤ n ∧ Bd 64 n := by
        simp only [List.mem_cons, List.not_mem_nil, or_false] at hm
        rcases hm with rfl | rfl | rfl
        · exact ⟨_, rfl, by split <;> omega, by unfold Bd; split <;> omega⟩
        · exact ⟨_, rfl, by split <;> omega, by unfold Bd at *; split <;> omega⟩
        · exact ⟨_, rfl, by omega, by unfold Bd; omega⟩
      refine ⟨_, _, _, rfl, rfl, hx, ?_⟩
      repeat' walk_at "dq"
      show ∃ y', (∃ N kk, _) ∧ Less y' _
      try dsimp only [List.set]
      exact ⟨_, ⟨N2, kk - 1 - 1, m1, m2, by omega, rfl⟩, by walk_at "less"⟩
    · repeat' walk_at "dq"
      rename_i way w0 w1 r9 r90 r91
      obtain ⟨x, hx, hm⟩ := atI_mem (xs := ([PyData.int (if b + d < 10 ^ 30 - 1 then b + d else 10 ^ 30 - 1), PyData.int (if N / 2 > 1 then N / 2 else 1), PyData.int (1 + r9)] : List D)) w0 w1
      obtain ⟨N2, rfl, m1, m2⟩ : ∃ n : Int, x = .int n ∧ 1 ≤ n ∧ Bd 64 n := by
        simp only [List.mem_cons, List.not_mem_nil, or_false] at hm
        rcases hm with rfl | rfl | rfl
        · exact ⟨_, rfl, by split <;> omega, by unfold Bd; split <;> omega⟩
        · exact ⟨_, rfl, by split <;> omega, by unfold Bd at *; split <;> omega⟩
        · exact ⟨_, rfl, by omega, by unfold Bd; omega⟩
      refine ⟨_, _, _, rfl, rfl, hx, ?_⟩
      repeat' walk_at "dq"
      show ∃ y', (∃ N kk, _) ∧ Less y' _
      try dsimp only [List.set]
      exact ⟨_, ⟨N2, kk - 1 - 1, m1, m2, by omega, rfl⟩, by walk_at "less"⟩
  · obtain ⟨N, kk, _, _, _, rfl⟩ := hj
    exact less_cell l rfl rfl
theorem row_ok (d_is_number : Df K mg "is_number" s_is_number ["thing"])
    (d_common : Df K mg "common" s_common ["one", "other"])
    (d_is_fraction : Df K mg "is_fraction" s_is_fraction ["thing"])
    (d_need_fraction : Df K mg "need_fraction" s_need_fraction ["thing"])
    (d_need_both : Df K mg "need_both" s_need_both ["fraction", "bound"])
    (d_moved : Df K mg "moved" s_moved ["one", "other", "many"])
    (d_gap : Df K mg "gap" s_gap ["lesser", "greater"])
    (d_neighbours : Df K mg "neighbours" s_neighbours ["fraction", "bound"])
    (d_nearest : Df K mg "nearest" s_nearest ["fraction", "bound"])
    (d_law_cell : Df K mg "_law_cell" s_law_cell ["_law_script", "_law_k"])
    (d_law_purse : Df K mg "_law_purse" s_law_purse ["_law_cell_here"])
    (d_law_take : Df K mg "_law_take" s_law_take ["_law_purse_here", "_law_many"])
    (d_law_common : Df K mg "_law_common" s_law_common ["_law_one", "_law_other"])
    (d_law_made : Df K mg "_law_made" s_law_made ["_law_top", "_law_bottom"])
    (d_law_digits : Df K mg "_law_digits" s_law_digits ["_law_purse_here", "_law_figures"])
    (d_law_fraction : Df K mg "_law_fraction" s_law_fraction ["_law_purse_here"])
    (d_law_bound : Df K mg "_law_bound" s_law_bound ["_law_purse_here", "_law_fraction_here"])
    (d_law_is_fraction : Df K mg "_law_is_fraction" s_law_is_fraction ["_law_thing"])
    (d_law_gap : Df K mg "_law_gap" s_law_gap ["_law_low", "_law_high"])
    (d_law_shown : Df K mg "_law_shown" s_law_shown ["_law_found", "_law_fraction_here", "_law_bound_here"])
    (d_law_near : Df K mg "_law_near" s_law_near ["_law_pair", "_law_fraction_here"])
    (d_law_turns_right : Df K mg "_law_turns_right" s_law_turns_right ["_law_pair", "_law_fraction_here"])
    (b_abs : mg "abs" = none)
    (b_all : mg "all" = none)
    (b_bool : mg "bool" = none)
    (b_int : mg "int" = none)
    (b_isinstance : mg "isinstance" = none)
    (b_len : mg "len" = none)
    (b_max : mg "max" = none)
    (b_min : mg "min" = none)
    (b_range : mg "range" = none)
    (b_tuple : mg "tuple" = none) :
    ∀ (base : Heap) (f : Addr) (fd : FuncData), Fun K "law" "law" s_law f fd → FnG P w K mg base CX0 8 f fd ["_law_script"] (sp_law K) := by
  intro base f fd F
  have c_is_number : Cal P w K mg base 1 "is_number" ["thing"] (sp_is_number K) := ok_is_number d_is_number b_bool b_int b_isinstance
  have c_common : Cal P w K mg base 1 "common" ["one", "other"] (sp_common K) := ok_common d_common b_abs
  have c_is_fraction : Cal P w K mg base 2 "is_fraction" ["thing"] (sp_is_fraction K) := ok_is_fraction d_is_fraction c_is_number c_common b_isinstance b_len b_tuple
  have c_need_fraction : Cal P w K mg base 3 "need_fraction" ["thing"] (sp_need_fraction K) := ok_need_fraction d_need_fraction c_is_fraction
  have c_need_both : Cal P w K mg base 4 "need_both" ["fraction", "bound"] (sp_need_both K) := ok_need_both d_need_both c_is_number c_need_fraction
  have c_moved : Cal P w K mg base 1 "moved" ["one", "other", "many"] (sp_moved K) := ok_moved d_moved 
  have c_gap : Cal P w K mg base 1 "gap" ["lesser", "greater"] (sp_gap K) := ok_gap d_gap 
  have c_neighbours : Cal P w K mg base 5 "neighbours" ["fraction", "bound"] (sp_neighbours K) := ok_neighbours d_neighbours c_need_both c_moved c_gap b_min
  have c_nearest : Cal P w K mg base 6 "nearest" ["fraction", "bound"] (sp_nearest K) := ok_nearest d_nearest c_gap c_neighbours
  have c_law_cell : Cal P w K mg base 1 "_law_cell" ["_law_script", "_law_k"] (sp_law_cell K) := ok_law_cell d_law_cell b_len
  have c_law_purse : Cal P w K mg base 1 "_law_purse" ["_law_cell_here"] (sp_law_purse K) := ok_law_purse d_law_purse b_max
  have c_law_take : Cal P w K mg base 1 "_law_take" ["_law_purse_here", "_law_many"] (sp_law_take K) := ok_law_take d_law_take 
  have c_law_common : Cal P w K mg base 1 "_law_common" ["_law_one", "_law_other"] (sp_law_common K) := ok_law_common d_law_common b_abs
  have c_law_made : Cal P w K mg base 2 "_law_made" ["_law_top", "_law_bottom"] (sp_law_made K) := ok_law_made d_law_made c_law_common
  have c_law_digits : Cal P w K mg base 2 "_law_digits" ["_law_purse_here", "_law_figures"] (sp_law_digits K) := ok_law_digits d_law_digits c_law_take b_range
  have c_law_fraction : Cal P w K mg base 3 "_law_fraction" ["_law_purse_here"] (sp_law_fraction K) := ok_law_fraction d_law_fraction c_law_take c_law_made c_law_digits b_abs b_max b_range
  have c_law_bound : Cal P w K mg base 3 "_law_bound" ["_law_purse_here", "_law_fraction_here"] (sp_law_bound K) := ok_law_bound d_law_bound c_law_take c_law_digits b_max b_min
  have c_law_is_fraction : Cal P w K mg base 2 "_law_is_fraction" ["_law_thing"] (sp_law_is_fraction15 K) := ok_law_is_fraction d_law_is_fraction c_law_common b_all b_bool b_int b_isinstance b_len b_tuple
  have c_law_gap : Cal P w K mg base 1 "_law_gap" ["_law_low", "_law_high"] (sp_law_gap K) := ok_law_gap d_law_gap 
  have c_law_shown : Cal P w K mg base 3 "_law_shown" ["_law_found", "_law_fraction_here", "_law_bound_here"] (sp_law_shown K) := ok_law_shown d_law_shown c_law_is_fraction c_law_gap b_all b_isinstance b_len b_tuple
  have c_law_near : Cal P w K mg base 2 "_law_near" ["_law_pair", "_law_fraction_here"] (sp_law_near15 K) := ok_law_near d_law_near c_law_gap
  have c_law_turns_right : Cal P w K mg base 7 "_law_turns_right" ["_law_pair", "_law_fraction_here"] (sp_law_turns_right K) := ok_law_turns_right d_law_turns_right c_neighbours c_nearest c_law_gap c_law_near b_max
  exact ok_law F c_neighbours c_nearest c_law_cell c_law_purse c_law_take c_law_fraction c_law_bound c_law_shown c_law_near c_law_turns_right b_len b_max b_min b_range
end
end Tq
open PySem PySem.W PyProof.Rows
set_option maxHeartbeats 0 in
theorem PySem.Challenge.cw_termstream_k15_whole_neighbours_holds : PySem.Challenge.rw_termstream_k15_whole_neighbours.Holds := by
  w_on; o_law
  k_head
  (case hw => w_witness2)
  k_fill
  refine Tq.walk_ofG (l := PySem.Challenge.rw_termstream_k15_whole_neighbours) (n := 63) (k := 8) (x := "_law_script") (sp := Tq.sp_law) rfl (by decide) rfl ⟨rfl, by decide, by decide⟩ (fun w h Y => PySem.W.kIn_of Y) ?F (fun K H a ns hl _ hS => ⟨a, ns, rfl, hS, hl, fun _ => rfl⟩)
  case F =>
    intro w mg fa h KX G hmg
    refine' Tq.law_mk (st := Tq.s_law) KX G hmg (Tq.row_ok
      (Tq.df_mk KX G (fun _ _ _ _ _ _ us hl => match us, hl with | [_], _ => rfl) ?a0 ?l0 ?c0 ?k0)
      (Tq.df_mk KX G (fun _ _ _ _ _ _ us hl => match us, hl with | [_, _], _ => rfl) ?a1 ?l1 ?c1 ?k1)
      (Tq.df_mk KX G (fun _ _ _ _ _ _ us hl => match us, hl with | [_], _ => rfl) ?a2 ?l2 ?c2 ?k2)
      (Tq.df_mk KX G (fun _ _ _ _ _ _ us hl => match us, hl with | [_], _ => rfl) ?a3 ?l3 ?c3 ?k3)
      (Tq.df_mk KX G (fun _ _ _ _ _ _ us hl => match us, hl with | [_, _], _ => rfl) ?a4 ?l4 ?c4 ?k4)
      (Tq.df_mk KX G (fun _ _ _ _ _ _ us hl => match us, hl with | [_, _, _], _ => rfl) ?a5 ?l5 ?c5 ?k5)
      (Tq.df_mk KX G (fun _ _ _ _ _ _ us hl => match us, hl with | [_, _], _ => rfl) ?a6 ?l6 ?c6 ?k6)
      (Tq.df_mk KX G (fun _ _ _ _ _ _ us hl => match us, hl with | [_, _], _ => rfl) ?a7 ?l7 ?c7 ?k7)
      (Tq.df_mk KX G (fun _ _ _ _ _ _ us hl => match us, hl with | [_, _], _ => rfl) ?a8 ?l8 ?c8 ?k8)
      (Tq.df_mk KX G (fun _ _ _ _ _ _ us hl => match us, hl with | [_, _], _ => rfl) ?a9 ?l9 ?c9 ?k9)
      (Tq.df_mk KX G (fun _ _ _ _ _ _ us hl => match us, hl with | [_], _ => rfl) ?a10 ?l10 ?c10 ?k10)
      (Tq.df_mk KX G (fun _ _ _ _ _ _ us hl => match us, hl with | [_, _], _ => rfl) ?a11 ?l11 ?c11 ?k11)
      (Tq.df_mk KX G (fun _ _ _ _ _ _ us hl => match us, hl with | [_, _], _ => rfl) ?a12 ?l12 ?c12 ?k12)
      (Tq.df_mk KX G (fun _ _ _ _ _ _ us hl => match us, hl with | [_, _], _ => rfl) ?a13 ?l13 ?c13 ?k13)
      (Tq.df_mk KX G (fun _ _ _ _ _ _ us hl => match us, hl with | [_, _], _ => rfl) ?a14 ?l14 ?c14 ?k14)
      (Tq.df_mk KX G (fun _ _ _ _ _ _ us hl => match us, hl with | [_], _ => rfl) ?a15 ?l15 ?c15 ?k15)
      (Tq.df_mk KX G (fun _ _ _ _ _ _ us hl => match us, hl with | [_, _], _ => rfl) ?a16 ?l16 ?c16 ?k16)
      (Tq.df_mk KX G (fun _ _ _ _ _ _ us hl => match us, hl with | [_], _ => rfl) ?a17 ?l17 ?c17 ?k17)
      (Tq.df_mk KX G (fun _ _ _ _ _ _ us hl => match us, hl with | [_, _], _ => rfl) ?a18 ?l18 ?c18 ?k18)
      (Tq.df_mk KX G (fun _ _ _ _ _ _ us hl => match us, hl with | [_, _, _], _ => rfl) ?a19 ?l19 ?c19 ?k19)
      (Tq.df_mk KX G (fun _ _ _ _ _ _ us hl => match us, hl with | [_, _], _ => rfl) ?a20 ?l20 ?c20 ?k20)
      (Tq.df_mk KX G (fun _ _ _ _ _ _ us hl => match us, hl with | [_, _], _ => rfl) ?a21 ?l21 ?c21 ?k21)
      (PySem.W.mg_none_of KX G ?z0)
      (PySem.W.mg_none_of KX G ?z1)
      (PySem.W.mg_none_of KX G ?z2)
      (PySem.W.mg_none_of KX G ?z3)
      (PySem.W.mg_none_of KX G ?z4)
      (PySem.W.mg_none_of KX G ?z5)
      (PySem.W.mg_none_of KX G ?z6)
      (PySem.W.mg_none_of KX G ?z7)
      (PySem.W.mg_none_of KX G ?z8)
      (PySem.W.mg_none_of KX G ?z9)) (fun _ _ _ _ _ _ _ _ => .of_eq rfl) ?a ?l ?c ?k
    (case a0 => k_is); (case l0 => k_is); (case c0 => k_is); (case k0 => k_is); (case a1 => k_is); (case l1 => k_is); (case c1 => k_is); (case k1 => k_is)
    (case a2 => k_is); (case l2 => k_is); (case c2 => k_is); (case k2 => k_is); (case a3 => k_is); (case l3 => k_is); (case c3 => k_is); (case k3 => k_is)
    (case a4 => k_is); (case l4 => k_is); (case c4 => k_is); (case k4 => k_is); (case a5 => k_is); (case l5 => k_is); (case c5 => k_is); (case k5 => k_is)
    (case a6 => k_is); (case l6 => k_is); (case c6 => k_is); (case k6 => k_is); (case a7 => k_is); (case l7 => k_is); (case c7 => k_is); (case k7 => k_is)
    (case a8 => k_is); (case l8 => k_is); (case c8 => k_is); (case k8 => k_is); (case a9 => k_is); (case l9 => k_is); (case c9 => k_is); (case k9 => k_is)
    (case a10 => k_is); (case l10 => k_is); (case c10 => k_is); (case k10 => k_is); (case a11 => k_is); (case l11 => k_is); (case c11 => k_is); (case k11 => k_is)
    (case a12 => k_is); (case l12 => k_is); (case c12 => k_is); (case k12 => k_is); (case a13 => k_is); (case l13 => k_is); (case c13 => k_is); (case k13 => k_is)
    (case a14 => k_is); (case l14 => k_is); (case c14 => k_is); (case k14 => k_is); (case a15 => k_is); (case l15 => k_is); (case c15 => k_is); (case k15 => k_is)
    (case a16 => k_is); (case l16 => k_is); (case c16 => k_is); (case k16 => k_is); (case a17 => k_is); (case l17 => k_is); (case c17 => k_is); (case k17 => k_is)
    (case a18 => k_is); (case l18 => k_is); (case c18 => k_is); (case k18 => k_is); (case a19 => k_is); (case l19 => k_is); (case c19 => k_is); (case k19 => k_is)
    (case a20 => k_is); (case l20 => k_is); (case c20 => k_is); (case k20 => k_is); (case a21 => k_is); (case l21 => k_is); (case c21 => k_is); (case k21 => k_is)
    (case z0 => k_is); (case z1 => k_is); (case z2 => k_is); (case z3 => k_is); (case z4 => k_is); (case z5 => k_is); (case z6 => k_is); (case z7 => k_is)
    (case z8 => k_is); (case z9 => k_is); (case a => k_is); (case l => k_is); (case c => k_is); (case k => k_is)

