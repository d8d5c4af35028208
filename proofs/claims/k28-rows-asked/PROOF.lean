import PyProof.Rows.All
import Wide.All
import OpenK.AllK
import Wide.FinOn
import HandS.ForMost
import HandS.IsInst
import HandS.Wide
import HandS.Flow
import HandS.RaiseMore
import HandS.EndBits
import PyProof.ReprRoads
import HandS.TupAny
import HandS.Exc
import HandS.WordsExc
import KE.IntTextLaws
import PyProof.ReprLen
import PyProof.Rows.ReprOcc
import HandS.TryOnly
import PyProof.Rows.Digits
import PyProof.StrReplace2
import HandS.Style
import KE.KRevSl
import HandS.ExcInit
import HandS.ExcOwn
import HandS.ExcField
import HandS.ExcIs
import HandS.ClsMeth
import HandS.Small
import KE.KExcIs
import HandS.DeepEq
import HandS.Defaults
import KE.KExcInit
import PySem.Challenge.RW_termstream_k28_rows_asked
set_option Elab.async false
set_option linter.all false
set_option maxRecDepth 100000
set_option maxHeartbeats 0
namespace Hd
open PySem PySem.W PyProof.Rows
open_top hd_k28 for PySem.Challenge.rw_termstream_k28_rows_asked
end Hd
set_option maxHeartbeats 4000000

set_option maxRecDepth 100000
set_option maxHeartbeats 2000000
/-! Data over the heap (Rp), frames, slots, and the wp over data -/
namespace Tq
open PySem PySem.Spec PyProof.Rows L2
abbrev D := PyData
abbrev Fg := PySem.W.Frag
abbrev St := L2.St
def kD : Key → D
  | .inl i => .int i
  | .inr x => .str x
/-- a list of the written part -/
def KL (K : Fg) (a : Addr) (xs : List V) : Prop := ∃ (o : Obj) (its : Array Value) (n : Nat), K.lookup a = some o ∧ o.cls = .type "list" ∧ o.dict = none ∧ o.data = .seq its n ∧ its.size ≤ sizeLine ∧ Vals xs its.toList
def KT (K : Fg) (a : Addr) (xs : List V) : Prop := ∃ (o : Obj) (its : Array Value) (n : Nat), K.lookup a = some o ∧ o.cls = .type "tuple" ∧ o.data = .seq its n ∧ its.size ≤ sizeLine ∧ Vals xs its.toList
/-- a list, a tuple, apart from what may change -/
def LsA (K : Fg) (M : Addr → Prop) (H : Hp) (a : Addr) (xs : List V) : Prop := (¬ M a ∧ Rd H a (.lst xs)) ∨ KL K a xs
def TsA (K : Fg) (M : Addr → Prop) (H : Hp) (a : Addr) (xs : List V) : Prop := (¬ M a ∧ Rd H a (.tup xs)) ∨ KT K a xs
theorem LsA.sq {K : Fg} {M : Addr → Prop} {H : Hp} {a : Addr} {xs : List V} (h : LsA K M H a xs) : SqL K H a xs := h.elim (fun z => .inl z.2) .inr
theorem TsA.sq {K : Fg} {M : Addr → Prop} {H : Hp} {a : Addr} {xs : List V} (h : TsA K M H a xs) : SqT K H a xs := h.elim (fun z => .inl z.2) .inr
mutual
inductive Rp (K : Fg) (M : Addr → Prop) (H : Hp) : V → D → Prop
  | non : Rp K M H .non .none
  | bl (b : Bool) : Rp K M H (.bl b) (.bool b)
  | int (i : Int) : Rp K M H (.int i) (.int i)
  | str (x : Str) : Rp K M H (.str x) (.str x)
  | lst {a : Addr} {xs : List V} {ds : List D} : LsA K M H a xs → RpA K M H xs ds → Rp K M H (.ref a) (.list ds)
  | tup {a : Addr} {xs : List V} {ds : List D} : TsA K M H a xs → RpA K M H xs ds → Rp K M H (.ref a) (.tuple ds)
  | dic {a : Addr} {kvs : List (Key × V)} {ds : List (D × D)} : ¬ M a → H a = some (.dK kvs) → RpK K M H kvs ds → Rp K M H (.ref a) (.dict ds)
inductive RpA (K : Fg) (M : Addr → Prop) (H : Hp) : List V → List D → Prop
  | nil : RpA K M H [] []
  | cons {v : V} {d : D} {vs : List V} {ds : List D} : Rp K M H v d → RpA K M H vs ds → RpA K M H (v :: vs) (d :: ds)
inductive RpK (K : Fg) (M : Addr → Prop) (H : Hp) : List (Key × V) → List (D × D) → Prop
  | nil : RpK K M H [] []
  | cons {k : Key} {v : V} {d : D} {vs : List (Key × V)} {ds : List (D × D)} : Rp K M H v d → RpK K M H vs ds → RpK K M H ((k, v) :: vs) ((kD k, d) :: ds)
end
/-- what stood apart stands, and apart -/
def GoH (M : Addr → Prop) (H : Hp) (M' : Addr → Prop) (H' : Hp) : Prop := ∀ a o, ¬ M a → H a = some o → ¬ M' a ∧ H' a = some o
theorem GoH.refl {M : Addr → Prop} {H : Hp} : GoH M H M H := fun _ _ h e => ⟨h, e⟩
theorem GoH.trans {M M1 M2 : Addr → Prop} {H H1 H2 : Hp} (g : GoH M H M1 H1) (g' : GoH M1 H1 M2 H2) : GoH M H M2 H2 := fun a o h e => g' a o (g a o h e).1 (g a o h e).2
section
variable {K : Fg} {M M' : Addr → Prop} {H H' : Hp}
theorem Rd.go {a : Addr} {u : HO} (g : GoH M H M' H') (n : ¬ M a) (r : Rd H a u) : ¬ M' a ∧ Rd H' a u := by
  rcases r with r | ⟨o, r⟩
  · exact ⟨(g a _ n r).1, .inl (g a _ n r).2⟩
  · exact ⟨(g a _ n r).1, .inr ⟨o, (g a _ n r).2⟩⟩
theorem LsA.go {a : Addr} {xs : List V} (g : GoH M H M' H') (h : LsA K M H a xs) : LsA K M' H' a xs := h.elim (fun z => .inl (Rd.go g z.1 z.2)) .inr
theorem TsA.go {a : Addr} {xs : List V} (g : GoH M H M' H') (h : TsA K M H a xs) : TsA K M' H' a xs := h.elim (fun z => .inl (Rd.go g z.1 z.2)) .inr
theorem Rp.go (g : GoH M H M' H') {v : V} {d : D} (r : Rp K M H v d) : Rp K M' H' v d :=
  Rp.rec (motive_1 := fun v d _ => Rp K M' H' v d) (motive_2 := fun vs ds _ => RpA K M' H' vs ds) (motive_3 := fun vs ds _ => RpK K M' H' vs ds)
    .non .bl .int .str (fun h _ i => .lst (h.go g) i) (fun h _ i => .tup (h.go g) i) (fun n h _ i => .dic (g _ _ n h).1 (g _ _ n h).2 i)
    .nil (fun _ _ a b => .cons a b) .nil (fun _ _ a b => .cons a b) r
theorem RpA.go (g : GoH M H M' H') : ∀ {vs : List V} {ds : List D}, RpA K M H vs ds → RpA K M' H' vs ds
  | _, _, .nil => .nil
  | _, _, .cons a b => .cons (a.go g) (b.go g)
theorem RpK.go (g : GoH M H M' H') : ∀ {vs : List (Key × V)} {ds : List (D × D)}, RpK K M H vs ds → RpK K M' H' vs ds
  | _, _, .nil => .nil
  | _, _, .cons a b => .cons (a.go g) (b.go g)
theorem RpA.len : ∀ {vs : List V} {ds : List D}, RpA K M H vs ds → vs.length = ds.length
  | _, _, .nil => rfl
  | _, _, .cons _ b => congrArg (· + 1) b.len
theorem RpA.get : ∀ {vs : List V} {ds : List D} {i : Nat} {d : D}, RpA K M H vs ds → ds[i]? = some d → ∃ v, vs[i]? = some v ∧ Rp K M H v d
  | _, _, _, _, .nil, e => by simp at e
  | _, _, 0, _, .cons a _, e => by simp at e; subst e; exact ⟨_, rfl, a⟩
  | _, _, i + 1, d, .cons _ b, e => by
    obtain ⟨u, h1, h2⟩ := b.get (i := i) (d := d) (by simpa using e)
    exact ⟨u, by simpa using h1, h2⟩
theorem RpA.getV : ∀ {vs : List V} {ds : List D} {i : Nat} {v : V}, RpA K M H vs ds → vs[i]? = some v → ∃ d, ds[i]? = some d ∧ Rp K M H v d
  | _, _, _, _, .nil, e => by simp at e
  | _, _, 0, _, .cons a _, e => by simp at e; subst e; exact ⟨_, rfl, a⟩
  | _, _, i + 1, d, .cons _ b, e => by
    obtain ⟨u, h1, h2⟩ := b.getV (i := i) (v := d) (by simpa using e)
    exact ⟨u, by simpa using h1, h2⟩
theorem RpA.app : ∀ {vs us : List V} {ds es : List D}, RpA K M H vs ds → RpA K M H us es → RpA K M H (vs ++ us) (ds ++ es)
  | _, _, _, _, .nil, h => h
  | _, _, _, _, .cons a b, h => .cons a (b.app h)
theorem RpA.take : ∀ (n : Nat) {vs : List V} {ds : List D}, RpA K M H vs ds → RpA K M H (vs.take n) (ds.take n)
  | 0, _, _, _ => .nil
  | _ + 1, _, _, .nil => .nil
  | n + 1, _, _, .cons a b => .cons a (b.take n)
theorem RpA.drop : ∀ (n : Nat) {vs : List V} {ds : List D}, RpA K M H vs ds → RpA K M H (vs.drop n) (ds.drop n)
  | 0, _, _, h => h
  | _ + 1, _, _, .nil => .nil
  | n + 1, _, _, .cons _ b => b.drop n
theorem RpA.rev : ∀ {vs : List V} {ds : List D}, RpA K M H vs ds → RpA K M H vs.reverse ds.reverse
  | _, _, .nil => .nil
  | _, _, .cons a b => by
    rw [List.reverse_cons, List.reverse_cons]
    exact b.rev.app (.cons a .nil)
theorem rp_int {v : V} {i : Int} (r : Rp K M H v (.int i)) : v = .int i := by cases r; rfl
theorem rp_bl {v : V} {i : Bool} (r : Rp K M H v (.bool i)) : v = .bl i := by cases r; rfl
theorem rp_str {v : V} {i : Str} (r : Rp K M H v (.str i)) : v = .str i := by cases r; rfl
theorem rp_non {v : V} (r : Rp K M H v .none) : v = .non := by cases r; rfl
theorem rp_lst {v : V} {ds : List D} (r : Rp K M H v (.list ds)) : ∃ a xs, v = .ref a ∧ LsA K M H a xs ∧ RpA K M H xs ds := by
  cases r with | lst h1 h2 => exact ⟨_, _, rfl, h1, h2⟩
theorem rp_tup {v : V} {ds : List D} (r : Rp K M H v (.tuple ds)) : ∃ a xs, v = .ref a ∧ TsA K M H a xs ∧ RpA K M H xs ds := by
  cases r with | tup h1 h2 => exact ⟨_, _, rfl, h1, h2⟩
theorem rpA_ints : ∀ {vs : List V} {ns : List Int}, RpA K M H vs (ns.map PyData.int) → vs = ns.map V.int
  | [], [], _ => rfl
  | [], _ :: _, h => by cases h
  | _ :: _, [], h => by cases h
  | v :: vs, n :: ns, h => by
    cases h with | cons a b =>
    rw [rp_int a, rpA_ints b] <;> rfl
theorem rpA_strs : ∀ {vs : List V} {ns : List Str}, RpA K M H vs (ns.map PyData.str) → vs = ns.map V.str
  | [], [], _ => rfl
  | [], _ :: _, h => by cases h
  | _ :: _, [], h => by cases h
  | v :: vs, n :: ns, h => by
    cases h with | cons a b =>
    rw [rp_str a, rpA_strs b] <;> rfl
theorem rpA_bls : ∀ {vs : List V} {ns : List Bool}, RpA K M H vs (ns.map PyData.bool) → vs = ns.map V.bl
  | [], [], _ => rfl
  | [], _ :: _, h => by cases h
  | _ :: _, [], h => by cases h
  | v :: vs, n :: ns, h => by
    cases h with | cons a b =>
    rw [rp_bl a, rpA_bls b] <;> rfl
theorem rpA_int : ∀ (ns : List Int), RpA K M H (ns.map V.int) (ns.map PyData.int)
  | [] => .nil
  | n :: ns => .cons (.int n) (rpA_int ns)
end
/-- scalars -/
inductive Sc : V → D → Prop
  | non : Sc .non .none
  | bl (b : Bool) : Sc (.bl b) (.bool b)
  | int (i : Int) : Sc (.int i) (.int i)
  | str (x : Str) : Sc (.str x) (.str x)
theorem Sc.rp {K : Fg} {M : Addr → Prop} {H : Hp} {v : V} {d : D} (s : Sc v d) : Rp K M H v d := by
  cases s
  · exact .non
  · exact .bl _
  · exact .int _
  · exact .str _

/-! ### frames and slots -/
/-- a purse with room for n more draws -/
def PuOk (H : Hp) (a : Addr) (n : Nat) : Prop := ∃ x b c : Int, H a = some (.lst [.int x, .int b, .int c]) ∧ 0 ≤ x ∧ 0 ≤ b ∧ b < 2147483629 ∧ 0 ≤ c ∧ c + n ≤ 8000000
structure Ct where
  K : Fg
  pp : Bool
structure Fr where
  H0 : Hp
  S0 : Addr → Prop
  M0 : Addr → Prop
  p : Addr
  st : Bool
inductive Y where
  | d (d : D)
  | pu (n : Nat)
  | own (ds : List D)
def Y.o : Y → Bool
  | .d _ => false
  | _ => true
abbrev S := List (Option Y)
inductive Z where
  | d (d : D)
  | ptr (i : Nat)
def isO (y : S) (i : Nat) : Bool := match y[i]? with
  | some (some z) => z.o
  | _ => false
def Own (σ : St) (y : S) (a : Addr) : Prop := ∃ i, isO y i = true ∧ σ[i]? = some (some (.ref a))
def Mv (F : Fr) (σ : St) (y : S) (a : Addr) : Prop := F.M0 a ∨ Own σ y a
def SlotOk (K : Fg) (M : Addr → Prop) (H : Hp) (v : Option (Option V)) : Y → Prop
  | .d d => ∃ x, v = some (some x) ∧ Rp K M H x d
  | .pu n => ∃ a, v = some (some (.ref a)) ∧ PuOk H a n
  | .own ds => ∃ a xs, v = some (some (.ref a)) ∧ H a = some (.lst xs) ∧ RpA K M H xs ds
structure Wd (C : Ct) (F : Fr) (σ : St) (y : S) (H : Hp) : Prop where
  keep : ∀ a o, ¬ F.S0 a → F.H0 a = some o → H a = some o
  live0 : ∀ a, F.M0 a → F.H0 a ≠ none
  live : ∀ a, F.M0 a → H a ≠ none
  len : σ.length = y.length
  slot : ∀ (i : Nat) (z : Y), y[i]? = some (some z) → SlotOk C.K (Mv F σ y) H σ[i]? z
  dist : ∀ (i j : Nat) (a : Addr), isO y i = true → isO y j = true → σ[i]? = some (some (.ref a)) → σ[j]? = some (some (.ref a)) → i = j
  frsh : ∀ a, Own σ y a → F.S0 a ∨ F.H0 a = none
  pin : C.pp = true → σ[0]? = some (some (.ref F.p))
  sm : ∀ a, F.S0 a → F.M0 a
  nb : F.st = true → ∀ (i : Nat) (a : Addr), isO y i = true → σ[i]? = some (some (.ref a)) → F.S0 a → i = 0 ∧ C.pp = true
abbrev Go (F : Fr) (σ : St) (y : S) (H : Hp) (σ' : St) (y' : S) (H' : Hp) : Prop := GoH (Mv F σ y) H (Mv F σ' y') H'
def Sh (y y' : S) : Prop := ∀ i, isO y' i = isO y i
theorem Sh.refl (y : S) : Sh y y := fun _ => rfl
theorem Sh.trans {y y1 y2 : S} (a : Sh y y1) (b : Sh y1 y2) : Sh y y2 := fun i => (b i).trans (a i)
def Rz (C : Ct) (F : Fr) (σ : St) (y : S) (H : Hp) (v : V) : Z → Prop
  | .d d => Rp C.K (Mv F σ y) H v d
  | .ptr i => isO y i = true ∧ σ[i]? = some (some v)
inductive RzA (C : Ct) (F : Fr) (σ : St) (y : S) (H : Hp) : List V → List Z → Prop
  | nil : RzA C F σ y H [] []
  | cons {v : V} {z : Z} {vs : List V} {zs : List Z} : Rz C F σ y H v z → RzA C F σ y H vs zs → RzA C F σ y H (v :: vs) (z :: zs)
section
variable {C : Ct} {F : Fr} {σ : St} {y y' : S} {H H' : Hp}
theorem Rz.go {v : V} {z : Z} (g : Go F σ y H σ y' H') (s : Sh y y') (r : Rz C F σ y H v z) : Rz C F σ y' H' v z := by
  cases z with
  | d d => exact Rp.go g r
  | ptr i => exact ⟨(s i).trans r.1, r.2⟩
theorem RzA.go (g : Go F σ y H σ y' H') (s : Sh y y') : ∀ {vs : List V} {zs : List Z}, RzA C F σ y H vs zs → RzA C F σ y' H' vs zs
  | _, _, .nil => .nil
  | _, _, .cons a b => .cons (Rz.go g s a) (b.go g s)
theorem RzA.ds : ∀ {vs : List V} {ds : List D}, RzA C F σ y H vs (ds.map Z.d) → RpA C.K (Mv F σ y) H vs ds
  | [], [], _ => .nil
  | [], _ :: _, h => by cases h
  | _ :: _, [], h => by cases h
  | v :: vs, n :: ns, h => by
    cases h with | cons a b => exact .cons a b.ds
/-- a fresh address is apart -/
theorem Wd.new (w : Wd C F σ y H) {p : Addr} (h : H p = none) : ¬ Mv F σ y p := by
  rintro (z | ⟨i, hi, e⟩)
  · exact w.live p z h
  · cases q : y[i]? with
    | none => unfold isO at hi; rw [q] at hi; cases hi
    | some o =>
      cases o with
      | none => unfold isO at hi; rw [q] at hi; cases hi
      | some z =>
        have s := w.slot i z q
        cases z with
        | d d => unfold isO at hi; rw [q] at hi; cases hi
        | pu n =>
          obtain ⟨a, ea, x, b, c, ha, _⟩ := s
          rw [e] at ea; cases ea
          rw [h] at ha; cases ha
        | own ds =>
          obtain ⟨a, xs, ea, ha, _⟩ := s
          rw [e] at ea; cases ea
          rw [h] at ha; cases ha
/-- the heap grows, apart from what may change; what may change stays as it is -/
theorem Wd.grow (w : Wd C F σ y H) (g : ∀ a o, H a = some o → H' a = some o) : Wd C F σ y H' := by
  refine ⟨fun a o n e => g _ _ (w.keep a o n e), w.live0, fun a m e => ?_, w.len, fun i z e => ?_, w.dist, w.frsh, w.pin, w.sm, w.nb⟩
  · cases q : H a with
    | none => exact w.live a m q
    | some o => rw [g a o q] at e; cases e
  · have s := w.slot i z e
    have gg : GoH (Mv F σ y) H (Mv F σ y) H' := fun a o n e => ⟨n, g a o e⟩
    cases z with
    | d d => obtain ⟨x, h1, h2⟩ := s; exact ⟨x, h1, h2.go gg⟩
    | pu n => obtain ⟨a, h1, x, b, c, h2, h3⟩ := s; exact ⟨a, h1, x, b, c, g _ _ h2, h3⟩
    | own ds => obtain ⟨a, xs, h1, h2, h3⟩ := s; exact ⟨a, xs, h1, g _ _ h2, h3.go gg⟩
theorem go_grow (g : ∀ a o, H a = some o → H' a = some o) : Go F σ y H σ y H' := fun a o n e => ⟨n, g a o e⟩
theorem grow_upd {p : Addr} {o : HO} (h : H p = none) : ∀ a u, H a = some u → upd H p o a = some u := fun a u e => by
  rw [upd_ne (ne_of_none e h)]; exact e
end

/-! ### the wp over data -/
section
variable (C : Ct)
def wE (te : TE) (y : S) (Q : Z → S → Prop) : Prop := ∀ (F : Fr) σ H (K : VK), Wd C F σ y H → (∀ v H' z y', Wd C F σ y' H' → Go F σ y H σ y' H' → Sh y y' → Rz C F σ y' H' v z → Q z y' → K v H') → te σ H K
def wT (tt : TT) (y : S) (Q : Bool → S → Prop) : Prop := ∀ (F : Fr) σ H (K : Bool → Hp → Prop), Wd C F σ y H → (∀ b H' y', Wd C F σ y' H' → Go F σ y H σ y' H' → Sh y y' → Q b y' → K b H') → tt σ H K
def wO (to : TO) (y : S) (Q : Option Int → S → Prop) : Prop := ∀ (F : Fr) σ H (K : Option Int → Hp → Prop), Wd C F σ y H → (∀ b H' y', Wd C F σ y' H' → Go F σ y H σ y' H' → Sh y y' → Q b y' → K b H') → to σ H K
structure En where
  nx : S → Prop
  rt : Z → S → Prop
  bk : S → Prop := fun _ => False
  ct : S → Prop := fun _ => False
structure EnOk (F : Fr) (σ : St) (y : S) (H : Hp) (e : En) (E : Ends) : Prop where
  nx : ∀ σ' H' y', Wd C F σ' y' H' → Go F σ y H σ' y' H' → e.nx y' → E.nx σ' H'
  rt : ∀ σ' v H' z y', Wd C F σ' y' H' → Go F σ y H σ' y' H' → Rz C F σ' y' H' v z → e.rt z y' → E.rt v H'
  bk : ∀ σ' H' y', Wd C F σ' y' H' → Go F σ y H σ' y' H' → e.bk y' → E.bk σ' H'
  ct : ∀ σ' H' y', Wd C F σ' y' H' → Go F σ y H σ' y' H' → e.ct y' → E.ct σ' H'
def wS (ts : TS) (y : S) (e : En) : Prop := ∀ (F : Fr) σ H (E : Ends), F.st = true → Wd C F σ y H → EnOk C F σ y H e E → ts E σ H
end
end Tq

set_option maxRecDepth 100000
set_option maxHeartbeats 2000000
namespace Tq
open PySem PySem.Spec PyProof.Rows L2
/-! ### storing in a slot -/
section
variable {C : Ct} {F : Fr} {σ : St} {y y' : S} {H H' : Hp}
theorem isO_set {i j : Nat} {u : Option Y} (h : isO (y.set i u) j = true) : (j = i ∧ i < y.length ∧ ∃ z, u = some z ∧ z.o = true) ∨ (j ≠ i ∧ isO y j = true) ∨ (j = i ∧ y.length ≤ i) := by
  by_cases e : j = i
  · by_cases hl : i < y.length
    · refine .inl ⟨e, hl, ?_⟩
      subst e
      unfold isO at h
      rw [List.getElem?_set_self hl] at h
      cases u with
      | none => cases h
      | some z => exact ⟨z, rfl, h⟩
    · exact .inr (.inr ⟨e, by omega⟩)
  · refine .inr (.inl ⟨e, ?_⟩)
    unfold isO at h ⊢
    rw [List.getElem?_set_ne (Ne.symm e)] at h
    exact h
theorem isO_lt {i : Nat} (h : isO y i = true) : i < y.length := by
  unfold isO at h
  cases q : y[i]? with
  | none => rw [q] at h; cases h
  | some o => exact (List.getElem?_eq_some_iff.mp q).1
theorem isO_set_d {i j : Nat} {d : D} (h : isO (y.set i (some (.d d))) j = true) : j ≠ i ∧ isO y j = true := by
  rcases isO_set h with ⟨_, _, z, e, o⟩ | h | ⟨e, l⟩
  · cases e; cases o
  · exact h
  · have := isO_lt h; rw [List.length_set] at this; omega
theorem Mv_set_d {i : Nat} {v : Option V} {d : D} {a : Addr} (h : Mv F (σ.set i v) (y.set i (some (.d d))) a) : Mv F σ y a := by
  rcases h with h | ⟨j, hj, e⟩
  · exact .inl h
  · obtain ⟨n, o⟩ := isO_set_d hj
    rw [List.getElem?_set_ne (Ne.symm n)] at e
    exact .inr ⟨j, o, e⟩
theorem go_set_d {i : Nat} {v : Option V} {d : D} : Go F σ y H (σ.set i v) (y.set i (some (.d d))) H := fun a o n e => ⟨fun z => n (Mv_set_d z), e⟩
theorem Wd.set_d (w : Wd C F σ y H) {i : Nat} {v : V} {d : D} (hp : i ≠ 0 ∨ C.pp = false) (r : Rp C.K (Mv F σ y) H v d) : Wd C F (σ.set i (some v)) (y.set i (some (.d d))) H := by
  have g : Go F σ y H (σ.set i (some v)) (y.set i (some (.d d))) H := go_set_d
  refine ⟨w.keep, w.live0, w.live, by rw [List.length_set, List.length_set]; exact w.len, fun j z e => ?_, fun j k a h1 h2 e1 e2 => ?_, fun a h => ?_, fun e => ?_, w.sm, fun st j a h e s => ?_⟩
  · by_cases n : j = i
    · subst n
      have hl : j < y.length := by
        have := (List.getElem?_eq_some_iff.mp e).1
        rw [List.length_set] at this; exact this
      rw [List.getElem?_set_self hl] at e
      cases e
      refine ⟨v, ?_, r.go g⟩
      rw [List.getElem?_set_self (by rw [w.len]; exact hl)]
    · rw [List.getElem?_set_ne (Ne.symm n)] at e ⊢
      have s := w.slot j z e
      cases z with
      | d d => obtain ⟨x, h1, h2⟩ := s; exact ⟨x, h1, h2.go g⟩
      | pu n => exact s
      | own ds => obtain ⟨a, xs, h1, h2, h3⟩ := s; exact ⟨a, xs, h1, h2, h3.go g⟩
  · obtain ⟨n1, o1⟩ := isO_set_d h1
    obtain ⟨n2, o2⟩ := isO_set_d h2
    rw [List.getElem?_set_ne (Ne.symm n1)] at e1
    rw [List.getElem?_set_ne (Ne.symm n2)] at e2
    exact w.dist j k a o1 o2 e1 e2
  · obtain ⟨j, hj, e⟩ := h
    obtain ⟨n1, o1⟩ := isO_set_d hj
    rw [List.getElem?_set_ne (Ne.symm n1)] at e
    exact w.frsh a ⟨j, o1, e⟩
  · rcases hp with hp | hp
    · rw [List.getElem?_set_ne hp]; exact w.pin e
    · rw [hp] at e; cases e
  · obtain ⟨n1, o1⟩ := isO_set_d h
    rw [List.getElem?_set_ne (Ne.symm n1)] at e
    exact w.nb st j a o1 e s
end

/-! ### expressions -/
section
variable {C : Ct} {y : S} {ta tb tc te : TE} {Q : Z → S → Prop}
theorem wE_var {i : Nat} {d : D} (h : y[i]? = some (some (.d d))) (q : Q (.d d) y) : wE C (tVar i) y Q := fun F σ H K w k => by
  obtain ⟨x, h1, h2⟩ := w.slot i _ h
  exact ⟨x, h1, k x H (.d d) y w GoH.refl (Sh.refl y) h2 q⟩
theorem wE_ptr {i : Nat} (h : isO y i = true) (q : Q (.ptr i) y) : wE C (tVar i) y Q := fun F σ H K w k => by
  unfold isO at h
  cases e : y[i]? with
  | none => rw [e] at h; cases h
  | some o =>
    cases o with
    | none => rw [e] at h; cases h
    | some z =>
      have hO : isO y i = true := by unfold isO; rw [e]; rw [e] at h; exact h
      have s := w.slot i z e
      cases z with
      | d d => rw [e] at h; cases h
      | pu n => obtain ⟨a, h1, _⟩ := s; exact ⟨_, h1, k _ H (.ptr i) y w GoH.refl (Sh.refl y) ⟨hO, h1⟩ q⟩
      | own ds => obtain ⟨a, xs, h1, _⟩ := s; exact ⟨_, h1, k _ H (.ptr i) y w GoH.refl (Sh.refl y) ⟨hO, h1⟩ q⟩
theorem wE_sc {v : V} {d : D} (s : Sc v d) (q : Q (.d d) y) : wE C (tC v) y Q := fun F σ H K w k => k v H (.d d) y w GoH.refl (Sh.refl y) s.rp q
theorem wE_int {i : Int} (q : Q (.d (.int i)) y) : wE C (tC (.int i)) y Q := wE_sc (.int i) q
theorem wE_str {i : Str} (q : Q (.d (.str i)) y) : wE C (tC (.str i)) y Q := wE_sc (.str i) q
theorem wE_bl {i : Bool} (q : Q (.d (.bool i)) y) : wE C (tC (.bl i)) y Q := wE_sc (.bl i) q
theorem wE_non (q : Q (.d .none) y) : wE C (tC .non) y Q := wE_sc .non q
theorem wE_mono {R : Z → S → Prop} (h : wE C te y Q) (q : ∀ z y', Q z y' → R z y') : wE C te y R := fun F σ H K w k => h F σ H K w fun v H' z y' a b c d e => k v H' z y' a b c d (q z y' e)
/-- a fact over the data, a new heap that only grows -/
def OpD (K : Fg) (r : R2) (res : D → D → D → Prop) : Prop := ∀ (M : Addr → Prop) (H : Hp) (x y : V) (d e g : D) (Q : VK), (∀ a, H a = none → ¬ M a) → Rp K M H x d → Rp K M H y e → res d e g →
  (∀ v H', (∀ a o, H a = some o → H' a = some o) → Rp K M H' v g → Q v H') → r x y H Q
theorem wE_op {r : R2} {res : D → D → D → Prop} (h : OpD C.K r res) (w : wE C ta y fun z y1 => wE C tb y1 fun z' y2 => ∃ d e g, z = .d d ∧ z' = .d e ∧ res d e g ∧ Q (.d g) y2) : wE C (tOp r ta tb) y Q := by
  intro F σ H K wd k
  refine w F σ H _ wd fun x H1 z y1 w1 g1 s1 r1 q1 => ?_
  refine q1 F σ H1 _ w1 fun x2 H2 z' y2 w2 g2 s2 r2 q2 => ?_
  obtain ⟨d, e, g, rfl, rfl, hres, hq⟩ := q2
  refine h (Mv F σ y2) H2 x x2 d e g K (fun a => w2.new) (Rp.go g2 r1) r2 hres fun v H3 gr rv => ?_
  exact k v H3 (.d g) y2 (w2.grow gr) ((g1.trans g2).trans (go_grow gr)) (s1.trans s2) rv hq
theorem opD_I {C : Int → Int → Prop} {g : Int → Int → V} {gd : Int → Int → D} (hg : ∀ i j, Sc (g i j) (gd i j)) {K : Fg} : OpD K (rI C g) (fun d e r => ∃ i j, d = .int i ∧ e = .int j ∧ C i j ∧ r = gd i j) := by
  rintro M H x y d e r Q _ rx ry ⟨i, j, rfl, rfl, c, rfl⟩ k
  exact ⟨i, j, rp_int rx, rp_int ry, c, k _ H (fun _ _ e => e) (hg i j).rp⟩
theorem opD_I0 {g : Int → Int → V} {gd : Int → Int → D} (hg : ∀ i j, Sc (g i j) (gd i j)) {K : Fg} : OpD K (rI0 g) (fun d e r => ∃ i j, d = .int i ∧ e = .int j ∧ r = gd i j) := by
  rintro M H x y d e r Q _ rx ry ⟨i, j, rfl, rfl, rfl⟩ k
  exact ⟨i, j, rp_int rx, rp_int ry, k _ H (fun _ _ e => e) (hg i j).rp⟩
theorem wE_I {P : Int → Int → Prop} {g : Int → Int → V} (gd : Int → Int → D) (hg : ∀ i j, Sc (g i j) (gd i j)) (w : wE C ta y fun z y1 => wE C tb y1 fun z' y2 => ∃ i j, z = .d (.int i) ∧ z' = .d (.int j) ∧ P i j ∧ Q (.d (gd i j)) y2) : wE C (tOp (rI P g) ta tb) y Q :=
  wE_op (opD_I hg) (wE_mono w fun z y1 h => wE_mono h fun z' y2 ⟨i, j, e1, e2, c, q⟩ => ⟨_, _, _, e1, e2, ⟨i, j, rfl, rfl, c, rfl⟩, q⟩)
theorem wE_I0 {g : Int → Int → V} (gd : Int → Int → D) (hg : ∀ i j, Sc (g i j) (gd i j)) (w : wE C ta y fun z y1 => wE C tb y1 fun z' y2 => ∃ i j, z = .d (.int i) ∧ z' = .d (.int j) ∧ Q (.d (gd i j)) y2) : wE C (tOp (rI0 g) ta tb) y Q :=
  wE_op (opD_I0 hg) (wE_mono w fun z y1 h => wE_mono h fun z' y2 ⟨i, j, e1, e2, q⟩ => ⟨_, _, _, e1, e2, ⟨i, j, rfl, rfl, rfl⟩, q⟩)
theorem wE_add (w : wE C ta y fun z y1 => wE C tb y1 fun z' y2 => ∃ i j, z = .d (.int i) ∧ z' = .d (.int j) ∧ Q (.d (.int (i + j))) y2) : wE C (tOp (rI0 fun i j => .int (i + j)) ta tb) y Q := wE_I0 _ (fun _ _ => .int _) w
theorem wE_sub (w : wE C ta y fun z y1 => wE C tb y1 fun z' y2 => ∃ i j, z = .d (.int i) ∧ z' = .d (.int j) ∧ Q (.d (.int (i - j))) y2) : wE C (tOp (rI0 fun i j => .int (i - j)) ta tb) y Q := wE_I0 _ (fun _ _ => .int _) w
theorem wE_lt (w : wE C ta y fun z y1 => wE C tb y1 fun z' y2 => ∃ i j, z = .d (.int i) ∧ z' = .d (.int j) ∧ Q (.d (.bool (decide (i < j)))) y2) : wE C (tOp (rI0 fun i j => .bl (decide (i < j))) ta tb) y Q := wE_I0 (fun i j => .bool (decide (i < j))) (fun _ _ => .bl _) w
theorem wE_le (w : wE C ta y fun z y1 => wE C tb y1 fun z' y2 => ∃ i j, z = .d (.int i) ∧ z' = .d (.int j) ∧ Q (.d (.bool (decide (i ≤ j)))) y2) : wE C (tOp (rI0 fun i j => .bl (decide (i ≤ j))) ta tb) y Q := wE_I0 (fun i j => .bool (decide (i ≤ j))) (fun _ _ => .bl _) w
theorem wE_gt (w : wE C ta y fun z y1 => wE C tb y1 fun z' y2 => ∃ i j, z = .d (.int i) ∧ z' = .d (.int j) ∧ Q (.d (.bool (decide (j < i)))) y2) : wE C (tOp (rI0 fun i j => .bl (decide (j < i))) ta tb) y Q := wE_I0 (fun i j => .bool (decide (j < i))) (fun _ _ => .bl _) w
theorem wE_ge (w : wE C ta y fun z y1 => wE C tb y1 fun z' y2 => ∃ i j, z = .d (.int i) ∧ z' = .d (.int j) ∧ Q (.d (.bool (decide (j ≤ i)))) y2) : wE C (tOp (rI0 fun i j => .bl (decide (j ≤ i))) ta tb) y Q := wE_I0 (fun i j => .bool (decide (j ≤ i))) (fun _ _ => .bl _) w
theorem wE_mulW (w : wE C ta y fun z y1 => wE C tb y1 fun z' y2 => ∃ i j, z = .d (.int i) ∧ z' = .d (.int j) ∧ CMulW i j ∧ Q (.d (.int (i * j))) y2) : wE C (tOp (rI CMulW fun i j => .int (i * j)) ta tb) y Q := wE_I _ (fun _ _ => .int _) w
theorem wE_mul (w : wE C ta y fun z y1 => wE C tb y1 fun z' y2 => ∃ i j, z = .d (.int i) ∧ z' = .d (.int j) ∧ CMul i j ∧ Q (.d (.int (i * j))) y2) : wE C (tOp (rI CMul fun i j => .int (i * j)) ta tb) y Q := wE_I _ (fun _ _ => .int _) w
theorem wE_mod (w : wE C ta y fun z y1 => wE C tb y1 fun z' y2 => ∃ i j, z = .d (.int i) ∧ z' = .d (.int j) ∧ 0 < j ∧ Q (.d (.int (i % j))) y2) : wE C (tOp (rI (fun _ j => 0 < j) fun i j => .int (i % j)) ta tb) y Q := wE_I _ (fun _ _ => .int _) w
theorem wE_pow (w : wE C ta y fun z y1 => wE C tb y1 fun z' y2 => ∃ i j, z = .d (.int i) ∧ z' = .d (.int j) ∧ CPow i j ∧ Q (.d (.int (i ^ j.toNat))) y2) : wE C (tOp (rI CPow fun i j => .int (i ^ j.toNat)) ta tb) y Q := wE_I _ (fun _ _ => .int _) w
theorem wE_fdivW (w : wE C ta y fun z y1 => wE C tb y1 fun z' y2 => ∃ i j, z = .d (.int i) ∧ z' = .d (.int j) ∧ CDivW i j ∧ Q (.d (.int (i / j))) y2) : wE C (tOp (rI CDivW fun i j => .int (i / j)) ta tb) y Q := wE_I _ (fun _ _ => .int _) w
theorem wE_neg (w : wE C ta y fun z y1 => ∃ i, z = .d (.int i) ∧ Q (.d (.int (-i))) y1) : wE C (tUn (rU fun i => .int (-i)) ta) y Q := by
  intro F σ H K wd k
  refine w F σ H _ wd fun x H1 z y1 w1 g1 s1 r1 q1 => ?_
  obtain ⟨i, rfl, q⟩ := q1
  exact ⟨i, rp_int r1, k _ H1 (.d (.int (-i))) y1 w1 g1 s1 (.int _) q⟩
theorem wE_S0 {α : Type} {g : Str → Str → V} (gd : Str → Str → D) (hg : ∀ i j, Sc (g i j) (gd i j)) (w : wE C ta y fun z y1 => wE C tb y1 fun z' y2 => ∃ i j, z = .d (.str i) ∧ z' = .d (.str j) ∧ Q (.d (gd i j)) y2) : wE C (tOp (fun x y H Q => ∃ i j, x = .str i ∧ y = .str j ∧ Q (g i j) H) ta tb) y Q := by
  refine wE_op (res := fun d e r => ∃ i j, d = .str i ∧ e = .str j ∧ r = gd i j) ?_ (wE_mono w fun z y1 h => wE_mono h fun z' y2 ⟨i, j, e1, e2, q⟩ => ⟨_, _, _, e1, e2, ⟨i, j, rfl, rfl, rfl⟩, q⟩)
  rintro M H x y d e r Q _ rx ry ⟨i, j, rfl, rfl, rfl⟩ k
  exact ⟨i, j, rp_str rx, rp_str ry, k _ H (fun _ _ e => e) (hg i j).rp⟩
theorem wE_ltS (w : wE C ta y fun z y1 => wE C tb y1 fun z' y2 => ∃ i j, z = .d (.str i) ∧ z' = .d (.str j) ∧ Q (.d (.bool (decide (i.cps.toList < j.cps.toList)))) y2) :
    wE C (tOp (fun x y H Q => ∃ i j, x = .str i ∧ y = .str j ∧ Q (.bl (decide (i.cps.toList < j.cps.toList))) H) ta tb) y Q := wE_S0 (α := Unit) (fun i j => .bool (decide (i.cps.toList < j.cps.toList))) (fun _ _ => .bl _) w
theorem wE_leS (w : wE C ta y fun z y1 => wE C tb y1 fun z' y2 => ∃ i j, z = .d (.str i) ∧ z' = .d (.str j) ∧ Q (.d (.bool (!decide (j.cps.toList < i.cps.toList)))) y2) :
    wE C (tOp (fun x y H Q => ∃ i j, x = .str i ∧ y = .str j ∧ Q (.bl (!decide (j.cps.toList < i.cps.toList))) H) ta tb) y Q := wE_S0 (α := Unit) (fun i j => .bool (!decide (j.cps.toList < i.cps.toList))) (fun _ _ => .bl _) w
theorem wE_addS (w : wE C ta y fun z y1 => wE C tb y1 fun z' y2 => ∃ i j, z = .d (.str i) ∧ z' = .d (.str j) ∧ i.length + j.length ≤ sizeLine ∧ Q (.d (.str (i ++ j))) y2) :
    wE C (tOp (fun x y H Q => ∃ i j, x = .str i ∧ y = .str j ∧ i.length + j.length ≤ sizeLine ∧ Q (.str (i ++ j)) H) ta tb) y Q := by
  refine wE_op (res := fun d e r => ∃ i j, d = .str i ∧ e = .str j ∧ i.length + j.length ≤ sizeLine ∧ r = .str (i ++ j)) ?_ (wE_mono w fun z y1 h => wE_mono h fun z' y2 ⟨i, j, e1, e2, c, q⟩ => ⟨_, _, _, e1, e2, ⟨i, j, rfl, rfl, c, rfl⟩, q⟩)
  rintro M H x y d e r Q _ rx ry ⟨i, j, rfl, rfl, c, rfl⟩ k
  exact ⟨i, j, rp_str rx, rp_str ry, c, k _ H (fun _ _ e => e) (.str _)⟩
theorem wE_inSign (w : wE C ta y fun z y1 => wE C tb y1 fun z' y2 => ∃ (c : Nat) (j : Str), z = .d (.str ⟨#[c]⟩) ∧ z' = .d (.str j) ∧ Q (.d (.bool (decide (c ∈ j.cps.toList)))) y2) :
    wE C (tOp (fun x y H Q => ∃ (c : Nat) (z : Str), x = .str ⟨#[c]⟩ ∧ y = .str z ∧ Q (.bl (decide (c ∈ z.cps.toList))) H) ta tb) y Q := by
  refine wE_op (res := fun d e r => ∃ (c : Nat) (j : Str), d = .str ⟨#[c]⟩ ∧ e = .str j ∧ r = .bool (decide (c ∈ j.cps.toList))) ?_ (wE_mono w fun z y1 h => wE_mono h fun z' y2 ⟨i, j, e1, e2, q⟩ => ⟨_, _, _, e1, e2, ⟨i, j, rfl, rfl, rfl⟩, q⟩)
  rintro M H x y d e r Q _ rx ry ⟨i, j, rfl, rfl, rfl⟩ k
  exact ⟨i, j, rp_str rx, rp_str ry, k _ H (fun _ _ e => e) (.bl _)⟩
/-- data without dicts, for == -/
theorem Rp.dp {K : Fg} {M : Addr → Prop} {H : Hp} {v : V} {d : D} (r : Rp K M H v d) : d.hasDict = false → Dp K H v d :=
  Rp.rec (motive_1 := fun v d _ => d.hasDict = false → Dp K H v d) (motive_2 := fun vs ds _ => PyData.hasDictAll ds = false → DpAll K H vs ds) (motive_3 := fun _ _ _ => True)
    (fun _ => .non) (fun b _ => .bl b) (fun b _ => .int b) (fun b _ => .str b)
    (fun h _ i e => .lst h.sq (i (by simpa only [PyData.hasDict] using e))) (fun h _ i e => .tup h.sq (i (by simpa only [PyData.hasDict] using e)))
    (fun _ _ _ _ e => by simp [PyData.hasDict] at e)
    (fun _ => .nil) (fun _ _ a b e => by
      simp only [PyData.hasDictAll, Bool.or_eq_false_iff] at e
      exact .cons (a e.1) (b e.2)) trivial (fun _ _ _ _ => trivial) r
theorem canLay_noDict {d : D} (h : SeqAt.shaped d = true) : d.hasDict = false := PyData.hasDict_of_canLay d (SeqAt.canLay_of_shaped h)
theorem wE_eqD (w : wE C ta y fun z y1 => wE C tb y1 fun z' y2 => ∃ d e, z = .d d ∧ z' = .d e ∧ SeqAt.shaped d = true ∧ SeqAt.shaped e = true ∧ Q (.d (.bool (PyData.eqv d e))) y2) : wE C (tOp (rEqD C.K) ta tb) y Q := by
  refine wE_op (res := fun d e r => SeqAt.shaped d = true ∧ SeqAt.shaped e = true ∧ r = .bool (PyData.eqv d e)) ?_ (wE_mono w fun z y1 h => wE_mono h fun z' y2 ⟨d, e, e1, e2, s1, s2, q⟩ => ⟨_, _, _, e1, e2, ⟨s1, s2, rfl⟩, q⟩)
  rintro M H x y d e r Q _ rx ry ⟨s1, s2, rfl⟩ k
  exact ⟨d, e, rx.dp (canLay_noDict s1), ry.dp (canLay_noDict s2), s1, s2, k _ H (fun _ _ e => e) (.bl _)⟩
theorem wE_neD (w : wE C ta y fun z y1 => wE C tb y1 fun z' y2 => ∃ d e, z = .d d ∧ z' = .d e ∧ SeqAt.shaped d = true ∧ SeqAt.shaped e = true ∧ Q (.d (.bool (!PyData.eqv d e))) y2) : wE C (tOp (rNeD C.K) ta tb) y Q := by
  refine wE_op (res := fun d e r => SeqAt.shaped d = true ∧ SeqAt.shaped e = true ∧ r = .bool (!PyData.eqv d e)) ?_ (wE_mono w fun z y1 h => wE_mono h fun z' y2 ⟨d, e, e1, e2, s1, s2, q⟩ => ⟨_, _, _, e1, e2, ⟨s1, s2, rfl⟩, q⟩)
  rintro M H x y d e r Q _ rx ry ⟨s1, s2, rfl⟩ k
  exact ⟨d, e, rx.dp (canLay_noDict s1), ry.dp (canLay_noDict s2), s1, s2, k _ H (fun _ _ e => e) (.bl _)⟩
theorem wE_isN (w : wE C ta y fun z y1 => wE C tb y1 fun z' y2 => ∃ d, z = .d d ∧ z' = .d .none ∧ Q (.d (.bool (match d with | .none => true | _ => false))) y2) :
    wE C (tOp (fun x y H Q => y = .non ∧ Q (.bl (decide (x = .non))) H) ta tb) y Q := by
  refine wE_op (res := fun d e r => e = .none ∧ r = .bool (match d with | .none => true | _ => false)) ?_ (wE_mono w fun z y1 h => wE_mono h fun z' y2 ⟨d, e1, e2, q⟩ => ⟨_, _, _, e1, e2, ⟨rfl, rfl⟩, q⟩)
  rintro M H x y d e r Q _ rx ry ⟨rfl, rfl⟩ k
  refine ⟨rp_non ry, k _ H (fun _ _ e => e) ?_⟩
  cases rx <;> exact .bl _
theorem wE_notN (w : wE C ta y fun z y1 => wE C tb y1 fun z' y2 => ∃ d, z = .d d ∧ z' = .d .none ∧ Q (.d (.bool (match d with | .none => false | _ => true))) y2) :
    wE C (tOp (fun x y H Q => y = .non ∧ Q (.bl (!decide (x = .non))) H) ta tb) y Q := by
  refine wE_op (res := fun d e r => e = .none ∧ r = .bool (match d with | .none => false | _ => true)) ?_ (wE_mono w fun z y1 h => wE_mono h fun z' y2 ⟨d, e1, e2, q⟩ => ⟨_, _, _, e1, e2, ⟨rfl, rfl⟩, q⟩)
  rintro M H x y d e r Q _ rx ry ⟨rfl, rfl⟩ k
  refine ⟨rp_non ry, k _ H (fun _ _ e => e) ?_⟩
  cases rx <;> exact .bl _
/-! items -/
def dIx (d : D) (i : Int) : Option D := match d with
  | .list xs => atI xs i
  | .tuple xs => atI xs i
  | .str z => if z.length ≤ sizeLine then (atI z.cps.toList i).map fun c => .str ⟨#[c]⟩ else none
  | _ => none
theorem atI_rp {K : Fg} {M : Addr → Prop} {H : Hp} {vs : List V} {ds : List D} {i : Int} {d : D} (r : RpA K M H vs ds) (h : atI ds i = some d) : ∃ v, atI vs i = some v ∧ Rp K M H v d := by
  unfold atI at h ⊢
  rw [r.len]
  cases e : ixN ds.length i with
  | none => rw [e] at h; cases h
  | some j =>
    rw [e] at h
    exact r.get (i := j) h
theorem wE_ix (w : wE C ta y fun z y1 => wE C tb y1 fun z' y2 => ∃ d i g, z = .d d ∧ z' = .d (.int i) ∧ dIx d i = some g ∧ Q (.d g) y2) : wE C (tOp (rIx C.K) ta tb) y Q := by
  refine wE_op (res := fun d e r => ∃ i, e = .int i ∧ dIx d i = some r) ?_ (wE_mono w fun z y1 h => wE_mono h fun z' y2 ⟨d, i, g, e1, e2, s, q⟩ => ⟨_, _, _, e1, e2, ⟨i, rfl, s⟩, q⟩)
  rintro M H x y d e r Q _ rx ry ⟨i, rfl, h⟩ k
  have ey := rp_int ry
  cases rx with
  | non => cases h
  | bl b => cases h
  | int b => cases h
  | dic _ _ _ => cases h
  | str z =>
    simp only [dIx] at h
    by_cases hz : z.length ≤ sizeLine
    · rw [if_pos hz] at h
      cases q : atI z.cps.toList i with
      | none => rw [q] at h; cases h
      | some c =>
        rw [q] at h; cases h
        exact .inr (.inr ⟨z, i, c, rfl, ey, hz, q, k _ H (fun _ _ e => e) (.str _)⟩)
    · rw [if_neg hz] at h; cases h
  | lst h1 h2 =>
    obtain ⟨v, e, rv⟩ := atI_rp h2 h
    exact .inl ⟨_, _, i, v, rfl, ey, h1.sq, e, k _ H (fun _ _ e => e) rv⟩
  | tup h1 h2 =>
    obtain ⟨v, e, rv⟩ := atI_rp h2 h
    exact .inr (.inl ⟨_, _, i, v, rfl, ey, h1.sq, e, k _ H (fun _ _ e => e) rv⟩)
end
end Tq

set_option maxRecDepth 100000
set_option maxHeartbeats 2000000
namespace Tq
open PySem PySem.Spec PyProof.Rows L2
/-! ### further operators over HandS -/
section
variable {X : Cx}
/-- list + list, whatever the lists are -/
def rCatG (K : Fg) : R2 := fun x y H Q => ∃ l b xs zs, x = .ref l ∧ y = .ref b ∧ SqL K H l xs ∧ SqL K H b zs ∧ xs.length + zs.length ≤ sizeLine ∧ ∀ p, H p = none → Q (.ref p) (upd H p (.lst (xs ++ zs)))
theorem op_catG : OpR X (binaryOp .Add) (rCatG X.K) := by
  intro pins s σ H x y v u Q I rx ry h
  obtain ⟨l, b, xs, zs, rfl, rfl, hl, hb, hz, q⟩ := h
  cases rx
  cases ry
  obtain ⟨i1, r1, p1, z1⟩ := I.list hl
  obtain ⟨i2, r2, p2, z2⟩ := I.list hb
  obtain ⟨⟨c1, d1, t1, s1⟩, ho1, hc1, n1, hd1⟩ := p1.isList
  obtain ⟨⟨c2, d2, t2, s2⟩, ho2, hc2, n2, hd2⟩ := p2.isList
  simp only at hc1 hd1 hc2 hd2
  subst hc1 hd1 hc2 hd2
  have l1 := r1.length
  have l2 := r2.length
  refine concat_meets ⟨_, ho1, rfl⟩ ⟨_, ho2, rfl⟩ noFill_list_add seq_list_add PySem.F.slot_list_add PySem.F.entry_list_add (PySem.F.args_list_add_2 _ _)
    (list_addW l b i1.toArray i2.toArray n1 n2 d1 d2 s1 s2 (by rw [List.size_toArray, List.size_toArray]; omega)) ⟨ho1, ho2, ?_⟩
  have ea : i1.toArray ++ i2.toArray = (i1 ++ i2).toArray := by simp
  rw [ea]
  exact ⟨.ref _, _, I.lnew (t' := s.toks) (r1.append r2) (by rw [List.length_append]; omega), rfl, q _ I.fresh⟩
/-- // by any number but nought, below 2 ^ 9000 in size -/
def CDivZ (_ j : Int) : Prop := j ≠ 0 ∧ j.natAbs.log2 < 9000
end
/-! ### repr -/
def scD : D → Bool
  | .none | .bool _ | .int _ | .str _ => true
  | _ => false
/-- no dict but at the top, and there with plain values -/
def dsm (d : D) : Bool := match d with
  | .dict kvs => kvs.all fun kv => scD kv.2
  | d => !d.hasDict
abbrev M0 : Addr → Prop := fun _ => False
theorem Rp.any {K : Fg} {M : Addr → Prop} {H : Hp} {v : V} {d : D} (r : Rp K M H v d) : Rp K M0 H v d := r.go fun a o _ e => ⟨fun z => z, e⟩
section
variable {X : Cx} {pins : List (Addr × Obj)} {σ : St} {H : Hp} {s : Shared}
theorem rpk_reads : ∀ {kvs : List (Key × V)} {ds : List (D × D)} {vs : List (Key × Value)} {es : List DictEntry}, RpK X.K M0 H kvs ds → ds.all (fun kv => scD kv.2) = true → KV kvs vs → Pairs (mixKind X.prog X.w) es vs →
    ReadsAll s.heap (es.map (·.key)) (ds.map (·.1)) [] ∧ ReadsAll s.heap (es.map (·.val)) (ds.map (·.2)) []
  | _, _, _, _, .nil, _, kv, pr => by
    cases kv
    cases pr
    exact ⟨.nil, .nil⟩
  | _, _, _, _, @RpK.cons _ _ _ k v d _ _ a b, hs, kv, pr => by
    cases kv with
    | @cons _ kw _ _ r1 r2 =>
      cases pr with
      | @cons e _ es _ p1 p2 p3 =>
        rw [List.all_cons, Bool.and_eq_true] at hs
        obtain ⟨q1, q2⟩ := rpk_reads b hs.2 r2 p3
        have e1 : k = kw.1 := r1.1
        have rv : RelV v kw.2 := r1.2
        constructor
        · have rk : Reads s.heap e.key (kD k) [] := by
            rw [← e1, mixKind_is] at p1
            rcases keyIs_shape p1 with ⟨i, t, z1, z2⟩ | ⟨x, t, z1, z2⟩
            · rw [z1, z2]; exact .int i t
            · rw [z1, z2]; exact .str x t
          exact ReadsAll.cons (as := []) (bs := []) rk q1
        · have rw' : Reads s.heap e.val d [] := by
            rw [p2]
            cases a with
            | non => rw [show kw.2 = Value.none from rv]; exact .none
            | bl b => rw [show kw.2 = Value.bool b from rv]; exact .bool b
            | int b => obtain ⟨t, z⟩ := (show ∃ t, kw.2 = Value.int b t from rv); rw [z]; exact .int b t
            | str b => obtain ⟨t, z⟩ := (show ∃ t, kw.2 = Value.str b t from rv); rw [z]; exact .str b t
            | lst _ _ => cases hs.1
            | tup _ _ => cases hs.1
            | dic _ _ _ => cases hs.1
          exact ReadsAll.cons (as := []) (bs := []) rw' q2
theorem Rp.reads (I : Inv X pins σ H s) {v : V} {u : Value} {d : D} (r : Rp X.K M0 H v d) (rv : RelV v u) (hs : dsm d = true) : ∃ as, Reads s.heap u d as ∧ (d.hasDict = true → sysModules ∉ as) := by
  by_cases hd : d.hasDict = false
  · obtain ⟨as, q⟩ := Dp.reads I d v u (r.dp hd) rv
    exact ⟨as, q, fun z => by rw [hd] at z; cases z⟩
  · cases r with
    | non => exact absurd rfl hd
    | bl _ => exact absurd rfl hd
    | int _ => exact absurd rfl hd
    | str _ => exact absurd rfl hd
    | lst _ _ => simp only [dsm, Bool.not_eq_true'] at hs; exact absurd hs hd
    | tup _ _ => simp only [dsm, Bool.not_eq_true'] at hs; exact absurd hs hd
    | @dic a kvs ds _ h k =>
      cases (show u = Value.ref a from rv)
      obtain ⟨_, nsm, vs, kv, o, es, ep, ho, ex, hdt, _, pr, _⟩ := (show ObjOk X.prog X.w H s.heap a (.dK kvs) from I.hok a _ h)
      obtain ⟨q1, q2⟩ := rpk_reads (X := X) (s := s) k hs kv pr
      refine ⟨_, Reads.dict (as := []) (bs := []) ho ex.1 hdt q1 q2, fun _ z => ?_⟩
      have z' : sysModules = a := by simpa using z
      rw [z'] at nsm
      simp at nsm
def rRepr (K : Fg) : List V → Hp → VK → Prop := fun xs H Q => ∃ x d, xs = [x] ∧ Rp K M0 H x d ∧ dsm d = true ∧ d.showable = true ∧ d.depth ≤ 60 ∧ d.shown.length ≤ sizeLine ∧ Q (.str d.shown) H
end
/-! ### promises where nothing is being shown: as FnOk, with the guards told -/
structure FnG (P : Program) (w : World) (K : Fg) (mg : Str → Option Value) (base : Heap) (CX : CXT) (k : Nat) (f : Addr) (fd : FuncData) (ps : List Str) (sp : Sp) : Prop where
  len : ∀ vs H Q E, sp vs H Q E → vs.length = ps.length
  run : ∀ (A : Around) (outer : List Env) (s : Shared) (H : Hp) (args : Args) (us : List Value) (vs : List V) (Q : VK) (E : XK), Room k A → A.guards = some [] →
    Env0 P w K mg base A outer s H → BindsTo s fd args (ps.zip us) → Vals vs us → sp vs H Q E → codeAny (model P w) A (.call (.ref f) args) (CR CX outer P w H s Q E) s
theorem FnG.of {P : Program} {w : World} {K : Fg} {mg : Str → Option Value} {base : Heap} {CX : CXT} {k : Nat} {f : Addr} {fd : FuncData} {ps : List Str} {sp : Sp} (F : FnOk P w K mg base CX k f fd ps sp) :
    FnG P w K mg base CX k f fd ps sp := ⟨F.len, fun A outer s H args us vs Q E hr _ => F.run A outer s H args us vs Q E hr⟩
theorem FnG.mono {P : Program} {w : World} {K : Fg} {mg : Str → Option Value} {base : Heap} {CX : CXT} {j k : Nat} {f : Addr} {fd : FuncData} {ps : List Str} {sp : Sp} (F : FnG P w K mg base CX j f fd ps sp) (h : j ≤ k) :
    FnG P w K mg base CX k f fd ps sp := ⟨F.len, fun A outer s H args us vs Q E hr => F.run A outer s H args us vs Q E (hr.mono h)⟩
section
variable {X : Cx} {CX : CXT} {k : Nat} {f : Addr} {fd : FuncData} {ps : List Str} {sp : Sp} {dvs : List V} {ds : List Value} {E : XK} {x : Str} {p pos : Pos} {e : Expr} {es : List Expr} {t : TA}
theorem run_fnG {pins : List (Addr × Obj)} {σ : St} {H : Hp} {s : Shared} {Q : VK} {us : List Value} {vs : List V} (F : FnG X.prog X.w X.K X.mg X.base CX k f fd ps sp) (hr : Room k X.A) (hg : X.A.guards = some []) (hb : Binds X.K fd ps ds) (hd : Vals dvs ds)
    (hx : Passes CX X E) (I : Inv X pins σ H s) (r : Vals vs us) (h : sp (vs ++ dvs) H Q E) : wpAny (model X.prog X.w) X.A (call (.ref f) us) (EP X pins σ Q) X.xe s := by
  have r2 : Vals (vs ++ dvs) (us ++ ds) := r.append hd
  have hl : (us ++ ds).length = ps.length := by
    rw [← r2.length]
    exact F.len _ _ _ _ h
  refine wpAny_call (codeAny_mono (F.run X.A X.stack s H ⟨us, []⟩ (us ++ ds) (vs ++ dvs) Q E hr hg I.env0 (hb s us I.kIn hl) r2 h) fun res s2 hq => ?_)
  cases res with
  | error ev => exact hx pins σ H s ev s2 I hq
  | ok fl =>
    cases fl
    case ret u => exact I.after hq
    all_goals exact False.elim hq
theorem pe_callG (F : FnG X.prog X.w X.K X.mg X.base CX k f fd ps sp) (hr : Room k X.A) (hgu : X.A.guards = some []) (hg : Gl X x) (hm : X.mg x = some (.ref f)) (hk : PySem.W.keepIn X.K (.ref f) = true) (hb : Binds X.K fd ps ds) (hd : Vals dvs ds)
    (hx : Passes CX X E) (ha : PA X (e :: es) t) (hdb : (x == ("__debug__" : Str)) = false := by decide)
    (he : starEach (e :: es) X.env = (false, eval e X.env) :: starEach es X.env := by rfl)
    (hpl : (backTo pos (starEach es X.env)).any (·.1) = false := by rfl) : PE X (.Call (.Name x p) (e :: es) [] pos) (tCall sp dvs E t) := by
  constructor
  intro pins s σ H Q I h
  refine wpAny_Call_Name_kw (ld_glob I hg hm ?_ hdb)
  refine PySem.W.callWith_K (h₀ := X.base) I.ok.mod.kin hk (thn (ha.run pos pins s σ H _ I h) fun us s1 ⟨vs, H1, I1, r, q⟩ => ⟨I1.kIn, ?_⟩) he hpl
  exact run_fnG F hr hgu hb hd hx I1 r q
end
theorem fn_ofG {CX : CXT} {P : Program} {w : World} {K : Fg} {mg : Str → Option Value} {base : Heap} {k : Nat} {f : Addr} {name qual : Str} {params : Arguments} {body : List Stmt} {scope : Scope} {dV kV doc pm cdv ct oc : Value} {an od : Option Addr}
    {osl : Array (Option Value)} {N ps : List Str} {sp : Sp} (lk : K.lookup f = some ⟨oc, od, .func (PySem.W.fnOf name qual params body scope dV kV doc pm an cdv ct), osl⟩) (hcd : PySem.W.codeIn K cdv qual = true) (Sc : FnScope N ps scope)
    (len : ∀ vs H Q E, sp vs H Q E → vs.length = ps.length)
    (hbody : ∀ (A : Around) (outer : List Env) (s : Shared) (H : Hp) (vs : List V) (Q : VK) (E : XK), Room k (A.deeper (envOfC qual scope s.heap.objs.size f cdv)) → (A.deeper (envOfC qual scope s.heap.objs.size f cdv)).guards = some [] → sp vs H Q E →
      ∃ t, PSs (cxOf CX P w K mg base N qual scope f cdv A outer s H E) body t ∧ t { nx := fun _ H' => Q .non H', rt := Q } (start N vs) H) :
    FnG P w K mg base CX (k + 1) f (PySem.W.fnOf name qual params body scope dV kV doc pm an cdv ct) ps sp := by
  refine ⟨len, fun A outer s H args us vs Q E hr hgu e0 hb r hsp => ?_⟩
  have hl := len _ _ _ _ hsp
  have kpd : ∀ b o, base.get? b = some o → s.heap.get? b = some o := fun b o e => (e0.bs b o e).1
  have KX : K.In s.heap := e0.mod.kin.keeps kpd
  have lim : s.heap.NoLimit := e0.mod.nolimit.keeps kpd
  have hkind : ∀ z ∈ ps.zip us, scope.names.lookup z.1 = some .local ∨ (scope.names.lookup z.1 = some .cell ∧ ((cellsFrom (s.heap.objs.size + 1) scope.names []).lookup z.1).isSome = true) := by
    rintro ⟨n, v⟩ hz
    rcases Sc.par n (List.of_mem_zip hz).1 with q | q
    · exact .inl q
    · exact .inr ⟨q, PySem.W.cellsFrom_some _ _ _ (.inl q)⟩
  refine codeAny_call_function hr.depth (KX _ _ lk) rfl Sc.co Sc.gen rfl (PySem.W.codeRec_of KX hcd) (hb _ _ _ _ ?_)
  refine wpAny_newFunctionEnv_cells Sc.kind hkind fun env he s1 x => ?_
  subst he
  refine ⟨lim.keeps x.toInCall.keep, codeAny_func ?_⟩
  obtain ⟨t, ht, hq⟩ := hbody A outer s H vs Q E (hr.deeper _) hgu hsp
  have I : Inv (cxOf CX P w K mg base N qual scope f cdv A outer s H E) [] (start N vs) H s1 := inv_start Sc hr.hd e0 hl r x
  refine wpAny_mono (ht.run [] s1 (start N vs) H _ I hq) (fun fl s2 hs => ?_) fun ev s2 hs => hs
  cases fl with
  | ret u =>
    obtain ⟨v, τ, G, J, rv, q⟩ := hs
    exact ⟨v, G, J.os, J.bare, J.base, J.hok, rv, q⟩
  | next =>
    obtain ⟨τ, G, J, q⟩ := hs
    exact ⟨V.non, G, J.os, J.bare, J.base, J.hok, rfl, q⟩
  | brk =>
    obtain ⟨_, _, _, q⟩ := hs
    exact False.elim q
  | cont =>
    obtain ⟨_, _, _, q⟩ := hs
    exact False.elim q
theorem okG {P : Program} {w : World} {K : Fg} {mg : Str → Option Value} {base : Heap} {x qual : Str} {st : Stmt} {f : Addr} {fd : FuncData} {N ps : List Str} {k : Nat} {sp : Sp} (F : Fun K x qual st f fd) (Sc : FnScope N ps (defScope st))
    (len : ∀ vs H Q E, sp vs H Q E → vs.length = ps.length)
    (hbody : ∀ (cdv : Value) (A : Around) (outer : List Env) (s : Shared) (H : Hp) (vs : List V) (Q : VK) (E : XK), Room k (A.deeper (envOfC qual (defScope st) s.heap.objs.size f cdv)) →
      (A.deeper (envOfC qual (defScope st) s.heap.objs.size f cdv)).guards = some [] → sp vs H Q E →
      ∃ t, PSs (cxOf CX0 P w K mg base N qual (defScope st) f cdv A outer s H E).nox (defBody st) t ∧ t { nx := fun _ G => Q .non G, rt := Q } (start N vs) H) : FnG P w K mg base CX0 (k + 1) f fd ps sp := by
  obtain ⟨oc, od, kV, doc, pm, an, cdv, ct, osl, rfl, lk, hcd⟩ := F.ex
  refine fn_ofG lk hcd Sc len fun A outer s H vs Q E hr hgu hsp => ?_
  obtain ⟨t, h, q⟩ := hbody cdv A outer s H vs Q E hr hgu hsp
  exact ⟨t, h.nox, q⟩
end Tq

set_option maxRecDepth 100000
set_option maxHeartbeats 2000000
namespace Tq
open PySem PySem.Spec PyProof.Rows L2
/-- what the law's call is to show -/
abbrev LawEnd (s₁ : Shared) : Result → Shared → Prop := fun r s' => r = .ok (.ret (.bool true)) ∧ OldK s₁.heap s'.heap ∧ s'.os = s₁.os ∧ AllBare s'.gens
section
variable {P : Program} {w : World} {K : Fg} {mg mb : Str → Option Value} {CX : CXT} {k : Nat} {fa a : Addr} {fd : FuncData} {x : Str} {sp : Sp} {s₁ : Shared} {vs : List Value} {ns : List Int}
end
end Tq

set_option maxRecDepth 100000
set_option maxHeartbeats 2000000
namespace Tq
open PySem PySem.Spec PyProof.Rows L2
section
variable {C : Ct} {y : S} {ta tb tc te : TE} {t u : TT} {ts : TA} {Q : Z → S → Prop} {R : Bool → S → Prop}
theorem wE_catG (w : wE C ta y fun z y1 => wE C tb y1 fun z' y2 => ∃ xs ys, z = .d (.list xs) ∧ z' = .d (.list ys) ∧ xs.length + ys.length ≤ sizeLine ∧ Q (.d (.list (xs ++ ys))) y2) : wE C (tOp (rCatG C.K) ta tb) y Q := by
  refine wE_op (res := fun d e r => ∃ xs ys, d = .list xs ∧ e = .list ys ∧ xs.length + ys.length ≤ sizeLine ∧ r = .list (xs ++ ys)) ?_ (wE_mono w fun z y1 h => wE_mono h fun z' y2 ⟨xs, ys, e1, e2, c, q⟩ => ⟨_, _, _, e1, e2, ⟨xs, ys, rfl, rfl, c, rfl⟩, q⟩)
  rintro M H x y d e r Q fr rx ry ⟨xs, ys, rfl, rfl, c, rfl⟩ k
  obtain ⟨a, us, rfl, h1, h2⟩ := rp_lst rx
  obtain ⟨b, vs, rfl, h3, h4⟩ := rp_lst ry
  refine ⟨a, b, us, vs, rfl, rfl, h1.sq, h3.sq, by rw [h2.len, h4.len]; exact c, fun p hp => k _ _ (grow_upd hp) ?_⟩
  have g : GoH M H M (upd H p (.lst (us ++ vs))) := fun a o n e => ⟨n, grow_upd hp a o e⟩
  exact .lst (.inl ⟨fr p hp, .inl upd_same⟩) ((h2.go g).app (h4.go g))
theorem wE_fdivZ (w : wE C ta y fun z y1 => wE C tb y1 fun z' y2 => ∃ i j, z = .d (.int i) ∧ z' = .d (.int j) ∧ CDivZ i j ∧ Q (.d (.int (i.fdiv j))) y2) : wE C (tOp (rI CDivZ fun i j => .int (i.fdiv j)) ta tb) y Q := wE_I _ (fun _ _ => .int _) w
theorem wE_modN (w : wE C ta y fun z y1 => wE C tb y1 fun z' y2 => ∃ i j, z = .d (.int i) ∧ z' = .d (.int j) ∧ j ≠ 0 ∧ Q (.d (.int (i.fmod j))) y2) : wE C (tOp (rI (fun _ j => j ≠ 0) fun i j => .int (i.fmod j)) ta tb) y Q := wE_I _ (fun _ _ => .int _) w
/-! truth -/
theorem wE_andV (w : wE C ta y fun z y1 => ∃ b, z = .d (.bool b) ∧ if b = true then wE C tb y1 Q else Q (.d (.bool false)) y1) : wE C (tAndV ta tb) y Q := by
  intro F σ H K wd k
  refine w F σ H _ wd fun x H1 z y1 w1 g1 s1 r1 q1 => ?_
  obtain ⟨b, rfl, q⟩ := q1
  refine ⟨b, rp_bl r1, ?_⟩
  cases b with
  | true => exact q F σ H1 _ w1 fun v H2 z y2 w2 g2 s2 r2 q2 => k v H2 z y2 w2 (g1.trans g2) (s1.trans s2) r2 q2
  | false => exact k _ H1 (.d (.bool false)) y1 w1 g1 s1 (.bl _) q
theorem wE_orV (w : wE C ta y fun z y1 => ∃ b, z = .d (.bool b) ∧ if b = true then Q (.d (.bool true)) y1 else wE C tb y1 Q) : wE C (tOrV ta tb) y Q := by
  intro F σ H K wd k
  refine w F σ H _ wd fun x H1 z y1 w1 g1 s1 r1 q1 => ?_
  obtain ⟨b, rfl, q⟩ := q1
  refine ⟨b, rp_bl r1, ?_⟩
  cases b with
  | true => exact k _ H1 (.d (.bool true)) y1 w1 g1 s1 (.bl _) q
  | false => exact q F σ H1 _ w1 fun v H2 z y2 w2 g2 s2 r2 q2 => k v H2 z y2 w2 (g1.trans g2) (s1.trans s2) r2 q2
theorem wE_notV (w : wE C ta y fun z y1 => ∃ b, z = .d (.bool b) ∧ Q (.d (.bool (!b))) y1) : wE C (tNotV ta) y Q := by
  intro F σ H K wd k
  refine w F σ H _ wd fun x H1 z y1 w1 g1 s1 r1 q1 => ?_
  obtain ⟨b, rfl, q⟩ := q1
  exact ⟨b, rp_bl r1, k _ H1 (.d (.bool !b)) y1 w1 g1 s1 (.bl _) q⟩
theorem wE_if (w : wT C t y fun b y1 => if b = true then wE C ta y1 Q else wE C tb y1 Q) : wE C (tIf t ta tb) y Q := by
  intro F σ H K wd k
  refine w F σ H _ wd fun b H1 y1 w1 g1 s1 q => ?_
  cases b with
  | true => exact q F σ H1 _ w1 fun v H2 z y2 w2 g2 s2 r2 q2 => k v H2 z y2 w2 (g1.trans g2) (s1.trans s2) r2 q2
  | false => exact q F σ H1 _ w1 fun v H2 z y2 w2 g2 s2 r2 q2 => k v H2 z y2 w2 (g1.trans g2) (s1.trans s2) r2 q2
theorem wT_test (w : wE C te y fun z y1 => ∃ b, z = .d (.bool b) ∧ R b y1) : wT C (tTest te) y R := by
  intro F σ H K wd k
  refine w F σ H _ wd fun x H1 z y1 w1 g1 s1 r1 q1 => ?_
  obtain ⟨b, rfl, q⟩ := q1
  exact ⟨b, rp_bl r1, k b H1 y1 w1 g1 s1 q⟩
theorem wT_B (w : wE C te y fun z y1 => ∃ b, z = .d (.bool b) ∧ R b y1) : wT C (tB te) y R := wT_test w
theorem wT_and (w : wT C t y fun b y1 => if b = true then wT C u y1 R else R false y1) : wT C (tAnd t u) y R := by
  intro F σ H K wd k
  refine w F σ H _ wd fun b H1 y1 w1 g1 s1 q => ?_
  cases b with
  | true => exact q F σ H1 _ w1 fun v H2 y2 w2 g2 s2 q2 => k v H2 y2 w2 (g1.trans g2) (s1.trans s2) q2
  | false => exact k false H1 y1 w1 g1 s1 q
theorem wT_or (w : wT C t y fun b y1 => if b = true then R true y1 else wT C u y1 R) : wT C (tOr t u) y R := by
  intro F σ H K wd k
  refine w F σ H _ wd fun b H1 y1 w1 g1 s1 q => ?_
  cases b with
  | true => exact k true H1 y1 w1 g1 s1 q
  | false => exact q F σ H1 _ w1 fun v H2 y2 w2 g2 s2 q2 => k v H2 y2 w2 (g1.trans g2) (s1.trans s2) q2
theorem wT_not (w : wT C t y fun b y1 => R (!b) y1) : wT C (tNot t) y R := by
  intro F σ H K wd k
  exact w F σ H _ wd fun b H1 y1 w1 g1 s1 q => k (!b) H1 y1 w1 g1 s1 q
theorem wT_yes (q : R true y) : wT C tYes y R := fun F σ H K wd k => k true H y wd GoH.refl (Sh.refl y) q
theorem wT_mono {R' : Bool → S → Prop} (h : wT C t y R) (q : ∀ z y', R z y' → R' z y') : wT C t y R' := fun F σ H K w k => h F σ H K w fun z H' y' a b c e => k z H' y' a b c (q z y' e)
/-- chains -/
theorem wE_chain {r r' : R2} {res res' : D → D → D → Prop} (h : OpD C.K r res) (h' : OpD C.K r' res')
    (w : wE C ta y fun z1 y1 => wE C tb y1 fun z2 y2 => ∃ d1 d2 b, z1 = .d d1 ∧ z2 = .d d2 ∧ res d1 d2 (.bool b) ∧ if b = true then wE C tc y2 fun z3 y3 => ∃ d3 g, z3 = .d d3 ∧ res' d2 d3 g ∧ Q (.d g) y3 else Q (.d (.bool false)) y2) :
    wE C (tChain r r' ta tb tc) y Q := by
  intro F σ H K wd k
  refine w F σ H _ wd fun x H1 z y1 w1 g1 s1 r1 q1 => ?_
  refine q1 F σ H1 _ w1 fun x2 H2 z' y2 w2 g2 s2 r2 q2 => ?_
  obtain ⟨d1, d2, b, rfl, rfl, hres, hq⟩ := q2
  refine h (Mv F σ y2) H2 x x2 d1 d2 (.bool b) _ (fun a => w2.new) (Rp.go g2 r1) r2 hres fun v H3 gr rv => ?_
  have w3 := w2.grow gr
  have g3 := (g1.trans g2).trans (go_grow (F := F) (σ := σ) (y := y2) gr)
  refine ⟨b, rp_bl rv, ?_⟩
  cases b with
  | false => exact k _ H3 (.d (.bool false)) y2 w3 g3 (s1.trans s2) (.bl _) hq
  | true =>
    refine hq F σ H3 _ w3 fun x4 H4 z4 y4 w4 g4 s4 r4 q4 => ?_
    obtain ⟨d3, g, rfl, hres', hq'⟩ := q4
    refine h' (Mv F σ y4) H4 x2 x4 d2 d3 g _ (fun a => w4.new) (Rp.go g4 (Rp.go (go_grow (F := F) (σ := σ) (y := y2) gr) r2)) r4 hres' fun v5 H5 gr5 rv5 => ?_
    exact k v5 H5 (.d g) y4 (w4.grow gr5) ((g3.trans g4).trans (go_grow gr5)) ((s1.trans s2).trans s4) rv5 hq'
theorem wE_chainI {p p' : Int → Int → Bool} (w : wE C ta y fun z1 y1 => wE C tb y1 fun z2 y2 => ∃ i j, z1 = .d (.int i) ∧ z2 = .d (.int j) ∧ if p i j = true then wE C tc y2 fun z3 y3 => ∃ m, z3 = .d (.int m) ∧ Q (.d (.bool (p' j m))) y3 else Q (.d (.bool false)) y2) :
    wE C (tChain (rI0 fun i j => .bl (p i j)) (rI0 fun i j => .bl (p' i j)) ta tb tc) y Q := by
  refine wE_chain (opD_I0 (gd := fun i j => .bool (p i j)) fun _ _ => .bl _) (opD_I0 (gd := fun i j => .bool (p' i j)) fun _ _ => .bl _) (wE_mono w fun z1 y1 h => wE_mono h fun z2 y2 ⟨i, j, e1, e2, q⟩ => ⟨_, _, p i j, e1, e2, ⟨i, j, rfl, rfl, rfl⟩, ?_⟩)
  cases hb : p i j with
  | true =>
    rw [hb] at q
    exact wE_mono (show wE C tc y2 _ from q) fun z3 y3 ⟨m, e3, q3⟩ => ⟨_, _, e3, ⟨j, m, rfl, rfl, rfl⟩, q3⟩
  | false => rw [hb] at q; exact q
theorem opD_S0 {g : Str → Str → V} {gd : Str → Str → D} (hg : ∀ i j, Sc (g i j) (gd i j)) {K : Fg} : OpD K (fun x y H Q => ∃ i j, x = .str i ∧ y = .str j ∧ Q (g i j) H) (fun d e r => ∃ i j, d = .str i ∧ e = .str j ∧ r = gd i j) := by
  rintro M H x y d e r Q _ rx ry ⟨i, j, rfl, rfl, rfl⟩ k
  exact ⟨i, j, rp_str rx, rp_str ry, k _ H (fun _ _ e => e) (hg i j).rp⟩
theorem wE_chainS {p p' : Str → Str → Bool} (w : wE C ta y fun z1 y1 => wE C tb y1 fun z2 y2 => ∃ i j, z1 = .d (.str i) ∧ z2 = .d (.str j) ∧ if p i j = true then wE C tc y2 fun z3 y3 => ∃ m, z3 = .d (.str m) ∧ Q (.d (.bool (p' j m))) y3 else Q (.d (.bool false)) y2) :
    wE C (tChain (fun x y H Q => ∃ i j, x = .str i ∧ y = .str j ∧ Q (.bl (p i j)) H) (fun x y H Q => ∃ i j, x = .str i ∧ y = .str j ∧ Q (.bl (p' i j)) H) ta tb tc) y Q := by
  refine wE_chain (opD_S0 (gd := fun i j => .bool (p i j)) fun _ _ => .bl _) (opD_S0 (gd := fun i j => .bool (p' i j)) fun _ _ => .bl _) (wE_mono w fun z1 y1 h => wE_mono h fun z2 y2 ⟨i, j, e1, e2, q⟩ => ⟨_, _, p i j, e1, e2, ⟨i, j, rfl, rfl, rfl⟩, ?_⟩)
  cases hb : p i j with
  | true =>
    rw [hb] at q
    exact wE_mono (show wE C tc y2 _ from q) fun z3 y3 ⟨m, e3, q3⟩ => ⟨_, _, e3, ⟨j, m, rfl, rfl, rfl⟩, q3⟩
  | false => rw [hb] at q; exact q
/-! arguments, displays -/
def wD (C : Ct) (ta : TA) (y : S) (Q : List D → S → Prop) : Prop := ∀ (F : Fr) σ H (K : List V → Hp → Prop), Wd C F σ y H → (∀ vs H' ds y', Wd C F σ y' H' → Go F σ y H σ y' H' → Sh y y' → RpA C.K (Mv F σ y') H' vs ds → Q ds y' → K vs H') → ta σ H K
variable {q : List D → S → Prop}
theorem wD_nil (h : q [] y) : wD C tNil y q := fun F σ H K wd k => k [] H [] y wd GoH.refl (Sh.refl y) .nil h
theorem wD_cons (w : wE C ta y fun z y1 => ∃ d, z = .d d ∧ wD C ts y1 fun ds y2 => q (d :: ds) y2) : wD C (tCons ta ts) y q := by
  intro F σ H K wd k
  refine w F σ H _ wd fun x H1 z y1 w1 g1 s1 r1 q1 => ?_
  obtain ⟨d, rfl, h⟩ := q1
  exact h F σ H1 _ w1 fun vs H2 ds y2 w2 g2 s2 r2 q2 => k (x :: vs) H2 (d :: ds) y2 w2 (g1.trans g2) (s1.trans s2) (.cons (Rp.go g2 r1) r2) q2
theorem wD_mono {q' : List D → S → Prop} (h : wD C ts y q) (e : ∀ z y', q z y' → q' z y') : wD C ts y q' := fun F σ H K w k => h F σ H K w fun vs H' z y' a b c d f => k vs H' z y' a b c d (e z y' f)
theorem wE_tup (w : wD C ts y fun ds y1 => ds.length ≤ sizeLine ∧ Q (.d (.tuple ds)) y1) : wE C (tTup ts) y Q := by
  intro F σ H K wd k
  refine w F σ H _ wd fun vs H1 ds y1 w1 g1 s1 r1 ⟨hz, q1⟩ => ⟨by rw [r1.len]; exact hz, fun p hp => ?_⟩
  have gr := grow_upd (o := .tup vs) hp
  exact k _ _ (.d (.tuple ds)) y1 (w1.grow gr) (g1.trans (go_grow gr)) s1 (.tup (.inl ⟨w1.new hp, .inl upd_same⟩) (r1.go (go_grow gr))) q1
theorem wE_lst (w : wD C ts y fun ds y1 => ds.length ≤ sizeLine ∧ Q (.d (.list ds)) y1) : wE C (tLst ts) y Q := by
  intro F σ H K wd k
  refine w F σ H _ wd fun vs H1 ds y1 w1 g1 s1 r1 ⟨hz, q1⟩ => ⟨by rw [r1.len]; exact hz, fun p hp => ?_⟩
  have gr := grow_upd (o := .lst vs) hp
  exact k _ _ (.d (.list ds)) y1 (w1.grow gr) (g1.trans (go_grow gr)) s1 (.lst (.inl ⟨w1.new hp, .inl upd_same⟩) (r1.go (go_grow gr))) q1
theorem wE_dnew (h : Q (.d (.dict [])) y) : wE C tDNewK y Q := by
  intro F σ H K wd k p hp
  have gr := grow_upd (o := .dK []) hp
  exact k _ _ (.d (.dict [])) y (wd.grow gr) (go_grow gr) (Sh.refl y) (.dic (wd.new hp) upd_same .nil) h
/-- {k: v}, one written pair of scalars -/
theorem wE_disp1 {kk : Key} {v : V} {d : D} (s : Sc v d) (h : Q (.d (.dict [(kD kk, d)])) y) : wE C (tDisp [(tC (kV kk), tC v)]) y Q := by
  intro F σ H K wd k p hp
  refine ⟨upd_same, [(kk, v)], rfl, by simp, ?_⟩
  have gr : ∀ a u, H a = some u → upd (upd H p (.dK [])) p (.dK (mergeK [] [(kk, v)])) a = some u := fun a u e => by rw [upd_upd]; exact grow_upd hp a u e
  refine k _ _ (.d (.dict [(kD kk, d)])) y (wd.grow gr) (go_grow gr) (Sh.refl y) (.dic (wd.new hp) (kvs := [(kk, v)]) ?_ (.cons s.rp .nil)) h
  rw [upd_same]
  rfl
/-! built-ins -/
def CbD (K : Fg) (r : List V → Hp → VK → Prop) (res : List D → D → Prop) : Prop := ∀ (M : Addr → Prop) (H : Hp) (xs : List V) (ds : List D) (g : D) (Q : VK), (∀ a, H a = none → ¬ M a) → RpA K M H xs ds → res ds g →
  (∀ v H', (∀ a o, H a = some o → H' a = some o) → Rp K M H' v g → Q v H') → r xs H Q
theorem wE_cb {r : List V → Hp → VK → Prop} {res : List D → D → Prop} (h : CbD C.K r res) (w : wD C ts y fun ds y1 => ∃ g, res ds g ∧ Q (.d g) y1) : wE C (tCB r ts) y Q := by
  intro F σ H K wd k
  refine w F σ H _ wd fun vs H1 ds y1 w1 g1 s1 r1 q1 => ?_
  obtain ⟨g, hres, hq⟩ := q1
  exact h (Mv F σ y1) H1 vs ds g K (fun a => w1.new) r1 hres fun v H2 gr rv => k v H2 (.d g) y1 (w1.grow gr) (g1.trans (go_grow gr)) s1 rv hq
theorem rpA1 {K : Fg} {M : Addr → Prop} {H : Hp} {vs : List V} {d : D} (r : RpA K M H vs [d]) : ∃ v, vs = [v] ∧ Rp K M H v d := by
  cases r with | cons a b => cases b; exact ⟨_, rfl, a⟩
theorem rpA2 {K : Fg} {M : Addr → Prop} {H : Hp} {vs : List V} {d e : D} (r : RpA K M H vs [d, e]) : ∃ v u, vs = [v, u] ∧ Rp K M H v d ∧ Rp K M H u e := by
  cases r with | cons a b => obtain ⟨u, rfl, h⟩ := rpA1 b; exact ⟨_, u, rfl, a, h⟩
theorem wE_abs (w : wD C ts y fun ds y1 => ∃ i, ds = [.int i] ∧ Q (.d (.int (if i < 0 then -i else i))) y1) : wE C (tCB (fun xs H Q => ∃ i, xs = [.int i] ∧ Q (.int (if i < 0 then -i else i)) H) ts) y Q := by
  refine wE_cb (res := fun ds g => ∃ i, ds = [.int i] ∧ g = .int (if i < 0 then -i else i)) ?_ (wD_mono w fun ds y1 ⟨i, e, q⟩ => ⟨_, ⟨i, e, rfl⟩, q⟩)
  rintro M H xs ds g Q _ r ⟨i, rfl, rfl⟩ k
  obtain ⟨v, rfl, rv⟩ := rpA1 r
  exact ⟨i, by rw [rp_int rv], k _ H (fun _ _ e => e) (.int _)⟩
theorem wE_max2 (w : wD C ts y fun ds y1 => ∃ i j, ds = [.int i, .int j] ∧ Q (.d (.int (if j > i then j else i))) y1) : wE C (tCB (fun xs H Q => ∃ i j, xs = [.int i, .int j] ∧ Q (.int (if j > i then j else i)) H) ts) y Q := by
  refine wE_cb (res := fun ds g => ∃ i j, ds = [.int i, .int j] ∧ g = .int (if j > i then j else i)) ?_ (wD_mono w fun ds y1 ⟨i, j, e, q⟩ => ⟨_, ⟨i, j, e, rfl⟩, q⟩)
  rintro M H xs ds g Q _ r ⟨i, j, rfl, rfl⟩ k
  obtain ⟨v, u, rfl, rv, ru⟩ := rpA2 r
  exact ⟨i, j, by rw [rp_int rv, rp_int ru], k _ H (fun _ _ e => e) (.int _)⟩
theorem wE_min2 (w : wD C ts y fun ds y1 => ∃ i j, ds = [.int i, .int j] ∧ Q (.d (.int (if j < i then j else i))) y1) : wE C (tCB (fun xs H Q => ∃ i j, xs = [.int i, .int j] ∧ Q (.int (if j < i then j else i)) H) ts) y Q := by
  refine wE_cb (res := fun ds g => ∃ i j, ds = [.int i, .int j] ∧ g = .int (if j < i then j else i)) ?_ (wD_mono w fun ds y1 ⟨i, j, e, q⟩ => ⟨_, ⟨i, j, e, rfl⟩, q⟩)
  rintro M H xs ds g Q _ r ⟨i, j, rfl, rfl⟩ k
  obtain ⟨v, u, rfl, rv, ru⟩ := rpA2 r
  exact ⟨i, j, by rw [rp_int rv, rp_int ru], k _ H (fun _ _ e => e) (.int _)⟩
theorem wE_int1 (w : wD C ts y fun ds y1 => (∃ i, ds = [.int i] ∧ Q (.d (.int i)) y1) ∨ ∃ b, ds = [.bool b] ∧ Q (.d (.int (if b then 1 else 0))) y1) :
    wE C (tCB (fun xs H Q => (∃ i, xs = [.int i] ∧ Q (.int i) H) ∨ ∃ k, xs = [.bl k] ∧ Q (.int (if k then 1 else 0)) H) ts) y Q := by
  refine wE_cb (res := fun ds g => (∃ i, ds = [.int i] ∧ g = .int i) ∨ ∃ b, ds = [.bool b] ∧ g = .int (if b then 1 else 0)) ?_ (wD_mono w fun ds y1 h => ?_)
  · rintro M H xs ds g Q _ r (⟨i, rfl, rfl⟩ | ⟨b, rfl, rfl⟩) k
    · obtain ⟨v, rfl, rv⟩ := rpA1 r
      exact .inl ⟨i, by rw [rp_int rv], k _ H (fun _ _ e => e) (.int _)⟩
    · obtain ⟨v, rfl, rv⟩ := rpA1 r
      exact .inr ⟨b, by rw [rp_bl rv], k _ H (fun _ _ e => e) (.int _)⟩
  · rcases h with ⟨i, e, q⟩ | ⟨b, e, q⟩
    · exact ⟨_, .inl ⟨i, e, rfl⟩, q⟩
    · exact ⟨_, .inr ⟨b, e, rfl⟩, q⟩
theorem wE_strI (w : wD C ts y fun ds y1 => ∃ i, ds = [.int i] ∧ i.natAbs.log2 < 1920 ∧ Q (.d (.str (toString i))) y1) : wE C (tCB (fun xs H Q => ∃ i, xs = [.int i] ∧ i.natAbs.log2 < 1920 ∧ Q (.str (toString i)) H) ts) y Q := by
  refine wE_cb (res := fun ds g => ∃ i, ds = [.int i] ∧ i.natAbs.log2 < 1920 ∧ g = .str (toString i)) ?_ (wD_mono w fun ds y1 ⟨i, e, c, q⟩ => ⟨_, ⟨i, e, c, rfl⟩, q⟩)
  rintro M H xs ds g Q _ r ⟨i, rfl, c, rfl⟩ k
  obtain ⟨v, rfl, rv⟩ := rpA1 r
  exact ⟨i, by rw [rp_int rv], c, k _ H (fun _ _ e => e) (.str _)⟩
theorem wE_intS (w : wD C ts y fun ds y1 => ∃ a n, ds = [.str a] ∧ PySem.intText? a = some n ∧ a.length ≤ 640 ∧ Q (.d (.int n)) y1) : wE C (tCB (fun xs H Q => ∃ a n, xs = [.str a] ∧ PySem.intText? a = some n ∧ a.length ≤ 640 ∧ Q (.int n) H) ts) y Q := by
  refine wE_cb (res := fun ds g => ∃ a n, ds = [.str a] ∧ PySem.intText? a = some n ∧ a.length ≤ 640 ∧ g = .int n) ?_ (wD_mono w fun ds y1 ⟨i, n, e, c, l, q⟩ => ⟨_, ⟨i, n, e, c, l, rfl⟩, q⟩)
  rintro M H xs ds g Q _ r ⟨i, n, rfl, c, l, rfl⟩ k
  obtain ⟨v, rfl, rv⟩ := rpA1 r
  exact ⟨i, n, by rw [rp_str rv], c, l, k _ H (fun _ _ e => e) (.int _)⟩
def dLen (d : D) : Option Nat := match d with
  | .str z => if z.length ≤ sizeLine then some z.length else none
  | .list xs => some xs.length
  | .tuple xs => some xs.length
  | _ => none
theorem wE_len (w : wD C ts y fun ds y1 => ∃ d n, ds = [d] ∧ dLen d = some n ∧ Q (.d (.int n)) y1) : wE C (tCB (fun xs H Q => ∃ x n, xs = [x] ∧ LenV C.K x H n ∧ Q (.int (n : Nat)) H) ts) y Q := by
  refine wE_cb (res := fun ds g => ∃ d n, ds = [d] ∧ dLen d = some n ∧ g = .int n) ?_ (wD_mono w fun ds y1 ⟨d, n, e, c, q⟩ => ⟨_, ⟨d, n, e, c, rfl⟩, q⟩)
  rintro M H xs ds g Q _ r ⟨d, n, rfl, c, rfl⟩ k
  obtain ⟨v, rfl, rv⟩ := rpA1 r
  refine ⟨v, n, rfl, ?_, k _ H (fun _ _ e => e) (.int _)⟩
  cases rv with
  | non => cases c
  | bl _ => cases c
  | int _ => cases c
  | dic _ _ _ => cases c
  | str z =>
    simp only [dLen] at c
    by_cases h : z.length ≤ sizeLine
    · rw [if_pos h] at c; cases c; exact ⟨h, rfl⟩
    · rw [if_neg h] at c; cases c
  | lst h1 h2 => cases c; exact .inl ⟨_, h1.sq, h2.len.symm⟩
  | tup h1 h2 => cases c; exact .inr ⟨_, h1.sq, h2.len.symm⟩
theorem wE_all (w : wD C ts y fun ds y1 => ∃ bs : List Bool, ds = [.list (bs.map PyData.bool)] ∧ Q (.d (.bool (bs.all id))) y1) : wE C (tCB (rAll C.K) ts) y Q := by
  refine wE_cb (res := fun ds g => ∃ bs : List Bool, ds = [.list (bs.map PyData.bool)] ∧ g = .bool (bs.all id)) ?_ (wD_mono w fun ds y1 ⟨i, e, q⟩ => ⟨_, ⟨i, e, rfl⟩, q⟩)
  rintro M H xs ds g Q _ r ⟨bs, rfl, rfl⟩ k
  obtain ⟨v, rfl, rv⟩ := rpA1 r
  obtain ⟨a, us, rfl, h1, h2⟩ := rp_lst rv
  have e := rpA_bls h2
  subst e
  exact ⟨a, bs, rfl, h1.sq, k _ H (fun _ _ e => e) (.bl _)⟩
theorem wE_any (w : wD C ts y fun ds y1 => ∃ bs : List Bool, ds = [.list (bs.map PyData.bool)] ∧ Q (.d (.bool (bs.any id))) y1) : wE C (tCB (rAny C.K) ts) y Q := by
  refine wE_cb (res := fun ds g => ∃ bs : List Bool, ds = [.list (bs.map PyData.bool)] ∧ g = .bool (bs.any id)) ?_ (wD_mono w fun ds y1 ⟨i, e, q⟩ => ⟨_, ⟨i, e, rfl⟩, q⟩)
  rintro M H xs ds g Q _ r ⟨bs, rfl, rfl⟩ k
  obtain ⟨v, rfl, rv⟩ := rpA1 r
  obtain ⟨a, us, rfl, h1, h2⟩ := rp_lst rv
  have e := rpA_bls h2
  subst e
  exact ⟨a, bs, rfl, h1.sq, k _ H (fun _ _ e => e) (.bl _)⟩
theorem wE_sum (w : wD C ts y fun ds y1 => ∃ bs : List Int, ds = [.list (bs.map PyData.int)] ∧ Q (.d (.int bs.sum)) y1) : wE C (tCB (rSum C.K) ts) y Q := by
  refine wE_cb (res := fun ds g => ∃ bs : List Int, ds = [.list (bs.map PyData.int)] ∧ g = .int bs.sum) ?_ (wD_mono w fun ds y1 ⟨i, e, q⟩ => ⟨_, ⟨i, e, rfl⟩, q⟩)
  rintro M H xs ds g Q _ r ⟨bs, rfl, rfl⟩ k
  obtain ⟨v, rfl, rv⟩ := rpA1 r
  obtain ⟨a, us, rfl, h1, h2⟩ := rp_lst rv
  have e := rpA_ints h2
  subst e
  exact ⟨a, bs, rfl, h1.sq, k _ H (fun _ _ e => e) (.int _)⟩
def dItems : D → Option (List D)
  | .list xs => some xs
  | .tuple xs => some xs
  | _ => none
theorem rp_items {K : Fg} {M : Addr → Prop} {H : Hp} {v : V} {d : D} {xs : List D} (r : Rp K M H v d) (h : dItems d = some xs) : ∃ a us, v = .ref a ∧ (LsA K M H a us ∨ TsA K M H a us) ∧ RpA K M H us xs := by
  cases r with
  | non => cases h
  | bl _ => cases h
  | int _ => cases h
  | str _ => cases h
  | dic _ _ _ => cases h
  | lst h1 h2 => cases h; exact ⟨_, _, rfl, .inl h1, h2⟩
  | tup h1 h2 => cases h; exact ⟨_, _, rfl, .inr h1, h2⟩
theorem wE_listOf (w : wD C ts y fun ds y1 => ∃ d xs, ds = [d] ∧ dItems d = some xs ∧ Q (.d (.list xs)) y1) :
    wE C (tCB (fun xs H Q => ∃ p ys, xs = [.ref p] ∧ (SqL C.K H p ys ∨ SqT C.K H p ys) ∧ ∀ l, H l = none → Q (.ref l) (upd H l (.lst ys))) ts) y Q := by
  refine wE_cb (res := fun ds g => ∃ d xs, ds = [d] ∧ dItems d = some xs ∧ g = .list xs) ?_ (wD_mono w fun ds y1 ⟨i, xs, e, c, q⟩ => ⟨_, ⟨i, xs, e, c, rfl⟩, q⟩)
  rintro M H xs ds g Q fr r ⟨d, es, rfl, c, rfl⟩ k
  obtain ⟨v, rfl, rv⟩ := rpA1 r
  obtain ⟨a, us, rfl, h1, h2⟩ := rp_items rv c
  refine ⟨a, us, rfl, h1.elim (fun z => .inl z.sq) (fun z => .inr z.sq), fun p hp => k _ _ (grow_upd hp) (.lst (.inl ⟨fr p hp, .inl upd_same⟩) (h2.go fun a o n e => ⟨n, grow_upd hp a o e⟩))⟩
theorem wE_tupOf (w : wD C ts y fun ds y1 => ∃ d xs, ds = [d] ∧ dItems d = some xs ∧ Q (.d (.tuple xs)) y1) :
    wE C (tCB (fun xs H Q => ∃ p ys, xs = [.ref p] ∧ ((SqL C.K H p ys ∧ ∀ l, H l = none → Q (.ref l) (upd H l (.tup ys))) ∨ (SqT C.K H p ys ∧ Q (.ref p) H))) ts) y Q := by
  refine wE_cb (res := fun ds g => ∃ d xs, ds = [d] ∧ dItems d = some xs ∧ g = .tuple xs) ?_ (wD_mono w fun ds y1 ⟨i, xs, e, c, q⟩ => ⟨_, ⟨i, xs, e, c, rfl⟩, q⟩)
  rintro M H xs ds g Q fr r ⟨d, es, rfl, c, rfl⟩ k
  obtain ⟨v, rfl, rv⟩ := rpA1 r
  obtain ⟨a, us, rfl, h1, h2⟩ := rp_items rv c
  refine ⟨a, us, rfl, ?_⟩
  rcases h1 with h1 | h1
  · exact .inl ⟨h1.sq, fun p hp => k _ _ (grow_upd hp) (.tup (.inl ⟨fr p hp, .inl upd_same⟩) (h2.go fun a o n e => ⟨n, grow_upd hp a o e⟩))⟩
  · exact .inr ⟨h1.sq, k _ H (fun _ _ e => e) (.tup h1 h2)⟩
theorem wE_repr (w : wD C ts y fun ds y1 => ∃ d, ds = [d] ∧ dsm d = true ∧ d.showable = true ∧ d.depth ≤ 60 ∧ d.shown.length ≤ sizeLine ∧ Q (.d (.str d.shown)) y1) : wE C (tCB (rRepr C.K) ts) y Q := by
  refine wE_cb (res := fun ds g => ∃ d, ds = [d] ∧ dsm d = true ∧ d.showable = true ∧ d.depth ≤ 60 ∧ d.shown.length ≤ sizeLine ∧ g = .str d.shown) ?_ (wD_mono w fun ds y1 ⟨d, e, c1, c2, c3, c4, q⟩ => ⟨_, ⟨d, e, c1, c2, c3, c4, rfl⟩, q⟩)
  rintro M H xs ds g Q _ r ⟨d, rfl, c1, c2, c3, c4, rfl⟩ k
  obtain ⟨v, rfl, rv⟩ := rpA1 r
  exact ⟨v, d, rfl, rv.any, c1, c2, c3, c4, k _ H (fun _ _ e => e) (.str _)⟩
/-! isinstance -/
def tyN : D → String
  | .none => "NoneType"
  | .bool _ => "bool"
  | .int _ => "int"
  | .str _ => "str"
  | .list _ => "list"
  | .tuple _ => "tuple"
  | .dict _ => "dict"
def tyNames : List String := ["NoneType", "bool", "int", "str", "list", "tuple", "dict"]
def isT (T : String) (d : D) : Bool := (kitB (tyN d) T).getD false
theorem rp_ty {K : Fg} {M : Addr → Prop} {H : Hp} {v : V} {d : D} (r : Rp K M H v d) : TyX K H v (.type (tyN d)) := by
  cases r with
  | non => exact .base .non
  | bl b => exact .base (.bl b)
  | int b => exact .base (.int b)
  | str b => exact .base (.str b)
  | lst h _ =>
    rcases h with ⟨_, h | ⟨o, h⟩⟩ | ⟨o, its, n, h1, h2, _⟩
    · exact .base (.lst h)
    · exact .base (.frz h)
    · exact .kList h1 h2
  | tup h _ =>
    rcases h with ⟨_, h | ⟨o, h⟩⟩ | ⟨o, its, n, h1, h2, _⟩
    · exact .base (.tup h)
    · exact .fTuple h
    · exact .kTuple h1 h2
  | dic _ h _ => exact .base (.dK h)
theorem kit_isT {T : String} (hT : (tyNames.all fun n => (kitB n T).isSome) = true) (d : D) : kitB (tyN d) T = some (isT T d) := by
  have h : (kitB (tyN d) T).isSome = true := by
    have z := List.all_eq_true.mp hT
    exact z (tyN d) (by cases d <;> simp [tyN, tyNames])
  unfold isT
  cases e : kitB (tyN d) T with
  | none => rw [e] at h; cases h
  | some b => rfl
theorem wE_isi {T : String} (w : wE C te y fun z y1 => ∃ d, z = .d d ∧ Q (.d (.bool (isT T d))) y1) (hT : (tyNames.all fun n => (kitB n T).isSome) = true := by decide +kernel) : wE C (tCB (rIsi C.K) (tCons te (tCons (tC (.ty T)) tNil))) y Q := by
  intro F σ H K wd k
  refine w F σ H _ wd fun x H1 z y1 w1 g1 s1 r1 q1 => ?_
  obtain ⟨d, rfl, h⟩ := q1
  exact ⟨x, .ty T, _, _, isT T d, rfl, .ty T, rp_ty r1, kit_ty (kit_isT hT d), k _ H1 (.d (.bool (isT T d))) y1 w1 g1 s1 (.bl _) h⟩
theorem wE_isi2 {T U : String} (w : wE C te y fun z y1 => ∃ d, z = .d d ∧ Q (.d (.bool (isT T d || isT U d))) y1) (hT : (tyNames.all fun n => (kitB n T).isSome) = true := by decide +kernel) (hU : (tyNames.all fun n => (kitB n U).isSome) = true := by decide +kernel) :
    wE C (tCB (rIsiT C.K) (tCons te (tCons (tTup (tCons (tC (.ty T)) (tCons (tC (.ty U)) tNil))) tNil))) y Q := by
  intro F σ H K wd k
  refine w F σ H _ wd fun x H1 z y1 w1 g1 s1 r1 q1 => ?_
  obtain ⟨d, rfl, h⟩ := q1
  refine ⟨by show 2 ≤ sizeLine; decide, fun p hp => ?_⟩
  have gr := grow_upd (o := .tup [.ty T, .ty U]) hp
  refine ⟨x, p, [.ty T, .ty U], _, [.type T, .type U], isT T d || isT U d, rfl, upd_same, .cons (.ty T) (.cons (.ty U) .nil), rp_ty (Rp.go (go_grow (F := F) (σ := σ) (y := y1) gr) r1), ?_, k _ _ (.d (.bool (isT T d || isT U d))) y1 (w1.grow gr) (g1.trans (go_grow gr)) s1 (.bl _) h⟩
  refine kitAny_cons (b := isT T d) (kit_ty (kit_isT hT d)) (fun e => ?_) (fun e => by rw [e]; rfl)
  refine kitAny_cons (b := isT U d) (kit_ty (kit_isT hU d)) (fun e2 => ?_) (fun e2 => by rw [e, e2]; rfl)
  rw [e, e2]
  rfl
/-! slices -/
variable {tl th : TO}
theorem wO_no {q : Option Int → S → Prop} (h : q none y) : wO C tNoPart y q := fun F σ H K wd k => k none H y wd GoH.refl (Sh.refl y) h
theorem wO_part {q : Option Int → S → Prop} (w : wE C te y fun z y1 => ∃ i, z = .d (.int i) ∧ q (some i) y1) : wO C (tPart te) y q := by
  intro F σ H K wd k
  refine w F σ H _ wd fun x H1 z y1 w1 g1 s1 r1 q1 => ?_
  obtain ⟨i, rfl, h⟩ := q1
  exact ⟨i, rp_int r1, k (some i) H1 y1 w1 g1 s1 h⟩
def cutD {α : Type} (xs : List α) (lo hi : Option Int) : List α := (xs.drop (HT.sIx xs.length 0 lo)).take (HT.sIx xs.length xs.length hi - HT.sIx xs.length 0 lo)
theorem rpA_cut {K : Fg} {M : Addr → Prop} {H : Hp} {vs : List V} {ds : List D} (r : RpA K M H vs ds) (lo hi : Option Int) : RpA K M H (cutV vs lo hi) (cutD ds lo hi) := by
  unfold cutV cutD
  rw [r.len]
  exact (r.drop _).take _
def dCut (d : D) (lo hi : Option Int) : Option D := match d with
  | .list xs => some (.list (cutD xs lo hi))
  | .tuple xs => some (.tuple (cutD xs lo hi))
  | .str z => if z.length ≤ sizeLine then some (.str (cutS z lo hi)) else none
  | _ => none
def rSlD (K : Fg) : V → Option Int → Option Int → Hp → VK → Prop := fun x lo hi H Q => rSlL K x lo hi H Q ∨ rSlA K x lo hi H Q ∨ rSlS x lo hi H Q
theorem sl_any {X : Cx} : SlR X (rSlD X.K) := sl_list.or (sl_tupA.or sl_str)
theorem cutD_whole {α : Type} (xs : List α) (lo hi : Option Int) (h : HT.sIx xs.length 0 lo = 0 ∧ HT.sIx xs.length xs.length hi = xs.length) : cutD xs lo hi = xs := by
  unfold cutD
  rw [h.1, h.2, List.drop_zero, Nat.sub_zero, List.take_length]
theorem wE_sl (w : wE C te y fun z y1 => wO C tl y1 fun l y2 => wO C th y2 fun h y3 => ∃ d g, z = .d d ∧ dCut d l h = some g ∧ Q (.d g) y3) : wE C (tSl (rSlD C.K) te tl th) y Q := by
  intro F σ H K wd k
  refine w F σ H _ wd fun x H1 z y1 w1 g1 s1 r1 q1 => ?_
  refine q1 F σ H1 _ w1 fun l H2 y2 w2 g2 s2 q2 => ?_
  refine q2 F σ H2 _ w2 fun h H3 y3 w3 g3 s3 q3 => ?_
  obtain ⟨d, g, rfl, c, hq⟩ := q3
  have r3 : Rp C.K (Mv F σ y3) H3 x d := Rp.go (g2.trans g3) r1
  have G := (g1.trans g2).trans g3
  have SS := (s1.trans s2).trans s3
  cases r3 with
  | non => cases c
  | bl _ => cases c
  | int _ => cases c
  | dic _ _ _ => cases c
  | str z =>
    simp only [dCut] at c
    by_cases hz : z.length ≤ sizeLine
    · rw [if_pos hz] at c; cases c
      exact .inr (.inr ⟨z, rfl, hz, k _ H3 (.d (.str (cutS z l h))) y3 w3 G SS (.str _) hq⟩)
    · rw [if_neg hz] at c; cases c
  | @lst a xs ds h1 h2 =>
    cases c
    refine .inl ⟨a, xs, rfl, h1.sq, fun p hp => ?_⟩
    have gr := grow_upd (o := .lst (cutV xs l h)) hp
    exact k _ _ (.d (.list (cutD ds l h))) y3 (w3.grow gr) (G.trans (go_grow gr)) SS (.lst (.inl ⟨w3.new hp, .inl upd_same⟩) ((rpA_cut h2 l h).go (go_grow gr))) hq
  | @tup a xs ds h1 h2 =>
    cases c
    refine .inr (.inl ⟨a, xs, rfl, h1.sq, fun e => ?_, fun e p hp => ?_⟩)
    · rw [h2.len] at e
      rw [cutD_whole ds l h e] at hq
      exact k _ H3 (.d (.tuple ds)) y3 w3 G SS (.tup h1 h2) hq
    · have gr := grow_upd (o := .tup (cutV xs l h)) hp
      exact k _ _ (.d (.tuple (cutD ds l h))) y3 (w3.grow gr) (G.trans (go_grow gr)) SS (.tup (.inl ⟨w3.new hp, .inl upd_same⟩) ((rpA_cut h2 l h).go (go_grow gr))) hq
/-! texts' methods -/
theorem wE_starts (w : wE C ta y fun z y1 => ∃ a, z = .d (.str a) ∧ wE C tb y1 fun z' y2 => ∃ b, z' = .d (.str b) ∧ Q (.d (.bool (Txt.startswith a b))) y2) :
    wE C (tM1 (fun x xs H Q => ∃ a b, x = .str a ∧ xs = [.str b] ∧ Q (.bl (Txt.startswith a b)) H) ta tb) y Q := by
  intro F σ H K wd k
  refine w F σ H _ wd fun x H1 z y1 w1 g1 s1 r1 q1 => ?_
  obtain ⟨a, rfl, q1⟩ := q1
  have e := rp_str r1
  subst e
  refine ⟨⟨a, rfl⟩, q1 F σ H1 _ w1 fun x2 H2 z' y2 w2 g2 s2 r2 q2 => ?_⟩
  obtain ⟨b, rfl, hq⟩ := q2
  exact ⟨a, b, rfl, by rw [rp_str r2], k _ H2 (.d (.bool _)) y2 w2 (g1.trans g2) (s1.trans s2) (.bl _) hq⟩
theorem wE_join (w : wE C ta y fun z y1 => ∃ a, z = .d (.str a) ∧ wE C tb y1 fun z' y2 => ∃ (d : D) (ys : List Str), z' = .d d ∧ dItems d = some (ys.map PyData.str) ∧ (ys.map (·.length)).sum + ys.length * a.length ≤ 16777216 ∧ Q (.d (.str (Txt.join a ys))) y2) :
    wE C (tM1 (fun x xs H Q => ∃ a p, ∃ ys : List Str, x = .str a ∧ xs = [.ref p] ∧ (SqL C.K H p (ys.map V.str) ∨ SqT C.K H p (ys.map V.str)) ∧ (ys.map (·.length)).sum + ys.length * a.length ≤ 16777216 ∧ Q (.str (Txt.join a ys)) H) ta tb) y Q := by
  intro F σ H K wd k
  refine w F σ H _ wd fun x H1 z y1 w1 g1 s1 r1 q1 => ?_
  obtain ⟨a, rfl, q1⟩ := q1
  have e := rp_str r1
  subst e
  refine ⟨⟨a, rfl⟩, q1 F σ H1 _ w1 fun x2 H2 z' y2 w2 g2 s2 r2 q2 => ?_⟩
  obtain ⟨d, ys, rfl, hi, hz, hq⟩ := q2
  obtain ⟨p, us, rfl, h1, h2⟩ := rp_items r2 hi
  have e := rpA_strs h2
  subst e
  exact ⟨a, p, ys, rfl, rfl, h1.elim (fun z => .inl z.sq) (fun z => .inr z.sq), hz, k _ H2 (.d (.str _)) y2 w2 (g1.trans g2) (s1.trans s2) (.str _) hq⟩
end
end Tq

set_option maxRecDepth 100000
set_option maxHeartbeats 2000000
namespace Tq
open PySem PySem.Spec PyProof.Rows L2
section
variable {C : Ct} {y : S} {ta tb tc te : TE} {t u : TT} {tx tz : TS} {ts : TA} {e : En} {R : Bool → S → Prop}
theorem EnOk.go {σ σ' : St} {y' : S} {H H' : Hp} {E : Ends} (k : EnOk C F σ y H e E) (g : Go F σ y H σ' y' H') : EnOk C F σ' y' H' e E :=
  ⟨fun a b c w g2 q => k.nx a b c w (g.trans g2) q, fun a b c d f w g2 r q => k.rt a b c d f w (g.trans g2) r q, fun a b c w g2 q => k.bk a b c w (g.trans g2) q, fun a b c w g2 q => k.ct a b c w (g.trans g2) q⟩
theorem wS_seq (w : wS C tx y { e with nx := fun y1 => wS C tz y1 e }) : wS C (tSeq tx tz) y e := by
  intro F σ H E st wd k
  refine w F σ H _ st wd ⟨fun σ1 H1 y1 w1 g1 q => ?_, k.rt, k.bk, k.ct⟩
  exact q F σ1 H1 E st w1 (k.go g1)
theorem wS_next (h : e.nx y) : wS C tNext y e := fun F σ H E st wd k => k.nx σ H y wd GoH.refl h
theorem wS_ret (w : wE C te y fun z y1 => e.rt z y1) : wS C (tRet te) y e := by
  intro F σ H E st wd k
  exact w F σ H _ wd fun v H1 z y1 w1 g1 s1 r1 q => k.rt σ v H1 z y1 w1 g1 r1 q
theorem wS_retN (h : e.rt (.d .none) y) : wS C tRetN y e := fun F σ H E st wd k => k.rt σ .non H (.d .none) y wd GoH.refl .non h
theorem wS_drop (w : wE C te y fun z y1 => e.nx y1) : wS C (tDrop te) y e := by
  intro F σ H E st wd k
  exact w F σ H _ wd fun v H1 z y1 w1 g1 s1 r1 q => k.nx σ H1 y1 w1 g1 q
theorem wS_asg {i : Nat} (w : wE C te y fun z y1 => ∃ d, z = .d d ∧ e.nx (y1.set i (some (.d d)))) (hp : i ≠ 0 ∨ C.pp = false := by first | exact Or.inr rfl | exact Or.inl (by decide)) : wS C (tAsg te (gName i)) y e := by
  intro F σ H E st wd k
  refine w F σ H _ wd fun v H1 z y1 w1 g1 s1 r1 q => ?_
  obtain ⟨d, rfl, q⟩ := q
  exact k.nx _ H1 _ (w1.set_d hp r1) (g1.trans go_set_d) q
theorem wS_if (w : wT C t y fun b y1 => if b = true then wS C tx y1 e else wS C tz y1 e) : wS C (tIfS t tx tz) y e := by
  intro F σ H E st wd k
  refine w F σ H _ wd fun b H1 y1 w1 g1 s1 q => ?_
  cases b with
  | true => exact q F σ H1 E st w1 (k.go g1)
  | false => exact q F σ H1 E st w1 (k.go g1)
theorem wS_par {i j : Nat} (w : wD C ts y fun ds y1 => ∃ d g, ds = [d, g] ∧ e.nx ((y1.set i (some (.d d))).set j (some (.d g)))) (hp : i ≠ 0 ∨ C.pp = false := by first | exact Or.inr rfl | exact Or.inl (by decide)) (hq : j ≠ 0 ∨ C.pp = false := by first | exact Or.inr rfl | exact Or.inl (by decide)) : wS C (tPar i j ts) y e := by
  intro F σ H E st wd k
  refine w F σ H _ wd fun vs H1 ds y1 w1 g1 s1 r1 q => ?_
  obtain ⟨d, g, rfl, q⟩ := q
  obtain ⟨v, u, rfl, rv, ru⟩ := rpA2 r1
  refine ⟨v, u, rfl, k.nx _ H1 _ ((w1.set_d hp rv).set_d hq (ru.go go_set_d)) ((g1.trans go_set_d).trans go_set_d) q⟩
theorem wS_aug {i : Nat} {f : Int → Int → Int} {a : Int} (hx : y[i]? = some (some (.d (.int a)))) (w : wE C te y fun z y1 => ∃ b, z = .d (.int b) ∧ e.nx (y1.set i (some (.d (.int (f a b)))))) (hp : i ≠ 0 ∨ C.pp = false := by first | exact Or.inr rfl | exact Or.inl (by decide)) : wS C (tAug i te (ipI f)) y e := by
  intro F σ H E st wd k
  obtain ⟨x, h1, h2⟩ := wd.slot i _ hx
  refine ⟨x, h1, w F σ H _ wd fun v H1 z y1 w1 g1 s1 r1 q => ?_⟩
  obtain ⟨b, rfl, q⟩ := q
  exact ⟨a, b, rp_int h2, rp_int r1, k.nx _ H1 _ (w1.set_d hp (.int _)) (g1.trans go_set_d) q⟩
theorem wS_mono {e' : En} (h : wS C tx y e) (h1 : ∀ y, e.nx y → e'.nx y) (h2 : ∀ z y, e.rt z y → e'.rt z y) (h3 : ∀ y, e.bk y → e'.bk y) (h4 : ∀ y, e.ct y → e'.ct y) : wS C tx y e' := fun F σ H E st wd k =>
  h F σ H E st wd ⟨fun a b c w g q => k.nx a b c w g (h1 _ q), fun a b c d f w g r q => k.rt a b c d f w g r (h2 _ _ q), fun a b c w g q => k.bk a b c w g (h3 _ q), fun a b c w g q => k.ct a b c w g (h4 _ q)⟩
/-! ### the usual pairs -/
theorem wS_seqA {i : Nat} (w : wE C te y fun z y1 => ∃ d, z = .d d ∧ wS C tz (y1.set i (some (.d d))) e) (hp : i ≠ 0 ∨ C.pp = false := by first | exact Or.inr rfl | exact Or.inl (by decide)) : wS C (tSeq (tAsg te (gName i)) tz) y e := wS_seq (wS_asg w hp)
theorem wS_seqP {i j : Nat} (w : wD C ts y fun ds y1 => ∃ d g, ds = [d, g] ∧ wS C tz ((y1.set i (some (.d d))).set j (some (.d g))) e) (hp : i ≠ 0 ∨ C.pp = false := by first | exact Or.inr rfl | exact Or.inl (by decide)) (hq : j ≠ 0 ∨ C.pp = false := by first | exact Or.inr rfl | exact Or.inl (by decide)) : wS C (tSeq (tPar i j ts) tz) y e := wS_seq (wS_par w hp hq)
theorem wS_seqI (w : wT C t y fun b y1 => if b = true then wS C tx y1 { nx := fun y2 => wS C tz y2 e, rt := e.rt, bk := e.bk, ct := e.ct } else wS C tz y1 e) : wS C (tSeq (tIfS t tx tNext) tz) y e := by
  refine wS_seq (wS_if (wT_mono w fun b y1 h => ?_))
  cases b with
  | true => exact h
  | false => exact wS_next h
theorem wS_ifN (w : wT C t y fun b y1 => if b = true then wS C tx y1 e else e.nx y1) : wS C (tIfS t tx tNext) y e := by
  refine wS_if (wT_mono w fun b y1 h => ?_)
  cases b with
  | true => exact h
  | false => exact wS_next h
/-! ### what is walked -/
def JOk (C : Ct) (F : Fr) (J : It) (σ : St) (y : S) (H : Hp) (xs : List D) : Prop := ∀ (F1 : Fr) σ1 y1 H1, Wd C F1 σ1 y1 H1 → GoH (Mv F σ y) H (Mv F1 σ1 y1) H1 → ∀ i : Nat, (i < xs.length → J.go i H1) ∧ (xs.length ≤ i → J.stop i H1) ∧
  ∀ x, xs[i]? = some x → ∀ v H2, J.yld i H1 v H2 → (∀ a o, H1 a = some o → H2 a = some o) ∧ Rp C.K (Mv F1 σ1 y1) H2 v x
def wI (C : Ct) (wi : TI) (y : S) (Q : List D → S → Prop) : Prop := ∀ (F : Fr) σ H (R : It → Hp → Prop), Wd C F σ y H → (∀ J H' xs y', Wd C F σ y' H' → Go F σ y H σ y' H' → Sh y y' → JOk C F J σ y' H' xs → Q xs y' → R J H') → wi σ H R
variable {Qi : List D → S → Prop} {wi : TI}
theorem wI_list (w : wE C te y fun z y1 => ∃ xs, z = .d (.list xs) ∧ Qi xs y1) : wI C (iList C.K te) y Qi := by
  intro F σ H R wd k
  refine w F σ H _ wd fun v H1 z y1 w1 g1 s1 r1 q => ?_
  obtain ⟨xs, rfl, q⟩ := q
  obtain ⟨a, us, rfl, h1, h2⟩ := rp_lst r1
  refine ⟨a, rfl, ⟨us, h1.sq⟩, k _ H1 xs y1 w1 g1 s1 (fun F1 σ2 y2 H2 w2 g2 i => ?_) q⟩
  have e1 := (h1.go g2).sq
  have e2 := h2.go g2
  refine ⟨fun hi => ?_, fun hi => ⟨us, e1, by rw [h2.len]; exact hi⟩, fun x hx v H3 hy => ?_⟩
  · have : i < us.length := by rw [h2.len]; exact hi
    exact ⟨us, us[i], e1, by simp [this]⟩
  · obtain ⟨rfl, hv⟩ := hy
    obtain ⟨d, hd, rd⟩ := e2.getV (hv us e1)
    rw [hx] at hd
    cases hd
    exact ⟨fun _ _ e => e, rd⟩
theorem wI_tup (w : wE C te y fun z y1 => ∃ xs, z = .d (.tuple xs) ∧ Qi xs y1) : wI C (iTup C.K te) y Qi := by
  intro F σ H R wd k
  refine w F σ H _ wd fun v H1 z y1 w1 g1 s1 r1 q => ?_
  obtain ⟨xs, rfl, q⟩ := q
  obtain ⟨a, us, rfl, h1, h2⟩ := rp_tup r1
  refine ⟨a, rfl, ⟨us, h1.sq⟩, k _ H1 xs y1 w1 g1 s1 (fun F1 σ2 y2 H2 w2 g2 i => ?_) q⟩
  have e1 := (h1.go g2).sq
  have e2 := h2.go g2
  refine ⟨fun hi => ?_, fun hi => ⟨us, e1, by rw [h2.len]; exact hi⟩, fun x hx v H3 hy => ?_⟩
  · have : i < us.length := by rw [h2.len]; exact hi
    exact ⟨us, us[i], e1, by simp [this]⟩
  · obtain ⟨rfl, hv⟩ := hy
    obtain ⟨d, hd, rd⟩ := e2.getV (hv us e1)
    rw [hx] at hd
    cases hd
    exact ⟨fun _ _ e => e, rd⟩
/-- the signs of a text -/
def signs (z : Str) : List D := z.cps.toList.map fun c => .str ⟨#[c]⟩
theorem signs_len (z : Str) : (signs z).length = z.cps.size := by unfold signs; rw [List.length_map, Array.length_toList]
theorem wI_str (w : wE C te y fun z y1 => ∃ x, z = .d (.str x) ∧ Qi (signs x) y1) : wI C (iStr te) y Qi := by
  intro F σ H R wd k
  refine w F σ H _ wd fun v H1 z y1 w1 g1 s1 r1 q => ?_
  obtain ⟨x, rfl, q⟩ := q
  refine ⟨x, rp_str r1, k _ H1 (signs x) y1 w1 g1 s1 (fun F1 σ2 y2 H2 w2 g2 i => ⟨fun hi => ?_, fun hi => ?_, fun d hd v H3 hy => ?_⟩) q⟩
  · rw [signs_len] at hi; exact hi
  · rw [signs_len] at hi; exact hi
  · obtain ⟨rfl, c, hc, rfl⟩ := hy
    refine ⟨fun _ _ e => e, ?_⟩
    unfold signs at hd
    rw [List.getElem?_map, Array.getElem?_toList, hc] at hd
    cases hd
    exact .str _
def rangeD (lo : Int) (n : Nat) : List D := (List.range n).map fun k => .int (lo + (k : Nat))
theorem rangeD_len (lo : Int) (n : Nat) : (rangeD lo n).length = n := by unfold rangeD; rw [List.length_map, List.length_range]
theorem rangeD_get {lo : Int} {n i : Nat} {x : D} (h : (rangeD lo n)[i]? = some x) : i < n ∧ x = .int (lo + (i : Nat)) := by
  have hl : i < n := by have := (List.getElem?_eq_some_iff.mp h).1; rwa [rangeD_len] at this
  unfold rangeD at h
  rw [List.getElem?_map, List.getElem?_range hl] at h
  cases h
  exact ⟨hl, rfl⟩
theorem wI_rng1 (w : wD C ts y fun ds y1 => ∃ j : Int, ds = [.int j] ∧ -(2 ^ 62) ≤ j ∧ j < 2 ^ 62 ∧ Qi (rangeD 0 j.toNat) y1) : wI C (iRng1 ts) y Qi := by
  intro F σ H R wd k
  refine w F σ H _ wd fun vs H1 ds y1 w1 g1 s1 r1 q => ?_
  obtain ⟨j, rfl, h1, h2, q⟩ := q
  obtain ⟨v, rfl, rv⟩ := rpA1 r1
  have e := rp_int rv
  subst e
  refine ⟨j, rfl, h1, h2, k _ H1 _ y1 w1 g1 s1 (fun F1 σ2 y2 H2 w2 g2 i => ⟨fun hi => ?_, fun hi => ?_, fun d hd v H3 hy => ?_⟩) q⟩
  · rw [rangeD_len] at hi; exact hi
  · rw [rangeD_len] at hi; exact hi
  · obtain ⟨rfl, rfl⟩ := hy
    obtain ⟨_, rfl⟩ := rangeD_get hd
    exact ⟨fun _ _ e => e, .int _⟩
theorem wI_rng2 (w : wD C ts y fun ds y1 => ∃ i j : Int, ds = [.int i, .int j] ∧ (-(2 ^ 62) ≤ i ∧ i < 2 ^ 62 ∧ -(2 ^ 62) ≤ j ∧ j < 2 ^ 62) ∧ Qi (rangeD i (j - i).toNat) y1) : wI C (iRng2 ts) y Qi := by
  intro F σ H R wd k
  refine w F σ H _ wd fun vs H1 ds y1 w1 g1 s1 r1 q => ?_
  obtain ⟨i0, j, rfl, h1, q⟩ := q
  obtain ⟨v, u, rfl, rv, ru⟩ := rpA2 r1
  have e := rp_int rv
  have e' := rp_int ru
  subst e e'
  refine ⟨i0, j, rfl, h1, k _ H1 _ y1 w1 g1 s1 (fun F1 σ2 y2 H2 w2 g2 i => ⟨fun hi => ?_, fun hi => ?_, fun d hd v H3 hy => ?_⟩) q⟩
  · rw [rangeD_len] at hi; exact hi
  · rw [rangeD_len] at hi; exact hi
  · obtain ⟨rfl, rfl⟩ := hy
    obtain ⟨_, rfl⟩ := rangeD_get hd
    exact ⟨fun _ _ e => e, .int _⟩
/-! ### for, while -/
/-- the target takes a datum -/
def wG (C : Ct) (g : TG) (d : D) (y : S) (Q : S → Prop) : Prop := ∀ (F : Fr) σ H (v : V) (R : St → Hp → Prop), Wd C F σ y H → Rp C.K (Mv F σ y) H v d → (∀ σ' y', Wd C F σ' y' H → Go F σ y H σ' y' H → Q y' → R σ' H) → g v σ H R
variable {g : TG} {Qg : S → Prop}
theorem wG_name {i : Nat} {d : D} (h : Qg (y.set i (some (.d d)))) (hp : i ≠ 0 ∨ C.pp = false := by first | exact Or.inr rfl | exact Or.inl (by decide)) : wG C (gName i) d y Qg := fun F σ H v R wd r k => k _ _ (wd.set_d hp r) go_set_d h
def wGs (C : Ct) (g : TGs) (ds : List D) (y : S) (Q : S → Prop) : Prop := ∀ (F : Fr) σ H (vs : List V) (R : St → Hp → Prop), Wd C F σ y H → RpA C.K (Mv F σ y) H vs ds → (∀ σ' y', Wd C F σ' y' H → Go F σ y H σ' y' H → Q y' → R σ' H) → g vs σ H R
theorem wGs_nil (h : Qg y) : wGs C gNil [] y Qg := fun F σ H vs R wd r k => by
  cases r
  exact ⟨rfl, k σ y wd GoH.refl h⟩
theorem wGs_cons {gs : TGs} {d : D} {ds : List D} (h : wG C g d y fun y1 => wGs C gs ds y1 Qg) : wGs C (gCons g gs) (d :: ds) y Qg := fun F σ H vs R wd r k => by
  cases r with
  | @cons v _ vs _ r1 r2 =>
    refine ⟨v, vs, rfl, h F σ H v _ wd r1 fun σ1 y1 w1 g1 q1 => ?_⟩
    exact q1 F σ1 H vs R w1 (r2.go g1) fun σ2 y2 w2 g2 q2 => k σ2 y2 w2 (g1.trans g2) q2
theorem wG_tup {n : Nat} {gs : TGs} {ds : List D} (hn : ds.length = n) (h : wGs C gs ds y Qg) : wG C (gTup C.K n gs) (.tuple ds) y Qg := fun F σ H v R wd r k => by
  obtain ⟨a, us, rfl, h1, h2⟩ := rp_tup r
  exact ⟨a, us, rfl, h1.sq, by rw [h2.len]; exact hn, h F σ H us R wd h2 k⟩
theorem wS_asgG (w : wE C te y fun z y1 => ∃ d, z = .d d ∧ wG C g d y1 e.nx) : wS C (tAsg te g) y e := by
  intro F σ H E st wd k
  refine w F σ H _ wd fun v H1 z y1 w1 g1 s1 r1 q => ?_
  obtain ⟨d, rfl, q⟩ := q
  exact q F σ H1 v _ w1 r1 fun σ2 y2 w2 g2 q2 => k.nx σ2 H1 y2 w2 (g1.trans g2) q2
theorem wS_for (w : wI C wi y fun xs y1 => ∃ I : Nat → S → Prop, I 0 y1 ∧ (∀ i x y2, xs[i]? = some x → I i y2 → wG C g x y2 fun y3 => wS C tx y3 { nx := I (i + 1), ct := I (i + 1), bk := e.nx, rt := e.rt }) ∧ (∀ y2, I xs.length y2 → e.nx y2)) :
    wS C (tFor wi g tx) y e := by
  intro F σ H E st wd k
  refine w F σ H _ wd fun J H1 xs y1 w1 g1 s1 hJ ⟨I, h0, hs, hd⟩ => ?_
  refine ⟨fun i m σ2 H2 => m = xs.length - i ∧ i ≤ xs.length ∧ ∃ y2, Wd C F σ2 y2 H2 ∧ Go F σ y1 H1 σ2 y2 H2 ∧ I i y2, ⟨xs.length, by simp, Nat.zero_le _, y1, w1, GoH.refl, h0⟩, ?_⟩
  rintro i m σ2 H2 ⟨rfl, hi, y2, w2, g2, hI⟩
  obtain ⟨j1, j2, j3⟩ := hJ F σ2 y2 H2 w2 g2 i
  by_cases hlt : i < xs.length
  · refine .inr ⟨j1 hlt, fun σ3 H3 => ∃ y3, Wd C F σ3 y3 H3 ∧ Go F σ y1 H1 σ3 y3 H3 ∧ I (i + 1) y3, fun σ3 H3 ⟨y3, w3, g3, h3⟩ => ⟨xs.length - (i + 1), by omega, rfl, hlt, y3, w3, g3, h3⟩, fun v H3 hy => ?_⟩
    have ex : xs[i]? = some xs[i] := List.getElem?_eq_getElem hlt
    obtain ⟨gr, rv⟩ := j3 _ ex v H3 hy
    have w3 := w2.grow gr
    have g3 := g2.trans (go_grow (F := F) (σ := σ2) (y := y2) gr)
    refine hs i _ y2 ex hI F σ2 H3 v _ w3 rv fun σ4 y4 w4 g4 q4 => ?_
    refine q4 F σ4 H3 _ st w4 ⟨fun σ5 H5 y5 w5 g5 q5 => ⟨y5, w5, (g3.trans g4).trans g5, q5⟩, fun σ5 v5 H5 z5 y5 w5 g5 r5 q5 => k.rt σ5 v5 H5 z5 y5 w5 (((g1.trans g3).trans g4).trans g5) r5 q5,
      fun σ5 H5 y5 w5 g5 q5 => k.nx σ5 H5 y5 w5 (((g1.trans g3).trans g4).trans g5) q5, fun σ5 H5 y5 w5 g5 q5 => ⟨y5, w5, (g3.trans g4).trans g5, q5⟩⟩
  · have ei : i = xs.length := by omega
    subst ei
    exact .inl ⟨j2 (Nat.le_refl _), k.nx σ2 H2 y2 w2 (g1.trans g2) (hd y2 hI)⟩
end
end Tq

set_option maxRecDepth 100000
set_option maxHeartbeats 2000000
namespace Tq
open PySem PySem.Spec PyProof.Rows L2
section
variable {C : Ct} {F : Fr} {σ : St} {y y' : S} {H H' : Hp}
theorem isO_none {j i : Nat} (h : isO (y.set j none) i = true) : i ≠ j ∧ isO y i = true := by
  rcases isO_set h with ⟨_, _, z, e, _⟩ | h | ⟨e, l⟩
  · cases e
  · exact h
  · have := isO_lt h; rw [List.length_set] at this; omega
theorem isO_none' {j i : Nat} (n : i ≠ j) : isO (y.set j none) i = isO y i := by
  unfold isO
  rw [List.getElem?_set_ne (Ne.symm n)]
theorem sh_none {j : Nat} (h : isO y j = false) : Sh y (y.set j none) := fun i => by
  by_cases e : i = j
  · subst e
    rw [h]
    cases q : isO (y.set i none) i with
    | false => rfl
    | true => exact absurd rfl (isO_none q).1
  · exact isO_none' e
/-- a slot is forgotten, its value may be another one -/
theorem Wd.unset (w : Wd C F σ y H) {j : Nat} {τ : St} (hl : τ.length = σ.length) (hτ : ∀ i, i ≠ j → τ[i]? = σ[i]?) (hp : j ≠ 0 ∨ C.pp = false) : Wd C F τ (y.set j none) H ∧ Go F σ y H τ (y.set j none) H := by
  have own : ∀ a, Own τ (y.set j none) a → Own σ y a := by
    rintro a ⟨i, hi, e⟩
    obtain ⟨n, o⟩ := isO_none hi
    rw [hτ i n] at e
    exact ⟨i, o, e⟩
  have g : Go F σ y H τ (y.set j none) H := fun a o n e => ⟨fun z => n (z.elim .inl fun z => .inr (own a z)), e⟩
  refine ⟨⟨w.keep, w.live0, w.live, by rw [hl, List.length_set]; exact w.len, fun i z e => ?_, fun i k a h1 h2 e1 e2 => ?_, fun a h => w.frsh a (own a h), fun e => ?_, w.sm, fun st i a h e s => ?_⟩, g⟩
  · have n : i ≠ j := by
      rintro rfl
      have hl := (List.getElem?_eq_some_iff.mp e).1
      rw [List.length_set] at hl
      rw [List.getElem?_set_self hl] at e
      cases e
    rw [List.getElem?_set_ne (Ne.symm n)] at e
    rw [hτ i n]
    have s := w.slot i z e
    cases z with
    | d d => obtain ⟨x, h1, h2⟩ := s; exact ⟨x, h1, h2.go g⟩
    | pu n => exact s
    | own ds => obtain ⟨a, xs, h1, h2, h3⟩ := s; exact ⟨a, xs, h1, h2, h3.go g⟩
  · obtain ⟨n1, o1⟩ := isO_none h1
    obtain ⟨n2, o2⟩ := isO_none h2
    rw [hτ i n1] at e1
    rw [hτ k n2] at e2
    exact w.dist i k a o1 o2 e1 e2
  · rcases hp with hp | hp
    · rw [hτ 0 (Ne.symm hp)]; exact w.pin e
    · rw [hp] at e; cases e
  · obtain ⟨n1, o1⟩ := isO_none h
    rw [hτ i n1] at e
    exact w.nb st i a o1 e s
theorem own_sh (s : Sh y y') {a : Addr} : Own σ y' a ↔ Own σ y a := by
  constructor
  · rintro ⟨i, hi, e⟩; exact ⟨i, by rw [← s i]; exact hi, e⟩
  · rintro ⟨i, hi, e⟩; exact ⟨i, by rw [s i]; exact hi, e⟩
theorem own_live (w : Wd C F σ y H) {a : Addr} (h : Own σ y a) : H a ≠ none := fun e => w.new e (.inr h)
/-- a frame within, at the heap as it stands: what is owned may change; l is apart -/
def sub (F : Fr) (σ : St) (y : S) (H : Hp) (l : Addr) : Fr := ⟨H, Own σ y, fun a => Mv F σ y a ∨ a = l, F.p, false⟩
theorem sub_mv {l a : Addr} {H0 : Hp} {u : S} (s : Sh u y) : Mv (sub F σ u H0 l) σ y a ↔ (Mv F σ u a ∨ a = l) := by
  constructor
  · rintro (z | z)
    · exact z
    · exact .inl (.inr ((own_sh s).mp z))
  · exact .inl
theorem slots_go {M : Addr → Prop} {z : Y} {v : Option (Option V)} (g : GoH (Mv F σ y) H M H') (hk : ∀ a o, v = some (some (.ref a)) → z.o = true → H a = some o → H' a = some o) (s : SlotOk C.K (Mv F σ y) H v z) : SlotOk C.K M H' v z := by
  cases z with
  | d d => obtain ⟨x, h1, h2⟩ := s; exact ⟨x, h1, h2.go g⟩
  | pu n => obtain ⟨b, h1, x, c, d, h2, h3⟩ := s; exact ⟨b, h1, x, c, d, hk _ _ h1 rfl h2, h3⟩
  | own ds => obtain ⟨b, xs, h1, h2, h3⟩ := s; exact ⟨b, xs, h1, hk _ _ h1 rfl h2, h3.go g⟩
theorem Wd.into (w : Wd C F σ y H) {l : Addr} {o : HO} (h : H l = none) : Wd C (sub F σ y (upd H l o) l) σ y (upd H l o) := by
  have nl : ¬ Mv F σ y l := w.new h
  have g : GoH (Mv F σ y) H (Mv (sub F σ y (upd H l o) l) σ y) (upd H l o) := fun a u n e => by
    have ne : a ≠ l := ne_of_none e h
    exact ⟨fun z => ((sub_mv (Sh.refl y)).mp z).elim n ne, by rw [upd_ne ne]; exact e⟩
  have lv : ∀ a, (Mv F σ y a ∨ a = l) → upd H l o a ≠ none := by
    rintro a (z | z) e
    · by_cases ha : a = l
      · exact nl (ha ▸ z)
      · rw [upd_ne ha] at e
        rcases z with z | z
        · exact w.live a z e
        · exact own_live w z e
    · rw [z, upd_same] at e; cases e
  exact ⟨fun a u _ e => e, lv, lv, w.len, fun i z e => slots_go g (fun a u _ _ e => grow_upd h a u e) (w.slot i z e), w.dist, fun a ha => .inl ha, w.pin, fun a z => .inl (.inr z), fun q => nomatch q⟩
/-- the frame within, with l written, at the heap as it stands then -/
theorem Wd.reb {u : S} {H0 : Hp} {l : Addr} {o : HO} (w : Wd C (sub F σ u H0 l) σ y H) (s : Sh u y) (nl : ¬ Own σ u l) : Wd C (sub F σ u (upd H l o) l) σ y (upd H l o) := by
  have g : GoH (Mv (sub F σ u H0 l) σ y) H (Mv (sub F σ u (upd H l o) l) σ y) (upd H l o) := fun a v n e => by
    have ne : a ≠ l := fun z => n ((sub_mv s).mpr (.inr z))
    exact ⟨fun z => n ((sub_mv s).mpr ((sub_mv s).mp z)), by rw [upd_ne ne]; exact e⟩
  have lv : ∀ a, (Mv F σ u a ∨ a = l) → upd H l o a ≠ none := fun a z e => by
    by_cases ha : a = l
    · rw [ha, upd_same] at e; cases e
    · rw [upd_ne ha] at e; exact w.live a z e
  refine ⟨fun a v _ e => e, lv, lv, w.len, fun i z e => slots_go g (fun a v e1 e2 e3 => ?_) (w.slot i z e), w.dist, fun a ha => .inl ((own_sh s).mp ha), w.pin, fun a z => .inl (.inr z), fun q => nomatch q⟩
  have ne : a ≠ l := by
    rintro rfl
    exact nl ((own_sh s).mp ⟨i, by unfold isO; rw [e]; exact e2, e1⟩)
  rw [upd_ne ne]; exact e3
theorem Wd.regrow {u : S} {H0 : Hp} {l : Addr} (w : Wd C (sub F σ u H0 l) σ y H) (s : Sh u y) (gr : ∀ a o, H a = some o → H' a = some o) : Wd C (sub F σ u H' l) σ y H' := by
  have w2 := w.grow gr
  exact ⟨fun a v _ e => e, w2.live, w2.live, w2.len, w2.slot, w2.dist, fun a ha => .inl ((own_sh s).mp ha), w2.pin, fun a z => .inl (.inr z), fun q => nomatch q⟩
theorem Wd.outOf {u : S} {H0 H2 : Hp} {l : Addr} (w : Wd C F σ u H) (h : H l = none) (w2 : Wd C (sub F σ u H0 l) σ y H2) (s : Sh u y) (kp : ∀ a o, ¬ Own σ u a → H a = some o → H2 a = some o) :
    Wd C F σ y H2 ∧ Go F σ u H σ y H2 ∧ ¬ Mv F σ y l ∧ GoH (Mv (sub F σ u H0 l) σ y) H2 (Mv F σ y) H2 ∧ GoH (Mv F σ u) H (Mv (sub F σ u H0 l) σ y) H2 := by
  have nl : ¬ Mv F σ u l := w.new h
  have mv : ∀ a, Mv F σ y a ↔ Mv F σ u a := fun a => ⟨fun z => z.elim .inl fun z => .inr ((own_sh s).mp z), fun z => z.elim .inl fun z => .inr ((own_sh s).mpr z)⟩
  have gd : GoH (Mv (sub F σ u H0 l) σ y) H2 (Mv F σ y) H2 := fun a v n e => ⟨fun z => n ((sub_mv s).mpr (.inl ((mv a).mp z))), e⟩
  have st : ∀ a o, ¬ Mv F σ u a → H a = some o → H2 a = some o := fun a o n e => kp a o (fun z => n (.inr z)) e
  refine ⟨⟨fun a v n e => ?_, w.live0, fun a m => w2.live a (.inl (.inl m)), w2.len, fun i z e => slots_go gd (fun _ _ _ _ e => e) (w2.slot i z e), w2.dist, fun a ha => w.frsh a ((own_sh s).mp ha), w2.pin, w.sm, fun q i a h e => w.nb q i a (by rw [← s i]; exact h) e⟩, fun a v n e => ⟨fun z => n ((mv a).mp z), st a v n e⟩, fun z => nl ((mv l).mp z), gd, fun a v n e => ⟨fun z => ((sub_mv s).mp z).elim n (ne_of_none e h), st a v n e⟩⟩
  refine kp a v (fun z => ?_) (w.keep a v n e)
  rcases w.frsh a z with q | q
  · exact n q
  · rw [q] at e; cases e
end
section
variable {C : Ct} {y : S} {te : TE} {tt : TT} {wi : TI} {Q : Z → S → Prop}
/-- [e for x in .. if ..] -/
theorem wE_lc {j : Nat} (hj : isO y j = false)
    (w : wI C wi y fun xs y1 => ∃ I : Nat → List D → S → Prop, xs.length ≤ sizeLine ∧ I 0 [] (y1.set j none) ∧
      (∀ i x acc y2, xs[i]? = some x → I i acc y2 → wT C tt (y2.set j (some (.d x))) fun b y3 => if b = true then wE C te y3 fun z y4 => ∃ d, z = .d d ∧ I (i + 1) (acc ++ [d]) (y4.set j none) else I (i + 1) acc (y3.set j none)) ∧
      (∀ acc y2, I xs.length acc y2 → acc.length ≤ xs.length → Q (.d (.list acc)) y2))
    (hp : j ≠ 0 ∨ C.pp = false := by first | exact Or.inr rfl | exact Or.inl (by decide)) :
    wE C (tLc wi (gName j) tt te [j]) y Q := by
  intro F σ H K wd k
  refine w F σ H _ wd fun J H1 xs y1 w1 g1 s1 hJ ⟨I, hz, h0, hs, hd⟩ => ?_
  intro l hl
  have wz : wipe σ [j] = σ.set j none := rfl
  obtain ⟨w1', g1'⟩ := w1.unset (j := j) (τ := σ) rfl (fun _ _ => rfl) hp
  have sz : Sh y1 (y1.set j none) := sh_none ((s1 j).trans hj)
  have uj : isO (y1.set j none) j = false := (sz j).trans ((s1 j).trans hj)
  generalize y1.set j none = u at w1' g1' sz h0 uj
  have wi1 := w1'.into (l := l) (o := .lst []) hl
  have nOl : ¬ Own σ u l := fun z => w1'.new hl (.inr z)
  refine ⟨fun i m H2 => m = xs.length - i ∧ i ≤ xs.length ∧ ∃ y2 acc vs, Wd C (sub F σ u H2 l) σ y2 H2 ∧ Sh u y2 ∧ (∀ a o, ¬ Own σ u a → H1 a = some o → H2 a = some o) ∧ I i acc y2 ∧ H2 l = some (.lst vs) ∧ RpA C.K (Mv (sub F σ u H2 l) σ y2) H2 vs acc ∧ acc.length ≤ i,
    ⟨xs.length, by simp, Nat.zero_le _, u, [], [], wi1, Sh.refl u, fun a o _ e => grow_upd hl a o e, h0, upd_same, .nil, Nat.zero_le _⟩, ?_⟩
  rintro i m H2 ⟨rfl, hi, y2, acc, vs, w2, s2, kp2, hI, hl2, rv2, ha2⟩
  obtain ⟨o1, o2, o3, o4, o5⟩ := w1'.outOf hl w2 s2 kp2
  obtain ⟨j1, j2, j3⟩ := hJ (sub F σ u H2 l) σ y2 H2 w2 (g1'.trans o5) i
  by_cases hlt : i < xs.length
  · refine .inr ⟨j1 hlt, fun H3 => ∃ y3 acc vs, Wd C (sub F σ u H3 l) σ y3 H3 ∧ Sh u y3 ∧ (∀ a o, ¬ Own σ u a → H1 a = some o → H3 a = some o) ∧ I (i + 1) acc y3 ∧ H3 l = some (.lst vs) ∧ RpA C.K (Mv (sub F σ u H3 l) σ y3) H3 vs acc ∧ acc.length ≤ i + 1,
      fun H3 h => ⟨xs.length - (i + 1), by omega, rfl, hlt, h⟩, fun v H3 hy => ?_⟩
    have ex : xs[i]? = some xs[i] := List.getElem?_eq_getElem hlt
    obtain ⟨gr, rv⟩ := j3 _ ex v H3 hy
    have w3 := w2.regrow s2 gr
    have gx : GoH (Mv (sub F σ u H2 l) σ y2) H2 (Mv (sub F σ u H3 l) σ y2) H3 := fun a o n e => ⟨fun z => n ((sub_mv s2).mpr ((sub_mv s2).mp z)), gr a o e⟩
    have gy : GoH (Mv (sub F σ u H2 l) σ y2) H3 (Mv (sub F σ u H3 l) σ y2) H3 := fun a o n e => ⟨fun z => n ((sub_mv s2).mpr ((sub_mv s2).mp z)), e⟩
    have w4 : Wd C (sub F σ u H3 l) (σ.set j (some v)) (y2.set j (some (.d xs[i]))) H3 := w3.set_d hp (rv.go gy)
    have g4 : GoH (Mv (sub F σ u H2 l) σ y2) H2 (Mv (sub F σ u H3 l) (σ.set j (some v)) (y2.set j (some (.d xs[i])))) H3 := gx.trans go_set_d
    have eσ : (wipe σ [j]).set j (some v) = σ.set j (some v) := by rw [wz, List.set_set]
    show wipe ((wipe σ [j]).set j (some v)) [j] = wipe σ [j] ∧ tt ((wipe σ [j]).set j (some v)) H3 _
    rw [eσ]
    refine ⟨by show (σ.set j (some v)).set j none = σ.set j none; rw [List.set_set], ?_⟩
    have back : ∀ {yy : S} {HH : Hp}, Wd C (sub F σ u H3 l) (σ.set j (some v)) yy HH → Sh (y2.set j (some (.d xs[i]))) yy →
        Wd C (sub F σ u H3 l) σ (yy.set j none) HH ∧ Sh u (yy.set j none) ∧ GoH (Mv (sub F σ u H3 l) (σ.set j (some v)) yy) HH (Mv (sub F σ u H3 l) σ (yy.set j none)) HH ∧
          (∀ a o, ¬ Own σ u a → H1 a = some o → HH a = some o) ∧ HH l = some (.lst vs) := by
      intro yy HH ww ss
      obtain ⟨a1, a2⟩ := ww.unset (j := j) (τ := σ) (by rw [List.length_set]) (fun n hn => (List.getElem?_set_ne (Ne.symm hn)).symm) hp
      refine ⟨a1, fun n => ?_, a2, fun a o na e => ww.keep a o na (gr a o (kp2 a o na e)), ww.keep l _ nOl (gr l _ hl2)⟩
      by_cases hn : n = j
      · subst hn
        rw [uj]
        cases q : isO (yy.set n none) n with
        | false => rfl
        | true => exact absurd rfl (isO_none q).1
      · rw [isO_none' hn, ss n]
        have : isO (y2.set j (some (.d xs[i]))) n = isO y2 n := by
          unfold isO
          rw [List.getElem?_set_ne (Ne.symm hn)]
        rw [this]
        exact s2 n
    refine hs i _ acc y2 ex hI (sub F σ u H3 l) _ H3 _ w4 fun b H5 y5 w5 g5 s5 q5 => ?_
    cases b with
    | false =>
      obtain ⟨b1, b2, b3, b4, b5⟩ := back w5 s5
      have b6 := b1.regrow b2 (H' := H5) (fun _ _ e => e)
      have gz : GoH (Mv (sub F σ u H3 l) σ (y5.set j none)) H5 (Mv (sub F σ u H5 l) σ (y5.set j none)) H5 := fun a o n e => ⟨fun z => n ((sub_mv b2).mpr ((sub_mv b2).mp z)), e⟩
      exact ⟨y5.set j none, acc, vs, b6, b2, b4, q5, b5, rv2.go (((g4.trans g5).trans b3).trans gz), by omega⟩
    | true =>
      refine q5 (sub F σ u H3 l) _ H5 _ w5 fun x6 H6 z6 y6 w6 g6 s6 r6 q6 => ?_
      obtain ⟨d, rfl, q6⟩ := q6
      obtain ⟨b1, b2, b3, b4, b5⟩ := back w6 (s5.trans s6)
      have hlen : vs.length = acc.length := rv2.len
      refine ⟨vs, b5, by omega, y6.set j none, acc ++ [d], vs ++ [x6], b1.reb b2 nOl, b2, fun a o na e => ?_, q6, upd_same, ?_, by rw [List.length_append]; simp; omega⟩
      · rw [upd_ne (ne_of_none e hl)]
        exact b4 a o na e
      · have gz : GoH (Mv (sub F σ u H3 l) σ (y6.set j none)) H6 (Mv (sub F σ u (upd H6 l (.lst (vs ++ [x6]))) l) σ (y6.set j none)) (upd H6 l (.lst (vs ++ [x6]))) := fun a o n e => by
          have ne : a ≠ l := fun z => n ((sub_mv b2).mpr (.inr z))
          exact ⟨fun z => n ((sub_mv b2).mpr ((sub_mv b2).mp z)), by rw [upd_ne ne]; exact e⟩
        exact (rv2.go ((((g4.trans g5).trans g6).trans b3).trans gz)).app (.cons (Rp.go (b3.trans gz) r6) .nil)
  · have ei : i = xs.length := by omega
    subst ei
    refine .inl ⟨j2 (Nat.le_refl _), ?_⟩
    exact k _ H2 (.d (.list acc)) y2 o1 ((g1.trans g1').trans o2) ((s1.trans sz).trans s2) (.lst (.inl ⟨o3, .inl hl2⟩) (rv2.go o4)) (hd acc y2 hI ha2)
/-- a comprehension whose turns change nothing -/
theorem wE_lcF {j : Nat} {y' : S} (p : D → Bool) (f : D → D) (hj : isO y j = false)
    (w : wI C wi y fun xs y1 => y1 = y' ∧ xs.length ≤ sizeLine ∧ (∀ x ∈ xs, wT C tt (y'.set j (some (.d x))) fun b y3 => y3 = y'.set j (some (.d x)) ∧ b = p x ∧ (p x = true → wE C te y3 fun z y4 => z = .d (f x) ∧ y4 = y'.set j (some (.d x)))) ∧ Q (.d (.list ((xs.filter p).map f))) (y'.set j none))
    (hp : j ≠ 0 ∨ C.pp = false := by first | exact Or.inr rfl | exact Or.inl (by decide)) :
    wE C (tLc wi (gName j) tt te [j]) y Q := by
  refine wE_lc hj (fun F σ H R wd k => w F σ H R wd fun J H1 xs y1 w1 g1 s1 hJ ⟨e, hz, hs, hq⟩ => k J H1 xs y1 w1 g1 s1 hJ ?_) hp
  subst e
  refine ⟨fun i acc y2 => y2 = y1.set j none ∧ acc = ((xs.take i).filter p).map f, hz, ⟨rfl, rfl⟩, fun i x acc y2 hx ⟨e1, e2⟩ => ?_, fun acc y2 ⟨e1, e2⟩ _ => ?_⟩
  · subst e1 e2
    have hm : x ∈ xs := List.mem_of_getElem? hx
    have ht : xs.take (i + 1) = xs.take i ++ [x] := by rw [List.take_add_one, hx]; rfl
    have es : (y1.set j none).set j (some (.d x)) = y1.set j (some (.d x)) := List.set_set ..
    have ef : (y1.set j (some (.d x))).set j none = y1.set j none := List.set_set ..
    rw [es]
    refine wT_mono (hs x hm) fun b y3 ⟨e3, eb, h3⟩ => ?_
    subst eb e3
    cases hpx : p x with
    | true =>
      show wE C te _ _
      refine wE_mono (h3 hpx) fun z y4 ⟨ez, ey⟩ => ⟨f x, ez, ?_, ?_⟩
      · rw [ey, ef]
      · rw [ht, List.filter_append, List.map_append, List.filter_cons, if_pos hpx]
        rfl
    | false =>
      refine ⟨ef, ?_⟩
      rw [ht, List.filter_append, List.filter_cons, if_neg (by rw [hpx]; simp), List.filter_nil, List.append_nil]
  · subst e1 e2
    rw [List.take_length]
    exact hq
end
end Tq

set_option maxRecDepth 100000
set_option maxHeartbeats 2000000
namespace Tq
open PySem PySem.Spec PyProof.Rows L2
/-! ### owned things -/
section
variable {C : Ct} {F : Fr} {σ : St} {y y' : S} {H H' : Hp}
theorem PuOk.mono {H : Hp} {a : Addr} {m n : Nat} (h : PuOk H a n) (l : m ≤ n) : PuOk H a m := by
  obtain ⟨x, b, c, h1, h2, h3, h4, h5, h6⟩ := h
  exact ⟨x, b, c, h1, h2, h3, h4, h5, by omega⟩
/-- a new thing is taken into a slot, owned -/
theorem Wd.set_own (w : Wd C F σ y H) {i : Nat} {p : Addr} {o : HO} {z : Y} (hz : z.o = true) (hn : H p = none) (hp : i ≠ 0 ∨ C.pp = false)
    (ok : ∀ M, GoH (Mv F σ y) H M (upd H p o) → SlotOk C.K M (upd H p o) (some (some (.ref p))) z) :
    Wd C F (σ.set i (some (.ref p))) (y.set i (some z)) (upd H p o) ∧ Go F σ y H (σ.set i (some (.ref p))) (y.set i (some z)) (upd H p o) := by
  have own : ∀ a, Own (σ.set i (some (.ref p))) (y.set i (some z)) a → a = p ∨ Own σ y a := by
    rintro a ⟨j, hj, e⟩
    rcases isO_set hj with ⟨rfl, hl, _⟩ | ⟨n, hO⟩ | ⟨rfl, hl⟩
    · rw [List.getElem?_set_self (by rw [w.len]; exact hl)] at e
      cases e
      exact .inl rfl
    · rw [List.getElem?_set_ne (Ne.symm n)] at e
      exact .inr ⟨j, hO, e⟩
    · have := isO_lt hj; rw [List.length_set] at this; omega
  have g : Go F σ y H (σ.set i (some (.ref p))) (y.set i (some z)) (upd H p o) := fun a u n e => by
    have ne : a ≠ p := ne_of_none e hn
    refine ⟨?_, by rw [upd_ne ne]; exact e⟩
    rintro (q | q)
    · exact n (.inl q)
    · rcases own a q with q | q
      · exact ne q
      · exact n (.inr q)
  have old : ∀ {j : Nat} {a : Addr}, isO y j = true → σ[j]? = some (some (.ref a)) → a ≠ p := fun hO e z => own_live w ⟨_, hO, e⟩ (z ▸ hn)
  refine ⟨⟨fun a u n e => grow_upd hn a u (w.keep a u n e), w.live0, fun a m e => ?_, by rw [List.length_set, List.length_set]; exact w.len, fun j x e => ?_, fun j k a h1 h2 e1 e2 => ?_, fun a h => ?_, fun e => ?_, w.sm, fun st j a h e s => ?_⟩, g⟩
  · cases q : H a with
    | none => exact w.live a m q
    | some u => rw [grow_upd hn a u q] at e; cases e
  · by_cases n : j = i
    · subst n
      have hl : j < y.length := by
        have := (List.getElem?_eq_some_iff.mp e).1
        rw [List.length_set] at this; exact this
      rw [List.getElem?_set_self hl] at e
      cases e
      rw [List.getElem?_set_self (by rw [w.len]; exact hl)]
      exact ok _ g
    · rw [List.getElem?_set_ne (Ne.symm n)] at e ⊢
      exact slots_go g (fun a u _ _ e => grow_upd hn a u e) (w.slot j x e)
  · rcases isO_set h1 with ⟨r1, l1, _⟩ | ⟨n1, o1⟩ | ⟨r1, l1⟩
    · rcases isO_set h2 with ⟨r2, l2, _⟩ | ⟨n2, o2⟩ | ⟨r2, l2⟩
      · rw [r1, r2]
      · rw [r1, List.getElem?_set_self (by rw [w.len]; exact l1)] at e1
        rw [List.getElem?_set_ne (Ne.symm n2)] at e2
        cases e1
        exact absurd rfl (old o2 e2)
      · have := isO_lt h2; rw [List.length_set] at this; omega
    · rcases isO_set h2 with ⟨r2, l2, _⟩ | ⟨n2, o2⟩ | ⟨r2, l2⟩
      · rw [r2, List.getElem?_set_self (by rw [w.len]; exact l2)] at e2
        rw [List.getElem?_set_ne (Ne.symm n1)] at e1
        cases e2
        exact absurd rfl (old o1 e1)
      · rw [List.getElem?_set_ne (Ne.symm n1)] at e1
        rw [List.getElem?_set_ne (Ne.symm n2)] at e2
        exact w.dist j k a o1 o2 e1 e2
      · have := isO_lt h2; rw [List.length_set] at this; omega
    · have := isO_lt h1; rw [List.length_set] at this; omega
  · rcases own a h with q | q
    · subst q
      by_cases s : F.S0 a
      · exact .inl s
      · refine .inr ?_
        cases e : F.H0 a with
        | none => rfl
        | some u => rw [w.keep a u s e] at hn; cases hn
    · exact w.frsh a q
  · rcases hp with hp | hp
    · rw [List.getElem?_set_ne hp]; exact w.pin e
    · rw [hp] at e; cases e
  · rcases isO_set h with ⟨r1, l1, _⟩ | ⟨n1, o1⟩ | ⟨r1, l1⟩
    · rw [r1, List.getElem?_set_self (by rw [w.len]; exact l1)] at e
      cases e
      exact absurd hn (w.live p (w.sm p s))
    · rw [List.getElem?_set_ne (Ne.symm n1)] at e
      exact w.nb st j a o1 e s
    · have := isO_lt h; rw [List.length_set] at this; omega
theorem isO_of {i : Nat} {z : Y} (h : y[i]? = some (some z)) : isO y i = z.o := by unfold isO; rw [h]
theorem sh_set {i : Nat} {z x : Y} (h : y[i]? = some (some z)) (e : x.o = z.o) : Sh y (y.set i (some x)) := fun j => by
  by_cases n : j = i
  · subst n
    have hl := (List.getElem?_eq_some_iff.mp h).1
    rw [isO_of h, isO_of (List.getElem?_set_self hl)]
    exact e
  · unfold isO
    rw [List.getElem?_set_ne (Ne.symm n)]
/-- an owned thing has changed, and no other -/
theorem Wd.set_mut (w : Wd C F σ y H) {i : Nat} {p : Addr} {z x : Y} (hi : y[i]? = some (some z)) (hz : z.o = true) (hx : x.o = true) (hσ : σ[i]? = some (some (.ref p))) (kp : ∀ a o, a ≠ p → H a = some o → H' a = some o) (hl : H' p ≠ none)
    (ok : ∀ M, GoH (Mv F σ y) H M H' → SlotOk C.K M H' (some (some (.ref p))) x) : Wd C F σ (y.set i (some x)) H' ∧ Go F σ y H σ (y.set i (some x)) H' ∧ Sh y (y.set i (some x)) := by
  have s : Sh y (y.set i (some x)) := sh_set hi (by rw [hx, hz])
  have hO : Own σ y p := ⟨i, by rw [isO_of hi]; exact hz, hσ⟩
  have mv : ∀ a, Mv F σ (y.set i (some x)) a → Mv F σ y a := fun a z => z.elim .inl fun z => .inr ((own_sh s).mp z)
  have g : Go F σ y H σ (y.set i (some x)) H' := fun a u n e => ⟨fun z => n (mv a z), kp a u (fun z => n (.inr (z ▸ hO))) e⟩
  refine ⟨⟨fun a u n e => kp a u (fun q => ?_) (w.keep a u n e), w.live0, fun a m e => ?_, by rw [List.length_set]; exact w.len, fun j v e => ?_, fun j k a h1 h2 e1 e2 => ?_, fun a h => w.frsh a ((own_sh s).mp h), w.pin, w.sm, fun q j a h e => w.nb q j a (by rw [← s j]; exact h) e⟩, g, s⟩
  · subst q
    rcases w.frsh a hO with q | q
    · exact n q
    · rw [q] at e; cases e
  · by_cases ha : a = p
    · exact hl (ha ▸ e)
    · cases q : H a with
      | none => exact w.live a m q
      | some u => rw [kp a u ha q] at e; cases e
  · by_cases n : j = i
    · subst n
      have hl := (List.getElem?_eq_some_iff.mp hi).1
      rw [List.getElem?_set_self hl] at e
      cases e
      rw [hσ]
      exact ok _ g
    · rw [List.getElem?_set_ne (Ne.symm n)] at e
      refine slots_go g (fun a u e1 e2 e3 => kp a u (fun q => n ?_) e3) (w.slot j v e)
      subst q
      exact w.dist j i a (by rw [isO_of e]; exact e2) (by rw [isO_of hi]; exact hz) e1 hσ
  · rw [s j] at h1
    rw [s k] at h2
    exact w.dist j k a h1 h2 e1 e2
end
section
variable {C : Ct} {y : S} {te : TE} {ts : TA} {tx : TS} {e : En} {Q : Z → S → Prop}
/-- x = [..], owned -/
theorem wS_own {i : Nat} (w : wD C ts y fun ds y1 => ds.length ≤ sizeLine ∧ e.nx (y1.set i (some (.own ds)))) (hp : i ≠ 0 ∨ C.pp = false := by first | exact Or.inr rfl | exact Or.inl (by decide)) : wS C (tAsg (tLst ts) (gName i)) y e := by
  intro F σ H E st wd k
  refine w F σ H _ wd fun vs H1 ds y1 w1 g1 s1 r1 ⟨hz, q⟩ => ⟨by rw [r1.len]; exact hz, fun p hn => ?_⟩
  obtain ⟨w2, g2⟩ := w1.set_own (i := i) (o := .lst vs) (z := .own ds) rfl hn hp fun M g => ⟨p, vs, rfl, upd_same, r1.go g⟩
  exact k.nx _ _ _ w2 (g1.trans g2) q
/-- x.append(e) -/
theorem wS_app {i : Nat} {ds0 : List D} (hi : y[i]? = some (some (.own ds0))) (w : wE C te y fun z y1 => ∃ d ds, z = .d d ∧ y1[i]? = some (some (.own ds)) ∧ ds.length < sizeLine ∧ e.nx (y1.set i (some (.own (ds ++ [d]))))) :
    wS C (tDrop (tBM C.K "list" rAppend (tVar i) (tCons te tNil))) y e := by
  intro F σ H E st wd k
  obtain ⟨a, xs, h1, h2, h3⟩ := wd.slot i _ hi
  refine ⟨.ref a, h1, Or.inl ⟨rfl, xs, .inl (.inl h2)⟩, w F σ H _ wd fun v H1 z y1 w1 g1 s1 r1 q => ?_⟩
  obtain ⟨d, ds, rfl, hi1, hz, q⟩ := q
  obtain ⟨b, us, e1, e2, e3⟩ := w1.slot i _ hi1
  have eb : a = b := by rw [h1] at e1; cases e1; rfl
  subst eb
  refine ⟨a, us, v, rfl, rfl, e2, by rw [e3.len]; exact hz, ?_⟩
  obtain ⟨w2, g2, s2⟩ := w1.set_mut (H' := upd H1 a (.lst (us ++ [v]))) (x := .own (ds ++ [d])) hi1 rfl rfl e1 (fun b o n e => by rw [upd_ne n]; exact e) (by rw [upd_same]; simp)
    fun M g => ⟨a, us ++ [v], rfl, upd_same, (e3.go g).app (.cons (Rp.go g r1) .nil)⟩
  exact k.nx _ _ _ w2 (g1.trans g2) q
end
/-! ### promises over data -/
def pureSp (K : Fg) (n : Nat) (pre : List D → Prop) (post : List D → D → Prop) : Sp := fun vs H Q _ => ∃ (M : Addr → Prop) (ds : List D), (∀ a, M a → H a ≠ none) ∧ RpA K M H vs ds ∧ ds.length = n ∧ pre ds ∧
  ∀ d v H', post ds d → (∀ a o, H a = some o → H' a = some o) → Rp K M H' v d → Q v H'
theorem pureSp_len {K : Fg} {n : Nat} {pre : List D → Prop} {post : List D → D → Prop} {ps : List Str} (h : ps.length = n) : ∀ vs H Q E, pureSp K n pre post vs H Q E → vs.length = ps.length := by
  rintro vs H Q E ⟨M, ds, _, r, l, _⟩
  rw [r.len, l, h]
/-- a purse ahead of the arguments; cost: the draws at most -/
def puSp (K : Fg) (n : Nat) (pre : List D → Prop) (cost : List D → Nat) (post : List D → D → Prop) : Sp := fun vs H Q _ => ∃ (M : Addr → Prop) (p : Addr) (us : List V) (ds : List D) (m : Nat), vs = .ref p :: us ∧ M p ∧ (∀ a, M a → H a ≠ none) ∧ PuOk H p m ∧
  RpA K M H us ds ∧ ds.length = n ∧ pre ds ∧ cost ds ≤ m ∧ ∀ d v H', post ds d → (∀ a o, a ≠ p → H a = some o → H' a = some o) → PuOk H' p (m - cost ds) → Rp K M H' v d → Q v H'
theorem puSp_len {K : Fg} {n : Nat} {pre : List D → Prop} {cost : List D → Nat} {post : List D → D → Prop} {ps : List Str} (h : ps.length = n + 1) : ∀ vs H Q E, puSp K n pre cost post vs H Q E → vs.length = ps.length := by
  rintro vs H Q E ⟨M, p, us, ds, m, rfl, _, _, _, r, l, _⟩
  rw [List.length_cons, r.len, l, h]
section
variable {K : Fg} {N : List Str} {t : TS} {vs : List V} {H : Hp} {Q : VK} {E : XK} {n : Nat} {pre : List D → Prop} {post : List D → D → Prop} {cost : List D → Nat}
def y0 (N : List Str) (ds : List D) : S := ds.map (fun d => some (.d d)) ++ List.replicate (N.length - ds.length) none
theorem getElem?_app_none {α : Type} {as : List (Option α)} {k i : Nat} {z : α} (h : (as ++ List.replicate k none)[i]? = some (some z)) : as[i]? = some (some z) := by
  by_cases hi : i < as.length
  · rwa [List.getElem?_append_left hi] at h
  · rw [List.getElem?_append_right (by omega), List.getElem?_replicate] at h
    split at h <;> cases h
theorem start_get {i : Nat} {v : V} (h : vs[i]? = some v) : (start N vs)[i]? = some (some v) := by
  unfold L2.start
  have hl := (List.getElem?_eq_some_iff.mp h).1
  rw [List.getElem?_append_left (by rw [List.length_map]; exact hl), List.getElem?_map, h]
  rfl
theorem y0_isO (N : List Str) (ds : List D) (j : Nat) : isO (y0 N ds) j = false := by
  unfold isO y0
  split
  · rename_i q2
    have q3 := getElem?_app_none q2
    rw [List.getElem?_map] at q3
    cases q4 : ds[j]? with
    | none => rw [q4] at q3; cases q3
    | some d => rw [q4] at q3; cases q3; rfl
  · rfl
theorem pure_body (h : pureSp K n pre post vs H Q E) (b : ∀ ds, ds.length = n → pre ds → ∀ e : En, (∀ y, post ds .none → e.nx y) → (∀ d y, post ds d → e.rt (.d d) y) → wS ⟨K, false⟩ t (y0 N ds) e) :
    t { nx := fun _ G => Q .non G, rt := Q } (start N vs) H := by
  obtain ⟨M, ds, al, r, l, hp, k⟩ := h
  refine b ds l hp { nx := fun _ => post ds .none, rt := fun z _ => ∃ d, z = .d d ∧ post ds d } (fun _ q => q) (fun d _ q => ⟨d, rfl, q⟩) ⟨H, fun _ => False, M, 0, true⟩ (start N vs) H _ rfl ⟨fun a o _ e => e, al, al, ?_, fun i z e => ?_, fun i j a h1 _ _ _ => ?_, fun a ⟨i, h1, _⟩ => ?_, fun q => (nomatch q), fun a z => z.elim, fun _ _ _ _ _ z => z.elim⟩ ⟨fun σ' H' y' w g q => ?_, fun σ' v H' z y' w g rz q => ?_, fun _ _ _ _ _ q => q.elim, fun _ _ _ _ _ q => q.elim⟩
  · unfold L2.start y0
    rw [List.length_append, List.length_append, List.length_map, List.length_map, List.length_replicate, List.length_replicate, r.len]
  · have e1 := getElem?_app_none e
    rw [List.getElem?_map] at e1
    cases q : ds[i]? with
    | none => rw [q] at e1; cases e1
    | some d =>
      rw [q] at e1
      cases e1
      obtain ⟨v, hv, rv⟩ := r.get q
      refine ⟨v, start_get hv, rv.go fun a o na e => ⟨fun z => z.elim na ?_, e⟩⟩
      rintro ⟨j, hj, _⟩
      rw [y0_isO] at hj
      cases hj
  · rw [y0_isO] at h1; cases h1
  · rw [y0_isO] at h1; cases h1
  · exact k .none .non H' q (fun a o e => w.keep a o (fun z => z) e) .non
  · obtain ⟨d, rfl, q⟩ := q
    exact k d v H' q (fun a o e => w.keep a o (fun z => z) e) (Rp.go (fun a o n e => ⟨fun z => n (.inl z), e⟩) rz)
theorem pu_body (h : puSp K n pre cost post vs H Q E) (b : ∀ ds m, ds.length = n → pre ds → cost ds ≤ m → ∀ e : En, (∀ y k, post ds .none → y[0]? = some (some (.pu k)) → m - cost ds ≤ k → e.nx y) → (∀ d y k, post ds d → y[0]? = some (some (.pu k)) → m - cost ds ≤ k → e.rt (.d d) y) → wS ⟨K, true⟩ t (some (.pu m) :: y0 (N.drop 1) ds) e)
    (hN : 0 < N.length := by decide) : t { nx := fun _ G => Q .non G, rt := Q } (start N vs) H := by
  obtain ⟨M, p, us, ds, m, rfl, mp, al, pk, r, l, hp, hc, k⟩ := h
  have isd : ∀ j, isO (y0 (N.drop 1) ds) j = false := y0_isO _ _
  have is0 : ∀ j, isO (some (.pu m) :: y0 (N.drop 1) ds) j = true → j = 0 := fun j hj => by
    cases j with
    | zero => rfl
    | succ j =>
      have : isO (some (.pu m) :: y0 (N.drop 1) ds) (j + 1) = isO (y0 (N.drop 1) ds) j := by unfold isO; rw [List.getElem?_cons_succ]
      rw [this, isd j] at hj
      cases hj
  have s0 : (start N (.ref p :: us))[0]? = some (some (.ref p)) := start_get rfl
  have own : ∀ a, Own (start N (.ref p :: us)) (some (.pu m) :: y0 (N.drop 1) ds) a → a = p := fun a ⟨j, hj, e⟩ => by
    have := is0 j hj
    subst this
    rw [s0] at e
    cases e
    rfl
  have fin : ∀ {σ' : St} {H' : Hp} {y' : S} {q : Nat}, Wd ⟨K, true⟩ ⟨H, fun a => a = p, M, p, true⟩ σ' y' H' → y'[0]? = some (some (.pu q)) → m - cost ds ≤ q → PuOk H' p (m - cost ds) := fun {σ' H' y' q} w e hq => by
    obtain ⟨a, h1, h2⟩ := w.slot 0 _ e
    rw [w.pin rfl] at h1
    cases h1
    exact h2.mono hq
  refine b ds m l hp hc { nx := fun y => post ds .none ∧ ∃ k, y[0]? = some (some (.pu k)) ∧ m - cost ds ≤ k, rt := fun z y => ∃ d k, z = .d d ∧ post ds d ∧ y[0]? = some (some (.pu k)) ∧ m - cost ds ≤ k }
    (fun y k q1 q2 q3 => ⟨q1, k, q2, q3⟩) (fun d y k q1 q2 q3 => ⟨d, k, rfl, q1, q2, q3⟩) ⟨H, fun a => a = p, M, p, true⟩ (start N (.ref p :: us)) H _ rfl ⟨fun a o _ e => e, al, al, ?_, fun i z e => ?_, fun i j a h1 h2 _ _ => (is0 i h1).trans (is0 j h2).symm, fun a h => .inl (own a h), fun _ => s0, fun a z => (show a = p from z) ▸ mp, fun _ i a h _ _ => ⟨is0 i h, rfl⟩⟩ ⟨fun σ' H' y' w g q => ?_, fun σ' v H' z y' w g rz q => ?_, fun _ _ _ _ _ q => q.elim, fun _ _ _ _ _ q => q.elim⟩
  · unfold L2.start y0
    simp only [List.length_append, List.length_cons, List.length_map, List.length_replicate, List.length_drop]
    rw [r.len]
    omega
  · cases i with
    | zero =>
      cases e
      exact ⟨p, s0, pk⟩
    | succ i =>
      rw [List.getElem?_cons_succ] at e
      have e1 := getElem?_app_none e
      rw [List.getElem?_map] at e1
      cases q : ds[i]? with
      | none => rw [q] at e1; cases e1
      | some d =>
        rw [q] at e1
        cases e1
        obtain ⟨v, hv, rv⟩ := r.get q
        refine ⟨v, start_get (by rw [List.getElem?_cons_succ]; exact hv), rv.go fun a o na e => ⟨fun z => z.elim na fun z => ?_, e⟩⟩
        exact na ((own a z) ▸ mp)
  · obtain ⟨q1, c, q2, q3⟩ := q
    exact k .none .non H' q1 (fun a o n e => w.keep a o n e) (fin w q2 q3) .non
  · obtain ⟨d, c, rfl, q1, q2, q3⟩ := q
    exact k d v H' q1 (fun a o n e => w.keep a o n e) (fin w q2 q3) (Rp.go (fun a o n e => ⟨fun z => n (.inl z), e⟩) rz)
end
section
variable {C : Ct} {y : S} {ts : TA} {Q : Z → S → Prop} {E : XK} {n : Nat} {pre : List D → Prop} {post : List D → D → Prop} {cost : List D → Nat} {e : En}
theorem wE_pure (w : wD C ts y fun ds y1 => ds.length = n ∧ pre ds ∧ ∀ d, post ds d → Q (.d d) y1) : wE C (tCall (pureSp C.K n pre post) [] E ts) y Q := by
  intro F σ H K wd k
  refine w F σ H _ wd fun vs H1 ds y1 w1 g1 s1 r1 ⟨hn, hp, q⟩ => ?_
  rw [List.append_nil]
  exact ⟨Mv F σ y1, ds, fun a m e => w1.new e m, r1, hn, hp, fun d v H2 hd gr rv => k v H2 (.d d) y1 (w1.grow gr) (g1.trans (go_grow gr)) s1 rv (q d hd)⟩
theorem wE_pu {i m0 : Nat} (hi : y[i]? = some (some (.pu m0))) (w : wD C ts y fun ds y1 => ∃ m, y1[i]? = some (some (.pu m)) ∧ ds.length = n ∧ pre ds ∧ cost ds ≤ m ∧ ∀ d, post ds d → Q (.d d) (y1.set i (some (.pu (m - cost ds))))) :
    wE C (tCall (puSp C.K n pre cost post) [] E (tCons (tVar i) ts)) y Q := by
  intro F σ H K wd k
  obtain ⟨a, h1, h2⟩ := wd.slot i _ hi
  refine ⟨.ref a, h1, w F σ H _ wd fun vs H1 ds y1 w1 g1 s1 r1 ⟨m, hi1, hn, hp, hc, q⟩ => ?_⟩
  obtain ⟨b, e1, e2⟩ := w1.slot i _ hi1
  have eb : a = b := by rw [h1] at e1; cases e1; rfl
  subst eb
  rw [List.append_nil]
  refine ⟨Mv F σ y1, a, vs, ds, m, rfl, .inr ⟨i, by rw [isO_of hi1]; rfl, e1⟩, fun a m e => w1.new e m, e2, r1, hn, hp, hc, fun d v H2 hd kp pk rv => ?_⟩
  have hl : H2 a ≠ none := by
    obtain ⟨x, b, c, z, _⟩ := pk
    rw [z]; simp
  obtain ⟨w2, g2, s2⟩ := w1.set_mut (H' := H2) (x := .pu (m - cost ds)) hi1 rfl rfl e1 kp hl fun M g => ⟨a, rfl, pk⟩
  refine k v H2 (.d d) _ w2 (g1.trans g2) (s1.trans s2) (Rp.go (fun b o nb eb => ⟨fun z => nb (z.elim .inl fun z => .inr ((own_sh s2).mp z)), eb⟩) rv) (q d hd)
end
end Tq

set_option maxRecDepth 100000
set_option maxHeartbeats 2000000
namespace Tq
open PySem PySem.Spec PyProof.Rows L2
/-! ### defs of the text by their names -/
/-- the def x of the text, behind the top -/
structure Df (K : Fg) (mg : Str → Option Value) (x : Str) (st : Stmt) (ps : List Str) : Prop where
  ex : ∃ (f : Addr) (fd : FuncData), Fun K x x st f fd ∧ mg x = some (.ref f) ∧ Binds K fd ps []
/-- the name x is a def that keeps sp -/
structure Cal (P : Program) (w : World) (K : Fg) (mg : Str → Option Value) (base : Heap) (k : Nat) (x : Str) (ps : List Str) (sp : Sp) : Prop where
  ex : ∃ (f : Addr) (fd : FuncData), FnG P w K mg base CX0 k f fd ps sp ∧ mg x = some (.ref f) ∧ PySem.W.keepIn K (.ref f) = true ∧ Binds K fd ps []
section
variable {P : Program} {w : World} {K : Fg} {mg : Str → Option Value} {base : Heap} {k : Nat} {x : Str} {ps N : List Str} {sp : Sp} {st : Stmt}
theorem Df.ok (d : Df K mg x st ps) (Sc : FnScope N ps (defScope st)) (len : ∀ vs H Q E, sp vs H Q E → vs.length = ps.length)
    (hbody : ∀ (f : Addr) (cdv : Value) (A : Around) (outer : List Env) (s : Shared) (H : Hp) (vs : List V) (Q : VK) (E : XK), Room k (A.deeper (envOfC x (defScope st) s.heap.objs.size f cdv)) →
      (A.deeper (envOfC x (defScope st) s.heap.objs.size f cdv)).guards = some [] → sp vs H Q E →
      ∃ t, PSs (cxOf CX0 P w K mg base N x (defScope st) f cdv A outer s H E).nox (defBody st) t ∧ t { nx := fun _ G => Q .non G, rt := Q } (start N vs) H) : Cal P w K mg base (k + 1) x ps sp := by
  obtain ⟨f, fd, F, hm, hb⟩ := d.ex
  exact ⟨f, fd, okG F Sc len (hbody f), hm, F.kp, hb⟩
theorem pe_cal {X : Cx} {p pos : Pos} {e : Expr} {es : List Expr} {t : TA} (c : Cal X.prog X.w X.K X.mg X.base k x ps sp) (hr : Room k X.A) (hgu : X.A.guards = some []) (hg : Gl X x) (ha : PA X (e :: es) t) (hdb : (x == ("__debug__" : Str)) = false := by decide)
    (he : starEach (e :: es) X.env = (false, eval e X.env) :: starEach es X.env := by rfl)
    (hpl : (backTo pos (starEach es X.env)).any (·.1) = false := by rfl) : PE X (.Call (.Name x p) (e :: es) [] pos) (tCall sp [] E0 t) := by
  obtain ⟨f, fd, F, hm, hk, hb⟩ := c.ex
  exact pe_callG F hr hgu hg hm hk hb .nil pass0 ha hdb he hpl
theorem Cal.mono {j : Nat} (c : Cal P w K mg base j x ps sp) (h : j ≤ k) : Cal P w K mg base k x ps sp := by
  obtain ⟨f, fd, F, hm, hk, hb⟩ := c.ex
  exact ⟨f, fd, F.mono h, hm, hk, hb⟩
end
/-! ### the law's purse -/
def spPurse : Sp := fun vs H Q _ => ∃ c : Int, vs = [.int c] ∧ ∀ (p : Addr) (x b : Int), H p = none → 0 ≤ x → 0 ≤ b → b < 2147483629 → Q (.ref p) (upd H p (.lst [.int x, .int b, .int 0]))
/-- [max(0, c - 10 ** 18), c % 2147483629, 0] -/
def t_purse : TS := tRet (tLst (tCons (tCB (fun xs H Q => ∃ i j, xs = [.int i, .int j] ∧ Q (.int (if j > i then j else i)) H) (tCons (tC (.int 0)) (tCons (tOp (rI0 fun i j => .int (i - j)) (tVar 0) (tOp (rI CPow fun i j => .int (i ^ j.toNat)) (tC (.int 10)) (tC (.int 18)))) tNil)))
  (tCons (tOp (rI (fun _ j => 0 < j) fun i j => .int (i % j)) (tVar 0) (tC (.int 2147483629))) (tCons (tC (.int 0)) tNil))))
theorem purse_read {vs : List V} {H : Hp} {Q : VK} {E : XK} {N : List Str} (hN : N.length = 1) (h : spPurse vs H Q E) : t_purse { nx := fun _ G => Q .non G, rt := Q } (start N vs) H := by
  obtain ⟨c, rfl, k⟩ := h
  have es : start N [.int c] = [some (.int c)] := by
    unfold L2.start
    rw [hN]
    rfl
  rw [es]
  have z : (10 : Int).natAbs < 2 ^ 64 := by decide
  refine ⟨_, rfl, _, _, rfl, rfl, ⟨by decide, by decide, z⟩, _, _, rfl, rfl, _, _, rfl, _, rfl, _, _, rfl, rfl, (by show (0 : Int) < 2147483629; decide), by show 3 ≤ sizeLine; decide, fun p hp => k p _ _ hp ?_ (Int.emod_nonneg _ (by decide)) (Int.emod_lt_of_pos _ (by decide))⟩
  split <;> omega
/-- r of 0 .. many - 1 -/
def postTake : List D → D → Prop := fun ds d => ∃ m r : Int, ds = [.int m] ∧ d = .int r ∧ 0 ≤ r ∧ r < m
def preTake : List D → Prop := fun ds => ∃ m : Int, ds = [.int m] ∧ 0 < m ∧ m.natAbs.log2 < 9000
abbrev spTake (K : Fg) : Sp := puSp K 1 preTake (fun _ => 1) postTake
abbrev rMd : R2 := rI (fun _ j => 0 < j) fun i j => .int (i % j)
abbrev rDv : R2 := rI CDivW fun i j => .int (i / j)
abbrev rAd : R2 := rI0 fun i j => .int (i + j)
abbrev rMu : R2 := rI CMul fun i j => .int (i * j)
abbrev rPw : R2 := rI CPow fun i j => .int (i ^ j.toNat)
theorem ix_at {K : Fg} {H : Hp} {p : Addr} {xs : List V} {i : Int} {v : V} {Q : VK} (h : H p = some (.lst xs)) (e : atI xs i = some v) (q : Q v H) : rIx K (.ref p) (.int i) H Q := .inl ⟨p, xs, i, v, rfl, rfl, .inl (.inl h), e, q⟩
theorem natAbs_lt {x : Int} {n : Nat} (h1 : 0 ≤ x) (h2 : x < (n : Int)) : x.natAbs < n := by omega
theorem div_ok {i j : Int} (h : 0 < j) (h2 : j < 1073741824) : CDivW i j := wide_div (b := 30) h (by omega) (by decide) (by decide)
/-- purse = _law_purse(c) -/
theorem wS_purse {C : Ct} {y : S} {e : En} {ts : TA} {E : XK} {i : Nat} (w : wD C ts y fun ds y1 => ∃ c : Int, ds = [.int c] ∧ e.nx (y1.set i (some (.pu 8000000)))) (hp : i ≠ 0 ∨ C.pp = false := by first | exact Or.inr rfl | exact Or.inl (by decide)) :
    wS C (tAsg (tCall spPurse [] E ts) (gName i)) y e := by
  intro F σ H E st wd k
  refine w F σ H _ wd fun vs H1 ds y1 w1 g1 s1 r1 ⟨c, hc, q⟩ => ?_
  subst hc
  obtain ⟨v, rfl, rv⟩ := rpA1 r1
  refine ⟨c, by rw [rp_int rv]; rfl, fun p x b hn hx hb hb2 => ?_⟩
  obtain ⟨w2, g2⟩ := w1.set_own (i := i) (o := .lst [.int x, .int b, .int 0]) (z := .pu 8000000) rfl hn hp fun M g => ⟨p, rfl, x, b, 0, upd_same, hx, hb, hb2, by decide, by decide⟩
  exact k.nx _ _ _ w2 (g1.trans g2) q
end Tq

set_option maxRecDepth 100000
set_option maxHeartbeats 2000000
/-! The rules that speak of the written part, with that part told (so that they serve within a comprehension's block, too) -/
namespace Tq
open PySem PySem.Spec PyProof.Rows L2
abbrev rLenD (K : Fg) : List V → Hp → VK → Prop := fun xs H Q => ∃ x n, xs = [x] ∧ LenV K x H n ∧ Q (.int (n : Nat)) H
abbrev rListD (K : Fg) : List V → Hp → VK → Prop := fun xs H Q => ∃ p ys, xs = [.ref p] ∧ (SqL K H p ys ∨ SqT K H p ys) ∧ ∀ l, H l = none → Q (.ref l) (upd H l (.lst ys))
abbrev rTupD (K : Fg) : List V → Hp → VK → Prop := fun xs H Q => ∃ p ys, xs = [.ref p] ∧ ((SqL K H p ys ∧ ∀ l, H l = none → Q (.ref l) (upd H l (.tup ys))) ∨ (SqT K H p ys ∧ Q (.ref p) H))
def iAny (K : Fg) (tl : TE) : TI := fun σ H R => iList K tl σ H R ∨ iTup K tl σ H R
section
variable {X : Cx} (K : Fg)
theorem ixK (h : X.K = K := by rfl) : IxR X (rIx K) := h ▸ ix_seq
theorem slK (h : X.K = K := by rfl) : SlR X (rSlD K) := h ▸ sl_any
theorem catK (h : X.K = K := by rfl) : OpR X (binaryOp .Add) (rCatG K) := h ▸ op_catG
theorem eqK (hu : X.A.units + 64 < cLine) (h : X.K = K := by rfl) : OpR X (compareOp .Eq) (rEqD K) := h ▸ op_eqD hu
theorem neK (hu : X.A.units + 64 < cLine) (h : X.K = K := by rfl) : OpR X (compareOp .NotEq) (rNeD K) := h ▸ op_neD hu
theorem inK (h : X.K = K := by rfl) : OpR X (compareOp .In) (rIn K false) := h ▸ op_in_seq
theorem lenK (h : X.K = K := by rfl) : CallR X (.builtin "len") (rLenD K) := h ▸ call_len
theorem allK (hc : X.calm = true) (h : X.K = K := by rfl) : CallR X (.builtin "all") (rAll K) := h ▸ cr_all hc
theorem isiK (h : X.K = K := by rfl) : CallR X (.builtin "isinstance") (rIsi K) := h ▸ call_isi
theorem isiTK (h : X.K = K := by rfl) : CallR X (.builtin "isinstance") (rIsiT K) := h ▸ call_isiT
theorem listK (h : X.K = K := by rfl) : CallR X (.type "list") (rListD K) := h ▸ call_list_of
theorem tupK (h : X.K = K := by rfl) : CallR X (.type "tuple") (rTupD K) := h ▸ call_tuple_of
theorem piL {tg l : Expr} {tl : TE} (hl : PE X l tl) (h : X.K = K := by rfl) : PI X tg l (iList K tl) := h ▸ pi_list hl
theorem piT {tg l : Expr} {tl : TE} (hl : PE X l tl) (h : X.K = K := by rfl) : PI X tg l (iTup K tl) := h ▸ pi_tup hl
theorem piA {tg l : Expr} {tl : TE} (hl : PE X l tl) (h : X.K = K := by rfl) : PI X tg l (iAny K tl) :=
  ⟨fun pins s σ H R I q => q.elim (fun z => (piL K hl h).run pins s σ H R I z) fun z => (piT K hl h).run pins s σ H R I z⟩
theorem pgT {pos : Pos} {es : List Expr} {k : Nat} {t : TGs} {n : Nat} (hc : X.calm = true) (g : PGs X es t) (h : X.K = K := by rfl) (hn : (assignEach es X.env).length = n := by rfl) (hst : (assignEach es X.env).findIdx? (·.1) = none := by rfl) :
    PG X (.Tuple es k pos) (gTup K n t) := h ▸ pg_tup hc g hn hst
end
section
variable {C : Ct} {y : S} {Qi : List D → S → Prop}
theorem wI_any {i : Nat} {d : D} {xs : List D} (h : y[i]? = some (some (.d d))) (hx : dItems d = some xs) (q : Qi xs y) : wI C (iAny C.K (tVar i)) y Qi := by
  intro F σ H R wd k
  cases d with
  | list us =>
    cases hx
    exact .inl (wI_list (wE_var h ⟨_, rfl, q⟩) F σ H R wd k)
  | tuple us =>
    cases hx
    exact .inr (wI_tup (wE_var h ⟨_, rfl, q⟩) F σ H R wd k)
  | _ => cases hx
end
end Tq

set_option maxRecDepth 100000
set_option maxHeartbeats 4000000
namespace Tq
open PySem PySem.Spec PyProof.Rows L2
theorem len1 {ds : List D} (h : ds.length = 1) : ∃ x, ds = [x] := match ds, h with | [x], _ => ⟨x, rfl⟩
/-! kinds -/
def isNum : D → Bool
  | .int _ => true
  | _ => false
theorem isT_int (d : D) : isT "int" d = (match d with | .int _ => true | .bool _ => true | _ => false) := by
  cases d with
  | none => show (kitB "NoneType" "int").getD false = false; decide +kernel
  | bool _ => show (kitB "bool" "int").getD false = true; decide +kernel
  | int _ => show (kitB "int" "int").getD false = true; decide +kernel
  | str _ => show (kitB "str" "int").getD false = false; decide +kernel
  | list _ => show (kitB "list" "int").getD false = false; decide +kernel
  | tuple _ => show (kitB "tuple" "int").getD false = false; decide +kernel
  | dict _ => show (kitB "dict" "int").getD false = false; decide +kernel
theorem isT_bool (d : D) : isT "bool" d = (match d with | .bool _ => true | _ => false) := by
  cases d with
  | none => show (kitB "NoneType" "bool").getD false = false; decide +kernel
  | bool _ => show (kitB "bool" "bool").getD false = true; decide +kernel
  | int _ => show (kitB "int" "bool").getD false = false; decide +kernel
  | str _ => show (kitB "str" "bool").getD false = false; decide +kernel
  | list _ => show (kitB "list" "bool").getD false = false; decide +kernel
  | tuple _ => show (kitB "tuple" "bool").getD false = false; decide +kernel
  | dict _ => show (kitB "dict" "bool").getD false = false; decide +kernel
theorem isT_str (d : D) : isT "str" d = (match d with | .str _ => true | _ => false) := by
  cases d with
  | none => show (kitB "NoneType" "str").getD false = false; decide +kernel
  | bool _ => show (kitB "bool" "str").getD false = false; decide +kernel
  | int _ => show (kitB "int" "str").getD false = false; decide +kernel
  | str _ => show (kitB "str" "str").getD false = true; decide +kernel
  | list _ => show (kitB "list" "str").getD false = false; decide +kernel
  | tuple _ => show (kitB "tuple" "str").getD false = false; decide +kernel
  | dict _ => show (kitB "dict" "str").getD false = false; decide +kernel
theorem isT_list (d : D) : isT "list" d = (match d with | .list _ => true | _ => false) := by
  cases d with
  | none => show (kitB "NoneType" "list").getD false = false; decide +kernel
  | bool _ => show (kitB "bool" "list").getD false = false; decide +kernel
  | int _ => show (kitB "int" "list").getD false = false; decide +kernel
  | str _ => show (kitB "str" "list").getD false = false; decide +kernel
  | list _ => show (kitB "list" "list").getD false = true; decide +kernel
  | tuple _ => show (kitB "tuple" "list").getD false = false; decide +kernel
  | dict _ => show (kitB "dict" "list").getD false = false; decide +kernel
theorem isNum_eq (d : D) : isNum d = (isT "int" d && !isT "bool" d) := by
  rw [isT_int, isT_bool]
  cases d <;> rfl
/-- tests on ints -/
theorem eqv_int (i j : Int) : PyData.eqv (.int i) (.int j) = decide (i = j) := by
  simp only [PyData.eqv]
  first | rfl | (by_cases h : i = j <;> simp [h])
theorem shaped_str {i : Str} (h : PyData.strOk i = true) : SeqAt.shaped (.str i) = true := by
  simp [SeqAt.shaped, PyData.canLay0, PyData.depth, h]
theorem eqv_str (i j : Str) : PyData.eqv (.str i) (.str j) = decide (i = j) := by
  simp only [PyData.eqv]
  first | rfl | (by_cases h : i = j <;> simp [h])
theorem sz_small {n : Nat} (h : n ≤ 100000) : n ≤ sizeLine := Nat.le_trans h (by decide)
theorem log2_lt {x : Int} {n : Nat} (h : x.natAbs < 2 ^ n) (h0 : 0 < n) : x.natAbs.log2 < n := PySem.Flt.log2_lt_of h0 h
theorem itb_t {b : Bool} {A B : Prop} (h : b = true) (a : A) : if b = true then A else B := by rw [if_pos h]; exact a
theorem itb_f {b : Bool} {A B : Prop} (h : b = false) (a : B) : if b = true then A else B := by rw [if_neg (by rw [h]; simp)]; exact a
/-- B, then the side A -/
theorem and_sw {A B : Prop} (b : B) (a : A) : A ∧ B := ⟨a, b⟩
/-! the numbers' common divisor -/
def gcdI (a b : Int) : Int := (Nat.gcd a.natAbs b.natAbs : Nat)
/-! promises of defs whose answer is a function of what is handed in -/
abbrev a0 (ds : List D) : D := ds.getD 0 .none
abbrev a1 (ds : List D) : D := ds.getD 1 .none
abbrev a2 (ds : List D) : D := ds.getD 2 .none
abbrev detSp (K : Fg) (n : Nat) (pre : List D → Prop) (G : List D → D) : Sp := pureSp K n pre (fun ds d => d = G ds)
theorem wE_det {C : Ct} {y : S} {ts : TA} {Q : Z → S → Prop} {E : XK} {n : Nat} {pre : List D → Prop} {G : List D → D} (w : wD C ts y fun ds y1 => (ds.length = n ∧ pre ds) ∧ Q (.d (G ds)) y1) : wE C (tCall (detSp C.K n pre G) [] E ts) y Q :=
  wE_pure (wD_mono w fun ds y1 ⟨⟨h1, h2⟩, q⟩ => ⟨h1, h2, fun d e => by subst e; exact q⟩)
abbrev sp_law_cell (K : Fg) : Sp := pureSp K 2 (fun ds => ∃ (ns : List Int) (k : Int), ds = [.list (ns.map PyData.int), .int k] ∧ 0 ≤ k ∧ k < 1000) (fun _ d => ∃ n : Int, d = .int n)
abbrev sp_law_purse (K : Fg) : Sp := spPurse
abbrev sp_law_take (K : Fg) : Sp := spTake K
abbrev sp_is_number (K : Fg) : Sp := detSp K 1 (fun _ => True) (fun ds => .bool (isNum (a0 ds)))
section
variable {C : Ct} {y : S} {te : TE} {Q : Z → S → Prop} {E : XK}
/-- a draw -/
theorem wE_take {i m0 : Nat} (hi : y[i]? = some (some (.pu m0))) (w : wE C te y fun z y1 => ∃ (k : Int) (m : Nat), z = .d (.int k) ∧ y1[i]? = some (some (.pu m)) ∧ (0 < k ∧ k ≤ 10 ^ 40 ∧ 1 ≤ m) ∧ ∀ r : Int, 0 ≤ r → r < k → Q (.d (.int r)) (y1.set i (some (.pu (m - 1))))) :
    wE C (tCall (spTake C.K) [] E (tCons (tVar i) (tCons te tNil))) y Q := by
  refine wE_pu hi (wD_cons (wE_mono w fun z y1 ⟨k, m, e, hm, ⟨h0, h1, h2⟩, q⟩ => ⟨_, e, wD_nil ⟨m, hm, rfl, ⟨k, rfl, h0, ?_⟩, h2, fun d hd => ?_⟩⟩))
  · have hb : k.natAbs < 2 ^ 200 := Nat.lt_of_le_of_lt (show k.natAbs ≤ 10 ^ 40 by omega) (by decide)
    exact Nat.lt_of_lt_of_le (log2_lt hb (by decide)) (by decide)
  · obtain ⟨k', r, e1, e2, h3, h4⟩ := hd
    cases e1
    subst e2
    exact q r h3 h4
theorem wE_powN {a : Int} {n : Nat} (q : Q (.d (.int (a ^ (OfNat.ofNat n : Nat)))) y) (ha : a.natAbs < 2 ^ 64 := by decide) (hn : n ≤ 1000000 := by decide) : wE C (tOp (rI CPow fun i j => .int (i ^ j.toNat)) (tC (.int a)) (tC (.int (OfNat.ofNat n)))) y Q := by
  refine wE_pow (wE_int (wE_int ⟨_, _, rfl, rfl, ⟨?_, ?_, ha⟩, q⟩))
  · show (0 : Int) ≤ (n : Nat); omega
  · show ((n : Nat) : Int) ≤ 1000000; omega
theorem wE_dispS {k : Str} {v : V} {d : D} (s : Sc v d) (h : Q (.d (.dict [(.str k, d)])) y) : wE C (tDisp [(tC (.str k), tC v)]) y Q := wE_disp1 (kk := .inr k) s h
theorem wE_dispI {k : Int} {v : V} {d : D} (s : Sc v d) (h : Q (.d (.dict [(.int k, d)])) y) : wE C (tDisp [(tC (.int k), tC v)]) y Q := wE_disp1 (kk := .inl k) s h
end
/-! == of plain things -/
def scalD : D → D → Bool
  | .int _, .int _ => true
  | .str _, .str _ => true
  | .bool _, .bool _ => true
  | .none, .none => true
  | _, _ => false
def eqS : D → D → Bool
  | .int i, .int j => decide (i = j)
  | .str i, .str j => decide (i = j)
  | .bool i, .bool j => decide (i = j)
  | .none, .none => true
  | _, _ => false
section
variable {C : Ct} {y : S} {ta tb : TE} {Q : Z → S → Prop}
theorem eqS_ok {K : Fg} {M : Addr → Prop} {H : Hp} {x u : V} {d e : D} (rx : Rp K M H x d) (ru : Rp K M H u e) (h : scalD d e = true) : scal x u = true ∧ decide (x = u) = eqS d e := by
  cases rx <;> cases ru <;> first | (cases h; done) | (refine ⟨rfl, ?_⟩; simp [eqS])
theorem wE_eqS (w : wE C ta y fun z y1 => wE C tb y1 fun z' y2 => ∃ d e, z = .d d ∧ z' = .d e ∧ scalD d e = true ∧ Q (.d (.bool (eqS d e))) y2) : wE C (tOp rEq ta tb) y Q := by
  refine wE_op (res := fun d e r => scalD d e = true ∧ r = .bool (eqS d e)) ?_ (wE_mono w fun z y1 h => wE_mono h fun z' y2 ⟨d, e, e1, e2, s, q⟩ => ⟨_, _, _, e1, e2, ⟨s, rfl⟩, q⟩)
  rintro M H x u d e r Q _ rx ru ⟨s, rfl⟩ k
  obtain ⟨h1, h2⟩ := eqS_ok rx ru s
  refine ⟨h1, ?_⟩
  rw [h2]
  exact k _ H (fun _ _ e => e) (.bl _)
theorem wE_neS (w : wE C ta y fun z y1 => wE C tb y1 fun z' y2 => ∃ d e, z = .d d ∧ z' = .d e ∧ scalD d e = true ∧ Q (.d (.bool (!eqS d e))) y2) : wE C (tOp rNe ta tb) y Q := by
  refine wE_op (res := fun d e r => scalD d e = true ∧ r = .bool (!eqS d e)) ?_ (wE_mono w fun z y1 h => wE_mono h fun z' y2 ⟨d, e, e1, e2, s, q⟩ => ⟨_, _, _, e1, e2, ⟨s, rfl⟩, q⟩)
  rintro M H x u d e r Q _ rx ru ⟨s, rfl⟩ k
  obtain ⟨h1, h2⟩ := eqS_ok rx ru s
  refine ⟨h1, ?_⟩
  rw [h2]
  exact k _ H (fun _ _ e => e) (.bl _)
end
end Tq

set_option maxRecDepth 100000
set_option maxHeartbeats 4000000
namespace Tq
open PySem PySem.Spec PyProof.Rows L2
/-! ### the law's own promise -/
def spLaw (K : Fg) : Sp := fun vs H Q _ => ∃ (a : Addr) (ns : List Int), vs = [.ref a] ∧ SqL K H a (ns.map V.int) ∧ ns.length ≤ 63 ∧ ∀ H', Q (.bl true) H'
theorem spLaw_len {K : Fg} {x : Str} : ∀ vs H Q E, spLaw K vs H Q E → vs.length = [x].length := by
  rintro vs H Q E ⟨a, ns, rfl, _⟩
  rfl
theorem law_body {K : Fg} {N : List Str} {t : TS} {vs : List V} {H : Hp} {Q : VK} {E : XK} (h : spLaw K vs H Q E) (b : ∀ ns : List Int, ns.length ≤ 63 → ∀ e : En, (∀ y, e.rt (.d (.bool true)) y) → wS ⟨K, false⟩ t (y0 N [.list (ns.map PyData.int)]) e) :
    t { nx := fun _ G => Q .non G, rt := Q } (start N vs) H := by
  obtain ⟨a, ns, rfl, hs, hl, k⟩ := h
  refine pure_body (K := K) (n := 1) (pre := fun ds => ds = [.list (ns.map PyData.int)]) (post := fun _ d => d = .bool true) (Q := Q) (E := fun _ _ _ => False) ⟨fun _ => False, [.list (ns.map PyData.int)], fun a z => z.elim, .cons (.lst ?_ (rpA_int ns)) .nil, rfl, rfl, fun d v H' e _ r => ?_⟩ ?_
  · rcases hs with hs | hs
    · exact .inl ⟨fun z => z, hs⟩
    · exact .inr hs
  · subst e
    rw [rp_bl r]
    exact k H'
  · rintro ds _ rfl e hn hr
    exact b ns hl e fun y => hr _ y rfl
/-! ### kinds of things: the program's, the law's -/
def wholeB (x : D) (lo hi : Int) : Bool := match x with
  | .int i => decide (lo ≤ i) && decide (i ≤ hi)
  | _ => false
abbrev sp_is_whole (K : Fg) : Sp := detSp K 3 (fun ds => ∃ x lo hi, ds = [x, .int lo, .int hi]) (fun ds => .bool (match ds with | [x, .int lo, .int hi] => wholeB x lo hi | _ => false))
abbrev sp_law (K : Fg) : Sp := spLaw K
theorem atI_mem {α : Type} {xs : List α} {i : Int} (h0 : 0 ≤ i) (h1 : i < xs.length) : ∃ x, atI xs i = some x ∧ x ∈ xs := by
  obtain ⟨n, rfl⟩ := Int.eq_ofNat_of_zero_le h0
  have hn : n < xs.length := by omega
  exact ⟨xs[n], atI_nat (List.getElem?_eq_getElem hn), List.getElem_mem hn⟩
theorem dCut_str {t : Str} (h : t.length ≤ 1000) (lo hi : Option Int) : dCut (.str t) lo hi = some (.str (cutS t lo hi)) := if_pos (sz_small (by omega))
/-! what repr is asked of -/
def ShOk (d : D) : Prop := dsm d = true ∧ d.showable = true ∧ d.depth ≤ 60 ∧ d.shown.length ≤ sizeLine
theorem wE_reprS {C : Ct} {y : S} {te : TE} {Q : Z → S → Prop} (w : wE C te y fun z y1 => ∃ d, z = .d d ∧ ShOk d ∧ Q (.d (.str d.shown)) y1) : wE C (tCB (rRepr C.K) (tCons te tNil)) y Q :=
  wE_repr (wD_cons (wE_mono w fun z y1 ⟨d, e, ⟨h1, h2, h3, h4⟩, q⟩ => ⟨d, e, wD_nil ⟨d, rfl, h1, h2, h3, h4, q⟩⟩))
end Tq

set_option maxRecDepth 100000
set_option maxHeartbeats 4000000
namespace Tq
open PySem PySem.Spec PyProof.Rows L2
theorem sz_lt1 {n : Nat} (h : n < 100000) : n < sizeLine := Nat.lt_of_lt_of_le h (by decide)
theorem wS_norm {C : Ct} {t : TS} {y y' : S} {e : En} (h : y = y') (w : wS C t y' e) : wS C t y e := h ▸ w
/-! ### what is known of the slots may be forgotten -/
def Less (y' y : S) : Prop := y'.length = y.length ∧ ∀ (i : Nat) (z : Y), y'[i]? = some (some z) → y[i]? = some (some z)
theorem Less.isO {y' y : S} (h : Less y' y) {i : Nat} (o : Tq.isO y' i = true) : Tq.isO y i = true := by
  unfold Tq.isO at o
  cases q : y'[i]? with
  | none => rw [q] at o; cases o
  | some u =>
    cases u with
    | none => rw [q] at o; cases o
    | some z =>
      rw [q] at o
      rw [isO_of (h.2 i z q)]
      exact o
theorem Wd.weak {C : Ct} {F : Fr} {σ : St} {y y' : S} {H : Hp} (w : Wd C F σ y H) (h : Less y' y) : Wd C F σ y' H ∧ Go F σ y H σ y' H := by
  have own : ∀ a, Own σ y' a → Own σ y a := fun a ⟨i, o, e⟩ => ⟨i, h.isO o, e⟩
  have g : Go F σ y H σ y' H := fun a o n e => ⟨fun z => n (z.elim .inl fun z => .inr (own a z)), e⟩
  exact ⟨⟨w.keep, w.live0, w.live, w.len.trans h.1.symm, fun i z e => slots_go g (fun _ _ _ _ e => e) (w.slot i z (h.2 i z e)), fun i j a o1 o2 => w.dist i j a (h.isO o1) (h.isO o2), fun a o => w.frsh a (own a o), w.pin, w.sm, fun st i a o => w.nb st i a (h.isO o)⟩, g⟩
theorem wS_weak {C : Ct} {t : TS} {y y' : S} {e : En} (w : wS C t y' e) (h : Less y' y) : wS C t y e := by
  intro F σ H E st wd k
  obtain ⟨w1, g1⟩ := wd.weak h
  exact w F σ H E st w1 (k.go g1)
abbrev rMx : List V → Hp → VK → Prop := fun xs H Q => ∃ i j, xs = [.int i, .int j] ∧ Q (.int (if j > i then j else i)) H
abbrev rMn : List V → Hp → VK → Prop := fun xs H Q => ∃ i j, xs = [.int i, .int j] ∧ Q (.int (if j < i then j else i)) H
end Tq

set_option maxRecDepth 100000
set_option maxHeartbeats 4000000
namespace Tq
open PySem PySem.Spec PyProof.Rows L2
theorem less_nil : Less [] [] := ⟨rfl, fun i z e => e⟩
theorem less_none {a b : S} {z : Option Y} (h : Less a b) : Less (none :: a) (z :: b) := by
  refine ⟨congrArg (· + 1) h.1, fun i u e => ?_⟩
  cases i with
  | zero => cases e
  | succ i => exact h.2 i u e
theorem less_some {a b : S} {z : Option Y} (h : Less a b) : Less (z :: a) (z :: b) := by
  refine ⟨congrArg (· + 1) h.1, fun i u e => ?_⟩
  cases i with
  | zero => exact e
  | succ i => exact h.2 i u e
theorem less_set {a b : S} {i : Nat} {z : Option Y} (h : Less a b) : Less (a.set i z) (b.set i z) := by
  refine ⟨by rw [List.length_set, List.length_set, h.1], fun j u e => ?_⟩
  rw [List.getElem?_set] at e ⊢
  rw [← h.1]
  split at e
  · next q => rw [if_pos q]; exact e
  · next q => rw [if_neg q]; exact h.2 j u e
theorem eqS_self (t : Str) : eqS (.str t) (.str t) = true := by simp [eqS]
end Tq

set_option maxRecDepth 100000
set_option maxHeartbeats 4000000
namespace Tq
open PySem PySem.Spec PyProof.Rows L2
/-! ### what the top has written -/
theorem df_mk {K : Fg} {h : Heap} {mg : Str → Option Value} {x : Str} {st : Stmt} {ps : List Str} {f : Addr} {od an : Option Addr} {sl : Array (Option Value)} {oc kV dc pm cd ct : Value} (X : K.In h) (G : h.Ns mainGlobals mg)
    (hb : ∀ (kV dc pm : Value) (an : Option Addr) (cd ct : Value) (us : List Value), us.length = ps.length → bindArgs (PySem.W.fnOf x x (defArgs st) (defBody st) (defScope st) .none kV dc pm an cd ct) ⟨us, []⟩ = pure (ps.zip us))
    (a : PySem.W.nsIn K mainGlobals x = some (some (.ref f))) (l : K.lookup f = some ⟨oc, od, .func (PySem.W.fnOf x x (defArgs st) (defBody st) (defScope st) .none kV dc pm an cd ct), sl⟩) (c : PySem.W.codeIn K cd x = true) (k : PySem.W.keepIn K (.ref f) = true) : Df K mg x st ps :=
  ⟨f, _, fun_mk l c k, PySem.W.mg_of X G a, (fun_mk l c k).binds hb⟩
end Tq

set_option maxRecDepth 100000
set_option maxHeartbeats 4000000
namespace Tq
open PySem PySem.Spec PyProof.Rows L2
open PySem.Builtin.Str (occurrences subAt)
open PySem.NumText (digitsVal AllDigits)
/-! ### numbers in texts -/
abbrev rIndex : V → List V → Hp → VK → Prop := fun x xs H Q => ∃ a b i r, x = .str a ∧ xs = [.str b] ∧ occurrences a b 0 a.length 1 = i :: r ∧ Q (.int (i : Nat)) H
theorem wE_index {C : Ct} {ta tb : TE} {y : S} {Q : Z → S → Prop} (w : wE C ta y fun z y1 => ∃ a, z = .d (.str a) ∧ wE C tb y1 fun z' y2 => ∃ b i r, z' = .d (.str b) ∧ occurrences a b 0 a.length 1 = i :: r ∧ Q (.d (.int (i : Nat))) y2) :
    wE C (tM1 rIndex ta tb) y Q := by
  intro F σ H K wd k
  refine w F σ H _ wd fun x H1 z y1 w1 g1 s1 r1 q1 => ?_
  obtain ⟨a, rfl, q1⟩ := q1
  have e := rp_str r1
  subst e
  refine ⟨⟨a, rfl⟩, q1 F σ H1 _ w1 fun x2 H2 z' y2 w2 g2 s2 r2 q2 => ?_⟩
  obtain ⟨b, i, r, rfl, ho, hq⟩ := q2
  exact ⟨a, b, i, r, rfl, by rw [rp_str r2], ho, k _ H2 (.d (.int _)) y2 w2 (g1.trans g2) (s1.trans s2) (.int _) hq⟩
end Tq

set_option maxRecDepth 100000
set_option maxHeartbeats 4000000
namespace Tq
open PySem PySem.Spec PyProof.Rows L2
/-! ### what repr shows, bounded -/
structure Shw (b k : Nat) (d : D) : Prop where
  nd : d.hasDict = false
  sw : d.showable = true
  dp : d.depth ≤ k
  ln : d.shown.length ≤ b
theorem Shw.ok {b k : Nat} {d : D} (h : Shw b k d) (hb : b ≤ 10000000 := by decide) (hk : k ≤ 60 := by decide) : ShOk d := by
  refine ⟨?_, h.sw, Nat.le_trans h.dp hk, Nat.le_trans h.ln (Nat.le_trans hb (by decide))⟩
  have := h.nd
  cases d with
  | dict kvs => cases this
  | list xs => show (!(PyData.list xs).hasDict) = true; rw [this]; rfl
  | tuple xs => show (!(PyData.tuple xs).hasDict) = true; rw [this]; rfl
  | _ => rfl
theorem Shw.mono {b k b' k' : Nat} {d : D} (h : Shw b k d) (hb : b ≤ b') (hk : k ≤ k') : Shw b' k' d := ⟨h.nd, h.sw, Nat.le_trans h.dp hk, Nat.le_trans h.ln hb⟩
theorem shownAll_map (xs : List D) : PyData.shownAll xs = xs.map PyData.shown := by
  induction xs with
  | nil => rfl
  | cons x r ih => rw [List.map_cons, ← ih]; rfl
end Tq

set_option maxRecDepth 100000
set_option maxHeartbeats 4000000
namespace Tq
open PySem PySem.Spec PyProof.Rows L2
open PySem.NumText (digitsVal AllDigits)
/-- a loop whose turns know J alone -/
theorem forJ {C : Ct} {v : Nat} {tx : TS} {xs : List D} {y0 : S} {bk : S → Prop} {rt : Z → S → Prop} {R : S → Prop} (J : Nat → S → Prop) (hv : v ≠ 0 := by decide) (h0 : ∃ y', J 0 y' ∧ Less y' y0)
    (hb : ∀ i x y', xs[i]? = some x → J i y' → wS C tx (y'.set v (some (.d x))) { nx := fun y => ∃ y', J (i + 1) y' ∧ Less y' y, ct := fun y => ∃ y', J (i + 1) y' ∧ Less y' y, bk := bk, rt := rt }) (he : ∀ y2 y', J xs.length y' → Less y' y2 → R y2) :
    ∃ I : Nat → S → Prop, I 0 y0 ∧ (∀ i x y2, xs[i]? = some x → I i y2 → wG C (gName v) x y2 fun y3 => wS C tx y3 { nx := I (i + 1), ct := I (i + 1), bk := bk, rt := rt }) ∧ (∀ y2, I xs.length y2 → R y2) :=
  ⟨fun i y => ∃ y', J i y' ∧ Less y' y, h0, fun i x y2 hx ⟨y', hj, hl⟩ => wG_name (hp := Or.inl hv) (wS_weak (hb i x y' hx hj) (less_set hl)), fun y2 ⟨y', hj, hl⟩ => he y2 y' hj hl⟩
theorem dLen_str {t : Str} (h : t.length ≤ 1000) : dLen (.str t) = some t.length := if_pos (sz_small (by omega))
theorem ten_two (a : Nat) : (10 : Nat) ^ a ≤ 2 ^ (4 * a) := by
  rw [Nat.pow_mul]
  exact Nat.pow_le_pow_left (by decide) a
theorem mulW_ok {i j : Int} (a b : Nat) (hi : i.natAbs < 10 ^ a) (hj : j.natAbs < 10 ^ b) (h : a ≤ 50000 := by omega) (h2 : b ≤ 50000 := by omega) : CMulW i j := by
  refine wide_mul (a := 4 * a + 1) (b := 4 * b + 1) (Nat.lt_of_lt_of_le hi ?_) (Nat.lt_of_lt_of_le hj ?_) (by omega) (by omega) (by omega)
  · exact Nat.le_trans (ten_two a) (Nat.pow_le_pow_right (by decide) (by omega))
  · exact Nat.le_trans (ten_two b) (Nat.pow_le_pow_right (by decide) (by omega))
end Tq

set_option maxRecDepth 100000
set_option maxHeartbeats 4000000
namespace Tq
open PySem PySem.Spec PyProof.Rows L2
/-- the purse's second form -/
def t_take2 (K : Fg) (c1 c2 c3 : Int) : TS :=
  tSeq (tIfS (tTest (tOp (rI0 fun i j => .bl (decide (j < i))) (tOp (rIx K) (tVar 0) (tC (.int 0))) (tC (.int 0))))
    (tSeq (tAsg (tOp rMd (tOp (rIx K) (tVar 0) (tC (.int 0))) (tVar 1)) (gName 2))
    (tSeq (tAsg (tOp rDv (tOp (rIx K) (tVar 0) (tC (.int 0))) (tVar 1)) (gSub (tVar 0) (tC (.int 0)) rSetL))
    (tRet (tVar 2)))) tNext)
  (tSeq (tAsg (tOp rAd (tOp (rIx K) (tVar 0) (tC (.int 2))) (tC (.int 1))) (gSub (tVar 0) (tC (.int 2)) rSetL))
  (tSeq (tAsg (tOp rMd (tOp rPw (tOp rAd (tOp rAd (tOp (rIx K) (tVar 0) (tC (.int 1))) (tOp rMu (tC (.int c1)) (tOp (rIx K) (tVar 0) (tC (.int 2))))) (tC (.int c2))) (tC (.int 5))) (tC (.int 2147483647))) (gName 3))
  (tSeq (tAsg (tOp rMd (tOp rPw (tOp rAd (tOp rMu (tOp (rIx K) (tVar 0) (tC (.int 1))) (tOp (rIx K) (tVar 0) (tC (.int 2)))) (tC (.int c3))) (tC (.int 3))) (tC (.int 2147483587))) (gName 4))
  (tRet (tOp rMd (tOp rDv (tOp rAd (tOp rMu (tVar 3) (tC (.int 2147483587))) (tVar 4)) (tC (.int 8))) (tVar 1))))))
theorem take2_read {K : Fg} {c1 c2 c3 : Int} (hc1 : 0 ≤ c1 ∧ c1 ≤ 1000000) (hc2 : 0 ≤ c2 ∧ c2 ≤ 1000000) (hc3 : 0 ≤ c3 ∧ c3 ≤ 1000000) {vs : List V} {H : Hp} {Q : VK} {E : XK} {N : List Str} (hN : N.length = 5) (h : spTake K vs H Q E) : t_take2 K c1 c2 c3 { nx := fun _ G => Q .non G, rt := Q } (start N vs) H := by
  obtain ⟨M, p, us, ds, n, rfl, mp, al, pk, r, hl, ⟨m, rfl, m0, mb⟩, hn, k⟩ := h
  have hn : 1 ≤ n := hn
  have k : ∀ d v H', postTake [.int m] d → (∀ a o, a ≠ p → H a = some o → H' a = some o) → PuOk H' p (n - 1) → Rp K M H' v d → Q v H' := k
  obtain ⟨v, rfl, rv⟩ := rpA1 r
  have e := rp_int rv
  subst e
  have es : start N [.ref p, .int m] = [some (.ref p), some (.int m), none, none, none] := by
    unfold L2.start
    rw [hN]
    rfl
  rw [es]
  obtain ⟨x, b, q, hp, hx, hb0, hb1, hq0, hq1⟩ := pk
  refine ⟨_, rfl, ix_at hp rfl ⟨_, _, rfl, rfl, _, rfl, ite2 (fun hc => ?_) (fun hc => ?_)⟩⟩
  · refine ⟨_, rfl, ix_at hp rfl ⟨_, rfl, _, _, rfl, rfl, m0, ?_⟩⟩
    refine ⟨_, rfl, ix_at hp rfl ⟨_, rfl, _, _, rfl, rfl, ⟨m0, mb⟩, _, rfl, p, _, 0, 0, rfl, rfl, hp, rfl, ?_⟩⟩
    refine ⟨_, rfl, k (.int (x % m)) _ _ ⟨m, x % m, rfl, rfl, Int.emod_nonneg _ (by omega), Int.emod_lt_of_pos _ m0⟩ (fun a o na e => by rw [upd_ne na]; exact e) ⟨x / m, b, q, upd_same, Int.ediv_nonneg hx (by omega), hb0, hb1, hq0, by omega⟩ (.int _)⟩
  · have nn : (n : Int) ≥ 1 := by omega
    refine ⟨_, rfl, ix_at hp rfl ⟨_, _, rfl, rfl, _, rfl, p, _, 2, 2, rfl, rfl, hp, rfl, ?_⟩⟩
    generalize hH2 : upd H p (.lst ([V.int x, .int b, .int q].set 2 (.int (q + 1)))) = H2
    have hp2 : H2 p = some (.lst [.int x, .int b, .int (q + 1)]) := by rw [← hH2]; exact upd_same
    have q0 : 0 ≤ q + 1 ∧ q + 1 ≤ 8000000 := by omega
    have m1 : 0 ≤ c1 * (q + 1) := Int.mul_nonneg hc1.1 (by omega)
    have m2 : c1 * (q + 1) ≤ 1000000 * 8000000 := Int.mul_le_mul hc1.2 q0.2 q0.1 (by omega)
    have m3 : 0 ≤ b * (q + 1) := Int.mul_nonneg hb0 (by omega)
    have m4 : b * (q + 1) ≤ 2147483629 * 8000000 := Int.mul_le_mul (by omega) q0.2 q0.1 (by omega)
    have hbd : 0 ≤ b + c1 * (q + 1) + c2 ∧ b + c1 * (q + 1) + c2 < 18446744073709551616 := by constructor <;> omega
    refine ⟨_, rfl, ix_at hp2 rfl ⟨_, rfl, ix_at hp2 rfl ⟨_, _, rfl, rfl, .inl (by constructor <;> omega), _, _, rfl, rfl, _, _, rfl, rfl, _, _, rfl, rfl, ⟨by decide, by decide, natAbs_lt hbd.1 hbd.2⟩, _, _, rfl, rfl, (by show (0 : Int) < 2147483647; decide), ?_⟩⟩⟩
    obtain ⟨one, hone⟩ : ∃ o, o = (b + c1 * (q + 1) + c2) ^ (5 : Int).toNat % 2147483647 := ⟨_, rfl⟩
    have one0 : 0 ≤ one := by rw [hone]; exact Int.emod_nonneg _ (by decide)
    have one1 : one < 2147483647 := by rw [hone]; exact Int.emod_lt_of_pos _ (by decide)
    have hb2 : 0 ≤ b * (q + 1) + c3 ∧ b * (q + 1) + c3 < 18446744073709551616 := by constructor <;> omega
    refine ⟨_, rfl, ix_at hp2 rfl ⟨_, rfl, ix_at hp2 rfl ⟨_, _, rfl, rfl, .inl (by constructor <;> omega), _, _, rfl, rfl, _, _, rfl, rfl, ⟨by decide, by decide, natAbs_lt hb2.1 hb2.2⟩, _, _, rfl, rfl, (by show (0 : Int) < 2147483587; decide), ?_⟩⟩⟩
    dsimp only
    rw [← hone]
    refine ⟨_, rfl, _, _, rfl, rfl, .inl (by constructor <;> omega), _, rfl, _, _, rfl, rfl, _, _, rfl, rfl, div_ok (by decide) (by decide), _, rfl, _, _, rfl, rfl, m0, ?_⟩
    refine k _ _ _ ⟨m, _, rfl, rfl, Int.emod_nonneg _ (by omega), Int.emod_lt_of_pos _ m0⟩ (fun a o na e => by rw [← hH2, upd_ne na]; exact e) ⟨x, b, q + 1, hp2, hx, hb0, hb1, by omega, by omega⟩ (.int _)
/-- a while loop whose turns know J alone -/
theorem wS_whileJ {C : Ct} {t : TT} {tx : TS} {y : S} {e : En} (J : Nat → S → Prop) (h0 : ∃ m y', J m y' ∧ Less y' y)
    (hs : ∀ m y1, J m y1 → wT C t y1 fun b y2 => if b = true then wS C tx y2 { nx := fun y3 => ∃ m' y', m' < m ∧ J m' y' ∧ Less y' y3, ct := fun y3 => ∃ m' y', m' < m ∧ J m' y' ∧ Less y' y3, bk := e.nx, rt := e.rt } else e.nx y2) :
    wS C (tWhile t tx) y e := by
  intro F σ H E st wd k
  obtain ⟨m0, y0, h0, l0⟩ := h0
  obtain ⟨wd0, g0⟩ := wd.weak l0
  refine ⟨fun m σ1 H1 => ∃ y1, Wd C F σ1 y1 H1 ∧ Go F σ y H σ1 y1 H1 ∧ J m y1, ⟨m0, y0, wd0, g0, h0⟩, ?_⟩
  rintro m σ1 H1 ⟨y1, w1, g1, hw⟩
  refine hs m y1 hw F σ1 H1 _ w1 fun b H2 y2 w2 g2 s2 q => ?_
  have fin : ∀ σ5 H5 y5, Wd C F σ5 y5 H5 → Go F σ1 y2 H2 σ5 y5 H5 → (∃ m' y', m' < m ∧ J m' y' ∧ Less y' y5) → ∃ m', m' < m ∧ ∃ y3, Wd C F σ5 y3 H5 ∧ Go F σ y H σ5 y3 H5 ∧ J m' y3 := by
    rintro σ5 H5 y5 w5 g5 ⟨m', y', hm, q5, l5⟩
    obtain ⟨w6, g6⟩ := w5.weak l5
    exact ⟨m', hm, y', w6, ((g1.trans g2).trans g5).trans g6, q5⟩
  cases b with
  | true =>
    refine ⟨fun σ3 H3 => ∃ m', m' < m ∧ ∃ y3, Wd C F σ3 y3 H3 ∧ Go F σ y H σ3 y3 H3 ∧ J m' y3, fun σ3 H3 ⟨m', hm, z⟩ => ⟨m', hm, z⟩, ?_⟩
    exact q F σ1 H2 _ st w2 ⟨fun σ5 H5 y5 w5 g5 q5 => fin σ5 H5 y5 w5 g5 q5, fun σ5 v5 H5 z5 y5 w5 g5 r5 q5 => k.rt σ5 v5 H5 z5 y5 w5 ((g1.trans g2).trans g5) r5 q5,
      fun σ5 H5 y5 w5 g5 q5 => k.nx σ5 H5 y5 w5 ((g1.trans g2).trans g5) q5, fun σ5 H5 y5 w5 g5 q5 => fin σ5 H5 y5 w5 g5 q5⟩
  | false => exact k.nx σ1 H2 y2 w2 (g1.trans g2) q
/-- what is never reached -/
def tNo : TS := fun _ _ _ => False
theorem ps_no {X : Cx} {st : Stmt} : PS X st tNo := ⟨fun _ _ _ _ _ _ h => h.elim⟩
end Tq

set_option maxRecDepth 100000
set_option maxHeartbeats 4000000
namespace Tq
open PySem PySem.Spec PyProof.Rows L2
/-! ### whole numbers of at most k figures -/
def Bd (k : Nat) (x : Int) : Prop := x.natAbs < 10 ^ k
theorem Bd.mono {k k' : Nat} {x : Int} (h : Bd k x) (hk : k ≤ k') : Bd k' x := Nat.lt_of_lt_of_le h (Nat.pow_le_pow_right (by decide) hk)
theorem Bd.add {k k' : Nat} {x y : Int} (h : Bd k x) (h' : Bd k' y) : Bd (k + k' + 1) (x + y) := by
  have h1 := h.mono (show k ≤ k + k' by omega)
  have h2 := h'.mono (show k' ≤ k + k' by omega)
  unfold Bd at *
  rw [Nat.pow_succ]
  omega
theorem Bd.neg {k : Nat} {x : Int} (h : Bd k x) : Bd k (-x) := by unfold Bd at *; omega
theorem Bd.sub {k k' : Nat} {x y : Int} (h : Bd k x) (h' : Bd k' y) : Bd (k + k' + 1) (x - y) := by
  rw [Int.sub_eq_add_neg]; exact h.add h'.neg
theorem Bd.mul {k k' : Nat} {x y : Int} (h : Bd k x) (h' : Bd k' y) : Bd (k + k') (x * y) := by
  unfold Bd at *
  rw [Int.natAbs_mul, Nat.pow_add]
  exact Nat.mul_lt_mul'' h h'
theorem Bd.div {k : Nat} {x y : Int} (h : Bd k x) (hy : 0 < y) : Bd (k + 1) (x / y) := by
  unfold Bd at *
  rw [Nat.pow_succ]
  have h1 : x / y ≤ x.natAbs := by
    rcases Int.lt_or_le x 0 with z | z
    · have := Int.ediv_neg_of_neg_of_pos z hy; omega
    · have := Int.ediv_le_self y z; omega
  have h2 : -(x.natAbs : Int) - 1 ≤ x / y := by
    rcases Int.lt_or_le x 0 with z | z
    · have e := Int.emod_add_mul_ediv x y
      have e1 := Int.emod_nonneg x (show y ≠ 0 by omega)
      have e2 := Int.emod_lt_of_pos x hy
      rcases Int.lt_or_le (x / y) (-(x.natAbs : Int) - 1) with w | w
      · have : y * (x / y) ≤ 1 * (x / y) := Int.mul_le_mul_of_nonpos_right (by omega) (by omega)
        have h3 : y * (x / y) ≤ y * (-(x.natAbs : Int) - 2) := Int.mul_le_mul_of_nonneg_left (by omega) (by omega)
        have h4 : y * (-(x.natAbs : Int) - 2) = -(y * x.natAbs) - 2 * y := by rw [Int.mul_sub, Int.mul_neg]; omega
        have h5 : 1 * (x.natAbs : Int) ≤ y * x.natAbs := Int.mul_le_mul_of_nonneg_right (by omega) (by omega)
        omega
      · exact w
    · have := Int.ediv_nonneg z (show 0 ≤ y by omega); omega
  omega
theorem Bd.mod {k : Nat} {x y : Int} (h : Bd k y) (hy : 0 < y) : Bd k (x % y) := by
  have e1 := Int.emod_nonneg x (show y ≠ 0 by omega)
  have e2 := Int.emod_lt_of_pos x hy
  unfold Bd at *
  omega
theorem Bd.lit {k : Nat} {x : Int} (h : x.natAbs < 10 ^ k) : Bd k x := h
theorem Bd.max {k k' : Nat} {x y : Int} (h : Bd k x) (h' : Bd k' y) : Bd (k + k') (if y > x then y else x) := by
  split
  · exact h'.mono (by omega)
  · exact h.mono (by omega)
theorem Bd.min {k k' : Nat} {x y : Int} (h : Bd k x) (h' : Bd k' y) : Bd (k + k') (if y < x then y else x) := by
  split
  · exact h'.mono (by omega)
  · exact h.mono (by omega)
theorem Bd.mulW {k k' : Nat} {x y : Int} (h : Bd k x) (h' : Bd k' y) (hk : k ≤ 50000 := by decide) (hk' : k' ≤ 50000 := by decide) : CMulW x y := mulW_ok k k' h h' hk hk'
theorem Bd.divW {k : Nat} {x y : Int} (h : Bd k y) (hy : 0 < y) (hk : k ≤ 2000 := by decide) : CDivW x y := wide_div (b := 4 * k + 1) hy (Nat.lt_of_lt_of_le h (Nat.le_trans (ten_two k) (Nat.pow_le_pow_right (by decide) (by omega)))) (by omega) (by omega)
/-! ### neighbours of a fraction -/
structure NB (p q N a b c d : Int) : Prop where
  b1 : 1 ≤ b
  d1 : 1 ≤ d
  bN : b ≤ N
  dN : d ≤ N
  ov : N < b + d
  one : c * b - a * d = 1
  lo : 0 < p * b - a * q
  hi : 0 < c * q - p * d
/-- the parts of a fraction between two neighbours -/
theorem nb_q {p q a b c d : Int} (h : c * b - a * d = 1) : q = b * (c * q - p * d) + d * (p * b - a * q) := by
  have : q * (c * b - a * d) = b * (c * q - p * d) + d * (p * b - a * q) := by
    simp only [Int.mul_sub, Int.sub_mul, Int.mul_assoc, Int.mul_comm, Int.mul_left_comm]
    omega
  rw [h, Int.mul_one] at this
  exact this
theorem le_mul {a x : Int} (ha : 0 ≤ a) (hx : 1 ≤ x) : a ≤ a * x := by
  have := Int.mul_le_mul_of_nonneg_left hx ha
  omega
theorem nb_sum {p q a b c d : Int} (h : c * b - a * d = 1) (hb : 1 ≤ b) (hd : 1 ≤ d) (hx : 0 < p * b - a * q) (hy : 0 < c * q - p * d) : b + d ≤ q := by
  have e := nb_q (p := p) (q := q) h
  have h1 := le_mul (a := b) (x := c * q - p * d) (by omega) hy
  have h2 := le_mul (a := d) (x := p * b - a * q) (by omega) hx
  omega
/-- one below the other and no smaller denominator fits between -/
theorem NB.le {p q N a b c d a' b' c' d' : Int} (h : NB p q N a b c d) (h' : NB p q N a' b' c' d') : a' * b ≤ a * b' := by
  -- a'/b' < p/q < c/d
  rcases Int.lt_or_le (a * b') (a' * b) with z | z
  · exfalso
    have q1 := nb_sum h.one h.b1 h.d1 h.lo h.hi
    have b1 := h.b1
    have d1 := h.d1
    have b1' := h'.b1
    -- a' d < c b'
    have hx := h'.lo
    have hy := h.hi
    have k1 : 0 < c * b' - a' * d := by
      have m1 : 0 < b' * (c * q - p * d) := Int.mul_pos (by omega) hy
      have m2 : 0 < d * (p * b' - a' * q) := Int.mul_pos (by omega) hx
      have e : q * (c * b' - a' * d) = b' * (c * q - p * d) + d * (p * b' - a' * q) := by
        simp only [Int.mul_sub, Int.sub_mul, Int.mul_assoc, Int.mul_comm, Int.mul_left_comm]
        omega
      rcases Int.lt_or_le 0 (c * b' - a' * d) with w | w
      · exact w
      · have : q * (c * b' - a' * d) ≤ 0 := Int.mul_nonpos_of_nonneg_of_nonpos (by omega) w
        omega
    have k2 : 0 < a' * b - a * b' := by omega
    have e := nb_q (p := a') (q := b') h.one
    have h1 := le_mul (a := b) (x := c * b' - a' * d) (by omega) k1
    have h2 := le_mul (a := d) (x := a' * b - a * b') (by omega) k2
    have := h'.bN
    have := h.ov
    omega
  · exact z
theorem NB.low {p q N a b c d a' b' c' d' : Int} (h : NB p q N a b c d) (h' : NB p q N a' b' c' d') : a = a' ∧ b = b' := by
  have e : a' * b = a * b' := Int.le_antisymm (h.le h') (h'.le h)
  have key : ∀ {a b c d a' b' : Int}, c * b - a * d = 1 → 1 ≤ b → 1 ≤ b' → a' * b = a * b' → b ≤ b' := by
    intro a b c d a' b' h1 hb hb' e
    have e2 : b' = b * (c * b' - a' * d) := by
      have : b' * (c * b - a * d) = b * (c * b' - a' * d) := by
        have e3 : d * (a' * b) = d * (a * b') := by rw [e]
        simp only [Int.mul_sub, Int.sub_mul, Int.mul_assoc, Int.mul_comm, Int.mul_left_comm] at e3 ⊢
        omega
      rw [h1, Int.mul_one] at this
      exact this
    have h3 : 1 ≤ c * b' - a' * d := by
      rcases Int.lt_or_le (c * b' - a' * d) 1 with w | w
      · have : b * (c * b' - a' * d) ≤ 0 := Int.mul_nonpos_of_nonneg_of_nonpos (by omega) (by omega)
        omega
      · exact w
    have := le_mul (a := b) (by omega) h3
    omega
  have hb : b = b' := Int.le_antisymm (key h.one h.b1 h'.b1 e) (key h'.one h'.b1 h.b1 e.symm)
  subst hb
  exact ⟨(Int.eq_of_mul_eq_mul_right (by have := h.b1; omega) e).symm, rfl⟩
/-- what stands at each turn -/
structure NI (p q N a b c d : Int) : Prop where
  b1 : 1 ≤ b
  d1 : 1 ≤ d
  bN : b ≤ N
  dN : d ≤ N
  one : c * b - a * d = 1
  lo : 0 < p * b - a * q
  hi : 0 < c * q - p * d
theorem Bd.of_mul {k : Nat} {a q : Int} (h : Bd k (a * q)) (hq : 1 ≤ q) : Bd k a := by
  unfold Bd at *
  rw [Int.natAbs_mul] at h
  have : a.natAbs * 1 ≤ a.natAbs * q.natAbs := Nat.mul_le_mul_left _ (by omega)
  omega
theorem NI.bd {p q N a b c d : Int} {k : Nat} (h : NI p q N a b c d) (hp : Bd k p) (hq : Bd k q) (hN : Bd k N) : Bd k b ∧ Bd k d ∧ Bd (3 * k + 1) a ∧ Bd (3 * k + 1) c ∧ (p * b - a * q) ≤ q ∧ (c * q - p * d) ≤ q ∧ 1 ≤ q := by
  have e := nb_q (p := p) (q := q) h.one
  have hb := h.b1
  have hd := h.d1
  have hX := h.lo
  have hY := h.hi
  have h1 := le_mul (a := c * q - p * d) (x := b) (by omega) hb
  have h2 := le_mul (a := p * b - a * q) (x := d) (by omega) hd
  rw [Int.mul_comm _ b] at h1
  rw [Int.mul_comm _ d] at h2
  have hXb : 0 < d * (p * b - a * q) := Int.mul_pos (by omega) hX
  have hYb : 0 < b * (c * q - p * d) := Int.mul_pos (by omega) hY
  have x1 : p * b - a * q ≤ q := by omega
  have y1 : c * q - p * d ≤ q := by omega
  have q1 : 1 ≤ q := by omega
  have bb : Bd k b := by have := h.bN; unfold Bd at *; omega
  have bd : Bd k d := by have := h.dN; unfold Bd at *; omega
  refine ⟨bb, bd, ?_, ?_, x1, y1, q1⟩
  · refine Bd.of_mul (q := q) ?_ q1
    have ex : a * q = p * b - (p * b - a * q) := by omega
    rw [ex]
    have hx : Bd k (p * b - a * q) := by unfold Bd at *; omega
    exact ((hp.mul bb).sub hx).mono (by omega)
  · refine Bd.of_mul (q := q) ?_ q1
    have ex : c * q = p * d + (c * q - p * d) := by omega
    rw [ex]
    have hx : Bd k (c * q - p * d) := by unfold Bd at *; omega
    exact ((hp.mul bd).add hx).mono (by omega)
end Tq

set_option maxRecDepth 100000
set_option maxHeartbeats 4000000
namespace Tq
open PySem PySem.Spec PyProof.Rows L2
abbrev fr (a b : Int) : D := .tuple [.int a, .int b]
def NR (p q N : Int) (r : D) : Prop := (q ≤ N ∧ r = .tuple [fr p q, fr p q]) ∨ (N < q ∧ ∃ a b c d, NB p q N a b c d ∧ r = .tuple [fr a b, fr c d])
structure FN (p q N : Int) : Prop where
  q1 : 1 ≤ q
  g : gcdI p q = 1
  n1 : 1 ≤ N
  bp : Bd 65 p
  bq : Bd 65 q
  bN : Bd 65 N
theorem NI.nb {p q N a b c d : Int} (h : NI p q N a b c d) (o : N < b + d) : NB p q N a b c d := ⟨h.b1, h.d1, h.bN, h.dN, o, h.one, h.lo, h.hi⟩
theorem NB.ni {p q N a b c d : Int} (h : NB p q N a b c d) : NI p q N a b c d := ⟨h.b1, h.d1, h.bN, h.dN, h.one, h.lo, h.hi⟩
/-! ### what k15's law draws -/
def FrOk (r : D) : Prop := ∃ p q, r = fr p q ∧ 1 ≤ q ∧ gcdI p q = 1 ∧ Bd 64 p ∧ Bd 64 q
abbrev sp_law_made (K : Fg) : Sp := pureSp K 2 (fun ds => ∃ t b, ds = [.int t, .int b] ∧ 0 < b ∧ Bd 63 t ∧ Bd 63 b) (fun _ r => FrOk r)
theorem NR.bd {p q N : Int} {r : D} (h : NR p q N r) (f : FN p q N) : ∃ a b c d, r = .tuple [fr a b, fr c d] ∧ Bd 900 a ∧ Bd 900 b ∧ Bd 900 c ∧ Bd 900 d := by
  have f1 := f.bp
  have f2 := f.bq
  rcases h with ⟨h1, e⟩ | ⟨h1, a, b, c, d, n, e⟩
  · exact ⟨_, _, _, _, e, f1.mono (by decide), f2.mono (by decide), f1.mono (by decide), f2.mono (by decide)⟩
  · obtain ⟨b1, b2, b3, b4, _⟩ := n.ni.bd f.bp f.bq f.bN
    exact ⟨_, _, _, _, e, b3.mono (by decide), b1.mono (by decide), b4.mono (by decide), b2.mono (by decide)⟩
theorem NB.at {p q N N' a b c d : Int} (n : NB p q N a b c d) (h1 : b ≤ N') (h2 : d ≤ N') (h3 : N' < b + d) : NB p q N' a b c d := ⟨n.b1, n.d1, h1, h2, h3, n.one, n.lo, n.hi⟩
theorem FN.at {p q N N' : Int} (f : FN p q N) (h1 : 1 ≤ N') (h2 : N' ≤ q) : FN p q N' := ⟨f.q1, f.g, h1, f.bp, f.bq, by have := f.bq; unfold Bd at *; omega⟩
end Tq

set_option maxRecDepth 100000
set_option maxHeartbeats 4000000
namespace Tq
open PySem PySem.Spec PyProof.Rows L2
/-! ### the best fractions, by going through all bottoms -/
structure LB (p q k a b : Int) : Prop where
  b1 : 1 ≤ b
  bk : b ≤ k
  lo : a * q ≤ p * b
  best : ∀ x y, 1 ≤ y → y ≤ k → x * q ≤ p * y → x * b ≤ a * y
  less : ∀ x y, 1 ≤ y → y < b → x * q ≤ p * y → x * b < a * y
end Tq

set_option maxRecDepth 100000
set_option maxHeartbeats 4000000
namespace Tq
open PySem PySem.Spec PyProof.Rows L2
/-! ### tuples of the text's top, in, lists taken apart -/
/-- the name x is a thing of the written part that reads as d -/
structure GD (K : Fg) (mg : Str → Option Value) (x : Str) (a : Addr) (d : D) : Prop where
  m : mg x = some (.ref a)
  r : ∀ (M : Addr → Prop) (H : Hp), Rp K M H (.ref a) d
mutual
/-- a value of the written part that reads as d -/
inductive KV1 (K : Fg) : Value → V → D → Prop
  | int (i : Int) (t : Tok) : KV1 K (.int i t) (.int i) (.int i)
  | str (s : Str) (t : Tok) : KV1 K (.str s t) (.str s) (.str s)
  | tup {a : Addr} {od : Option Addr} {sl : Array (Option Value)} {us : List Value} {vs : List V} {ds : List D} {n : Nat} (hz : us.length ≤ sizeLine) (l : K.lookup a = some ⟨.type "tuple", od, .seq us.toArray n, sl⟩) (kv : KVs K us vs ds) : KV1 K (.ref a) (.ref a) (.tuple ds)
inductive KVs (K : Fg) : List Value → List V → List D → Prop
  | nil : KVs K [] [] []
  | cons {u : Value} {v : V} {d : D} {us : List Value} {vs : List V} {ds : List D} : KV1 K u v d → KVs K us vs ds → KVs K (u :: us) (v :: vs) (d :: ds)
end
theorem KVs.vals {K : Fg} : ∀ {us : List Value} {vs : List V} {ds : List D}, KVs K us vs ds → Vals vs us
  | _, _, _, .nil => .nil
  | _, _, _, .cons (.int i t) b => .cons ⟨t, rfl⟩ b.vals
  | _, _, _, .cons (.str i t) b => .cons ⟨t, rfl⟩ b.vals
  | _, _, _, .cons (.tup _ _ _) b => .cons rfl b.vals
theorem KVs.rp {K : Fg} {M : Addr → Prop} {H : Hp} : ∀ {us : List Value} {vs : List V} {ds : List D}, KVs K us vs ds → RpA K M H vs ds
  | _, _, _, .nil => .nil
  | _, _, _, .cons (.int i t) b => .cons (.int i) b.rp
  | _, _, _, .cons (.str i t) b => .cons (.str i) b.rp
  | _, _, _, .cons (.tup hz l kv) b => .cons (.tup (.inr ⟨_, _, _, l, rfl, rfl, by rw [List.size_toArray]; exact hz, by simpa using kv.vals⟩) kv.rp) b.rp
theorem gd_tup {K : Fg} {h : Heap} {mg : Str → Option Value} {x : Str} {a : Addr} {od : Option Addr} {sl : Array (Option Value)} {us : List Value} {vs : List V} {ds : List D} {n : Nat} (X : K.In h) (G : h.Ns mainGlobals mg) (kv : KVs K us vs ds) (hz : us.length ≤ sizeLine)
    (aC : PySem.W.nsIn K mainGlobals x = some (some (.ref a))) (l : K.lookup a = some ⟨.type "tuple", od, .seq us.toArray n, sl⟩) : GD K mg x a (.tuple ds) :=
  ⟨PySem.W.mg_of X G aC, fun M H => .tup (.inr ⟨_, us.toArray, n, l, rfl, rfl, by rw [List.size_toArray]; exact hz, by simpa using kv.vals⟩) kv.rp⟩
section
variable {C : Ct} {y : S} {ta tb : TE} {Q : Z → S → Prop}
theorem wE_gd {a : Addr} {d : D} (h : ∀ (M : Addr → Prop) (H : Hp), Rp C.K M H (.ref a) d) (q : Q (.d d) y) : wE C (tC (.ref a)) y Q := fun F σ H K w k => k (.ref a) H (.d d) y w GoH.refl (Sh.refl y) (h _ H) q
/-! in, of plain things -/
def flatD : D → Bool
  | .none | .bool _ | .int _ | .str _ => true
  | _ => false
def eqF : D → D → Bool
  | .none, .none => true
  | .bool a, .bool b => a == b
  | .bool a, .int b => (if a then 1 else 0) == b
  | .int a, .bool b => a == (if b then 1 else 0)
  | .int a, .int b => a == b
  | .str a, .str b => a == b
  | _, _ => false
def inD (x : D) (xs : List D) : Bool := xs.any fun y => eqF y x
theorem flat_rp {K : Fg} {M : Addr → Prop} {H : Hp} {v : V} {d : D} (r : Rp K M H v d) (f : flatD d = true) : flatV v = true := by
  cases r <;> first | rfl | cases f
theorem eqF_rp {K : Fg} {M M' : Addr → Prop} {H H' : Hp} {v u : V} {d e : D} (r : Rp K M H v d) (f : flatD d = true) (r' : Rp K M' H' u e) (f' : flatD e = true) : eqV v u = eqF d e := by
  cases r <;> first | (cases f; done) | (cases r' <;> first | (cases f'; done) | rfl)
theorem inD_rp {K : Fg} {M : Addr → Prop} {H : Hp} {x : V} {d : D} (r : Rp K M H x d) (f : flatD d = true) : ∀ {vs : List V} {ds : List D}, RpA K M H vs ds → ds.all flatD = true → vs.all flatV = true ∧ inV x vs = inD d ds
  | _, _, .nil, _ => ⟨rfl, rfl⟩
  | _, _, .cons a b, h => by
    rw [List.all_cons, Bool.and_eq_true] at h
    obtain ⟨h1, h2⟩ := inD_rp r f b h.2
    refine ⟨by rw [List.all_cons, h1, flat_rp a h.1]; rfl, ?_⟩
    unfold inV inD at *
    rw [List.any_cons, List.any_cons, h2, eqF_rp a h.1 r f]
theorem wE_in {neg : Bool} (w : wE C ta y fun z y1 => wE C tb y1 fun z' y2 => ∃ d ds, z = .d d ∧ (z' = .d (.tuple ds) ∨ z' = .d (.list ds)) ∧ flatD d = true ∧ ds.all flatD = true ∧ Q (.d (.bool (if neg then !inD d ds else inD d ds))) y2) : wE C (tOp (rIn C.K neg) ta tb) y Q := by
  refine wE_op (res := fun d e r => ∃ ds, (e = .tuple ds ∨ e = .list ds) ∧ flatD d = true ∧ ds.all flatD = true ∧ r = .bool (if neg then !inD d ds else inD d ds)) ?_ (wE_mono w fun z y1 h => wE_mono h fun z' y2 ⟨d, ds, e1, e2, f1, f2, q⟩ => ?_)
  · rintro M H x y d e r Q _ rx ry ⟨ds, he, f1, f2, rfl⟩ k
    rcases he with rfl | rfl
    · obtain ⟨a, us, rfl, h1, h2⟩ := rp_tup ry
      obtain ⟨h3, h4⟩ := inD_rp rx f1 h2 f2
      refine ⟨a, us, rfl, .inr h1.sq, flat_rp rx f1, h3, ?_⟩
      rw [h4]
      exact k _ H (fun _ _ e => e) (.bl _)
    · obtain ⟨a, us, rfl, h1, h2⟩ := rp_lst ry
      obtain ⟨h3, h4⟩ := inD_rp rx f1 h2 f2
      refine ⟨a, us, rfl, .inl h1.sq, flat_rp rx f1, h3, ?_⟩
      rw [h4]
      exact k _ H (fun _ _ e => e) (.bl _)
  · rcases e2 with rfl | rfl
    · exact ⟨_, _, _, e1, rfl, ⟨ds, .inl rfl, f1, f2, rfl⟩, q⟩
    · exact ⟨_, _, _, e1, rfl, ⟨ds, .inr rfl, f1, f2, rfl⟩, q⟩
theorem wE_inT (w : wE C ta y fun z y1 => wE C tb y1 fun z' y2 => ∃ d ds, z = .d d ∧ (z' = .d (.tuple ds) ∨ z' = .d (.list ds)) ∧ flatD d = true ∧ ds.all flatD = true ∧ Q (.d (.bool (inD d ds))) y2) : wE C (tOp (rIn C.K false) ta tb) y Q := wE_in w
end
end Tq

set_option maxRecDepth 100000
set_option maxHeartbeats 4000000
namespace Tq
open PySem PySem.Spec PyProof.Rows L2
/-! ### rows of whole terms -/
def toI : D → Int
  | .int i => i
  | _ => 0
theorem num_int {d : D} (h : isNum d = true) : d = .int (toI d) := by cases d <;> first | rfl | cases h
def allInts (ds : List D) : Option (List Int) := if ds.all isNum = true then some (ds.map toI) else none
theorem allInts_ints (ts : List Int) : allInts (ts.map PyData.int) = some ts := by
  unfold allInts
  have h : (ts.map PyData.int).all isNum = true := by rw [List.all_map]; exact List.all_eq_true.mpr fun _ _ => rfl
  rw [if_pos h, List.map_map]
  congr 1
  exact List.map_id ts
theorem allInts_some {ds : List D} {ts : List Int} (h : allInts ds = some ts) : ds = ts.map PyData.int := by
  unfold allInts at h
  split at h
  · rename_i q
    cases h
    rw [List.map_map]
    refine (List.map_id ds).symm.trans (List.map_congr_left fun d hd => ?_)
    exact num_int (List.all_eq_true.mp q d hd)
  · cases h
/-- the terms of a list or tuple of whole numbers -/
def intsD (d : D) : Option (List Int) := (dItems d).bind allInts
theorem items_isT {d : D} : (isT "list" d || isT "tuple" d) = (dItems d).isSome := by
  cases d <;> rfl
section
variable {C : Ct} {y : S} {te : TE} {Qi : List D → S → Prop}
end
theorem atI_last {α : Type} {xs : List α} (h : xs ≠ []) : atI xs (-1) = xs.getLast? := by
  have hl : 0 < xs.length := List.length_pos_iff.mpr h
  have e : ixN xs.length (-1) = some (xs.length - 1) := by
    unfold ixN
    rw [if_neg (by omega), if_pos (by omega)]
    congr 1
    omega
  unfold atI
  rw [e, List.getLast?_eq_getElem?]
  rfl
theorem filter_tt {α : Type} (xs : List α) : xs.filter (fun _ => true) = xs := List.filter_eq_self.mpr (fun _ _ => rfl)
/-! ### turns -/
structure Mx where
  a : Int
  b : Int
  c : Int
  d : Int
def Mx.mul (m n : Mx) : Mx := ⟨m.a * n.a + m.b * n.c, m.a * n.b + m.b * n.d, m.c * n.a + m.d * n.c, m.c * n.b + m.d * n.d⟩
def Mx.one : Mx := ⟨1, 0, 0, 1⟩
def Mx.term (t : Int) : Mx := ⟨t, 1, 1, 0⟩
def MB (k : Nat) (m : Mx) : Prop := Bd k m.a ∧ Bd k m.b ∧ Bd k m.c ∧ Bd k m.d
def turnL (ts : List Int) : Mx := ts.foldl (fun m t => m.mul (.term t)) .one
theorem turn_snoc (ts : List Int) (t : Int) : turnL (ts ++ [t]) = (turnL ts).mul (.term t) := by
  unfold turnL
  rw [List.foldl_append]
  rfl
theorem Mx.mul_term (m : Mx) (t : Int) : m.mul (.term t) = ⟨m.a * t + m.b, m.a, m.c * t + m.d, m.c⟩ := by
  unfold Mx.mul Mx.term
  simp
theorem bd1 {k : Nat} {x y : Int} (h : Bd k x) (h' : Bd k y) : Bd (k + 1) (x + y) := by
  unfold Bd at *
  have : 10 ^ (k + 1) = 10 ^ k * 10 := Nat.pow_succ ..
  omega
theorem mb_step {k : Nat} {m : Mx} {t : Int} (h : MB k m) (ht : Bd 13 t) : MB (k + 14) (m.mul (.term t)) := by
  rw [Mx.mul_term]
  obtain ⟨h1, h2, h3, h4⟩ := h
  exact ⟨bd1 (k := k + 13) (h1.mul ht) (h2.mono (by omega)), h1.mono (by omega), bd1 (k := k + 13) (h3.mul ht) (h4.mono (by omega)), h3.mono (by omega)⟩
theorem list_snoc {P : List Int → Prop} (h0 : P []) (hs : ∀ ts t, P ts → P (ts ++ [t])) : ∀ ts, P ts := fun ts => by
  have : ∀ n (ts : List Int), ts.length = n → P ts := by
    intro n
    induction n with
    | zero => intro ts h; rw [List.eq_nil_of_length_eq_zero h]; exact h0
    | succ n ih =>
      intro ts h
      have hne : ts ≠ [] := fun z => by rw [z] at h; cases h
      rw [← List.dropLast_concat_getLast hne]
      exact hs _ _ (ih _ (by rw [List.length_dropLast]; omega))
  exact this _ ts rfl
theorem mb_turn (ts : List Int) (h : ∀ t ∈ ts, Bd 13 t) : MB (14 * ts.length + 1) (turnL ts) := by
  revert h
  refine list_snoc (P := fun ts => (∀ t ∈ ts, Bd 13 t) → MB (14 * ts.length + 1) (turnL ts)) ?_ ?_ ts
  · intro _
    show MB 1 .one
    exact ⟨Bd.lit (by decide), Bd.lit (by decide), Bd.lit (by decide), Bd.lit (by decide)⟩
  · intro ts t ih h
    rw [turn_snoc, List.length_append]
    have := mb_step (ih fun u hu => h u (List.mem_append.mpr (.inl hu))) (h t (List.mem_append.mpr (.inr (List.mem_singleton.mpr rfl))))
    rw [show 14 * (ts.length + [t].length) + 1 = 14 * ts.length + 1 + 14 by simp; omega]
    exact this
theorem MB.mono {k k' : Nat} {m : Mx} (h : MB k m) (hk : k ≤ k') : MB k' m := ⟨h.1.mono hk, h.2.1.mono hk, h.2.2.1.mono hk, h.2.2.2.mono hk⟩
/-- terms that may be handled -/
def TB (ts : List Int) : Prop := ts.length ≤ 110 ∧ ∀ t ∈ ts, Bd 13 t
theorem TB.take {ts : List Int} (h : TB ts) (n : Nat) : TB (ts.take n) := ⟨by rw [List.length_take]; have := h.1; omega, fun t ht => h.2 t (List.mem_of_mem_take ht)⟩
theorem TB.turn {ts : List Int} (h : TB ts) : MB 1600 (turnL ts) := (mb_turn ts h.2).mono (by have := h.1; omega)
/-- terms from 1 on behind the first one -/
def Pos1 (ts : List Int) : Prop := ∀ t ∈ ts.drop 1, 1 ≤ t
theorem intsD_cases {d : D} {ts : List Int} (h : intsD d = some ts) : d = .list (ts.map PyData.int) ∨ d = .tuple (ts.map PyData.int) := by
  unfold intsD at h
  cases d with
  | list xs => exact .inl (by rw [allInts_some (show allInts xs = some ts from h)])
  | tuple xs => exact .inr (by rw [allInts_some (show allInts xs = some ts from h)])
  | _ => cases h
theorem intsD_items {d : D} {ts : List Int} (h : intsD d = some ts) : dItems d = some (ts.map PyData.int) := by
  rcases intsD_cases h with rfl | rfl <;> rfl
/-- how far two rows are alike -/
def alike : List Int → List Int → Nat
  | t :: ts, u :: us => if t = u then alike ts us + 1 else 0
  | _, _ => 0
theorem atI_nat {α : Type} {xs : List α} {i : Nat} {g : α} (e : xs[i]? = some g) : atI xs (i : Int) = some g := by
  have hi := (List.getElem?_eq_some_iff.mp e).1
  unfold atI ixN
  rw [if_pos (by omega), if_pos (by omega)]
  show xs[(i : Int).toNat]? = some g
  rw [Int.toNat_natCast, e]
theorem dIx_at {d : D} {xs : List D} {i : Nat} {g : D} (h : dItems d = some xs) (e : xs[i]? = some g) : dIx d (i : Int) = some g := by
  cases d with
  | list ys => cases h; exact atI_nat e
  | tuple ys => cases h; exact atI_nat e
  | _ => cases h
theorem dIx_int {d : D} {ts : List Int} {i : Nat} {t : Int} (h : intsD d = some ts) (e : ts[i]? = some t) : dIx d (i : Int) = some (.int t) := dIx_at (intsD_items h) (by rw [List.getElem?_map, e]; rfl)
theorem dLen_items {d : D} {xs : List D} (h : dItems d = some xs) : dLen d = some xs.length := by
  cases d with
  | list ys => cases h; rfl
  | tuple ys => cases h; rfl
  | _ => cases h
theorem dLen_int {d : D} {ts : List Int} (h : intsD d = some ts) : dLen d = some ts.length := by
  rw [dLen_items (intsD_items h), List.length_map]
/-! two rows side by side -/
/-! ### drawn rows -/
/-! the law's own look -/
theorem filter_nil {α : Type} {p : α → Bool} {xs : List α} : (xs.filter p).isEmpty = xs.all (fun x => !p x) := by
  induction xs with
  | nil => rfl
  | cons x r ih =>
    rw [List.filter_cons, List.all_cons]
    cases p x <;> simp [ih]
end Tq

set_option maxRecDepth 100000
set_option maxHeartbeats 4000000
namespace Tq
open PySem PySem.Spec PyProof.Rows L2
/-! ### repr of data of any kind: dicts at any depth, whole numbers of up to 3000 figures -/
mutual
def sw2 : D → Bool
  | .none | .bool _ | .str _ => true
  | .int i => decide (i.natAbs.log2 < 12000)
  | .list xs | .tuple xs => sw2A xs
  | .dict kvs => sw2K kvs
def sw2A : List D → Bool
  | [] => true
  | x :: xs => sw2 x && sw2A xs
def sw2K : List (D × D) → Bool
  | [] => true
  | (k, v) :: r => scD k && sw2 k && sw2 v && sw2K r
end
theorem big_small {i : Int} (h : i.natAbs.log2 < 12000) : i.natAbs < 10 ^ 4300 :=
  Nat.lt_of_lt_of_le (lt_of_log2 (Nat.lt_trans h (by decide))) pow_lo
section
variable {prog : Program} {w : World} {A : Around} {E : Value → Shared → Prop} {s : Shared}
theorem big_code {a : Int} {t : Tok} (ha : a.natAbs < 10 ^ 4300) : GivesAt (fun s => s.heap.NoDigits) (Builtin.«int.__repr__» ⟨[.int a t], []⟩) (.str (toString a)) := by
  intro prog w A R s hn hq
  unfold Builtin.«int.__repr__»
  show wpAny _ _ (do let r ← Builtin.overDigitLimit? a; _) _ _ s
  refine wpAny_bind (overDigitLimit_any hn (fun _ => ?_) fun hge => absurd ha (by omega))
  exact wpAny_bind (wpAny_mkStr (wpAny_pure hq.2) hq.1)
theorem big_fits {a : Int} (ha : a.natAbs < 10 ^ 4300) : (Str.ofString (toString a)).length ≤ sizeLine := int_text_fits10 ha
theorem big_obj {a : Int} {t : Tok} {Q : Value → Shared → Prop} (hn : s.heap.NoDigits) (ha : a.natAbs < 10 ^ 4300) (h : Q (.str (toString a) s.toks) { s with toks := s.toks + 1 }) : wpAny (model prog w) A (pyReprObj (.int a t)) Q E s := by
  have hv : ([Value.int a t] : List Value).any Value.onHeap = false := rfl
  unfold pyReprObj
  simp only [cRoomFor, hv, Bool.false_eq_true, if_false, pure_bind]
  refine wpAny_bind (wpAny_specialOf (T := "int") (typeIs_int s a t) (PySem.F.slot_int_repr).lookup ?_)
  refine wpAny_bind (m := callSpecialIfBound? (.int a t) _) (wpAny_callSpecialIfBound?_slot (T := "int") (typeIs_int s a t) PySem.F.slot_int_repr (call_givesAt PySem.F.slot_int_repr (typeIs_int s a t) PySem.F.entry_int_repr (PySem.F.args_int_repr_1 _) (big_code ha) hn ⟨big_fits ha, ?_⟩))
  exact wpAny_bind (wpAny_isInstance (T := "str") (b := true) rfl PySem.isSubtype_str_str (wpAny_pure h))
end
end Tq
namespace Tq
open PySem PySem.Spec PyProof.Rows L2
section
variable {prog : Program} {w : World} {A : Around} {E : Value → Shared → Prop} {s : Shared}
theorem big_call {a : Int} {t : Tok} {Q : Value → Shared → Prop} (hn : s.heap.NoDigits) (ha : a.natAbs < 10 ^ 4300) (h : Q (.str (toString a) s.toks) { s with toks := s.toks + 1 }) : wpAny (model prog w) A (call (.builtin "repr") [.int a t]) Q E s := by
  have hv : ([Value.int a t] : List Value).any Value.onHeap = false := rfl
  refine Calls.call_function_entry PySem.F.kind_repr PySem.F.plain_repr PySem.F.entry_repr (PySem.F.args_repr1 _) ?_
  unfold Builtin.«repr»
  refine wpAny_bind (m := oneArg "repr" _) (wpAny_pure ?_)
  simp only [cRoomFor, hv, Bool.false_eq_true, if_false, pure_bind]
  refine wpAny_bind (wpAny_specialOf (T := "int") (typeIs_int s a t) (PySem.F.slot_int_repr).lookup ?_)
  refine wpAny_bind (m := callSpecialIfBound? (.int a t) _) (wpAny_callSpecialIfBound?_slot (T := "int") (typeIs_int s a t) PySem.F.slot_int_repr (call_givesAt PySem.F.slot_int_repr (typeIs_int s a t) PySem.F.entry_int_repr (PySem.F.args_int_repr_1 _) (big_code ha) hn ⟨big_fits ha, ?_⟩))
  refine wpAny_bind (wpAny_isInstance (T := "str") (b := true) rfl PySem.isSubtype_str_str ?_)
  exact wpAny_pure ⟨_, rfl, h⟩
theorem big_k {a : Int} {t : Tok} {bs : List Addr} {h₀ : Heap} {d : Nat} (hn : h₀.NoDigits) (ha : a.natAbs < 10 ^ 4300) : ReprK prog w bs h₀ d (.int a t) (toString a) := by
  intro base hb A g E s Q hg hcl hu hk hQ
  have hb' : base ≤ sizeLine := by omega
  rw [pyReprUnder_leaf (v := .int a t) hb' (fun _ e => nomatch e)]
  unfold pyRepr
  exact wpAny_bind (big_obj (hn.keeps hk) ha (wpAny_pure (hQ s.heap _ fun _ _ e => e)))
end
mutual
theorem rk {X : Cx} {pins : List (Addr × Obj)} {σ : St} {H : Hp} {s : Shared} (I : Inv X pins σ H s) (hn : s.heap.NoDigits) : ∀ (d : D) (v : V) (u : Value), Rp X.K M0 H v d → RelV v u → sw2 d = true → d.shown.length ≤ sizeLine →
    ∃ as bs, Reads s.heap u d as ∧ ReadAtMost s.heap d.depth bs ∧ ReprK X.prog X.w bs s.heap d.depth u d.shown
  | .none, _, _, r, rv, _, _ => by
    cases r
    cases rv
    exact ⟨[], [], .none, (fun _ h => nomatch h), .of_is ReprIs.none _ _ _⟩
  | .bool b, _, _, r, rv, _, _ => by
    cases r
    cases rv
    exact ⟨[], [], .bool b, (fun _ h => nomatch h), .of_is (ReprIs.bool b) _ _ _⟩
  | .int i, _, _, r, rv, hs, _ => by
    cases r
    obtain ⟨t, rfl⟩ := rv
    exact ⟨[], [], .int i t, (fun _ h => nomatch h), big_k hn (big_small (of_decide_eq_true hs))⟩
  | .str x, _, _, r, rv, _, hz => by
    cases r
    obtain ⟨t, rfl⟩ := rv
    exact ⟨[], [], .str x t, (fun _ h => nomatch h), .of_is (ReprIs.str x t hz) _ _ _⟩
  | .list ds, _, _, r, rv, hs, hz => by
    cases r with
    | @lst a vs _ h1 h2 =>
      cases rv
      obtain ⟨its, rvs, ⟨o, n, ho, hc, _, hd⟩, _⟩ := I.list h1.sq
      have hz2 : (listText (PyData.shownAll ds)).length ≤ sizeLine := hz
      obtain ⟨as, bs, ra, hb, hk⟩ := rkA I hn ds vs its h2 rvs hs (fun t ht => Nat.le_trans (listText_mem_le ht) hz2)
      have rr : Reads s.heap (.ref a) (.list ds) (a :: as) := .list ho hc hd ra
      have na : a ∉ bs := not_mem_of_deeper rr (Nat.lt_succ_self _) hb
      refine ⟨_, a :: bs, rr, ReadAtMost.cons rr (Nat.le_succ _) hb, ?_⟩
      cases its with
      | nil =>
        cases ra
        exact ReprK.listEmpty ho hc hd
      | cons x l => exact ReprK.list ho hc hd na (by simpa using hk.length_eq) (fun i y e => hk.item i y (by simpa using e))
  | .tuple ds, _, _, r, rv, hs, hz => by
    cases r with
    | @tup a vs _ h1 h2 =>
      cases rv
      obtain ⟨its, rvs, ⟨o, ho, hc, n, hd⟩, _⟩ := I.tuple h1.sq
      have hz2 : (tupleText (PyData.shownAll ds)).length ≤ sizeLine := hz
      obtain ⟨as, bs, ra, hb, hk⟩ := rkA I hn ds vs its h2 rvs hs (fun t ht => Nat.le_trans (tupleText_mem_le ht) hz2)
      have rr : Reads s.heap (.ref a) (.tuple ds) as := .tuple ho hc hd ra
      have na : a ∉ bs := not_mem_of_deeper rr (Nat.lt_succ_self _) hb
      exact ⟨_, a :: bs, rr, ReadAtMost.cons rr (Nat.le_succ _) hb, ReprK.tuple ho hc hd na hk⟩
  | .dict kvs, _, _, r, rv, hs, hz => by
    cases r with
    | @dic a ks _ _ h k =>
      cases rv
      obtain ⟨_, nsm, vs, kv, o, es, ep, ho, ex, hdt, _, pr, _⟩ := (show ObjOk X.prog X.w H s.heap a (.dK ks) from I.hok a _ h)
      have hz2 : (dictText (PyData.shownKv kvs)).length ≤ sizeLine := hz
      obtain ⟨as, as', bs, bs', r1, r2, m1, m2, k1, k2⟩ := rkV I hn kvs ks vs es.toList k kv pr hs
        (fun t ht => let ⟨p, hp, hl⟩ := PyData.shownKv_key_le kvs t ht; Nat.le_trans hl (Nat.le_trans (dictText_mem_le hp) hz2))
        (fun t ht => let ⟨p, hp, hl⟩ := PyData.shownKv_val_le kvs t ht; Nat.le_trans hl (Nat.le_trans (dictText_mem_le hp) hz2))
      have rr : Reads s.heap (.ref a) (.dict kvs) _ := .dict ho ex.1 hdt r1 r2
      have hb : ReadAtMost s.heap (PyData.depthKv kvs) (bs ++ bs') := (m1.mono (PyData.depthAll_keys_le kvs)).append (m2.mono (PyData.depthAll_vals_le kvs))
      have na : a ∉ bs ++ bs' := not_mem_of_deeper rr (Nat.lt_succ_self _) hb
      have nsy : (a == sysModules) = false := by simpa using nsm
      refine ⟨_, a :: (bs ++ bs'), rr, ReadAtMost.cons rr (Nat.le_succ _) hb, ?_⟩
      show ReprK _ _ _ _ (PyData.depthKv kvs + 1) _ (dictText (PyData.shownKv kvs))
      rw [PyData.shownKv_eq]
      exact ReprK.dict ho ex.1 hdt nsy na (ReprEntriesK.of_two es.toList _ _ (k1.more_le (fun b hb => List.mem_append_left _ hb) (PyData.depthAll_keys_le kvs)) (k2.more_le (fun b hb => List.mem_append_right _ hb) (PyData.depthAll_vals_le kvs)))
theorem rkA {X : Cx} {pins : List (Addr × Obj)} {σ : St} {H : Hp} {s : Shared} (I : Inv X pins σ H s) (hn : s.heap.NoDigits) : ∀ (ds : List D) (vs : List V) (us : List Value), RpA X.K M0 H vs ds → Vals vs us → sw2A ds = true → (∀ t ∈ PyData.shownAll ds, t.length ≤ sizeLine) →
    ∃ as bs, ReadsAll s.heap us ds as ∧ ReadAtMost s.heap (PyData.depthAll ds) bs ∧ ReprAllK X.prog X.w bs s.heap (PyData.depthAll ds) us (PyData.shownAll ds)
  | [], _, _, r, rv, _, _ => by
    cases r
    cases rv
    exact ⟨[], [], .nil, (fun _ h => nomatch h), .nil⟩
  | d :: ds, _, _, r, rv, hs, hz => by
    cases r with
    | cons r1 r2 =>
      cases rv with
      | cons v1 v2 =>
        have hs : (sw2 d && sw2A ds) = true := hs
        rw [Bool.and_eq_true] at hs
        obtain ⟨as, bs, q1, q2, q3⟩ := rk I hn d _ _ r1 v1 hs.1 (hz _ List.mem_cons_self)
        obtain ⟨as', bs', q4, q5, q6⟩ := rkA I hn ds _ _ r2 v2 hs.2 (fun t ht => hz t (List.mem_cons_of_mem _ ht))
        exact ⟨_, bs ++ bs', .cons q1 q4, (q2.mono (Nat.le_max_left _ _)).append (q5.mono (Nat.le_max_right _ _)), .cons ((q3.more fun b hb => List.mem_append_left _ hb).level_le (Nat.le_max_left _ _)) (q6.more_le (fun b hb => List.mem_append_right _ hb) (Nat.le_max_right _ _))⟩
theorem rkV {X : Cx} {pins : List (Addr × Obj)} {σ : St} {H : Hp} {s : Shared} (I : Inv X pins σ H s) (hn : s.heap.NoDigits) : ∀ (kvs : List (D × D)) (ks : List (Key × V)) (vs : List (Key × Value)) (es : List DictEntry), RpK X.K M0 H ks kvs → KV ks vs → Pairs (mixKind X.prog X.w) es vs → sw2K kvs = true →
    (∀ t ∈ PyData.shownAll (kvs.map (·.1)), t.length ≤ sizeLine) → (∀ t ∈ PyData.shownAll (kvs.map (·.2)), t.length ≤ sizeLine) →
    ∃ as as' bs bs', ReadsAll s.heap (es.map (·.key)) (kvs.map (·.1)) as ∧ ReadsAll s.heap (es.map (·.val)) (kvs.map (·.2)) as' ∧ ReadAtMost s.heap (PyData.depthAll (kvs.map (·.1))) bs ∧ ReadAtMost s.heap (PyData.depthAll (kvs.map (·.2))) bs' ∧
      ReprAllK X.prog X.w bs s.heap (PyData.depthAll (kvs.map (·.1))) (es.map (·.key)) (PyData.shownAll (kvs.map (·.1))) ∧ ReprAllK X.prog X.w bs' s.heap (PyData.depthAll (kvs.map (·.2))) (es.map (·.val)) (PyData.shownAll (kvs.map (·.2)))
  | [], _, _, _, r, kv, pr, _, _, _ => by
    cases r
    cases kv
    cases pr
    exact ⟨[], [], [], [], .nil, .nil, (fun _ h => nomatch h), (fun _ h => nomatch h), .nil, .nil⟩
  | (kd, d) :: kvs, _, _, _, r, kv, pr, hs, hz1, hz2 => by
    cases r with
    | @cons k v _ _ _ a b =>
      cases kv with
      | @cons _ kw _ _ r1 r2 =>
        cases pr with
        | @cons e _ es _ p1 p2 p3 =>
          have hs : (((scD (kD k) && sw2 (kD k)) && sw2 d) && sw2K kvs) = true := hs
          rw [Bool.and_eq_true, Bool.and_eq_true, Bool.and_eq_true] at hs
          obtain ⟨⟨⟨_, s1⟩, s2⟩, s3⟩ := hs
          obtain ⟨as, as', bs, bs', q1, q2, m1, m2, k1, k2⟩ := rkV I hn kvs _ _ _ b r2 p3 s3 (fun t ht => hz1 t (List.mem_cons_of_mem _ ht)) (fun t ht => hz2 t (List.mem_cons_of_mem _ ht))
          have e1 : k = kw.1 := r1.1
          have rv : RelV v kw.2 := r1.2
          obtain ⟨av, bv, u1, u2, u3⟩ := rk I hn d v kw.2 a rv s2 (hz2 _ List.mem_cons_self)
          rw [← p2] at u1 u3
          have rk1 : Reads s.heap e.key (kD k) [] ∧ ReprK X.prog X.w [] s.heap (kD k).depth e.key (kD k).shown := by
            rw [← e1, mixKind_is] at p1
            have hz0 : (kD k).shown.length ≤ sizeLine := hz1 _ List.mem_cons_self
            rcases keyIs_shape p1 with ⟨i, t, z1, z2⟩ | ⟨x, t, z1, z2⟩
            · subst z1
              rw [z2]
              exact ⟨.int i t, big_k hn (big_small (of_decide_eq_true s1))⟩
            · subst z1
              rw [z2]
              exact ⟨.str x t, .of_is (ReprIs.str x t hz0) _ _ _⟩
          refine ⟨_, _, [] ++ bs, bv ++ bs', .cons rk1.1 q1, .cons u1 q2, ?_, (u2.mono (Nat.le_max_left _ _)).append (m2.mono (Nat.le_max_right _ _)), .cons (rk1.2.more (fun b hb => nomatch hb) |>.level_le (Nat.le_max_left _ _)) (k1.more_le (fun b hb => List.mem_append_right _ hb) (Nat.le_max_right _ _)), .cons ((u3.more fun b hb => List.mem_append_left _ hb).level_le (Nat.le_max_left _ _)) (k2.more_le (fun b hb => List.mem_append_right _ hb) (Nat.le_max_right _ _))⟩
          exact m1.mono (Nat.le_max_right _ _)
end
end Tq
namespace Tq
open PySem PySem.Spec PyProof.Rows L2
def rReprX (K : Fg) : List V → Hp → VK → Prop := fun xs H Q => ∃ x d, xs = [x] ∧ Rp K M0 H x d ∧ sw2 d = true ∧ d.depth ≤ 60 ∧ d.shown.length ≤ sizeLine ∧ Q (.str d.shown) H
theorem call_reprX {X : Cx} (hg : X.A.guards = some []) (hu : X.A.units + 64 < cLine) (hdg : X.base.NoDigits) : CallR X (.builtin "repr") (rReprX X.K) := by
  intro pins s σ H xs us Q I r h
  obtain ⟨x, d, rfl, rx, hs, hd, hz, q⟩ := h
  obtain ⟨u, rfl, rv⟩ := vals1 r
  have hn : s.heap.NoDigits := hdg.keeps fun b o e => (I.env0.bs b o e).1
  have fin : ∀ tk t h', (∀ b o, s.heap.get? b = some o → h'.get? b = some o) → EP X pins σ Q (.str d.shown t) { s with heap := h', toks := tk } := fun tk t h' k => ⟨.str d.shown, H, I.kept (t' := tk) k, ⟨t, rfl⟩, q⟩
  cases rx with
  | non =>
    cases (show u = Value.none from rv)
    exact PySem.P.repr_of_none (by have := fin (s.toks + 1) s.toks s.heap (fun _ _ e => e); simpa only [PyData.shown] using this)
  | bl b =>
    cases (show u = Value.bool b from rv)
    exact PySem.P.repr_of_bool (by have := fin (s.toks + 1) s.toks s.heap (fun _ _ e => e); simpa only [PyData.shown] using this)
  | int b =>
    obtain ⟨t, e⟩ := (show ∃ t, u = Value.int b t from rv)
    cases e
    exact big_call hn (big_small (of_decide_eq_true hs)) (fin (s.toks + 1) s.toks s.heap (fun _ _ e => e))
  | str b =>
    obtain ⟨t, e⟩ := (show ∃ t, u = Value.str b t from rv)
    cases e
    exact PySem.P.repr_of_str (by have := fin (s.toks + 1) s.toks s.heap (fun _ _ e => e); simpa only [PyData.shown] using this) (by simpa only [PyData.shown] using hz)
  | @lst a vs ds h1 h2 =>
    cases (show u = Value.ref a from rv)
    obtain ⟨its, rvs, ⟨o, n, ho, hc, _, hdt⟩, _⟩ := I.list h1.sq
    have hz2 : (listText (PyData.shownAll ds)).length ≤ sizeLine := hz
    have hd2 : PyData.depthAll ds + 1 ≤ 60 := hd
    obtain ⟨as, bs, ra, hb, hk⟩ := rkA I hn ds vs its h2 rvs hs (fun t ht => Nat.le_trans (listText_mem_le ht) hz2)
    have na : a ∉ bs := not_mem_of_deeper (.list ho hc hdt ra) (Nat.lt_succ_self _) hb
    refine call_repr_slot (by omega) ⟨o, ho, hc⟩ PySem.F.slot_list_repr.toG ?_
    cases its with
    | nil =>
      cases ra
      exact call_list_repr_empty ⟨o, ho, hc⟩ ho hdt ⟨_, _, rfl, fin _ _ s.heap fun _ _ e => e⟩
    | cons x l => exact call_list_reprK (g := []) ho hc hdt na (by simpa using hk.length_eq) (fun i y e => hk.item i y (by simpa using e)) hg (fun b _ => Clear.nil b) (by show X.A.units + 1 + (PyData.depthAll ds + 1) < cLine; omega) (fun _ _ e => e) (fun h' t tk k => ⟨_, _, rfl, fin tk t h' k⟩) hz2
  | @tup a vs ds h1 h2 =>
    cases (show u = Value.ref a from rv)
    obtain ⟨its, rvs, ⟨o, ho, hc, n, hdt⟩, _⟩ := I.tuple h1.sq
    have hz2 : (tupleText (PyData.shownAll ds)).length ≤ sizeLine := hz
    have hd2 : PyData.depthAll ds + 1 ≤ 60 := hd
    obtain ⟨as, bs, ra, hb, hk⟩ := rkA I hn ds vs its h2 rvs hs (fun t ht => Nat.le_trans (tupleText_mem_le ht) hz2)
    have na : a ∉ bs := not_mem_of_deeper (.tuple ho hc hdt ra) (Nat.lt_succ_self _) hb
    refine call_repr_slot (by omega) ⟨o, ho, hc⟩ PySem.F.slot_tuple_repr ?_
    exact call_tuple_reprK (g := []) ho hc hdt na hk hg (fun b _ => Clear.nil b) (by show X.A.units + 1 + (PyData.depthAll ds + 1) < cLine; omega) (fun _ _ e => e) (fun h' t tk k => ⟨_, _, rfl, fin tk t h' k⟩) hz2
  | @dic a ks kvs _ h k =>
    cases (show u = Value.ref a from rv)
    obtain ⟨_, nsm, vs, kv, o, es, ep, ho, ex, hdt, _, pr, _⟩ := (show ObjOk X.prog X.w H s.heap a (.dK ks) from I.hok a _ h)
    have hz2 : (dictText (PyData.shownKv kvs)).length ≤ sizeLine := hz
    have hd2 : PyData.depthKv kvs + 1 ≤ 60 := hd
    obtain ⟨as, as', bs, bs', r1, r2, m1, m2, k1, k2⟩ := rkV I hn kvs ks vs es.toList k kv pr hs
      (fun t ht => let ⟨p, hp, hl⟩ := PyData.shownKv_key_le kvs t ht; Nat.le_trans hl (Nat.le_trans (dictText_mem_le hp) hz2))
      (fun t ht => let ⟨p, hp, hl⟩ := PyData.shownKv_val_le kvs t ht; Nat.le_trans hl (Nat.le_trans (dictText_mem_le hp) hz2))
    have hb : ReadAtMost s.heap (PyData.depthKv kvs) (bs ++ bs') := (m1.mono (PyData.depthAll_keys_le kvs)).append (m2.mono (PyData.depthAll_vals_le kvs))
    have na : a ∉ bs ++ bs' := not_mem_of_deeper (.dict ho ex.1 hdt r1 r2) (Nat.lt_succ_self _) hb
    have nsy : (a == sysModules) = false := by simpa using nsm
    refine call_repr_slot (by omega) ⟨o, ho, ex.1⟩ PySem.F.slot_dict_repr ?_
    have ew : PyData.shown (.dict kvs) = dictText (List.zipWith (fun k v : Str => k ++ ": " ++ v) (PyData.shownAll (kvs.map (·.1))) (PyData.shownAll (kvs.map (·.2)))) := by show dictText (PyData.shownKv kvs) = _; rw [PyData.shownKv_eq]
    rw [ew] at fin
    exact call_dict_reprK (g := []) ho ex.1 hdt nsy na (ReprEntriesK.of_two es.toList _ _ (k1.more_le (fun b hb => List.mem_append_left _ hb) (PyData.depthAll_keys_le kvs)) (k2.more_le (fun b hb => List.mem_append_right _ hb) (PyData.depthAll_vals_le kvs))) hg (fun b _ => Clear.nil b) (by show X.A.units + 1 + (PyData.depthKv kvs + 1) < cLine; omega) (fun _ _ e => e) (fun h' t tk k => ⟨_, _, rfl, fin tk t h' k⟩) (by rw [← PyData.shownKv_eq]; exact hz2)
end Tq
namespace Tq
open PySem PySem.Spec PyProof.Rows L2
section
variable {P : Program} {w : World} {K : Fg} {mg mb : Str → Option Value} {CX : CXT} {k : Nat} {fa a : Addr} {fd : FuncData} {x : Str} {sp : Sp} {s₁ : Shared} {vs : List Value} {ns : List Int}
theorem law_coreD (KX : K.In s₁.heap) (hns : s₁.heap.Ns mainGlobals mg) (hb : s₁.heap.Ns builtinsNs mb) (hbb : ∀ x : Str, x ≠ "__name__" → mb x = bootBuiltins x) (hlim : s₁.heap.NoLimit) (hdg : s₁.heap.NoDigits) (hg : s₁.gens = #[])
    (ha : s₁.heap.get? a = some { cls := .type "list", data := .seq vs.toArray }) (hr : Room k callerA)
    (F : ∀ base : Heap, K.In base → base.Ns mainGlobals mg → base.NoDigits → FnG P w K mg base CX k fa fd [x] sp) (hbind : ∀ (s : Shared) (u : Value), BindsTo s fd ⟨[u], []⟩ [(x, u)])
    (hCX : ∀ H e s', CX [] H s₁ (fun _ _ _ => False) e s' → False)
    (H : Hp) (hsp : sp [.ref a] H (fun v _ => v = .bl true) fun _ _ _ => False) (hO : Only H) (hok : HOk P w H s₁.heap) (hA : ∀ b, H b ≠ none → b = a) (hK : H a ≠ none → K.lookup a = none) :
    codeAny (model P w) callerA (.call (.ref fa) ⟨[.ref a], []⟩) (LawEnd s₁) s₁ := by
  have isA : ∀ {b : Addr} {u : HO}, H b = some u → b = a := fun {b u} q => hA b (by rw [q]; simp)
  have noA : ∀ {b : Addr} {o : Obj} {es : Array DictEntry} {ep : Nat}, s₁.heap.get? b = some o → o.data = .dict es ep → H b = none := by
    intro b o es ep e d
    cases q : H b with
    | none => rfl
    | some u =>
      rw [isA q, ha] at e
      cases e
      cases (show Data.seq vs.toArray _ = Data.dict es ep from d)
  have nsK : ∀ {b : Addr} {m : Str → Option Value}, s₁.heap.Ns b m → (hidT s₁.heap H).Ns b m := fun {b m} ⟨o, es, ep, e, d, r⟩ => ⟨o, es, ep, hidT_get e (noA e d), d, r⟩
  have hKb : K.In (hidT s₁.heap H) := by
    intro b o e
    refine hidT_get (KX b o e) ?_
    cases q : H b with
    | none => rfl
    | some u =>
      have eb := isA q
      subst eb
      rw [hK (by rw [q]; simp)] at e
      cases e
  obtain ⟨mc, lim1, lim2⟩ := hlim
  have hM : Mod K mg (hidT s₁.heap H) := ⟨hKb, nsK hns, ⟨mb, nsK hb, hbb⟩, ⟨mc, nsK lim1, lim2⟩⟩
  have e0 : Env0 P w K mg (hidT s₁.heap H) callerA [] s₁ H :=
    ⟨rfl, hM, fun b o e => of_hidT e, Nat.le_of_eq (hidT_size _ _), trivial, fun b hb => absurd (show b ∈ ([] : List Addr) from hb) (by simp), hok, .of_eq hg⟩
  refine codeAny_mono ((F _ hKb (nsK hns) (let ⟨mc, n1, n2⟩ := hdg; ⟨mc, nsK n1, n2⟩)).run callerA [] s₁ H ⟨[.ref a], []⟩ [.ref a] [.ref a] _ _ hr rfl e0 (hbind s₁ (.ref a)) (.cons rfl .nil) hsp) fun r s' h => ?_
  cases r with
  | error e => exact (hCX H e s' h).elim
  | ok fl =>
    cases fl
    case ret u =>
      obtain ⟨v, G, os, bare, un, hok', r', q⟩ := h
      cases (show v = .bl true from q)
      cases (show u = Value.bool true from r')
      refine ⟨rfl, OldK.of_keep fun b o e => ?_, os, bare⟩
      rcases hO b with z | ⟨ob, xs, z⟩
      · exact un.keep b o e z (by intro zz; exact absurd (show b ∈ ([] : List Addr) from zz) (by simp)) (by simp)
      · obtain ⟨e1, _⟩ := hok b _ z
        obtain ⟨e2, _⟩ := hok' b _ (un.frzs b ob _ z)
        rw [e] at e1
        cases e1
        exact e2
    all_goals exact False.elim h
/-- the law's promise at the heap behind the top, the guards told -/
theorem law_callD (KX : K.In s₁.heap) (hns : s₁.heap.Ns mainGlobals mg) (hb : s₁.heap.Ns builtinsNs mb) (hbb : ∀ x : Str, x ≠ "__name__" → mb x = bootBuiltins x) (hlim : s₁.heap.NoLimit) (hdg : s₁.heap.NoDigits) (hg : s₁.gens = #[])
    (ha : s₁.heap.get? a = some { cls := .type "list", data := .seq vs.toArray }) (hi : IntsAre vs ns) (hl : ns.length ≤ sizeLine) (hr : Room k callerA)
    (F : ∀ base : Heap, K.In base → base.Ns mainGlobals mg → base.NoDigits → FnG P w K mg base CX k fa fd [x] sp) (hbind : ∀ (s : Shared) (u : Value), BindsTo s fd ⟨[u], []⟩ [(x, u)])
    (hsp : ∀ H : Hp, Only H → SqL K H a (ns.map V.int) → sp [.ref a] H (fun v _ => v = .bl true) fun _ _ _ => False)
    (hCX : ∀ H e s', CX [] H s₁ (fun _ _ _ => False) e s' → False) :
    codeAny (model P w) callerA (.call (.ref fa) ⟨[.ref a], []⟩) (LawEnd s₁) s₁ := by
  have rv := vals_ints hi
  cases hk : K.lookup a with
  | some o =>
    have e := KX a o hk
    rw [ha] at e
    cases e
    have hO : Only (fun _ => none) := fun _ => .inl rfl
    refine law_coreD KX hns hb hbb hlim hdg hg ha hr F hbind hCX (fun _ => none) (hsp _ hO ?_) hO (fun b u z => by cases z) (fun b z => absurd rfl z) fun z => absurd rfl z
    refine .inr ⟨_, vs.toArray, _, hk, rfl, rfl, rfl, ?_, by simpa using rv⟩
    rw [List.size_toArray, hi.length]
    exact hl
  | none =>
    have ob : (({ cls := .type "list", data := .seq vs.toArray } : Obj)) = { cls := .type "list", data := .seq vs.toArray } := rfl
    generalize hH : (fun b : Addr => if b = a then some (HO.frz { cls := .type "list", data := .seq vs.toArray } (.lst (ns.map V.int))) else none) = H
    have at1 : H a = some (HO.frz { cls := .type "list", data := .seq vs.toArray } (.lst (ns.map V.int))) := by rw [← hH]; exact if_pos rfl
    have at2 : ∀ b, b ≠ a → H b = none := fun b hb => by rw [← hH]; exact if_neg hb
    have hO : Only H := fun b => by
      by_cases hb : b = a
      · subst hb; exact .inr ⟨_, _, at1⟩
      · exact .inl (at2 b hb)
    refine law_coreD KX hns hb hbb hlim hdg hg ha hr F hbind hCX H (hsp _ hO (.inl (.inr ⟨_, at1⟩))) hO (fun b u z => ?_) (fun b z => ?_) fun _ => hk
    · by_cases hb : b = a
      · subst hb
        rw [at1] at z
        cases z
        exact ⟨ha, by rw [List.length_map]; exact hl, vs, _, rv, ha⟩
      · rw [at2 b hb] at z; cases z
    · by_cases hb : b = a
      · exact hb
      · exact absurd (at2 b hb) z
end
theorem walk_ofD {l : PySem.W.OpenLaw} {n k : Nat} {q : Program} {loose : List Str} {XP : (Str → Option Value) → Heap → Prop} {YP : World → Heap → Prop} {d : DefRec} {K : Params → Fg} {sp : Fg → Sp} {x : Str}
    (hn : l.most = some n) (hn2 : n ≤ sizeLine) (hdf : d.params.defaults = []) (hr : Room k callerA)
    (hY : ∀ (w : World) (h : Heap), YP w h → (K w.params).In h)
    (F : ∀ (w : World) (mg : Str → Option Value) (fa : Addr) (h : Heap), (K w.params).In h → h.Ns mainGlobals mg → mg d.name = some (.ref fa) →
      ∃ fd : FuncData, (∀ (s : Shared) (u : Value), BindsTo s fd ⟨[u], []⟩ [(x, u)]) ∧
        ∀ base : Heap, (K w.params).In base → base.Ns mainGlobals mg → base.NoDigits → FnG l.prog w (K w.params) mg base CX0 k fa fd [x] (sp (K w.params)))
    (hsp : ∀ (K : Fg) (H : Hp) (a : Addr) (ns : List Int), ns.length ≤ n → Only H → SqL K H a (ns.map V.int) → sp K [.ref a] H (fun v _ => v = .bl true) fun _ _ _ => False) :
    PySem.W.WalkO q loose XP YP l.row.toRowW d [] (fun f vs => PySem.call f vs) := by
  refine Att.attach_call hn hdf fun w s₀ s₁ mg mb fa o pm cd doc a vs ns G Y ho hd hcd hmg hobj hints hlen hg => ?_
  have KX := hY w _ Y
  obtain ⟨fd, hb, hF⟩ := F w mg fa _ KX G.T.g hmg
  exact law_callD KX G.T.g G.T.b G.T.builtins G.T.nolimit G.T.nodigits hg hobj hints (Nat.le_trans hlen hn2) hr hF hb (fun H hO hS => hsp (K w.params) H a ns hlen hO hS) fun H e s' h => h
end Tq
namespace Tq
open PySem PySem.Spec PyProof.Rows L2
theorem law_mkD {P : Program} {w : World} {K : Fg} {h : Heap} {mg : Str → Option Value} {st : Stmt} {x : Str} {f fa : Addr} {n : Nat} {sp : Sp} {od an : Option Addr} {sl : Array (Option Value)} {oc kV dc pm cd ct : Value} (X : K.In h) (G : h.Ns mainGlobals mg) (hfa : mg "law" = some (.ref fa))
    (ok : ∀ (base : Heap) (f : Addr) (fd : FuncData), base.NoDigits → Fun K "law" "law" st f fd → FnG P w K mg base CX0 n f fd [x] sp)
    (hb : ∀ (kV dc pm : Value) (an : Option Addr) (cd ct : Value) (s : Shared) (u : Value), BindsTo s (PySem.W.fnOf "law" "law" (defArgs st) (defBody st) (defScope st) .none kV dc pm an cd ct) ⟨[u], []⟩ [(x, u)])
    (a : PySem.W.nsIn K mainGlobals "law" = some (some (.ref f))) (l : K.lookup f = some ⟨oc, od, .func (PySem.W.fnOf "law" "law" (defArgs st) (defBody st) (defScope st) .none kV dc pm an cd ct), sl⟩) (c : PySem.W.codeIn K cd "law" = true) (k : PySem.W.keepIn K (.ref f) = true) :
    ∃ fd : FuncData, (∀ (s : Shared) (u : Value), BindsTo s fd ⟨[u], []⟩ [(x, u)]) ∧ ∀ base : Heap, K.In base → base.Ns mainGlobals mg → base.NoDigits → FnG P w K mg base CX0 n fa fd [x] sp := by
  have e := hfa.symm.trans (PySem.W.mg_of X G a)
  cases e
  exact ⟨_, hb kV dc pm an cd ct, fun base _ _ dg => ok base _ _ dg (fun_mk l c k)⟩
/-- what may be shown -/
structure ShX (d : D) : Prop where
  sw : sw2 d = true
  dp : d.depth ≤ 60
  ln : d.shown.length ≤ sizeLine
theorem reprXK {X : Cx} (K : Fg) (hg : X.A.guards = some []) (hu : X.A.units + 64 < cLine) (hd : X.base.NoDigits) (h : X.K = K := by rfl) : CallR X (.builtin "repr") (rReprX K) := h ▸ call_reprX hg hu hd
theorem wE_reprX {C : Ct} {y : S} {te : TE} {Q : Z → S → Prop} (w : wE C te y fun z y1 => ∃ d, z = .d d ∧ ShX d ∧ Q (.d (.str d.shown)) y1) : wE C (tCB (rReprX C.K) (tCons te tNil)) y Q := by
  intro F σ H K wd k
  refine w F σ H _ wd fun x H1 z y1 w1 g1 s1 r1 q1 => ?_
  obtain ⟨d, rfl, ⟨h1, h2, h3⟩, h⟩ := q1
  exact ⟨x, d, rfl, Rp.any r1, h1, h2, h3, k _ H1 (.d (.str d.shown)) y1 w1 g1 s1 (.str _) h⟩
end Tq

set_option maxRecDepth 100000
set_option maxHeartbeats 4000000
namespace Tq
open PySem PySem.Spec PyProof.Rows L2
/-! ### xs[-2::-1], xs[::-1] -/
def tRev2 (K : Fg) (te : TE) : TE := fun σ H Q => te σ H fun x H1 => ∃ a xs, x = .ref a ∧ SqL K H1 a xs ∧ ∀ p, H1 p = none → Q (.ref p) (upd H1 p (.lst xs.dropLast.reverse))
def tRev1 (K : Fg) (te : TE) : TE := tRevL K te
section
variable {C : Ct} {y : S} {te : TE} {Q : Z → S → Prop}
theorem wE_rev2 (w : wE C te y fun z y1 => ∃ xs, z = .d (.list xs) ∧ Q (.d (.list xs.dropLast.reverse)) y1) : wE C (tRev2 C.K te) y Q := by
  intro F σ H K wd k
  refine w F σ H _ wd fun x H1 z y1 w1 g1 s1 r1 ⟨xs, ez, q⟩ => ?_
  subst ez
  obtain ⟨a, us, rfl, h1, h2⟩ := rp_lst r1
  refine ⟨a, us, rfl, h1.sq, fun p hp => ?_⟩
  have gr := grow_upd (o := .lst us.dropLast.reverse) hp
  have h3 : RpA C.K (Mv F σ y1) H1 us.dropLast xs.dropLast := by
    rw [List.dropLast_eq_take, List.dropLast_eq_take, h2.len]
    exact h2.take _
  exact k _ _ (.d (.list xs.dropLast.reverse)) y1 (w1.grow gr) (g1.trans (go_grow gr)) s1 (.lst (.inl ⟨w1.new hp, .inl upd_same⟩) (h3.rev.go (go_grow gr))) q
theorem wE_rev1 (w : wE C te y fun z y1 => ∃ xs, z = .d (.list xs) ∧ Q (.d (.list xs.reverse)) y1) : wE C (tRev1 C.K te) y Q := by
  intro F σ H K wd k
  refine w F σ H _ wd fun x H1 z y1 w1 g1 s1 r1 ⟨xs, ez, q⟩ => ?_
  subst ez
  obtain ⟨a, us, rfl, h1, h2⟩ := rp_lst r1
  refine ⟨a, us, rfl, h1.sq, fun p hp => ?_⟩
  have gr := grow_upd (o := .lst us.reverse) hp
  exact k _ _ (.d (.list xs.reverse)) y1 (w1.grow gr) (g1.trans (go_grow gr)) s1 (.lst (.inl ⟨w1.new hp, .inl upd_same⟩) (h2.rev.go (go_grow gr))) q
end
/-! ### turns: products, values from behind -/
def Mx.det (m : Mx) : Int := m.a * m.d - m.b * m.c
/-! ### enumerate -/
/-! ### neighbours among the beginnings of a row -/
def sgE (i : Nat) : Int := if i % 2 = 0 then 1 else -1
/-- what stands at a place of a legal row -/
structure Amid (ts : List Int) (i : Nat) (a1 c1 a0 c0 p q : Int) : Prop where
  rc : ∃ rc : Int, 0 ≤ rc ∧ (rc = 0 ↔ i + 1 = ts.length) ∧ a1 * q - p * c1 = rc * sgE (i + 1) ∧ (1 ≤ i → ∃ ra, rc ≤ ra ∧ a0 * q - p * c0 = ra * sgE i)
  det : a1 * c0 - a0 * c1 = - sgE i
  cs : 1 ≤ i → 0 ≤ c0 ∧ c0 ≤ c1
end Tq

set_option maxRecDepth 100000
set_option maxHeartbeats 4000000
namespace Tq
open PySem PySem.Spec PyProof.Rows L2
/-! ### how long the text of data is that holds great whole numbers -/
structure Shx (b k : Nat) (d : D) : Prop where
  sw : sw2 d = true
  dp : d.depth ≤ k
  ln : d.shown.length ≤ b
theorem Shx.ok {b k : Nat} {d : D} (h : Shx b k d) (hb : b ≤ 10000000 := by decide) (hk : k ≤ 60 := by decide) : ShX d :=
  ⟨h.sw, Nat.le_trans h.dp hk, Nat.le_trans h.ln (Nat.le_trans hb (by decide))⟩
theorem Shx.mono {b k b' k' : Nat} {d : D} (h : Shx b k d) (hb : b ≤ b') (hk : k ≤ k') : Shx b' k' d := ⟨h.sw, Nat.le_trans h.dp hk, Nat.le_trans h.ln hb⟩
theorem rx_int {i : Int} {k : Nat} (h : i.natAbs < 10 ^ k) (hk : 0 < k := by decide) (h2 : k ≤ 3600 := by decide) : Shx (k + 1) 0 (.int i) := by
  refine ⟨?_, Nat.le_refl _, ?_⟩
  · refine decide_eq_true (log2_lt (Nat.lt_of_lt_of_le h ?_) (by decide))
    exact Nat.le_trans (Nat.pow_le_pow_right (by decide) h2) (by decide +kernel)
  · show (Str.ofString (toString i)).length ≤ _
    rw [PySem.ofString_length]
    exact int_text_length_le10 hk h
theorem rx_all {b k : Nat} {xs : List D} (h : ∀ x ∈ xs, Shx b k x) : sw2A xs = true ∧ PyData.depthAll xs ≤ k ∧ ((PyData.shownAll xs).map (·.length)).sum ≤ xs.length * b := by
  induction xs with
  | nil => exact ⟨rfl, Nat.zero_le _, Nat.zero_le _⟩
  | cons x r ih =>
    obtain ⟨h1, h2, h3⟩ := ih fun z hz => h z (List.mem_cons_of_mem _ hz)
    obtain ⟨g1, g2, g3⟩ := h x List.mem_cons_self
    refine ⟨?_, ?_, ?_⟩
    · show (sw2 x && sw2A r) = true
      rw [g1, h1]; rfl
    · show max x.depth (PyData.depthAll r) ≤ k
      omega
    · show ((x.shown :: PyData.shownAll r).map (·.length)).sum ≤ _
      rw [List.map_cons, List.sum_cons, List.length_cons, Nat.succ_mul]
      omega
theorem rx_list {b k : Nat} {xs : List D} (h : ∀ x ∈ xs, Shx b k x) : Shx (xs.length * (b + 2) + 3) (k + 1) (.list xs) := by
  obtain ⟨h2, h3, h4⟩ := rx_all h
  refine ⟨h2, Nat.succ_le_succ h3, ?_⟩
  have := listText_len_le (PyData.shownAll xs)
  have hl : (PyData.shownAll xs).length = xs.length := by rw [shownAll_map, List.length_map]
  show (listText (PyData.shownAll xs)).length ≤ _
  rw [Nat.mul_add]
  omega
theorem rx_tup {b k : Nat} {xs : List D} (h : ∀ x ∈ xs, Shx b k x) : Shx (xs.length * (b + 2) + 3) (k + 1) (.tuple xs) := by
  obtain ⟨h2, h3, h4⟩ := rx_all h
  refine ⟨h2, Nat.succ_le_succ h3, ?_⟩
  have := tupleText_len_le (PyData.shownAll xs)
  have hl : (PyData.shownAll xs).length = xs.length := by rw [shownAll_map, List.length_map]
  show (tupleText (PyData.shownAll xs)).length ≤ _
  rw [Nat.mul_add]
  omega
end Tq

set_option maxRecDepth 100000
set_option maxHeartbeats 4000000
/-! the three manners, over plain data -/
namespace Tq
open PySem PySem.Spec PyProof.Rows L2
inductive Mn where
  | fl
  | ce
  | ne
deriving DecidableEq
def Mn.word : Mn → Str
  | .fl => "floor"
  | .ce => "ceil"
  | .ne => "near"
def mnOf : D → Option Mn
  | .str s => if s = ("floor" : Str) then some .fl else if s = ("ceil" : Str) then some .ce else if s = ("near" : Str) then some .ne else none
  | _ => none
theorem mnOf_word (k : Mn) : mnOf (.str k.word) = some k := by cases k <;> decide +kernel
theorem mnOf_inv {d : D} {k : Mn} (h : mnOf d = some k) : d = .str k.word := by
  cases d with
  | str s =>
    unfold mnOf at h
    dsimp only at h
    split at h
    · next q => cases h; rw [q]; rfl
    · split at h
      · next q => cases h; rw [q]; rfl
      · split at h
        · next q => cases h; rw [q]; rfl
        · cases h
  | _ => cases h
/-- whether a term may stand behind another one, not the first; none: the first is ahead -/
def fitsB : Mn → Option Int → Int → Bool
  | .fl, _, t => decide (1 ≤ t)
  | .ce, _, t => decide (2 ≤ t)
  | .ne, a, t => if -2 < t ∧ t < 2 then false else if a = some 2 then decide (0 < t) else decide (a ≠ some (-2)) || decide (t < 0)
def endsB : Mn → Int → Bool
  | .fl, t => decide (t ≠ 1)
  | .ce, _ => true
  | .ne, t => decide (t ≠ 2)
def aheadI (ts : List Int) (i : Nat) : Option Int := if i = 1 then none else some (ts.getD (i - 1) 0)
def fitAt (k : Mn) (ts : List Int) (i : Nat) : Bool := fitsB k (aheadI ts i) (ts.getD i 0)
def bgL (k : Mn) (ts : List Int) : Bool := (List.range (ts.length - 1)).all fun i => fitAt k ts (i + 1)
def enL (k : Mn) (ts : List Int) : Bool := decide (ts.length = 1) || (decide (1 < ts.length) && endsB k (ts.getLastD 0))
def bgD (k : Mn) (d : D) : Bool := match intsD d with
  | some ts => bgL k ts
  | none => false
def rwD (k : Mn) (d : D) : Bool := match intsD d with
  | some ts => bgL k ts && enL k ts
  | none => false
def enD (k : Mn) (d : D) : Bool := match intsD d with
  | some ts => enL k ts
  | none => false
theorem bgD_some {k : Mn} {d : D} (h : bgD k d = true) : ∃ ts, intsD d = some ts ∧ bgL k ts = true := by
  unfold bgD at h
  split at h
  · next ts q => exact ⟨ts, q, h⟩
  · cases h
theorem bgD_of {k : Mn} {d : D} {ts : List Int} (h : intsD d = some ts) : bgD k d = bgL k ts := by unfold bgD; rw [h]
theorem enD_of {k : Mn} {d : D} {ts : List Int} (h : intsD d = some ts) : enD k d = enL k ts := by unfold enD; rw [h]
theorem all_range {n : Nat} {p : Nat → Bool} : (List.range n).all p = true ↔ ∀ i < n, p i = true := by
  rw [List.all_eq_true]
  exact ⟨fun h i hi => h i (List.mem_range.mpr hi), fun h i hi => h i (List.mem_range.mp hi)⟩
theorem bgL_iff {k : Mn} {ts : List Int} : bgL k ts = true ↔ ∀ i, 1 ≤ i → i < ts.length → fitAt k ts i = true := by
  unfold bgL
  rw [all_range]
  refine ⟨fun h i h1 h2 => ?_, fun h i hi => h (i + 1) (by omega) (by omega)⟩
  have := h (i - 1) (by omega)
  rwa [show i - 1 + 1 = i by omega] at this
theorem bool_eq {a b : Bool} (h : a = true ↔ b = true) : a = b := by
  cases a <;> cases b <;> simp_all
theorem bgL_snoc (k : Mn) (ts : List Int) (l t : Int) : bgL k (ts ++ [l] ++ [t]) = (bgL k (ts ++ [l]) && fitsB k (if ts = [] then none else some l) t) := by
  refine bool_eq ?_
  rw [Bool.and_eq_true, bgL_iff, bgL_iff]
  have hlen : (ts ++ [l] ++ [t]).length = (ts ++ [l]).length + 1 := by rw [List.length_append]; rfl
  have hl1 : (ts ++ [l]).length = ts.length + 1 := by rw [List.length_append]; rfl
  have hg : ∀ i, i < (ts ++ [l]).length → (ts ++ [l] ++ [t]).getD i 0 = (ts ++ [l]).getD i 0 := fun i hi => by
    rw [List.getD_eq_getElem?_getD, List.getD_eq_getElem?_getD, List.getElem?_append_left hi]
  have hf : ∀ i, 1 ≤ i → i < (ts ++ [l]).length → fitAt k (ts ++ [l] ++ [t]) i = fitAt k (ts ++ [l]) i := fun i h1 hi => by
    unfold fitAt aheadI
    rw [hg i hi, hg (i - 1) (by omega)]
  have hlast : fitAt k (ts ++ [l] ++ [t]) (ts.length + 1) = fitsB k (if ts = [] then none else some l) t := by
    unfold fitAt aheadI
    have e1 : (ts ++ [l] ++ [t]).getD (ts.length + 1) 0 = t := by
      rw [List.getD_eq_getElem?_getD, List.getElem?_append_right (by omega), hl1, Nat.sub_self]; rfl
    have e2 : (ts ++ [l] ++ [t]).getD (ts.length + 1 - 1) 0 = l := by
      rw [hg _ (by omega), List.getD_eq_getElem?_getD, List.getElem?_append_right (by omega), show ts.length + 1 - 1 - ts.length = 0 by omega]; rfl
    rw [e1, e2]
    by_cases q : ts = []
    · rw [if_pos q, if_pos (by rw [q]; rfl)]
    · rw [if_neg q, if_neg (by intro z; exact q (List.eq_nil_of_length_eq_zero (by omega)))]
  constructor
  · intro h
    refine ⟨fun i h1 h2 => ?_, ?_⟩
    · rw [← hf i h1 h2]; exact h i h1 (by omega)
    · rw [← hlast]; exact h _ (by omega) (by omega)
  · rintro ⟨h, hl⟩ i h1 h2
    by_cases q : i = ts.length + 1
    · rw [q, hlast]; exact hl
    · rw [hf i h1 (by omega)]; exact h i h1 (by omega)
end Tq

set_option maxRecDepth 100000
set_option maxHeartbeats 2000000
/-! Slots with labels, a store of things that may change, exceptions -/
namespace Ux
open PySem PySem.Spec PyProof.Rows L2 Tq
abbrev St := L2.St
abbrev D := PyData
inductive Z where
  | d (d : D)
  | lab (a : Addr)
  | tup (zs : List Z)
  | lst (zs : List Z)
  | exc (a dd : Addr) (z : Z)
  | ob (C : Addr) (ks : List Str) (zs : List Z)
  | nm (f : Str) (z : Z)
/-- what an exception's field is called, and holds -/
def keyZ : Z → Str
  | .nm f _ => f
  | _ => "found"
def valZ : Z → Z
  | .nm _ z => z
  | z => z
inductive Cell where
  | lst (zs : List Z)
  | ins (C : Addr) (ks : List Str) (zs : List Z)
  | dic (kvs : List (Key × Z))
  | pu (n : Nat)
  | ro (c : Cell)
def Cell.isRo : Cell → Bool
  | .ro _ => true
  | _ => false
structure Cl where
  a : Addr
  own : Bool
  c : Cell
structure S where
  l : List (Option Z)
  m : List Cl
def S.set (y : S) (i : Nat) (z : Option Z) : S := ⟨y.l.set i z, y.m⟩
structure Ex where
  cls : Value
  found : Z
structure Ct where
  K : Fg
  W : WX := fun _ _ _ _ => False
  ex : Ex → S → Prop := fun _ _ => False
structure Fr where
  H0 : Hp
  S0 : Addr → Prop
  M0 : Addr → Prop
  st : Bool
def Dom (m : List Cl) (a : Addr) : Prop := ∃ e ∈ m, e.a = a
/-- what may be written -/
def DomW (m : List Cl) (a : Addr) : Prop := ∃ e ∈ m, e.a = a ∧ e.c.isRo = false
def Mv (F : Fr) (_ : St) (y : S) (a : Addr) : Prop := F.M0 a ∨ Dom y.m a
mutual
inductive Rw (K : Fg) (M : Addr → Prop) (H : Hp) : V → Z → Prop
  | d {v : V} {d : D} : Rp K M H v d → Rw K M H v (.d d)
  | lab (a : Addr) : Rw K M H (.ref a) (.lab a)
  | tup {a : Addr} {xs : List V} {zs : List Z} : TsA K M H a xs → RwA K M H xs zs → Rw K M H (.ref a) (.tup zs)
  | lst {a : Addr} {xs : List V} {zs : List Z} : LsA K M H a xs → RwA K M H xs zs → Rw K M H (.ref a) (.lst zs)
  | exc {a dd : Addr} {v : V} {z : Z} : ¬ M dd → H dd = some (.xd [(keyZ z, v)]) → Rw K M H v (valZ z) → Rw K M H (.ref a) (.exc a dd z)
  | ob {a dx C : Addr} {ks : List Str} {xs : List V} {zs : List Z} : ¬ M a → H a = some (.ins C dx (ks.zip xs)) → ks.length = xs.length → RwA K M H xs zs → Rw K M H (.ref a) (.ob C ks zs)
inductive RwA (K : Fg) (M : Addr → Prop) (H : Hp) : List V → List Z → Prop
  | nil : RwA K M H [] []
  | cons {v : V} {z : Z} {vs : List V} {zs : List Z} : Rw K M H v z → RwA K M H vs zs → RwA K M H (v :: vs) (z :: zs)
end
section
variable {K : Fg} {M M' : Addr → Prop} {H H' : Hp}
theorem Rw.go (g : GoH M H M' H') {v : V} {z : Z} (r : Rw K M H v z) : Rw K M' H' v z :=
  Rw.rec (motive_1 := fun v z _ => Rw K M' H' v z) (motive_2 := fun vs zs _ => RwA K M' H' vs zs)
    (fun h => .d (h.go g)) .lab (fun h _ i => .tup (h.go g) i) (fun h _ i => .lst (h.go g) i) (fun n h _ i => .exc (g _ _ n h).1 (g _ _ n h).2 i) (fun n h l _ i => .ob (g _ _ n h).1 (g _ _ n h).2 l i) .nil (fun _ _ a b => .cons a b) r
theorem RwA.go (g : GoH M H M' H') : ∀ {vs : List V} {zs : List Z}, RwA K M H vs zs → RwA K M' H' vs zs
  | _, _, .nil => .nil
  | _, _, .cons a b => .cons (a.go g) (b.go g)
theorem Rw.kz {v : V} {z : Z} (r : Rw K M H v z) : keyZ z = "found" ∧ valZ z = z := by cases r <;> exact ⟨rfl, rfl⟩
theorem RwA.len : ∀ {vs : List V} {zs : List Z}, RwA K M H vs zs → vs.length = zs.length
  | _, _, .nil => rfl
  | _, _, .cons _ b => congrArg (· + 1) b.len
theorem RwA.get : ∀ {vs : List V} {zs : List Z} {i : Nat} {z : Z}, RwA K M H vs zs → zs[i]? = some z → ∃ v, vs[i]? = some v ∧ Rw K M H v z
  | _, _, _, _, .nil, e => by simp at e
  | _, _, 0, _, .cons a _, e => by simp at e; subst e; exact ⟨_, rfl, a⟩
  | _, _, i + 1, d, .cons _ b, e => by
    obtain ⟨u, h1, h2⟩ := b.get (i := i) (z := d) (by simpa using e)
    exact ⟨u, by simpa using h1, h2⟩
theorem RwA.getV : ∀ {vs : List V} {zs : List Z} {i : Nat} {v : V}, RwA K M H vs zs → vs[i]? = some v → ∃ z, zs[i]? = some z ∧ Rw K M H v z
  | _, _, _, _, .nil, e => by simp at e
  | _, _, 0, _, .cons a _, e => by simp at e; subst e; exact ⟨_, rfl, a⟩
  | _, _, i + 1, d, .cons _ b, e => by
    obtain ⟨u, h1, h2⟩ := b.getV (i := i) (v := d) (by simpa using e)
    exact ⟨u, by simpa using h1, h2⟩
theorem RwA.app : ∀ {vs us : List V} {zs es : List Z}, RwA K M H vs zs → RwA K M H us es → RwA K M H (vs ++ us) (zs ++ es)
  | _, _, _, _, .nil, h => h
  | _, _, _, _, .cons a b, h => .cons a (b.app h)
theorem RwA.set : ∀ {vs : List V} {zs : List Z} {v : V} {z : Z} (i : Nat), RwA K M H vs zs → Rw K M H v z → RwA K M H (vs.set i v) (zs.set i z)
  | _, _, _, _, _, .nil, _ => .nil
  | _, _, _, _, 0, .cons _ b, h => .cons h b
  | _, _, _, _, i + 1, .cons a b, h => .cons a (b.set i h)
theorem RwA.of : ∀ {vs : List V} {ds : List D}, RpA K M H vs ds → RwA K M H vs (ds.map Z.d)
  | _, _, .nil => .nil
  | _, _, .cons a b => .cons (.d a) (RwA.of b)
theorem RwA.ds : ∀ {vs : List V} {ds : List D}, RwA K M H vs (ds.map Z.d) → RpA K M H vs ds
  | [], [], _ => .nil
  | [], _ :: _, h => by cases h
  | _ :: _, [], h => by cases h
  | v :: vs, n :: ns, h => by
    cases h with | cons a b => cases a with | d a => exact .cons a b.ds
end
inductive RwK (K : Fg) (M : Addr → Prop) (H : Hp) : List (Key × V) → List (Key × Z) → Prop
  | nil : RwK K M H [] []
  | cons {k : Key} {v : V} {z : Z} {vs : List (Key × V)} {zs : List (Key × Z)} : Rw K M H v z → RwK K M H vs zs → RwK K M H ((k, v) :: vs) ((k, z) :: zs)
theorem RwK.go {K : Fg} {M M' : Addr → Prop} {H H' : Hp} (g : GoH M H M' H') : ∀ {vs : List (Key × V)} {zs : List (Key × Z)}, RwK K M H vs zs → RwK K M' H' vs zs
  | _, _, .nil => .nil
  | _, _, .cons a b => .cons (a.go g) (b.go g)
def CellOk (K : Fg) (M : Addr → Prop) (H : Hp) (a : Addr) : Cell → Prop
  | .lst zs => ∃ xs, H a = some (.lst xs) ∧ RwA K M H xs zs
  | .ins C ks zs => ∃ dx xs, H a = some (.ins C dx (ks.zip xs)) ∧ ks.length = xs.length ∧ RwA K M H xs zs
  | .dic kvs => ∃ ks, H a = some (.dK ks) ∧ RwK K M H ks kvs
  | .pu n => PuOk H a n
  | .ro c => CellOk K M H a c
theorem CellOk.live {K : Fg} {M : Addr → Prop} {H : Hp} {a : Addr} {c : Cell} (h : CellOk K M H a c) : H a ≠ none := by
  induction c with
  | lst zs => obtain ⟨xs, h1, _⟩ := h; rw [h1]; simp
  | ins _ _ _ => obtain ⟨_, xs, h1, _⟩ := h; rw [h1]; simp
  | dic zs => obtain ⟨xs, h1, _⟩ := h; rw [h1]; simp
  | pu n => obtain ⟨x, b, c, h1, _⟩ := h; rw [h1]; simp
  | ro c ih => exact ih h
theorem CellOk.go {K : Fg} {M M' : Addr → Prop} {H H' : Hp} {a : Addr} {c : Cell} (g : GoH M H M' H') (k : ∀ o, H a = some o → H' a = some o) (h : CellOk K M H a c) : CellOk K M' H' a c := by
  induction c with
  | lst zs => obtain ⟨xs, h1, h2⟩ := h; exact ⟨xs, k _ h1, h2.go g⟩
  | ins _ _ _ => obtain ⟨dx, xs, h1, l, h2⟩ := h; exact ⟨dx, xs, k _ h1, l, h2.go g⟩
  | dic zs => obtain ⟨xs, h1, h2⟩ := h; exact ⟨xs, k _ h1, h2.go g⟩
  | pu n => obtain ⟨x, b, c, h1, h2⟩ := h; exact ⟨x, b, c, k _ h1, h2⟩
  | ro c ih => exact ih h
def Rz (C : Ct) (F : Fr) (σ : St) (y : S) (H : Hp) (v : V) (z : Z) : Prop := match z with
  | .d d => Rp C.K (Mv F σ y) H v d
  | z => Rw C.K (Mv F σ y) H v z
abbrev Go (F : Fr) (σ : St) (y : S) (H : Hp) (σ' : St) (y' : S) (H' : Hp) : Prop := GoH (Mv F σ y) H (Mv F σ' y') H'
/-- the slots stand; the store's things stand, more may have come -/
def ao (m : List Cl) : List (Addr × Bool × Bool) := m.map fun e => (e.a, e.own, e.c.isRo)
def Sh (y y' : S) : Prop := y'.l = y.l ∧ ∃ nw : List Cl, ao y'.m = ao y.m ++ ao nw
theorem Sh.refl (y : S) : Sh y y := ⟨rfl, [], by simp [ao]⟩
theorem Sh.trans {y y1 y2 : S} (a : Sh y y1) (b : Sh y1 y2) : Sh y y2 := by
  obtain ⟨a1, n1, a2⟩ := a
  obtain ⟨b1, n2, b2⟩ := b
  exact ⟨b1.trans a1, n1 ++ n2, by rw [b2, a2, List.append_assoc]; simp [ao]⟩
section
variable {C : Ct} {F : Fr} {σ : St} {y y' : S} {H H' : Hp}
theorem Rz.w {v : V} {z : Z} (r : Rz C F σ y H v z) : Rw C.K (Mv F σ y) H v z := by
  cases z with
  | d d => exact .d r
  | _ => exact r
theorem Rw.z {v : V} {z : Z} (r : Rw C.K (Mv F σ y) H v z) : Rz C F σ y H v z := by
  cases z with
  | d d => cases r with | d r => exact r
  | _ => exact r
theorem Rz.go {v : V} {z : Z} (g : Go F σ y H σ y' H') (r : Rz C F σ y H v z) : Rz C F σ y' H' v z := (r.w.go g).z
end
structure Wd0 (K : Fg) (F : Fr) (σ : St) (y : S) (H : Hp) : Prop where
  keep : ∀ a o, ¬ F.S0 a → F.H0 a = some o → H a = some o
  live0 : ∀ a, F.M0 a → F.H0 a ≠ none
  live : ∀ a, F.M0 a → H a ≠ none
  len : σ.length = y.l.length
  slot : ∀ (i : Nat) (z : Z), y.l[i]? = some (some z) → ∃ x, σ[i]? = some (some x) ∧ Rw K (Mv F σ y) H x z
  cell : ∀ e ∈ y.m, CellOk K (Mv F σ y) H e.a e.c
  dist : y.m.Pairwise fun e e' => e.a ≠ e'.a
  frsh : ∀ e ∈ y.m, e.c.isRo = false → F.S0 e.a ∨ F.H0 e.a = none
  sm : ∀ a, F.S0 a → F.M0 a
  nb : F.st = true → ∀ e ∈ y.m, e.own = true → ¬ F.S0 e.a
/-- an exception with a thing found, its dict new -/
structure XRep (K : Fg) (F : Fr) (σ : St) (y : S) (H : Hp) (ex : Ex) (cls : Value) (d : Option Addr) : Prop where
  cls : cls = ex.cls
  dd : ∃ a v, d = some a ∧ H a = some (.xd [(keyZ ex.found, v)]) ∧ ¬ Mv F σ y a ∧ F.H0 a = none ∧ Rw K (Mv F σ y) H v (valZ ex.found)
structure Wd (C : Ct) (F : Fr) (σ : St) (y : S) (H : Hp) : Prop extends Wd0 C.K F σ y H where
  xk : ∀ σ' y' H' ex cls d, Wd0 C.K F σ' y' H' → Go F σ y H σ' y' H' → XRep C.K F σ' y' H' ex cls d → C.ex ex y' → C.W cls d σ' H'
section
variable {C : Ct} {F : Fr} {σ σ' : St} {y y' : S} {H H' : Hp}
theorem Wd.to (w : Wd C F σ y H) (w' : Wd0 C.K F σ' y' H') (g : Go F σ y H σ' y' H') : Wd C F σ' y' H' := ⟨w', fun σ2 y2 H2 ex cls d w2 g2 => w.xk σ2 y2 H2 ex cls d w2 (g.trans g2)⟩
theorem Wd0.new {K : Fg} (w : Wd0 K F σ y H) {p : Addr} (h : H p = none) : ¬ Mv F σ y p := by
  rintro (z | ⟨e, he, rfl⟩)
  · exact w.live p z h
  · exact (w.cell e he).live h
theorem Wd.new (w : Wd C F σ y H) {p : Addr} (h : H p = none) : ¬ Mv F σ y p := w.toWd0.new h
theorem Wd.newH0 (w : Wd C F σ y H) {p : Addr} (h : H p = none) : F.H0 p = none := by
  cases e : F.H0 p with
  | none => rfl
  | some o =>
    by_cases s : F.S0 p
    · exact absurd h (w.live p (w.sm p s))
    · rw [w.keep p o s e] at h; cases h
theorem go_grow (g : ∀ a o, H a = some o → H' a = some o) : Go F σ y H σ y H' := fun a o n e => ⟨n, g a o e⟩
theorem Wd.grow (w : Wd C F σ y H) (g : ∀ a o, H a = some o → H' a = some o) : Wd C F σ y H' := by
  have gg : Go F σ y H σ y H' := go_grow g
  refine w.to ⟨fun a o n e => g _ _ (w.keep a o n e), w.live0, fun a m e => ?_, w.len, fun i z e => ?_, fun e he => (w.cell e he).go gg (fun o q => g _ _ q), w.dist, w.frsh, w.sm, w.nb⟩ gg
  · cases q : H a with
    | none => exact w.live a m q
    | some o => rw [g a o q] at e; cases e
  · obtain ⟨x, h1, h2⟩ := w.slot i z e
    exact ⟨x, h1, h2.go gg⟩
end
/-! ### the wp -/
section
variable (C : Ct)
def wE (te : TE) (y : S) (Q : Z → S → Prop) : Prop := ∀ (F : Fr) σ H (K : VK), Wd C F σ y H → (∀ v H' z y', Wd C F σ y' H' → Go F σ y H σ y' H' → Sh y y' → Rz C F σ y' H' v z → Q z y' → K v H') → te σ H K
def wT (tt : TT) (y : S) (Q : Bool → S → Prop) : Prop := ∀ (F : Fr) σ H (K : Bool → Hp → Prop), Wd C F σ y H → (∀ b H' y', Wd C F σ y' H' → Go F σ y H σ y' H' → Sh y y' → Q b y' → K b H') → tt σ H K
def wO (to : TO) (y : S) (Q : Option Int → S → Prop) : Prop := ∀ (F : Fr) σ H (K : Option Int → Hp → Prop), Wd C F σ y H → (∀ b H' y', Wd C F σ y' H' → Go F σ y H σ y' H' → Sh y y' → Q b y' → K b H') → to σ H K
structure En where
  nx : S → Prop
  rt : Z → S → Prop
  bk : S → Prop := fun _ => False
  ct : S → Prop := fun _ => False
structure EnOk (F : Fr) (σ : St) (y : S) (H : Hp) (e : En) (E : Ends) : Prop where
  nx : ∀ σ' H' y', Wd C F σ' y' H' → Go F σ y H σ' y' H' → e.nx y' → E.nx σ' H'
  rt : ∀ σ' v H' z y', Wd C F σ' y' H' → Go F σ y H σ' y' H' → Rz C F σ' y' H' v z → e.rt z y' → E.rt v H'
  bk : ∀ σ' H' y', Wd C F σ' y' H' → Go F σ y H σ' y' H' → e.bk y' → E.bk σ' H'
  ct : ∀ σ' H' y', Wd C F σ' y' H' → Go F σ y H σ' y' H' → e.ct y' → E.ct σ' H'
def wS (ts : TS) (y : S) (e : En) : Prop := ∀ (F : Fr) σ H (E : Ends), F.st = true → Wd C F σ y H → EnOk C F σ y H e E → ts E σ H
end
/-! ### storing in a slot -/
section
variable {C : Ct} {F : Fr} {σ : St} {y y' : S} {H H' : Hp}
theorem go_set {σ' : St} {i : Nat} {z : Option Z} : Go F σ y H σ' (y.set i z) H := fun a o n e => ⟨n, e⟩
theorem Wd0.set_z {K : Fg} (w : Wd0 K F σ y H) {i : Nat} {v : V} {z : Z} (r : Rw K (Mv F σ y) H v z) : Wd0 K F (σ.set i (some v)) (y.set i (some z)) H := by
  refine ⟨w.keep, w.live0, w.live, by show (σ.set i _).length = (y.l.set i _).length; rw [List.length_set, List.length_set]; exact w.len, fun j x e => ?_, w.cell, w.dist, w.frsh, w.sm, w.nb⟩
  have e' : (y.l.set i (some z))[j]? = some (some x) := e
  by_cases n : j = i
  · subst n
    have hl : j < y.l.length := by
      have := (List.getElem?_eq_some_iff.mp e').1
      rw [List.length_set] at this; exact this
    rw [List.getElem?_set_self hl] at e'
    cases e'
    exact ⟨v, by rw [List.getElem?_set_self (by rw [w.len]; exact hl)], r⟩
  · rw [List.getElem?_set_ne (Ne.symm n)] at e' ⊢
    exact w.slot j x e'
theorem Wd.set_z (w : Wd C F σ y H) {i : Nat} {v : V} {z : Z} (r : Rz C F σ y H v z) : Wd C F (σ.set i (some v)) (y.set i (some z)) H := w.to (w.toWd0.set_z r.w) go_set
end
end Ux

set_option maxRecDepth 100000
set_option maxHeartbeats 4000000
namespace Ux
open PySem PySem.Spec PyProof.Rows L2 Tq
section
variable {C : Ct} {y : S} {te : TE} {Q : Z → S → Prop}
theorem wE_varZ {i : Nat} {z : Z} (h : y.l[i]? = some (some z)) (q : Q z y) : wE C (tVar i) y Q := fun F σ H K w k => by
  obtain ⟨x, h1, h2⟩ := w.slot i _ h
  exact ⟨x, h1, k x H z y w GoH.refl (Sh.refl y) h2.z q⟩
theorem wE_var {i : Nat} {z : Z} (h : y.l[i]? = some (some z)) (q : Q z y) : wE C (tVar i) y Q := wE_varZ h q
theorem grow_upd {H : Hp} {p : Addr} {o : HO} (h : H p = none) : ∀ a u, H a = some u → upd H p o a = some u := Tq.grow_upd h
end
section
variable {C : Ct} {F : Fr} {σ : St} {y y' : S} {H H' : Hp}
end

section
variable {C : Ct} {y : S} {ta tb tc te : TE} {Q : Z → S → Prop}
theorem wE_sc {v : V} {d : D} (s : Sc v d) (q : Q (.d d) y) : wE C (tC v) y Q := fun F σ H K w k => k v H (.d d) y w GoH.refl (Sh.refl y) s.rp q
theorem wE_int {i : Int} (q : Q (.d (.int i)) y) : wE C (tC (.int i)) y Q := wE_sc (.int i) q
theorem wE_str {i : Str} (q : Q (.d (.str i)) y) : wE C (tC (.str i)) y Q := wE_sc (.str i) q
theorem wE_bl {i : Bool} (q : Q (.d (.bool i)) y) : wE C (tC (.bl i)) y Q := wE_sc (.bl i) q
theorem wE_non (q : Q (.d .none) y) : wE C (tC .non) y Q := wE_sc .non q
theorem wE_mono {R : Z → S → Prop} (h : wE C te y Q) (q : ∀ z y', Q z y' → R z y') : wE C te y R := fun F σ H K w k => h F σ H K w fun v H' z y' a b c d e => k v H' z y' a b c d (q z y' e)
theorem wE_op {r : R2} {res : D → D → D → Prop} (h : OpD C.K r res) (w : wE C ta y fun z y1 => wE C tb y1 fun z' y2 => ∃ d e g, z = .d d ∧ z' = .d e ∧ res d e g ∧ Q (.d g) y2) : wE C (tOp r ta tb) y Q := by
  intro F σ H K wd k
  refine w F σ H _ wd fun x H1 z y1 w1 g1 s1 r1 q1 => ?_
  refine q1 F σ H1 _ w1 fun x2 H2 z' y2 w2 g2 s2 r2 q2 => ?_
  obtain ⟨d, e, g, rfl, rfl, hres, hq⟩ := q2
  refine h (Mv F σ y2) H2 x x2 d e g K (fun a => w2.new) (Rp.go g2 r1) r2 hres fun v H3 gr rv => ?_
  exact k v H3 (.d g) y2 (w2.grow gr) ((g1.trans g2).trans (go_grow gr)) (s1.trans s2) rv hq
theorem wE_I {P : Int → Int → Prop} {g : Int → Int → V} (gd : Int → Int → D) (hg : ∀ i j, Sc (g i j) (gd i j)) (w : wE C ta y fun z y1 => wE C tb y1 fun z' y2 => ∃ i j, z = .d (.int i) ∧ z' = .d (.int j) ∧ P i j ∧ Q (.d (gd i j)) y2) : wE C (tOp (rI P g) ta tb) y Q :=
  wE_op (opD_I hg) (wE_mono w fun z y1 h => wE_mono h fun z' y2 ⟨i, j, e1, e2, c, q⟩ => ⟨_, _, _, e1, e2, ⟨i, j, rfl, rfl, c, rfl⟩, q⟩)
theorem wE_I0 {g : Int → Int → V} (gd : Int → Int → D) (hg : ∀ i j, Sc (g i j) (gd i j)) (w : wE C ta y fun z y1 => wE C tb y1 fun z' y2 => ∃ i j, z = .d (.int i) ∧ z' = .d (.int j) ∧ Q (.d (gd i j)) y2) : wE C (tOp (rI0 g) ta tb) y Q :=
  wE_op (opD_I0 hg) (wE_mono w fun z y1 h => wE_mono h fun z' y2 ⟨i, j, e1, e2, q⟩ => ⟨_, _, _, e1, e2, ⟨i, j, rfl, rfl, rfl⟩, q⟩)
theorem wE_add (w : wE C ta y fun z y1 => wE C tb y1 fun z' y2 => ∃ i j, z = .d (.int i) ∧ z' = .d (.int j) ∧ Q (.d (.int (i + j))) y2) : wE C (tOp (rI0 fun i j => .int (i + j)) ta tb) y Q := wE_I0 _ (fun _ _ => .int _) w
theorem wE_sub (w : wE C ta y fun z y1 => wE C tb y1 fun z' y2 => ∃ i j, z = .d (.int i) ∧ z' = .d (.int j) ∧ Q (.d (.int (i - j))) y2) : wE C (tOp (rI0 fun i j => .int (i - j)) ta tb) y Q := wE_I0 _ (fun _ _ => .int _) w
theorem wE_lt (w : wE C ta y fun z y1 => wE C tb y1 fun z' y2 => ∃ i j, z = .d (.int i) ∧ z' = .d (.int j) ∧ Q (.d (.bool (decide (i < j)))) y2) : wE C (tOp (rI0 fun i j => .bl (decide (i < j))) ta tb) y Q := wE_I0 (fun i j => .bool (decide (i < j))) (fun _ _ => .bl _) w
theorem wE_le (w : wE C ta y fun z y1 => wE C tb y1 fun z' y2 => ∃ i j, z = .d (.int i) ∧ z' = .d (.int j) ∧ Q (.d (.bool (decide (i ≤ j)))) y2) : wE C (tOp (rI0 fun i j => .bl (decide (i ≤ j))) ta tb) y Q := wE_I0 (fun i j => .bool (decide (i ≤ j))) (fun _ _ => .bl _) w
theorem wE_gt (w : wE C ta y fun z y1 => wE C tb y1 fun z' y2 => ∃ i j, z = .d (.int i) ∧ z' = .d (.int j) ∧ Q (.d (.bool (decide (j < i)))) y2) : wE C (tOp (rI0 fun i j => .bl (decide (j < i))) ta tb) y Q := wE_I0 (fun i j => .bool (decide (j < i))) (fun _ _ => .bl _) w
theorem wE_ge (w : wE C ta y fun z y1 => wE C tb y1 fun z' y2 => ∃ i j, z = .d (.int i) ∧ z' = .d (.int j) ∧ Q (.d (.bool (decide (j ≤ i)))) y2) : wE C (tOp (rI0 fun i j => .bl (decide (j ≤ i))) ta tb) y Q := wE_I0 (fun i j => .bool (decide (j ≤ i))) (fun _ _ => .bl _) w
theorem wE_mulW (w : wE C ta y fun z y1 => wE C tb y1 fun z' y2 => ∃ i j, z = .d (.int i) ∧ z' = .d (.int j) ∧ CMulW i j ∧ Q (.d (.int (i * j))) y2) : wE C (tOp (rI CMulW fun i j => .int (i * j)) ta tb) y Q := wE_I _ (fun _ _ => .int _) w
theorem wE_mul (w : wE C ta y fun z y1 => wE C tb y1 fun z' y2 => ∃ i j, z = .d (.int i) ∧ z' = .d (.int j) ∧ CMul i j ∧ Q (.d (.int (i * j))) y2) : wE C (tOp (rI CMul fun i j => .int (i * j)) ta tb) y Q := wE_I _ (fun _ _ => .int _) w
theorem wE_mod (w : wE C ta y fun z y1 => wE C tb y1 fun z' y2 => ∃ i j, z = .d (.int i) ∧ z' = .d (.int j) ∧ 0 < j ∧ Q (.d (.int (i % j))) y2) : wE C (tOp (rI (fun _ j => 0 < j) fun i j => .int (i % j)) ta tb) y Q := wE_I _ (fun _ _ => .int _) w
theorem wE_pow (w : wE C ta y fun z y1 => wE C tb y1 fun z' y2 => ∃ i j, z = .d (.int i) ∧ z' = .d (.int j) ∧ CPow i j ∧ Q (.d (.int (i ^ j.toNat))) y2) : wE C (tOp (rI CPow fun i j => .int (i ^ j.toNat)) ta tb) y Q := wE_I _ (fun _ _ => .int _) w
theorem wE_fdivW (w : wE C ta y fun z y1 => wE C tb y1 fun z' y2 => ∃ i j, z = .d (.int i) ∧ z' = .d (.int j) ∧ CDivW i j ∧ Q (.d (.int (i / j))) y2) : wE C (tOp (rI CDivW fun i j => .int (i / j)) ta tb) y Q := wE_I _ (fun _ _ => .int _) w
theorem wE_neg (w : wE C ta y fun z y1 => ∃ i, z = .d (.int i) ∧ Q (.d (.int (-i))) y1) : wE C (tUn (rU fun i => .int (-i)) ta) y Q := by
  intro F σ H K wd k
  refine w F σ H _ wd fun x H1 z y1 w1 g1 s1 r1 q1 => ?_
  obtain ⟨i, rfl, q⟩ := q1
  exact ⟨i, rp_int r1, k _ H1 (.d (.int (-i))) y1 w1 g1 s1 (.int _) q⟩
theorem wE_S0 {α : Type} {g : Str → Str → V} (gd : Str → Str → D) (hg : ∀ i j, Sc (g i j) (gd i j)) (w : wE C ta y fun z y1 => wE C tb y1 fun z' y2 => ∃ i j, z = .d (.str i) ∧ z' = .d (.str j) ∧ Q (.d (gd i j)) y2) : wE C (tOp (fun x y H Q => ∃ i j, x = .str i ∧ y = .str j ∧ Q (g i j) H) ta tb) y Q := by
  refine wE_op (res := fun d e r => ∃ i j, d = .str i ∧ e = .str j ∧ r = gd i j) ?_ (wE_mono w fun z y1 h => wE_mono h fun z' y2 ⟨i, j, e1, e2, q⟩ => ⟨_, _, _, e1, e2, ⟨i, j, rfl, rfl, rfl⟩, q⟩)
  rintro M H x y d e r Q _ rx ry ⟨i, j, rfl, rfl, rfl⟩ k
  exact ⟨i, j, rp_str rx, rp_str ry, k _ H (fun _ _ e => e) (hg i j).rp⟩
theorem wE_ltS (w : wE C ta y fun z y1 => wE C tb y1 fun z' y2 => ∃ i j, z = .d (.str i) ∧ z' = .d (.str j) ∧ Q (.d (.bool (decide (i.cps.toList < j.cps.toList)))) y2) :
    wE C (tOp (fun x y H Q => ∃ i j, x = .str i ∧ y = .str j ∧ Q (.bl (decide (i.cps.toList < j.cps.toList))) H) ta tb) y Q := wE_S0 (α := Unit) (fun i j => .bool (decide (i.cps.toList < j.cps.toList))) (fun _ _ => .bl _) w
theorem wE_leS (w : wE C ta y fun z y1 => wE C tb y1 fun z' y2 => ∃ i j, z = .d (.str i) ∧ z' = .d (.str j) ∧ Q (.d (.bool (!decide (j.cps.toList < i.cps.toList)))) y2) :
    wE C (tOp (fun x y H Q => ∃ i j, x = .str i ∧ y = .str j ∧ Q (.bl (!decide (j.cps.toList < i.cps.toList))) H) ta tb) y Q := wE_S0 (α := Unit) (fun i j => .bool (!decide (j.cps.toList < i.cps.toList))) (fun _ _ => .bl _) w
theorem wE_addS (w : wE C ta y fun z y1 => wE C tb y1 fun z' y2 => ∃ i j, z = .d (.str i) ∧ z' = .d (.str j) ∧ i.length + j.length ≤ sizeLine ∧ Q (.d (.str (i ++ j))) y2) :
    wE C (tOp (fun x y H Q => ∃ i j, x = .str i ∧ y = .str j ∧ i.length + j.length ≤ sizeLine ∧ Q (.str (i ++ j)) H) ta tb) y Q := by
  refine wE_op (res := fun d e r => ∃ i j, d = .str i ∧ e = .str j ∧ i.length + j.length ≤ sizeLine ∧ r = .str (i ++ j)) ?_ (wE_mono w fun z y1 h => wE_mono h fun z' y2 ⟨i, j, e1, e2, c, q⟩ => ⟨_, _, _, e1, e2, ⟨i, j, rfl, rfl, c, rfl⟩, q⟩)
  rintro M H x y d e r Q _ rx ry ⟨i, j, rfl, rfl, c, rfl⟩ k
  exact ⟨i, j, rp_str rx, rp_str ry, c, k _ H (fun _ _ e => e) (.str _)⟩
theorem wE_inSign (w : wE C ta y fun z y1 => wE C tb y1 fun z' y2 => ∃ (c : Nat) (j : Str), z = .d (.str ⟨#[c]⟩) ∧ z' = .d (.str j) ∧ Q (.d (.bool (decide (c ∈ j.cps.toList)))) y2) :
    wE C (tOp (fun x y H Q => ∃ (c : Nat) (z : Str), x = .str ⟨#[c]⟩ ∧ y = .str z ∧ Q (.bl (decide (c ∈ z.cps.toList))) H) ta tb) y Q := by
  refine wE_op (res := fun d e r => ∃ (c : Nat) (j : Str), d = .str ⟨#[c]⟩ ∧ e = .str j ∧ r = .bool (decide (c ∈ j.cps.toList))) ?_ (wE_mono w fun z y1 h => wE_mono h fun z' y2 ⟨i, j, e1, e2, q⟩ => ⟨_, _, _, e1, e2, ⟨i, j, rfl, rfl, rfl⟩, q⟩)
  rintro M H x y d e r Q _ rx ry ⟨i, j, rfl, rfl, rfl⟩ k
  exact ⟨i, j, rp_str rx, rp_str ry, k _ H (fun _ _ e => e) (.bl _)⟩
theorem wE_eqD (w : wE C ta y fun z y1 => wE C tb y1 fun z' y2 => ∃ d e, z = .d d ∧ z' = .d e ∧ SeqAt.shaped d = true ∧ SeqAt.shaped e = true ∧ Q (.d (.bool (PyData.eqv d e))) y2) : wE C (tOp (rEqD C.K) ta tb) y Q := by
  refine wE_op (res := fun d e r => SeqAt.shaped d = true ∧ SeqAt.shaped e = true ∧ r = .bool (PyData.eqv d e)) ?_ (wE_mono w fun z y1 h => wE_mono h fun z' y2 ⟨d, e, e1, e2, s1, s2, q⟩ => ⟨_, _, _, e1, e2, ⟨s1, s2, rfl⟩, q⟩)
  rintro M H x y d e r Q _ rx ry ⟨s1, s2, rfl⟩ k
  exact ⟨d, e, rx.dp (canLay_noDict s1), ry.dp (canLay_noDict s2), s1, s2, k _ H (fun _ _ e => e) (.bl _)⟩
theorem wE_neD (w : wE C ta y fun z y1 => wE C tb y1 fun z' y2 => ∃ d e, z = .d d ∧ z' = .d e ∧ SeqAt.shaped d = true ∧ SeqAt.shaped e = true ∧ Q (.d (.bool (!PyData.eqv d e))) y2) : wE C (tOp (rNeD C.K) ta tb) y Q := by
  refine wE_op (res := fun d e r => SeqAt.shaped d = true ∧ SeqAt.shaped e = true ∧ r = .bool (!PyData.eqv d e)) ?_ (wE_mono w fun z y1 h => wE_mono h fun z' y2 ⟨d, e, e1, e2, s1, s2, q⟩ => ⟨_, _, _, e1, e2, ⟨s1, s2, rfl⟩, q⟩)
  rintro M H x y d e r Q _ rx ry ⟨s1, s2, rfl⟩ k
  exact ⟨d, e, rx.dp (canLay_noDict s1), ry.dp (canLay_noDict s2), s1, s2, k _ H (fun _ _ e => e) (.bl _)⟩
theorem wE_isN (w : wE C ta y fun z y1 => wE C tb y1 fun z' y2 => ∃ d, z = .d d ∧ z' = .d .none ∧ Q (.d (.bool (match d with | .none => true | _ => false))) y2) :
    wE C (tOp (fun x y H Q => y = .non ∧ Q (.bl (decide (x = .non))) H) ta tb) y Q := by
  refine wE_op (res := fun d e r => e = .none ∧ r = .bool (match d with | .none => true | _ => false)) ?_ (wE_mono w fun z y1 h => wE_mono h fun z' y2 ⟨d, e1, e2, q⟩ => ⟨_, _, _, e1, e2, ⟨rfl, rfl⟩, q⟩)
  rintro M H x y d e r Q _ rx ry ⟨rfl, rfl⟩ k
  refine ⟨rp_non ry, k _ H (fun _ _ e => e) ?_⟩
  cases rx <;> exact .bl _
theorem wE_notN (w : wE C ta y fun z y1 => wE C tb y1 fun z' y2 => ∃ d, z = .d d ∧ z' = .d .none ∧ Q (.d (.bool (match d with | .none => false | _ => true))) y2) :
    wE C (tOp (fun x y H Q => y = .non ∧ Q (.bl (!decide (x = .non))) H) ta tb) y Q := by
  refine wE_op (res := fun d e r => e = .none ∧ r = .bool (match d with | .none => false | _ => true)) ?_ (wE_mono w fun z y1 h => wE_mono h fun z' y2 ⟨d, e1, e2, q⟩ => ⟨_, _, _, e1, e2, ⟨rfl, rfl⟩, q⟩)
  rintro M H x y d e r Q _ rx ry ⟨rfl, rfl⟩ k
  refine ⟨rp_non ry, k _ H (fun _ _ e => e) ?_⟩
  cases rx <;> exact .bl _
theorem wE_ix (w : wE C ta y fun z y1 => wE C tb y1 fun z' y2 => ∃ d i g, z = .d d ∧ z' = .d (.int i) ∧ dIx d i = some g ∧ Q (.d g) y2) : wE C (tOp (rIx C.K) ta tb) y Q := by
  refine wE_op (res := fun d e r => ∃ i, e = .int i ∧ dIx d i = some r) ?_ (wE_mono w fun z y1 h => wE_mono h fun z' y2 ⟨d, i, g, e1, e2, s, q⟩ => ⟨_, _, _, e1, e2, ⟨i, rfl, s⟩, q⟩)
  rintro M H x y d e r Q _ rx ry ⟨i, rfl, h⟩ k
  have ey := rp_int ry
  cases rx with
  | non => cases h
  | bl b => cases h
  | int b => cases h
  | dic _ _ _ => cases h
  | str z =>
    simp only [dIx] at h
    by_cases hz : z.length ≤ sizeLine
    · rw [if_pos hz] at h
      cases q : atI z.cps.toList i with
      | none => rw [q] at h; cases h
      | some c =>
        rw [q] at h; cases h
        exact .inr (.inr ⟨z, i, c, rfl, ey, hz, q, k _ H (fun _ _ e => e) (.str _)⟩)
    · rw [if_neg hz] at h; cases h
  | lst h1 h2 =>
    obtain ⟨v, e, rv⟩ := atI_rp h2 h
    exact .inl ⟨_, _, i, v, rfl, ey, h1.sq, e, k _ H (fun _ _ e => e) rv⟩
  | tup h1 h2 =>
    obtain ⟨v, e, rv⟩ := atI_rp h2 h
    exact .inr (.inl ⟨_, _, i, v, rfl, ey, h1.sq, e, k _ H (fun _ _ e => e) rv⟩)
end
end Ux

set_option maxRecDepth 100000
set_option maxHeartbeats 4000000
namespace Ux
open PySem PySem.Spec PyProof.Rows L2 Tq
section
variable {C : Ct} {y : S} {ta tb tc te : TE} {t u : TT} {ts : TA} {Q : Z → S → Prop} {R : Bool → S → Prop}
theorem wE_catG (w : wE C ta y fun z y1 => wE C tb y1 fun z' y2 => ∃ xs ys, z = .d (.list xs) ∧ z' = .d (.list ys) ∧ xs.length + ys.length ≤ sizeLine ∧ Q (.d (.list (xs ++ ys))) y2) : wE C (tOp (rCatG C.K) ta tb) y Q := by
  refine wE_op (res := fun d e r => ∃ xs ys, d = .list xs ∧ e = .list ys ∧ xs.length + ys.length ≤ sizeLine ∧ r = .list (xs ++ ys)) ?_ (wE_mono w fun z y1 h => wE_mono h fun z' y2 ⟨xs, ys, e1, e2, c, q⟩ => ⟨_, _, _, e1, e2, ⟨xs, ys, rfl, rfl, c, rfl⟩, q⟩)
  rintro M H x y d e r Q fr rx ry ⟨xs, ys, rfl, rfl, c, rfl⟩ k
  obtain ⟨a, us, rfl, h1, h2⟩ := rp_lst rx
  obtain ⟨b, vs, rfl, h3, h4⟩ := rp_lst ry
  refine ⟨a, b, us, vs, rfl, rfl, h1.sq, h3.sq, by rw [h2.len, h4.len]; exact c, fun p hp => k _ _ (grow_upd hp) ?_⟩
  have g : GoH M H M (upd H p (.lst (us ++ vs))) := fun a o n e => ⟨n, grow_upd hp a o e⟩
  exact .lst (.inl ⟨fr p hp, .inl upd_same⟩) ((h2.go g).app (h4.go g))
theorem wE_fdivZ (w : wE C ta y fun z y1 => wE C tb y1 fun z' y2 => ∃ i j, z = .d (.int i) ∧ z' = .d (.int j) ∧ CDivZ i j ∧ Q (.d (.int (i.fdiv j))) y2) : wE C (tOp (rI CDivZ fun i j => .int (i.fdiv j)) ta tb) y Q := wE_I _ (fun _ _ => .int _) w
theorem wE_modN (w : wE C ta y fun z y1 => wE C tb y1 fun z' y2 => ∃ i j, z = .d (.int i) ∧ z' = .d (.int j) ∧ j ≠ 0 ∧ Q (.d (.int (i.fmod j))) y2) : wE C (tOp (rI (fun _ j => j ≠ 0) fun i j => .int (i.fmod j)) ta tb) y Q := wE_I _ (fun _ _ => .int _) w
theorem wE_andV (w : wE C ta y fun z y1 => ∃ b, z = .d (.bool b) ∧ if b = true then wE C tb y1 Q else Q (.d (.bool false)) y1) : wE C (tAndV ta tb) y Q := by
  intro F σ H K wd k
  refine w F σ H _ wd fun x H1 z y1 w1 g1 s1 r1 q1 => ?_
  obtain ⟨b, rfl, q⟩ := q1
  refine ⟨b, rp_bl r1, ?_⟩
  cases b with
  | true => exact q F σ H1 _ w1 fun v H2 z y2 w2 g2 s2 r2 q2 => k v H2 z y2 w2 (g1.trans g2) (s1.trans s2) r2 q2
  | false => exact k _ H1 (.d (.bool false)) y1 w1 g1 s1 (.bl _) q
theorem wE_orV (w : wE C ta y fun z y1 => ∃ b, z = .d (.bool b) ∧ if b = true then Q (.d (.bool true)) y1 else wE C tb y1 Q) : wE C (tOrV ta tb) y Q := by
  intro F σ H K wd k
  refine w F σ H _ wd fun x H1 z y1 w1 g1 s1 r1 q1 => ?_
  obtain ⟨b, rfl, q⟩ := q1
  refine ⟨b, rp_bl r1, ?_⟩
  cases b with
  | true => exact k _ H1 (.d (.bool true)) y1 w1 g1 s1 (.bl _) q
  | false => exact q F σ H1 _ w1 fun v H2 z y2 w2 g2 s2 r2 q2 => k v H2 z y2 w2 (g1.trans g2) (s1.trans s2) r2 q2
theorem wE_notV (w : wE C ta y fun z y1 => ∃ b, z = .d (.bool b) ∧ Q (.d (.bool (!b))) y1) : wE C (tNotV ta) y Q := by
  intro F σ H K wd k
  refine w F σ H _ wd fun x H1 z y1 w1 g1 s1 r1 q1 => ?_
  obtain ⟨b, rfl, q⟩ := q1
  exact ⟨b, rp_bl r1, k _ H1 (.d (.bool !b)) y1 w1 g1 s1 (.bl _) q⟩
theorem wE_if (w : wT C t y fun b y1 => if b = true then wE C ta y1 Q else wE C tb y1 Q) : wE C (tIf t ta tb) y Q := by
  intro F σ H K wd k
  refine w F σ H _ wd fun b H1 y1 w1 g1 s1 q => ?_
  cases b with
  | true => exact q F σ H1 _ w1 fun v H2 z y2 w2 g2 s2 r2 q2 => k v H2 z y2 w2 (g1.trans g2) (s1.trans s2) r2 q2
  | false => exact q F σ H1 _ w1 fun v H2 z y2 w2 g2 s2 r2 q2 => k v H2 z y2 w2 (g1.trans g2) (s1.trans s2) r2 q2
theorem wT_test (w : wE C te y fun z y1 => ∃ b, z = .d (.bool b) ∧ R b y1) : wT C (tTest te) y R := by
  intro F σ H K wd k
  refine w F σ H _ wd fun x H1 z y1 w1 g1 s1 r1 q1 => ?_
  obtain ⟨b, rfl, q⟩ := q1
  exact ⟨b, rp_bl r1, k b H1 y1 w1 g1 s1 q⟩
theorem wT_B (w : wE C te y fun z y1 => ∃ b, z = .d (.bool b) ∧ R b y1) : wT C (tB te) y R := wT_test w
theorem wT_and (w : wT C t y fun b y1 => if b = true then wT C u y1 R else R false y1) : wT C (tAnd t u) y R := by
  intro F σ H K wd k
  refine w F σ H _ wd fun b H1 y1 w1 g1 s1 q => ?_
  cases b with
  | true => exact q F σ H1 _ w1 fun v H2 y2 w2 g2 s2 q2 => k v H2 y2 w2 (g1.trans g2) (s1.trans s2) q2
  | false => exact k false H1 y1 w1 g1 s1 q
theorem wT_or (w : wT C t y fun b y1 => if b = true then R true y1 else wT C u y1 R) : wT C (tOr t u) y R := by
  intro F σ H K wd k
  refine w F σ H _ wd fun b H1 y1 w1 g1 s1 q => ?_
  cases b with
  | true => exact k true H1 y1 w1 g1 s1 q
  | false => exact q F σ H1 _ w1 fun v H2 y2 w2 g2 s2 q2 => k v H2 y2 w2 (g1.trans g2) (s1.trans s2) q2
theorem wT_not (w : wT C t y fun b y1 => R (!b) y1) : wT C (tNot t) y R := by
  intro F σ H K wd k
  exact w F σ H _ wd fun b H1 y1 w1 g1 s1 q => k (!b) H1 y1 w1 g1 s1 q
theorem wT_yes (q : R true y) : wT C tYes y R := fun F σ H K wd k => k true H y wd GoH.refl (Sh.refl y) q
theorem wT_mono {R' : Bool → S → Prop} (h : wT C t y R) (q : ∀ z y', R z y' → R' z y') : wT C t y R' := fun F σ H K w k => h F σ H K w fun z H' y' a b c e => k z H' y' a b c (q z y' e)
theorem wE_chain {r r' : R2} {res res' : D → D → D → Prop} (h : OpD C.K r res) (h' : OpD C.K r' res')
    (w : wE C ta y fun z1 y1 => wE C tb y1 fun z2 y2 => ∃ d1 d2 b, z1 = .d d1 ∧ z2 = .d d2 ∧ res d1 d2 (.bool b) ∧ if b = true then wE C tc y2 fun z3 y3 => ∃ d3 g, z3 = .d d3 ∧ res' d2 d3 g ∧ Q (.d g) y3 else Q (.d (.bool false)) y2) :
    wE C (tChain r r' ta tb tc) y Q := by
  intro F σ H K wd k
  refine w F σ H _ wd fun x H1 z y1 w1 g1 s1 r1 q1 => ?_
  refine q1 F σ H1 _ w1 fun x2 H2 z' y2 w2 g2 s2 r2 q2 => ?_
  obtain ⟨d1, d2, b, rfl, rfl, hres, hq⟩ := q2
  refine h (Mv F σ y2) H2 x x2 d1 d2 (.bool b) _ (fun a => w2.new) (Rp.go g2 r1) r2 hres fun v H3 gr rv => ?_
  have w3 := w2.grow gr
  have g3 := (g1.trans g2).trans (go_grow (F := F) (σ := σ) (y := y2) gr)
  refine ⟨b, rp_bl rv, ?_⟩
  cases b with
  | false => exact k _ H3 (.d (.bool false)) y2 w3 g3 (s1.trans s2) (.bl _) hq
  | true =>
    refine hq F σ H3 _ w3 fun x4 H4 z4 y4 w4 g4 s4 r4 q4 => ?_
    obtain ⟨d3, g, rfl, hres', hq'⟩ := q4
    refine h' (Mv F σ y4) H4 x2 x4 d2 d3 g _ (fun a => w4.new) (Rp.go g4 (Rp.go (go_grow (F := F) (σ := σ) (y := y2) gr) r2)) r4 hres' fun v5 H5 gr5 rv5 => ?_
    exact k v5 H5 (.d g) y4 (w4.grow gr5) ((g3.trans g4).trans (go_grow gr5)) ((s1.trans s2).trans s4) rv5 hq'
theorem wE_chainI {p p' : Int → Int → Bool} (w : wE C ta y fun z1 y1 => wE C tb y1 fun z2 y2 => ∃ i j, z1 = .d (.int i) ∧ z2 = .d (.int j) ∧ if p i j = true then wE C tc y2 fun z3 y3 => ∃ m, z3 = .d (.int m) ∧ Q (.d (.bool (p' j m))) y3 else Q (.d (.bool false)) y2) :
    wE C (tChain (rI0 fun i j => .bl (p i j)) (rI0 fun i j => .bl (p' i j)) ta tb tc) y Q := by
  refine wE_chain (opD_I0 (gd := fun i j => .bool (p i j)) fun _ _ => .bl _) (opD_I0 (gd := fun i j => .bool (p' i j)) fun _ _ => .bl _) (wE_mono w fun z1 y1 h => wE_mono h fun z2 y2 ⟨i, j, e1, e2, q⟩ => ⟨_, _, p i j, e1, e2, ⟨i, j, rfl, rfl, rfl⟩, ?_⟩)
  cases hb : p i j with
  | true =>
    rw [hb] at q
    exact wE_mono (show wE C tc y2 _ from q) fun z3 y3 ⟨m, e3, q3⟩ => ⟨_, _, e3, ⟨j, m, rfl, rfl, rfl⟩, q3⟩
  | false => rw [hb] at q; exact q
theorem wE_chainS {p p' : Str → Str → Bool} (w : wE C ta y fun z1 y1 => wE C tb y1 fun z2 y2 => ∃ i j, z1 = .d (.str i) ∧ z2 = .d (.str j) ∧ if p i j = true then wE C tc y2 fun z3 y3 => ∃ m, z3 = .d (.str m) ∧ Q (.d (.bool (p' j m))) y3 else Q (.d (.bool false)) y2) :
    wE C (tChain (fun x y H Q => ∃ i j, x = .str i ∧ y = .str j ∧ Q (.bl (p i j)) H) (fun x y H Q => ∃ i j, x = .str i ∧ y = .str j ∧ Q (.bl (p' i j)) H) ta tb tc) y Q := by
  refine wE_chain (opD_S0 (gd := fun i j => .bool (p i j)) fun _ _ => .bl _) (opD_S0 (gd := fun i j => .bool (p' i j)) fun _ _ => .bl _) (wE_mono w fun z1 y1 h => wE_mono h fun z2 y2 ⟨i, j, e1, e2, q⟩ => ⟨_, _, p i j, e1, e2, ⟨i, j, rfl, rfl, rfl⟩, ?_⟩)
  cases hb : p i j with
  | true =>
    rw [hb] at q
    exact wE_mono (show wE C tc y2 _ from q) fun z3 y3 ⟨m, e3, q3⟩ => ⟨_, _, e3, ⟨j, m, rfl, rfl, rfl⟩, q3⟩
  | false => rw [hb] at q; exact q
def wD (C : Ct) (ta : TA) (y : S) (Q : List D → S → Prop) : Prop := ∀ (F : Fr) σ H (K : List V → Hp → Prop), Wd C F σ y H → (∀ vs H' ds y', Wd C F σ y' H' → Go F σ y H σ y' H' → Sh y y' → RpA C.K (Mv F σ y') H' vs ds → Q ds y' → K vs H') → ta σ H K
variable {q : List D → S → Prop}
theorem wD_nil (h : q [] y) : wD C tNil y q := fun F σ H K wd k => k [] H [] y wd GoH.refl (Sh.refl y) .nil h
theorem wD_cons (w : wE C ta y fun z y1 => ∃ d, z = .d d ∧ wD C ts y1 fun ds y2 => q (d :: ds) y2) : wD C (tCons ta ts) y q := by
  intro F σ H K wd k
  refine w F σ H _ wd fun x H1 z y1 w1 g1 s1 r1 q1 => ?_
  obtain ⟨d, rfl, h⟩ := q1
  exact h F σ H1 _ w1 fun vs H2 ds y2 w2 g2 s2 r2 q2 => k (x :: vs) H2 (d :: ds) y2 w2 (g1.trans g2) (s1.trans s2) (.cons (Rp.go g2 r1) r2) q2
theorem wD_mono {q' : List D → S → Prop} (h : wD C ts y q) (e : ∀ z y', q z y' → q' z y') : wD C ts y q' := fun F σ H K w k => h F σ H K w fun vs H' z y' a b c d f => k vs H' z y' a b c d (e z y' f)
theorem wE_tup (w : wD C ts y fun ds y1 => ds.length ≤ sizeLine ∧ Q (.d (.tuple ds)) y1) : wE C (tTup ts) y Q := by
  intro F σ H K wd k
  refine w F σ H _ wd fun vs H1 ds y1 w1 g1 s1 r1 ⟨hz, q1⟩ => ⟨by rw [r1.len]; exact hz, fun p hp => ?_⟩
  have gr := grow_upd (o := .tup vs) hp
  exact k _ _ (.d (.tuple ds)) y1 (w1.grow gr) (g1.trans (go_grow gr)) s1 (.tup (.inl ⟨w1.new hp, .inl upd_same⟩) (r1.go (go_grow gr))) q1
theorem wE_lst (w : wD C ts y fun ds y1 => ds.length ≤ sizeLine ∧ Q (.d (.list ds)) y1) : wE C (tLst ts) y Q := by
  intro F σ H K wd k
  refine w F σ H _ wd fun vs H1 ds y1 w1 g1 s1 r1 ⟨hz, q1⟩ => ⟨by rw [r1.len]; exact hz, fun p hp => ?_⟩
  have gr := grow_upd (o := .lst vs) hp
  exact k _ _ (.d (.list ds)) y1 (w1.grow gr) (g1.trans (go_grow gr)) s1 (.lst (.inl ⟨w1.new hp, .inl upd_same⟩) (r1.go (go_grow gr))) q1
theorem wE_dnew (h : Q (.d (.dict [])) y) : wE C tDNewK y Q := by
  intro F σ H K wd k p hp
  have gr := grow_upd (o := .dK []) hp
  exact k _ _ (.d (.dict [])) y (wd.grow gr) (go_grow gr) (Sh.refl y) (.dic (wd.new hp) upd_same .nil) h
theorem wE_disp1 {kk : Key} {v : V} {d : D} (s : Sc v d) (h : Q (.d (.dict [(kD kk, d)])) y) : wE C (tDisp [(tC (kV kk), tC v)]) y Q := by
  intro F σ H K wd k p hp
  refine ⟨upd_same, [(kk, v)], rfl, by simp, ?_⟩
  have gr : ∀ a u, H a = some u → upd (upd H p (.dK [])) p (.dK (mergeK [] [(kk, v)])) a = some u := fun a u e => by rw [upd_upd]; exact grow_upd hp a u e
  refine k _ _ (.d (.dict [(kD kk, d)])) y (wd.grow gr) (go_grow gr) (Sh.refl y) (.dic (wd.new hp) (kvs := [(kk, v)]) ?_ (.cons s.rp .nil)) h
  rw [upd_same]
  rfl
theorem wE_cb {r : List V → Hp → VK → Prop} {res : List D → D → Prop} (h : CbD C.K r res) (w : wD C ts y fun ds y1 => ∃ g, res ds g ∧ Q (.d g) y1) : wE C (tCB r ts) y Q := by
  intro F σ H K wd k
  refine w F σ H _ wd fun vs H1 ds y1 w1 g1 s1 r1 q1 => ?_
  obtain ⟨g, hres, hq⟩ := q1
  exact h (Mv F σ y1) H1 vs ds g K (fun a => w1.new) r1 hres fun v H2 gr rv => k v H2 (.d g) y1 (w1.grow gr) (g1.trans (go_grow gr)) s1 rv hq
theorem wE_abs (w : wD C ts y fun ds y1 => ∃ i, ds = [.int i] ∧ Q (.d (.int (if i < 0 then -i else i))) y1) : wE C (tCB (fun xs H Q => ∃ i, xs = [.int i] ∧ Q (.int (if i < 0 then -i else i)) H) ts) y Q := by
  refine wE_cb (res := fun ds g => ∃ i, ds = [.int i] ∧ g = .int (if i < 0 then -i else i)) ?_ (wD_mono w fun ds y1 ⟨i, e, q⟩ => ⟨_, ⟨i, e, rfl⟩, q⟩)
  rintro M H xs ds g Q _ r ⟨i, rfl, rfl⟩ k
  obtain ⟨v, rfl, rv⟩ := rpA1 r
  exact ⟨i, by rw [rp_int rv], k _ H (fun _ _ e => e) (.int _)⟩
theorem wE_max2 (w : wD C ts y fun ds y1 => ∃ i j, ds = [.int i, .int j] ∧ Q (.d (.int (if j > i then j else i))) y1) : wE C (tCB (fun xs H Q => ∃ i j, xs = [.int i, .int j] ∧ Q (.int (if j > i then j else i)) H) ts) y Q := by
  refine wE_cb (res := fun ds g => ∃ i j, ds = [.int i, .int j] ∧ g = .int (if j > i then j else i)) ?_ (wD_mono w fun ds y1 ⟨i, j, e, q⟩ => ⟨_, ⟨i, j, e, rfl⟩, q⟩)
  rintro M H xs ds g Q _ r ⟨i, j, rfl, rfl⟩ k
  obtain ⟨v, u, rfl, rv, ru⟩ := rpA2 r
  exact ⟨i, j, by rw [rp_int rv, rp_int ru], k _ H (fun _ _ e => e) (.int _)⟩
theorem wE_min2 (w : wD C ts y fun ds y1 => ∃ i j, ds = [.int i, .int j] ∧ Q (.d (.int (if j < i then j else i))) y1) : wE C (tCB (fun xs H Q => ∃ i j, xs = [.int i, .int j] ∧ Q (.int (if j < i then j else i)) H) ts) y Q := by
  refine wE_cb (res := fun ds g => ∃ i j, ds = [.int i, .int j] ∧ g = .int (if j < i then j else i)) ?_ (wD_mono w fun ds y1 ⟨i, j, e, q⟩ => ⟨_, ⟨i, j, e, rfl⟩, q⟩)
  rintro M H xs ds g Q _ r ⟨i, j, rfl, rfl⟩ k
  obtain ⟨v, u, rfl, rv, ru⟩ := rpA2 r
  exact ⟨i, j, by rw [rp_int rv, rp_int ru], k _ H (fun _ _ e => e) (.int _)⟩
theorem wE_int1 (w : wD C ts y fun ds y1 => (∃ i, ds = [.int i] ∧ Q (.d (.int i)) y1) ∨ ∃ b, ds = [.bool b] ∧ Q (.d (.int (if b then 1 else 0))) y1) :
    wE C (tCB (fun xs H Q => (∃ i, xs = [.int i] ∧ Q (.int i) H) ∨ ∃ k, xs = [.bl k] ∧ Q (.int (if k then 1 else 0)) H) ts) y Q := by
  refine wE_cb (res := fun ds g => (∃ i, ds = [.int i] ∧ g = .int i) ∨ ∃ b, ds = [.bool b] ∧ g = .int (if b then 1 else 0)) ?_ (wD_mono w fun ds y1 h => ?_)
  · rintro M H xs ds g Q _ r (⟨i, rfl, rfl⟩ | ⟨b, rfl, rfl⟩) k
    · obtain ⟨v, rfl, rv⟩ := rpA1 r
      exact .inl ⟨i, by rw [rp_int rv], k _ H (fun _ _ e => e) (.int _)⟩
    · obtain ⟨v, rfl, rv⟩ := rpA1 r
      exact .inr ⟨b, by rw [rp_bl rv], k _ H (fun _ _ e => e) (.int _)⟩
  · rcases h with ⟨i, e, q⟩ | ⟨b, e, q⟩
    · exact ⟨_, .inl ⟨i, e, rfl⟩, q⟩
    · exact ⟨_, .inr ⟨b, e, rfl⟩, q⟩
theorem wE_strI (w : wD C ts y fun ds y1 => ∃ i, ds = [.int i] ∧ i.natAbs.log2 < 1920 ∧ Q (.d (.str (toString i))) y1) : wE C (tCB (fun xs H Q => ∃ i, xs = [.int i] ∧ i.natAbs.log2 < 1920 ∧ Q (.str (toString i)) H) ts) y Q := by
  refine wE_cb (res := fun ds g => ∃ i, ds = [.int i] ∧ i.natAbs.log2 < 1920 ∧ g = .str (toString i)) ?_ (wD_mono w fun ds y1 ⟨i, e, c, q⟩ => ⟨_, ⟨i, e, c, rfl⟩, q⟩)
  rintro M H xs ds g Q _ r ⟨i, rfl, c, rfl⟩ k
  obtain ⟨v, rfl, rv⟩ := rpA1 r
  exact ⟨i, by rw [rp_int rv], c, k _ H (fun _ _ e => e) (.str _)⟩
theorem wE_intS (w : wD C ts y fun ds y1 => ∃ a n, ds = [.str a] ∧ PySem.intText? a = some n ∧ a.length ≤ 640 ∧ Q (.d (.int n)) y1) : wE C (tCB (fun xs H Q => ∃ a n, xs = [.str a] ∧ PySem.intText? a = some n ∧ a.length ≤ 640 ∧ Q (.int n) H) ts) y Q := by
  refine wE_cb (res := fun ds g => ∃ a n, ds = [.str a] ∧ PySem.intText? a = some n ∧ a.length ≤ 640 ∧ g = .int n) ?_ (wD_mono w fun ds y1 ⟨i, n, e, c, l, q⟩ => ⟨_, ⟨i, n, e, c, l, rfl⟩, q⟩)
  rintro M H xs ds g Q _ r ⟨i, n, rfl, c, l, rfl⟩ k
  obtain ⟨v, rfl, rv⟩ := rpA1 r
  exact ⟨i, n, by rw [rp_str rv], c, l, k _ H (fun _ _ e => e) (.int _)⟩
theorem wE_len (w : wD C ts y fun ds y1 => ∃ d n, ds = [d] ∧ dLen d = some n ∧ Q (.d (.int n)) y1) : wE C (tCB (fun xs H Q => ∃ x n, xs = [x] ∧ LenV C.K x H n ∧ Q (.int (n : Nat)) H) ts) y Q := by
  refine wE_cb (res := fun ds g => ∃ d n, ds = [d] ∧ dLen d = some n ∧ g = .int n) ?_ (wD_mono w fun ds y1 ⟨d, n, e, c, q⟩ => ⟨_, ⟨d, n, e, c, rfl⟩, q⟩)
  rintro M H xs ds g Q _ r ⟨d, n, rfl, c, rfl⟩ k
  obtain ⟨v, rfl, rv⟩ := rpA1 r
  refine ⟨v, n, rfl, ?_, k _ H (fun _ _ e => e) (.int _)⟩
  cases rv with
  | non => cases c
  | bl _ => cases c
  | int _ => cases c
  | dic _ _ _ => cases c
  | str z =>
    simp only [dLen] at c
    by_cases h : z.length ≤ sizeLine
    · rw [if_pos h] at c; cases c; exact ⟨h, rfl⟩
    · rw [if_neg h] at c; cases c
  | lst h1 h2 => cases c; exact .inl ⟨_, h1.sq, h2.len.symm⟩
  | tup h1 h2 => cases c; exact .inr ⟨_, h1.sq, h2.len.symm⟩
theorem wE_all (w : wD C ts y fun ds y1 => ∃ bs : List Bool, ds = [.list (bs.map PyData.bool)] ∧ Q (.d (.bool (bs.all id))) y1) : wE C (tCB (rAll C.K) ts) y Q := by
  refine wE_cb (res := fun ds g => ∃ bs : List Bool, ds = [.list (bs.map PyData.bool)] ∧ g = .bool (bs.all id)) ?_ (wD_mono w fun ds y1 ⟨i, e, q⟩ => ⟨_, ⟨i, e, rfl⟩, q⟩)
  rintro M H xs ds g Q _ r ⟨bs, rfl, rfl⟩ k
  obtain ⟨v, rfl, rv⟩ := rpA1 r
  obtain ⟨a, us, rfl, h1, h2⟩ := rp_lst rv
  have e := rpA_bls h2
  subst e
  exact ⟨a, bs, rfl, h1.sq, k _ H (fun _ _ e => e) (.bl _)⟩
theorem wE_any (w : wD C ts y fun ds y1 => ∃ bs : List Bool, ds = [.list (bs.map PyData.bool)] ∧ Q (.d (.bool (bs.any id))) y1) : wE C (tCB (rAny C.K) ts) y Q := by
  refine wE_cb (res := fun ds g => ∃ bs : List Bool, ds = [.list (bs.map PyData.bool)] ∧ g = .bool (bs.any id)) ?_ (wD_mono w fun ds y1 ⟨i, e, q⟩ => ⟨_, ⟨i, e, rfl⟩, q⟩)
  rintro M H xs ds g Q _ r ⟨bs, rfl, rfl⟩ k
  obtain ⟨v, rfl, rv⟩ := rpA1 r
  obtain ⟨a, us, rfl, h1, h2⟩ := rp_lst rv
  have e := rpA_bls h2
  subst e
  exact ⟨a, bs, rfl, h1.sq, k _ H (fun _ _ e => e) (.bl _)⟩
theorem wE_sum (w : wD C ts y fun ds y1 => ∃ bs : List Int, ds = [.list (bs.map PyData.int)] ∧ Q (.d (.int bs.sum)) y1) : wE C (tCB (rSum C.K) ts) y Q := by
  refine wE_cb (res := fun ds g => ∃ bs : List Int, ds = [.list (bs.map PyData.int)] ∧ g = .int bs.sum) ?_ (wD_mono w fun ds y1 ⟨i, e, q⟩ => ⟨_, ⟨i, e, rfl⟩, q⟩)
  rintro M H xs ds g Q _ r ⟨bs, rfl, rfl⟩ k
  obtain ⟨v, rfl, rv⟩ := rpA1 r
  obtain ⟨a, us, rfl, h1, h2⟩ := rp_lst rv
  have e := rpA_ints h2
  subst e
  exact ⟨a, bs, rfl, h1.sq, k _ H (fun _ _ e => e) (.int _)⟩
theorem wE_listOf (w : wD C ts y fun ds y1 => ∃ d xs, ds = [d] ∧ dItems d = some xs ∧ Q (.d (.list xs)) y1) :
    wE C (tCB (fun xs H Q => ∃ p ys, xs = [.ref p] ∧ (SqL C.K H p ys ∨ SqT C.K H p ys) ∧ ∀ l, H l = none → Q (.ref l) (upd H l (.lst ys))) ts) y Q := by
  refine wE_cb (res := fun ds g => ∃ d xs, ds = [d] ∧ dItems d = some xs ∧ g = .list xs) ?_ (wD_mono w fun ds y1 ⟨i, xs, e, c, q⟩ => ⟨_, ⟨i, xs, e, c, rfl⟩, q⟩)
  rintro M H xs ds g Q fr r ⟨d, es, rfl, c, rfl⟩ k
  obtain ⟨v, rfl, rv⟩ := rpA1 r
  obtain ⟨a, us, rfl, h1, h2⟩ := rp_items rv c
  refine ⟨a, us, rfl, h1.elim (fun z => .inl z.sq) (fun z => .inr z.sq), fun p hp => k _ _ (grow_upd hp) (.lst (.inl ⟨fr p hp, .inl upd_same⟩) (h2.go fun a o n e => ⟨n, grow_upd hp a o e⟩))⟩
theorem wE_tupOf (w : wD C ts y fun ds y1 => ∃ d xs, ds = [d] ∧ dItems d = some xs ∧ Q (.d (.tuple xs)) y1) :
    wE C (tCB (fun xs H Q => ∃ p ys, xs = [.ref p] ∧ ((SqL C.K H p ys ∧ ∀ l, H l = none → Q (.ref l) (upd H l (.tup ys))) ∨ (SqT C.K H p ys ∧ Q (.ref p) H))) ts) y Q := by
  refine wE_cb (res := fun ds g => ∃ d xs, ds = [d] ∧ dItems d = some xs ∧ g = .tuple xs) ?_ (wD_mono w fun ds y1 ⟨i, xs, e, c, q⟩ => ⟨_, ⟨i, xs, e, c, rfl⟩, q⟩)
  rintro M H xs ds g Q fr r ⟨d, es, rfl, c, rfl⟩ k
  obtain ⟨v, rfl, rv⟩ := rpA1 r
  obtain ⟨a, us, rfl, h1, h2⟩ := rp_items rv c
  refine ⟨a, us, rfl, ?_⟩
  rcases h1 with h1 | h1
  · exact .inl ⟨h1.sq, fun p hp => k _ _ (grow_upd hp) (.tup (.inl ⟨fr p hp, .inl upd_same⟩) (h2.go fun a o n e => ⟨n, grow_upd hp a o e⟩))⟩
  · exact .inr ⟨h1.sq, k _ H (fun _ _ e => e) (.tup h1 h2)⟩
theorem wE_repr (w : wD C ts y fun ds y1 => ∃ d, ds = [d] ∧ dsm d = true ∧ d.showable = true ∧ d.depth ≤ 60 ∧ d.shown.length ≤ sizeLine ∧ Q (.d (.str d.shown)) y1) : wE C (tCB (rRepr C.K) ts) y Q := by
  refine wE_cb (res := fun ds g => ∃ d, ds = [d] ∧ dsm d = true ∧ d.showable = true ∧ d.depth ≤ 60 ∧ d.shown.length ≤ sizeLine ∧ g = .str d.shown) ?_ (wD_mono w fun ds y1 ⟨d, e, c1, c2, c3, c4, q⟩ => ⟨_, ⟨d, e, c1, c2, c3, c4, rfl⟩, q⟩)
  rintro M H xs ds g Q _ r ⟨d, rfl, c1, c2, c3, c4, rfl⟩ k
  obtain ⟨v, rfl, rv⟩ := rpA1 r
  exact ⟨v, d, rfl, rv.any, c1, c2, c3, c4, k _ H (fun _ _ e => e) (.str _)⟩
theorem wE_isi {T : String} (w : wE C te y fun z y1 => ∃ d, z = .d d ∧ Q (.d (.bool (isT T d))) y1) (hT : (tyNames.all fun n => (kitB n T).isSome) = true := by decide +kernel) : wE C (tCB (rIsi C.K) (tCons te (tCons (tC (.ty T)) tNil))) y Q := by
  intro F σ H K wd k
  refine w F σ H _ wd fun x H1 z y1 w1 g1 s1 r1 q1 => ?_
  obtain ⟨d, rfl, h⟩ := q1
  exact ⟨x, .ty T, _, _, isT T d, rfl, .ty T, rp_ty r1, kit_ty (kit_isT hT d), k _ H1 (.d (.bool (isT T d))) y1 w1 g1 s1 (.bl _) h⟩
theorem wE_isi2 {T U : String} (w : wE C te y fun z y1 => ∃ d, z = .d d ∧ Q (.d (.bool (isT T d || isT U d))) y1) (hT : (tyNames.all fun n => (kitB n T).isSome) = true := by decide +kernel) (hU : (tyNames.all fun n => (kitB n U).isSome) = true := by decide +kernel) :
    wE C (tCB (rIsiT C.K) (tCons te (tCons (tTup (tCons (tC (.ty T)) (tCons (tC (.ty U)) tNil))) tNil))) y Q := by
  intro F σ H K wd k
  refine w F σ H _ wd fun x H1 z y1 w1 g1 s1 r1 q1 => ?_
  obtain ⟨d, rfl, h⟩ := q1
  refine ⟨by show 2 ≤ sizeLine; decide, fun p hp => ?_⟩
  have gr := grow_upd (o := .tup [.ty T, .ty U]) hp
  refine ⟨x, p, [.ty T, .ty U], _, [.type T, .type U], isT T d || isT U d, rfl, upd_same, .cons (.ty T) (.cons (.ty U) .nil), rp_ty (Rp.go (go_grow (F := F) (σ := σ) (y := y1) gr) r1), ?_, k _ _ (.d (.bool (isT T d || isT U d))) y1 (w1.grow gr) (g1.trans (go_grow gr)) s1 (.bl _) h⟩
  refine kitAny_cons (b := isT T d) (kit_ty (kit_isT hT d)) (fun e => ?_) (fun e => by rw [e]; rfl)
  refine kitAny_cons (b := isT U d) (kit_ty (kit_isT hU d)) (fun e2 => ?_) (fun e2 => by rw [e, e2]; rfl)
  rw [e, e2]
  rfl
variable {tl th : TO}
theorem wO_no {q : Option Int → S → Prop} (h : q none y) : wO C tNoPart y q := fun F σ H K wd k => k none H y wd GoH.refl (Sh.refl y) h
theorem wO_part {q : Option Int → S → Prop} (w : wE C te y fun z y1 => ∃ i, z = .d (.int i) ∧ q (some i) y1) : wO C (tPart te) y q := by
  intro F σ H K wd k
  refine w F σ H _ wd fun x H1 z y1 w1 g1 s1 r1 q1 => ?_
  obtain ⟨i, rfl, h⟩ := q1
  exact ⟨i, rp_int r1, k (some i) H1 y1 w1 g1 s1 h⟩
theorem wE_sl (w : wE C te y fun z y1 => wO C tl y1 fun l y2 => wO C th y2 fun h y3 => ∃ d g, z = .d d ∧ dCut d l h = some g ∧ Q (.d g) y3) : wE C (tSl (rSlD C.K) te tl th) y Q := by
  intro F σ H K wd k
  refine w F σ H _ wd fun x H1 z y1 w1 g1 s1 r1 q1 => ?_
  refine q1 F σ H1 _ w1 fun l H2 y2 w2 g2 s2 q2 => ?_
  refine q2 F σ H2 _ w2 fun h H3 y3 w3 g3 s3 q3 => ?_
  obtain ⟨d, g, rfl, c, hq⟩ := q3
  have r3 : Rp C.K (Mv F σ y3) H3 x d := Rp.go (g2.trans g3) r1
  have G := (g1.trans g2).trans g3
  have SS := (s1.trans s2).trans s3
  cases r3 with
  | non => cases c
  | bl _ => cases c
  | int _ => cases c
  | dic _ _ _ => cases c
  | str z =>
    simp only [dCut] at c
    by_cases hz : z.length ≤ sizeLine
    · rw [if_pos hz] at c; cases c
      exact .inr (.inr ⟨z, rfl, hz, k _ H3 (.d (.str (cutS z l h))) y3 w3 G SS (.str _) hq⟩)
    · rw [if_neg hz] at c; cases c
  | @lst a xs ds h1 h2 =>
    cases c
    refine .inl ⟨a, xs, rfl, h1.sq, fun p hp => ?_⟩
    have gr := grow_upd (o := .lst (cutV xs l h)) hp
    exact k _ _ (.d (.list (cutD ds l h))) y3 (w3.grow gr) (G.trans (go_grow gr)) SS (.lst (.inl ⟨w3.new hp, .inl upd_same⟩) ((rpA_cut h2 l h).go (go_grow gr))) hq
  | @tup a xs ds h1 h2 =>
    cases c
    refine .inr (.inl ⟨a, xs, rfl, h1.sq, fun e => ?_, fun e p hp => ?_⟩)
    · rw [h2.len] at e
      rw [cutD_whole ds l h e] at hq
      exact k _ H3 (.d (.tuple ds)) y3 w3 G SS (.tup h1 h2) hq
    · have gr := grow_upd (o := .tup (cutV xs l h)) hp
      exact k _ _ (.d (.tuple (cutD ds l h))) y3 (w3.grow gr) (G.trans (go_grow gr)) SS (.tup (.inl ⟨w3.new hp, .inl upd_same⟩) ((rpA_cut h2 l h).go (go_grow gr))) hq
theorem wE_starts (w : wE C ta y fun z y1 => ∃ a, z = .d (.str a) ∧ wE C tb y1 fun z' y2 => ∃ b, z' = .d (.str b) ∧ Q (.d (.bool (Txt.startswith a b))) y2) :
    wE C (tM1 (fun x xs H Q => ∃ a b, x = .str a ∧ xs = [.str b] ∧ Q (.bl (Txt.startswith a b)) H) ta tb) y Q := by
  intro F σ H K wd k
  refine w F σ H _ wd fun x H1 z y1 w1 g1 s1 r1 q1 => ?_
  obtain ⟨a, rfl, q1⟩ := q1
  have e := rp_str r1
  subst e
  refine ⟨⟨a, rfl⟩, q1 F σ H1 _ w1 fun x2 H2 z' y2 w2 g2 s2 r2 q2 => ?_⟩
  obtain ⟨b, rfl, hq⟩ := q2
  exact ⟨a, b, rfl, by rw [rp_str r2], k _ H2 (.d (.bool _)) y2 w2 (g1.trans g2) (s1.trans s2) (.bl _) hq⟩
theorem wE_join (w : wE C ta y fun z y1 => ∃ a, z = .d (.str a) ∧ wE C tb y1 fun z' y2 => ∃ (d : D) (ys : List Str), z' = .d d ∧ dItems d = some (ys.map PyData.str) ∧ (ys.map (·.length)).sum + ys.length * a.length ≤ 16777216 ∧ Q (.d (.str (Txt.join a ys))) y2) :
    wE C (tM1 (fun x xs H Q => ∃ a p, ∃ ys : List Str, x = .str a ∧ xs = [.ref p] ∧ (SqL C.K H p (ys.map V.str) ∨ SqT C.K H p (ys.map V.str)) ∧ (ys.map (·.length)).sum + ys.length * a.length ≤ 16777216 ∧ Q (.str (Txt.join a ys)) H) ta tb) y Q := by
  intro F σ H K wd k
  refine w F σ H _ wd fun x H1 z y1 w1 g1 s1 r1 q1 => ?_
  obtain ⟨a, rfl, q1⟩ := q1
  have e := rp_str r1
  subst e
  refine ⟨⟨a, rfl⟩, q1 F σ H1 _ w1 fun x2 H2 z' y2 w2 g2 s2 r2 q2 => ?_⟩
  obtain ⟨d, ys, rfl, hi, hz, hq⟩ := q2
  obtain ⟨p, us, rfl, h1, h2⟩ := rp_items r2 hi
  have e := rpA_strs h2
  subst e
  exact ⟨a, p, ys, rfl, rfl, h1.elim (fun z => .inl z.sq) (fun z => .inr z.sq), hz, k _ H2 (.d (.str _)) y2 w2 (g1.trans g2) (s1.trans s2) (.str _) hq⟩
end
end Ux

set_option maxRecDepth 100000
set_option maxHeartbeats 4000000
namespace Ux
open PySem PySem.Spec PyProof.Rows L2 Tq
section
variable {C : Ct} {y : S} {ta tb tc te : TE} {t u : TT} {tx tz : TS} {ts : TA} {e : En} {Q : Z → S → Prop} {q : List Z → S → Prop}
/-! arguments of any kind -/
def wZ (C : Ct) (ta : TA) (y : S) (Q : List Z → S → Prop) : Prop := ∀ (F : Fr) σ H (K : List V → Hp → Prop), Wd C F σ y H → (∀ vs H' zs y', Wd C F σ y' H' → Go F σ y H σ y' H' → Sh y y' → RwA C.K (Mv F σ y') H' vs zs → Q zs y' → K vs H') → ta σ H K
theorem wZ_nil (h : q [] y) : wZ C tNil y q := fun F σ H K wd k => k [] H [] y wd GoH.refl (Sh.refl y) .nil h
theorem wZ_cons (w : wE C ta y fun z y1 => wZ C ts y1 fun zs y2 => q (z :: zs) y2) : wZ C (tCons ta ts) y q := by
  intro F σ H K wd k
  refine w F σ H _ wd fun x H1 z y1 w1 g1 s1 r1 h => ?_
  exact h F σ H1 _ w1 fun vs H2 ds y2 w2 g2 s2 r2 q2 => k (x :: vs) H2 (z :: ds) y2 w2 (g1.trans g2) (s1.trans s2) (.cons (r1.w.go g2) r2) q2
theorem wZ_mono {q' : List Z → S → Prop} (h : wZ C ts y q) (e : ∀ z y', q z y' → q' z y') : wZ C ts y q' := fun F σ H K w k => h F σ H K w fun vs H' z y' a b c d f => k vs H' z y' a b c d (e z y' f)
theorem wE_tupZ (w : wZ C ts y fun zs y1 => zs.length ≤ sizeLine ∧ Q (.tup zs) y1) : wE C (tTup ts) y Q := by
  intro F σ H K wd k
  refine w F σ H _ wd fun vs H1 zs y1 w1 g1 s1 r1 ⟨hz, q1⟩ => ⟨by rw [r1.len]; exact hz, fun p hp => ?_⟩
  have gr := grow_upd (o := .tup vs) hp
  exact k _ _ (.tup zs) y1 (w1.grow gr) (g1.trans (go_grow gr)) s1 (.tup (.inl ⟨w1.new hp, .inl upd_same⟩) (r1.go (go_grow (F := F) (σ := σ) (y := y1) gr))) q1
theorem wE_lstZ (w : wZ C ts y fun zs y1 => zs.length ≤ sizeLine ∧ Q (.lst zs) y1) : wE C (tLst ts) y Q := by
  intro F σ H K wd k
  refine w F σ H _ wd fun vs H1 zs y1 w1 g1 s1 r1 ⟨hz, q1⟩ => ⟨by rw [r1.len]; exact hz, fun p hp => ?_⟩
  have gr := grow_upd (o := .lst vs) hp
  exact k _ _ (.lst zs) y1 (w1.grow gr) (g1.trans (go_grow gr)) s1 (.lst (.inl ⟨w1.new hp, .inl upd_same⟩) (r1.go (go_grow (F := F) (σ := σ) (y := y1) gr))) q1
/-! storing -/
theorem wS_asg {i : Nat} (w : wE C te y fun z y1 => e.nx (y1.set i (some z))) : wS C (tAsg te (gName i)) y e := by
  intro F σ H E st wd k
  exact w F σ H _ wd fun v H1 z y1 w1 g1 s1 r1 q => k.nx _ H1 _ (w1.set_z r1) (g1.trans go_set) q
theorem wS_par {i j : Nat} (w : wZ C ts y fun zs y1 => ∃ z u, zs = [z, u] ∧ e.nx ((y1.set i (some z)).set j (some u))) : wS C (tPar i j ts) y e := by
  intro F σ H E st wd k
  refine w F σ H _ wd fun vs H1 zs y1 w1 g1 s1 r1 q => ?_
  obtain ⟨z, u, rfl, q⟩ := q
  cases r1 with | @cons v _ vs _ rv r2 =>
  cases r2 with | @cons v2 _ vs2 _ ru r3 =>
  cases r3
  refine ⟨v, v2, rfl, k.nx _ H1 _ ((w1.set_z rv.z).set_z (Rz.go (σ := σ) go_set ru.z).w.z) ((g1.trans (go_set (σ' := σ))).trans go_set) q⟩
theorem wS_aug {i : Nat} {f : Int → Int → Int} {a : Int} (hx : y.l[i]? = some (some (.d (.int a)))) (w : wE C te y fun z y1 => ∃ b, z = .d (.int b) ∧ e.nx (y1.set i (some (.d (.int (f a b)))))) : wS C (tAug i te (ipI f)) y e := by
  intro F σ H E st wd k
  obtain ⟨x, h1, h2⟩ := wd.slot i _ hx
  cases h2 with | d h2 =>
  refine ⟨x, h1, w F σ H _ wd fun v H1 z y1 w1 g1 s1 r1 q => ?_⟩
  obtain ⟨b, rfl, q⟩ := q
  exact ⟨a, b, rp_int h2, rp_int r1, k.nx _ H1 _ (w1.set_z (z := .d (.int (f a b))) (.int _)) (g1.trans go_set) q⟩
/-! targets -/
def wG (C : Ct) (g : TG) (z : Z) (y : S) (Q : S → Prop) : Prop := ∀ (F : Fr) σ H (v : V) (R : St → Hp → Prop), Wd C F σ y H → Rz C F σ y H v z → (∀ σ' y', Wd C F σ' y' H → Go F σ y H σ' y' H → Q y' → R σ' H) → g v σ H R
variable {g : TG} {Qg : S → Prop}
theorem wG_name {i : Nat} {z : Z} (h : Qg (y.set i (some z))) : wG C (gName i) z y Qg := fun F σ H v R wd r k => k _ _ (wd.set_z r) go_set h
def wGs (C : Ct) (g : TGs) (zs : List Z) (y : S) (Q : S → Prop) : Prop := ∀ (F : Fr) σ H (vs : List V) (R : St → Hp → Prop), Wd C F σ y H → RwA C.K (Mv F σ y) H vs zs → (∀ σ' y', Wd C F σ' y' H → Go F σ y H σ' y' H → Q y' → R σ' H) → g vs σ H R
theorem wGs_nil (h : Qg y) : wGs C gNil [] y Qg := fun F σ H vs R wd r k => by
  cases r
  exact ⟨rfl, k σ y wd GoH.refl h⟩
theorem wGs_cons {gs : TGs} {z : Z} {zs : List Z} (h : wG C g z y fun y1 => wGs C gs zs y1 Qg) : wGs C (gCons g gs) (z :: zs) y Qg := fun F σ H vs R wd r k => by
  cases r with
  | @cons v _ vs _ r1 r2 =>
    refine ⟨v, vs, rfl, h F σ H v _ wd r1.z fun σ1 y1 w1 g1 q1 => ?_⟩
    exact q1 F σ1 H vs R w1 (r2.go g1) fun σ2 y2 w2 g2 q2 => k σ2 y2 w2 (g1.trans g2) q2
theorem wG_tup {n : Nat} {gs : TGs} {ds : List D} (hn : ds.length = n) (h : wGs C gs (ds.map Z.d) y Qg) : wG C (gTup C.K n gs) (.d (.tuple ds)) y Qg := fun F σ H v R wd r k => by
  obtain ⟨a, us, rfl, h1, h2⟩ := rp_tup r
  exact ⟨a, us, rfl, h1.sq, by rw [h2.len]; exact hn, h F σ H us R wd (RwA.of h2) k⟩
theorem wG_tupZ {n : Nat} {gs : TGs} {zs : List Z} (hn : zs.length = n) (h : wGs C gs zs y Qg) : wG C (gTup C.K n gs) (.tup zs) y Qg := fun F σ H v R wd r k => by
  cases r.w with
  | tup h1 h2 => exact ⟨_, _, rfl, h1.sq, by rw [h2.len]; exact hn, h F σ H _ R wd h2 k⟩
theorem wS_asgG (w : wE C te y fun z y1 => wG C g z y1 e.nx) : wS C (tAsg te g) y e := by
  intro F σ H E st wd k
  exact w F σ H _ wd fun v H1 z y1 w1 g1 s1 r1 q => q F σ H1 v _ w1 r1 fun σ2 y2 w2 g2 q2 => k.nx σ2 H1 y2 w2 (g1.trans g2) q2
end
section
variable {C : Ct} {y : S} {ta tb tc te : TE} {t u : TT} {tx tz : TS} {ts : TA} {e : En} {R : Bool → S → Prop}
theorem EnOk.go {σ σ' : St} {y' : S} {H H' : Hp} {E : Ends} (k : EnOk C F σ y H e E) (g : Go F σ y H σ' y' H') : EnOk C F σ' y' H' e E :=
  ⟨fun a b c w g2 q => k.nx a b c w (g.trans g2) q, fun a b c d f w g2 r q => k.rt a b c d f w (g.trans g2) r q, fun a b c w g2 q => k.bk a b c w (g.trans g2) q, fun a b c w g2 q => k.ct a b c w (g.trans g2) q⟩
theorem wS_seq (w : wS C tx y { e with nx := fun y1 => wS C tz y1 e }) : wS C (tSeq tx tz) y e := by
  intro F σ H E st wd k
  refine w F σ H _ st wd ⟨fun σ1 H1 y1 w1 g1 q => ?_, k.rt, k.bk, k.ct⟩
  exact q F σ1 H1 E st w1 (k.go g1)
theorem wS_next (h : e.nx y) : wS C tNext y e := fun F σ H E st wd k => k.nx σ H y wd GoH.refl h
theorem wS_ret (w : wE C te y fun z y1 => e.rt z y1) : wS C (tRet te) y e := by
  intro F σ H E st wd k
  exact w F σ H _ wd fun v H1 z y1 w1 g1 s1 r1 q => k.rt σ v H1 z y1 w1 g1 r1 q
theorem wS_retN (h : e.rt (.d .none) y) : wS C tRetN y e := fun F σ H E st wd k => k.rt σ .non H (.d .none) y wd GoH.refl .non h
theorem wS_drop (w : wE C te y fun z y1 => e.nx y1) : wS C (tDrop te) y e := by
  intro F σ H E st wd k
  exact w F σ H _ wd fun v H1 z y1 w1 g1 s1 r1 q => k.nx σ H1 y1 w1 g1 q
theorem wS_if (w : wT C t y fun b y1 => if b = true then wS C tx y1 e else wS C tz y1 e) : wS C (tIfS t tx tz) y e := by
  intro F σ H E st wd k
  refine w F σ H _ wd fun b H1 y1 w1 g1 s1 q => ?_
  cases b with
  | true => exact q F σ H1 E st w1 (k.go g1)
  | false => exact q F σ H1 E st w1 (k.go g1)
theorem wS_mono {e' : En} (h : wS C tx y e) (h1 : ∀ y, e.nx y → e'.nx y) (h2 : ∀ z y, e.rt z y → e'.rt z y) (h3 : ∀ y, e.bk y → e'.bk y) (h4 : ∀ y, e.ct y → e'.ct y) : wS C tx y e' := fun F σ H E st wd k =>
  h F σ H E st wd ⟨fun a b c w g q => k.nx a b c w g (h1 _ q), fun a b c d f w g r q => k.rt a b c d f w g r (h2 _ _ q), fun a b c w g q => k.bk a b c w g (h3 _ q), fun a b c w g q => k.ct a b c w g (h4 _ q)⟩
theorem wS_seqA {i : Nat} (w : wE C te y fun z y1 => wS C tz (y1.set i (some z)) e) : wS C (tSeq (tAsg te (gName i)) tz) y e := wS_seq (wS_asg w)
theorem wS_seqP {i j : Nat} (w : wZ C ts y fun zs y1 => ∃ z u, zs = [z, u] ∧ wS C tz ((y1.set i (some z)).set j (some u)) e) : wS C (tSeq (tPar i j ts) tz) y e := wS_seq (wS_par w)
theorem wS_seqI (w : wT C t y fun b y1 => if b = true then wS C tx y1 { nx := fun y2 => wS C tz y2 e, rt := e.rt, bk := e.bk, ct := e.ct } else wS C tz y1 e) : wS C (tSeq (tIfS t tx tNext) tz) y e := by
  refine wS_seq (wS_if (wT_mono w fun b y1 h => ?_))
  cases b with
  | true => exact h
  | false => exact wS_next h
theorem wS_ifN (w : wT C t y fun b y1 => if b = true then wS C tx y1 e else e.nx y1) : wS C (tIfS t tx tNext) y e := by
  refine wS_if (wT_mono w fun b y1 h => ?_)
  cases b with
  | true => exact h
  | false => exact wS_next h
def JOk (C : Ct) (F : Fr) (J : It) (σ : St) (y : S) (H : Hp) (xs : List D) : Prop := ∀ (F1 : Fr) σ1 y1 H1, Wd0 C.K F1 σ1 y1 H1 → GoH (Mv F σ y) H (Mv F1 σ1 y1) H1 → ∀ i : Nat, (i < xs.length → J.go i H1) ∧ (xs.length ≤ i → J.stop i H1) ∧
  ∀ x, xs[i]? = some x → ∀ v H2, J.yld i H1 v H2 → (∀ a o, H1 a = some o → H2 a = some o) ∧ Rp C.K (Mv F1 σ1 y1) H2 v x
def wI (C : Ct) (wi : TI) (y : S) (Q : List D → S → Prop) : Prop := ∀ (F : Fr) σ H (R : It → Hp → Prop), Wd C F σ y H → (∀ J H' xs y', Wd C F σ y' H' → Go F σ y H σ y' H' → Sh y y' → JOk C F J σ y' H' xs → Q xs y' → R J H') → wi σ H R
variable {Qi : List D → S → Prop} {wi : TI}
theorem wI_list (w : wE C te y fun z y1 => ∃ xs, z = .d (.list xs) ∧ Qi xs y1) : wI C (iList C.K te) y Qi := by
  intro F σ H R wd k
  refine w F σ H _ wd fun v H1 z y1 w1 g1 s1 r1 q => ?_
  obtain ⟨xs, rfl, q⟩ := q
  obtain ⟨a, us, rfl, h1, h2⟩ := rp_lst r1
  refine ⟨a, rfl, ⟨us, h1.sq⟩, k _ H1 xs y1 w1 g1 s1 (fun F1 σ2 y2 H2 w2 g2 i => ?_) q⟩
  have e1 := (h1.go g2).sq
  have e2 := h2.go g2
  refine ⟨fun hi => ?_, fun hi => ⟨us, e1, by rw [h2.len]; exact hi⟩, fun x hx v H3 hy => ?_⟩
  · have : i < us.length := by rw [h2.len]; exact hi
    exact ⟨us, us[i], e1, by simp [this]⟩
  · obtain ⟨rfl, hv⟩ := hy
    obtain ⟨d, hd, rd⟩ := e2.getV (hv us e1)
    rw [hx] at hd
    cases hd
    exact ⟨fun _ _ e => e, rd⟩
theorem wI_tup (w : wE C te y fun z y1 => ∃ xs, z = .d (.tuple xs) ∧ Qi xs y1) : wI C (iTup C.K te) y Qi := by
  intro F σ H R wd k
  refine w F σ H _ wd fun v H1 z y1 w1 g1 s1 r1 q => ?_
  obtain ⟨xs, rfl, q⟩ := q
  obtain ⟨a, us, rfl, h1, h2⟩ := rp_tup r1
  refine ⟨a, rfl, ⟨us, h1.sq⟩, k _ H1 xs y1 w1 g1 s1 (fun F1 σ2 y2 H2 w2 g2 i => ?_) q⟩
  have e1 := (h1.go g2).sq
  have e2 := h2.go g2
  refine ⟨fun hi => ?_, fun hi => ⟨us, e1, by rw [h2.len]; exact hi⟩, fun x hx v H3 hy => ?_⟩
  · have : i < us.length := by rw [h2.len]; exact hi
    exact ⟨us, us[i], e1, by simp [this]⟩
  · obtain ⟨rfl, hv⟩ := hy
    obtain ⟨d, hd, rd⟩ := e2.getV (hv us e1)
    rw [hx] at hd
    cases hd
    exact ⟨fun _ _ e => e, rd⟩
theorem wI_str (w : wE C te y fun z y1 => ∃ x, z = .d (.str x) ∧ Qi (signs x) y1) : wI C (iStr te) y Qi := by
  intro F σ H R wd k
  refine w F σ H _ wd fun v H1 z y1 w1 g1 s1 r1 q => ?_
  obtain ⟨x, rfl, q⟩ := q
  refine ⟨x, rp_str r1, k _ H1 (signs x) y1 w1 g1 s1 (fun F1 σ2 y2 H2 w2 g2 i => ⟨fun hi => ?_, fun hi => ?_, fun d hd v H3 hy => ?_⟩) q⟩
  · rw [signs_len] at hi; exact hi
  · rw [signs_len] at hi; exact hi
  · obtain ⟨rfl, c, hc, rfl⟩ := hy
    refine ⟨fun _ _ e => e, ?_⟩
    unfold Tq.signs at hd
    rw [List.getElem?_map, Array.getElem?_toList, hc] at hd
    cases hd
    exact .str _
theorem wI_rng1 (w : wD C ts y fun ds y1 => ∃ j : Int, ds = [.int j] ∧ -(2 ^ 62) ≤ j ∧ j < 2 ^ 62 ∧ Qi (rangeD 0 j.toNat) y1) : wI C (iRng1 ts) y Qi := by
  intro F σ H R wd k
  refine w F σ H _ wd fun vs H1 ds y1 w1 g1 s1 r1 q => ?_
  obtain ⟨j, rfl, h1, h2, q⟩ := q
  obtain ⟨v, rfl, rv⟩ := rpA1 r1
  have e := rp_int rv
  subst e
  refine ⟨j, rfl, h1, h2, k _ H1 _ y1 w1 g1 s1 (fun F1 σ2 y2 H2 w2 g2 i => ⟨fun hi => ?_, fun hi => ?_, fun d hd v H3 hy => ?_⟩) q⟩
  · rw [rangeD_len] at hi; exact hi
  · rw [rangeD_len] at hi; exact hi
  · obtain ⟨rfl, rfl⟩ := hy
    obtain ⟨_, rfl⟩ := rangeD_get hd
    exact ⟨fun _ _ e => e, .int _⟩
theorem wI_rng2 (w : wD C ts y fun ds y1 => ∃ i j : Int, ds = [.int i, .int j] ∧ (-(2 ^ 62) ≤ i ∧ i < 2 ^ 62 ∧ -(2 ^ 62) ≤ j ∧ j < 2 ^ 62) ∧ Qi (rangeD i (j - i).toNat) y1) : wI C (iRng2 ts) y Qi := by
  intro F σ H R wd k
  refine w F σ H _ wd fun vs H1 ds y1 w1 g1 s1 r1 q => ?_
  obtain ⟨i0, j, rfl, h1, q⟩ := q
  obtain ⟨v, u, rfl, rv, ru⟩ := rpA2 r1
  have e := rp_int rv
  have e' := rp_int ru
  subst e e'
  refine ⟨i0, j, rfl, h1, k _ H1 _ y1 w1 g1 s1 (fun F1 σ2 y2 H2 w2 g2 i => ⟨fun hi => ?_, fun hi => ?_, fun d hd v H3 hy => ?_⟩) q⟩
  · rw [rangeD_len] at hi; exact hi
  · rw [rangeD_len] at hi; exact hi
  · obtain ⟨rfl, rfl⟩ := hy
    obtain ⟨_, rfl⟩ := rangeD_get hd
    exact ⟨fun _ _ e => e, .int _⟩
variable {g : TG} {Qg : S → Prop}
theorem wS_for (w : wI C wi y fun xs y1 => ∃ I : Nat → S → Prop, I 0 y1 ∧ (∀ i x y2, xs[i]? = some x → I i y2 → wG C g (.d x) y2 fun y3 => wS C tx y3 { nx := I (i + 1), ct := I (i + 1), bk := e.nx, rt := e.rt }) ∧ (∀ y2, I xs.length y2 → e.nx y2)) :
    wS C (tFor wi g tx) y e := by
  intro F σ H E st wd k
  refine w F σ H _ wd fun J H1 xs y1 w1 g1 s1 hJ ⟨I, h0, hs, hd⟩ => ?_
  refine ⟨fun i m σ2 H2 => m = xs.length - i ∧ i ≤ xs.length ∧ ∃ y2, Wd C F σ2 y2 H2 ∧ Go F σ y1 H1 σ2 y2 H2 ∧ I i y2, ⟨xs.length, by simp, Nat.zero_le _, y1, w1, GoH.refl, h0⟩, ?_⟩
  rintro i m σ2 H2 ⟨rfl, hi, y2, w2, g2, hI⟩
  obtain ⟨j1, j2, j3⟩ := hJ F σ2 y2 H2 w2.toWd0 g2 i
  by_cases hlt : i < xs.length
  · refine .inr ⟨j1 hlt, fun σ3 H3 => ∃ y3, Wd C F σ3 y3 H3 ∧ Go F σ y1 H1 σ3 y3 H3 ∧ I (i + 1) y3, fun σ3 H3 ⟨y3, w3, g3, h3⟩ => ⟨xs.length - (i + 1), by omega, rfl, hlt, y3, w3, g3, h3⟩, fun v H3 hy => ?_⟩
    have ex : xs[i]? = some xs[i] := List.getElem?_eq_getElem hlt
    obtain ⟨gr, rv⟩ := j3 _ ex v H3 hy
    have w3 := w2.grow gr
    have g3 := g2.trans (go_grow (F := F) (σ := σ2) (y := y2) gr)
    refine hs i _ y2 ex hI F σ2 H3 v _ w3 rv fun σ4 y4 w4 g4 q4 => ?_
    refine q4 F σ4 H3 _ st w4 ⟨fun σ5 H5 y5 w5 g5 q5 => ⟨y5, w5, (g3.trans g4).trans g5, q5⟩, fun σ5 v5 H5 z5 y5 w5 g5 r5 q5 => k.rt σ5 v5 H5 z5 y5 w5 (((g1.trans g3).trans g4).trans g5) r5 q5,
      fun σ5 H5 y5 w5 g5 q5 => k.nx σ5 H5 y5 w5 (((g1.trans g3).trans g4).trans g5) q5, fun σ5 H5 y5 w5 g5 q5 => ⟨y5, w5, (g3.trans g4).trans g5, q5⟩⟩
  · have ei : i = xs.length := by omega
    subst ei
    exact .inl ⟨j2 (Nat.le_refl _), k.nx σ2 H2 y2 w2 (g1.trans g2) (hd y2 hI)⟩
end
end Ux

set_option maxRecDepth 100000
set_option maxHeartbeats 2000000
namespace Ux
open PySem PySem.Spec PyProof.Rows L2 Tq
theorem dom_ao {m m' : List Cl} (h : ao m = ao m') (a : Addr) : Dom m a ↔ Dom m' a := by
  have key : ∀ n : List Cl, Dom n a ↔ a ∈ (ao n).map (·.1) := fun n => by
    unfold Dom ao
    rw [List.map_map, List.mem_map]
    exact ⟨fun ⟨e, h1, h2⟩ => ⟨e, h1, h2⟩, fun ⟨e, h1, h2⟩ => ⟨e, h1, h2⟩⟩
  rw [key, key, h]
theorem own_ao {m m' : List Cl} (h : ao m = ao m') {e : Cl} (he : e ∈ m) : ∃ e' ∈ m', e'.a = e.a ∧ e'.own = e.own ∧ e'.c.isRo = e.c.isRo := by
  have : (e.a, e.own, e.c.isRo) ∈ ao m' := by rw [← h]; exact List.mem_map.mpr ⟨e, he, rfl⟩
  obtain ⟨e', h1, h2⟩ := List.mem_map.mp this
  exact ⟨e', h1, congrArg Prod.fst h2, congrArg (fun x => x.2.1) h2, congrArg (fun x => x.2.2) h2⟩
theorem domW_ao {m m' : List Cl} (h : ao m = ao m') (a : Addr) : DomW m a → DomW m' a := fun ⟨e, h1, h2, h3⟩ => by
  obtain ⟨e', q1, q2, _, q3⟩ := own_ao h h1
  exact ⟨e', q1, q2.trans h2, q3.trans h3⟩
theorem DomW.dom {m : List Cl} {a : Addr} (h : DomW m a) : Dom m a := let ⟨e, h1, h2, _⟩ := h; ⟨e, h1, h2⟩
section
variable {K : Fg} {F : Fr} {σ : St} {y y' u : S} {H H' : Hp} {l : Addr}
/-- a frame within, at the heap as it stands; l is apart -/
def sub (F : Fr) (σ : St) (u : S) (H : Hp) (l : Addr) : Fr := ⟨H, DomW u.m, fun a => Mv F σ u a ∨ a = l, false⟩
theorem sub_mv {a : Addr} {H0 : Hp} {τ : St} (s : ao y.m = ao u.m) : Mv (sub F σ u H0 l) τ y a ↔ (Mv F σ u a ∨ a = l) := by
  constructor
  · rintro (z | z)
    · exact z
    · exact .inl (.inr ((dom_ao s a).mp z))
  · exact .inl
theorem mv_ao {a : Addr} {τ : St} (s : ao y.m = ao u.m) : Mv F τ y a ↔ Mv F σ u a := by
  unfold Mv
  rw [dom_ao s a]
/-- into the frame within -/
theorem Wd0.into (w : Wd0 K F σ u H) {o : HO} (h : H l = none) : Wd0 K (sub F σ u (upd H l o) l) σ u (upd H l o) := by
  have nl : ¬ Mv F σ u l := w.new h
  have g : GoH (Mv F σ u) H (Mv (sub F σ u (upd H l o) l) σ u) (upd H l o) := fun a v n e => by
    have ne : a ≠ l := ne_of_none e h
    exact ⟨fun z => ((sub_mv rfl).mp z).elim n ne, by rw [upd_ne ne]; exact e⟩
  have lv : ∀ a, (Mv F σ u a ∨ a = l) → upd H l o a ≠ none := by
    rintro a (z | z) e
    · by_cases ha : a = l
      · exact nl (ha ▸ z)
      · rw [upd_ne ha] at e
        exact w.new e z
    · rw [z, upd_same] at e; cases e
  refine ⟨fun a v _ e => e, lv, lv, w.len, fun i z e => ?_, fun e he => (w.cell e he).go g fun o q => grow_upd h _ _ q, w.dist, fun e he hr => .inl ⟨e, he, rfl, hr⟩, fun a z => .inl (.inr z.dom), fun q => nomatch q⟩
  obtain ⟨x, h1, h2⟩ := w.slot i z e
  exact ⟨x, h1, h2.go g⟩
/-- rebased at another heap, in which only l and new things are otherwise -/
theorem Wd0.reb {H0 : Hp} {τ : St} (w : Wd0 K (sub F σ u H0 l) τ y H) (s : ao y.m = ao u.m) (kp : ∀ a o, a ≠ l → H a = some o → H' a = some o) (hl : H' l ≠ none) (nl : ¬ Dom u.m l) : Wd0 K (sub F σ u H' l) τ y H' ∧ GoH (Mv (sub F σ u H0 l) τ y) H (Mv (sub F σ u H' l) τ y) H' := by
  have g : GoH (Mv (sub F σ u H0 l) τ y) H (Mv (sub F σ u H' l) τ y) H' := fun a v n e => by
    have ne : a ≠ l := fun z => n ((sub_mv s).mpr (.inr z))
    exact ⟨fun z => n ((sub_mv s).mpr ((sub_mv s).mp z)), kp a v ne e⟩
  have lv : ∀ a, (Mv F σ u a ∨ a = l) → H' a ≠ none := fun a z e => by
    by_cases ha : a = l
    · rw [ha] at e; exact hl e
    · cases q : H a with
      | none => exact w.live a z q
      | some o => rw [kp a o ha q] at e; cases e
  refine ⟨⟨fun a v _ e => e, lv, lv, w.len, fun i z e => ?_, fun e he => (w.cell e he).go g fun o q => kp _ _ (fun z => nl ?_) q, w.dist, fun e he hr => .inl (domW_ao s _ ⟨e, he, rfl, hr⟩), fun a z => .inl (.inr z.dom), fun q => nomatch q⟩, g⟩
  · obtain ⟨x, h1, h2⟩ := w.slot i z e
    exact ⟨x, h1, h2.go g⟩
  · exact z ▸ (dom_ao s e.a).mp ⟨e, he, rfl⟩
theorem Wd0.outOf {H0 H2 : Hp} (w : Wd0 K F σ u H) (h : H l = none) (w2 : Wd0 K (sub F σ u H0 l) σ y H2) (s : ao y.m = ao u.m) (kp : ∀ a o, ¬ DomW u.m a → H a = some o → H2 a = some o) :
    Wd0 K F σ y H2 ∧ Go F σ u H σ y H2 ∧ ¬ Mv F σ y l ∧ GoH (Mv (sub F σ u H0 l) σ y) H2 (Mv F σ y) H2 ∧ GoH (Mv F σ u) H (Mv (sub F σ u H0 l) σ y) H2 := by
  have nl : ¬ Mv F σ u l := w.new h
  have gd : GoH (Mv (sub F σ u H0 l) σ y) H2 (Mv F σ y) H2 := fun a v n e => ⟨fun z => n ((sub_mv s).mpr (.inl ((mv_ao s).mp z))), e⟩
  refine ⟨⟨fun a v n e => kp a v (fun z => ?_) (w.keep a v n e), w.live0, fun a m => w2.live a (.inl (.inl m)), w2.len, fun i z e => ?_, fun e he => (w2.cell e he).go gd fun _ q => q, w2.dist, fun e he hr => ?_, w.sm, fun st e he ho => ?_⟩,
    fun a v n e => ⟨fun z => n ((mv_ao s).mp z), kp a v (fun z => n (.inr z.dom)) e⟩, fun z => nl ((mv_ao s).mp z), gd, fun a v n e => ⟨fun z => ((sub_mv s).mp z).elim n (ne_of_none e h), kp a v (fun z => n (.inr z.dom)) e⟩⟩
  · obtain ⟨e0, h1, rfl, hr⟩ := z
    rcases w.frsh e0 h1 hr with q | q
    · exact n q
    · rw [q] at e; cases e
  · obtain ⟨x, h1, h2⟩ := w2.slot i z e
    exact ⟨x, h1, h2.go gd⟩
  · obtain ⟨e', h1, h2, _, h4⟩ := own_ao s he
    rw [← h2]; exact w.frsh e' h1 (h4.trans hr)
  · obtain ⟨e', h1, h2, h3, _⟩ := own_ao s he
    rw [← h2]; exact w.nb st e' h1 (h3.trans ho)
end
/-- exceptions are none of our business here -/
@[reducible] def Ct.q (C : Ct) : Ct := { C with ex := fun _ _ => False }
theorem Wd0.q {C : Ct} {F : Fr} {σ : St} {y : S} {H : Hp} (w : Wd0 C.K F σ y H) : Wd C.q F σ y H := ⟨w, fun _ _ _ _ _ _ _ _ _ z => z.elim⟩
section
variable {C : Ct} {y : S} {te : TE} {tt : TT} {wi : TI} {Q : Z → S → Prop}
theorem slot_unset {K : Fg} {F : Fr} {σ : St} {l : List (Option Z)} {m : List Cl} {H : Hp} {j : Nat} {v : V} {z : Option Z} (w : Wd0 K F (σ.set j (some v)) ⟨l.set j z, m⟩ H) (hl : l.length = σ.length)
    (hj : ∀ x, l[j]? = some (some x) → ∃ u, σ[j]? = some (some u) ∧ Rw K (Mv F σ ⟨l, m⟩) H u x) : Wd0 K F σ ⟨l, m⟩ H := by
  refine ⟨w.keep, w.live0, w.live, hl.symm, fun i x e => ?_, w.cell, w.dist, w.frsh, w.sm, w.nb⟩
  by_cases n : i = j
  · rw [n] at e ⊢; exact hj x e
  · obtain ⟨u, h1, h2⟩ := w.slot i x (by show (l.set j z)[i]? = _; rw [List.getElem?_set_ne (Ne.symm n)]; exact e)
    rw [List.getElem?_set_ne (Ne.symm n)] at h1
    exact ⟨u, h1, h2⟩
/-- [e for x in .. if ..] -/
theorem wE_lc {j : Nat}
    (w : wI C wi y fun xs y1 => ∃ I : Nat → List D → List Cl → Prop, xs.length ≤ sizeLine ∧ (∀ i acc m, I i acc m → ao m = ao y1.m) ∧ I 0 [] y1.m ∧
      (∀ i x acc m, xs[i]? = some x → I i acc m → wT C.q tt ⟨y1.l.set j (some (.d x)), m⟩ fun b y3 => if b = true then wE C.q te y3 fun z y4 => ∃ d, z = .d d ∧ I (i + 1) (acc ++ [d]) y4.m else I (i + 1) acc y3.m) ∧
      (∀ acc m, I xs.length acc m → acc.length ≤ xs.length → Q (.d (.list acc)) ⟨y1.l, m⟩)) :
    wE C (tLc wi (gName j) tt te [j]) y Q := by
  intro F σ H K wd k
  refine w F σ H _ wd fun J H1 xs y1 w1 g1 s1 hJ ⟨I, hz, ha, h0, hs, hd⟩ => ?_
  intro l hl
  have wz : wipe σ [j] = σ.set j none := rfl
  obtain ⟨ul, um⟩ := y1
  have wi1 := w1.toWd0.into (l := l) (o := .lst []) hl
  have nOl : ¬ Dom um l := fun z => w1.new hl (.inr z)
  refine ⟨fun i n H2 => n = xs.length - i ∧ i ≤ xs.length ∧ ∃ m acc vs, Wd0 C.K (sub F σ ⟨ul, um⟩ H2 l) σ ⟨ul, m⟩ H2 ∧ (∀ a o, ¬ DomW um a → H1 a = some o → H2 a = some o) ∧ I i acc m ∧ H2 l = some (.lst vs) ∧ RpA C.K (Mv (sub F σ ⟨ul, um⟩ H2 l) σ ⟨ul, m⟩) H2 vs acc ∧ acc.length ≤ i,
    ⟨xs.length, by simp, Nat.zero_le _, um, [], [], wi1, fun a o _ e => grow_upd hl a o e, h0, upd_same, .nil, Nat.zero_le _⟩, ?_⟩
  rintro i n H2 ⟨rfl, hi, m, acc, vs, w2, kp2, hI, hl2, rv2, ha2⟩
  have am : ao m = ao um := ha i acc m hI
  obtain ⟨o1, o2, o3, o4, o5⟩ := w1.toWd0.outOf hl w2 am kp2
  obtain ⟨j1, j2, j3⟩ := hJ (sub F σ ⟨ul, um⟩ H2 l) σ ⟨ul, m⟩ H2 w2 o5 i
  by_cases hlt : i < xs.length
  · refine .inr ⟨j1 hlt, fun H3 => ∃ m acc vs, Wd0 C.K (sub F σ ⟨ul, um⟩ H3 l) σ ⟨ul, m⟩ H3 ∧ (∀ a o, ¬ DomW um a → H1 a = some o → H3 a = some o) ∧ I (i + 1) acc m ∧ H3 l = some (.lst vs) ∧ RpA C.K (Mv (sub F σ ⟨ul, um⟩ H3 l) σ ⟨ul, m⟩) H3 vs acc ∧ acc.length ≤ i + 1,
      fun H3 h => ⟨xs.length - (i + 1), by omega, rfl, hlt, h⟩, fun v H3 hy => ?_⟩
    have ex : xs[i]? = some xs[i] := List.getElem?_eq_getElem hlt
    obtain ⟨gr, rv⟩ := j3 _ ex v H3 hy
    obtain ⟨w3, gx⟩ := w2.reb am (H' := H3) (fun a o _ e => gr a o e) (by rw [gr l _ hl2]; simp) nOl
    have gy : GoH (Mv (sub F σ ⟨ul, um⟩ H2 l) σ ⟨ul, m⟩) H3 (Mv (sub F σ ⟨ul, um⟩ H3 l) σ ⟨ul, m⟩) H3 := fun a o n e => ⟨fun z => n ((sub_mv am).mpr ((sub_mv am).mp z)), e⟩
    have w4 : Wd0 C.K (sub F σ ⟨ul, um⟩ H3 l) (σ.set j (some v)) ⟨ul.set j (some (.d xs[i])), m⟩ H3 := w3.set_z (.d (rv.go gy))
    have eσ : (wipe σ [j]).set j (some v) = σ.set j (some v) := by rw [wz, List.set_set]
    show wipe ((wipe σ [j]).set j (some v)) [j] = wipe σ [j] ∧ tt ((wipe σ [j]).set j (some v)) H3 _
    rw [eσ]
    refine ⟨by show (σ.set j (some v)).set j none = σ.set j none; rw [List.set_set], ?_⟩
    have back : ∀ {m5 : List Cl} {l5 : List (Option Z)} {HH : Hp}, Wd0 C.K (sub F σ ⟨ul, um⟩ H3 l) (σ.set j (some v)) ⟨l5, m5⟩ HH → l5 = ul.set j (some (.d xs[i])) → ao m5 = ao um →
        GoH (Mv (sub F σ ⟨ul, um⟩ H3 l) σ ⟨ul, m⟩) H3 (Mv (sub F σ ⟨ul, um⟩ H3 l) σ ⟨l5, m5⟩) HH →
        Wd0 C.K (sub F σ ⟨ul, um⟩ H3 l) σ ⟨ul, m5⟩ HH ∧ (∀ a o, ¬ DomW um a → H1 a = some o → HH a = some o) ∧ HH l = some (.lst vs) := by
      intro m5 l5 HH ww e5 a5 gg
      subst e5
      refine ⟨slot_unset ww w3.len.symm fun x e => ?_, fun a o na e => ww.keep a o na (gr a o (kp2 a o na e)), ww.keep l _ (fun z => nOl z.dom) (gr l _ hl2)⟩
      obtain ⟨u, q1, q2⟩ := w3.slot j x e
      exact ⟨u, q1, q2.go gg⟩
    refine hs i _ acc m ex hI (sub F σ ⟨ul, um⟩ H3 l) _ H3 _ w4.q fun b H5 y5 w5 g5 s5 q5 => ?_
    obtain ⟨l5, m5⟩ := y5
    cases b with
    | false =>
      have a5 : ao m5 = ao um := ha _ _ _ q5
      have gA : GoH (Mv (sub F σ ⟨ul, um⟩ H3 l) σ ⟨ul, m⟩) H3 (Mv (sub F σ ⟨ul, um⟩ H3 l) σ ⟨l5, m5⟩) H5 := g5
      obtain ⟨b1, b4, b5⟩ := back w5.toWd0 s5.1 a5 gA
      obtain ⟨b6, gz⟩ := b1.reb a5 (H' := H5) (fun a o _ e => e) (by rw [b5]; simp) nOl
      exact ⟨m5, acc, vs, b6, b4, q5, b5, rv2.go ((gx.trans gA).trans gz), by omega⟩
    | true =>
      refine q5 (sub F σ ⟨ul, um⟩ H3 l) _ H5 _ w5 fun x6 H6 z6 y6 w6 g6 s6 r6 q6 => ?_
      obtain ⟨d, rfl, q6⟩ := q6
      obtain ⟨l6, m6⟩ := y6
      have a6 : ao m6 = ao um := ha _ _ _ q6
      have gA : GoH (Mv (sub F σ ⟨ul, um⟩ H3 l) σ ⟨ul, m⟩) H3 (Mv (sub F σ ⟨ul, um⟩ H3 l) σ ⟨l6, m6⟩) H6 := g5.trans g6
      obtain ⟨b1, b4, b5⟩ := back w6.toWd0 (s6.1.trans s5.1) a6 gA
      have hlen : vs.length = acc.length := rv2.len
      obtain ⟨b6, gz⟩ := b1.reb a6 (H' := upd H6 l (.lst (vs ++ [x6]))) (fun a o n e => by rw [upd_ne n]; exact e) (by rw [upd_same]; simp) nOl
      refine ⟨vs, b5, by omega, m6, acc ++ [d], vs ++ [x6], b6, fun a o na e => ?_, q6, upd_same, ?_, by rw [List.length_append]; simp; omega⟩
      · rw [upd_ne (ne_of_none e hl)]
        exact b4 a o na e
      · exact (rv2.go ((gx.trans gA).trans gz)).app (.cons (Rp.go gz r6) .nil)
  · have ei : i = xs.length := by omega
    subst ei
    refine .inl ⟨j2 (Nat.le_refl _), ?_⟩
    exact k _ H2 (.d (.list acc)) ⟨ul, m⟩ (w1.to o1 o2) (g1.trans o2) (s1.trans ⟨rfl, [], by rw [show ao ([] : List Cl) = [] from rfl, List.append_nil]; exact am⟩) (.lst (.inl ⟨o3, .inl hl2⟩) (rv2.go o4)) (hd acc m hI ha2)
/-- a comprehension whose turns change nothing -/
theorem wE_lcF {j : Nat} {y' : S} (p : D → Bool) (f : D → D)
    (w : wI C wi y fun xs y1 => y1 = y' ∧ xs.length ≤ sizeLine ∧ (∀ x ∈ xs, wT C.q tt (y'.set j (some (.d x))) fun b y3 => y3 = y'.set j (some (.d x)) ∧ b = p x ∧ (p x = true → wE C.q te y3 fun z y4 => z = .d (f x) ∧ y4 = y'.set j (some (.d x)))) ∧ Q (.d (.list ((xs.filter p).map f))) y') :
    wE C (tLc wi (gName j) tt te [j]) y Q := by
  refine wE_lc (fun F σ H R wd k => w F σ H R wd fun J H1 xs y1 w1 g1 s1 hJ ⟨e, hz, hs, hq⟩ => k J H1 xs y1 w1 g1 s1 hJ ?_)
  subst e
  refine ⟨fun i acc m => m = y1.m ∧ acc = ((xs.take i).filter p).map f, hz, fun i acc m h => by rw [h.1], ⟨rfl, rfl⟩, fun i x acc m hx ⟨e1, e2⟩ => ?_, fun acc m ⟨e1, e2⟩ _ => ?_⟩
  · subst e1 e2
    have hm : x ∈ xs := List.mem_of_getElem? hx
    have ht : xs.take (i + 1) = xs.take i ++ [x] := by rw [List.take_add_one, hx]; rfl
    refine wT_mono (hs x hm) fun b y3 ⟨e3, eb, h3⟩ => ?_
    subst eb e3
    cases hpx : p x with
    | true =>
      show wE C.q te _ _
      refine wE_mono (h3 hpx) fun z y4 ⟨ez, ey⟩ => ⟨f x, ez, ?_, ?_⟩
      · rw [ey]; rfl
      · rw [ht, List.filter_append, List.map_append, List.filter_cons, if_pos hpx]
        rfl
    | false =>
      refine ⟨rfl, ?_⟩
      rw [ht, List.filter_append, List.filter_cons, if_neg (by rw [hpx]; simp), List.filter_nil, List.append_nil]
  · subst e1 e2
    rw [List.take_length]
    exact hq
end
end Ux

set_option maxRecDepth 100000
set_option maxHeartbeats 2000000
namespace Ux
open PySem PySem.Spec PyProof.Rows L2 Tq
/-! ### the store changes -/
section
variable {C : Ct} {F : Fr} {σ : St} {y y' : S} {H H' : Hp}
theorem Wd.store (w : Wd C F σ y H) {m : List Cl} (kp : ∀ a o, ¬ DomW y.m a → H a = some o → H' a = some o) (lv : ∀ a, Dom y.m a → H' a ≠ none)
    (src : ∀ e ∈ m, (∃ e0 ∈ y.m, e0.a = e.a ∧ (e.own = true → e0.own = true) ∧ (e.c.isRo = false → e0.c.isRo = false)) ∨ H e.a = none) (ds : m.Pairwise fun e e' => e.a ≠ e'.a)
    (ok : GoH (Mv F σ y) H (Mv F σ ⟨y.l, m⟩) H' → ∀ e ∈ m, CellOk C.K (Mv F σ ⟨y.l, m⟩) H' e.a e.c) : Wd C F σ ⟨y.l, m⟩ H' ∧ Go F σ y H σ ⟨y.l, m⟩ H' := by
  have g : Go F σ y H σ ⟨y.l, m⟩ H' := fun a o n e => by
    refine ⟨?_, kp a o (fun z => n (.inr z.dom)) e⟩
    rintro (z | ⟨e', h1, rfl⟩)
    · exact n (.inl z)
    · rcases src e' h1 with ⟨e0, q1, q2, _⟩ | q
      · exact n (.inr ⟨e0, q1, q2⟩)
      · rw [q] at e; cases e
  refine ⟨w.to ⟨fun a o n e => kp a o (fun ⟨e0, h1, h2, hr⟩ => ?_) (w.keep a o n e), w.live0, fun a m0 e => ?_, w.len, fun i z e => ?_, ok g, ds, fun e he hr => ?_, w.sm, fun st e he ho hs => ?_⟩ g, g⟩
  · subst h2
    rcases w.frsh e0 h1 hr with q | q
    · exact n q
    · rw [q] at e; cases e
  · by_cases hd : Dom y.m a
    · exact lv a hd e
    · cases q : H a with
      | none => exact w.live a m0 q
      | some o => rw [kp a o (fun z => hd z.dom) q] at e; cases e
  · obtain ⟨x, h1, h2⟩ := w.slot i z e
    exact ⟨x, h1, h2.go g⟩
  · rcases src e he with ⟨e0, q1, q2, _, q4⟩ | q
    · rw [← q2]; exact w.frsh e0 q1 (q4 hr)
    · exact .inr (w.newH0 q)
  · rcases src e he with ⟨e0, q1, q2, q3, _⟩ | q
    · exact w.nb st e0 q1 (q3 ho) (q2 ▸ hs)
    · exact w.live _ (w.sm _ hs) q
theorem pw_snoc {m : List Cl} {e : Cl} (h : m.Pairwise fun e e' => e.a ≠ e'.a) (n : ¬ Dom m e.a) : (m ++ [e]).Pairwise fun e e' => e.a ≠ e'.a := by
  rw [List.pairwise_append]
  refine ⟨h, List.pairwise_singleton _ _, fun a ha b hb => ?_⟩
  rw [List.mem_singleton] at hb
  subst hb
  exact fun z => n ⟨a, ha, z⟩
theorem pw_set {m : List Cl} {j : Nat} {e e' : Cl} (h : m.Pairwise fun e e' => e.a ≠ e'.a) (hj : m[j]? = some e) (ea : e'.a = e.a) : (m.set j e').Pairwise fun e e' => e.a ≠ e'.a := by
  have key : (m.set j e').map (·.a) = m.map (·.a) := by
    rw [List.map_set, ea]
    apply List.ext_getElem?
    intro i
    by_cases n : i = j
    · subst n
      obtain ⟨hl, hv⟩ := List.getElem?_eq_some_iff.mp hj
      rw [List.getElem?_set_self (by simpa using hl), List.getElem?_map, hj]
      rfl
    · rw [List.getElem?_set_ne (Ne.symm n)]
  have p1 : ∀ l : List Cl, (l.Pairwise fun e e' => e.a ≠ e'.a) ↔ (l.map (·.a)).Pairwise (· ≠ ·) := fun l => by rw [List.pairwise_map]
  rw [p1, key, ← p1]
  exact h
/-- a new thing of our own -/
theorem Wd.cnew (w : Wd C F σ y H) {p : Addr} {o : HO} {c : Cell} {b : Bool} (hn : H p = none) (ok : ∀ M, GoH (Mv F σ y) H M (upd H p o) → CellOk C.K M (upd H p o) p c) :
    Wd C F σ ⟨y.l, y.m ++ [⟨p, b, c⟩]⟩ (upd H p o) ∧ Go F σ y H σ ⟨y.l, y.m ++ [⟨p, b, c⟩]⟩ (upd H p o) ∧ Sh y ⟨y.l, y.m ++ [⟨p, b, c⟩]⟩ := by
  have nd : ¬ Dom y.m p := fun z => w.new hn (.inr z)
  suffices key : Wd C F σ ⟨y.l, y.m ++ [⟨p, b, c⟩]⟩ (upd H p o) ∧ Go F σ y H σ ⟨y.l, y.m ++ [⟨p, b, c⟩]⟩ (upd H p o) from ⟨key.1, key.2, rfl, [⟨p, b, c⟩], by simp [ao]⟩
  refine w.store (fun a v n e => grow_upd hn a v e) (fun a hd z => ?_) (fun e he => ?_) (pw_snoc w.dist nd) (fun g e he => ?_)
  · obtain ⟨e, h1, h2⟩ := hd
    subst h2
    rw [upd_ne (fun q => nd ⟨e, h1, q⟩)] at z
    exact (w.cell e h1).live z
  · rcases List.mem_append.mp he with he | he
    · exact .inl ⟨e, he, rfl, fun z => z, fun z => z⟩
    · rw [List.mem_singleton] at he; subst he; exact .inr hn
  · rcases List.mem_append.mp he with he | he
    · exact (w.cell e he).go g fun o q => grow_upd hn _ _ q
    · rw [List.mem_singleton] at he; subst he; exact ok _ g
theorem mem_set_or {α : Type} {l : List α} {j : Nat} {x e : α} (h : e ∈ l.set j x) : e = x ∨ e ∈ l := by
  rcases List.mem_or_eq_of_mem_set h with h | h
  · exact .inr h
  · exact .inl h
/-- a thing of the store has changed, and no other -/
theorem Wd.cmut (w : Wd C F σ y H) {j : Nat} {p : Addr} {b : Bool} {c c' : Cell} (hj : y.m[j]? = some ⟨p, b, c⟩) (hr : c.isRo = false) (hr' : c'.isRo = false) (kp : ∀ a o, a ≠ p → H a = some o → H' a = some o) (ok : ∀ M, (∀ a, M a → Mv F σ y a) → GoH (Mv F σ y) H M H' → CellOk C.K M H' p c') :
    Wd C F σ ⟨y.l, y.m.set j ⟨p, b, c'⟩⟩ H' ∧ Go F σ y H σ ⟨y.l, y.m.set j ⟨p, b, c'⟩⟩ H' ∧ Sh y ⟨y.l, y.m.set j ⟨p, b, c'⟩⟩ := by
  have hm : (⟨p, b, c⟩ : Cl) ∈ y.m := List.mem_of_getElem? hj
  have hl' : H' p ≠ none := by
    have g0 : GoH (Mv F σ y) H (Mv F σ y) H' := fun a o n e => ⟨n, kp a o (fun z => n (.inr ⟨_, hm, z.symm⟩)) e⟩
    exact (ok _ (fun _ q => q) g0).live
  suffices key : Wd C F σ ⟨y.l, y.m.set j ⟨p, b, c'⟩⟩ H' ∧ Go F σ y H σ ⟨y.l, y.m.set j ⟨p, b, c'⟩⟩ H' by
    refine ⟨key.1, key.2, rfl, [], ?_⟩
    show ao (y.m.set j ⟨p, b, c'⟩) = ao y.m ++ []
    rw [List.append_nil]
    unfold ao
    apply List.ext_getElem?
    intro i
    by_cases n : i = j
    · subst n
      obtain ⟨hl, _⟩ := List.getElem?_eq_some_iff.mp hj
      rw [List.getElem?_map, List.getElem?_map, List.getElem?_set_self hl, hj]
      show some (p, b, c'.isRo) = some (p, b, c.isRo)
      rw [hr, hr']
    · rw [List.getElem?_map, List.getElem?_map, List.getElem?_set_ne (Ne.symm n)]
  refine w.store (fun a v n e => kp a v (fun z => n ⟨_, hm, z.symm, hr⟩) e) (fun a hd z => ?_) (fun e he => ?_) (pw_set w.dist hj rfl) (fun g e he => ?_)
  · obtain ⟨e, h1, h2⟩ := hd
    subst h2
    by_cases q : e.a = p
    · exact hl' (q ▸ z)
    · cases r : H e.a with
      | none => exact (w.cell e h1).live r
      | some o => rw [kp _ o q r] at z; cases z
  · rcases mem_set_or he with he | he
    · subst he; exact .inl ⟨_, hm, rfl, fun z => z, fun _ => hr⟩
    · exact .inl ⟨e, he, rfl, fun z => z, fun z => z⟩
  · by_cases q : e.a = p
    · have : e = ⟨p, b, c'⟩ := by
        obtain ⟨i, hi⟩ := List.getElem?_of_mem he
        have pw := pw_set w.dist hj (e' := ⟨p, b, c'⟩) rfl
        obtain ⟨hl, _⟩ := List.getElem?_eq_some_iff.mp hj
        have hjj : (y.m.set j ⟨p, b, c'⟩)[j]? = some ⟨p, b, c'⟩ := List.getElem?_set_self hl
        by_cases n : i = j
        · subst n; rw [hjj] at hi; cases hi; rfl
        · exfalso
          rw [List.pairwise_iff_getElem] at pw
          obtain ⟨hi1, hi2⟩ := List.getElem?_eq_some_iff.mp hi
          obtain ⟨hj1, hj2⟩ := List.getElem?_eq_some_iff.mp hjj
          rcases Nat.lt_or_gt_of_ne n with n | n
          · have := pw i j hi1 hj1 n; rw [hi2, hj2] at this; exact this q
          · have := pw j i hj1 hi1 n; rw [hi2, hj2] at this; exact this q.symm
      subst this
      refine ok _ (fun a z => z.elim .inl fun ⟨e0, q1, q2⟩ => .inr ?_) g
      rcases mem_set_or q1 with q1 | q1
      · subst q1; exact ⟨_, hm, q2⟩
      · exact ⟨e0, q1, q2⟩
    · rcases mem_set_or he with he | he
      · subst he; exact absurd rfl q
      · exact (w.cell e he).go g fun o r => kp _ _ q r
/-- things of the store are let go -/
theorem Wd.csub (w : Wd C F σ y H) {m : List Cl} (h : m.Sublist y.m) : Wd C F σ ⟨y.l, m⟩ H ∧ Go F σ y H σ ⟨y.l, m⟩ H := by
  refine w.store (fun a o _ e => e) (fun a ⟨e, h1, h2⟩ => h2 ▸ (w.cell e h1).live) (fun e he => .inl ⟨e, h.subset he, rfl, fun z => z, fun z => z⟩) (w.dist.sublist h) fun g e he => (w.cell e (h.subset he)).go g fun _ q => q
end
/-! ### new lists, append -/
section
variable {C : Ct} {y : S} {te : TE} {ts : TA} {tx : TS} {e : En} {Q : Z → S → Prop}
/-- [..], a thing of our own -/
theorem wE_lstL (w : wZ C ts y fun zs y1 => zs.length ≤ sizeLine ∧ ∀ p, Q (.lab p) ⟨y1.l, y1.m ++ [⟨p, true, .lst zs⟩]⟩) : wE C (tLst ts) y Q := by
  intro F σ H K wd k
  refine w F σ H _ wd fun vs H1 zs y1 w1 g1 s1 r1 ⟨hz, q⟩ => ⟨by rw [r1.len]; exact hz, fun p hn => ?_⟩
  obtain ⟨w2, g2, s2⟩ := w1.cnew (o := .lst vs) (c := .lst zs) (b := true) hn fun M g => ⟨vs, upd_same, r1.go g⟩
  exact k _ _ (.lab p) _ w2 (g1.trans g2) (s1.trans s2) (.lab p) (q p)
theorem wE_dnewL (q : ∀ p, Q (.lab p) ⟨y.l, y.m ++ [⟨p, true, .dic []⟩]⟩) : wE C tDNewK y Q := by
  intro F σ H K wd k p hp
  obtain ⟨w2, g2, s2⟩ := wd.cnew (o := .dK []) (c := .dic []) (b := true) hp fun M g => ⟨[], upd_same, .nil⟩
  exact k _ _ (.lab p) _ w2 g2 s2 (.lab p) (q p)
theorem wE_dispL {kk : Key} {v : V} {d : D} (s : Sc v d) (q : ∀ p, Q (.lab p) ⟨y.l, y.m ++ [⟨p, true, .dic [(kk, .d d)]⟩]⟩) : wE C (tDisp [(tC (kV kk), tC v)]) y Q := by
  intro F σ H K wd k p hp
  refine ⟨upd_same, [(kk, v)], rfl, by simp, ?_⟩
  rw [upd_upd]
  obtain ⟨w2, g2, s2⟩ := wd.cnew (o := .dK (mergeK [] [(kk, v)])) (c := .dic [(kk, .d d)]) (b := true) hp fun M g => ⟨[(kk, v)], by rw [upd_same]; rfl, .cons (.d s.rp) .nil⟩
  exact k _ _ (.lab p) _ w2 g2 s2 (.lab p) (q p)
/-- x.append(e) -/
theorem wS_app {i j : Nat} {a : Addr} {b : Bool} {zs0 : List Z} (hi : y.l[i]? = some (some (.lab a))) (hj : y.m[j]? = some ⟨a, b, .lst zs0⟩) (w : wE C te y fun z y1 => ∃ zs, y1.m[j]? = some ⟨a, b, .lst zs⟩ ∧ zs.length < sizeLine ∧ e.nx ⟨y1.l, y1.m.set j ⟨a, b, .lst (zs ++ [z])⟩⟩) :
    wS C (tDrop (tBM C.K "list" rAppend (tVar i) (tCons te tNil))) y e := by
  intro F σ H E st wd k
  obtain ⟨x, h1, h2⟩ := wd.slot i _ hi
  cases h2
  obtain ⟨xs, c1, c2⟩ := (wd.cell _ (List.mem_of_getElem? hj) : CellOk C.K (Mv F σ y) H a (.lst zs0))
  refine ⟨.ref a, h1, Or.inl ⟨rfl, xs, .inl (.inl c1)⟩, w F σ H _ wd fun v H1 z y1 w1 g1 s1 r1 q => ?_⟩
  obtain ⟨zs, hj1, hz, q⟩ := q
  obtain ⟨us, e2, e3⟩ := (w1.cell _ (List.mem_of_getElem? hj1) : CellOk C.K (Mv F σ y1) H1 a (.lst zs))
  refine ⟨a, us, v, rfl, rfl, e2, by rw [e3.len]; exact hz, ?_⟩
  obtain ⟨w2, g2, s2⟩ := w1.cmut (H' := upd H1 a (.lst (us ++ [v]))) (c' := .lst (zs ++ [z])) hj1 rfl rfl (fun b o n e => by rw [upd_ne n]; exact e) fun M _ g => ⟨us ++ [v], upd_same, (e3.go g).app (.cons (r1.w.go g) .nil)⟩
  exact k.nx _ _ _ w2 (g1.trans g2) q
end
/-! ### a list of our own is a list like others from here on -/
section
variable {C : Ct} {y : S} {tx : TS} {e : En}
end
/-! ### less is known -/
def Less (y' y : S) : Prop := y'.l.length = y.l.length ∧ (∀ (i : Nat) (z : Z), y'.l[i]? = some (some z) → y.l[i]? = some (some z)) ∧ y'.m.Sublist y.m
theorem Wd.weak {C : Ct} {F : Fr} {σ : St} {y y' : S} {H : Hp} (w : Wd C F σ y H) (h : Less y' y) : Wd C F σ y' H ∧ Go F σ y H σ y' H := by
  obtain ⟨w1, g1⟩ := w.csub h.2.2
  have g2 : Go F σ ⟨y.l, y'.m⟩ H σ y' H := fun b o n e => ⟨n, e⟩
  exact ⟨w1.to ⟨w1.keep, w1.live0, w1.live, w.len.trans h.1.symm, fun i z e => w1.slot i z (h.2.1 i z e), w1.cell, w1.dist, w1.frsh, w1.sm, w1.nb⟩ g2, g1.trans g2⟩
theorem wS_weak {C : Ct} {t : TS} {y y' : S} {e : En} (w : wS C t y' e) (h : Less y' y) : wS C t y e := by
  intro F σ H E st wd k
  obtain ⟨w1, g1⟩ := wd.weak h
  exact w F σ H E st w1 (k.go g1)
theorem wS_norm {C : Ct} {t : TS} {y y' : S} {e : En} (h : y = y') (w : wS C t y' e) : wS C t y e := h ▸ w
end Ux

set_option maxRecDepth 100000
set_option maxHeartbeats 2000000
/-! exceptions over HandS: own classes with a field found, raise, several clauses -/
namespace Ux
open PySem PySem.Spec PyProof.Rows L2
abbrev Fg := PySem.W.Frag
/-! ### T.__init__(self, ..), T an own class without own __init__, over ValueError -/
structure TxC (K : Fg) (mg : Str → Option Value) (x : Str) : Prop where
  ex : ∃ T : Addr, mg x = some (.ref T) ∧ PySem.W.readsIn K T (.type "type") = true ∧ PySem.W.specialIn K (.ref T) "__getattribute__" = some (some (.builtin "type.__getattribute__")) ∧
    PySem.W.findCls K (.ref T) (.type "type") "__init__" = some (.val (.builtin "ValueError.__init__"))
theorem pe_tinit {X : Cx} {x : Str} {e : Expr} {es : List Expr} {ta : TA} {p1 p2 pos : Pos} {pl : Sem Bool} (hg : Gl X x) (T : TxC X.K X.mg x) (ha : PA X (e :: es) ta) (hdb : (x == ("__debug__" : Str)) = false := by decide)
    (hc : eval (.Call (.Attribute (.Name x p1) "__init__" p2) (e :: es) [] pos) X.env = (do
      let ov ← eval (.Name x p1) X.env
      standAt p2.atName
      let (f, first) ← holding [ov] (getMethod ov "__init__" pl)
      callWith pos f first (backTo pos (starEach (e :: es) X.env)) (backToKw pos (keywordEach [] X.env))) := by rfl)
    (he : starEach (e :: es) X.env = (false, eval e X.env) :: starEach es X.env := by rfl) (hpl : (backTo pos (starEach es X.env)).any (·.1) = false := by rfl) :
    PE X (.Call (.Attribute (.Name x p1) "__init__" p2) (e :: es) [] pos) (tVeI X.K ta) := by
  obtain ⟨T, hm, hrd, hga, hv⟩ := T.ex
  refine ⟨fun pins s σ H Q I h => ?_⟩
  refine PySem.W.methodCall_KW (ld_glob I hg hm ?_ hdb) hc
  refine PySem.W.method_cls I.kIn hga (PySem.W.cls_value I.kIn hrd hv (by decide +kernel) ?_)
  show wpAny _ _ (callWith pos (Value.builtin "ValueError.__init__") [] (backTo pos (starEach (e :: es) X.env)) []) _ _ _
  refine PyProof.Rows.callWith_method1 (thn (ha.run pos pins _ σ H _ (I.tok _) h) fun us s1 ⟨vs, H1, I1, r1, a, C, ws, ev, hl, T, ea, q⟩ => ?_) he hpl
  subst ev
  cases r1 with
  | @cons _ u0 _ ur ra rw' =>
    obtain rfl : u0 = Value.ref a := ra
    have hlen : ur.length ≤ sizeLine := by
      rw [← Paired.length rw', sizeLine_eq]
      omega
    exact oinit_ok T I1 ea hlen fun s' J => ⟨.non, H1, J, rfl, q⟩
/-! ### an own class with __init__(self, found): T.__init__(self, 'text'); self.found = found -/
def spInit (K : Fg) (C : Addr) : Sp := fun vs H Q _ => ∃ (a : Addr) (v : V), vs = [.ref a, v] ∧ OexC K C ∧ PySem.W.findIn K (.ref C) "found" = some none ∧ H a = some (exo a C none) ∧ ∀ dx, H dx = none → dx ≠ a → Q .non (upd (upd H dx (exd dx [(("found" : Str), v)])) a (exo a C (some dx)))
def t_init (K : Fg) (m : Str) : TS := tSeq (tDrop (tVeI K (tCons (tVar 0) (tCons (tC (.str m)) tNil)))) (tOst K "found" (tVar 0) (tVar 1))
theorem init_read {K : Fg} {C : Addr} {m : Str} {vs : List V} {H : Hp} {Q : VK} {E : XK} (h : spInit K C vs H Q E) : t_init K m { nx := fun _ G => Q .non G, rt := Q } (start ["self", "found"] vs) H := by
  obtain ⟨a, v, rfl, T, hn, e, k⟩ := h
  exact ⟨_, rfl, a, C, [.str m], rfl, by simp, T, e, _, rfl, _, rfl, a, C, rfl, T, hn, .inl ⟨e, fun dx h1 h2 => k dx h1 h2⟩⟩
/-- the class x, at C: its instances hold what was found -/
structure Xc (P : Program) (w : World) (K : Fg) (mg : Str → Option Value) (base : Heap) (x : Str) (C : Addr) : Prop where
  gC : mg x = some (.ref C)
  oc : OexC K C
  xf : XfC K C
  no : PySem.W.findIn K (.ref C) "found" = some none
  ini : ∃ (fI : Addr) (fd : FuncData), PySem.W.findIn K (.ref C) "__init__" = some (some (.ref fI)) ∧ PySem.W.typeIn K (.ref fI) = some (.type "function") ∧ FnOk P w K mg base CX0 1 fI fd ["self", "found"] (spInit K C) ∧ Binds K fd ["self", "found"] []
theorem mkO_of {K : Fg} {C : Addr} {H1 : Hp} {v : V} {Q : XK} (oc : OexC K C) (no : PySem.W.findIn K (.ref C) "found" = some none) (q : ∀ d, H1 d = none → Q (.ref C) (some d) (upd H1 d (.xd [(("found" : Str), v)]))) :
    [v].length ≤ 1000 ∧ ∀ a, H1 a = none → spInit K C (.ref a :: ([v] ++ [])) (upd H1 a (exo a C none))
      (fun u H2 => u = .non ∧ ∃ (d : Addr) (fs : List (Str × V)), H2 a = some (exo a C (some d)) ∧ H2 d = some (exd d fs) ∧ H1 d = none ∧ Q (.ref C) (some d) (upd (del H2 a) d (.xd fs))) (fun _ _ _ => False) := by
  refine ⟨by simp, fun b hb => ⟨b, v, rfl, oc, no, upd_same, fun dx h1 h2 => ?_⟩⟩
  have h1' : H1 dx = none := by rw [upd_ne h2] at h1; exact h1
  refine ⟨rfl, dx, [(("found" : Str), v)], upd_same, by rw [upd_ne h2]; exact upd_same, h1', ?_⟩
  have eH : upd (del (upd (upd (upd H1 b (exo b C none)) dx (exd dx [(("found" : Str), v)])) b (exo b C (some dx))) b) dx (.xd [(("found" : Str), v)]) = upd H1 dx (.xd [(("found" : Str), v)]) := by
    funext c
    by_cases hc : c = dx
    · rw [hc, upd_same, upd_same]
    · rw [upd_ne hc, upd_ne hc]
      by_cases hcb : c = b
      · rw [hcb, del_same, hb]
      · rw [del_ne hcb, upd_ne hcb, upd_ne hc, upd_ne hcb]
  rw [eH]
  exact q dx h1'
def tRaiseF (K : Fg) (C : Addr) (W : WX) (ta : TA) : TS := fun _ σ H => tMkO C (spInit K C) [] ta σ H fun cls d H' => W cls d σ H'
section
variable {X : Cx} {x : Str} {C : Addr} {a : Expr} {ta : TA} {p pos pos2 : Pos}
theorem ps_raiseF {W : WX} (hc : X.calm = true) (T : Xc X.prog X.w X.K X.mg X.base x C) (hr : Room 2 X.A) (tk : Takes X W) (ha : PA X [a] ta) (hg : Gl X x) (hdb : (x == ("__debug__" : Str)) = false := by decide)
    (he : starEach (a :: []) X.env = (false, eval a X.env) :: starEach [] X.env := by rfl) (hpl : (backTo pos (starEach [] X.env)).any (·.1) = false := by rfl) :
    PS X (.Raise (some (.Call (.Name x p) [a] [] pos)) none pos2) (tRaiseF X.K C W ta) := by
  obtain ⟨fI, fd, i1, i2, i3, i4⟩ := T.ini
  exact ps_raise hc tk (pmk_oex (dvs := []) (ds := []) T.oc i1 i2 i3 hr i4 .nil pass0 hg T.gC ha hdb he hpl)
end
/-! ### several clauses, with or without a name; the last ones may never be asked -/
def clE (i : Option Nat) (D : Ends) : Ends := match i with
  | none => D
  | some i => { nx := fun σ' H' => D.nx (σ'.set i none) H', rt := D.rt, bk := fun σ' H' => D.bk (σ'.set i none) H', ct := fun σ' H' => D.ct (σ'.set i none) H' }
def clS (i : Option Nat) (a : Addr) (σ : L2.St) : L2.St := match i with
  | none => σ
  | some i => σ.set i (some (.ref a))
def wN (K : Fg) (D : Ends) : List (Value × Option Nat × (Addr → Value → Option Addr → TS)) → WX
  | [] => fun _ _ _ _ => False
  | (c, i, ts) :: r => fun cls d σ H => ∃ b, PySem.W.exmOne K cls c = some b ∧ (b = true → ∀ a, H a = none → ts a cls d (clE i D) (clS i a σ) H) ∧ (b = false → wN K D r cls d σ H)
def tTry (K : Fg) (l : List (Value × Option Nat × (Addr → Value → Option Addr → TS))) (tb : WX → TS) : TS := fun D σ H => tb (wN K D l) D σ H
inductive HdN (X : Cx) : List ExceptHandler → List (Value × Option Nat × (Addr → Value → Option Addr → TS)) → Prop
  | stop {hds : List ExceptHandler} : HdN X hds []
  | cons {x : Str} {c : Value} {ts : Addr → Value → Option Addr → TS} {b₀ : Stmt} {suite : List Stmt} {np pos' : Pos} {hds : List ExceptHandler} {l : List (Value × Option Nat × (Addr → Value → Option Addr → TS))} (hc : Names X x c)
      (hsu : ∀ (a : Addr) (oe : Obj) (cls : Value) (d : Option Addr) (pn : List (Addr × Obj)), Zc cls d oe → (∃ vs, oe.data = .fields vs) → PSs (X.suite a ((a, oe) :: pn)) (b₀ :: suite) (ts a cls d)) (r : HdN X hds l) :
      HdN X (.ExceptHandler (some (.Name x np)) none (b₀ :: suite) pos' :: hds) ((c, none, ts) :: l)
  | as {x n : Str} {i : Nat} {c : Value} {ts : Addr → Value → Option Addr → TS} {b₀ : Stmt} {suite : List Stmt} {np pos' : Pos} {hds : List ExceptHandler} {l : List (Value × Option Nat × (Addr → Value → Option Addr → TS))} (hc : Names X x c)
      (hi : X.N[i]? = some n) (hln : X.env.kindOf n = some .local)
      (hsu : ∀ (a : Addr) (oe : Obj) (cls : Value) (d : Option Addr) (pn : List (Addr × Obj)), Zc cls d oe → (∃ vs, oe.data = .fields vs) → PSs (X.suite a ((a, oe) :: pn)) (b₀ :: suite) (ts a cls d)) (r : HdN X hds l) :
      HdN X (.ExceptHandler (some (.Name x np)) (some n) (b₀ :: suite) pos' :: hds) ((c, some i, ts) :: l)
section
variable {X : Cx} {body : List Stmt} {h₀ : ExceptHandler} {hds : List ExceptHandler} {l : List (Value × Option Nat × (Addr → Value → Option Addr → TS))} {pos : Pos} {tb : WX → TS}
theorem ps_tryN (hs : X.stack = X.env :: X.outer) (hf : X.env.frame = some X.env.locals) (hN : X.N.Nodup)
    (hb : ∀ (W : WX) (pn : List (Addr × Obj)) (xe : Value → Shared → Prop), Takes (X.tr pn xe) W → PassesOwn (model X.prog X.w) X.A X.env xe → PSs (X.tr pn xe) body (tb W))
    (hh : HdN X (h₀ :: hds) l) : PS X (.Try body (h₀ :: hds) [] [] pos) (tTry X.K l tb) := by
  refine ⟨fun pins s σ H D I h => ?_⟩
  have ok := I.ok
  have hfr : X.A.frames = some (X.env :: X.outer) := by rw [ok.frames, hs]
  refine wpAny_Try_except ?_
  refine wpAny_mono ((hb (wN X.K D l) (X.pn ++ pins) (fun e s₁ => wpAny (model X.prog X.w) X.A (noteFrame e X.env) (fun _ s₂ => wpAny (model X.prog X.w) X.A (setFlight e none) (fun _ s₃ =>
    wpAny (model X.prog X.w) X.A (handleBy e X.env (h₀ :: hds)) (SP X pins D) X.xe s₃) X.xe s₂) X.xe s₁) (fun u s' xx => ?_) PassesOwn.looking).run [] s σ H D (I.toTry _) h) (fun f s1 hsp => ?_) (fun e s1 he => he)
  · obtain ⟨a, B, sI, pins', σ', H', cls, d, rfl, J', nb, up, sky, na, os, ag, w⟩ := xx
    have J : Inv X pins σ' H' sI := J'.ofTry ok
    have sky' : Sky B (X.env :: X.outer) a (Zc cls d) X.env.locals s'.heap := by rw [← hs]; exact sky
    show wpAny (model X.prog X.w) X.A (noteFrame (.ref a) X.env) _ _ _
    refine Sky.land Zc.steady hfr hf sky' fun h3 fl3 up3 => ?_
    have J3 : Inv X pins σ' H' { s' with heap := h3 } := J.landed nb fl3.1 (up.trans up3) os ag
    obtain ⟨oe3, vs3, he3, hz3, hd3⟩ := fl3.there
    have notFr : ∀ {h : Heap} {o : Obj} {vs : Array Value}, h.FunFrames B (X.env :: X.outer) → h.get? a = some o → o.data = .fields vs → a ∉ frs (X.env :: X.outer) := fun {h o vs} ff e dd hm => by
      obtain ⟨_, o', e', hnf⟩ := ff.mem hm
      rw [e] at e'; cases e'
      exact hnf _ dd
    have nfr := notFr fl3.2.2.1 he3 hd3
    have nL : a ≠ X.env.locals := fun z => nfr (List.mem_filterMap.mpr ⟨X.env, List.mem_cons_self, by rw [hf, z]⟩)
    have nF : a ∉ X.fs := fun hm => by
      obtain ⟨e, he, q⟩ := List.mem_filterMap.mp hm
      exact nfr (List.mem_filterMap.mpr ⟨e, List.mem_cons_of_mem _ he, q⟩)
    have S3 := J3.suite he3 hd3 na nL nF
    have LT : PySem.W.Looks (model X.prog X.w) h3 (typeOf (.ref a)) cls := fun A Q E s k q => wpAny_typeOf_ref (k _ _ he3) (by rw [hz3.1]; exact q)
    have test : ∀ {x : Str} {c : Value} {np : Pos} {Q : Value → Shared → Prop} {E : Value → Shared → Prop}, Names X x c → Q c { s' with heap := h3 } → wpAny (model X.prog X.w) (X.A.mark (some (.ref a))) (eval (.Name x np) X.env) Q E { s' with heap := h3 } := fun {x c np Q E} hc q => by
      obtain ⟨hg, hdbg, hm | ⟨hm, hv, hnn⟩⟩ := hc
      · exact ld_glob (X := X.suite a ((a, oe3) :: (X.pn ++ pins))) S3 hg hm q hdbg
      · exact ld_blt (X := X.suite a ((a, oe3) :: (X.pn ++ pins))) S3 hg hm hv q hnn hdbg
    have go : ∀ {hds' : List ExceptHandler} {l' : List (Value × Option Nat × (Addr → Value → Option Addr → TS))}, HdN X hds' l' → wN X.K D l' cls d σ' H' →
        wpAny (model X.prog X.w) X.A (handleBy (.ref a) X.env hds') (SP X pins D) X.xe { s' with heap := h3 } := by
      intro hds' l' hk
      induction hk with
      | stop => intro w; exact w.elim
      | @cons x c ts b₀ suite np pos' hds2 l2 hc hsu r ih =>
        intro w
        obtain ⟨b, hb1, hyes, hno⟩ := w
        refine wpAny_handleBy_cons (codeAny_handlers_test ?_) (by intro q; cases q)
        have LM := PySem.W.exm_one (M := model X.prog X.w) (J3.kIn) LT hb1
        refine test hc (LM.here ?_)
        cases b with
        | true =>
          refine codeAny_handlers_suite ?_
          refine HandSPX.lands_againZ fl3 fun h4 fl4 up4 => ?_
          have J4 : Inv X pins σ' H' { s' with heap := h4 } := J.landed nb fl4.1 ((up.trans up3).trans up4) os ag
          obtain ⟨oe4, vs4, he4, hz4, hd4⟩ := fl4.there
          have S4 := J4.suite he4 hd4 na nL nF
          refine wpAny_mono ((hsu a oe4 cls d (X.pn ++ pins) hz4 ⟨_, hd4⟩).run [] _ _ H' _ S4 (hyes rfl a na)) (fun f s6 hsp => ?_) (fun _ _ z => False.elim z)
          cases f with
          | next =>
            obtain ⟨σ6, H6, S6, q6⟩ := hsp
            exact ⟨_, _, S6.unsuite ok, q6⟩
          | brk =>
            obtain ⟨σ6, H6, S6, q6⟩ := hsp
            exact ⟨_, _, S6.unsuite ok, q6⟩
          | cont =>
            obtain ⟨σ6, H6, S6, q6⟩ := hsp
            exact ⟨_, _, S6.unsuite ok, q6⟩
          | ret u =>
            obtain ⟨v6, σ6, H6, S6, r6, q6⟩ := hsp
            exact ⟨_, _, _, S6.unsuite ok, r6, q6⟩
        | false =>
          show wpAny _ X.A (handleBy (.ref a) X.env hds2) _ _ _
          exact ih (hno rfl)
      | @as x n i c ts b₀ suite np pos' hds2 l2 hc hi hln hsu r ih =>
        intro w
        obtain ⟨b, hb1, hyes, hno⟩ := w
        have hloc : Loc X.env.scope n := .inl hln
        refine wpAny_handleBy_cons (codeAny_handlers_test ?_) (by intro q; cases q)
        have LM := PySem.W.exm_one (M := model X.prog X.w) (J3.kIn) LT hb1
        refine test hc (LM.here ?_)
        cases b with
        | true =>
          refine codeAny_handlers_suite_as ?_
          refine HandSPX.lands_againZ fl3 fun h4 fl4 up4 => ?_
          have J4 : Inv X pins σ' H' { s' with heap := h4 } := J.landed nb fl4.1 ((up.trans up3).trans up4) os ag
          obtain ⟨oe4, vs4, he4, hz4, hd4⟩ := fl4.there
          have S4 := J4.suite he4 hd4 na nL nF
          refine store_ok (X := X.suite a ((a, oe4) :: (X.pn ++ pins))) (v := .ref a) S4 hN hi hloc rfl (fun s5 S5 => ?_) (.inr hln)
          refine wpAny_mono ((hsu a oe4 cls d (X.pn ++ pins) hz4 ⟨_, hd4⟩).run [] s5 _ H' _ S5 (hyes rfl a na)) (fun f s6 hsp => ?_) (fun _ _ z => False.elim z)
          have end_ : ∀ {σ6 : L2.St} {H6 : Hp} {Q : Shared → Prop}, Inv (X.suite a ((a, oe4) :: (X.pn ++ pins))) [] σ6 H6 s6 → (∀ s7, Inv X pins (σ6.set i none) H6 s7 → Q s7) →
              wpAny (model X.prog X.w) X.A (do bindName X.env n .none; unbindBehindTheSuite X.env n pos') (fun _ s7 => Q s7) X.xe s6 := fun {σ6 H6 Q} S6 hq => gone_ok (S6.unsuite ok) hN hi hln hq
          cases f with
          | next =>
            obtain ⟨σ6, H6, S6, q6⟩ := hsp
            exact end_ S6 fun s7 J7 => ⟨_, _, J7, q6⟩
          | brk =>
            obtain ⟨σ6, H6, S6, q6⟩ := hsp
            exact end_ S6 fun s7 J7 => ⟨_, _, J7, q6⟩
          | cont =>
            obtain ⟨σ6, H6, S6, q6⟩ := hsp
            exact end_ S6 fun s7 J7 => ⟨_, _, J7, q6⟩
          | ret u =>
            obtain ⟨v6, σ6, H6, S6, r6, q6⟩ := hsp
            exact end_ S6 fun s7 J7 => ⟨_, _, _, J7, r6, q6⟩
        | false =>
          show wpAny _ X.A (handleBy (.ref a) X.env hds2) _ _ _
          exact ih (hno rfl)
    exact go hh w
  · cases f with
    | next =>
      obtain ⟨σ', H', J', q⟩ := hsp
      exact wpAny_execs_nil ⟨σ', H', J'.ofTry ok, q⟩
    | brk =>
      obtain ⟨σ', H', J', q⟩ := hsp
      exact ⟨σ', H', J'.ofTry ok, q⟩
    | cont =>
      obtain ⟨σ', H', J', q⟩ := hsp
      exact ⟨σ', H', J'.ofTry ok, q⟩
    | ret u =>
      obtain ⟨v, σ', H', J', r, q⟩ := hsp
      exact ⟨v, σ', H', J'.ofTry ok, r, q⟩
end
/-! ### defs that may raise, the guards told -/
structure CalX (P : Program) (w : World) (K : Fg) (mg : Str → Option Value) (base : Heap) (k : Nat) (x : Str) (ps : List Str) (sp : Sp) : Prop where
  ex : ∃ (f : Addr) (fd : FuncData), Tq.FnG P w K mg base (L2.CX P w) k f fd ps sp ∧ mg x = some (.ref f) ∧ PySem.W.keepIn K (.ref f) = true ∧ Binds K fd ps []
section
variable {P : Program} {w : World} {K : Fg} {mg : Str → Option Value} {base : Heap} {k : Nat} {x : Str} {ps N : List Str} {sp : Sp} {st : Stmt}
theorem okX (d : Tq.Df K mg x st ps) (Sc : FnScope N ps (defScope st)) (len : ∀ vs H Q E, sp vs H Q E → vs.length = ps.length)
    (hbody : ∀ (f : Addr) (cdv : Value) (A : Around) (outer : List Env) (s : Shared) (H : Hp) (vs : List V) (Q : VK) (E : XK), Room k (A.deeper (envOfC x (defScope st) s.heap.objs.size f cdv)) →
      (A.deeper (envOfC x (defScope st) s.heap.objs.size f cdv)).guards = some [] → sp vs H Q E →
      ∃ t, PSs (cxOf (L2.CX P w) P w K mg base N x (defScope st) f cdv A outer s H E) (defBody st) t ∧ t { nx := fun _ G => Q .non G, rt := Q } (start N vs) H) : CalX P w K mg base (k + 1) x ps sp := by
  obtain ⟨f, fd, F, hm, hb⟩ := d.ex
  have kp := F.kp
  obtain ⟨oc, od, kV, doc, pm, an, cdv, ct, osl, rfl, lk, hcd⟩ := F.ex
  exact ⟨f, _, Tq.fn_ofG lk hcd Sc len fun A outer s H vs Q E hr hgu hsp => hbody f cdv A outer s H vs Q E hr hgu hsp, hm, kp, hb⟩
theorem run_fnSG {X : Cx} {CX : CXT} {f : Addr} {fd : FuncData} {E : L2.St → XK} {pins : List (Addr × Obj)} {σ : L2.St} {H : Hp} {s : Shared} {Q : VK} {us : List Value} {vs : List V} (F : Tq.FnG X.prog X.w X.K X.mg X.base CX k f fd ps sp) (hr : Room k X.A) (hgu : X.A.guards = some []) (hb : Binds X.K fd ps []) (hx : PassesAt CX X σ (E σ))
    (I : Inv X pins σ H s) (r : Vals vs us) (h : sp vs H Q (E σ)) : wpAny (model X.prog X.w) X.A (call (.ref f) us) (EP X pins σ Q) X.xe s := by
  have hl : us.length = ps.length := by rw [← r.length]; exact F.len _ _ _ _ h
  have b := hb s us I.kIn (by rw [List.append_nil]; exact hl)
  rw [List.append_nil] at b
  refine wpAny_call (codeAny_mono (F.run X.A X.stack s H ⟨us, []⟩ us vs Q (E σ) hr hgu I.env0 b r h) fun r s' hq => ?_)
  cases r with
  | error e => exact hx pins H s e s' I hq
  | ok fl =>
    cases fl with
    | ret u => exact I.after hq
    | next => exact False.elim hq
    | brk => exact False.elim hq
    | cont => exact False.elim hq
theorem pe_calX {X : Cx} {W : WX} {p pos : Pos} {e : Expr} {es : List Expr} {t : TA} (c : CalX X.prog X.w X.K X.mg X.base k x ps sp) (hr : Room k X.A) (hgu : X.A.guards = some []) (hg : Gl X x) (tk : Takes X W) (ha : PA X (e :: es) t) (hdb : (x == ("__debug__" : Str)) = false := by decide)
    (he : starEach (e :: es) X.env = (false, eval e X.env) :: starEach es X.env := by rfl)
    (hpl : (backTo pos (starEach es X.env)).any (·.1) = false := by rfl) : PE X (.Call (.Name x p) (e :: es) [] pos) (tCallS sp (WE W) t) := by
  obtain ⟨f, fd, F, hm, hk, hb⟩ := c.ex
  refine ⟨fun pins s σ H Q I h => ?_⟩
  refine wpAny_Call_Name_kw (ld_glob I hg hm ?_ hdb)
  refine PySem.W.callWith_K (h₀ := X.base) I.ok.mod.kin hk (thn (ha.run pos pins s σ H _ I h) fun us s1 ⟨vs, H1, I1, r, q⟩ => ⟨I1.kIn, ?_⟩) he hpl
  exact run_fnSG (E := WE W) F hr hgu hb (passAt tk σ) I1 r q
end
end Ux

set_option maxRecDepth 100000
set_option maxHeartbeats 2000000
namespace Ux
open PySem PySem.Spec PyProof.Rows L2 Tq
/-! ### what a thing is at present -/
def kvD (kvs : List (Key × D)) : List (Key × Z) := kvs.map fun p => (p.1, .d p.2)
def dD (kvs : List (Key × D)) : D := .dict (kvs.map fun p => (kD p.1, p.2))
inductive ResC : Cell → D → Prop
  | lst (ds : List D) : ResC (.lst (ds.map Z.d)) (.list ds)
  | dic (kvs : List (Key × D)) : ResC (.dic (kvD kvs)) (dD kvs)
  | ro {c : Cell} {d : D} : ResC c d → ResC (.ro c) d
inductive Res (m : List Cl) : Z → D → Prop
  | d (d : D) : Res m (.d d) d
  | lab {e : Cl} {d : D} : e ∈ m → ResC e.c d → Res m (.lab e.a) d
inductive ResA (m : List Cl) : List Z → List D → Prop
  | nil : ResA m [] []
  | cons {z : Z} {d : D} {zs : List Z} {ds : List D} : Res m z d → ResA m zs ds → ResA m (z :: zs) (d :: ds)
theorem ResA.ds {m : List Cl} : ∀ (ds : List D), ResA m (ds.map Z.d) ds
  | [] => .nil
  | d :: ds => .cons (.d d) (ResA.ds ds)
theorem ResA.len {m : List Cl} : ∀ {zs : List Z} {ds : List D}, ResA m zs ds → zs.length = ds.length
  | _, _, .nil => rfl
  | _, _, .cons _ b => congrArg (· + 1) b.len
/-- all are for reading alone -/
def Cell.toRo : Cell → Cell
  | .ro c => .ro c
  | c => .ro c
def roM (m : List Cl) : List Cl := m.map fun e => ⟨e.a, false, e.c.toRo⟩
theorem toRo_ro (c : Cell) : c.toRo.isRo = true := by cases c <;> rfl
theorem toRo_ok {K : Fg} {M : Addr → Prop} {H : Hp} {a : Addr} {c : Cell} (h : CellOk K M H a c) : CellOk K M H a c.toRo := by cases c <;> exact h
theorem toRo_res {c : Cell} {d : D} (h : ResC c d) : ResC c.toRo d := by
  cases h with
  | lst ds => exact .ro (.lst ds)
  | dic ds => exact .ro (.dic ds)
  | ro h => exact .ro h
theorem Res.rom {m : List Cl} {z : Z} {d : D} (h : Res m z d) : Res (roM m) z d := by
  cases h with
  | d d => exact .d d
  | @lab e d he hc => exact .lab (e := ⟨e.a, false, e.c.toRo⟩) (List.mem_map.mpr ⟨e, he, rfl⟩) (toRo_res hc)
theorem ResA.rom {m : List Cl} : ∀ {zs : List Z} {ds : List D}, ResA m zs ds → ResA (roM m) zs ds
  | _, _, .nil => .nil
  | _, _, .cons a b => .cons a.rom b.rom
theorem dom_roM {m : List Cl} {a : Addr} : Dom (roM m) a ↔ Dom m a := by
  constructor
  · rintro ⟨e, h1, h2⟩
    obtain ⟨e', h3, rfl⟩ := List.mem_map.mp h1
    exact ⟨e', h3, h2⟩
  · rintro ⟨e, h1, h2⟩
    exact ⟨_, List.mem_map.mpr ⟨e, h1, rfl⟩, h2⟩
def MvX (F : Fr) (σ : St) (y : S) (a : Addr) : Prop := Mv F σ y a ∧ ¬ Dom y.m a
theorem rpk_of {K : Fg} {M : Addr → Prop} {H : Hp} : ∀ {ks : List (Key × V)} {kvs : List (Key × D)}, RwK K M H ks (kvD kvs) → RpK K M H ks (kvs.map fun p => (kD p.1, p.2))
  | [], [], _ => .nil
  | _ :: _, [], h => by cases h
  | [], _ :: _, h => by cases h
  | _ :: _, (k, d) :: r, h => by
    cases h with | cons a b => cases a with | d a => exact .cons a (rpk_of b)
theorem ResC.rp {K : Fg} {M N : Addr → Prop} {H : Hp} {a : Addr} {c : Cell} {d : D} (h : ResC c d) (g : GoH M H N H) (n : ¬ N a) (ok : CellOk K M H a c) : Rp K N H (.ref a) d := by
  induction h with
  | lst ds =>
    obtain ⟨xs, h1, h2⟩ := ok
    exact .lst (.inl ⟨n, .inl h1⟩) (h2.ds.go g)
  | dic kvs =>
    obtain ⟨ks, h1, h2⟩ := ok
    exact .dic n h1 ((rpk_of h2).go g)
  | ro _ ih => exact ih ok
theorem Res.rp {K : Fg} {F : Fr} {σ : St} {y : S} {H : Hp} {v : V} {z : Z} {d : D} (w : Wd0 K F σ y H) (h : Res y.m z d) (r : Rw K (Mv F σ y) H v z) : Rp K (MvX F σ y) H v d := by
  have g : GoH (Mv F σ y) H (MvX F σ y) H := fun a o n e => ⟨fun q => n q.1, e⟩
  cases h with
  | d d => cases r with | d r => exact r.go g
  | @lab e d he hc =>
    cases r
    exact hc.rp g (fun q => q.2 ⟨e, he, rfl⟩) (w.cell e he)
theorem ResA.rp {K : Fg} {F : Fr} {σ : St} {y : S} {H : Hp} (w : Wd0 K F σ y H) : ∀ {vs : List V} {zs : List Z} {ds : List D}, ResA y.m zs ds → RwA K (Mv F σ y) H vs zs → RpA K (MvX F σ y) H vs ds
  | _, _, _, .nil, .nil => .nil
  | _, _, _, .cons a b, .cons c d => .cons (a.rp w c) (b.rp w d)
theorem sc_rp {K : Fg} {M N : Addr → Prop} {H : Hp} {v : V} {d : D} (h : scD d = true) (r : Rp K M H v d) : Rp K N H v d := by
  cases r with
  | non => exact .non
  | bl b => exact .bl b
  | int b => exact .int b
  | str b => exact .str b
  | lst _ _ => cases h
  | tup _ _ => cases h
  | dic _ _ _ => cases h
/-! ### calls of defs over data -/
section
variable {C : Ct} {y : S} {ts : TA} {te : TE} {Q : Z → S → Prop} {E : XK} {n : Nat} {pre : List D → Prop} {post : List D → D → Prop} {cost : List D → Nat} {e : En}
theorem wE_pure (w : wD C ts y fun ds y1 => ds.length = n ∧ pre ds ∧ ∀ d, post ds d → Q (.d d) y1) : wE C (tCall (pureSp C.K n pre post) [] E ts) y Q := by
  intro F σ H K wd k
  refine w F σ H _ wd fun vs H1 ds y1 w1 g1 s1 r1 ⟨hn, hp, q⟩ => ?_
  rw [List.append_nil]
  exact ⟨Mv F σ y1, ds, fun a m e => w1.new e m, r1, hn, hp, fun d v H2 hd gr rv => k v H2 (.d d) y1 (w1.grow gr) (g1.trans (go_grow gr)) s1 rv (q d hd)⟩
theorem wE_det {G : List D → D} (w : wD C ts y fun ds y1 => (ds.length = n ∧ pre ds) ∧ Q (.d (G ds)) y1) : wE C (tCall (detSp C.K n pre G) [] E ts) y Q :=
  wE_pure (wD_mono w fun ds y1 ⟨⟨h1, h2⟩, q⟩ => ⟨h1, h2, fun d e => by subst e; exact q⟩)
/-- what is handed in is taken as it is at present; the answer is plain -/
theorem wE_pureR (w : wZ C ts y fun zs y1 => ∃ ds, ResA y1.m zs ds ∧ ds.length = n ∧ pre ds ∧ ∀ d, post ds d → scD d = true ∧ Q (.d d) y1) : wE C (tCall (pureSp C.K n pre post) [] E ts) y Q := by
  intro F σ H K wd k
  refine w F σ H _ wd fun vs H1 zs y1 w1 g1 s1 r1 ⟨ds, hr, hn, hp, q⟩ => ?_
  rw [List.append_nil]
  exact ⟨MvX F σ y1, ds, fun a m e => w1.new e m.1, hr.rp w1.toWd0 r1, hn, hp, fun d v H2 hd gr rv => k v H2 (.d d) y1 (w1.grow gr) (g1.trans (go_grow gr)) s1 (sc_rp (q d hd).1 rv) (q d hd).2⟩
theorem wE_detR {G : List D → D} (w : wZ C ts y fun zs y1 => ∃ ds, ResA y1.m zs ds ∧ (ds.length = n ∧ pre ds) ∧ scD (G ds) = true ∧ Q (.d (G ds)) y1) : wE C (tCall (detSp C.K n pre G) [] E ts) y Q :=
  wE_pureR (wZ_mono w fun zs y1 ⟨ds, h0, ⟨h1, h2⟩, hs, q⟩ => ⟨ds, h0, h1, h2, fun d e => by subst e; exact ⟨hs, q⟩⟩)
theorem wE_pu {i j : Nat} {p : Addr} {b : Bool} {m0 : Nat} (hi : y.l[i]? = some (some (.lab p))) (hj : y.m[j]? = some ⟨p, b, .pu m0⟩)
    (w : wD C ts y fun ds y1 => ∃ m, y1.m[j]? = some ⟨p, b, .pu m⟩ ∧ ds.length = n ∧ pre ds ∧ cost ds ≤ m ∧ ∀ d, post ds d → Q (.d d) ⟨y1.l, y1.m.set j ⟨p, b, .pu (m - cost ds)⟩⟩) :
    wE C (tCall (puSp C.K n pre cost post) [] E (tCons (tVar i) ts)) y Q := by
  intro F σ H K wd k
  obtain ⟨x, h1, h2⟩ := wd.slot i _ hi
  cases h2
  refine ⟨.ref p, h1, w F σ H _ wd fun vs H1 ds y1 w1 g1 s1 r1 ⟨m, hj1, hn, hp, hc, q⟩ => ?_⟩
  show puSp C.K n pre cost post ((.ref p :: vs) ++ []) H1 K E
  rw [List.append_nil]
  have hm : (⟨p, b, .pu m⟩ : Cl) ∈ y1.m := List.mem_of_getElem? hj1
  refine ⟨Mv F σ y1, p, vs, ds, m, rfl, .inr ⟨_, hm, rfl⟩, fun a m e => w1.new e m, w1.cell _ hm, r1, hn, hp, hc, fun d v H2 hd kp pk rv => ?_⟩
  obtain ⟨w2, g2, s2⟩ := w1.cmut (H' := H2) (c' := .pu (m - cost ds)) hj1 rfl rfl kp fun M _ g => pk
  refine k v H2 (.d d) _ w2 (g1.trans g2) (s1.trans s2) (Rp.go (fun a o na e => ⟨fun z => na (z.elim .inl fun ⟨e', q1, q2⟩ => .inr ?_), e⟩) rv) (q d hd)
  rcases mem_set_or q1 with q1 | q1
  · subst q1; exact ⟨_, hm, q2⟩
  · exact ⟨e', q1, q2⟩
/-- a draw -/
theorem wE_take {i j : Nat} {p : Addr} {b : Bool} {m0 : Nat} (hi : y.l[i]? = some (some (.lab p))) (hj : y.m[j]? = some ⟨p, b, .pu m0⟩)
    (w : wE C te y fun z y1 => ∃ (k : Int) (m : Nat), z = .d (.int k) ∧ y1.m[j]? = some ⟨p, b, .pu m⟩ ∧ (0 < k ∧ k ≤ 10 ^ 40 ∧ 1 ≤ m) ∧ ∀ r : Int, 0 ≤ r → r < k → Q (.d (.int r)) ⟨y1.l, y1.m.set j ⟨p, b, .pu (m - 1)⟩⟩) :
    wE C (tCall (spTake C.K) [] E (tCons (tVar i) (tCons te tNil))) y Q := by
  refine wE_pu hi hj (wD_cons (wE_mono w fun z y1 ⟨k, m, e, hm, ⟨h0, h1, h2⟩, q⟩ => ⟨_, e, wD_nil ⟨m, hm, rfl, ⟨k, rfl, h0, ?_⟩, h2, fun d hd => ?_⟩⟩))
  · have hb : k.natAbs < 2 ^ 200 := Nat.lt_of_le_of_lt (show k.natAbs ≤ 10 ^ 40 by omega) (by decide)
    exact Nat.lt_of_lt_of_le (log2_lt hb (by decide)) (by decide)
  · obtain ⟨k', r, e1, e2, h3, h4⟩ := hd
    cases e1
    subst e2
    exact q r h3 h4
/-- purse = _law_purse(c) -/
theorem wE_purse (w : wD C ts y fun ds y1 => ∃ c : Int, ds = [.int c] ∧ ∀ p, Q (.lab p) ⟨y1.l, y1.m ++ [⟨p, true, .pu 8000000⟩]⟩) : wE C (tCall spPurse [] E ts) y Q := by
  intro F σ H K wd k
  refine w F σ H _ wd fun vs H1 ds y1 w1 g1 s1 r1 ⟨c, hc, q⟩ => ?_
  subst hc
  obtain ⟨v, rfl, rv⟩ := rpA1 r1
  refine ⟨c, by rw [rp_int rv]; rfl, fun p x b hn hx hb hb2 => ?_⟩
  obtain ⟨w2, g2, s2⟩ := w1.cnew (o := .lst [.int x, .int b, .int 0]) (c := .pu 8000000) (b := true) hn fun M g => ⟨x, b, 0, upd_same, hx, hb, hb2, by decide, by decide⟩
  exact k _ _ (.lab p) _ w2 (g1.trans g2) (s1.trans s2) (.lab p) (q p)
end
/-! ### bodies -/
section
variable {K : Fg} {N : List Str} {t : TS} {vs : List V} {H : Hp} {Q : VK} {E : XK} {n : Nat} {pre : List D → Prop} {post : List D → D → Prop} {cost : List D → Nat}
def l0 (N : List Str) (zs : List Z) : List (Option Z) := zs.map some ++ List.replicate (N.length - zs.length) none
theorem l0_slot {M : Addr → Prop} {zs : List Z} {i : Nat} {z : Z} (r : RwA K M H vs zs) (e : (l0 N zs)[i]? = some (some z)) : ∃ x, (start N vs)[i]? = some (some x) ∧ Rw K M H x z := by
  have e1 := getElem?_app_none e
  rw [List.getElem?_map] at e1
  cases q : zs[i]? with
  | none => rw [q] at e1; cases e1
  | some d =>
    rw [q] at e1
    cases e1
    obtain ⟨v, hv, rv⟩ := r.get q
    exact ⟨v, start_get hv, rv⟩
theorem l0_len {M : Addr → Prop} {zs : List Z} (r : RwA K M H vs zs) : (start N vs).length = (l0 N zs).length := by
  unfold L2.start l0
  rw [List.length_append, List.length_append, List.length_map, List.length_map, List.length_replicate, List.length_replicate, r.len]
theorem pure_body (h : pureSp K n pre post vs H Q E) (b : ∀ ds, ds.length = n → pre ds → ∀ e : En, (∀ y, post ds .none → e.nx y) → (∀ d y, post ds d → e.rt (.d d) y) → wS { K := K } t ⟨l0 N (ds.map Z.d), []⟩ e) :
    t { nx := fun _ G => Q .non G, rt := Q } (start N vs) H := by
  obtain ⟨M, ds, al, r, l, hp, k⟩ := h
  refine b ds l hp { nx := fun _ => post ds .none, rt := fun z _ => ∃ d, z = .d d ∧ post ds d } (fun _ q => q) (fun d _ q => ⟨d, rfl, q⟩) ⟨H, fun _ => False, M, true⟩ (start N vs) H _ rfl
    ⟨⟨fun a o _ e => e, al, al, l0_len (RwA.of r), fun i z e => ?_, fun e he => (nomatch he), List.Pairwise.nil, fun e he => (nomatch he), fun a z => z.elim, fun _ e he => (nomatch he)⟩, fun _ _ _ _ _ _ _ _ _ z => z.elim⟩
    ⟨fun σ' H' y' w g q => ?_, fun σ' v H' z y' w g rz q => ?_, fun _ _ _ _ _ q => q.elim, fun _ _ _ _ _ q => q.elim⟩
  · obtain ⟨x, h1, h2⟩ := l0_slot (RwA.of r) e
    exact ⟨x, h1, h2.go fun a o na e => ⟨fun z => z.elim na fun ⟨_, q, _⟩ => (nomatch q), e⟩⟩
  · exact k .none .non H' q (fun a o e => w.keep a o (fun z => z) e) .non
  · obtain ⟨d, rfl, q⟩ := q
    exact k d v H' q (fun a o e => w.keep a o (fun z => z) e) (Rp.go (fun a o n e => ⟨fun z => n (.inl z), e⟩) rz)
theorem pu_body (h : puSp K n pre cost post vs H Q E) (b : ∀ ds m p, ds.length = n → pre ds → cost ds ≤ m → ∀ e : En, (∀ y k o, post ds .none → (⟨p, o, .pu k⟩ : Cl) ∈ y.m → m - cost ds ≤ k → e.nx y) → (∀ d y k o, post ds d → (⟨p, o, .pu k⟩ : Cl) ∈ y.m → m - cost ds ≤ k → e.rt (.d d) y) →
      wS { K := K } t ⟨l0 N (.lab p :: ds.map Z.d), [⟨p, false, .pu m⟩]⟩ e) : t { nx := fun _ G => Q .non G, rt := Q } (start N vs) H := by
  obtain ⟨M, p, us, ds, m, rfl, mp, al, pk, r, l, hp, hc, k⟩ := h
  have rr : RwA K M H (.ref p :: us) (.lab p :: ds.map Z.d) := .cons (.lab p) (RwA.of r)
  have hM : ∀ {a : Addr}, Mv ⟨H, fun a => a = p, M, true⟩ (start N (.ref p :: us)) ⟨l0 N (.lab p :: ds.map Z.d), [⟨p, false, .pu m⟩]⟩ a → M a := fun {a} z => z.elim (fun z => z) fun ⟨e, q1, q2⟩ => by
    rw [List.mem_singleton] at q1; subst q1; exact q2 ▸ mp
  have fin : ∀ {σ' : St} {H' : Hp} {y' : S} {q : Nat} {o : Bool}, Wd { K := K } ⟨H, fun a => a = p, M, true⟩ σ' y' H' → (⟨p, o, .pu q⟩ : Cl) ∈ y'.m → m - cost ds ≤ q → PuOk H' p (m - cost ds) := fun {σ' H' y' q o} w e hq => PuOk.mono (w.cell _ e) hq
  refine b ds m p l hp hc { nx := fun y => post ds .none ∧ ∃ k o, (⟨p, o, .pu k⟩ : Cl) ∈ y.m ∧ m - cost ds ≤ k, rt := fun z y => ∃ d k o, z = .d d ∧ post ds d ∧ (⟨p, o, .pu k⟩ : Cl) ∈ y.m ∧ m - cost ds ≤ k }
    (fun y k o q1 q2 q3 => ⟨q1, k, o, q2, q3⟩) (fun d y k o q1 q2 q3 => ⟨d, k, o, rfl, q1, q2, q3⟩) ⟨H, fun a => a = p, M, true⟩ (start N (.ref p :: us)) H _ rfl
    ⟨⟨fun a o _ e => e, al, al, l0_len rr, fun i z e => ?_, fun e he => ?_, List.pairwise_singleton _ _, fun e he _ => ?_, fun a z => (show a = p from z) ▸ mp, fun _ e he ho => ?_⟩, fun _ _ _ _ _ _ _ _ _ z => z.elim⟩
    ⟨fun σ' H' y' w g q => ?_, fun σ' v H' z y' w g rz q => ?_, fun _ _ _ _ _ q => q.elim, fun _ _ _ _ _ q => q.elim⟩
  · obtain ⟨x, h1, h2⟩ := l0_slot rr e
    exact ⟨x, h1, h2.go fun a o na e => ⟨fun z => na (hM z), e⟩⟩
  · rw [List.mem_singleton] at he; subst he; exact pk
  · rw [List.mem_singleton] at he; subst he; exact .inl rfl
  · rw [List.mem_singleton] at he; subst he; cases ho
  · obtain ⟨q1, c, o, q2, q3⟩ := q
    exact k .none .non H' q1 (fun a o n e => w.keep a o n e) (fin w q2 q3) .non
  · obtain ⟨d, c, o, rfl, q1, q2, q3⟩ := q
    exact k d v H' q1 (fun a o n e => w.keep a o n e) (fin w q2 q3) (Rp.go (fun a o n e => ⟨fun z => n (.inl z), e⟩) rz)
theorem law_body (h : spLaw K vs H Q E) (b : ∀ ns : List Int, ns.length ≤ 63 → ∀ e : En, (∀ y, e.rt (.d (.bool true)) y) → wS { K := K } t ⟨l0 N [.d (.list (ns.map PyData.int))], []⟩ e) :
    t { nx := fun _ G => Q .non G, rt := Q } (start N vs) H := by
  obtain ⟨a, ns, rfl, hs, hl, k⟩ := h
  refine pure_body (K := K) (n := 1) (pre := fun ds => ds = [.list (ns.map PyData.int)]) (post := fun _ d => d = .bool true) (Q := Q) (E := fun _ _ _ => False) ⟨fun _ => False, [.list (ns.map PyData.int)], fun a z => z.elim, .cons (.lst ?_ (rpA_int ns)) .nil, rfl, rfl, fun d v H' e _ r => ?_⟩ ?_
  · rcases hs with hs | hs
    · exact .inl ⟨fun z => z, hs⟩
    · exact .inr hs
  · subst e
    rw [rp_bl r]
    exact k H'
  · rintro ds _ rfl e hn hr
    exact b ns hl e fun y => hr _ y rfl
end
/-! ### defs that read, and may raise -/
def xSp (K : Fg) (n : Nat) (pre : List Z → List D → Prop) (post : List Z → List D → Z → Prop) (xp : List Z → List D → Ex → Prop) : Sp := fun vs H Q E => ∃ (M : Addr → Prop) (m : List Cl) (zs : List Z) (ds : List D),
  (∀ a, M a → H a ≠ none) ∧ RwA K M H vs zs ∧ (∀ e ∈ m, M e.a ∧ CellOk K M H e.a e.c) ∧ (m.Pairwise fun e e' => e.a ≠ e'.a) ∧ ResA m zs ds ∧ zs.length = n ∧ pre zs ds ∧
  (∀ z v H', post zs ds z → (∀ a o, H a = some o → H' a = some o) → Rw K M H' v z → Q v H') ∧
  (∀ ex a v H', xp zs ds ex → (∀ a o, H a = some o → H' a = some o) → H a = none → H' a = some (.xd [(keyZ ex.found, v)]) → Rw K M H' v (valZ ex.found) → E ex.cls (some a) H')
theorem xSp_len {K : Fg} {n : Nat} {pre : List Z → List D → Prop} {post : List Z → List D → Z → Prop} {xp : List Z → List D → Ex → Prop} {ps : List Str} (h : ps.length = n) : ∀ vs H Q E, xSp K n pre post xp vs H Q E → vs.length = ps.length := by
  rintro vs H Q E ⟨M, m, zs, ds, _, r, _, _, _, l, _⟩
  rw [r.len, l, h]
section
variable {K : Fg} {N : List Str} {t : TS} {vs : List V} {H : Hp} {Q : VK} {E : XK} {n : Nat} {pre : List Z → List D → Prop} {post : List Z → List D → Z → Prop} {xp : List Z → List D → Ex → Prop}
theorem x_body (h : xSp K n pre post xp vs H Q E) (b : ∀ m zs ds, zs.length = n → ResA m zs ds → pre zs ds → ∀ e : En, (∀ y, post zs ds (.d .none) → e.nx y) → (∀ z y, post zs ds z → e.rt z y) →
      wS { K := K, W := fun cls d _ H' => E cls d H', ex := fun ex _ => xp zs ds ex } t ⟨l0 N zs, m⟩ e) : t { nx := fun _ G => Q .non G, rt := Q } (start N vs) H := by
  obtain ⟨M, m, zs, ds, al, r, cs, pw, rs, l, hp, k1, k2⟩ := h
  have hM : ∀ {a : Addr} {σ : St} {l : List (Option Z)}, Mv ⟨H, fun _ => False, M, true⟩ σ ⟨l, roM m⟩ a → M a := fun {a σ l} z => z.elim (fun z => z) fun q => by
    obtain ⟨e, q1, q2⟩ := dom_roM.mp q
    exact q2 ▸ (cs e q1).1
  have gM : GoH M H (Mv ⟨H, fun _ => False, M, true⟩ (start N vs) ⟨l0 N zs, roM m⟩) H := fun a o na e => ⟨fun z => na (hM z), e⟩
  refine b (roM m) zs ds l rs.rom hp { nx := fun _ => post zs ds (.d .none), rt := fun z _ => post zs ds z } (fun _ q => q) (fun d _ q => q) ⟨H, fun _ => False, M, true⟩ (start N vs) H _ rfl
    ⟨⟨fun a o _ e => e, al, al, l0_len r, fun i z e => ?_, fun e he => ?_, ?_, fun e he hr => ?_, fun a z => z.elim, fun _ e he ho => ?_⟩, fun σ' y' H' ex cls d w g x q => ?_⟩
    ⟨fun σ' H' y' w g q => ?_, fun σ' v H' z y' w g rz q => ?_, fun _ _ _ _ _ q => q.elim, fun _ _ _ _ _ q => q.elim⟩
  · obtain ⟨x, h1, h2⟩ := l0_slot r e
    exact ⟨x, h1, h2.go gM⟩
  · obtain ⟨e', q1, rfl⟩ := List.mem_map.mp he
    exact toRo_ok ((cs e' q1).2.go gM fun _ q => q)
  · unfold roM
    rw [List.pairwise_map]
    exact pw
  · obtain ⟨e', q1, rfl⟩ := List.mem_map.mp he
    rw [toRo_ro] at hr; cases hr
  · obtain ⟨e', q1, rfl⟩ := List.mem_map.mp he
    cases ho
  · obtain ⟨rfl, a, v, rfl, x1, x2, x3, x4⟩ := x
    exact k2 ex a v H' q (fun a o e => w.keep a o (fun z => z) e) x3 x1 (x4.go fun a o n e => ⟨fun z => n (.inl z), e⟩)
  · exact k1 (.d .none) .non H' q (fun a o e => w.keep a o (fun z => z) e) (.d .non)
  · exact k1 z v H' q (fun a o e => w.keep a o (fun z => z) e) (rz.w.go fun a o n e => ⟨fun z => n (.inl z), e⟩)
end
section
variable {C : Ct} {y : S} {ts : TA} {te : TE} {Q : Z → S → Prop} {n : Nat} {pre : List Z → List D → Prop} {post : List Z → List D → Z → Prop} {xp : List Z → List D → Ex → Prop} {e : En}
theorem wE_x (w : wZ C ts y fun zs y1 => ∃ ds, ResA y1.m zs ds ∧ (zs.length = n ∧ pre zs ds) ∧ (∀ z, post zs ds z → Q z y1) ∧ ∀ ex, xp zs ds ex → C.ex ex y1) : wE C (tCallS (xSp C.K n pre post xp) (WE C.W) ts) y Q := by
  intro F σ H K wd k
  refine w F σ H _ wd fun vs H1 zs y1 w1 g1 s1 r1 ⟨ds, hr, ⟨hn, hp⟩, q, x⟩ => ?_
  refine ⟨Mv F σ y1, y1.m, zs, ds, fun a m e => w1.new e m, r1, fun e he => ⟨.inr ⟨e, he, rfl⟩, w1.cell e he⟩, w1.dist, hr, hn, hp, fun z v H2 hz gr rv => k v H2 z y1 (w1.grow gr) (g1.trans (go_grow gr)) s1 rv.z (q z hz), fun ex a v H2 hx gr ha ha2 rv => ?_⟩
  exact w1.xk σ y1 H2 ex ex.cls (some a) (w1.grow gr).toWd0 (go_grow gr) ⟨rfl, a, v, rfl, ha2, w1.new ha, w1.newH0 ha, rv⟩ (x ex hx)
theorem wS_raise {K : Fg} {Cc : Addr} (hK : K = C.K) (oc : OexC C.K Cc) (no : PySem.W.findIn C.K (.ref Cc) "found" = some none) (w : wZ C ts y fun zs y1 => ∃ z, zs = [z] ∧ C.ex ⟨.ref Cc, z⟩ y1) : wS C (tRaiseF K Cc C.W ts) y e := by
  subst hK
  intro F σ H E st wd k
  refine w F σ H _ wd fun vs H1 zs y1 w1 g1 s1 r1 ⟨z, ez, x⟩ => ?_
  subst ez
  cases r1 with | @cons v _ vs _ rv r2 =>
  cases r2
  refine mkO_of (Q := fun cls d H' => C.W cls d σ H') oc no fun d hd => ?_
  have gr := grow_upd (o := .xd [(("found" : Str), v)]) hd
  exact w1.xk σ y1 _ ⟨.ref Cc, z⟩ (.ref Cc) (some d) (w1.grow gr).toWd0 (go_grow gr) ⟨rfl, d, v, rfl, by rw [rv.kz.1]; exact upd_same, w1.new hd, w1.newH0 hd, by rw [rv.kz.2]; exact rv.go (go_grow (F := F) (σ := σ) (y := y1) gr)⟩ x
/-- e.found in a suite -/
theorem wE_found {a dd Cc : Addr} {i : Nat} {z : Z} {cls : Value} (hc : cls = .ref Cc) (hi : y.l[i]? = some (some (.exc a dd z))) (kz : keyZ z = "found" ∧ valZ z = z) (q : Q z y) : wE C (tXf a cls (some dd) Cc "found" (tVar i)) y Q := by
  intro F σ H K wd k
  obtain ⟨x, h1, h2⟩ := wd.slot i _ hi
  cases h2 with
  | @exc _ _ v _ n c1 c2 =>
    rw [kz.1] at c1
    rw [kz.2] at c2
    exact ⟨.ref a, h1, rfl, hc, dd, _, v, rfl, c1, by simp [List.lookup], k v H z y wd GoH.refl (Sh.refl y) c2.z q⟩
/-- e.f in a suite -/
theorem wE_field {a dd Cc : Addr} {i : Nat} {z : Z} {f : Str} {cls : Value} (hc : cls = .ref Cc) (hi : y.l[i]? = some (some (.exc a dd (.nm f z)))) (q : Q z y) : wE C (tXf a cls (some dd) Cc f (tVar i)) y Q := by
  intro F σ H K wd k
  obtain ⟨x, h1, h2⟩ := wd.slot i _ hi
  cases h2 with
  | @exc _ _ v _ n c1 c2 =>
    have c1 : H dd = some (.xd [(f, v)]) := c1
    exact ⟨.ref a, h1, rfl, hc, dd, _, v, rfl, c1, by simp [List.lookup], k v H z y wd GoH.refl (Sh.refl y) (Rw.z (z := z) c2) q⟩
end
/-! ### try -/
def Hd (C : Ct) (K : Fg) (e : En) : List (Value × Option Nat × (Addr → Value → Option Addr → TS)) → Ex → S → Prop
  | [], _, _ => False
  | (c, none, ts) :: r, ex, y => ∃ b, PySem.W.exmOne K ex.cls c = some b ∧ (b = true → ∀ a dd : Addr, wS C (ts a ex.cls (some dd)) y e) ∧ (b = false → Hd C K e r ex y)
  | (c, some i, ts) :: r, ex, y => ∃ b, PySem.W.exmOne K ex.cls c = some b ∧ (b = true → ∀ a dd : Addr, wS C (ts a ex.cls (some dd)) (y.set i (some (.exc a dd ex.found)))
      { nx := fun y' => e.nx (y'.set i none), rt := e.rt, bk := fun y' => e.bk (y'.set i none), ct := fun y' => e.ct (y'.set i none) }) ∧ (b = false → Hd C K e r ex y)
theorem Wd.unset {C : Ct} {F : Fr} {σ : St} {y : S} {H : Hp} (w : Wd C F σ y H) (i : Nat) : Wd C F (σ.set i none) (y.set i none) H := by
  refine w.to ⟨w.keep, w.live0, w.live, by show (σ.set i _).length = (y.l.set i _).length; rw [List.length_set, List.length_set]; exact w.len, fun j z e => ?_, w.cell, w.dist, w.frsh, w.sm, w.nb⟩ go_set
  have e' : (y.l.set i none)[j]? = some (some z) := e
  by_cases n : j = i
  · subst n
    have hl : j < y.l.length := by
      have := (List.getElem?_eq_some_iff.mp e').1
      rw [List.length_set] at this; exact this
    rw [List.getElem?_set_self hl] at e'
    cases e'
  · rw [List.getElem?_set_ne (Ne.symm n)] at e' ⊢
    exact w.slot j z e'
theorem wS_try {C : Ct} {y : S} {e : En} {tb : WX → TS} {l : List (Value × Option Nat × (Addr → Value → Option Addr → TS))} (w : ∀ W, wS { C with W := W, ex := Hd C C.K e l } (tb W) y e) : wS C (tTry C.K l tb) y e := by
  intro F σ H D st wd k
  have chg : ∀ {σ' : St} {y' : S} {H' : Hp}, Wd { C with W := wN C.K D l, ex := Hd C C.K e l } F σ' y' H' → Go F σ y H σ' y' H' → Wd C F σ' y' H' := fun {σ' y' H'} w' g => wd.to w'.toWd0 g
  refine w (wN C.K D l) F σ H D st ⟨wd.toWd0, fun σ' y' H' ex cls d w0 g x q => ?_⟩ ⟨fun σ' H' y' w' g q => k.nx σ' H' y' (chg w' g) g q, fun σ' v H' z y' w' g r q => k.rt σ' v H' z y' (chg w' g) g r q, fun σ' H' y' w' g q => k.bk σ' H' y' (chg w' g) g q, fun σ' H' y' w' g q => k.ct σ' H' y' (chg w' g) g q⟩
  have w1 : Wd C F σ' y' H' := wd.to w0 g
  obtain ⟨rfl, dd, v, rfl, x1, x2, x3, x4⟩ := x
  have key : ∀ l : List (Value × Option Nat × (Addr → Value → Option Addr → TS)), Hd C C.K e l ex y' → wN C.K D l ex.cls (some dd) σ' H' := by
    intro l
    induction l with
    | nil => exact fun z => z
    | cons cl r ih =>
      obtain ⟨c, i, ts⟩ := cl
      cases i with
      | none =>
        rintro ⟨b, hb, hy, hn⟩
        refine ⟨b, hb, fun hbt a ha => ?_, fun hbf => ih (hn hbf)⟩
        exact hy hbt a dd F σ' H' D st w1 ⟨fun σ3 H3 y3 w3 g3 q => k.nx σ3 H3 y3 w3 (g.trans g3) q, fun σ3 v3 H3 z3 y3 w3 g3 r q => k.rt σ3 v3 H3 z3 y3 w3 (g.trans g3) r q, fun σ3 H3 y3 w3 g3 q => k.bk σ3 H3 y3 w3 (g.trans g3) q, fun σ3 H3 y3 w3 g3 q => k.ct σ3 H3 y3 w3 (g.trans g3) q⟩
      | some i =>
        rintro ⟨b, hb, hy, hn⟩
        refine ⟨b, hb, fun hbt a ha => ?_, fun hbf => ih (hn hbf)⟩
        have w3 := w1.set_z (i := i) (v := .ref a) (z := .exc a dd ex.found) (.exc x2 x1 x4)
        have g3 : Go F σ y H (σ'.set i (some (.ref a))) (y'.set i (some (.exc a dd ex.found))) H' := g.trans (go_set (σ := σ'))
        refine hy hbt a dd F _ H' _ st w3 ⟨fun σ4 H4 y4 w4 g4 q => k.nx _ H4 _ (w4.unset i) ((g3.trans g4).trans (go_set (σ := σ4))) q, fun σ4 v4 H4 z4 y4 w4 g4 r q => k.rt σ4 v4 H4 z4 y4 w4 (g3.trans g4) r q, fun σ4 H4 y4 w4 g4 q => k.bk _ H4 _ (w4.unset i) ((g3.trans g4).trans (go_set (σ := σ4))) q, fun σ4 H4 y4 w4 g4 q => k.ct _ H4 _ (w4.unset i) ((g3.trans g4).trans (go_set (σ := σ4))) q⟩
  exact key l q
end Ux

set_option maxRecDepth 100000
set_option maxHeartbeats 4000000
namespace Ux
open PySem PySem.Spec PyProof.Rows L2 Tq
open PySem.Builtin.Str (occurrences subAt)
section
variable {C : Ct} {y : S} {te : TE} {Q : Z → S → Prop} {E : XK}
theorem wE_powN {a : Int} {n : Nat} (q : Q (.d (.int (a ^ (OfNat.ofNat n : Nat)))) y) (ha : a.natAbs < 2 ^ 64 := by decide) (hn : n ≤ 1000000 := by decide) : wE C (tOp (rI CPow fun i j => .int (i ^ j.toNat)) (tC (.int a)) (tC (.int (OfNat.ofNat n)))) y Q := by
  refine wE_pow (wE_int (wE_int ⟨_, _, rfl, rfl, ⟨?_, ?_, ha⟩, q⟩))
  · show (0 : Int) ≤ (n : Nat); omega
  · show ((n : Nat) : Int) ≤ 1000000; omega
theorem wE_dispS {k : Str} {v : V} {d : D} (s : Sc v d) (h : Q (.d (.dict [(.str k, d)])) y) : wE C (tDisp [(tC (.str k), tC v)]) y Q := wE_disp1 (kk := .inr k) s h
theorem wE_dispI {k : Int} {v : V} {d : D} (s : Sc v d) (h : Q (.d (.dict [(.int k, d)])) y) : wE C (tDisp [(tC (.int k), tC v)]) y Q := wE_disp1 (kk := .inl k) s h
end
section
variable {C : Ct} {y : S} {ta tb : TE} {Q : Z → S → Prop}
theorem wE_eqS (w : wE C ta y fun z y1 => wE C tb y1 fun z' y2 => ∃ d e, z = .d d ∧ z' = .d e ∧ scalD d e = true ∧ Q (.d (.bool (eqS d e))) y2) : wE C (tOp rEq ta tb) y Q := by
  refine wE_op (res := fun d e r => scalD d e = true ∧ r = .bool (eqS d e)) ?_ (wE_mono w fun z y1 h => wE_mono h fun z' y2 ⟨d, e, e1, e2, s, q⟩ => ⟨_, _, _, e1, e2, ⟨s, rfl⟩, q⟩)
  rintro M H x u d e r Q _ rx ru ⟨s, rfl⟩ k
  obtain ⟨h1, h2⟩ := eqS_ok rx ru s
  refine ⟨h1, ?_⟩
  rw [h2]
  exact k _ H (fun _ _ e => e) (.bl _)
theorem wE_neS (w : wE C ta y fun z y1 => wE C tb y1 fun z' y2 => ∃ d e, z = .d d ∧ z' = .d e ∧ scalD d e = true ∧ Q (.d (.bool (!eqS d e))) y2) : wE C (tOp rNe ta tb) y Q := by
  refine wE_op (res := fun d e r => scalD d e = true ∧ r = .bool (!eqS d e)) ?_ (wE_mono w fun z y1 h => wE_mono h fun z' y2 ⟨d, e, e1, e2, s, q⟩ => ⟨_, _, _, e1, e2, ⟨s, rfl⟩, q⟩)
  rintro M H x u d e r Q _ rx ru ⟨s, rfl⟩ k
  obtain ⟨h1, h2⟩ := eqS_ok rx ru s
  refine ⟨h1, ?_⟩
  rw [h2]
  exact k _ H (fun _ _ e => e) (.bl _)
end
theorem wE_reprS {C : Ct} {y : S} {te : TE} {Q : Z → S → Prop} (w : wE C te y fun z y1 => ∃ d, z = .d d ∧ ShOk d ∧ Q (.d (.str d.shown)) y1) : wE C (tCB (rRepr C.K) (tCons te tNil)) y Q :=
  wE_repr (wD_cons (wE_mono w fun z y1 ⟨d, e, ⟨h1, h2, h3, h4⟩, q⟩ => ⟨d, e, wD_nil ⟨d, rfl, h1, h2, h3, h4, q⟩⟩))
theorem wE_index {C : Ct} {ta tb : TE} {y : S} {Q : Z → S → Prop} (w : wE C ta y fun z y1 => ∃ a, z = .d (.str a) ∧ wE C tb y1 fun z' y2 => ∃ b i r, z' = .d (.str b) ∧ occurrences a b 0 a.length 1 = i :: r ∧ Q (.d (.int (i : Nat))) y2) :
    wE C (tM1 rIndex ta tb) y Q := by
  intro F σ H K wd k
  refine w F σ H _ wd fun x H1 z y1 w1 g1 s1 r1 q1 => ?_
  obtain ⟨a, rfl, q1⟩ := q1
  have e := rp_str r1
  subst e
  refine ⟨⟨a, rfl⟩, q1 F σ H1 _ w1 fun x2 H2 z' y2 w2 g2 s2 r2 q2 => ?_⟩
  obtain ⟨b, i, r, rfl, ho, hq⟩ := q2
  exact ⟨a, b, i, r, rfl, by rw [rp_str r2], ho, k _ H2 (.d (.int _)) y2 w2 (g1.trans g2) (s1.trans s2) (.int _) hq⟩

/-! ### things as they are at present -/
section
variable {C : Ct} {y : S} {te ta tb : TE} {Q : Z → S → Prop} {Qi : List D → S → Prop}
theorem wE_isiR {T : String} (w : wE C te y fun z y1 => ∃ d, Res y1.m z d ∧ Q (.d (.bool (isT T d))) y1) (hT : (tyNames.all fun n => (kitB n T).isSome) = true := by decide +kernel) : wE C (tCB (rIsi C.K) (tCons te (tCons (tC (.ty T)) tNil))) y Q := by
  intro F σ H K wd k
  refine w F σ H _ wd fun x H1 z y1 w1 g1 s1 r1 q1 => ?_
  obtain ⟨d, hr, h⟩ := q1
  exact ⟨x, .ty T, _, _, isT T d, rfl, .ty T, rp_ty (hr.rp w1.toWd0 r1.w), kit_ty (kit_isT hT d), k _ H1 (.d (.bool (isT T d))) y1 w1 g1 s1 (.bl _) h⟩
theorem wE_reprR (w : wE C te y fun z y1 => ∃ d, Res y1.m z d ∧ ShOk d ∧ Q (.d (.str d.shown)) y1) : wE C (tCB (rRepr C.K) (tCons te tNil)) y Q := by
  intro F σ H K wd k
  refine w F σ H _ wd fun x H1 z y1 w1 g1 s1 r1 q1 => ?_
  obtain ⟨d, hr, ⟨h1, h2, h3, h4⟩, h⟩ := q1
  exact ⟨x, d, rfl, (hr.rp w1.toWd0 r1.w).any, h1, h2, h3, h4, k _ H1 (.d (.str d.shown)) y1 w1 g1 s1 (.str _) h⟩
def seqZ : Z → Option (List Z)
  | .d (.list ds) => some (ds.map Z.d)
  | .d (.tuple ds) => some (ds.map Z.d)
  | .lst zs => some zs
  | .tup zs => some zs
  | _ => none
theorem atI_rw {K : Fg} {M : Addr → Prop} {H : Hp} {vs : List V} {zs : List Z} {i : Int} {z : Z} (r : RwA K M H vs zs) (h : atI zs i = some z) : ∃ v, atI vs i = some v ∧ Rw K M H v z := by
  unfold atI at h ⊢
  rw [r.len]
  cases e : ixN zs.length i with
  | none => rw [e] at h; cases h
  | some j =>
    rw [e] at h
    exact r.get (i := j) h
theorem rw_seq {K : Fg} {M : Addr → Prop} {H : Hp} {v : V} {z : Z} {zs : List Z} (r : Rw K M H v z) (h : seqZ z = some zs) : ∃ a us, v = .ref a ∧ (LsA K M H a us ∨ TsA K M H a us) ∧ RwA K M H us zs := by
  cases r with
  | lab a => cases h
  | exc _ _ _ => cases h
  | ob _ _ _ _ => cases h
  | tup h1 h2 => cases h; exact ⟨_, _, rfl, .inr h1, h2⟩
  | lst h1 h2 => cases h; exact ⟨_, _, rfl, .inl h1, h2⟩
  | d r =>
    cases r with
    | lst h1 h2 => cases h; exact ⟨_, _, rfl, .inl h1, RwA.of h2⟩
    | tup h1 h2 => cases h; exact ⟨_, _, rfl, .inr h1, RwA.of h2⟩
    | _ => cases h
theorem wE_ixZ (w : wE C ta y fun z y1 => wE C tb y1 fun z' y2 => ∃ zs i u, seqZ z = some zs ∧ z' = .d (.int i) ∧ atI zs i = some u ∧ Q u y2) : wE C (tOp (rIx C.K) ta tb) y Q := by
  intro F σ H K wd k
  refine w F σ H _ wd fun x H1 z y1 w1 g1 s1 r1 q1 => ?_
  refine q1 F σ H1 _ w1 fun x2 H2 z' y2 w2 g2 s2 r2 q2 => ?_
  obtain ⟨zs, i, u, hs, rfl, hi, hq⟩ := q2
  have ey := rp_int r2
  obtain ⟨a, us, rfl, h1, h2⟩ := rw_seq (r1.w.go g2) hs
  obtain ⟨v, e, rv⟩ := atI_rw h2 hi
  rcases h1 with h1 | h1
  · exact .inl ⟨_, _, i, v, rfl, ey, h1.sq, e, k _ H2 u y2 w2 (g1.trans g2) (s1.trans s2) rv.z hq⟩
  · exact .inr (.inl ⟨_, _, i, v, rfl, ey, h1.sq, e, k _ H2 u y2 w2 (g1.trans g2) (s1.trans s2) rv.z hq⟩)
def lstZ : Z → Option (List Z)
  | .d (.list ds) => some (ds.map Z.d)
  | .lst zs => some zs
  | _ => none
theorem rw_lst {K : Fg} {M : Addr → Prop} {H : Hp} {v : V} {z : Z} {zs : List Z} (r : Rw K M H v z) (h : lstZ z = some zs) : ∃ a us, v = .ref a ∧ LsA K M H a us ∧ RwA K M H us zs := by
  cases r with
  | lab a => cases h
  | exc _ _ _ => cases h
  | ob _ _ _ _ => cases h
  | tup h1 h2 => cases h
  | lst h1 h2 => cases h; exact ⟨_, _, rfl, h1, h2⟩
  | d r =>
    cases r with
    | lst h1 h2 => cases h; exact ⟨_, _, rfl, h1, RwA.of h2⟩
    | _ => cases h
theorem wE_catZ (w : wE C ta y fun z y1 => wE C tb y1 fun z' y2 => ∃ xs zs, lstZ z = some xs ∧ lstZ z' = some zs ∧ xs.length + zs.length ≤ sizeLine ∧ Q (.lst (xs ++ zs)) y2) : wE C (tOp (rCatG C.K) ta tb) y Q := by
  intro F σ H K wd k
  refine w F σ H _ wd fun x H1 z y1 w1 g1 s1 r1 q1 => ?_
  refine q1 F σ H1 _ w1 fun x2 H2 z' y2 w2 g2 s2 r2 q2 => ?_
  obtain ⟨xs, zs, e1, e2, hl, hq⟩ := q2
  obtain ⟨a, us, rfl, h1, h2⟩ := rw_lst (r1.w.go g2) e1
  obtain ⟨b, vs, rfl, h3, h4⟩ := rw_lst r2.w e2
  refine ⟨a, b, us, vs, rfl, rfl, h1.sq, h3.sq, by rw [h2.len, h4.len]; exact hl, fun p hp => ?_⟩
  have gr := grow_upd (o := .lst (us ++ vs)) hp
  exact k _ _ (.lst (xs ++ zs)) y2 (w2.grow gr) ((g1.trans g2).trans (go_grow gr)) (s1.trans s2) (.lst (.inl ⟨w2.new hp, .inl upd_same⟩) ((h2.app h4).go (go_grow (F := F) (σ := σ) (y := y2) gr))) hq
theorem wI_any {i : Nat} {d : D} {xs : List D} (h : y.l[i]? = some (some (.d d))) (hx : dItems d = some xs) (q : Qi xs y) : wI C (iAny C.K (tVar i)) y Qi := by
  intro F σ H R wd k
  cases d with
  | list us =>
    cases hx
    exact .inl (wI_list (wE_var h ⟨_, rfl, q⟩) F σ H R wd k)
  | tuple us =>
    cases hx
    exact .inr (wI_tup (wE_var h ⟨_, rfl, q⟩) F σ H R wd k)
  | _ => cases hx
end
/-! ### less is known -/
def LsL (a b : List (Option Z)) : Prop := a.length = b.length ∧ ∀ (i : Nat) (z : Z), a[i]? = some (some z) → b[i]? = some (some z)
theorem less_mk' {a b : List (Option Z)} {m n : List Cl} (h : LsL a b) (s : m.Sublist n) : Less ⟨a, m⟩ ⟨b, n⟩ := ⟨h.1, h.2, s⟩
theorem less_nil : LsL [] [] := ⟨rfl, fun i z e => e⟩
theorem less_none {a b : List (Option Z)} {z : Option Z} (h : LsL a b) : LsL (none :: a) (z :: b) := by
  refine ⟨congrArg (· + 1) h.1, fun i u e => ?_⟩
  cases i with
  | zero => cases e
  | succ i => exact h.2 i u e
theorem less_some {a b : List (Option Z)} {z : Option Z} (h : LsL a b) : LsL (z :: a) (z :: b) := by
  refine ⟨congrArg (· + 1) h.1, fun i u e => ?_⟩
  cases i with
  | zero => exact e
  | succ i => exact h.2 i u e
theorem less_set {a b : S} {i : Nat} {z : Option Z} (h : Less a b) : Less (a.set i z) (b.set i z) := by
  refine ⟨by show (a.l.set i z).length = (b.l.set i z).length; rw [List.length_set, List.length_set, h.1], fun j u e => ?_, h.2.2⟩
  have e : (a.l.set i z)[j]? = some (some u) := e
  show (b.l.set i z)[j]? = some (some u)
  rw [List.getElem?_set] at e ⊢
  rw [← h.1]
  split at e
  · next q => rw [if_pos q]; exact e
  · next q => rw [if_neg q]; exact h.2.1 j u e
theorem Less.refl (y : S) : Less y y := ⟨rfl, fun _ _ e => e, List.Sublist.refl _⟩
/-- a loop whose turns know J alone -/
theorem forJ {C : Ct} {v : Nat} {tx : TS} {xs : List D} {y0 : S} {bk : S → Prop} {rt : Z → S → Prop} {R : S → Prop} (J : Nat → S → Prop) (h0 : ∃ y', J 0 y' ∧ Less y' y0)
    (hb : ∀ i x y', xs[i]? = some x → J i y' → wS C tx (y'.set v (some (.d x))) { nx := fun y => ∃ y', J (i + 1) y' ∧ Less y' y, ct := fun y => ∃ y', J (i + 1) y' ∧ Less y' y, bk := bk, rt := rt }) (he : ∀ y2 y', J xs.length y' → Less y' y2 → R y2) :
    ∃ I : Nat → S → Prop, I 0 y0 ∧ (∀ i x y2, xs[i]? = some x → I i y2 → wG C (gName v) (.d x) y2 fun y3 => wS C tx y3 { nx := I (i + 1), ct := I (i + 1), bk := bk, rt := rt }) ∧ (∀ y2, I xs.length y2 → R y2) :=
  ⟨fun i y => ∃ y', J i y' ∧ Less y' y, h0, fun i x y2 hx ⟨y', hj, hl⟩ => wG_name (wS_weak (hb i x y' hx hj) (less_set hl)), fun y2 ⟨y', hj, hl⟩ => he y2 y' hj hl⟩
theorem wS_whileJ {C : Ct} {t : TT} {tx : TS} {y : S} {e : En} (J : Nat → S → Prop) (h0 : ∃ m y', J m y' ∧ Less y' y)
    (hs : ∀ m y1, J m y1 → wT C t y1 fun b y2 => if b = true then wS C tx y2 { nx := fun y3 => ∃ m' y', m' < m ∧ J m' y' ∧ Less y' y3, ct := fun y3 => ∃ m' y', m' < m ∧ J m' y' ∧ Less y' y3, bk := e.nx, rt := e.rt } else e.nx y2) :
    wS C (tWhile t tx) y e := by
  intro F σ H E st wd k
  obtain ⟨m0, y0, h0, l0⟩ := h0
  obtain ⟨wd0, g0⟩ := wd.weak l0
  refine ⟨fun m σ1 H1 => ∃ y1, Wd C F σ1 y1 H1 ∧ Go F σ y H σ1 y1 H1 ∧ J m y1, ⟨m0, y0, wd0, g0, h0⟩, ?_⟩
  rintro m σ1 H1 ⟨y1, w1, g1, hw⟩
  refine hs m y1 hw F σ1 H1 _ w1 fun b H2 y2 w2 g2 s2 q => ?_
  have fin : ∀ σ5 H5 y5, Wd C F σ5 y5 H5 → Go F σ1 y2 H2 σ5 y5 H5 → (∃ m' y', m' < m ∧ J m' y' ∧ Less y' y5) → ∃ m', m' < m ∧ ∃ y3, Wd C F σ5 y3 H5 ∧ Go F σ y H σ5 y3 H5 ∧ J m' y3 := by
    rintro σ5 H5 y5 w5 g5 ⟨m', y', hm, q5, l5⟩
    obtain ⟨w6, g6⟩ := w5.weak l5
    exact ⟨m', hm, y', w6, ((g1.trans g2).trans g5).trans g6, q5⟩
  cases b with
  | true =>
    refine ⟨fun σ3 H3 => ∃ m', m' < m ∧ ∃ y3, Wd C F σ3 y3 H3 ∧ Go F σ y H σ3 y3 H3 ∧ J m' y3, fun σ3 H3 ⟨m', hm, z⟩ => ⟨m', hm, z⟩, ?_⟩
    exact q F σ1 H2 _ st w2 ⟨fun σ5 H5 y5 w5 g5 q5 => fin σ5 H5 y5 w5 g5 q5, fun σ5 v5 H5 z5 y5 w5 g5 r5 q5 => k.rt σ5 v5 H5 z5 y5 w5 ((g1.trans g2).trans g5) r5 q5,
      fun σ5 H5 y5 w5 g5 q5 => k.nx σ5 H5 y5 w5 ((g1.trans g2).trans g5) q5, fun σ5 H5 y5 w5 g5 q5 => fin σ5 H5 y5 w5 g5 q5⟩
  | false => exact k.nx σ1 H2 y2 w2 (g1.trans g2) q
end Ux

set_option maxRecDepth 100000
set_option maxHeartbeats 2000000
/-! what the top has written of the exceptions' classes -/
namespace Ux
open PySem PySem.Spec PyProof.Rows L2
/-- the first def of a class -/
def clsFn : Stmt → Stmt
  | .ClassDef _ _ _ (b :: _) _ _ _ _ _ _ _ => b
  | s => s
structure XcT (K : Fg) (mg : Str → Option Value) (x qual : Str) (st : Stmt) (C : Addr) : Prop where
  gC : mg x = some (.ref C)
  oc : OexC K C
  xf : XfC K C
  no : PySem.W.findIn K (.ref C) "found" = some none
  ini : ∃ (fI : Addr) (fd : FuncData), PySem.W.findIn K (.ref C) "__init__" = some (some (.ref fI)) ∧ PySem.W.typeIn K (.ref fI) = some (.type "function") ∧ Fun K "__init__" qual st fI fd ∧ Binds K fd ["self", "found"] []
theorem spInit_len {K : Fg} {C : Addr} : ∀ vs H Q E, spInit K C vs H Q E → vs.length = (["self", "found"] : List Str).length := by
  rintro vs H Q E ⟨a, v, rfl, _⟩
  rfl
theorem xc_ok {P : Program} {w : World} {K : Fg} {mg : Str → Option Value} {base : Heap} {x qual : Str} {st : Stmt} {C : Addr} (T : XcT K mg x qual st C) (Sc : FnScope ["self", "found"] ["self", "found"] (defScope st)) (m : Str)
    (hb : ∀ (fI : Addr) (cdv : Value) (A : Around) (outer : List Env) (s : Shared) (H : Hp) (E : XK), PSs (cxOf CX0 P w K mg base ["self", "found"] qual (defScope st) fI cdv A outer s H E).nox (defBody st) (t_init K m)) : Xc P w K mg base x C := by
  obtain ⟨fI, fd, i1, i2, i3, i4⟩ := T.ini
  exact ⟨T.gC, T.oc, T.xf, T.no, fI, fd, i1, i2, i3.ok Sc spInit_len fun cdv A outer s H vs Q E hr h => ⟨_, hb fI cdv A outer s H E, init_read h⟩, i4⟩
theorem xct_mk {K : Fg} {h : Heap} {mg : Str → Option Value} {x qual : Str} {st : Stmt} {C f : Addr} (X : K.In h) (G : h.Ns mainGlobals mg)
    {nm q : Str} {N : Addr} {bs bm : List Value} {sn : List Str} {sub : List Value} {ab : Bool} {col : Option Bool} {dd : Option Addr} {m0 m1 m2 m3 m5 : Option Value} {od an : Option Addr} {sl : Array (Option Value)} {oc kV dc pm cd ct : Value}
    (hb : ∀ (kV dc pm : Value) (an : Option Addr) (cd ct : Value) (us : List Value), us.length = (["self", "found"] : List Str).length → bindArgs (PySem.W.fnOf "__init__" qual (defArgs st) (defBody st) (defScope st) .none kV dc pm an cd ct) ⟨us, []⟩ = pure ((["self", "found"] : List Str).zip us))
    (aC : PySem.W.nsIn K mainGlobals x = some (some (.ref C)))
    (xL : K.lookup C = some (excClassObj nm q C N bs bm true sn sub ab col dd m0 m1 m2 m3 m5 "ValueError.__new__"))
    (vb : PySem.HandSPX.refsVE bm = true)
    (sa : PySem.W.findIn K (.ref C) "__setattr__" = some (some (.builtin "object.__setattr__"))) (ga : PySem.W.findIn K (.ref C) "__getattribute__" = some (some (.builtin "BaseException.__getattribute__"))) (gg : PySem.W.findIn K (.ref C) "__getattr__" = some none) (nb : PySem.W.findIn K (.ref C) "found" = some none)
    (a1 : PySem.W.findIn K (.ref C) "__init__" = some (some (.ref f))) (t1 : PySem.W.typeIn K (.ref f) = some (.type "function"))
    (l : K.lookup f = some ⟨oc, od, .func (PySem.W.fnOf "__init__" qual (defArgs st) (defBody st) (defScope st) .none kV dc pm an cd ct), sl⟩) (c : PySem.W.codeIn K cd qual = true) (k : PySem.W.keepIn K (.ref f) = true)
    (kC : PySem.W.keepIn K (.ref C) = true) (eC : PySem.W.subIn K (.ref C) (.type "BaseException") = some true) (tC : PySem.W.typeIn K (.ref C) = some (.type "type")) (hC : PySem.W.hasDictIn K C = true) : XcT K mg x qual st C :=
  ⟨PySem.W.mg_of X G aC, ⟨⟨nm, q, N, bs, bm, sn, sub, ab, col, dd, m0, m1, m2, m3, m5, xL, vb⟩, sa, eC, tC, kC⟩, ⟨ga, gg, eC, hC⟩, nb, f, _, a1, t1, fun_mk l c k, (fun_mk l c k).binds hb⟩
theorem txc_mk {K : Fg} {h : Heap} {mg : Str → Option Value} {x : Str} {T : Addr} (X : K.In h) (G : h.Ns mainGlobals mg) (a : PySem.W.nsIn K mainGlobals x = some (some (.ref T))) (r : PySem.W.readsIn K T (.type "type") = true)
    (g : PySem.W.specialIn K (.ref T) "__getattribute__" = some (some (.builtin "type.__getattribute__"))) (v : PySem.W.findCls K (.ref T) (.type "type") "__init__" = some (.val (.builtin "ValueError.__init__"))) : TxC K mg x :=
  ⟨T, PySem.W.mg_of X G a, r, g, v⟩
/-- an exception of the class A, asked of the class B -/
theorem exm_mk {K : Fg} {mg : Str → Option Value} {x y : Str} {A B : Addr} {b : Bool} (hb : PySem.W.subIn K (.ref B) (.type "BaseException") = some true) (ht : PySem.W.typeIn K (.ref B) = some (.type "type")) (hc : PySem.W.isClsIn K B = true) (hs : PySem.W.subIn K (.ref A) (.ref B) = some b) :
    PySem.W.exmOne K (.ref A) (.ref B) = some b := by
  have e1 : (PySem.W.subIn K (.ref B) (.type "BaseException") == some true) = true := by rw [hb] <;> rfl
  have e2 : ((PySem.W.clsIn K B).isSome && PySem.W.typeIn K (.ref B) == some (.type "type")) = true := by
    have h2' : (PySem.W.clsIn K B).isSome = true := hc
    rw [h2', ht] <;> rfl
  show (if (PySem.W.subIn K (.ref B) (.type "BaseException") == some true) = true then (if ((PySem.W.clsIn K B).isSome && PySem.W.typeIn K (.ref B) == some (.type "type")) = true then PySem.W.subIn K (.ref A) (.ref B) else none) else none) = some b
  rw [if_pos e1, if_pos e2]
  exact hs
end Ux

set_option maxRecDepth 100000
set_option maxHeartbeats 2000000
namespace Ux
open PySem PySem.Spec PyProof.Rows L2 Tq
/-! displays by the kind in which they are wanted -/
def tTupZ : TA → TE := tTup
def tLstZ : TA → TE := tLst
def tLstL : TA → TE := tLst
def tDNewL : TE := tDNewK
section
variable {X : Cx} {ts : TA} {es : List Expr} {k : Nat} {pos : Pos}
theorem pe_tupZ (h : PA X es ts) : PE X (.Tuple es k pos) (tTupZ ts) := pe_tup h
theorem pe_lstZ (h : PA X es ts) : PE X (.List es pos) (tLstZ ts) := pe_lst h
theorem pe_lstL (h : PA X es ts) : PE X (.List es pos) (tLstL ts) := pe_lst h
theorem pe_dnewL : PE X (.Dict [] [] pos) tDNewL := pe_dnewK
end
theorem Res.at {m : List Cl} {j : Nat} {a : Addr} {b : Bool} {c : Cell} {d : D} (h : m[j]? = some ⟨a, b, c⟩) (r : ResC c d) : Res m (.lab a) d := .lab (e := ⟨a, b, c⟩) (List.mem_of_getElem? h) r
end Ux
namespace Ux
open PySem PySem.Spec PyProof.Rows L2 Tq
/-- a def over things of any kind that lets nothing out -/
theorem wE_xc {C : Ct} {y : S} {ts : TA} {Q : Z → S → Prop} {E : XK} {n : Nat} {pre : List Z → List D → Prop} {post : List Z → List D → Z → Prop} {xp : List Z → List D → Ex → Prop}
    (w : wZ C ts y fun zs y1 => ∃ ds, ResA y1.m zs ds ∧ (zs.length = n ∧ pre zs ds) ∧ (∀ z, post zs ds z → Q z y1)) (hx : ∀ zs ds ex, ¬ xp zs ds ex) : wE C (tCall (xSp C.K n pre post xp) [] E ts) y Q := by
  intro F σ H K wd k
  refine w F σ H _ wd fun vs H1 zs y1 w1 g1 s1 r1 ⟨ds, hr, ⟨hn, hp⟩, q⟩ => ?_
  show xSp C.K n pre post xp (vs ++ []) H1 K E
  rw [List.append_nil]
  exact ⟨Mv F σ y1, y1.m, zs, ds, fun a m e => w1.new e m, r1, fun e he => ⟨.inr ⟨e, he, rfl⟩, w1.cell e he⟩, w1.dist, hr, hn, hp, fun z v H2 hz gr rv => k v H2 z y1 (w1.grow gr) (g1.trans (go_grow gr)) s1 rv.z (q z hz), fun ex _ _ _ h => (hx _ _ _ h).elim⟩
abbrev asSp (K : Fg) (n : Nat) (pre : List Z → List D → Prop) (post : List Z → List D → Z → Prop) : Sp := xSp K n pre post fun _ _ _ => False
theorem wE_as {C : Ct} {y : S} {ts : TA} {Q : Z → S → Prop} {E : XK} {n : Nat} {pre : List Z → List D → Prop} {post : List Z → List D → Z → Prop}
    (w : wZ C ts y fun zs y1 => ∃ ds, ResA y1.m zs ds ∧ (zs.length = n ∧ pre zs ds) ∧ (∀ z, post zs ds z → Q z y1)) : wE C (tCall (asSp C.K n pre post) [] E ts) y Q := wE_xc w fun _ _ _ h => h
/-! what a thing is, by what it is at present -/
theorem ResC.nsc {c : Cell} {d : D} (h : ResC c d) : (∃ ds, d = .list ds) ∨ ∃ kvs, d = .dict kvs := by
  induction h with
  | lst ds => exact .inl ⟨ds, rfl⟩
  | dic kvs => exact .inr ⟨_, rfl⟩
  | ro _ ih => exact ih
theorem Res.int {m : List Cl} {z : Z} {n : Int} (h : Res m z (.int n)) : z = .d (.int n) := by
  cases h with
  | d => rfl
  | lab _ hc => rcases hc.nsc with ⟨_, e⟩ | ⟨_, e⟩ <;> cases e
theorem Res.tup {m : List Cl} {z : Z} {ds : List D} (h : Res m z (.tuple ds)) : z = .d (.tuple ds) := by
  cases h with
  | d => rfl
  | lab _ hc => rcases hc.nsc with ⟨_, e⟩ | ⟨_, e⟩ <;> cases e
theorem resA1 {m : List Cl} {zs : List Z} {ds : List D} (h : ResA m zs ds) (l : zs.length = 1) : ∃ z d, zs = [z] ∧ ds = [d] ∧ Res m z d := by
  cases h with
  | nil => cases l
  | cons a b => cases b with
    | nil => exact ⟨_, _, rfl, rfl, a⟩
    | cons _ _ => simp at l
theorem resA2 {m : List Cl} {zs : List Z} {ds : List D} (h : ResA m zs ds) (l : zs.length = 2) : ∃ z z' d d', zs = [z, z'] ∧ ds = [d, d'] ∧ Res m z d ∧ Res m z' d' := by
  cases h with
  | nil => cases l
  | cons a b =>
    obtain ⟨z, d, rfl, rfl, r⟩ := resA1 b (by simpa using l)
    exact ⟨_, _, _, _, rfl, rfl, a, r⟩
def rCatZ (K : Fg) : R2 := rCatG K
def rIxZ (K : Fg) : R2 := rIx K
section
variable {X : Cx} (K : Fg)
theorem ixZK (h : X.K = K := by rfl) : IxR X (rIxZ K) := ixK K h
theorem catZK (h : X.K = K := by rfl) : OpR X (binaryOp .Add) (rCatZ K) := catK K h
end
end Ux
namespace Ux
open PySem PySem.Spec PyProof.Rows L2 Tq
def tCallR (sp : Sp) (E : XK) (t : TA) : TE := tCall sp [] E t
def tIsiR (K : Fg) (t : TA) : TE := tCB (rIsi K) t
def tReprR (K : Fg) (t : TA) : TE := tCB (rRepr K) t
section
variable {X : Cx} {k : Nat} {x : Str} {ps : List Str} {sp : Sp} {p pos : Pos} {e : Expr} {es : List Expr} {t : TA}
theorem pe_calR (c : Cal X.prog X.w X.K X.mg X.base k x ps sp) (hr : Room k X.A) (hgu : X.A.guards = some []) (hg : Gl X x) (ha : PA X (e :: es) t) (hdb : (x == ("__debug__" : Str)) = false := by decide)
    (he : starEach (e :: es) X.env = (false, eval e X.env) :: starEach es X.env := by rfl)
    (hpl : (backTo pos (starEach es X.env)).any (·.1) = false := by rfl) : PE X (.Call (.Name x p) (e :: es) [] pos) (tCallR sp E0 t) := pe_cal c hr hgu hg ha hdb he hpl
end
theorem zR {X : Cx} {e : Expr} {K : Fg} {t : TA} (h : PE X e (tCB (rIsi K) t)) : PE X e (tIsiR K t) := h
end Ux
namespace Ux
open PySem PySem.Spec PyProof.Rows L2 Tq
section
variable {C : Ct} {y : S} {ts : TA} {te ta tb : TE} {Q : Z → S → Prop} {E : XK} {n : Nat} {pre : List D → Prop} {post : List D → D → Prop}
theorem xE_detR {G : List D → D} (w : wZ C ts y fun zs y1 => ∃ ds, ResA y1.m zs ds ∧ (ds.length = n ∧ pre ds) ∧ scD (G ds) = true ∧ Q (.d (G ds)) y1) : wE C (tCallR (detSp C.K n pre G) E ts) y Q := wE_detR w
theorem xE_pureR (w : wZ C ts y fun zs y1 => ∃ ds, ResA y1.m zs ds ∧ ds.length = n ∧ pre ds ∧ ∀ d, post ds d → scD d = true ∧ Q (.d d) y1) : wE C (tCallR (pureSp C.K n pre post) E ts) y Q := wE_pureR w
theorem xE_isiR {T : String} (w : wE C te y fun z y1 => ∃ d, Res y1.m z d ∧ Q (.d (.bool (isT T d))) y1) (hT : (tyNames.all fun n => (kitB n T).isSome) = true := by decide +kernel) : wE C (tIsiR C.K (tCons te (tCons (tC (.ty T)) tNil))) y Q := wE_isiR w hT
theorem xE_reprR (w : wE C te y fun z y1 => ∃ d, Res y1.m z d ∧ ShOk d ∧ Q (.d (.str d.shown)) y1) : wE C (tReprR C.K (tCons te tNil)) y Q := wE_reprR w
theorem xE_tupZ (w : wZ C ts y fun zs y1 => zs.length ≤ sizeLine ∧ Q (.tup zs) y1) : wE C (tTupZ ts) y Q := wE_tupZ w
theorem xE_lstZ (w : wZ C ts y fun zs y1 => zs.length ≤ sizeLine ∧ Q (.lst zs) y1) : wE C (tLstZ ts) y Q := wE_lstZ w
theorem xE_lstL (w : wZ C ts y fun zs y1 => zs.length ≤ sizeLine ∧ ∀ p, Q (.lab p) ⟨y1.l, y1.m ++ [⟨p, true, .lst zs⟩]⟩) : wE C (tLstL ts) y Q := wE_lstL w
theorem xE_dnewL (q : ∀ p, Q (.lab p) ⟨y.l, y.m ++ [⟨p, true, .dic []⟩]⟩) : wE C tDNewL y Q := wE_dnewL q
theorem xE_ixZ (w : wE C ta y fun z y1 => wE C tb y1 fun z' y2 => ∃ zs i u, seqZ z = some zs ∧ z' = .d (.int i) ∧ atI zs i = some u ∧ Q u y2) : wE C (tOp (rIxZ C.K) ta tb) y Q := wE_ixZ w
theorem xE_catZ (w : wE C ta y fun z y1 => wE C tb y1 fun z' y2 => ∃ xs zs, lstZ z = some xs ∧ lstZ z' = some zs ∧ xs.length + zs.length ≤ sizeLine ∧ Q (.lst (xs ++ zs)) y2) : wE C (tOp (rCatZ C.K) ta tb) y Q := wE_catZ w
end
end Ux

set_option maxRecDepth 100000
set_option maxHeartbeats 4000000
namespace Ux
open PySem PySem.Spec PyProof.Rows L2 Tq
/-! ### odd things that may grow -/
abbrev sev (k : Nat) : List D := List.replicate k (.int 7)
inductive OT (P : D → Bool) (k : Nat) : Z → List Cl → D → Prop
  | pl (d : D) (h1 : isT "list" d = false) (h2 : ShOk d) (h3 : P d = false) : OT P k (.d d) [] d
  | ls (a : Addr) (ds : List D) (h : ∀ j ≤ 4, ShOk (.list (ds ++ sev j))) (h3 : ∀ xs, P (.list xs) = false) (h4 : ds.length ≤ 10) : OT P k (.lab a) [⟨a, true, .lst ((ds ++ sev k).map Z.d)⟩] (.list (ds ++ sev k))
  | dc (a : Addr) (h3 : ∀ xs, P (.dict xs) = false) : OT P k (.lab a) [⟨a, true, .dic []⟩] (.dict [])
theorem OT.no {P : D → Bool} {k : Nat} {z : Z} {m : List Cl} {d : D} (h : OT P k z m d) : P d = false := by
  cases h with
  | pl h1 h2 h3 => assumption
  | ls _ _ _ h3 _ => exact h3 _
  | dc _ h3 => exact h3 _
theorem sh_dict0 : ShOk (.dict []) := ⟨by decide +kernel, by decide +kernel, by decide +kernel, by decide +kernel⟩
theorem OT.sh {P : D → Bool} {k : Nat} {z : Z} {m : List Cl} {d : D} (h : OT P k z m d) (hk : k ≤ 4) : ShOk d := by
  cases h with
  | pl h1 h2 h3 => assumption
  | ls _ _ h _ _ => exact h k hk
  | dc _ _ => exact sh_dict0
theorem OT.res {P : D → Bool} {k : Nat} {z : Z} {m n : List Cl} {d : D} (h : OT P k z m d) (hs : m ⊆ n) : Res n z d := by
  cases h with
  | pl h1 h2 h3 => exact .d _
  | ls a ds _ _ _ => exact .lab (e := ⟨a, true, .lst ((ds ++ sev k).map Z.d)⟩) (hs List.mem_cons_self) (.lst _)
  | dc a _ => exact .lab (e := ⟨a, true, .dic []⟩) (hs List.mem_cons_self) (.dic [])
theorem OT.up {P : D → Bool} {k : Nat} {z : Z} {m : List Cl} {d : D} (h : OT P k z m d) (hl : isT "list" d = false) : OT P (k + 1) z m d := by
  cases h with
  | pl h1 h2 h3 => exact .pl _ ‹_› ‹_› ‹_›
  | ls a ds _ _ _ => rw [isT_list] at hl; cases hl
  | dc a h => exact .dc a h
end Ux
namespace Ux
open PySem PySem.Spec PyProof.Rows L2 Tq
end Ux
namespace Ux
open PySem PySem.Spec PyProof.Rows L2 Tq
end Ux

namespace Ux
end Ux
namespace Ux
end Ux
namespace Ux
open PySem PySem.Spec PyProof.Rows L2 Tq
end Ux

set_option maxRecDepth 100000
set_option maxHeartbeats 4000000
namespace Ux
open PySem PySem.Spec PyProof.Rows L2 Tq
/-! ### isinstance(e, C) of the exception that a suite holds -/
def rIsX (K : Fg) (cls : Value) (d : Option Addr) (D a : Addr) : List V → Hp → VK → Prop := fun xs H Q => ∃ (T dd : Addr) (fs : List (Str × V)) (b : Bool), cls = .ref D ∧ d = some dd ∧ H dd = some (.xd fs) ∧ xs = [.ref a, .ref T] ∧ PySem.W.kitOne K (.ref D) (.ref T) = some b ∧ Q (.bl b) H
def tIsX (K : Fg) (cls : Value) (d : Option Addr) (D a T : Addr) (te : TE) : TE := tCB (rIsX K cls d D a) (tCons te (tCons (tC (.ref T)) tNil))
theorem wE_isX {C : Ct} {y : S} {Q : Z → S → Prop} {a dd D T : Addr} {i : Nat} {z : Z} {cls : Value} {b : Bool} (hk : PySem.W.kitOne C.K (.ref D) (.ref T) = some b) (hc : cls = .ref D) (hi : y.l[i]? = some (some (.exc a dd z))) (q : Q (.d (.bool b)) y) : wE C (tIsX C.K cls (some dd) D a T (tVar i)) y Q := by
  intro F σ H K wd k
  obtain ⟨x, h1, h2⟩ := wd.slot i _ hi
  cases h2 with
  | @exc _ _ v _ n c1 c2 => exact ⟨.ref a, h1, T, dd, _, b, hc, rfl, c1, rfl, hk, k _ H (.d (.bool b)) y wd GoH.refl (Sh.refl y) (.bl b) q⟩
/-! ### is True -/
section
variable {C : Ct} {y : S} {ta tb : TE} {Q : Z → S → Prop}
theorem wE_isB (w : wE C ta y fun z y1 => wE C tb y1 fun z' y2 => ∃ a b, z = .d (.bool a) ∧ z' = .d (.bool b) ∧ Q (.d (.bool (decide (a = b)))) y2) : wE C (tOp rIsB ta tb) y Q := by
  refine wE_op (res := fun d e r => ∃ a b, d = .bool a ∧ e = .bool b ∧ r = .bool (decide (a = b))) ?_ (wE_mono w fun z y1 h => wE_mono h fun z' y2 ⟨a, b, e1, e2, q⟩ => ⟨_, _, _, e1, e2, ⟨a, b, rfl, rfl, rfl⟩, q⟩)
  rintro M H x u d e r Q _ rx ru ⟨a, b, rfl, rfl, rfl⟩ k
  exact ⟨a, b, rp_bl rx, rp_bl ru, k _ H (fun _ _ e => e) (.bl _)⟩
theorem wE_notB (w : wE C ta y fun z y1 => wE C tb y1 fun z' y2 => ∃ a b, z = .d (.bool a) ∧ z' = .d (.bool b) ∧ Q (.d (.bool (!decide (a = b)))) y2) : wE C (tOp rNotB ta tb) y Q := by
  refine wE_op (res := fun d e r => ∃ a b, d = .bool a ∧ e = .bool b ∧ r = .bool (!decide (a = b))) ?_ (wE_mono w fun z y1 h => wE_mono h fun z' y2 ⟨a, b, e1, e2, q⟩ => ⟨_, _, _, e1, e2, ⟨a, b, rfl, rfl, rfl⟩, q⟩)
  rintro M H x u d e r Q _ rx ru ⟨a, b, rfl, rfl, rfl⟩ k
  exact ⟨a, b, rp_bl rx, rp_bl ru, k _ H (fun _ _ e => e) (.bl _)⟩
end
end Ux
namespace Ux
open PySem PySem.Spec PyProof.Rows L2 Tq
/-! ### d[k] = v -/
theorem RwK.len {K : Fg} {M : Addr → Prop} {H : Hp} : ∀ {vs : List (Key × V)} {zs : List (Key × Z)}, RwK K M H vs zs → vs.length = zs.length
  | _, _, .nil => rfl
  | _, _, .cons _ b => congrArg (· + 1) b.len
end Ux
namespace Ux
open PySem PySem.Spec PyProof.Rows L2 Tq
def putKD (kvs : List (Key × D)) (k : Key) (d : D) : List (Key × D) :=
  if (kvs.any fun kv => decide (kv.1 = k)) = true then kvs.map (fun kv => if kv.1 = k then (kv.1, d) else kv) else kvs ++ [(k, d)]
/-! ### odd things, handed on as they are -/
inductive Cont where
  | pl (d : D)
  | ls (ds : List D)
  | dc (kvs : List (Key × D))
def Cont.dat : Cont → D
  | .pl d => d
  | .ls ds => .list ds
  | .dc kvs => dD kvs
def Cont.gr : Cont → Cont
  | .pl d => .pl d
  | .ls ds => .ls (ds ++ [.str "more"])
  | .dc kvs => .dc (putKD kvs (.inr "more") (.int 1))
def Cont.len : Cont → Nat
  | .pl _ => 0
  | .ls ds => ds.length
  | .dc kvs => kvs.length
def Cont.plain : Cont → Bool
  | .pl d => !isT "list" d && !isT "dict" d
  | _ => true
inductive Th : Z → List (Addr × Cell) → Cont → Prop
  | pl (d : D) : Th (.d d) [] (.pl d)
  | ls (a : Addr) (ds : List D) : Th (.lab a) [(a, .lst (ds.map Z.d))] (.ls ds)
  | dc (a : Addr) (kvs : List (Key × D)) : Th (.lab a) [(a, .dic (kvD kvs))] (.dc kvs)
def toCl (b : Bool) (nw : List (Addr × Cell)) : List Cl := nw.map fun e => ⟨e.1, b, e.2⟩
theorem Th.res {z : Z} {nw : List (Addr × Cell)} {c : Cont} {b : Bool} {m : List Cl} (h : Th z nw c) (hs : toCl b nw ⊆ m) : Res m z c.dat := by
  cases h with
  | pl d => exact .d _
  | ls a ds => exact .lab (e := ⟨a, b, .lst (ds.map Z.d)⟩) (hs List.mem_cons_self) (.lst _)
  | dc a kvs => exact .lab (e := ⟨a, b, .dic (kvD kvs)⟩) (hs List.mem_cons_self) (.dic _)
/-- a draw that hands out a thing, new where it may change -/
def oSp (K : Fg) (cost : Nat) (post : Z → List (Addr × Cell) → Prop) : Sp := fun vs H Q _ => ∃ (M : Addr → Prop) (p : Addr) (m : Nat), vs = [.ref p] ∧ M p ∧ (∀ a, M a → H a ≠ none) ∧ PuOk H p m ∧ cost ≤ m ∧
  ∀ z nw v H', post z nw → (∀ a o, a ≠ p → H a = some o → H' a = some o) → PuOk H' p (m - cost) → (∀ e ∈ nw, H e.1 = none) → (nw.Pairwise fun e e' => e.1 ≠ e'.1) →
    (∀ e ∈ nw, CellOk K (fun a => M a ∨ ∃ e ∈ nw, e.1 = a) H' e.1 e.2) → Rw K (fun a => M a ∨ ∃ e ∈ nw, e.1 = a) H' v z → Q v H'
end Ux

namespace Ux
open PySem PySem.Spec PyProof.Rows L2 Tq
theorem Th.ro {z : Z} {nw : List (Addr × Cell)} {c : Cont} (h : Th z nw c) : ∀ e ∈ nw, e.2.isRo = false := by
  cases h with
  | pl d => intro e he; cases he
  | ls a ds => intro e he; rw [List.mem_singleton] at he; subst he; rfl
  | dc a kvs => intro e he; rw [List.mem_singleton] at he; subst he; rfl
/-- the call of such a draw -/
theorem wE_odd {C : Ct} {y : S} {E : XK} {cost : Nat} {post : Z → List (Addr × Cell) → Prop} {Q : Z → S → Prop} {i j : Nat} {p : Addr} {b : Bool} {m0 : Nat} (hi : y.l[i]? = some (some (.lab p))) (hj : y.m[j]? = some ⟨p, b, .pu m0⟩) (hm : cost ≤ m0)
    (q : ∀ z nw, post z nw → Q z ⟨y.l, y.m.set j ⟨p, b, .pu (m0 - cost)⟩ ++ toCl true nw⟩) : wE C (tCall (oSp C.K cost post) [] E (tCons (tVar i) tNil)) y Q := by
  intro F σ H K wd k
  obtain ⟨x, h1, h2⟩ := wd.slot i _ hi
  cases h2
  have hmm : (⟨p, b, .pu m0⟩ : Cl) ∈ y.m := List.mem_of_getElem? hj
  refine ⟨.ref p, h1, ?_⟩
  show oSp C.K cost post ([.ref p] ++ []) H K E
  rw [List.append_nil]
  refine ⟨Mv F σ y, p, m0, rfl, .inr ⟨_, hmm, rfl⟩, fun a m e => wd.new e m, wd.cell _ hmm, hm, fun z nw v H' hp kp pk fr pw cs rv => ?_⟩
  have pd : DomW y.m p := ⟨_, hmm, rfl, rfl⟩
  have lvp : H' p ≠ none := by
    obtain ⟨x, b, c, e, _⟩ := pk
    rw [e]; simp
  have inset : ∀ e ∈ y.m.set j ⟨p, b, .pu (m0 - cost)⟩, e.a = p → e = ⟨p, b, .pu (m0 - cost)⟩ := fun e he hq => by
    obtain ⟨i', hi'⟩ := List.getElem?_of_mem he
    have pws := pw_set wd.dist hj (e' := ⟨p, b, .pu (m0 - cost)⟩) rfl
    obtain ⟨hl, _⟩ := List.getElem?_eq_some_iff.mp hj
    have hjj : (y.m.set j ⟨p, b, .pu (m0 - cost)⟩)[j]? = some ⟨p, b, .pu (m0 - cost)⟩ := List.getElem?_set_self hl
    by_cases n : i' = j
    · subst n; rw [hjj] at hi'; cases hi'; rfl
    · exfalso
      rw [List.pairwise_iff_getElem] at pws
      obtain ⟨hi1, hi2⟩ := List.getElem?_eq_some_iff.mp hi'
      obtain ⟨hj1, hj2⟩ := List.getElem?_eq_some_iff.mp hjj
      rcases Nat.lt_or_gt_of_ne n with n | n
      · have := pws i' j hi1 hj1 n; rw [hi2, hj2] at this; exact this hq
      · have := pws j i' hj1 hi1 n; rw [hi2, hj2] at this; exact this hq.symm
  have old : ∀ e ∈ y.m.set j ⟨p, b, .pu (m0 - cost)⟩, ∃ e0 ∈ y.m, e0.a = e.a ∧ (e.own = true → e0.own = true) ∧ (e.c.isRo = false → e0.c.isRo = false) := fun e he => by
    rcases mem_set_or he with he | he
    · subst he; exact ⟨_, hmm, rfl, fun z => z, fun _ => rfl⟩
    · exact ⟨e, he, rfl, fun z => z, fun z => z⟩
  have key := wd.store (m := y.m.set j ⟨p, b, .pu (m0 - cost)⟩ ++ toCl true nw) (H' := H') (fun a o n e => kp a o (fun z => n (z ▸ pd)) e)
    (fun a ⟨e, h1, h2⟩ z => by
      by_cases ha : a = p
      · exact lvp (ha ▸ z)
      · cases r : H a with
        | none => exact (wd.cell e h1).live (h2 ▸ r)
        | some o => rw [kp a o ha r] at z; cases z)
    (fun e he => by
      rcases List.mem_append.mp he with he | he
      · exact .inl (old e he)
      · obtain ⟨e', h1, rfl⟩ := List.mem_map.mp he
        exact .inr (fr e' h1))
    (by
      rw [List.pairwise_append]
      refine ⟨pw_set wd.dist hj rfl, by unfold toCl; rw [List.pairwise_map]; exact pw, fun e he e2 he2 z => ?_⟩
      obtain ⟨e', h1', rfl⟩ := List.mem_map.mp he2
      obtain ⟨e0, q1, q2, _⟩ := old e he
      exact (wd.cell e0 q1).live (by rw [q2, z]; exact fr e' h1'))
    (fun g e he => by
      rcases List.mem_append.mp he with he | he
      · by_cases hq : e.a = p
        · rw [inset e he hq]; exact pk
        · rcases mem_set_or he with he | he
          · subst he; exact absurd rfl hq
          · exact (wd.cell e he).go g fun o r => kp _ _ hq r
      · obtain ⟨e', h1', rfl⟩ := List.mem_map.mp he
        refine (cs e' h1').go (fun a o n e => ⟨fun z => n ?_, e⟩) fun _ r => r
        rcases z with z | ⟨e2, h2, h3⟩
        · exact .inl (.inl z)
        · rcases List.mem_append.mp h2 with h2 | h2
          · obtain ⟨e0, q1, q2, _⟩ := old e2 h2
            exact .inl (.inr ⟨e0, q1, q2.trans h3⟩)
          · obtain ⟨e3, h4, rfl⟩ := List.mem_map.mp h2
            exact .inr ⟨e3, h4, h3⟩)
  refine k v H' z _ key.1 key.2 ⟨rfl, toCl true nw, ?_⟩ (Rw.z (rv.go fun a o n e => ⟨fun z => n ?_, e⟩)) (q z nw hp)
  · show ao (y.m.set j ⟨p, b, .pu (m0 - cost)⟩ ++ toCl true nw) = ao y.m ++ ao (toCl true nw)
    unfold ao
    rw [List.map_append]
    congr 1
    apply List.ext_getElem?
    intro i'
    by_cases n : i' = j
    · subst n
      obtain ⟨hl, _⟩ := List.getElem?_eq_some_iff.mp hj
      rw [List.getElem?_map, List.getElem?_map, List.getElem?_set_self hl, hj]
      rfl
    · rw [List.getElem?_map, List.getElem?_map, List.getElem?_set_ne (Ne.symm n)]
  · rcases z with z | ⟨e2, h2, h3⟩
    · exact .inl (.inl z)
    · rcases List.mem_append.mp h2 with h2 | h2
      · obtain ⟨e0, q1, q2, _⟩ := old e2 h2
        exact .inl (.inr ⟨e0, q1, q2.trans h3⟩)
      · obtain ⟨e3, h4, rfl⟩ := List.mem_map.mp h2
        exact .inr ⟨e3, h4, h3⟩
end Ux
namespace Ux
open PySem PySem.Spec PyProof.Rows L2 Tq
/-! ### the very same thing: it grows, and is shown alike -/
structure VOk (c : Cont) : Prop where
  pl : c.plain = true
  ln : c.len < 1000
  sh : ShOk c.gr.dat
def vSp (K : Fg) : Sp := fun vs H Q _ => ∃ (M : Addr → Prop) (z : Z) (nw : List (Addr × Cell)) (c : Cont) (v v' : V), vs = [v, v'] ∧ (∀ a, M a → H a ≠ none) ∧ (∀ e ∈ nw, M e.1 ∧ CellOk K M H e.1 e.2) ∧ Rw K M H v z ∧ Rw K M H v' z ∧ Th z nw c ∧ VOk c ∧
  ∀ nw' H', Th z nw' c.gr → (∀ a o, (∀ e ∈ nw, e.1 ≠ a) → H a = some o → H' a = some o) → (∀ e ∈ nw', CellOk K M H' e.1 e.2) → Q (.bl true) H'
def setN (m : List Cl) (j : Nat) (b : Bool) : List (Addr × Cell) → List Cl
  | [] => m
  | (a, c) :: _ => m.set j ⟨a, b, c⟩
theorem wE_very {C : Ct} {y : S} {ts : TA} {E : XK} {Q : Z → S → Prop} (w : wZ C ts y fun zs y1 => ∃ z nw c j b, zs = [z, z] ∧ Th z nw c ∧ VOk c ∧ (∀ e ∈ nw, y1.m[j]? = some ⟨e.1, b, e.2⟩) ∧ ∀ nw', Th z nw' c.gr → Q (.d (.bool true)) ⟨y1.l, setN y1.m j b nw'⟩) :
    wE C (tCall (vSp C.K) [] E ts) y Q := by
  intro F σ H K wd k
  refine w F σ H _ wd fun vs H1 zs y1 w1 g1 s1 r1 ⟨z, nw, c, j, b, ez, th, vo, hj, q⟩ => ?_
  subst ez
  cases r1 with | @cons v _ vs _ rv r2 =>
  cases r2 with | @cons v2 _ vs2 _ rv2 r3 =>
  cases r3
  refine ⟨Mv F σ y1, z, nw, c, v, v2, rfl, fun a m e => w1.new e m, fun e he => ?_, rv, rv2, th, vo, fun nw' H' th' kp cs => ?_⟩
  · have hm := List.mem_of_getElem? (hj e he)
    exact ⟨.inr ⟨_, hm, rfl⟩, w1.cell _ hm⟩
  · cases th with
    | pl d =>
      cases th' with
      | pl _ =>
        have gr : ∀ a o, H1 a = some o → H' a = some o := fun a o e => kp a o (fun _ z => nomatch z) e
        exact k _ H' (.d (.bool true)) y1 (w1.grow gr) (g1.trans (go_grow gr)) s1 (.bl true) (q [] (.pl d))
    | ls a ds =>
      cases th' with
      | ls _ ds' =>
        have hc := cs _ List.mem_cons_self
        obtain ⟨w2, g2, s2⟩ := w1.cmut (H' := H') (c' := .lst ((ds ++ [PyData.str "more"]).map Z.d)) (hj _ List.mem_cons_self) rfl rfl (fun x o n e => kp x o (fun e' he => by rw [List.mem_singleton] at he; subst he; exact fun z => n z.symm) e)
          fun M sb g => hc.go (fun a o n e => ⟨fun z => n (sb a z), e⟩) fun _ r => r
        exact k _ H' (.d (.bool true)) _ w2 (g1.trans g2) (s1.trans s2) (.bl true) (q _ (.ls a _))
    | dc a kvs =>
      cases th' with
      | dc _ kvs' =>
        have hc := cs _ List.mem_cons_self
        obtain ⟨w2, g2, s2⟩ := w1.cmut (H' := H') (c' := .dic (kvD (putKD kvs (.inr "more") (.int 1)))) (hj _ List.mem_cons_self) rfl rfl (fun x o n e => kp x o (fun e' he => by rw [List.mem_singleton] at he; subst he; exact fun z => n z.symm) e)
          fun M sb g => hc.go (fun a o n e => ⟨fun z => n (sb a z), e⟩) fun _ r => r
        exact k _ H' (.d (.bool true)) _ w2 (g1.trans g2) (s1.trans s2) (.bl true) (q _ (.dc a _))
end Ux
namespace Ux
open PySem PySem.Spec PyProof.Rows L2 Tq
def tDispL : List (TE × TE) → TE := tDisp
section
variable {C : Ct} {y : S} {Q : Z → S → Prop}
theorem xE_dispS {k : Str} {v : V} {d : D} (s : Sc v d) (q : ∀ p, Q (.lab p) ⟨y.l, y.m ++ [⟨p, true, .dic [(.inr k, .d d)]⟩]⟩) : wE C (tDispL [(tC (.str k), tC v)]) y Q := wE_dispL (kk := .inr k) s q
theorem xE_dispI {k : Int} {v : V} {d : D} (s : Sc v d) (q : ∀ p, Q (.lab p) ⟨y.l, y.m ++ [⟨p, true, .dic [(.inl k, .d d)]⟩]⟩) : wE C (tDispL [(tC (.int k), tC v)]) y Q := wE_dispL (kk := .inl k) s q
end
theorem kit_mk {K : Fg} {A B : Addr} {b : Bool} (ne : (Value.ref A == Value.ref B) = false) (ht : PySem.W.typeIn K (.ref B) = some (.type "type")) (hc : PySem.W.isClsIn K B = true) (hs : PySem.W.subIn K (.ref A) (.ref B) = some b) : PySem.W.kitOne K (.ref A) (.ref B) = some b := by
  have e2 : ((PySem.W.clsIn K B).isSome && PySem.W.typeIn K (.ref B) == some (.type "type")) = true := by
    have h2' : (PySem.W.clsIn K B).isSome = true := hc
    rw [h2', ht] <;> rfl
  show (if (Value.ref A == Value.ref B) = true then some true else (if ((PySem.W.clsIn K B).isSome && PySem.W.typeIn K (.ref B) == some (.type "type")) = true then PySem.W.subIn K (.ref A) (.ref B) else none)) = some b
  rw [ne, if_neg (by simp), if_pos e2]
  exact hs
end Ux
namespace Ux
open PySem PySem.Spec PyProof.Rows L2 Tq
end Ux

set_option maxRecDepth 100000
set_option maxHeartbeats 4000000
namespace Ux
open PySem PySem.Spec PyProof.Rows L2 Tq
/-! ### x == [] -/
def rEqNil (K : Fg) : R2 := fun x y H Q => ∃ a b xs, x = .ref a ∧ y = .ref b ∧ SqL K H a xs ∧ SqL K H b [] ∧ Q (.bl (decide (xs.length = 0))) H
section
variable {C : Ct} {y : S} {ta tb te : TE} {tt : TT} {tx : TS} {e : En} {Q : Z → S → Prop}
theorem wE_eqNil (w : wE C ta y fun z y1 => wE C tb y1 fun z' y2 => ∃ xs, lstZ z = some xs ∧ z' = .d (.list []) ∧ Q (.d (.bool (decide (xs.length = 0)))) y2) : wE C (tOp (rEqNil C.K) ta tb) y Q := by
  intro F σ H K wd k
  refine w F σ H _ wd fun x H1 z y1 w1 g1 s1 r1 q1 => ?_
  refine q1 F σ H1 _ w1 fun x2 H2 z' y2 w2 g2 s2 r2 q2 => ?_
  obtain ⟨xs, e1, rfl, hq⟩ := q2
  obtain ⟨a, us, rfl, h1, h2⟩ := rw_lst (r1.w.go g2) e1
  obtain ⟨b, vs, rfl, h3, h4⟩ := rp_lst r2
  cases h4
  exact ⟨a, b, us, rfl, rfl, h1.sq, h3.sq, k _ H2 (.d (.bool _)) y2 w2 (g1.trans g2) (s1.trans s2) (.bl _) (by rw [h2.len]; exact hq)⟩
/-! ### lists with labels gone through -/
def JOkZ (C : Ct) (F : Fr) (J : It) (σ : St) (y : S) (H : Hp) (xs : List Z) : Prop := ∀ (F1 : Fr) σ1 y1 H1, Wd0 C.K F1 σ1 y1 H1 → GoH (Mv F σ y) H (Mv F1 σ1 y1) H1 → ∀ i : Nat, (i < xs.length → J.go i H1) ∧ (xs.length ≤ i → J.stop i H1) ∧
  ∀ x, xs[i]? = some x → ∀ v H2, J.yld i H1 v H2 → (∀ a o, H1 a = some o → H2 a = some o) ∧ Rw C.K (Mv F1 σ1 y1) H2 v x
def wIZ (C : Ct) (wi : TI) (y : S) (Q : List Z → S → Prop) : Prop := ∀ (F : Fr) σ H (R : It → Hp → Prop), Wd C F σ y H → (∀ J H' xs y', Wd C F σ y' H' → Go F σ y H σ y' H' → Sh y y' → JOkZ C F J σ y' H' xs → Q xs y' → R J H') → wi σ H R
variable {Qi : List Z → S → Prop} {wi : TI}
theorem wIZ_list (w : wE C te y fun z y1 => ∃ xs, lstZ z = some xs ∧ Qi xs y1) : wIZ C (iList C.K te) y Qi := by
  intro F σ H R wd k
  refine w F σ H _ wd fun v H1 z y1 w1 g1 s1 r1 q => ?_
  obtain ⟨xs, ez, q⟩ := q
  obtain ⟨a, us, rfl, h1, h2⟩ := rw_lst r1.w ez
  refine ⟨a, rfl, ⟨us, h1.sq⟩, k _ H1 xs y1 w1 g1 s1 (fun F1 σ2 y2 H2 w2 g2 i => ?_) q⟩
  have e1 := (h1.go g2).sq
  have e2 := h2.go g2
  refine ⟨fun hi => ?_, fun hi => ⟨us, e1, by rw [h2.len]; exact hi⟩, fun x hx v H3 hy => ?_⟩
  · have : i < us.length := by rw [h2.len]; exact hi
    exact ⟨us, us[i], e1, by simp [this]⟩
  · obtain ⟨rfl, hv⟩ := hy
    obtain ⟨d, hd, rd⟩ := e2.getV (hv us e1)
    rw [hx] at hd
    cases hd
    exact ⟨fun _ _ e => e, rd⟩
variable {g : TG}
end
/-! ### defs that change what they are handed -/
def mSp (K : Fg) (n : Nat) (pre : List (Addr × Cell) → List Z → Prop) (post : List (Addr × Cell) → List Z → D → List (Addr × Cell) → Prop) : Sp := fun vs H Q _ => ∃ (M : Addr → Prop) (m : List (Addr × Cell)) (zs : List Z), (∀ a, M a → H a ≠ none) ∧ RwA K M H vs zs ∧ (∀ e ∈ m, M e.1 ∧ CellOk K M H e.1 e.2 ∧ e.2.isRo = false) ∧ (m.Pairwise fun e e' => e.1 ≠ e'.1) ∧ zs.length = n ∧ pre m zs ∧
  ∀ d v m' H', post m zs d m' → scD d = true → m'.map (·.1) = m.map (·.1) → (∀ e ∈ m', e.2.isRo = false) → (∀ a o, (∀ e ∈ m, e.1 ≠ a) → H a = some o → H' a = some o) → (∀ e ∈ m', CellOk K M H' e.1 e.2) → Rp K M H' v d → Q v H'
theorem wE_m {C : Ct} {y : S} {ts : TA} {E : XK} {Q : Z → S → Prop} {n : Nat} {pre : List (Addr × Cell) → List Z → Prop} {post : List (Addr × Cell) → List Z → D → List (Addr × Cell) → Prop}
    (w : wZ C ts y fun zs y1 => ∃ A m B b, y1.m = A ++ toCl b m ++ B ∧ (∀ e ∈ m, e.2.isRo = false) ∧ zs.length = n ∧ pre m zs ∧ ∀ d m', post m zs d m' → m'.map (·.1) = m.map (·.1) → (∀ e ∈ m', e.2.isRo = false) → Q (.d d) ⟨y1.l, A ++ toCl b m' ++ B⟩) :
    wE C (tCall (mSp C.K n pre post) [] E ts) y Q := by
  intro F σ H K wd k
  refine w F σ H _ wd fun vs H1 zs y1 w1 g1 s1 r1 ⟨A, m, B, b, em, ro, hn, hp, q⟩ => ?_
  show mSp C.K n pre post (vs ++ []) H1 K E
  rw [List.append_nil]
  have mem : ∀ e ∈ m, (⟨e.1, b, e.2⟩ : Cl) ∈ y1.m := fun e he => by
    rw [em]; exact List.mem_append.mpr (.inl (List.mem_append.mpr (.inr (List.mem_map.mpr ⟨e, he, rfl⟩))))
  have dist := w1.dist
  rw [em] at dist
  have pwm : m.Pairwise fun e e' => e.1 ≠ e'.1 := by
    have := (List.pairwise_append.mp (List.pairwise_append.mp dist).1).2.1
    unfold toCl at this
    rw [List.pairwise_map] at this
    exact this
  refine ⟨Mv F σ y1, m, zs, fun a m e => w1.new e m, r1, fun e he => ⟨.inr ⟨_, mem e he, rfl⟩, w1.cell _ (mem e he), ro e he⟩, pwm, hn, hp, fun d v m' H' hq hs ha ro' kp cs rv => ?_⟩
  have aeq : (A ++ toCl b m' ++ B).map (·.a) = y1.m.map (·.a) := by
    rw [em]
    simp only [List.map_append, toCl, List.map_map]
    congr 2
  have aoeq : ao (A ++ toCl b m' ++ B) = ao y1.m := by
    rw [em]
    unfold ao
    simp only [List.map_append]
    congr 2
    unfold toCl
    rw [List.map_map, List.map_map]
    have e1 : ∀ l : List (Addr × Cell), (∀ e ∈ l, e.2.isRo = false) → l.map ((fun e : Cl => (e.a, e.own, e.c.isRo)) ∘ fun e => (⟨e.1, b, e.2⟩ : Cl)) = (l.map (·.1)).map fun a => (a, b, false) := fun l hl => by
      rw [List.map_map]
      exact List.map_congr_left fun e he => by show (e.1, b, e.2.isRo) = (e.1, b, false); rw [hl e he]
    rw [e1 m' ro', e1 m ro, ha]
  have inm : ∀ a, (∃ e ∈ m, e.1 = a) ↔ ∃ e ∈ m', e.1 = a := fun a => by
    have e1 : ∀ l : List (Addr × Cell), (∃ e ∈ l, e.1 = a) ↔ a ∈ l.map (·.1) := fun l => List.mem_map.symm
    rw [e1, e1, ha]
  have old : ∀ e ∈ A ++ toCl b m' ++ B, ∃ e0 ∈ y1.m, e0.a = e.a ∧ (e.own = true → e0.own = true) ∧ (e.c.isRo = false → e0.c.isRo = false) := fun e he => by
    obtain ⟨e', h1, h2, h3, h4⟩ := own_ao aoeq he
    exact ⟨e', h1, h2, fun z => h3.trans z, fun z => h4.trans z⟩
  have lv : ∀ a, Dom y1.m a → H' a ≠ none := fun a ⟨e, h1, h2⟩ z => by
    by_cases ha : ∃ e ∈ m, e.1 = a
    · obtain ⟨e', q1, q2⟩ := (inm a).mp ha
      exact (cs e' q1).live (q2 ▸ z)
    · cases r : H1 a with
      | none => exact (w1.cell e h1).live (h2 ▸ r)
      | some o => rw [kp a o (fun e he q => ha ⟨e, he, q⟩) r] at z; cases z
  have key := w1.store (m := A ++ toCl b m' ++ B) (H' := H') (fun a o n e => kp a o (fun e' he' z => n ⟨_, mem e' he', z, ro e' he'⟩) e) lv (fun e he => .inl (old e he))
    (by
      have p1 : ∀ l : List Cl, (l.Pairwise fun e e' => e.a ≠ e'.a) ↔ (l.map (·.a)).Pairwise (· ≠ ·) := fun l => by rw [List.pairwise_map]
      rw [p1, aeq, ← p1]
      exact w1.dist)
    (fun g e he => by
      by_cases hq : ∃ e' ∈ m', (⟨e'.1, b, e'.2⟩ : Cl) = e
      · obtain ⟨e', h1', rfl⟩ := hq
        refine (cs e' h1').go (fun a o n e => ⟨fun z => n ?_, e⟩) fun _ r => r
        rcases z with z | ⟨e2, h2, h3⟩
        · exact .inl z
        · obtain ⟨e0, q1, q2, _⟩ := old e2 h2
          exact .inr ⟨e0, q1, q2.trans h3⟩
      · have hAB : e ∈ A ∨ e ∈ B := by
          rcases List.mem_append.mp he with he | he
          · rcases List.mem_append.mp he with he | he
            · exact .inl he
            · obtain ⟨e', h1', rfl⟩ := List.mem_map.mp he
              exact absurd ⟨e', h1', rfl⟩ hq
          · exact .inr he
        have hy : e ∈ y1.m := by
          rw [em]
          rcases hAB with h | h
          · exact List.mem_append.mpr (.inl (List.mem_append.mpr (.inl h)))
          · exact List.mem_append.mpr (.inr h)
        refine (w1.cell e hy).go g fun o r => kp _ _ (fun e' he' z => ?_) r
        have m1 : (⟨e'.1, b, e'.2⟩ : Cl) ∈ toCl b m := List.mem_map.mpr ⟨e', he', rfl⟩
        rcases hAB with h | h
        · exact (List.pairwise_append.mp (List.pairwise_append.mp dist).1).2.2 e h _ m1 z.symm
        · exact (List.pairwise_append.mp dist).2.2 _ (List.mem_append.mpr (.inr m1)) e h z)
  exact k v H' (.d d) _ key.1 (g1.trans key.2) (s1.trans ⟨rfl, [], by rw [show ao ([] : List Cl) = [] from rfl, List.append_nil]; exact aoeq⟩) (sc_rp hs rv) (q d m' hq ha ro')
/-- the very thing, wherever it lies in the store -/
theorem wE_veryA {C : Ct} {y : S} {ts : TA} {E : XK} {Q : Z → S → Prop} (w : wZ C ts y fun zs y1 => ∃ z nw c A B b, zs = [z, z] ∧ Th z nw c ∧ VOk c ∧ y1.m = A ++ toCl b nw ++ B ∧ ∀ nw', Th z nw' c.gr → Q (.d (.bool true)) ⟨y1.l, A ++ toCl b nw' ++ B⟩) :
    wE C (tCall (vSp C.K) [] E ts) y Q := by
  refine wE_very (wZ_mono w fun zs y1 ⟨z, nw, c, A, B, b, e1, th, vo, em, q⟩ => ⟨z, nw, c, A.length, b, e1, th, vo, fun e he => ?_, fun nw' th' => ?_⟩)
  · cases th with
    | pl d => cases he
    | ls a ds => rw [List.mem_singleton] at he; subst he; rw [em]; simp [toCl]
    | dc a ds => rw [List.mem_singleton] at he; subst he; rw [em]; simp [toCl]
  · have h := q nw' th'
    cases th with
    | pl d =>
      cases th' with
      | pl _ => rw [show y1.m = A ++ toCl b [] ++ B from em]; exact h
    | ls a ds =>
      cases th' with
      | ls _ _ =>
        rw [em]
        show Q _ ⟨_, (A ++ [_] ++ B).set A.length _⟩
        rw [List.append_assoc, List.set_append_right _ _ (Nat.le_refl _), Nat.sub_self]
        simpa [toCl] using h
    | dc a ds =>
      cases th' with
      | dc _ _ =>
        rw [em]
        show Q _ ⟨_, (A ++ [_] ++ B).set A.length _⟩
        rw [List.append_assoc, List.set_append_right _ _ (Nat.le_refl _), Nat.sub_self]
        simpa [toCl] using h
end Ux

set_option maxRecDepth 100000
set_option maxHeartbeats 4000000
/-! x != [] -/
namespace Tq
open PySem PySem.Spec PyProof.Rows L2
def rNeNil (K : Fg) : R2 := fun x y H Q => ∃ a b xs, x = .ref a ∧ y = .ref b ∧ SqL K H a xs ∧ SqL K H b [] ∧ Q (.bl (!decide (xs.length = 0))) H
theorem wE_neNil {C : Ct} {y : S} {ta tb : TE} {Q : Z → S → Prop} (w : wE C ta y fun z y1 => wE C tb y1 fun z' y2 => ∃ xs, z = .d (.list xs) ∧ z' = .d (.list []) ∧ Q (.d (.bool (!decide (xs.length = 0)))) y2) : wE C (tOp (rNeNil C.K) ta tb) y Q := by
  refine wE_op (res := fun d e r => ∃ xs, d = .list xs ∧ e = .list [] ∧ r = .bool (!decide (xs.length = 0))) ?_ (wE_mono w fun z y1 h => wE_mono h fun z' y2 ⟨xs, e1, e2, q⟩ => ⟨_, _, _, e1, e2, ⟨xs, rfl, rfl, rfl⟩, q⟩)
  rintro M H x y d e r Q fr rx ry ⟨xs, rfl, rfl, rfl⟩ k
  obtain ⟨a, us, rfl, h1, h2⟩ := rp_lst rx
  obtain ⟨b, vs, rfl, h3, h4⟩ := rp_lst ry
  cases h4
  exact ⟨a, b, us, rfl, rfl, h1.sq, h3.sq, k _ H (fun _ _ e => e) (by rw [h2.len]; exact .bl _)⟩
/-! x not in a tuple of tuples -/
def rNotInTD (K : Fg) : R2 := fun x y H Q => ∃ d ds, Dp K H x d ∧ Dp K H y (.tuple ds) ∧ (SeqAt.shaped d = true ∧ d.depth ≤ 60) ∧ SeqAt.shaped (.tuple ds) = true ∧ Q (.bl (!ds.any fun z => PyData.eqv z d)) H
end Tq
namespace Ux
open PySem PySem.Spec PyProof.Rows L2 Tq
theorem wE_neNil {C : Ct} {y : S} {ta tb : TE} {Q : Z → S → Prop} (w : wE C ta y fun z y1 => wE C tb y1 fun z' y2 => ∃ xs, lstZ z = some xs ∧ z' = .d (.list []) ∧ Q (.d (.bool (!decide (xs.length = 0)))) y2) : wE C (tOp (rNeNil C.K) ta tb) y Q := by
  intro F σ H K wd k
  refine w F σ H _ wd fun x H1 z y1 w1 g1 s1 r1 q1 => ?_
  refine q1 F σ H1 _ w1 fun x2 H2 z' y2 w2 g2 s2 r2 q2 => ?_
  obtain ⟨xs, e1, rfl, hq⟩ := q2
  obtain ⟨a, us, rfl, h1, h2⟩ := rw_lst (r1.w.go g2) e1
  obtain ⟨b, vs, rfl, h3, h4⟩ := rp_lst r2
  cases h4
  exact ⟨a, b, us, rfl, rfl, h1.sq, h3.sq, k _ H2 (.d (.bool _)) y2 w2 (g1.trans g2) (s1.trans s2) (.bl _) (by rw [h2.len]; exact hq)⟩
theorem wE_notInTD {C : Ct} {y : S} {ta tb : TE} {Q : Z → S → Prop} (w : wE C ta y fun z y1 => wE C tb y1 fun z' y2 => ∃ d ds, z = .d d ∧ z' = .d (.tuple ds) ∧ (SeqAt.shaped d = true ∧ d.depth ≤ 60) ∧ SeqAt.shaped (.tuple ds) = true ∧ Q (.d (.bool (!ds.any fun z => PyData.eqv z d))) y2) : wE C (tOp (rNotInTD C.K) ta tb) y Q := by
  refine wE_op (res := fun d e r => ∃ ds, e = .tuple ds ∧ (SeqAt.shaped d = true ∧ d.depth ≤ 60) ∧ SeqAt.shaped (.tuple ds) = true ∧ r = .bool (!ds.any fun z => PyData.eqv z d)) ?_ (wE_mono w fun z y1 h => wE_mono h fun z' y2 ⟨d, ds, e1, e2, s1, s2, q⟩ => ⟨_, _, _, e1, e2, ⟨ds, rfl, s1, s2, rfl⟩, q⟩)
  rintro M H x y d e r Q _ rx ry ⟨ds, rfl, s1, s2, rfl⟩ k
  exact ⟨d, ds, rx.dp (canLay_noDict s1.1), ry.dp (canLay_noDict s2), s1, s2, k _ H (fun _ _ e => e) (.bl _)⟩
end Ux

set_option maxRecDepth 100000
set_option maxHeartbeats 4000000
namespace Ux
open PySem PySem.Spec PyProof.Rows L2 Tq
/-! ### defs with one default, keywords -/
structure DfD (K : Fg) (mg : Str → Option Value) (x : Str) (st : Stmt) (ps : List Str) (dv : V) : Prop where
  ex : ∃ (f : Addr) (fd : FuncData), FunD K x x (defArgs st) (defBody st) (defScope st) [dv] [] f fd ∧ mg x = some (.ref f) ∧ Binds K fd ps [] ∧ (∃ ds, Vals [dv] ds ∧ Binds K fd ps ds) ∧
    ∀ (s : Shared) (us ws : List Value), K.In s.heap → us.length + 1 = ps.length → ws.length = 1 → BindsTo s fd ⟨us, (ps.drop us.length).zip ws⟩ (ps.zip (us ++ ws))
structure CalD (P : Program) (w : World) (K : Fg) (mg : Str → Option Value) (base : Heap) (k : Nat) (x : Str) (ps : List Str) (sp : Sp) (dv : V) : Prop where
  ex : ∃ (f : Addr) (fd : FuncData), Tq.FnG P w K mg base (L2.CX P w) k f fd ps sp ∧ mg x = some (.ref f) ∧ PySem.W.keepIn K (.ref f) = true ∧ Binds K fd ps [] ∧ (∃ ds, Vals [dv] ds ∧ Binds K fd ps ds) ∧
    ∀ (s : Shared) (us ws : List Value), K.In s.heap → us.length + 1 = ps.length → ws.length = 1 → BindsTo s fd ⟨us, (ps.drop us.length).zip ws⟩ (ps.zip (us ++ ws))
section
variable {P : Program} {w : World} {K : Fg} {mg : Str → Option Value} {base : Heap} {k : Nat} {x : Str} {ps N : List Str} {sp : Sp} {st : Stmt} {dv : V}
theorem CalD.toX (c : CalD P w K mg base k x ps sp dv) : CalX P w K mg base k x ps sp := by
  obtain ⟨f, fd, h1, h2, h3, h4, _⟩ := c.ex
  exact ⟨f, fd, h1, h2, h3, h4⟩
theorem okD (d : DfD K mg x st ps dv) (Sc : FnScope N ps (defScope st)) (len : ∀ vs H Q E, sp vs H Q E → vs.length = ps.length)
    (hbody : ∀ (f : Addr) (cdv : Value) (A : Around) (outer : List Env) (s : Shared) (H : Hp) (vs : List V) (Q : VK) (E : XK), Room k (A.deeper (envOfC x (defScope st) s.heap.objs.size f cdv)) →
      (A.deeper (envOfC x (defScope st) s.heap.objs.size f cdv)).guards = some [] → sp vs H Q E →
      ∃ t, PSs (cxOf (L2.CX P w) P w K mg base N x (defScope st) f cdv A outer s H E) (defBody st) t ∧ t { nx := fun _ G => Q .non G, rt := Q } (start N vs) H) : CalD P w K mg base (k + 1) x ps sp dv := by
  obtain ⟨f, fd, F, hm, hb⟩ := d.ex
  have kp := F.kp
  obtain ⟨oc, od, dV, kV, doc, pm, an, cdv, ct, osl, rfl, lk, hcd, _, _⟩ := F.ex
  exact ⟨f, _, Tq.fn_ofG lk hcd Sc len fun A outer s H vs Q E hr hgu hsp => hbody f cdv A outer s H vs Q E hr hgu hsp, hm, kp, hb⟩
end
theorem dfd_mk {K : Fg} {h : Heap} {mg : Str → Option Value} {x a b : Str} {st : Stmt} {f T : Addr} {od od2 an : Option Addr} {sl sl2 : Array (Option Value)} {oc oc2 kV dc pm cd ct du : Value} {dv : V} {n : Nat} (X : K.In h) (G : h.Ns mainGlobals mg) (rv : RelV dv du)
    (hb2 : ∀ (T : Addr) (kV doc pm : Value) (an : Option Addr) (cdv ct : Value) (us its : List Value), us.length = 2 → its.length = 1 → ∃ k, bindArgs (PySem.W.fnOf x x (defArgs st) (defBody st) (defScope st) (.ref T) kV doc pm an cdv ct) ⟨us, []⟩ = seqItems? (.ref T) >>= k ∧ k (some its.toArray) = pure ([a, b].zip us))
    (hb1 : ∀ (T : Addr) (kV doc pm : Value) (an : Option Addr) (cdv ct : Value) (us its : List Value), us.length = 1 → its.length = 1 → ∃ k, bindArgs (PySem.W.fnOf x x (defArgs st) (defBody st) (defScope st) (.ref T) kV doc pm an cdv ct) ⟨us, []⟩ = seqItems? (.ref T) >>= k ∧ k (some its.toArray) = pure ([a, b].zip (us ++ its)))
    (hbk : ∀ (T : Addr) (kV doc pm : Value) (an : Option Addr) (cdv ct : Value) (us ws its : List Value), us.length = 1 → ws.length = 1 → its.length = 1 → ∃ k, bindArgs (PySem.W.fnOf x x (defArgs st) (defBody st) (defScope st) (.ref T) kV doc pm an cdv ct) ⟨us, [b].zip ws⟩ = seqItems? (.ref T) >>= k ∧ k (some its.toArray) = pure ([a, b].zip (us ++ ws)))
    (ax : PySem.W.nsIn K mainGlobals x = some (some (.ref f))) (l : K.lookup f = some ⟨oc, od, .func (PySem.W.fnOf x x (defArgs st) (defBody st) (defScope st) (.ref T) kV dc pm an cd ct), sl⟩) (lT : K.lookup T = some ⟨oc2, od2, .seq [du].toArray n, sl2⟩)
    (c : PySem.W.codeIn K cd x = true) (k : PySem.W.keepIn K (.ref f) = true) : DfD K mg x st [a, b] dv := by
  have F : FunD K x x (defArgs st) (defBody st) (defScope st) [dv] [] f (PySem.W.fnOf x x (defArgs st) (defBody st) (defScope st) (.ref T) kV dc pm an cd ct) :=
    ⟨⟨oc, od, .ref T, kV, dc, pm, an, cd, ct, sl, rfl, l, c, .inr ⟨by simp, T, _, [du], n, rfl, lT, rfl, .cons rv .nil⟩, .inl rfl⟩, k⟩
  refine ⟨f, _, F, PySem.W.mg_of X G ax, ?_, ?_, ?_⟩
  · obtain ⟨ds, hv, hb⟩ := F.binds1 (ps := [a, b]) 2 1 (by simp) rfl (fun T kV doc pm an cdv ct us its h1 h2 => by
      obtain ⟨k, e1, e2⟩ := hb2 T kV doc pm an cdv ct us its h1 h2
      refine ⟨k, e1, ?_⟩
      rw [e2]
      match its, h2 with
      | [_], _ => simp)
    cases hv
    exact hb
  · obtain ⟨ds, hv, hb⟩ := F.binds1 (ps := [a, b]) 1 0 (by simp) rfl (fun T kV doc pm an cdv ct us its h1 h2 => hb1 T kV doc pm an cdv ct us its h1 h2)
    exact ⟨ds, hv, hb⟩
  · intro s us ws X l1 l2
    have l1 : us.length = 1 := by
      have : us.length + 1 = 2 := l1
      omega
    rw [l1]
    obtain ⟨k, e1, e2⟩ := hbk T kV dc pm an cd ct us ws [du] l1 l2 rfl
    refine BindsTo.of_looks fun M => ?_
    show PySem.W.Looks M s.heap (bindArgs _ ⟨us, [b].zip ws⟩) _
    rw [e1]
    exact looks_items X lT rfl (.of_pure e2)
/-! ### comprehensions of things told beforehand; lists taken apart -/
section
variable {C : Ct} {y : S} {ta tb tc te : TE} {tt : TT} {wi : TI} {Q : Z → S → Prop}
variable {g : TG} {Qg : S → Prop}
end
theorem Res.str {m : List Cl} {z : Z} {s : Str} (h : Res m z (.str s)) : z = .d (.str s) := by
  cases h with
  | d => rfl
  | lab _ hc => rcases hc.nsc with ⟨_, e⟩ | ⟨_, e⟩ <;> cases e
end Ux

set_option maxRecDepth 100000
set_option maxHeartbeats 4000000
namespace Ux
open PySem PySem.Spec PyProof.Rows L2 Tq
/-! ### defs that may raise and hand out things that are new -/
def xnSp (K : Fg) (n : Nat) (pre : List Z → List D → Prop) (post : List Z → List D → Z → List (Addr × Cell) → Prop) (xp : List Z → List D → Ex → Prop) : Sp := fun vs H Q E => ∃ (M : Addr → Prop) (m : List Cl) (zs : List Z) (ds : List D),
  (∀ a, M a → H a ≠ none) ∧ RwA K M H vs zs ∧ (∀ e ∈ m, M e.a ∧ CellOk K M H e.a e.c) ∧ (m.Pairwise fun e e' => e.a ≠ e'.a) ∧ ResA m zs ds ∧ zs.length = n ∧ pre zs ds ∧
  (∀ z nw v H', post zs ds z nw → (∀ a o, H a = some o → H' a = some o) → (∀ e ∈ nw, H e.1 = none) → (nw.Pairwise fun e e' => e.1 ≠ e'.1) → (∀ e ∈ nw, CellOk K (fun a => M a ∨ ∃ e ∈ nw, e.1 = a) H' e.1 e.2) → Rw K (fun a => M a ∨ ∃ e ∈ nw, e.1 = a) H' v z → Q v H') ∧
  (∀ ex a v H', xp zs ds ex → (∀ a o, H a = some o → H' a = some o) → H a = none → H' a = some (.xd [(keyZ ex.found, v)]) → Rw K M H' v (valZ ex.found) → E ex.cls (some a) H')
section
variable {K : Fg} {N : List Str} {t : TS} {vs : List V} {H : Hp} {Q : VK} {E : XK} {n : Nat} {pre : List Z → List D → Prop} {post : List Z → List D → Z → List (Addr × Cell) → Prop} {xp : List Z → List D → Ex → Prop}
end
section
variable {C : Ct} {y : S} {ts : TA} {te : TE} {Q : Z → S → Prop} {n : Nat} {pre : List Z → List D → Prop} {post : List Z → List D → Z → List (Addr × Cell) → Prop} {xp : List Z → List D → Ex → Prop} {e : En} {E : XK}
theorem xn_call {y1 : S} {F : Fr} {σ : St} {H1 H2 : Hp} {nw : List (Addr × Cell)} (w1 : Wd C F σ y1 H1) (gr : ∀ a o, H1 a = some o → H2 a = some o) (fr : ∀ e ∈ nw, H1 e.1 = none) (pw : nw.Pairwise fun e e' => e.1 ≠ e'.1)
    (cs : ∀ e ∈ nw, CellOk C.K (fun a => Mv F σ y1 a ∨ ∃ e ∈ nw, e.1 = a) H2 e.1 e.2) : Wd C F σ ⟨y1.l, y1.m ++ toCl true nw⟩ H2 ∧ Go F σ y1 H1 σ ⟨y1.l, y1.m ++ toCl true nw⟩ H2 :=
  w1.store (m := y1.m ++ toCl true nw) (H' := H2) (fun a o _ e => gr a o e)
    (fun a ⟨e, h1, h2⟩ z => by
      cases r : H1 a with
      | none => exact (w1.cell e h1).live (h2 ▸ r)
      | some o => rw [gr a o r] at z; cases z)
    (fun e he => by
      rcases List.mem_append.mp he with he | he
      · exact .inl ⟨e, he, rfl, fun z => z, fun z => z⟩
      · obtain ⟨e', h1, rfl⟩ := List.mem_map.mp he
        exact .inr (fr e' h1))
    (by
      rw [List.pairwise_append]
      refine ⟨w1.dist, by unfold toCl; rw [List.pairwise_map]; exact pw, fun e he e2 he2 z => ?_⟩
      obtain ⟨e', h1', rfl⟩ := List.mem_map.mp he2
      exact (w1.cell e he).live (by rw [z]; exact fr e' h1'))
    (fun g e he => by
      rcases List.mem_append.mp he with he | he
      · exact (w1.cell e he).go g fun o r => gr _ _ r
      · obtain ⟨e', h1', rfl⟩ := List.mem_map.mp he
        refine (cs e' h1').go (fun a o n e => ⟨fun z => n ?_, e⟩) fun _ r => r
        rcases z with z | ⟨e2, h2, h3⟩
        · exact .inl (.inl z)
        · rcases List.mem_append.mp h2 with h2 | h2
          · exact .inl (.inr ⟨e2, h2, h3⟩)
          · obtain ⟨e3, h4, rfl⟩ := List.mem_map.mp h2
            exact .inr ⟨e3, h4, h3⟩)
theorem xn_rw {y1 : S} {F : Fr} {σ : St} {H2 : Hp} {nw : List (Addr × Cell)} {v : V} {z : Z} (rv : Rw C.K (fun a => Mv F σ y1 a ∨ ∃ e ∈ nw, e.1 = a) H2 v z) : Rw C.K (Mv F σ ⟨y1.l, y1.m ++ toCl true nw⟩) H2 v z := by
  refine rv.go fun a o n e => ⟨fun z => n ?_, e⟩
  rcases z with z | ⟨e2, h2, h3⟩
  · exact .inl (.inl z)
  · rcases List.mem_append.mp h2 with h2 | h2
    · exact .inl (.inr ⟨e2, h2, h3⟩)
    · obtain ⟨e3, h4, rfl⟩ := List.mem_map.mp h2
      exact .inr ⟨e3, h4, h3⟩
theorem wE_xn (w : wZ C ts y fun zs y1 => ∃ ds, ResA y1.m zs ds ∧ (zs.length = n ∧ pre zs ds) ∧ (∀ z nw, post zs ds z nw → Q z ⟨y1.l, y1.m ++ toCl true nw⟩) ∧ ∀ ex, xp zs ds ex → C.ex ex y1) : wE C (tCallS (xnSp C.K n pre post xp) (WE C.W) ts) y Q := by
  intro F σ H K wd k
  refine w F σ H _ wd fun vs H1 zs y1 w1 g1 s1 r1 ⟨ds, hr, ⟨hn, hp⟩, q, x⟩ => ?_
  refine ⟨Mv F σ y1, y1.m, zs, ds, fun a m e => w1.new e m, r1, fun e he => ⟨.inr ⟨e, he, rfl⟩, w1.cell e he⟩, w1.dist, hr, hn, hp, fun z nw v H2 hz gr fr pw cs rv => ?_, fun ex a v H2 hx gr ha ha2 rv => ?_⟩
  · obtain ⟨w2, g2⟩ := xn_call w1 gr fr pw cs
    exact k v H2 z _ w2 (g1.trans g2) (s1.trans ⟨rfl, toCl true nw, by unfold ao; rw [List.map_append]⟩) (Rw.z (xn_rw rv)) (q z nw hz)
  · exact w1.xk σ y1 H2 ex ex.cls (some a) (w1.grow gr).toWd0 (go_grow gr) ⟨rfl, a, v, rfl, ha2, w1.new ha, w1.newH0 ha, rv⟩ (x ex hx)
abbrev anSp (K : Fg) (n : Nat) (pre : List Z → List D → Prop) (post : List Z → List D → Z → List (Addr × Cell) → Prop) : Sp := xnSp K n pre post fun _ _ _ => False
theorem wE_an (w : wZ C ts y fun zs y1 => ∃ ds, ResA y1.m zs ds ∧ (zs.length = n ∧ pre zs ds) ∧ (∀ z nw, post zs ds z nw → Q z ⟨y1.l, y1.m ++ toCl true nw⟩)) : wE C (tCall (anSp C.K n pre post) [] E ts) y Q := by
  intro F σ H K wd k
  refine w F σ H _ wd fun vs H1 zs y1 w1 g1 s1 r1 ⟨ds, hr, ⟨hn, hp⟩, q⟩ => ?_
  show anSp C.K n pre post (vs ++ []) H1 K E
  rw [List.append_nil]
  refine ⟨Mv F σ y1, y1.m, zs, ds, fun a m e => w1.new e m, r1, fun e he => ⟨.inr ⟨e, he, rfl⟩, w1.cell e he⟩, w1.dist, hr, hn, hp, fun z nw v H2 hz gr fr pw cs rv => ?_, fun ex a v H2 hx => hx.elim⟩
  obtain ⟨w2, g2⟩ := xn_call w1 gr fr pw cs
  exact k v H2 z _ w2 (g1.trans g2) (s1.trans ⟨rfl, toCl true nw, by unfold ao; rw [List.map_append]⟩) (Rw.z (xn_rw rv)) (q z nw hz)
end
/-! ### an own list is frozen -/
end Ux
namespace Ux
open PySem PySem.Spec PyProof.Rows L2 Tq
theorem wE_gd {C : Ct} {y : S} {Q : Z → S → Prop} {a : Addr} {d : D} (h : ∀ (M : Addr → Prop) (H : Hp), Rp C.K M H (.ref a) d) (q : Q (.d d) y) : wE C (tC (.ref a)) y Q := fun F σ H K w k => k (.ref a) H (.d d) y w GoH.refl (Sh.refl y) (h _ H) q
section
variable {C : Ct} {y : S} {te : TE} {Qi : List D → S → Prop}
end
end Ux
namespace Ux
theorem at_end {α : Type} (A : List α) (c : α) : (A ++ [c])[A.length]? = some c := by simp
theorem set_at_end {α : Type} (A : List α) (c d : α) : (A ++ [c]).set A.length d = A ++ [d] := by simp [List.set_append_right]
end Ux
namespace Ux
open PySem PySem.Spec PyProof.Rows L2 Tq
end Ux
namespace Ux
open PySem PySem.Spec PyProof.Rows L2 Tq
/-! ### lists of our own: made by +, list(..); read by slices, len, tuple(..), reversed -/
def rCatL (K : Fg) : R2 := rCatG K
def rSlLab (K : Fg) : V → Option Int → Option Int → Hp → VK → Prop := rSlD K
def tLenL (K : Fg) (t : TA) : TE := tCB (rLenD K) t
def tListL (K : Fg) (t : TA) : TE := tCB (rListD K) t
def tTupL (K : Fg) (t : TA) : TE := tCB (rTupD K) t
section
variable {X : Cx} (K : Fg)
end
theorem zLen {X : Cx} {e : Expr} {K : Fg} {t : TA} (h : PE X e (tCB (rLenD K) t)) : PE X e (tLenL K t) := h
theorem zTup {X : Cx} {e : Expr} {K : Fg} {t : TA} (h : PE X e (tCB (rTupD K) t)) : PE X e (tTupL K t) := h
section
variable {C : Ct} {y : S} {ta tb te : TE} {tl th : TO} {Q : Z → S → Prop}
theorem xE_catL (w : wE C ta y fun z y1 => wE C tb y1 fun z' y2 => ∃ xs zs, lstZ z = some xs ∧ lstZ z' = some zs ∧ xs.length + zs.length ≤ sizeLine ∧ ∀ p, Q (.lab p) ⟨y2.l, y2.m ++ [⟨p, true, .lst (xs ++ zs)⟩]⟩) : wE C (tOp (rCatL C.K) ta tb) y Q := by
  intro F σ H K wd k
  refine w F σ H _ wd fun x H1 z y1 w1 g1 s1 r1 q1 => ?_
  refine q1 F σ H1 _ w1 fun x2 H2 z' y2 w2 g2 s2 r2 q2 => ?_
  obtain ⟨xs, zs, e1, e2, hl, hq⟩ := q2
  obtain ⟨a, us, rfl, h1, h2⟩ := rw_lst (r1.w.go g2) e1
  obtain ⟨b, vs, rfl, h3, h4⟩ := rw_lst r2.w e2
  refine ⟨a, b, us, vs, rfl, rfl, h1.sq, h3.sq, by rw [h2.len, h4.len]; exact hl, fun p hp => ?_⟩
  obtain ⟨w3, g3, s3⟩ := w2.cnew (o := .lst (us ++ vs)) (c := .lst (xs ++ zs)) (b := true) hp fun M g => ⟨us ++ vs, upd_same, (h2.app h4).go g⟩
  exact k _ _ (.lab p) _ w3 ((g1.trans g2).trans g3) ((s1.trans s2).trans s3) (.lab p) (hq p)
/-- a list of ours, as it is at present -/
theorem lab_lst {F : Fr} {σ : St} {H : Hp} {v : V} {p : Addr} {b : Bool} {j : Nat} {zs : List Z} (wd : Wd C F σ y H) (r : Rz C F σ y H v (.lab p)) (hj : y.m[j]? = some ⟨p, b, .lst zs⟩) : v = .ref p ∧ ∃ xs, H p = some (.lst xs) ∧ RwA C.K (Mv F σ y) H xs zs := by
  cases r
  obtain ⟨xs, c1, c2⟩ := (wd.cell _ (List.mem_of_getElem? hj) : CellOk C.K (Mv F σ y) H p (.lst zs))
  exact ⟨rfl, xs, c1, c2⟩
theorem xE_lenL (w : wE C te y fun z y1 => ∃ (p : Addr) (b : Bool) (j : Nat) (zs : List Z), z = .lab p ∧ y1.m[j]? = some (⟨p, b, .lst zs⟩ : Cl) ∧ Q (.d (.int zs.length)) y1) : wE C (tLenL C.K (tCons te tNil)) y Q := by
  intro F σ H K wd k
  refine w F σ H _ wd fun x H1 z y1 w1 g1 s1 r1 q1 => ?_
  obtain ⟨p, b, j, zs, rfl, hj, hq⟩ := q1
  obtain ⟨rfl, xs, c1, c2⟩ := lab_lst w1 r1 hj
  exact ⟨_, zs.length, rfl, .inl ⟨xs, .inl (.inl c1), c2.len.symm⟩, k _ H1 (.d (.int zs.length)) y1 w1 g1 s1 (.int _) hq⟩
theorem xE_listL (w : wE C te y fun z y1 => ∃ d xs, z = .d d ∧ dItems d = some xs ∧ ∀ p, Q (.lab p) ⟨y1.l, y1.m ++ [⟨p, true, .lst (xs.map Z.d)⟩]⟩) : wE C (tListL C.K (tCons te tNil)) y Q := by
  intro F σ H K wd k
  refine w F σ H _ wd fun x H1 z y1 w1 g1 s1 r1 q1 => ?_
  obtain ⟨d, xs, rfl, hx, hq⟩ := q1
  obtain ⟨a, us, rfl, h1, h2⟩ := rp_items r1 hx
  refine ⟨a, us, rfl, h1.elim (fun z => .inl z.sq) (fun z => .inr z.sq), fun p hp => ?_⟩
  obtain ⟨w2, g2, s2⟩ := w1.cnew (o := .lst us) (c := .lst (xs.map Z.d)) (b := true) hp fun M g => ⟨us, upd_same, (RwA.of h2).go g⟩
  exact k _ _ (.lab p) _ w2 (g1.trans g2) (s1.trans s2) (.lab p) (hq p)
theorem xE_tupL (w : wE C te y fun z y1 => ∃ (p : Addr) (b : Bool) (j : Nat) (ds : List D), z = .lab p ∧ y1.m[j]? = some (⟨p, b, .lst (ds.map Z.d)⟩ : Cl) ∧ Q (.d (.tuple ds)) y1) : wE C (tTupL C.K (tCons te tNil)) y Q := by
  intro F σ H K wd k
  refine w F σ H _ wd fun x H1 z y1 w1 g1 s1 r1 q1 => ?_
  obtain ⟨p, b, j, ds, rfl, hj, hq⟩ := q1
  obtain ⟨rfl, xs, c1, c2⟩ := lab_lst w1 r1 hj
  refine ⟨p, xs, rfl, .inl ⟨.inl (.inl c1), fun l hl => ?_⟩⟩
  have gr := grow_upd (o := .tup xs) hl
  exact k _ _ (.d (.tuple ds)) y1 (w1.grow gr) (g1.trans (go_grow gr)) s1 (.tup (.inl ⟨w1.new hl, .inl upd_same⟩) (c2.ds.go (go_grow (F := F) (σ := σ) (y := y1) gr))) hq
theorem xE_slL (w : wE C te y fun z y1 => wO C tl y1 fun l y2 => wO C th y2 fun h y3 => ∃ (p : Addr) (b : Bool) (j : Nat) (ds : List D), z = .lab p ∧ y3.m[j]? = some (⟨p, b, .lst (ds.map Z.d)⟩ : Cl) ∧ Q (.d (.list (cutD ds l h))) y3) : wE C (tSl (rSlLab C.K) te tl th) y Q := by
  intro F σ H K wd k
  refine w F σ H _ wd fun x H1 z y1 w1 g1 s1 r1 q1 => ?_
  refine q1 F σ H1 _ w1 fun l H2 y2 w2 g2 s2 q2 => ?_
  refine q2 F σ H2 _ w2 fun h H3 y3 w3 g3 s3 q3 => ?_
  obtain ⟨p, b, j, ds, rfl, hj, hq⟩ := q3
  have r3 : Rz C F σ y3 H3 x (.lab p) := Rz.go (g2.trans g3) r1
  obtain ⟨rfl, xs, c1, c2⟩ := lab_lst w3 r3 hj
  refine .inl ⟨p, xs, rfl, .inl (.inl c1), fun q hp => ?_⟩
  have gr := grow_upd (o := .lst (cutV xs l h)) hp
  exact k _ _ (.d (.list (cutD ds l h))) y3 (w3.grow gr) (((g1.trans g2).trans g3).trans (go_grow gr)) ((s1.trans s2).trans s3) (.lst (.inl ⟨w3.new hp, .inl upd_same⟩) ((rpA_cut c2.ds l h).go (go_grow (F := F) (σ := σ) (y := y3) gr))) hq
end
/-! ### draws with further arguments that hand out things that are new -/
def oaSp (K : Fg) (n : Nat) (pre : List D → Prop) (cost : Nat) (post : List D → Z → List (Addr × Cell) → Prop) : Sp := fun vs H Q _ => ∃ (M : Addr → Prop) (p : Addr) (m : Nat) (us : List V) (ds : List D), vs = .ref p :: us ∧ M p ∧ (∀ a, M a → H a ≠ none) ∧ PuOk H p m ∧ cost ≤ m ∧ RpA K M H us ds ∧ ds.length = n ∧ pre ds ∧
  ∀ z nw v H', post ds z nw → (∀ a o, a ≠ p → H a = some o → H' a = some o) → PuOk H' p (m - cost) → (∀ e ∈ nw, H e.1 = none) → (nw.Pairwise fun e e' => e.1 ≠ e'.1) →
    (∀ e ∈ nw, CellOk K (fun a => M a ∨ ∃ e ∈ nw, e.1 = a) H' e.1 e.2) → Rw K (fun a => M a ∨ ∃ e ∈ nw, e.1 = a) H' v z → Q v H'
theorem oa_call {C : Ct} {F : Fr} {σ : St} {y : S} {H H' : Hp} {p : Addr} {b : Bool} {m0 k : Nat} {j : Nat} {nw : List (Addr × Cell)} (wd : Wd C F σ y H) (hj : y.m[j]? = some ⟨p, b, .pu m0⟩) (kp : ∀ a o, a ≠ p → H a = some o → H' a = some o) (pk : PuOk H' p k) (fr : ∀ e ∈ nw, H e.1 = none) (pw : nw.Pairwise fun e e' => e.1 ≠ e'.1)
    (cs : ∀ e ∈ nw, CellOk C.K (fun a => Mv F σ y a ∨ ∃ e ∈ nw, e.1 = a) H' e.1 e.2) : Wd C F σ ⟨y.l, y.m.set j ⟨p, b, .pu k⟩ ++ toCl true nw⟩ H' ∧ Go F σ y H σ ⟨y.l, y.m.set j ⟨p, b, .pu k⟩ ++ toCl true nw⟩ H' ∧ Sh y ⟨y.l, y.m.set j ⟨p, b, .pu k⟩ ++ toCl true nw⟩ ∧
      ∀ {v : V} {z : Z}, Rw C.K (fun a => Mv F σ y a ∨ ∃ e ∈ nw, e.1 = a) H' v z → Rw C.K (Mv F σ ⟨y.l, y.m.set j ⟨p, b, .pu k⟩ ++ toCl true nw⟩) H' v z := by
  have hmm : (⟨p, b, .pu m0⟩ : Cl) ∈ y.m := List.mem_of_getElem? hj
  have pd : DomW y.m p := ⟨_, hmm, rfl, rfl⟩
  have lvp : H' p ≠ none := by
    obtain ⟨x, b, c, e, _⟩ := pk
    rw [e]; simp
  have inset : ∀ e ∈ y.m.set j ⟨p, b, .pu k⟩, e.a = p → e = ⟨p, b, .pu k⟩ := fun e he hq => by
    obtain ⟨i', hi'⟩ := List.getElem?_of_mem he
    have pws := pw_set wd.dist hj (e' := ⟨p, b, .pu k⟩) rfl
    obtain ⟨hl, _⟩ := List.getElem?_eq_some_iff.mp hj
    have hjj : (y.m.set j ⟨p, b, .pu k⟩)[j]? = some ⟨p, b, .pu k⟩ := List.getElem?_set_self hl
    by_cases n : i' = j
    · subst n; rw [hjj] at hi'; cases hi'; rfl
    · exfalso
      rw [List.pairwise_iff_getElem] at pws
      obtain ⟨hi1, hi2⟩ := List.getElem?_eq_some_iff.mp hi'
      obtain ⟨hj1, hj2⟩ := List.getElem?_eq_some_iff.mp hjj
      rcases Nat.lt_or_gt_of_ne n with n | n
      · have := pws i' j hi1 hj1 n; rw [hi2, hj2] at this; exact this hq
      · have := pws j i' hj1 hi1 n; rw [hi2, hj2] at this; exact this hq.symm
  have old : ∀ e ∈ y.m.set j ⟨p, b, .pu k⟩, ∃ e0 ∈ y.m, e0.a = e.a ∧ (e.own = true → e0.own = true) ∧ (e.c.isRo = false → e0.c.isRo = false) := fun e he => by
    rcases mem_set_or he with he | he
    · subst he; exact ⟨_, hmm, rfl, fun z => z, fun _ => rfl⟩
    · exact ⟨e, he, rfl, fun z => z, fun z => z⟩
  have mvs : ∀ a, Mv F σ ⟨y.l, y.m.set j ⟨p, b, .pu k⟩ ++ toCl true nw⟩ a → Mv F σ y a ∨ ∃ e ∈ nw, e.1 = a := fun a z => by
    rcases z with z | ⟨e2, h2, h3⟩
    · exact .inl (.inl z)
    · rcases List.mem_append.mp h2 with h2 | h2
      · obtain ⟨e0, q1, q2, _⟩ := old e2 h2
        exact .inl (.inr ⟨e0, q1, q2.trans h3⟩)
      · obtain ⟨e3, h4, rfl⟩ := List.mem_map.mp h2
        exact .inr ⟨e3, h4, h3⟩
  have key := wd.store (m := y.m.set j ⟨p, b, .pu k⟩ ++ toCl true nw) (H' := H') (fun a o n e => kp a o (fun z => n (z ▸ pd)) e)
    (fun a ⟨e, h1, h2⟩ z => by
      by_cases ha : a = p
      · exact lvp (ha ▸ z)
      · cases r : H a with
        | none => exact (wd.cell e h1).live (h2 ▸ r)
        | some o => rw [kp a o ha r] at z; cases z)
    (fun e he => by
      rcases List.mem_append.mp he with he | he
      · exact .inl (old e he)
      · obtain ⟨e', h1, rfl⟩ := List.mem_map.mp he
        exact .inr (fr e' h1))
    (by
      rw [List.pairwise_append]
      refine ⟨pw_set wd.dist hj rfl, by unfold toCl; rw [List.pairwise_map]; exact pw, fun e he e2 he2 z => ?_⟩
      obtain ⟨e', h1', rfl⟩ := List.mem_map.mp he2
      obtain ⟨e0, q1, q2, _⟩ := old e he
      exact (wd.cell e0 q1).live (by rw [q2, z]; exact fr e' h1'))
    (fun g e he => by
      rcases List.mem_append.mp he with he | he
      · by_cases hq : e.a = p
        · rw [inset e he hq]; exact pk
        · rcases mem_set_or he with he | he
          · subst he; exact absurd rfl hq
          · exact (wd.cell e he).go g fun o r => kp _ _ hq r
      · obtain ⟨e', h1', rfl⟩ := List.mem_map.mp he
        exact (cs e' h1').go (fun a o n e => ⟨fun z => n (mvs a z), e⟩) fun _ r => r)
  refine ⟨key.1, key.2, ⟨rfl, toCl true nw, ?_⟩, fun rv => rv.go fun a o n e => ⟨fun z => n (mvs a z), e⟩⟩
  show ao (y.m.set j ⟨p, b, .pu k⟩ ++ toCl true nw) = ao y.m ++ ao (toCl true nw)
  unfold ao
  rw [List.map_append]
  congr 1
  apply List.ext_getElem?
  intro i'
  by_cases n : i' = j
  · subst n
    obtain ⟨hl, _⟩ := List.getElem?_eq_some_iff.mp hj
    rw [List.getElem?_map, List.getElem?_map, List.getElem?_set_self hl, hj]
    rfl
  · rw [List.getElem?_map, List.getElem?_map, List.getElem?_set_ne (Ne.symm n)]
theorem wE_oa {C : Ct} {y : S} {ts : TA} {E : XK} {Q : Z → S → Prop} {n : Nat} {pre : List D → Prop} {cost : Nat} {post : List D → Z → List (Addr × Cell) → Prop}
    (w : wZ C ts y fun zs y1 => ∃ (p : Addr) (ds : List D) (j : Nat) (b : Bool) (m0 : Nat), zs = .lab p :: ds.map Z.d ∧ y1.m[j]? = some (⟨p, b, .pu m0⟩ : Cl) ∧ cost ≤ m0 ∧ ds.length = n ∧ pre ds ∧ ∀ z nw, post ds z nw → Q z ⟨y1.l, y1.m.set j ⟨p, b, .pu (m0 - cost)⟩ ++ toCl true nw⟩) : wE C (tCall (oaSp C.K n pre cost post) [] E ts) y Q := by
  intro F σ H K wd k
  refine w F σ H _ wd fun vs H1 zs y1 w1 g1 s1 r1 ⟨p, ds, j, b, m0, e1, hj, hm, hn, hp, q⟩ => ?_
  subst e1
  cases r1 with | @cons v _ us _ ra rb =>
  cases ra
  have hmm : (⟨p, b, .pu m0⟩ : Cl) ∈ y1.m := List.mem_of_getElem? hj
  show oaSp C.K n pre cost post ((.ref p :: us) ++ []) H1 K E
  rw [List.append_nil]
  refine ⟨Mv F σ y1, p, m0, us, ds, rfl, .inr ⟨_, hmm, rfl⟩, fun a m e => w1.new e m, w1.cell _ hmm, hm, rb.ds, hn, hp, fun z nw v H' hz kp pk fr pw cs rv => ?_⟩
  obtain ⟨w2, g2, s2, rw2⟩ := oa_call w1 hj kp pk fr pw cs
  exact k v H' z _ w2 (g1.trans g2) (s1.trans s2) (Rw.z (rw2 rv)) (q z nw hz)
end Ux
namespace Ux
theorem Less.trans {a b c : S} (h : Less a b) (h' : Less b c) : Less a c := ⟨h.1.trans h'.1, fun i z e => h'.2.1 i z (h.2.1 i z e), h.2.2.trans h'.2.2⟩
end Ux

set_option maxRecDepth 100000
set_option maxHeartbeats 4000000
namespace Ux
open PySem PySem.Spec PyProof.Rows L2 Tq
/-! ### divmod -/
section
variable {C : Ct} {y : S} {ts : TA} {ta tb : TE} {Q : Z → S → Prop}
end
end Ux

set_option maxRecDepth 100000
set_option maxHeartbeats 4000000
namespace Ux
open PySem PySem.Spec PyProof.Rows L2 Tq
/-! ### a thing of the store lent as it is at present, to a test that changes nothing -/
def lentY (y : S) (i : Nat) (d : D) : S := ⟨(List.replicate y.l.length none).set i (some (.d d)), []⟩
theorem Wd.lend {C : Ct} {F : Fr} {σ : St} {y : S} {H : Hp} (wd : Wd C F σ y H) {i : Nat} {z : Z} {d : D} (hi : y.l[i]? = some (some z)) (hr : Res y.m z d) :
    Wd C.q ⟨H, fun _ => False, MvX F σ y, F.st⟩ σ (lentY y i d) H := by
  have lv : ∀ a, MvX F σ y a → H a ≠ none := fun a m e => wd.new e m.1
  refine ⟨⟨fun a o _ e => e, lv, lv, ?_, fun j u e => ?_, fun e he => (by cases he), List.Pairwise.nil, fun e he => (by cases he), fun a z => z.elim, fun _ e he => (by cases he)⟩, fun _ _ _ _ _ _ _ _ _ q => q.elim⟩
  · show σ.length = ((List.replicate y.l.length none).set i (some (Z.d d))).length
    rw [List.length_set, List.length_replicate]; exact wd.len
  · have e : ((List.replicate y.l.length none).set i (some (Z.d d)))[j]? = some (some u) := e
    have hl := (List.getElem?_eq_some_iff.mp hi).1
    by_cases n : j = i
    · subst n
      rw [List.getElem?_set_self (by rw [List.length_replicate]; exact hl)] at e
      cases e
      obtain ⟨x, h1, h2⟩ := wd.slot j _ hi
      refine ⟨x, h1, .d ((Res.rp wd.toWd0 hr h2).go fun a o n e => ⟨fun z => n (z.elim (fun z => z) fun ⟨e', h, _⟩ => by cases h), e⟩)⟩
    · rw [List.getElem?_set_ne (Ne.symm n), List.getElem?_replicate] at e
      split at e <;> cases e
theorem wT_lend {C : Ct} {tt : TT} {y : S} {Q : Bool → S → Prop} {i : Nat} {z : Z} {d : D} (hi : y.l[i]? = some (some z)) (hr : Res y.m z d) (w : wT C.q tt (lentY y i d) fun b _ => Q b y) : wT C tt y Q :=
  fun F σ H K wd k => w _ σ H _ (wd.lend hi hr) fun b H1 y1 w1 g1 s1 q => by
    have gr : ∀ a o, H a = some o → H1 a = some o := fun a o e => w1.keep a o (fun z => z) e
    exact k b H1 y (wd.grow gr) (go_grow gr) (Sh.refl y) q
theorem wT_cut {C : Ct} {tt : TT} {y : S} {A B : Prop} (p : Bool) (hA : p = true → A) (hB : p = false → B) (w : wT C tt y fun b _ => b = p) : wT C tt y fun b _ => if b = true then A else B :=
  fun F σ H K wd k => w F σ H _ wd fun b H1 y1 w1 g1 s1 q => k b H1 y1 w1 g1 s1 (by
    subst q
    cases b with
    | true => exact hA rfl
    | false => exact hB rfl)
section
variable {C : Ct} {y : S} {te : TE} {Q : Z → S → Prop}
theorem wE_rev2 (w : wE C te y fun z y1 => ∃ xs, z = .d (.list xs) ∧ Q (.d (.list xs.dropLast.reverse)) y1) : wE C (tRev2 C.K te) y Q := by
  intro F σ H K wd k
  refine w F σ H _ wd fun x H1 z y1 w1 g1 s1 r1 ⟨xs, ez, q⟩ => ?_
  subst ez
  obtain ⟨a, us, rfl, h1, h2⟩ := rp_lst r1
  refine ⟨a, us, rfl, h1.sq, fun p hp => ?_⟩
  have gr := grow_upd (o := .lst us.dropLast.reverse) hp
  have h3 : RpA C.K (Mv F σ y1) H1 us.dropLast xs.dropLast := by
    rw [List.dropLast_eq_take, List.dropLast_eq_take, h2.len]
    exact h2.take _
  exact k _ _ (.d (.list xs.dropLast.reverse)) y1 (w1.grow gr) (g1.trans (go_grow gr)) s1 (.lst (.inl ⟨w1.new hp, .inl upd_same⟩) (h3.rev.go (go_grow (F := F) (σ := σ) (y := y1) gr))) q
theorem wE_rev1 (w : wE C te y fun z y1 => ∃ xs, z = .d (.list xs) ∧ Q (.d (.list xs.reverse)) y1) : wE C (tRev1 C.K te) y Q := by
  intro F σ H K wd k
  refine w F σ H _ wd fun x H1 z y1 w1 g1 s1 r1 ⟨xs, ez, q⟩ => ?_
  subst ez
  obtain ⟨a, us, rfl, h1, h2⟩ := rp_lst r1
  refine ⟨a, us, rfl, h1.sq, fun p hp => ?_⟩
  have gr := grow_upd (o := .lst us.reverse) hp
  exact k _ _ (.d (.list xs.reverse)) y1 (w1.grow gr) (g1.trans (go_grow gr)) s1 (.lst (.inl ⟨w1.new hp, .inl upd_same⟩) (h2.rev.go (go_grow (F := F) (σ := σ) (y := y1) gr))) q
end
end Ux

set_option maxRecDepth 100000
set_option maxHeartbeats 4000000
namespace Ux
open PySem PySem.Spec PyProof.Rows L2 Tq
/-! ### [e for a, b in .. if ..], plain things alone -/
end Ux

set_option maxRecDepth 100000
set_option maxHeartbeats 4000000
namespace Ux
open PySem PySem.Spec PyProof.Rows L2 Tq
def tReprRX (K : Fg) (t : TA) : TE := tCB (rReprX K) t
theorem zPX {X : Cx} {e : Expr} {K : Fg} {t : TA} (h : PE X e (tCB (rReprX K) t)) : PE X e (tReprRX K t) := h
section
variable {C : Ct} {y : S} {te : TE} {Q : Z → S → Prop}
theorem wE_reprX (w : wE C te y fun z y1 => ∃ d, z = .d d ∧ ShX d ∧ Q (.d (.str d.shown)) y1) : wE C (tCB (rReprX C.K) (tCons te tNil)) y Q := by
  intro F σ H K wd k
  refine w F σ H _ wd fun x H1 z y1 w1 g1 s1 r1 q1 => ?_
  obtain ⟨d, rfl, ⟨h1, h2, h3⟩, h⟩ := q1
  exact ⟨x, d, rfl, Rp.any r1, h1, h2, h3, k _ H1 (.d (.str d.shown)) y1 w1 g1 s1 (.str _) h⟩
theorem xE_reprRX (w : wE C te y fun z y1 => ∃ d, Res y1.m z d ∧ ShX d ∧ Q (.d (.str d.shown)) y1) : wE C (tReprRX C.K (tCons te tNil)) y Q := by
  intro F σ H K wd k
  refine w F σ H _ wd fun x H1 z y1 w1 g1 s1 r1 q1 => ?_
  obtain ⟨d, hr, ⟨h1, h2, h3⟩, h⟩ := q1
  exact ⟨x, d, rfl, (hr.rp w1.toWd0 r1.w).any, h1, h2, h3, k _ H1 (.d (.str d.shown)) y1 w1 g1 s1 (.str _) h⟩
end
end Ux

set_option maxRecDepth 100000
set_option maxHeartbeats 4000000
namespace Ux
open PySem PySem.Spec PyProof.Rows L2 Tq
section
variable {K : Fg} {M : Addr → Prop} {H : Hp}
end
section
variable {C : Ct} {y : S} {e : En}
end
end Ux

set_option maxRecDepth 100000
set_option maxHeartbeats 4000000
namespace Ux
open PySem PySem.Spec PyProof.Rows L2 Tq
/-! ### a thing lent to a test, the plain slots told too -/
/-! ### x.pop() -/
/-! ### x[n].append(e) -/
theorem wS_appX {C : Ct} {y : S} {te0 te : TE} {e : En} {j : Nat} {a : Addr} {b : Bool} {zs0 : List Z}
    (w : wE C te0 y fun z y1 => z = .lab a ∧ y1.m[j]? = some ⟨a, b, .lst zs0⟩ ∧ wE C te y1 fun z y2 => ∃ zs, y2.m[j]? = some ⟨a, b, .lst zs⟩ ∧ zs.length < sizeLine ∧ e.nx ⟨y2.l, y2.m.set j ⟨a, b, .lst (zs ++ [z])⟩⟩) :
    wS C (tDrop (tBM C.K "list" rAppend te0 (tCons te tNil))) y e := by
  intro F σ H E st wd k
  refine w F σ H _ wd fun v0 H0 z0 y0 w0 g0 s0 r0 q0 => ?_
  obtain ⟨rfl, hj, w⟩ := q0
  cases r0
  obtain ⟨xs, c1, c2⟩ := (w0.cell _ (List.mem_of_getElem? hj) : CellOk C.K (Mv F σ y0) H0 a (.lst zs0))
  refine ⟨Or.inl ⟨rfl, xs, .inl (.inl c1)⟩, w F σ H0 _ w0 fun v H1 z y1 w1 g1 s1 r1 q => ?_⟩
  obtain ⟨zs, hj1, hz, q⟩ := q
  obtain ⟨us, e2, e3⟩ := (w1.cell _ (List.mem_of_getElem? hj1) : CellOk C.K (Mv F σ y1) H1 a (.lst zs))
  refine ⟨a, us, v, rfl, rfl, e2, by rw [e3.len]; exact hz, ?_⟩
  obtain ⟨w2, g2, s2⟩ := w1.cmut (H' := upd H1 a (.lst (us ++ [v]))) (c' := .lst (zs ++ [z])) hj1 rfl rfl (fun b o n e => by rw [upd_ne n]; exact e) fun M _ g => ⟨us ++ [v], upd_same, (e3.go g).app (.cons (r1.w.go g) .nil)⟩
  exact k.nx _ _ _ w2 ((g0.trans g1).trans g2) q
/-! ### repr of a tuple, a list, with labels in it -/
inductive ResT (m : List Cl) : Z → D → Prop
  | r {z : Z} {d : D} : Res m z d → ResT m z d
  | tup {zs : List Z} {ds : List D} : ResA m zs ds → ResT m (.tup zs) (.tuple ds)
  | lst {zs : List Z} {ds : List D} : ResA m zs ds → ResT m (.lst zs) (.list ds)
theorem ResT.rp {K : Fg} {F : Fr} {σ : St} {y : S} {H : Hp} {v : V} {z : Z} {d : D} (w : Wd0 K F σ y H) (h : ResT y.m z d) (r : Rw K (Mv F σ y) H v z) : Rp K (MvX F σ y) H v d := by
  have g : GoH (Mv F σ y) H (MvX F σ y) H := fun a o n e => ⟨fun z => n z.1, e⟩
  cases h with
  | r h => exact Res.rp w h r
  | tup h =>
    cases r with
    | tup h1 h2 => exact .tup (h1.go g) (ResA.rp w h h2)
  | lst h =>
    cases r with
    | lst h1 h2 => exact .lst (h1.go g) (ResA.rp w h h2)
def tReprRXT (K : Fg) (t : TA) : TE := tCB (rReprX K) t
theorem zPXT {X : Cx} {e : Expr} {K : Fg} {t : TA} (h : PE X e (tCB (rReprX K) t)) : PE X e (tReprRXT K t) := h
theorem xE_reprRXT {C : Ct} {y : S} {te : TE} {Q : Z → S → Prop} (w : wE C te y fun z y1 => ∃ d, ResT y1.m z d ∧ ShX d ∧ Q (.d (.str d.shown)) y1) : wE C (tReprRXT C.K (tCons te tNil)) y Q := by
  intro F σ H K wd k
  refine w F σ H _ wd fun x H1 z y1 w1 g1 s1 r1 q1 => ?_
  obtain ⟨d, hr, ⟨h1, h2, h3⟩, h⟩ := q1
  exact ⟨x, d, rfl, (hr.rp w1.toWd0 r1.w).any, h1, h2, h3, k _ H1 (.d (.str d.shown)) y1 w1 g1 s1 (.str _) h⟩
end Ux

set_option maxRecDepth 100000
set_option maxHeartbeats 4000000
namespace Ux
open PySem PySem.Spec PyProof.Rows L2 Tq
/-! ### tuples with labels in them handed to defs over data; tuples told by them -/
mutual
def scT : D → Bool
  | .tuple ds => scTs ds
  | .list _ | .dict _ => false
  | _ => true
def scTs : List D → Bool
  | [] => true
  | d :: ds => scT d && scTs ds
end
inductive ResTA (m : List Cl) : List Z → List D → Prop
  | nil : ResTA m [] []
  | cons {z : Z} {d : D} {zs : List Z} {ds : List D} : ResT m z d → ResTA m zs ds → ResTA m (z :: zs) (d :: ds)
theorem ResTA.rp {K : Fg} {F : Fr} {σ : St} {y : S} {H : Hp} (w : Wd0 K F σ y H) : ∀ {vs : List V} {zs : List Z} {ds : List D}, ResTA y.m zs ds → RwA K (Mv F σ y) H vs zs → RpA K (MvX F σ y) H vs ds
  | _, _, _, .nil, .nil => .nil
  | _, _, _, .cons a b, .cons c d => .cons (a.rp w c) (b.rp w d)
theorem cell_notup {K : Fg} {M : Addr → Prop} {H : Hp} {a : Addr} {c : Cell} (h : CellOk K M H a c) (xs : List V) : ¬ Rd H a (.tup xs) := by
  induction c with
  | lst zs => obtain ⟨us, h1, _⟩ := h; rintro (q | ⟨o, q⟩) <;> (rw [h1] at q; cases q)
  | dic kvs => obtain ⟨us, h1, _⟩ := h; rintro (q | ⟨o, q⟩) <;> (rw [h1] at q; cases q)
  | ins _ _ _ => obtain ⟨_, us, h1, _⟩ := h; rintro (q | ⟨o, q⟩) <;> (rw [h1] at q; cases q)
  | pu n => obtain ⟨_, _, _, h1, _⟩ := h; rintro (q | ⟨o, q⟩) <;> (rw [h1] at q; cases q)
  | ro _ ih => exact ih h
mutual
theorem sct_rp {K : Fg} {F : Fr} {σ : St} {y : S} {H : Hp} (w : Wd0 K F σ y H) : ∀ {v : V} {d : D}, scT d = true → Rp K (MvX F σ y) H v d → Rp K (Mv F σ y) H v d
  | _, _, _, .non => .non
  | _, _, _, .bl b => .bl b
  | _, _, _, .int b => .int b
  | _, _, _, .str b => .str b
  | _, _, h, .lst _ _ => by cases h
  | _, _, h, .dic _ _ _ => by cases h
  | _, _, h, .tup h1 h2 => by
    refine .tup (h1.elim (fun q => .inl ⟨fun hm => q.1 ⟨hm, fun ⟨e, he, ea⟩ => ?_⟩, q.2⟩) .inr) (sct_rpA w h h2)
    subst ea
    exact cell_notup (w.cell e he) _ q.2
theorem sct_rpA {K : Fg} {F : Fr} {σ : St} {y : S} {H : Hp} (w : Wd0 K F σ y H) : ∀ {vs : List V} {ds : List D}, scTs ds = true → RpA K (MvX F σ y) H vs ds → RpA K (Mv F σ y) H vs ds
  | _, _, _, .nil => .nil
  | _, _, h, .cons a b => by
    have h := h
    rw [scTs, Bool.and_eq_true] at h
    exact .cons (sct_rp w h.1 a) (sct_rpA w h.2 b)
end
section
variable {X : Cx} {k : Nat} {x : Str} {ps : List Str} {sp : Sp} {p pos : Pos} {e : Expr} {es : List Expr} {t : TA}
end
section
variable {C : Ct} {y : S} {ts : TA} {te ta tb : TE} {Q : Z → S → Prop} {E : XK} {n : Nat} {pre : List D → Prop} {post : List D → D → Prop}
end
/-! ### a list of our own, read by places -/
def rIxL (K : Fg) : R2 := rIx K
theorem ixLK {X : Cx} (K : Fg) (h : X.K = K := by rfl) : IxR X (rIxL K) := ixK K h
theorem wE_ixL {C : Ct} {y : S} {ta tb : TE} {Q : Z → S → Prop} (w : wE C ta y fun z y1 => wE C tb y1 fun z' y2 => ∃ (p : Addr) (b : Bool) (j : Nat) (zs : List Z) (i : Int) (u : Z), z = .lab p ∧ y2.m[j]? = some ⟨p, b, .lst zs⟩ ∧ z' = .d (.int i) ∧ atI zs i = some u ∧ Q u y2) : wE C (tOp (rIxL C.K) ta tb) y Q := by
  intro F σ H K wd k
  refine w F σ H _ wd fun x H1 z y1 w1 g1 s1 r1 q1 => ?_
  refine q1 F σ H1 _ w1 fun x2 H2 z' y2 w2 g2 s2 r2 q2 => ?_
  obtain ⟨p, b, j, zs, i, u, rfl, hj, rfl, hi, hq⟩ := q2
  have ey := rp_int r2
  cases r1.w with
  | lab a =>
    obtain ⟨us, c1, c2⟩ := (w2.cell _ (List.mem_of_getElem? hj) : CellOk C.K (Mv F σ y2) H2 p (.lst zs))
    obtain ⟨v, e, rv⟩ := atI_rw c2 hi
    exact .inl ⟨_, _, i, v, rfl, ey, .inl (.inl c1), e, k _ H2 u y2 w2 (g1.trans g2) (s1.trans s2) rv.z hq⟩
end Ux

set_option maxRecDepth 100000
set_option maxHeartbeats 4000000
namespace Tq
open PySem PySem.Spec PyProof.Rows L2
open PySem.Builtin.Str (occurrences subAt strSub)
/-! ### texts taken apart at a sign -/
section
variable {C : Ct} {y : S} {ta tb : TE} {Q : Z → S → Prop}
end
/-! ### what the parts are -/
end Tq

set_option maxRecDepth 100000
set_option maxHeartbeats 4000000
namespace Ux
open PySem PySem.Spec PyProof.Rows L2 Tq
section
variable {C : Ct} {y : S} {ta tb : TE} {Q : Z → S → Prop}
end
section
variable {C : Ct} {y : S} {ta tb : TE} {Q : Z → S → Prop}
theorem wE_in {neg : Bool} (w : wE C ta y fun z y1 => wE C tb y1 fun z' y2 => ∃ d ds, z = .d d ∧ (z' = .d (.tuple ds) ∨ z' = .d (.list ds)) ∧ flatD d = true ∧ ds.all flatD = true ∧ Q (.d (.bool (if neg then !inD d ds else inD d ds))) y2) : wE C (tOp (rIn C.K neg) ta tb) y Q := by
  refine wE_op (res := fun d e r => ∃ ds, (e = .tuple ds ∨ e = .list ds) ∧ flatD d = true ∧ ds.all flatD = true ∧ r = .bool (if neg then !inD d ds else inD d ds)) ?_ (wE_mono w fun z y1 h => wE_mono h fun z' y2 ⟨d, ds, e1, e2, f1, f2, q⟩ => ?_)
  · rintro M H x y d e r Q _ rx ry ⟨ds, he, f1, f2, rfl⟩ k
    rcases he with rfl | rfl
    · obtain ⟨a, us, rfl, h1, h2⟩ := rp_tup ry
      obtain ⟨h3, h4⟩ := inD_rp rx f1 h2 f2
      refine ⟨a, us, rfl, .inr h1.sq, flat_rp rx f1, h3, ?_⟩
      rw [h4]
      exact k _ H (fun _ _ e => e) (.bl _)
    · obtain ⟨a, us, rfl, h1, h2⟩ := rp_lst ry
      obtain ⟨h3, h4⟩ := inD_rp rx f1 h2 f2
      refine ⟨a, us, rfl, .inl h1.sq, flat_rp rx f1, h3, ?_⟩
      rw [h4]
      exact k _ H (fun _ _ e => e) (.bl _)
  · rcases e2 with rfl | rfl
    · exact ⟨_, _, _, e1, rfl, ⟨ds, .inl rfl, f1, f2, rfl⟩, q⟩
    · exact ⟨_, _, _, e1, rfl, ⟨ds, .inr rfl, f1, f2, rfl⟩, q⟩
theorem wE_inT (w : wE C ta y fun z y1 => wE C tb y1 fun z' y2 => ∃ d ds, z = .d d ∧ (z' = .d (.tuple ds) ∨ z' = .d (.list ds)) ∧ flatD d = true ∧ ds.all flatD = true ∧ Q (.d (.bool (inD d ds))) y2) : wE C (tOp (rIn C.K false) ta tb) y Q := wE_in w
end
end Ux

set_option maxRecDepth 100000
set_option maxHeartbeats 4000000
namespace Tq
open PySem PySem.Spec PyProof.Rows L2
/-! ### the row of a fraction's root -/
/-- how a root stands to a / b: the sign of this -/
def eR (A B a b : Int) : Int := A * b * b - a * a * B
def sgL (n : Nat) : Int := if n % 2 = 0 then 1 else -1
def dR (A B : Int) (n : Nat) (m : Mx) : Int := -sgL n * eR A B m.a m.c
def wR (A B : Int) (n : Nat) (m : Mx) : Int := -sgL n * (m.a * m.b * B - m.c * m.d * A)
def cR (A B : Int) (n : Nat) (m : Mx) : Int := -sgL n * eR A B m.b m.d
/-- a beginning of the row of the root -/
structure Beg (A B : Int) (n : Nat) (m : Mx) : Prop where
  det : m.a * m.d - m.b * m.c = sgL n
  near : 0 ≤ dR A B n m
  far : 1 ≤ n → dR A B n m - 2 * wR A B n m + cR A B n m < 0
  back : cR A B n m ≤ 0
/-! ### the greatest whole number whose square is no greater -/
/-! ### the row -/
/-- a beginning of the root's row -/
structure BegL (A B : Int) (ts : List Int) : Prop where
  beg : Beg A B ts.length (turnL ts)
  pos : Pos1 ts
  all0 : ∀ t ∈ ts, 0 ≤ t ∧ t ≤ 2 * 10 ^ 12
  zero : ts.length = 0 → wR A B ts.length (turnL ts) = 0
  last : 2 ≤ ts.length → ts.getLast? = some 1 → dR A B ts.length (turnL ts) ≠ 0
/-! ### x *= e -/
/-! ### roots step by step -/
theorem BegL.bd {A B : Int} {ts : List Int} (h : BegL A B ts) : ∀ t ∈ ts, Bd 13 t := fun t ht => by
  have := h.all0 t ht
  unfold Bd
  omega
theorem BegL.tb {A B : Int} {ts : List Int} (h : BegL A B ts) (hl : ts.length ≤ 61) : TB ts := ⟨by omega, h.bd⟩
/-! ### the row, also below nought -/
end Tq

set_option maxRecDepth 100000
set_option maxHeartbeats 4000000
namespace Tq
open PySem PySem.Spec PyProof.Rows L2
/-! ### fractions shown -/
end Tq

set_option maxRecDepth 100000
set_option maxHeartbeats 4000000
namespace Ux
open PySem PySem.Spec PyProof.Rows L2 Tq
/-! ### things that may grow by a 9 -/
abbrev nin (k : Nat) : List D := List.replicate k (.int 9)
def shXB (d : D) : Bool := sw2 d && decide (d.depth ≤ 60) && decide (d.shown.length ≤ sizeLine)
theorem shXB_ok {d : D} (h : shXB d = true) : ShX d := by
  unfold shXB at h
  rw [Bool.and_eq_true, Bool.and_eq_true] at h
  exact ⟨h.1.1, of_decide_eq_true h.1.2, of_decide_eq_true h.2⟩
def sh3 (d : D) : Prop := ShX d ∧ ShX (.tuple [.str "fraction", d]) ∧ ShX (.tuple [.str "number", d])
theorem sh3_ok {d : D} (h : (shXB d && shXB (.tuple [.str "fraction", d]) && shXB (.tuple [.str "number", d])) = true) : sh3 d := by
  rw [Bool.and_eq_true, Bool.and_eq_true] at h
  exact ⟨shXB_ok h.1.1, shXB_ok h.1.2, shXB_ok h.2⟩
inductive OV (k : Nat) : Z → List Cl → D → Prop
  | pl (d : D) (h1 : isT "list" d = false) (h2 : sh3 d) : OV k (.d d) [] d
  | ls (a : Addr) (ds : List D) (h : ∀ j ≤ 1, sh3 (.list (ds ++ nin j))) (h4 : ds.length ≤ 10) : OV k (.lab a) [⟨a, true, .lst ((ds ++ nin k).map Z.d)⟩] (.list (ds ++ nin k))
  | dc (a : Addr) : OV k (.lab a) [⟨a, true, .dic []⟩] (.dict [])
theorem sh3_dict0 : sh3 (.dict []) := sh3_ok (by decide +kernel)
theorem OV.sh {k : Nat} {z : Z} {m : List Cl} {d : D} (h : OV k z m d) (hk : k ≤ 1) : sh3 d := by
  cases h with
  | pl _ h1 h2 => exact h2
  | ls _ _ h _ => exact h k hk
  | dc _ => exact sh3_dict0
theorem OV.up {k : Nat} {z : Z} {m : List Cl} {d : D} (h : OV k z m d) (hl : isT "list" d = false) : OV (k + 1) z m d := by
  cases h with
  | pl d h1 h2 => exact .pl _ h1 h2
  | ls a ds _ _ => rw [isT_list] at hl; cases hl
  | dc a => exact .dc a
theorem seq_join {C : Ct} {tx tz : TS} {y : S} {e : En} (P : S → Prop) (h1 : wS C tx y { nx := P, rt := fun _ _ => False }) (h : ∀ y, P y → wS C tz y e) : wS C (tSeq tx tz) y e :=
  wS_seq (wS_mono h1 (fun y hy => h y hy) (fun _ _ z => z.elim) (fun _ z => z.elim) (fun _ z => z.elim))
/-! ### x != y, labels in both -/
end Ux
namespace Ux
open PySem PySem.Spec PyProof.Rows L2 Tq
theorem cutD_takeN {α : Type} (xs : List α) (j : Nat) : Tq.cutD xs none (some (j : Int)) = xs.take j := by
  unfold Tq.cutD
  have h1 : HT.sIx xs.length 0 none = 0 := rfl
  rw [h1, HT.sIx_nat, List.drop_zero, Nat.sub_zero]
  by_cases h : j ≤ xs.length
  · rw [Nat.min_eq_left h]
  · rw [Nat.min_eq_right (by omega), List.take_length, List.take_of_length_le (by omega)]
end Ux

set_option maxRecDepth 100000
set_option maxHeartbeats 4000000
/-! own objects without fields, or that never change: made, their methods called -/
namespace Ux
open PySem PySem.Spec PyProof.Rows L2 Tq
theorem object_init_codes {prog : Program} {w : World} {A : Around} {s : Shared} {K : Fg} {x C : Addr} {ox : Obj} {od : Option Obj} {R : Result → Shared → Prop} (X : K.In s.heap) (I : PySem.W.InstAt s.heap x ox C od) (hp : PySem.W.plainOver K C = true)
    (h : R (.ok (.ret .none)) s) : codeAny (model prog w) A (.call (.builtin "object.__init__") ⟨[.ref x], []⟩) R s := by
  obtain ⟨cd, hc, ho⟩ := PySem.W.any_some hp
  have ne : cd.mro.isEmpty = false := by cases q : cd.mro with | nil => rw [q] at ho; cases ho | cons _ _ => rfl
  have sub : PySem.W.Looks (model prog w) s.heap (isInstance (.ref x) (.type "object")) true := I.type.andThen (PySem.W.looks_mroIn X (by unfold PySem.W.mroIn; rw [hc, Option.bind_some, if_neg (by rw [ne]; decide), PySem.W.only_has ho]))
  have hk : builtinKind "object.__init__" = some .slot := by kernel_rfl
  have hs : splitId "object.__init__" = some ("object", "__init__") := by kernel_rfl
  refine codeAny_call_builtin PySem.F.slot_object_init.plain PySem.F.entry_object_init (@PySem.W.check_slot (model prog w) _ _ s "object.__init__" "object" "__init__" (.ref x) [] [] _ hk hs sub (PySem.F.args_object_init_1 (.ref x)) ?_)
  unfold Builtin.«object.__init__»
  exact wpAny_pure h
/-- what a class without __init__ must have to be made -/
structure Mk0 (K : Fg) (C : Addr) : Prop where
  makes : PySem.W.makesIn K C = true
  init : PySem.W.findIn K (.ref C) "__init__" = some (some (.builtin "object.__init__"))
  po : PySem.W.plainOver K C = true
  kp : PySem.W.keepIn K (.ref C) = true
def tMk0 (C : Addr) : TE := fun σ H Q => ∀ x dx, H x = none → H dx = none → dx ≠ x → Q (.ref x) (upd (upd H dx (.own x)) x (.ins C dx []))
theorem pe_mk0 {X : Cx} {C : Addr} {x : Str} {p pos : Pos} (M : Mk0 X.K C) (hg : Gl X x) (hm : X.mg x = some (.ref C)) (hdb : (x == ("__debug__" : Str)) = false := by decide) : PE X (.Call (.Name x p) [] [] pos) (tMk0 C) := by
  refine ⟨fun pins s σ H Q I h => ?_⟩
  refine wpAny_Call_Name_kw (ld_glob I hg hm ?_ hdb)
  refine PySem.W.callWith_K0 I.kIn M.kp ?_
  have hq := h (s.heap.objs.size + 1) s.heap.objs.size (I.hok.fresh (Nat.le_succ _)) (I.hok.fresh (Nat.le_refl _)) (Nat.ne_of_lt (Nat.lt_succ_self _))
  have I2 := Inv.made (C := C) I
  obtain ⟨mA, O, _, _, _, _⟩ := ins_get I2.hok upd_same
  obtain ⟨od, J, _⟩ := O.look
  refine wpAny_call (make_map0 I.kIn M.makes M.init (fun self => PySem.W.Looks.of_pure (PySem.F.slot_object_init.bind self)) (object_init_codes I2.kIn J M.po ?_))
  exact ⟨rfl, ⟨V.ref (s.heap.objs.size + 1), _, I2, rfl, hq⟩⟩
/-! ### methods, by the class that an object has -/
structure VMeth (P : Program) (w : World) (K : Fg) (mg : Str → Option Value) (base : Heap) (CX : CXT) (k : Nat) (m : Str) (C : Addr) (sp : Sp) : Prop where
  cls : Cls K C
  ex : ∃ (f : Addr) (fd : FuncData) (ps : List Str), Meth K C m f ∧ FnG P w K mg base CX k f fd ps sp ∧ Binds K fd ps []
def VTab (P : Program) (w : World) (K : Fg) (mg : Str → Option Value) (base : Heap) (CX : CXT) (k : Nat) (m : Str) (tab : List (Addr × Sp)) : Prop := ∀ e ∈ tab, VMeth P w K mg base CX k m e.1 e.2
theorem VTab.nil {P : Program} {w : World} {K : Fg} {mg : Str → Option Value} {base : Heap} {CX : CXT} {k : Nat} {m : Str} : VTab P w K mg base CX k m [] := fun _ h => nomatch h
theorem VTab.cons {P : Program} {w : World} {K : Fg} {mg : Str → Option Value} {base : Heap} {CX : CXT} {k : Nat} {m : Str} {C : Addr} {sp : Sp} {tab : List (Addr × Sp)} (a : VMeth P w K mg base CX k m C sp) (b : VTab P w K mg base CX k m tab) : VTab P w K mg base CX k m ((C, sp) :: tab) := fun e h => by
  rcases List.mem_cons.mp h with rfl | h
  · exact a
  · exact b e h
/-- a def of a class, as the top has it -/
structure MFn (K : Fg) (x qual : Str) (st : Stmt) (ps : List Str) (f : Addr) : Prop where
  ex : ∃ fd : FuncData, Fun K x qual st f fd ∧ Binds K fd ps []
structure MCal (P : Program) (w : World) (K : Fg) (mg : Str → Option Value) (base : Heap) (CX : CXT) (k : Nat) (ps : List Str) (sp : Sp) (f : Addr) : Prop where
  ex : ∃ fd : FuncData, FnG P w K mg base CX k f fd ps sp ∧ Binds K fd ps []
section
variable {P : Program} {w : World} {K : Fg} {mg : Str → Option Value} {base : Heap} {CX : CXT} {j k : Nat} {x qual : Str} {ps N : List Str} {sp : Sp} {st : Stmt} {C f : Addr}
theorem VMeth.of (c : Cls K C) (m : Meth K C x f) (F : MCal P w K mg base CX j ps sp f) (h : j ≤ k) : VMeth P w K mg base CX k x C sp :=
  let ⟨fd, h1, h2⟩ := F.ex
  ⟨c, f, fd, ps, m, h1.mono h, h2⟩
theorem MFn.ok (d : MFn K x qual st ps f) (Sc : FnScope N ps (defScope st)) (len : ∀ vs H Q E, sp vs H Q E → vs.length = ps.length)
    (hbody : ∀ (cdv : Value) (A : Around) (outer : List Env) (s : Shared) (H : Hp) (vs : List V) (Q : VK) (E : XK), Room k (A.deeper (envOfC qual (defScope st) s.heap.objs.size f cdv)) →
      (A.deeper (envOfC qual (defScope st) s.heap.objs.size f cdv)).guards = some [] → sp vs H Q E →
      ∃ t, PSs (cxOf CX0 P w K mg base N qual (defScope st) f cdv A outer s H E).nox (defBody st) t ∧ t { nx := fun _ G => Q .non G, rt := Q } (start N vs) H) : MCal P w K mg base CX0 (k + 1) ps sp f := by
  obtain ⟨fd, F, hb⟩ := d.ex
  exact ⟨fd, okG F Sc len hbody, hb⟩
theorem MFn.okX (d : MFn K x qual st ps f) (Sc : FnScope N ps (defScope st)) (len : ∀ vs H Q E, sp vs H Q E → vs.length = ps.length)
    (hbody : ∀ (cdv : Value) (A : Around) (outer : List Env) (s : Shared) (H : Hp) (vs : List V) (Q : VK) (E : XK), Room k (A.deeper (envOfC qual (defScope st) s.heap.objs.size f cdv)) →
      (A.deeper (envOfC qual (defScope st) s.heap.objs.size f cdv)).guards = some [] → sp vs H Q E →
      ∃ t, PSs (cxOf (L2.CX P w) P w K mg base N qual (defScope st) f cdv A outer s H E) (defBody st) t ∧ t { nx := fun _ G => Q .non G, rt := Q } (start N vs) H) : MCal P w K mg base (L2.CX P w) (k + 1) ps sp f := by
  obtain ⟨fd, F, hb⟩ := d.ex
  obtain ⟨oc, od, kV, doc, pm, an, cdv, ct, osl, rfl, lk, hcd⟩ := F.ex
  exact ⟨_, Tq.fn_ofG lk hcd Sc len fun A outer s H vs Q E hr hgu hsp => hbody cdv A outer s H vs Q E hr hgu hsp, hb⟩
end
theorem mfn_mk {K : Fg} {h : Heap} {x qual : Str} {st : Stmt} {ps : List Str} {f : Addr} {od an : Option Addr} {sl : Array (Option Value)} {oc kV dc pm cd ct : Value} (X : K.In h)
    (hb : ∀ (kV dc pm : Value) (an : Option Addr) (cd ct : Value) (us : List Value), us.length = ps.length → bindArgs (PySem.W.fnOf x qual (defArgs st) (defBody st) (defScope st) .none kV dc pm an cd ct) ⟨us, []⟩ = pure (ps.zip us))
    (l : K.lookup f = some ⟨oc, od, .func (PySem.W.fnOf x qual (defArgs st) (defBody st) (defScope st) .none kV dc pm an cd ct), sl⟩) (c : PySem.W.codeIn K cd qual = true) (k : PySem.W.keepIn K (.ref f) = true) : MFn K x qual st ps f :=
  ⟨_, fun_mk l c k, (fun_mk l c k).binds hb⟩
/-- the n-th def of a class -/
def clsFnN (n : Nat) : Stmt → Stmt
  | .ClassDef _ _ _ b _ _ _ _ _ _ _ => b.getD n (.Pass ⟨0, 0, 0, 0⟩)
  | s => s
def tMethU (tab : List (Addr × Sp)) (m : Str) (E : XK) (ta : TE) (t : TA) : TE := fun σ H Q => ta σ H fun x H1 => ∃ a C dx fs sp, x = .ref a ∧ H1 a = some (.ins C dx fs) ∧ fs.lookup m = none ∧ (C, sp) ∈ tab ∧ t σ H1 fun vs H2 => sp (x :: vs) H2 Q E
section
variable {X : Cx} {o e : Expr} {es : List Expr} {ta : TE} {t : TA} {k : Nat} {m : Str} {tab : List (Addr × Sp)} {p pos apos : Pos}
theorem pe_methU {pl : Sem Bool} (V : VTab X.prog X.w X.K X.mg X.base CX0 k m tab) (hr : Room k X.A) (hgu : X.A.guards = some []) (he : PE X o ta) (ha : PA X (e :: es) t)
    (hst : starEach (e :: es) X.env = (false, eval e X.env) :: starEach es X.env := by rfl) (hpl : (backTo pos (starEach es X.env)).any (·.1) = false := by rfl)
    (ht : eval (.Call (.Attribute o m apos) (e :: es) [] pos) X.env = (do
      let ov ← eval o X.env
      standAt apos.atName
      let (f, first) ← holding [ov] (getMethod ov m pl)
      callWith pos f first (backTo pos (starEach (e :: es) X.env)) (backToKw pos (keywordEach [] X.env))) := by rfl) :
    PE X (.Call (.Attribute o m apos) (e :: es) [] pos) (tMethU tab m E0 ta t) := by
  refine ⟨fun pins s σ H Q I h => ?_⟩
  refine PySem.W.methodCall_KW (pl := pl) (thn (he.run pins s σ H _ I h) fun u s1 ⟨x, H1, I1, rx, a, C, dx, fs, sp, ex, ea, l, hm, q⟩ => ?_) ht
  subst ex
  obtain rfl : u = Value.ref a := rx
  obtain ⟨c, f, fd, ps, km, F, hb⟩ := V _ hm
  refine getmeth_ok I1 ea c km l ?_
  refine PySem.W.callWith_K (first := [.ref a]) (h₀ := X.base) I.ok.mod.kin km.kp (thn (ha.run pos pins s1 σ H1 _ I1 q) fun us s2 ⟨vs, H2, I2, r, q2⟩ => ⟨I2.kIn, ?_⟩) hst hpl
  exact run_fnG (us := .ref a :: us) (vs := .ref a :: vs) F hr hgu hb .nil pass0 I2 (.cons rfl r) (by rw [List.append_nil]; exact q2)
end
/-! ### objects as values -/
section
variable {C : Ct} {y : S} {te : TE} {ts : TA} {Q : Z → S → Prop}
theorem wE_mk0 {D : Addr} (q : Q (.ob D [] []) y) : wE C (tMk0 D) y Q := by
  intro F σ H K wd k x dx hx hdx ne
  have gr : ∀ a u, H a = some u → upd (upd H dx (.own x)) x (.ins D dx []) a = some u := fun a u e => by
    rw [upd_ne (ne_of_none e hx), upd_ne (ne_of_none e hdx)]; exact e
  exact k _ _ (.ob D [] []) y (wd.grow gr) (go_grow gr) (Sh.refl y) (.ob (xs := []) (wd.new hx) upd_same rfl .nil) q
end
/-- a def of an object without fields and of data: reads alone, raises nothing -/
def obSp {ι : Type} (K : Fg) (cl : ι → Addr) (n : Nat) (pre : ι → List D → Prop) (post : ι → List D → D → Prop) : Sp := fun vs H Q _ => ∃ (i : ι) (M : Addr → Prop) (v : V) (us : List V) (ds : List D), vs = v :: us ∧ (∀ a, M a → H a ≠ none) ∧ Rw K M H v (.ob (cl i) [] []) ∧ RpA K M H us ds ∧ ds.length = n ∧ pre i ds ∧
  ∀ d v' H', post i ds d → (∀ a o, H a = some o → H' a = some o) → Rp K M H' v' d → Q v' H'
abbrev odSp {ι : Type} (K : Fg) (cl : ι → Addr) (n : Nat) (pre : ι → List D → Prop) (f : ι → List D → D) : Sp := obSp K cl n pre fun i ds d => d = f i ds
theorem obSp_len {ι : Type} {K : Fg} {cl : ι → Addr} {n : Nat} {pre : ι → List D → Prop} {post : ι → List D → D → Prop} {ps : List Str} (h : ps.length = n + 1) : ∀ vs H Q E, obSp K cl n pre post vs H Q E → vs.length = ps.length := by
  rintro vs H Q E ⟨i, M, v, us, ds, rfl, _, _, r, l, _⟩
  rw [List.length_cons, r.len, l, h]
theorem ob_body {ι : Type} {cl : ι → Addr} {K : Fg} {N : List Str} {t : TS} {vs : List V} {H : Hp} {Q : VK} {E : XK} {n : Nat} {pre : ι → List D → Prop} {post : ι → List D → D → Prop} (h : obSp K cl n pre post vs H Q E)
    (b : ∀ i ds, ds.length = n → pre i ds → ∀ e : En, (∀ y, post i ds .none → e.nx y) → (∀ d y, post i ds d → e.rt (.d d) y) → wS { K := K } t ⟨l0 N (.ob (cl i) [] [] :: ds.map Z.d), []⟩ e) : t { nx := fun _ G => Q .non G, rt := Q } (start N vs) H := by
  obtain ⟨i, M, v, us, ds, rfl, al, rv, r, l, hp, k⟩ := h
  have rr : RwA K M H (v :: us) (.ob (cl i) [] [] :: ds.map Z.d) := .cons rv (RwA.of r)
  refine b i ds l hp { nx := fun _ => post i ds .none, rt := fun z _ => ∃ d, z = .d d ∧ post i ds d } (fun _ q => q) (fun d _ q => ⟨d, rfl, q⟩) ⟨H, fun _ => False, M, true⟩ (start N (v :: us)) H _ rfl
    ⟨⟨fun a o _ e => e, al, al, l0_len rr, fun i z e => ?_, fun e he => (nomatch he), List.Pairwise.nil, fun e he => (nomatch he), fun a z => z.elim, fun _ e he => (nomatch he)⟩, fun _ _ _ _ _ _ _ _ _ z => z.elim⟩
    ⟨fun σ' H' y' w g q => ?_, fun σ' v H' z y' w g rz q => ?_, fun _ _ _ _ _ q => q.elim, fun _ _ _ _ _ q => q.elim⟩
  · obtain ⟨x, h1, h2⟩ := l0_slot rr e
    exact ⟨x, h1, h2.go fun a o na e => ⟨fun z => z.elim na fun ⟨_, q, _⟩ => (nomatch q), e⟩⟩
  · exact k .none .non H' q (fun a o e => w.keep a o (fun z => z) e) .non
  · obtain ⟨d, rfl, q⟩ := q
    exact k d v H' q (fun a o e => w.keep a o (fun z => z) e) (Rp.go (fun a o n e => ⟨fun z => n (.inl z), e⟩) rz)
section
variable {ι : Type} {cl : ι → Addr} {C : Ct} {y : S} {te : TE} {ts : TA} {E : XK} {Q : Z → S → Prop} {n : Nat} {pre : ι → List D → Prop} {post : ι → List D → D → Prop}
theorem ob_call {F : Fr} {σ : St} {y1 : S} {H1 : Hp} {K : VK} {v : V} {us : List V} {zs : List Z} {ds : List D} {i : ι} (wd : Wd C F σ y1 H1) (rv : Rw C.K (Mv F σ y1) H1 v (.ob (cl i) [] [])) (r : RwA C.K (Mv F σ y1) H1 us zs) (hr : ResTA y1.m zs ds) (hn : ds.length = n) (hp : pre i ds)
    (q : ∀ d v' H2, post i ds d → (∀ a o, H1 a = some o → H2 a = some o) → Rp C.K (MvX F σ y1) H2 v' d → K v' H2) : obSp C.K cl n pre post (v :: us) H1 K E :=
  ⟨i, MvX F σ y1, v, us, ds, rfl, fun a m e => wd.new e m.1, rv.go fun a o n e => ⟨fun z => n z.1, e⟩, hr.rp wd.toWd0 r, hn, hp, q⟩
/-- f(an object, ..) -/
theorem wE_ob (w : wZ C ts y fun zs y1 => ∃ i zs' ds, zs = .ob (cl i) [] [] :: zs' ∧ ResTA y1.m zs' ds ∧ (ds.length = n ∧ pre i ds) ∧ ∀ d, post i ds d → scT d = true ∧ Q (.d d) y1) : wE C (tCall (obSp C.K cl n pre post) [] E ts) y Q := by
  intro F σ H K wd k
  refine w F σ H _ wd fun vs H1 zs y1 w1 g1 s1 r1 ⟨i, zs', ds, ez, hr, ⟨hn, hp⟩, q⟩ => ?_
  subst ez
  cases r1 with | @cons v _ us _ rv r2 =>
  show obSp C.K cl n pre post ((v :: us) ++ []) H1 K E
  rw [List.append_nil]
  refine ob_call w1 rv r2 hr hn hp fun d v' H2 hd gr rv' => ?_
  have w2 := w1.grow gr
  exact k v' H2 (.d d) y1 w2 (g1.trans (go_grow gr)) s1 (sct_rp w2.toWd0 (q d hd).1 rv') (q d hd).2
theorem wE_od {f : ι → List D → D} (w : wZ C ts y fun zs y1 => ∃ i zs' ds, zs = .ob (cl i) [] [] :: zs' ∧ ResTA y1.m zs' ds ∧ (ds.length = n ∧ pre i ds) ∧ scT (f i ds) = true ∧ Q (.d (f i ds)) y1) : wE C (tCall (odSp C.K cl n pre f) [] E ts) y Q :=
  wE_ob (wZ_mono w fun zs y1 ⟨i, zs', ds, e, hr, hp, h1, h2⟩ => ⟨i, zs', ds, e, hr, hp, fun d hd => by subst hd; exact ⟨h1, h2⟩⟩)
end
section
variable {C : Ct} {y : S} {te : TE} {ts : TA} {E : XK} {Q : Z → S → Prop}
/-- a def of a class without fields, of data -/
abbrev omSp (K : Fg) (n : Nat) (pre : List D → Prop) (f : List D → D) : Sp := odSp (ι := Addr) K id n (fun _ => pre) fun _ => f
/-- o.m(..) -/
theorem wE_meth {tab : List (Addr × Sp)} {m : Str} (w : wE C te y fun z y1 => ∃ D0 n pre f, z = .ob D0 [] [] ∧ (D0, omSp C.K n pre f) ∈ tab ∧ wZ C ts y1 fun zs y2 => ∃ ds, ResTA y2.m zs ds ∧ (ds.length = n ∧ pre ds) ∧ scT (f ds) = true ∧ Q (.d (f ds)) y2) : wE C (tMethU tab m E te ts) y Q := by
  intro F σ H K wd k
  refine w F σ H _ wd fun x H1 z y1 w1 g1 s1 r1 ⟨D0, n, pre, f, ez, hm, q1⟩ => ?_
  subst ez
  have r1w := r1.w
  cases r1w with | @ob a dx _ _ xs _ na ea hl rx =>
  refine ⟨a, D0, dx, _, _, rfl, ea, rfl, hm, ?_⟩
  refine q1 F σ H1 _ w1 fun vs H2 zs y2 w2 g2 s2 r2 ⟨ds, hr, ⟨hn, hp⟩, hs, q⟩ => ?_
  refine ob_call (ι := Addr) (cl := id) (i := D0) w2 (r1.w.go g2) r2 hr hn hp fun d v' H3 hd gr rv' => ?_
  subst hd
  have w3 := w2.grow gr
  exact k v' H3 (.d _) y2 w3 ((g1.trans g2).trans (go_grow gr)) (s1.trans s2) (sct_rp w3.toWd0 hs rv') q
end
/-! ### defs of objects and of things of any kind, that may raise -/
inductive ResO (m : List Cl) : Z → D → Prop
  | r {z : Z} {d : D} : Res m z d → ResO m z d
  | ob (C : Addr) : ResO m (.ob C [] []) .none
inductive ResOA (m : List Cl) : List Z → List D → Prop
  | nil : ResOA m [] []
  | cons {z : Z} {d : D} {zs : List Z} {ds : List D} : ResO m z d → ResOA m zs ds → ResOA m (z :: zs) (d :: ds)
theorem ResO.rom {m : List Cl} {z : Z} {d : D} : ResO m z d → ResO (roM m) z d
  | .r h => .r h.rom
  | .ob C => .ob C
theorem ResOA.rom {m : List Cl} : ∀ {zs : List Z} {ds : List D}, ResOA m zs ds → ResOA (roM m) zs ds
  | _, _, .nil => .nil
  | _, _, .cons a b => .cons a.rom b.rom
def bxSp {ι : Type} (K : Fg) (n : Nat) (pre : ι → List Z → List D → Prop) (post : ι → List Z → List D → Z → Prop) (xp : ι → List Z → List D → Ex → Prop) : Sp := fun vs H Q E => ∃ (i : ι) (M : Addr → Prop) (m : List Cl) (zs : List Z) (ds : List D),
  (∀ a, M a → H a ≠ none) ∧ RwA K M H vs zs ∧ (∀ e ∈ m, M e.a ∧ CellOk K M H e.a e.c) ∧ (m.Pairwise fun e e' => e.a ≠ e'.a) ∧ ResOA m zs ds ∧ zs.length = n ∧ pre i zs ds ∧
  (∀ z v H', post i zs ds z → (∀ a o, H a = some o → H' a = some o) → Rw K M H' v z → Q v H') ∧
  (∀ ex a v H', xp i zs ds ex → (∀ a o, H a = some o → H' a = some o) → H a = none → H' a = some (.xd [(keyZ ex.found, v)]) → Rw K M H' v (valZ ex.found) → E ex.cls (some a) H')
section
variable {K : Fg} {N : List Str} {t : TS} {vs : List V} {H : Hp} {Q : VK} {E : XK} {n : Nat} {ι : Type} {pre : ι → List Z → List D → Prop} {post : ι → List Z → List D → Z → Prop} {xp : ι → List Z → List D → Ex → Prop}
end
theorem wE_bx {C : Ct} {y : S} {ts : TA} {Q : Z → S → Prop} {n : Nat} {ι : Type} {pre : ι → List Z → List D → Prop} {post : ι → List Z → List D → Z → Prop} {xp : ι → List Z → List D → Ex → Prop} (w : wZ C ts y fun zs y1 => ∃ i ds, ResOA y1.m zs ds ∧ (zs.length = n ∧ pre i zs ds) ∧ (∀ z, post i zs ds z → Q z y1) ∧ ∀ ex, xp i zs ds ex → C.ex ex y1) : wE C (tCallS (bxSp C.K n pre post xp) (WE C.W) ts) y Q := by
  intro F σ H K wd k
  refine w F σ H _ wd fun vs H1 zs y1 w1 g1 s1 r1 ⟨i, ds, hr, ⟨hn, hp⟩, q, x⟩ => ?_
  refine ⟨i, Mv F σ y1, y1.m, zs, ds, fun a m e => w1.new e m, r1, fun e he => ⟨.inr ⟨e, he, rfl⟩, w1.cell e he⟩, w1.dist, hr, hn, hp, fun z v H2 hz gr rv => k v H2 z y1 (w1.grow gr) (g1.trans (go_grow gr)) s1 rv.z (q z hz), fun ex a v H2 hx gr ha ha2 rv => ?_⟩
  exact w1.xk σ y1 H2 ex ex.cls (some a) (w1.grow gr).toWd0 (go_grow gr) ⟨rfl, a, v, rfl, ha2, w1.new ha, w1.newH0 ha, rv⟩ (x ex hx)
/-! ### defs that change what they are handed, by an index -/
def miSp {ι : Type} (K : Fg) (n : Nat) (pre : ι → List (Addr × Cell) → List Z → Prop) (post : ι → List (Addr × Cell) → List Z → D → List (Addr × Cell) → Prop) : Sp := fun vs H Q E => ∃ i, mSp K n (pre i) (post i) vs H Q E
theorem wE_mi {ι : Type} {C : Ct} {y : S} {ts : TA} {E : XK} {Q : Z → S → Prop} {n : Nat} {pre : ι → List (Addr × Cell) → List Z → Prop} {post : ι → List (Addr × Cell) → List Z → D → List (Addr × Cell) → Prop}
    (w : wZ C ts y fun zs y1 => ∃ i A m B b, y1.m = A ++ toCl b m ++ B ∧ (∀ e ∈ m, e.2.isRo = false) ∧ zs.length = n ∧ pre i m zs ∧ ∀ d m', post i m zs d m' → m'.map (·.1) = m.map (·.1) → (∀ e ∈ m', e.2.isRo = false) → Q (.d d) ⟨y1.l, A ++ toCl b m' ++ B⟩) :
    wE C (tCall (miSp C.K n pre post) [] E ts) y Q := by
  intro F σ H K wd k
  refine w F σ H _ wd fun vs H1 zs y1 w1 g1 s1 r1 ⟨i, A, m, B, b, em, ro, hn, hp, q⟩ => ?_
  refine ⟨i, ?_⟩
  show mSp C.K n (pre i) (post i) (vs ++ []) H1 K E
  rw [List.append_nil]
  have mem : ∀ e ∈ m, (⟨e.1, b, e.2⟩ : Cl) ∈ y1.m := fun e he => by
    rw [em]; exact List.mem_append.mpr (.inl (List.mem_append.mpr (.inr (List.mem_map.mpr ⟨e, he, rfl⟩))))
  have dist := w1.dist
  rw [em] at dist
  have pwm : m.Pairwise fun e e' => e.1 ≠ e'.1 := by
    have := (List.pairwise_append.mp (List.pairwise_append.mp dist).1).2.1
    unfold toCl at this
    rw [List.pairwise_map] at this
    exact this
  refine ⟨Mv F σ y1, m, zs, fun a m e => w1.new e m, r1, fun e he => ⟨.inr ⟨_, mem e he, rfl⟩, w1.cell _ (mem e he), ro e he⟩, pwm, hn, hp, fun d v m' H' hq hs ha ro' kp cs rv => ?_⟩
  have aeq : (A ++ toCl b m' ++ B).map (·.a) = y1.m.map (·.a) := by
    rw [em]
    simp only [List.map_append, toCl, List.map_map]
    congr 2
  have aoeq : ao (A ++ toCl b m' ++ B) = ao y1.m := by
    rw [em]
    unfold ao
    simp only [List.map_append]
    congr 2
    unfold toCl
    rw [List.map_map, List.map_map]
    have e1 : ∀ l : List (Addr × Cell), (∀ e ∈ l, e.2.isRo = false) → l.map ((fun e : Cl => (e.a, e.own, e.c.isRo)) ∘ fun e => (⟨e.1, b, e.2⟩ : Cl)) = (l.map (·.1)).map fun a => (a, b, false) := fun l hl => by
      rw [List.map_map]
      exact List.map_congr_left fun e he => by show (e.1, b, e.2.isRo) = (e.1, b, false); rw [hl e he]
    rw [e1 m' ro', e1 m ro, ha]
  have inm : ∀ a, (∃ e ∈ m, e.1 = a) ↔ ∃ e ∈ m', e.1 = a := fun a => by
    have e1 : ∀ l : List (Addr × Cell), (∃ e ∈ l, e.1 = a) ↔ a ∈ l.map (·.1) := fun l => List.mem_map.symm
    rw [e1, e1, ha]
  have old : ∀ e ∈ A ++ toCl b m' ++ B, ∃ e0 ∈ y1.m, e0.a = e.a ∧ (e.own = true → e0.own = true) ∧ (e.c.isRo = false → e0.c.isRo = false) := fun e he => by
    obtain ⟨e', h1, h2, h3, h4⟩ := own_ao aoeq he
    exact ⟨e', h1, h2, fun z => h3.trans z, fun z => h4.trans z⟩
  have lv : ∀ a, Dom y1.m a → H' a ≠ none := fun a ⟨e, h1, h2⟩ z => by
    by_cases ha : ∃ e ∈ m, e.1 = a
    · obtain ⟨e', q1, q2⟩ := (inm a).mp ha
      exact (cs e' q1).live (q2 ▸ z)
    · cases r : H1 a with
      | none => exact (w1.cell e h1).live (h2 ▸ r)
      | some o => rw [kp a o (fun e he q => ha ⟨e, he, q⟩) r] at z; cases z
  have key := w1.store (m := A ++ toCl b m' ++ B) (H' := H') (fun a o n e => kp a o (fun e' he' z => n ⟨_, mem e' he', z, ro e' he'⟩) e) lv (fun e he => .inl (old e he))
    (by
      have p1 : ∀ l : List Cl, (l.Pairwise fun e e' => e.a ≠ e'.a) ↔ (l.map (·.a)).Pairwise (· ≠ ·) := fun l => by rw [List.pairwise_map]
      rw [p1, aeq, ← p1]
      exact w1.dist)
    (fun g e he => by
      by_cases hq : ∃ e' ∈ m', (⟨e'.1, b, e'.2⟩ : Cl) = e
      · obtain ⟨e', h1', rfl⟩ := hq
        refine (cs e' h1').go (fun a o n e => ⟨fun z => n ?_, e⟩) fun _ r => r
        rcases z with z | ⟨e2, h2, h3⟩
        · exact .inl z
        · obtain ⟨e0, q1, q2, _⟩ := old e2 h2
          exact .inr ⟨e0, q1, q2.trans h3⟩
      · have hAB : e ∈ A ∨ e ∈ B := by
          rcases List.mem_append.mp he with he | he
          · rcases List.mem_append.mp he with he | he
            · exact .inl he
            · obtain ⟨e', h1', rfl⟩ := List.mem_map.mp he
              exact absurd ⟨e', h1', rfl⟩ hq
          · exact .inr he
        have hy : e ∈ y1.m := by
          rw [em]
          rcases hAB with h | h
          · exact List.mem_append.mpr (.inl (List.mem_append.mpr (.inl h)))
          · exact List.mem_append.mpr (.inr h)
        refine (w1.cell e hy).go g fun o r => kp _ _ (fun e' he' z => ?_) r
        have m1 : (⟨e'.1, b, e'.2⟩ : Cl) ∈ toCl b m := List.mem_map.mpr ⟨e', he', rfl⟩
        rcases hAB with h | h
        · exact (List.pairwise_append.mp (List.pairwise_append.mp dist).1).2.2 e h _ m1 z.symm
        · exact (List.pairwise_append.mp dist).2.2 _ (List.mem_append.mpr (.inr m1)) e h z)
  exact k v H' (.d d) _ key.1 (g1.trans key.2) (s1.trans ⟨rfl, [], by rw [show ao ([] : List Cl) = [] from rfl, List.append_nil]; exact aoeq⟩) (sc_rp hs rv) (q d m' hq ha ro')
/-! ### the store in another order -/
theorem wS_perm {C : Ct} {t : TS} {l : List (Option Z)} {m m' : List Cl} {e : En} (p : m.Perm m') (w : wS C t ⟨l, m'⟩ e) : wS C t ⟨l, m⟩ e := by
  intro F σ H E st wd k
  have hD : ∀ a, Dom m a ↔ Dom m' a := fun a => ⟨fun ⟨e, h1, h2⟩ => ⟨e, p.mem_iff.mp h1, h2⟩, fun ⟨e, h1, h2⟩ => ⟨e, p.mem_iff.mpr h1, h2⟩⟩
  have hM : Mv F σ ⟨l, m⟩ = Mv F σ ⟨l, m'⟩ := funext fun a => propext ⟨fun z => z.elim .inl fun q => .inr ((hD a).mp q), fun z => z.elim .inl fun q => .inr ((hD a).mpr q)⟩
  have g : Go F σ ⟨l, m⟩ H σ ⟨l, m'⟩ H := fun a o n e => ⟨by rw [← hM]; exact n, e⟩
  refine w F σ H E st (wd.to ⟨wd.keep, wd.live0, wd.live, wd.len, fun i z e => by rw [← hM]; exact wd.slot i z e, fun e he => by rw [← hM]; exact wd.cell e (p.mem_iff.mpr he), ?_, fun e he => wd.frsh e (p.mem_iff.mpr he), wd.sm, fun s e he => wd.nb s e (p.mem_iff.mpr he)⟩ g) (k.go g)
  exact (p.pairwise_iff (fun h => Ne.symm h)).mp wd.dist
/-! ### a slice of a list of ours, as a new list of ours -/
def rSlNew (K : Fg) : V → Option Int → Option Int → Hp → VK → Prop := rSlD K
theorem slNK {X : Cx} (K : Fg) (h : X.K = K := by rfl) : SlR X (rSlNew K) := slK K h
theorem xE_slN {C : Ct} {y : S} {te : TE} {tl th : TO} {Q : Z → S → Prop} (w : wE C te y fun z y1 => wO C tl y1 fun l y2 => wO C th y2 fun h y3 => ∃ (p : Addr) (b : Bool) (j : Nat) (ds : List D), z = .lab p ∧ y3.m[j]? = some (⟨p, b, .lst (ds.map Z.d)⟩ : Cl) ∧ ∀ q, Q (.lab q) ⟨y3.l, y3.m ++ [⟨q, true, .lst ((cutD ds l h).map Z.d)⟩]⟩) : wE C (tSl (rSlNew C.K) te tl th) y Q := by
  intro F σ H K wd k
  refine w F σ H _ wd fun x H1 z y1 w1 g1 s1 r1 q1 => ?_
  refine q1 F σ H1 _ w1 fun l H2 y2 w2 g2 s2 q2 => ?_
  refine q2 F σ H2 _ w2 fun h H3 y3 w3 g3 s3 q3 => ?_
  obtain ⟨p, b, j, ds, rfl, hj, hq⟩ := q3
  have r3 : Rz C F σ y3 H3 x (.lab p) := Rz.go (g2.trans g3) r1
  obtain ⟨rfl, xs, c1, c2⟩ := lab_lst w3 r3 hj
  refine .inl ⟨p, xs, rfl, .inl (.inl c1), fun q hp => ?_⟩
  obtain ⟨w4, g4, s4⟩ := w3.cnew (o := .lst (cutV xs l h)) (c := .lst ((cutD ds l h).map Z.d)) (b := true) hp fun M g => ⟨cutV xs l h, upd_same, RwA.of ((rpA_cut c2.ds l h).go g)⟩
  exact k _ _ (.lab q) _ w4 (((g1.trans g2).trans g3).trans g4) (((s1.trans s2).trans s3).trans s4) (.lab q) (hq q)
/-! ### three parameters, the last one by its default -/
section
variable {P : Program} {w : World} {K : Fg} {mg : Str → Option Value} {base : Heap} {k : Nat} {x : Str} {ps N : List Str} {sp : Sp} {st : Stmt} {dv : V}
end
/-! ### list(x) of a thing, as data -/
def tListD (K : Fg) (t : TA) : TE := tCB (rListD K) t
theorem xE_listD {C : Ct} {y : S} {te : TE} {Q : Z → S → Prop} (w : wE C te y fun z y1 => ∃ d xs, Res y1.m z d ∧ dItems d = some xs ∧ Q (.d (.list xs)) y1) : wE C (tListD C.K (tCons te tNil)) y Q := by
  intro F σ H K wd k
  refine w F σ H _ wd fun x H1 z y1 w1 g1 s1 r1 ⟨d, xs, hr, hx, hq⟩ => ?_
  have key : ∃ a us, x = .ref a ∧ (SqL C.K H1 a us ∨ SqT C.K H1 a us) ∧ RpA C.K (Mv F σ y1) H1 us xs := by
    cases hr with
    | d d =>
      obtain ⟨a, us, rfl, h1, h2⟩ := rp_items r1 hx
      exact ⟨a, us, rfl, h1.elim (fun z => .inl z.sq) (fun z => .inr z.sq), h2⟩
    | @lab e d he hc =>
      have r1w := r1.w
      cases r1w
      have ok := w1.cell e he
      generalize e.c = c at hc ok
      induction hc with
      | lst ds =>
        cases hx
        obtain ⟨us, h1, h2⟩ := ok
        exact ⟨_, us, rfl, .inl (SqL.of h1), h2.ds⟩
      | dic kvs => cases hx
      | ro _ ih => exact ih hx ok
  obtain ⟨a, us, rfl, h1, h2⟩ := key
  refine ⟨a, us, rfl, h1, fun p hp => ?_⟩
  have gr := grow_upd (o := .lst us) hp
  exact k _ _ (.d (.list xs)) y1 (w1.grow gr) (g1.trans (go_grow gr)) s1 (.lst (.inl ⟨w1.new hp, .inl upd_same⟩) (h2.go (go_grow (F := F) (σ := σ) (y := y1) gr))) hq
end Ux

set_option maxRecDepth 100000
set_option maxHeartbeats 4000000
/-! exceptions whose field has another name; keywords for the third parameter -/
namespace Ux
open PySem PySem.Spec PyProof.Rows L2 Tq
/-! ### an own class with __init__(self, found): T.__init__(self, 'text'); self.found = found -/
def spInitN (f : Str) (K : Fg) (C : Addr) : Sp := fun vs H Q _ => ∃ (a : Addr) (v : V), vs = [.ref a, v] ∧ OexC K C ∧ PySem.W.findIn K (.ref C) f = some none ∧ H a = some (exo a C none) ∧ ∀ dx, H dx = none → dx ≠ a → Q .non (upd (upd H dx (exd dx [(f, v)])) a (exo a C (some dx)))
/-- the class x, at C: its instances hold what was found -/
structure XcN (P : Program) (w : World) (K : Fg) (mg : Str → Option Value) (base : Heap) (f x : Str) (C : Addr) : Prop where
  gC : mg x = some (.ref C)
  oc : OexC K C
  xf : XfC K C
  no : PySem.W.findIn K (.ref C) f = some none
  ini : ∃ (fI : Addr) (fd : FuncData), PySem.W.findIn K (.ref C) "__init__" = some (some (.ref fI)) ∧ PySem.W.typeIn K (.ref fI) = some (.type "function") ∧ FnOk P w K mg base CX0 1 fI fd ["self", f] (spInitN f K C) ∧ Binds K fd ["self", f] []
section
variable {X : Cx} {f x : Str} {C : Addr} {a : Expr} {ta : TA} {p pos pos2 : Pos}
end
structure XcTN (K : Fg) (mg : Str → Option Value) (f x qual : Str) (st : Stmt) (C : Addr) : Prop where
  gC : mg x = some (.ref C)
  oc : OexC K C
  xf : XfC K C
  no : PySem.W.findIn K (.ref C) f = some none
  ini : ∃ (fI : Addr) (fd : FuncData), PySem.W.findIn K (.ref C) "__init__" = some (some (.ref fI)) ∧ PySem.W.typeIn K (.ref fI) = some (.type "function") ∧ Fun K "__init__" qual st fI fd ∧ Binds K fd ["self", f] []
section
variable {C : Ct} {y : S} {ts : TA} {e : En}
end
theorem Res.kz {m : List Cl} {z : Z} {d : D} (r : Res m z d) : keyZ z = "found" ∧ valZ z = z := by cases r <;> exact ⟨rfl, rfl⟩
section
variable {P : Program} {w : World} {K : Fg} {mg : Str → Option Value} {base : Heap} {k : Nat} {x : Str} {ps N : List Str} {sp : Sp} {st : Stmt} {dv : V}
end

/-! ### new lists that nobody changes: plain data at once -/
/-! ### methods of one class, that call others of it -/
/-! ### a list of ours, many times -/
end Ux

set_option maxRecDepth 100000
set_option maxHeartbeats 4000000
/-! own exceptions over a built-in one: what making one and its first __init__ ask of the built-in classes, apart from one another -/
namespace PySem
namespace UxEx
open PySem.W PySem.Calls PyProof.Rows PySem.HandSPX
/-- the __new__ that is found, of the class B -/
structure NewFx (B newId : String) : Prop where
  ends : newId.endsWith ".__new__" = true
  owner : newId.dropRight 8 = B
  entry : entryFor table newId = some Builtin.«BaseException.__new__»
  split : splitId newId = some (B, "__new__")
  kind : builtinKind newId = some .builtinFn
  row : Manifest.signature? newId = some ⟨.any, B, B, .cls, [⟨"args", .varPos, false⟩, ⟨"kwargs", .varKw, false⟩]⟩
  canon : Manifest.canonical newId = Manifest.canonical "BaseException.__new__"
  quiet : newId.startsWith "lifetime." = false
  noStar : (B != "*") = true
/-- the __init__ that is found, of the class B -/
structure IniFx (B initId : String) : Prop where
  slot : Slot B "__init__" initId
  entry : entryFor table initId = some Builtin.«BaseException.__init__»
  split : splitId initId = some (B, "__init__")
  kind : builtinKind initId = some .slot
  row : Manifest.signature? initId = some ⟨.positional, "*", B, .self, [⟨"args", .varPos, false⟩]⟩
  noStar : (B != "*") = true
theorem NewFx.of {B newId initId : String} {bm : List Value} (F : ExcBaseFacts B newId initId bm) : NewFx B newId := ⟨F.ends, F.owner, F.entry, F.newSplit, F.newKind, F.newRow, F.canon, F.quiet, F.noStar⟩
theorem IniFx.of {B newId initId : String} {bm : List Value} (F : ExcBaseFacts B newId initId bm) : IniFx B initId := ⟨F.init, F.initEntry, F.initSplit, F.initKind, F.initRow, F.noStar⟩
/-- what the line of classes holds -/
structure TlFx (nB iB : String) (bm : List Value) : Prop where
  hN : bm.contains (.type nB) = true
  hI : bm.contains (.type iB) = true
  nA : bm.contains (.type "AttributeError") = false
  nN : bm.contains (.type "NameError") = false
section
variable {M : Model} {A : Around} {E : Value → Shared → Prop} {h : Heap} {g : Array GenState} {d : Drawn} {t : Nat} {os : OsState}
variable {nm q : Str} {C N : Addr} {bs bm : List Value} {hdct : Bool} {sn : List Str} {sub : List Value} {ab : Bool} {col : Option Bool} {dd : Option Addr} {k0 k1 k2 k3 k5 : Option Value} {nB iB newId initId : String}
theorem check_new (F : NewFx nB newId) (T : TlFx nB iB bm) {rest : List Value} {Q : Unit → Shared → Prop}
    (hC : h.get? C = some (excClassObj nm q C N bs bm hdct sn sub ab col dd k0 k1 k2 k3 k5 newId)) (hq : Q () ⟨h, g, d, t, os⟩) : wpAny M A (checkBuiltinCall newId ⟨.ref C :: rest, []⟩) Q E ⟨h, g, d, t, os⟩ := by
  have c1 : (Value.ref C :: bm).contains (.type nB) = true := by rw [List.contains_cons, T.hN, Bool.or_true]
  have c2 := F.noStar
  simp only [checkBuiltinCall, F.kind, F.split, F.row]
  repeat (first | refine wpAny_loadPart_at hC ?_ | (refine wpAny_isSubtype_exc hC ?_; rw [c1]) | refine wpAny_staticBase_exc hC ?_ | refine wpAny_madeBy_exc hC ?_ | simp only [bne_self_eq_false, Bool.false_eq_true, if_false] | wp_step)
  exact hq
theorem check_init (F : IniFx iB initId) (T : TlFx nB iB bm) {e : Addr} {oe : Obj} {rest : List Value} {Q : Unit → Shared → Prop}
    (hC : h.get? C = some (excClassObj nm q C N bs bm hdct sn sub ab col dd k0 k1 k2 k3 k5 newId)) (he : h.get? e = some oe) (hcls : oe.cls = .ref C) (hq : Q () ⟨h, g, d, t, os⟩) :
    wpAny M A (checkBuiltinCall initId ⟨.ref e :: rest, []⟩) Q E ⟨h, g, d, t, os⟩ := by
  have c1 : (Value.ref C :: bm).contains (.type iB) = true := by rw [List.contains_cons, T.hI, Bool.or_true]
  have c2 := F.noStar
  simp only [checkBuiltinCall, F.kind, F.split, F.row]
  repeat (first | (with_reducible refine wpAny_loadPart_at he ?_; rw [hcls]) | with_reducible refine wpAny_loadPart_at hC ?_ | (with_reducible refine wpAny_isSubtype_exc hC ?_; rw [c1]) | wp_step)
  refine wpAny_onRaise ?_
  rw [show ∀ (a b : String) (n : Nat), Bind.check ⟨.positional, "*", iB, .self, [⟨"args", .varPos, false⟩]⟩ a b n (List.map (fun x => x.fst) ({ pos := Value.ref e :: rest } : Args).kw) = pure () from
    fun a b n => check_star_args _ _ _ _ _ _]
  exact wpAny_pure hq
end
section
variable {prog : Program} {w : World} {A : Around} {E : Value → Shared → Prop} {R : Result → Shared → Prop} {h : Heap} {g : Array GenState} {d : Drawn} {t : Nat} {os : OsState}
variable {nm q : Str} {C N : Addr} {bs bm : List Value} {hdct : Bool} {sn : List Str} {sub : List Value} {ab : Bool} {col : Option Bool} {dd : Option Addr} {k0 k1 k2 k3 k5 : Option Value} {nB iB newId initId : String}
theorem new_at (F : NewFx nB newId) (T : TlFx nB iB bm) {rest : List Value}
    (hC : h.get? C = some (excClassObj nm q C N bs bm hdct sn sub ab col dd k0 k1 k2 k3 k5 newId))
    (hq : R (.ok (.ret (.ref (h.objs.size + 1)))) ⟨(h.push { cls := .type "tuple", data := .seq rest.toArray }).push
      { cls := .ref C, data := .fields #[.ref h.objs.size, .none, .none, .none, .bool false, .none] }, g, d, t, os⟩) (hrest : rest.length ≤ sizeLine) :
    codeAny (model prog w) A (.builtin newId ⟨.ref C :: rest, []⟩) R ⟨h, g, d, t, os⟩ := by
  have hends := F.ends
  have c1 : (Value.ref C :: bm).contains (.type nB) = true := by rw [List.contains_cons, T.hN, Bool.or_true]
  have c2 : (Value.ref C :: bm).contains (.type "AttributeError") = false := by rw [List.contains_cons, T.nA]; rfl
  have c3 : (Value.ref C :: bm).contains (.type "NameError") = false := by rw [List.contains_cons, T.nN]; rfl
  refine codeAny_builtinAt F.entry ?_
  unfold Builtin.«BaseException.__new__»
  refine wpAt_bind ?_
  show wpAt _ _ _ (stack >>= _) _ _ _
  refine wpAt_bind (wpAt_stack fun p below => wpAt_of_wpAny ?_)
  wp_walk
  refine wpAt_of_wpAny ?_
  rw [F.owner]
  repeat (first | with_reducible refine wpAny_madeHere_exc F.canon hC ?_ | with_reducible refine wpAny_loadPart_at hC ?_ | (with_reducible refine wpAny_isSubtype_exc hC ?_; first | rw [c1] | rw [c2] | rw [c3]) | wp_step)
  show R _ _
  rw [Heap.size_push]
  exact hq
theorem type_call (F : NewFx nB newId) (T : TlFx nB iB bm) {rest : List Value} {fI : Addr} {Q : Fin → Shared → Prop}
    (hC : h.get? C = some (excClassObj nm q C N bs bm hdct sn sub ab col dd k0 k1 k2 k3 k5 newId))
    (hi : W.Looks (model prog w) h (typeLookup (.ref C) "__init__") (some (.ref fI))) (hb : ∀ self, W.Looks (model prog w) h (bindSpecial (.ref fI) self) (.ref fI, [self])) (hrest : rest.length ≤ sizeLine)
    (hq : codeAny (model prog w) A (.call (.ref fI) ⟨.ref (h.objs.size + 1) :: rest, []⟩)
      (fun r s' => match r with | .ok (.ret v) => v = .none ∧ Q (.done (.ret (.ref (h.objs.size + 1)))) s' | .ok _ => False | .error e => E e s')
      ⟨(h.push (W.kdv_tup rest)).push (excO C h.objs.size), g, d, t, os⟩) :
    wpAny (model prog w) A (Builtin.«type.__call__» ⟨.ref C :: rest, []⟩) Q E ⟨h, g, d, t, os⟩ := by
  repeat (first | with_reducible refine wpAny_loadPart_at hC ?_ | with_reducible refine wpAny_madeBy_exc hC ?_ | wp_step)
  refine codeAny_call_builtin_code (Code.quiet_builtin _ F.quiet) (check_new F T hC ?_)
  refine new_at F T hC ?_ hrest
  show wpAny _ _ _ _ _ _
  have k : ∀ b o, h.get? b = some o → ((h.push (W.kdv_tup rest)).push (excO C h.objs.size)).get? b = some o := fun b o e => Heap.get?_push_of_some _ (Heap.get?_push_of_some _ e)
  have hC₁ := k _ _ hC
  have hget : ((h.push (W.kdv_tup rest)).push (excO C h.objs.size)).get? (h.objs.size + 1) = some (excO C h.objs.size) := by heap_get
  have hcC : (Value.ref C :: bm).contains (.ref C) = true := by simp
  have i1 := hi.keeps k
  have b1 := (hb (.ref (h.objs.size + 1))).keeps k
  unfold isInstance
  repeat (first | with_reducible refine wpAny_loadPart_at hget ?_ | (with_reducible refine wpAny_isSubtype_exc hC₁ ?_; rw [hcC]) | wp_step)
  show wpAny _ _ (typeLookup (.ref C) _) _ _ _
  refine i1.at ?_
  refine wpAny_holding (wpAny_bind (b1.at ?_))
  refine wpAny_bind (wpAny_call (codeAny_mono hq fun r s' z => ?_))
  rcases r with e | (v | _ | _ | _) <;> first | exact z | exact z.elim | skip
  obtain ⟨rfl, z⟩ := z
  first
    | exact wpAny_pure (wpAny_pure z)
    | (wp_walk; exact z)
theorem call_at (F : NewFx nB newId) (T : TlFx nB iB bm) {rest : List Value} {fI : Addr}
    (hC : h.get? C = some (excClassObj nm q C N bs bm hdct sn sub ab col dd k0 k1 k2 k3 k5 newId))
    (hi : W.Looks (model prog w) h (typeLookup (.ref C) "__init__") (some (.ref fI))) (hb : ∀ self, W.Looks (model prog w) h (bindSpecial (.ref fI) self) (.ref fI, [self])) (hrest : rest.length ≤ sizeLine)
    (hq : codeAny (model prog w) (A.under (.builtin "type.__call__" ⟨.ref C :: rest, []⟩)) (.call (.ref fI) ⟨.ref (h.objs.size + 1) :: rest, []⟩) (W.InitBack (h.objs.size + 1) R)
      ⟨(h.push (W.kdv_tup rest)).push (excO C h.objs.size), g, d, t, os⟩) :
    codeAny (model prog w) A (.call (.ref C) ⟨rest, []⟩) R ⟨h, g, d, t, os⟩ := by
  have f1 := tc_lookup
  have f2 := tc_bind (.ref C)
  have hTy : (⟨h, g, d, t, os⟩ : Shared).TypeIs (.ref C) "type" := ⟨_, hC, rfl⟩
  refine codeAny_of_tree ?_
  show wpAny _ _ (callAny (.ref C) _) _ _ _
  repeat (any_goals (first | assumption | with_reducible refine wpAny_loadPart_at hC ?_ | wp_step))
  refine ⟨rfl, ?_⟩
  refine codeAny_call_builtin_at (Code.quiet_builtin _ (by decide +kernel)) entry_typeCall (wpAny_check_type_call_sub hC (type_call F T hC hi hb hrest ?_))
  refine codeAny_mono hq fun r s' z => ?_
  rcases r with e | (v | _ | _ | _) <;> exact z
theorem init_at (F : IniFx iB initId) (T : TlFx nB iB bm) {e t0 : Addr} {rest : List Value}
    (hC : h.get? C = some (excClassObj nm q C N bs bm hdct sn sub ab col dd k0 k1 k2 k3 k5 newId)) (he : h.get? e = some (excO C t0)) (hrest : rest.length ≤ sizeLine)
    (hq : ∀ h' t1, (∀ b o, b ≠ e → h.get? b = some o → h'.get? b = some o) → h'.get? e = some (excO C t1) → R (.ok (.ret .none)) ⟨h', g, d, t, os⟩) :
    codeAny (model prog w) A (.call (.builtin initId) ⟨.ref e :: rest, []⟩) R ⟨h, g, d, t, os⟩ := by
  refine codeAny_call_builtin F.slot.plain F.entry (check_init F T hC he rfl ?_)
  wp_walk
  refine hq _ h.objs.size (fun b o hb ho => ?_) ?_
  · rw [Heap.get?_update_other _ _ (Ne.symm hb)]
    exact Heap.get?_push_of_some _ ho
  · rw [Heap.get?_update_self _ (Heap.get?_push_of_some _ he) rfl]
    rfl
end
theorem newL : NewFx "LookupError" "LookupError.__new__" := .of PySem.F.excBase_LookupError
theorem iniK : IniFx "KeyError" "KeyError.__init__" where
  slot := .of (owner := "KeyError") (n := "__init__") (by rw [typeLookup_type, builtinLookup_eq_fast]; kernel_rfl) (by decide +kernel) (by decide +kernel) (by decide +kernel)
    (by first | exact .inl (by decide +kernel) | exact .inr (by decide +kernel)) (by rw [isSubtype_type]; kernel_rfl)
  entry := entryFor_alias (id' := "BaseException.__init__") (by rw [fastTable_eq_tree]; kernel_rfl) (by first | rfl | decide +kernel) (by decide +kernel) (by rw [fastTable_eq_tree]; kernel_rfl)
  split := by kernel_rfl
  kind := by kernel_rfl
  row := by kernel_rfl
  noStar := by decide +kernel
end UxEx
end PySem

set_option maxRecDepth 100000
set_option maxHeartbeats 4000000
/-! own exceptions over a built-in one other than ValueError -/
namespace Ux
open PySem PySem.Spec PyProof.Rows L2 Tq
/-- a built-in exception: its name, its two special methods, its line of classes -/
structure BaseI where
  nB : String
  newId : String
  iB : String
  initId : String
  tl : List Value
structure BaseF (b : BaseI) : Prop where
  nf : UxEx.NewFx b.nB b.newId
  jf : UxEx.IniFx b.iB b.initId
  tf : UxEx.TlFx b.nB b.iB b.tl
  st : ∀ self, refuseLoop self "__setattr__" b.tl = pure ()
  ob : b.tl.contains (.type "object") = true
  ne : b.tl.isEmpty = false
def refsTo (tl l : List Value) : Prop := ∃ cs : List Addr, l = cs.map Value.ref ++ tl
theorem refsTo_pass {tl l : List Value} {self : Value} (h : refsTo tl l) (st : refuseLoop self "__setattr__" tl = pure ()) : refuseLoop self "__setattr__" l = pure () := by
  obtain ⟨cs, rfl⟩ := h
  induction cs with
  | nil => exact st
  | cons c cs ih =>
    show refuseLoop self "__setattr__" (Value.ref c :: (cs.map Value.ref ++ tl)) = _
    rw [refuseLoop_ref]
    exact ih
theorem refsTo_has {tl l : List Value} (h : refsTo tl l) (Y : String) : l.contains (.type Y) = tl.contains (.type Y) := by
  obtain ⟨cs, rfl⟩ := h
  induction cs with
  | nil => rfl
  | cons c cs ih =>
    show (Value.ref c :: (cs.map Value.ref ++ tl)).contains (.type Y) = _
    rw [List.contains_cons, ih]; rfl
theorem refsTo_ne {tl l : List Value} (h : refsTo tl l) (n : tl.isEmpty = false) : l.isEmpty = false := by
  obtain ⟨cs, rfl⟩ := h
  cases cs with
  | nil => exact n
  | cons c cs => rfl
theorem refsTo_tl {nB iB : String} {tl l : List Value} (h : refsTo tl l) (T : UxEx.TlFx nB iB tl) : UxEx.TlFx nB iB l :=
  ⟨(refsTo_has h _).trans T.hN, (refsTo_has h _).trans T.hI, (refsTo_has h _).trans T.nA, (refsTo_has h _).trans T.nN⟩
structure OexB (b : BaseI) (K : Fg) (C : Addr) : Prop where
  bf : BaseF b
  cls : ∃ nm q N bs bm sn sub ab col dd k0 k1 k2 k3 k5, K.lookup C = some (excClassObj nm q C N bs bm true sn sub ab col dd k0 k1 k2 k3 k5 b.newId) ∧ refsTo b.tl bm
  sa : PySem.W.findIn K (.ref C) "__setattr__" = some (some (.builtin "object.__setattr__"))
  exC : PySem.W.subIn K (.ref C) (.type "BaseException") = some true
  tyC : PySem.W.typeIn K (.ref C) = some (.type "type")
  kC : PySem.W.keepIn K (.ref C) = true
end Ux
namespace PySem
namespace UxOsa
open Builtin Builtin.ObjectAttr PySem.HandSPX
/-- the first field of an exception that has no dict yet -/
theorem osa {prog : Program} {w : World} {A : Around} {R : Result → Shared → Prop} {hp : Heap} {g : Array GenState} {d : Drawn} {t : Nat} {os : OsState}
    {b : Ux.BaseI} {K : W.Frag} {name : Str} {tk : Tok} {v : Value} {x C : Addr} {fv : Array Value} {cd : ClassData}
    (bf : Ux.BaseF b) (X : K.In hp) (hx : hp.get? x = some { cls := .ref C, data := .fields fv }) (hcd : W.clsIn K C = some cd) (hm : Ux.refsTo b.tl cd.mro) (hh : cd.hasDict = true) (ha : W.findIn K (.ref C) name = some none)
    (hq : ∀ h' tk' dx, (∀ b o, b ≠ x → hp.get? b = some o → h'.get? b = some o) → hp.objs.size ≤ dx → dx ≠ x → h'.get? x = some { cls := .ref C, dict := some dx, data := .fields fv } →
      h'.Ns1 dx (fun y => if y = name then some v else none) → R (.ok (.ret .none)) ⟨h', g, d, tk', os⟩) :
    codeAny (model prog w) A (.call (.builtin "object.__setattr__") ⟨[.ref x, .str name tk, v], []⟩) R ⟨hp, g, d, t, os⟩ := by
  have I : W.InstAt hp x { cls := .ref C, data := .fields fv } C none := ⟨hx, rfl, rfl, trivial⟩
  have SF := F.store_object
  have ne := Ux.refsTo_ne hm bf.ne
  have hob : cd.mro.contains (.type "object") = true := (Ux.refsTo_has hm "object").trans bf.ob
  have hxs : x ≠ hp.objs.size := Nat.ne_of_lt (Heap.lt_size hx)
  have sub : W.Looks (model prog w) hp (isInstance (.ref x) (.type "object")) true := I.type.andThen (W.looks_mroIn X (by unfold W.mroIn; rw [hcd, Option.bind_some, if_neg (by rw [ne]; decide), hob]))
  refine codeAny_call_builtin SF.slot.plain SF.entry (@W.check_slot (model prog w) _ _ ⟨hp, g, d, t, os⟩ "object.__setattr__" "object" "__setattr__" (.ref x) [.str name tk, v] [] _ SF.kind SF.split sub (SF.args (.ref x) (.str name tk) v) ?_)
  have hmr : W.Looks (model prog w) hp (mroOf (.ref C)) cd.mro := (W.looks_clsIn X hcd).andThen .now
  have L3 : W.Looks (model prog w) hp (storeTaker? none) none := .now
  have hcls : W.Looks (model prog w) hp (classData C) cd := W.looks_clsIn X hcd
  rw [W.osa_eq, refuse_eq]
  refine wpAny_bind (wpAny_bind (I.type.at (wpAny_bind (hmr.at ?_))))
  rw [Ux.refsTo_pass hm (bf.st _)]
  refine wpAny_pure (wpAny_bind (I.type.at (wpAny_bind ((W.looks_findIn X ha).at (wpAny_bind (L3.at ?_))))))
  show wpAny _ _ (storeInOwnDict (.ref x) (.ref C) (.str name tk) name v false) _ _ _
  obtain ⟨nm, bs, mro, ns, qn, hd, sn, sb, ab, col, del⟩ := cd
  dsimp only at hh
  subst hh
  unfold storeInOwnDict ownDictForStores
  repeat (first | with_reducible refine store_in_new ?_ ?_ | with_reducible refine wpAny_loadPart_at hx ?_ | with_reducible refine hcls.at ?_ | wp_step)
  · exact ⟨_, #[], _, (Heap.get?_update_ne _ _ _ _ hxs.symm).trans (Heap.get?_push_at rfl rfl), rfl, fun e he => absurd he (by simp), fun _ => rfl⟩
  · intro h' tk' hn' hs
    have hx₁ : (hp.push { cls := .type "dict", data := .dict #[] }).get? x = some { cls := .ref C, data := .fields fv } := Heap.get?_push_of_some _ hx
    refine hq h' tk' hp.objs.size (fun b o hb ho => ?_) (Nat.le_refl _) hxs.symm ?_ hn'
    · exact (hs.2 b (Nat.ne_of_lt (Heap.lt_size ho))).trans ((Heap.get?_update_ne _ _ _ _ hb).trans (Heap.get?_push_of_some _ ho))
    · exact (hs.2 x hxs).trans (Heap.get?_update_self _ hx₁ rfl)
end UxOsa
end PySem
namespace Ux
open PySem PySem.Spec PyProof.Rows L2 Tq
section
variable {X : Cx} {pins : List (Addr × Obj)} {σ : L2.St} {H : Hp} {s : Shared} {a C dx : Addr} {f : Str} {v : V} {u : Value} {b : BaseI} {E : Value → Shared → Prop} {A : Around}
theorem OexB.at (T : OexB b X.K C) : ∃ cd : ClassData, PySem.W.clsIn X.K C = some cd ∧ refsTo b.tl cd.mro ∧ cd.hasDict = true := by
  obtain ⟨nm, q, N, bs, bm, sn, sub, ab, col, dd, k0, k1, k2, k3, k5, hC, cs, hbm⟩ := T.cls
  exact ⟨{ name := nm, bases := bs, mro := .ref C :: bm, ns := N, qualname := q, hasDict := true, slotNames := sn, subclasses := sub, abstract := ab, collection := col, hasDel := false }, by unfold PySem.W.clsIn; rw [hC] <;> rfl, ⟨C :: cs, by rw [hbm]; rfl⟩, rfl⟩
/-- self.f = v, the first field -/
theorem ost_newB {Q : Unit → Shared → Prop} (T : OexB b X.K C) (I : Inv X pins σ H s) (e : H a = some (exo a C none)) (hno : PySem.W.findIn X.K (.ref C) f = some none) (rv : RelV v u)
    (h : ∀ dx s', H dx = none → dx ≠ a → Inv X pins σ (upd (upd H dx (exd dx [(f, v)])) a (exo a C (some dx))) s' → Q () s') : wpAny (model X.prog X.w) A (setAttr (.ref a) f u) Q E s := by
  obtain ⟨cd, hcl, hm, hd⟩ := T.at
  obtain ⟨t1, ho⟩ := exo_at I.hok e
  obtain ⟨hp, g, d, t, os⟩ := s
  refine PySem.W.set_plain I.kIn (ox := { cls := .ref C, dict := none, data := .fields #[.ref t1, .none, .none, .none, .bool false, .none] }) (od := none) ⟨ho, rfl, rfl, trivial⟩ T.sa ?_
  refine PySem.UxOsa.osa T.bf I.kIn ho hcl hm hd hno fun h' tk' dx k dn dne hx hn => ?_
  have fresh : H dx = none := I.hok.fresh dn
  have old : ∀ {c : Addr} {o : Obj}, hp.get? c = some o → c ≠ dx := fun {c o} q => Nat.ne_of_lt (Nat.lt_of_lt_of_le (Heap.lt_size q) dn)
  have not_a : ∀ {c : Addr}, H c = none → c ≠ a := fun {c} n z => by rw [z, e] at n; cases n
  have U : Un X.fs [] H (upd (upd H dx (exd dx [(f, v)])) a (exo a C (some dx))) hp h' := {
    keep := fun c o q n _ _ => k c o (not_a n) q
    slot := fun c o q n _ _ => ⟨o.slots, k c o (not_a n) q⟩
    free := fun c o q n _ => by rw [upd_ne (not_a n), upd_ne (old q)]; exact n
    there := fun c o q _ => by
      rcases Classical.em (c = a) with z | z
      · exact ⟨_, by rw [z]; exact hx⟩
      · exact ⟨o, k c o z q⟩
    tups := fun c xs q => by rw [upd_ne (at_ne e q exo_tup), upd_ne (ne_of_none q fresh)]; exact q
    frzs := fun c o u q => by rw [upd_ne (at_ne e q exo_frz), upd_ne (ne_of_none q fresh)]; exact q
    tbls := fun c ps q => ⟨#[], by rw [upd_ne (at_ne e q exo_tbl), upd_ne (ne_of_none q fresh), q]; simp⟩ }
  refine h dx _ fresh dne (I.un (t' := tk') U fun c o q => ?_)
  rcases Classical.em (c = a) with rfl | ca
  · rw [upd_same] at q; cases q; exact exo_ok hx
  rw [upd_ne ca] at q
  rcases Classical.em (c = dx) with rfl | cd'
  · rw [upd_same] at q; cases q
    exact exd_ok hn (relO_put (fs := []) rv fun _ => trivial)
  rw [upd_ne cd'] at q
  refine (I.hok c o q).stay (fun x v hc z => k x v ?_ z) (fun x hc => by rw [upd_ne (at_ne e hc exo_own), upd_ne (ne_of_none hc fresh)]; exact hc) fun x xs hc => by rw [upd_ne (at_ne e hc exo_tup), upd_ne (ne_of_none hc fresh)]; exact hc
  rcases hc with rfl | hc
  · exact ca
  · exact at_ne e hc exo_own
/-- B.__init__(self, ..): nothing of it is told -/
theorem oinitB {us : List Value} {Q : Value → Shared → Prop} (T : OexB b X.K C) (I : Inv X pins σ H s) (e : H a = some (exo a C none)) (hl : us.length ≤ sizeLine) (h : ∀ s', Inv X pins σ H s' → Q .none s') :
    wpAny (model X.prog X.w) A (call (.builtin b.initId) (.ref a :: us)) Q E s := by
  obtain ⟨nm, q, N, bs, bm, sn, sub, ab, col, dd, k0, k1, k2, k3, k5, hC, hbm⟩ := T.cls
  obtain ⟨t1, ho⟩ := exo_at I.hok e
  obtain ⟨hp, g, d, t, os⟩ := s
  refine wpAny_call (PySem.UxEx.init_at T.bf.jf (refsTo_tl hbm T.bf.tf) (I.kIn _ _ hC) ho hl fun h' t2 k hx => ?_)
  have J := I.write (t' := t) (x := a) (e := a) (o := exo a C none) (by rw [e]; exact True.intro) (.inl rfl) k ⟨_, hx⟩ (exo_ok hx)
  have eu : upd H a (exo a C none) = H := funext fun c => (Classical.em (c = a)).elim (fun z => by rw [z, upd_same, e]) fun z => by rw [upd_ne z]
  rw [eu] at J
  exact h _ J
def tVeIB (b : BaseI) (K : Fg) (ta : TA) : TE := fun σ H Q => ta σ H fun vs H1 => ∃ (a C : Addr) (ws : List V), vs = .ref a :: ws ∧ ws.length ≤ 1000 ∧ OexB b K C ∧ H1 a = some (exo a C none) ∧ Q .non H1
def tOstB (b : BaseI) (K : Fg) (f : Str) (to te : TE) : TS := fun D σ H => te σ H fun y H1 => to σ H1 fun x H2 => ∃ a C : Addr, x = .ref a ∧ OexB b K C ∧ PySem.W.findIn K (.ref C) f = some none ∧
  H2 a = some (exo a C none) ∧ ∀ dx, H2 dx = none → dx ≠ a → D.nx σ (upd (upd H2 dx (exd dx [(f, y)])) a (exo a C (some dx)))
structure TxB (b : BaseI) (K : Fg) (mg : Str → Option Value) (x : Str) : Prop where
  ex : ∃ T : Addr, mg x = some (.ref T) ∧ PySem.W.readsIn K T (.type "type") = true ∧ PySem.W.specialIn K (.ref T) "__getattribute__" = some (some (.builtin "type.__getattribute__")) ∧
    PySem.W.findCls K (.ref T) (.type "type") "__init__" = some (.val (.builtin b.initId))
theorem pe_tinitB {x : Str} {e : Expr} {es : List Expr} {ta : TA} {p1 p2 pos : Pos} {pl : Sem Bool} (hg : Gl X x) (T : TxB b X.K X.mg x) (ha : PA X (e :: es) ta) (hcl : PySem.W.handedIn (.builtin b.initId) = true) (hdb : (x == ("__debug__" : Str)) = false := by decide)
    (hc : eval (.Call (.Attribute (.Name x p1) "__init__" p2) (e :: es) [] pos) X.env = (do
      let ov ← eval (.Name x p1) X.env
      standAt p2.atName
      let (f, first) ← holding [ov] (getMethod ov "__init__" pl)
      callWith pos f first (backTo pos (starEach (e :: es) X.env)) (backToKw pos (keywordEach [] X.env))) := by rfl)
    (he : starEach (e :: es) X.env = (false, eval e X.env) :: starEach es X.env := by rfl) (hpl : (backTo pos (starEach es X.env)).any (·.1) = false := by rfl) :
    PE X (.Call (.Attribute (.Name x p1) "__init__" p2) (e :: es) [] pos) (tVeIB b X.K ta) := by
  obtain ⟨T, hm, hrd, hga, hv⟩ := T.ex
  refine ⟨fun pins s σ H Q I h => ?_⟩
  refine PySem.W.methodCall_KW (ld_glob I hg hm ?_ hdb) hc
  refine PySem.W.method_cls I.kIn hga (PySem.W.cls_value I.kIn hrd hv hcl ?_)
  show wpAny _ _ (callWith pos (Value.builtin b.initId) [] (backTo pos (starEach (e :: es) X.env)) []) _ _ _
  refine PyProof.Rows.callWith_method1 (thn (ha.run pos pins _ σ H _ (I.tok _) h) fun us s1 ⟨vs, H1, I1, r1, a, C, ws, ev, hl, T, ea, q⟩ => ?_) he hpl
  subst ev
  cases r1 with
  | @cons _ u0 _ ur ra rw' =>
    obtain rfl : u0 = Value.ref a := ra
    have hlen : ur.length ≤ sizeLine := by
      rw [← Paired.length rw', sizeLine_eq]
      omega
    exact oinitB T I1 ea hlen fun s' J => ⟨.non, H1, J, rfl, q⟩
theorem ps_ostB {o e : Expr} {to te : TE} {p' pos : Pos} (ho : PE X o to) (he : PE X e te) (hs : swapsWith e (some (.Attribute o f p')) pos.line X.env = pure false := by rfl) : PS X (.Assign [.Attribute o f p'] e pos) (tOstB b X.K f to te) := by
  refine ⟨fun pins s σ H D I h => ?_⟩
  refine plainObj_wpAny_Assign_Attribute (thn (he.run pins s σ H _ I h) fun v s1 ⟨y, H1, I1, r1, q1⟩ => thn (ho.run pins s1 σ H1 _ I1 q1) fun u s2 ⟨x, H2, I2, r2, a, C, ex, T, hno, ea, q⟩ => ?_) hs
  subst ex
  obtain rfl : u = Value.ref a := r2
  exact ost_newB T I2 ea hno r1 fun dx s' n ne J => ⟨σ, _, J, q dx n ne⟩
end
section
variable {X : Cx} {e : Expr} {es : List Expr} {ta : TA} {p pos : Pos} {b : BaseI}
/-- C(e, ..), the exception being made -/
theorem pmk_oexB {CX : CXT} {x : Str} {C fI : Addr} {k : Nat} {fd : FuncData} {ps : List Str} {sp : Sp} (T : OexB b X.K C) (iC : PySem.W.findIn X.K (.ref C) "__init__" = some (some (.ref fI))) (tI : PySem.W.typeIn X.K (.ref fI) = some (.type "function"))
    (F1 : FnOk X.prog X.w X.K X.mg X.base CX k fI fd ps sp) (hr : Room (k + 1) X.A) (hb : Binds X.K fd ps []) (hx : Passes CX X (fun _ _ _ => False)) (hg : Gl X x) (hm : X.mg x = some (.ref C)) (ha : PA X (e :: es) ta)
    (hdb : (x == ("__debug__" : Str)) = false := by decide) (he : starEach (e :: es) X.env = (false, eval e X.env) :: starEach es X.env := by rfl) (hpl : (backTo pos (starEach es X.env)).any (·.1) = false := by rfl) :
    PMk X (.Call (.Name x p) (e :: es) [] pos) (tMkO C sp [] ta) := by
  intro pins s σ H Q I h
  obtain ⟨nm, q, N, bs, bm, sn, sub, ab, col, dd, k0, k1, k2, k3, k5, hC, hbm⟩ := T.cls
  refine wpAny_Call_Name_kw (ld_glob I hg hm ?_ hdb)
  refine PySem.W.callWith_K (h₀ := X.base) I.ok.mod.kin T.kC (thn (ha.run pos pins s σ H _ I h) fun us s1 ⟨vs, H1, I1, r1, hz, q1⟩ => ⟨I1.kIn, ?_⟩) he hpl
  show wpAny _ _ (call (.ref C) us) _ _ _
  obtain ⟨hp, g, dr, tk, os⟩ := s1
  have hsz : hp.objs.size ≤ hp.objs.size + 1 := Nat.le_succ _
  have hq := q1 (hp.objs.size + 1) (I1.hok.fresh hsz)
  rw [List.append_nil] at hq
  have kk : ∀ c o, hp.get? c = some o → ((hp.push (PySem.W.kdv_tup us)).push (PySem.HandSPX.excO C hp.objs.size)).get? c = some o := fun c o e => Heap.get?_push_of_some _ (Heap.get?_push_of_some _ e)
  have hget : ((hp.push (PySem.W.kdv_tup us)).push (PySem.HandSPX.excO C hp.objs.size)).get? (hp.objs.size + 1) = some (PySem.HandSPX.excO C hp.objs.size) := by heap_get
  have I2 : Inv X pins σ (upd H1 (hp.objs.size + 1) (exo (hp.objs.size + 1) C none)) ⟨(hp.push (PySem.W.kdv_tup us)).push (PySem.HandSPX.excO C hp.objs.size), g, dr, tk, os⟩ :=
    I1.laid (t' := tk) (a := hp.objs.size + 1) (o := exo (hp.objs.size + 1) C none) (h' := (hp.push (PySem.W.kdv_tup us)).push (PySem.HandSPX.excO C hp.objs.size)) kk hsz (exo_ok hget)
  have r2 : Vals (V.ref (hp.objs.size + 1) :: vs) (Value.ref (hp.objs.size + 1) :: us) := .cons rfl r1
  have hl : (Value.ref (hp.objs.size + 1) :: us ++ []).length = ps.length := by
    have e := r2.length
    rw [F1.len _ _ _ _ hq] at e
    rw [List.append_nil]
    exact e.symm
  have hus : us.length ≤ sizeLine := by
    rw [← Paired.length r1, sizeLine_eq]
    omega
  have hbn := hb _ (Value.ref (hp.objs.size + 1) :: us) I2.kIn hl
  rw [List.append_nil] at hbn
  refine wpAny_call (PySem.UxEx.call_at T.bf.nf (refsTo_tl hbm T.bf.tf) (I1.kIn _ _ hC) (PySem.W.looks_findIn I1.kIn iC) (fun self => PySem.W.bind_fn I1.kIn self tI) hus
    (codeAny_mono (F1.run _ X.stack _ _ ⟨Value.ref (hp.objs.size + 1) :: us, []⟩ (Value.ref (hp.objs.size + 1) :: us) _ _ (fun _ _ _ => False) (hr.make C us []) (I2.env0.make C us []) hbn r2 hq) fun r s' hq' => ?_))
  cases r with
  | error er => exact hx pins σ _ _ er s' I2 hq'
  | ok fl =>
    cases fl with
    | ret u =>
      obtain ⟨v, H2, os2, bare2, un2, hok2, rv, ev, d, fs, ea, ed, hd1, q2⟩ := hq'
      subst ev
      obtain ⟨h2, g2, d2, t2, os'⟩ := s'
      exact ⟨rv, mk_end (raises_own T.exC T.tyC) I1 hsz kk un2 hok2 os2 bare2 ea ed hd1 q2⟩
    | next => exact False.elim hq'
    | brk => exact False.elim hq'
    | cont => exact False.elim hq'
end
/-! ### T.__init__(self, 'text'); self.found = found -/
def spInitB (b : BaseI) (K : Fg) (C : Addr) : Sp := fun vs H Q _ => ∃ (a : Addr) (v : V), vs = [.ref a, v] ∧ OexB b K C ∧ PySem.W.findIn K (.ref C) "found" = some none ∧ H a = some (exo a C none) ∧ ∀ dx, H dx = none → dx ≠ a → Q .non (upd (upd H dx (exd dx [(("found" : Str), v)])) a (exo a C (some dx)))
def t_initB (b : BaseI) (K : Fg) (m : Str) : TS := tSeq (tDrop (tVeIB b K (tCons (tVar 0) (tCons (tC (.str m)) tNil)))) (tOstB b K "found" (tVar 0) (tVar 1))
theorem init_readB {b : BaseI} {K : Fg} {C : Addr} {m : Str} {vs : List V} {H : Hp} {Q : VK} {E : XK} (h : spInitB b K C vs H Q E) : t_initB b K m { nx := fun _ G => Q .non G, rt := Q } (start ["self", "found"] vs) H := by
  obtain ⟨a, v, rfl, T, hn, e, k⟩ := h
  exact ⟨_, rfl, a, C, [.str m], rfl, by simp, T, e, _, rfl, _, rfl, a, C, rfl, T, hn, e, fun dx h1 h2 => k dx h1 h2⟩
structure XcB (b : BaseI) (P : Program) (w : World) (K : Fg) (mg : Str → Option Value) (base : Heap) (x : Str) (C : Addr) : Prop where
  gC : mg x = some (.ref C)
  oc : OexB b K C
  xf : XfC K C
  no : PySem.W.findIn K (.ref C) "found" = some none
  ini : ∃ (fI : Addr) (fd : FuncData), PySem.W.findIn K (.ref C) "__init__" = some (some (.ref fI)) ∧ PySem.W.typeIn K (.ref fI) = some (.type "function") ∧ FnOk P w K mg base CX0 1 fI fd ["self", "found"] (spInitB b K C) ∧ Binds K fd ["self", "found"] []
theorem mkO_ofB {b : BaseI} {K : Fg} {C : Addr} {H1 : Hp} {v : V} {Q : XK} (oc : OexB b K C) (no : PySem.W.findIn K (.ref C) "found" = some none) (q : ∀ d, H1 d = none → Q (.ref C) (some d) (upd H1 d (.xd [(("found" : Str), v)]))) :
    [v].length ≤ 1000 ∧ ∀ a, H1 a = none → spInitB b K C (.ref a :: ([v] ++ [])) (upd H1 a (exo a C none))
      (fun u H2 => u = .non ∧ ∃ (d : Addr) (fs : List (Str × V)), H2 a = some (exo a C (some d)) ∧ H2 d = some (exd d fs) ∧ H1 d = none ∧ Q (.ref C) (some d) (upd (del H2 a) d (.xd fs))) (fun _ _ _ => False) := by
  refine ⟨by simp, fun c hb => ⟨c, v, rfl, oc, no, upd_same, fun dx h1 h2 => ?_⟩⟩
  have h1' : H1 dx = none := by rw [upd_ne h2] at h1; exact h1
  refine ⟨rfl, dx, [(("found" : Str), v)], upd_same, by rw [upd_ne h2]; exact upd_same, h1', ?_⟩
  have eH : upd (del (upd (upd (upd H1 c (exo c C none)) dx (exd dx [(("found" : Str), v)])) c (exo c C (some dx))) c) dx (.xd [(("found" : Str), v)]) = upd H1 dx (.xd [(("found" : Str), v)]) := by
    funext y
    by_cases hc : y = dx
    · rw [hc, upd_same, upd_same]
    · rw [upd_ne hc, upd_ne hc]
      by_cases hcb : y = c
      · rw [hcb, del_same, hb]
      · rw [del_ne hcb, upd_ne hcb, upd_ne hc, upd_ne hcb]
  rw [eH]
  exact q dx h1'
def tRaiseB (b : BaseI) (K : Fg) (C : Addr) (W : WX) (ta : TA) : TS := fun _ σ H => tMkO C (spInitB b K C) [] ta σ H fun cls d H' => W cls d σ H'
section
variable {b : BaseI} {X : Cx} {x : Str} {C : Addr} {a : Expr} {ta : TA} {p pos pos2 : Pos}
theorem ps_raiseB {W : WX} (hc : X.calm = true) (T : XcB b X.prog X.w X.K X.mg X.base x C) (hr : Room 2 X.A) (tk : Takes X W) (ha : PA X [a] ta) (hg : Gl X x) (hdb : (x == ("__debug__" : Str)) = false := by decide)
    (he : starEach (a :: []) X.env = (false, eval a X.env) :: starEach [] X.env := by rfl) (hpl : (backTo pos (starEach [] X.env)).any (·.1) = false := by rfl) :
    PS X (.Raise (some (.Call (.Name x p) [a] [] pos)) none pos2) (tRaiseB b X.K C W ta) := by
  obtain ⟨fI, fd, i1, i2, i3, i4⟩ := T.ini
  exact ps_raise hc tk (pmk_oexB T.oc i1 i2 i3 hr i4 pass0 hg T.gC ha hdb he hpl)
end
structure XcTB (b : BaseI) (K : Fg) (mg : Str → Option Value) (x qual : Str) (st : Stmt) (C : Addr) : Prop where
  gC : mg x = some (.ref C)
  oc : OexB b K C
  xf : XfC K C
  no : PySem.W.findIn K (.ref C) "found" = some none
  ini : ∃ (fI : Addr) (fd : FuncData), PySem.W.findIn K (.ref C) "__init__" = some (some (.ref fI)) ∧ PySem.W.typeIn K (.ref fI) = some (.type "function") ∧ Fun K "__init__" qual st fI fd ∧ Binds K fd ["self", "found"] []
theorem spInitB_len {b : BaseI} {K : Fg} {C : Addr} : ∀ vs H Q E, spInitB b K C vs H Q E → vs.length = (["self", "found"] : List Str).length := by
  rintro vs H Q E ⟨a, v, rfl, _⟩
  rfl
theorem xcb_ok {b : BaseI} {P : Program} {w : World} {K : Fg} {mg : Str → Option Value} {base : Heap} {x qual : Str} {st : Stmt} {C : Addr} (T : XcTB b K mg x qual st C) (Sc : FnScope ["self", "found"] ["self", "found"] (defScope st)) (m : Str)
    (hb : ∀ (fI : Addr) (cdv : Value) (A : Around) (outer : List Env) (s : Shared) (H : Hp) (E : XK), PSs (cxOf CX0 P w K mg base ["self", "found"] qual (defScope st) fI cdv A outer s H E).nox (defBody st) (t_initB b K m)) : XcB b P w K mg base x C := by
  obtain ⟨fI, fd, i1, i2, i3, i4⟩ := T.ini
  exact ⟨T.gC, T.oc, T.xf, T.no, fI, fd, i1, i2, i3.ok Sc spInitB_len fun cdv A outer s H vs Q E hr h => ⟨_, hb fI cdv A outer s H E, init_readB h⟩, i4⟩
theorem xctb_mk {b : BaseI} (bf : BaseF b) {K : Fg} {h : Heap} {mg : Str → Option Value} {x qual : Str} {st : Stmt} {C f : Addr} (X : K.In h) (G : h.Ns mainGlobals mg)
    {nm q : Str} {N : Addr} {bs bm : List Value} {sn : List Str} {sub : List Value} {ab : Bool} {col : Option Bool} {dd : Option Addr} {m0 m1 m2 m3 m5 : Option Value} {od an : Option Addr} {sl : Array (Option Value)} {oc kV dc pm cd ct : Value}
    (hb : ∀ (kV dc pm : Value) (an : Option Addr) (cd ct : Value) (us : List Value), us.length = (["self", "found"] : List Str).length → bindArgs (PySem.W.fnOf "__init__" qual (defArgs st) (defBody st) (defScope st) .none kV dc pm an cd ct) ⟨us, []⟩ = pure ((["self", "found"] : List Str).zip us))
    (aC : PySem.W.nsIn K mainGlobals x = some (some (.ref C)))
    (xL : K.lookup C = some (excClassObj nm q C N bs bm true sn sub ab col dd m0 m1 m2 m3 m5 b.newId))
    (vb : refsTo b.tl bm)
    (sa : PySem.W.findIn K (.ref C) "__setattr__" = some (some (.builtin "object.__setattr__"))) (ga : PySem.W.findIn K (.ref C) "__getattribute__" = some (some (.builtin "BaseException.__getattribute__"))) (gg : PySem.W.findIn K (.ref C) "__getattr__" = some none) (nb : PySem.W.findIn K (.ref C) "found" = some none)
    (a1 : PySem.W.findIn K (.ref C) "__init__" = some (some (.ref f))) (t1 : PySem.W.typeIn K (.ref f) = some (.type "function"))
    (l : K.lookup f = some ⟨oc, od, .func (PySem.W.fnOf "__init__" qual (defArgs st) (defBody st) (defScope st) .none kV dc pm an cd ct), sl⟩) (c : PySem.W.codeIn K cd qual = true) (k : PySem.W.keepIn K (.ref f) = true)
    (kC : PySem.W.keepIn K (.ref C) = true) (eC : PySem.W.subIn K (.ref C) (.type "BaseException") = some true) (tC : PySem.W.typeIn K (.ref C) = some (.type "type")) (hC : PySem.W.hasDictIn K C = true) : XcTB b K mg x qual st C :=
  ⟨PySem.W.mg_of X G aC, ⟨bf, ⟨nm, q, N, bs, bm, sn, sub, ab, col, dd, m0, m1, m2, m3, m5, xL, vb⟩, sa, eC, tC, kC⟩, ⟨ga, gg, eC, hC⟩, nb, f, _, a1, t1, fun_mk l c k, (fun_mk l c k).binds hb⟩
theorem txb_mk {b : BaseI} {K : Fg} {h : Heap} {mg : Str → Option Value} {x : Str} {T : Addr} (X : K.In h) (G : h.Ns mainGlobals mg) (a : PySem.W.nsIn K mainGlobals x = some (some (.ref T))) (r : PySem.W.readsIn K T (.type "type") = true)
    (g : PySem.W.specialIn K (.ref T) "__getattribute__" = some (some (.builtin "type.__getattribute__"))) (v : PySem.W.findCls K (.ref T) (.type "type") "__init__" = some (.val (.builtin b.initId))) : TxB b K mg x :=
  ⟨T, PySem.W.mg_of X G a, r, g, v⟩
section
variable {C : Ct} {y : S} {ts : TA} {e : En}
theorem wS_raiseB {b : BaseI} {K : Fg} {Cc : Addr} (hK : K = C.K) (oc : OexB b C.K Cc) (no : PySem.W.findIn C.K (.ref Cc) "found" = some none) (w : wZ C ts y fun zs y1 => ∃ z, zs = [z] ∧ C.ex ⟨.ref Cc, z⟩ y1) : wS C (tRaiseB b K Cc C.W ts) y e := by
  subst hK
  intro F σ H E st wd k
  refine w F σ H _ wd fun vs H1 zs y1 w1 g1 s1 r1 ⟨z, ez, x⟩ => ?_
  subst ez
  cases r1 with | @cons v _ vs _ rv r2 =>
  cases r2
  refine mkO_ofB (Q := fun cls d H' => C.W cls d σ H') oc no fun d hd => ?_
  have gr := grow_upd (o := .xd [(("found" : Str), v)]) hd
  exact w1.xk σ y1 _ ⟨.ref Cc, z⟩ (.ref Cc) (some d) (w1.grow gr).toWd0 (go_grow gr) ⟨rfl, d, v, rfl, by rw [rv.kz.1]; exact upd_same, w1.new hd, w1.newH0 hd, by rw [rv.kz.2]; exact rv.go (go_grow (F := F) (σ := σ) (y := y1) gr)⟩ x
end
def beK : BaseI := ⟨"LookupError", "LookupError.__new__", "KeyError", "KeyError.__init__", [.type "KeyError", .type "LookupError", .type "Exception", .type "BaseException", .type "object"]⟩
theorem beK_ok : BaseF beK := ⟨UxEx.newL, UxEx.iniK, ⟨by decide +kernel, by decide +kernel, by decide +kernel, by decide +kernel⟩, fun self => by kernel_rfl, by decide +kernel, rfl⟩
end Ux

set_option maxRecDepth 100000
set_option maxHeartbeats 4000000
/-! objects with fields that change: defs that read and change what they are handed, hand out new things, may raise -/
namespace Ux
open PySem PySem.Spec PyProof.Rows L2 Tq
abbrev AC := List (Addr × Cell)
def Same (m m' : AC) : Prop := m'.map (·.1) = m.map (·.1) ∧ ∀ e ∈ m', e.2.isRo = false
/-- the things m change (to m'), the things r are read alone, the things nw are new -/
def gSp {ι : Type} (K : Fg) (n : Nat) (pre : ι → AC → List Cl → List Z → Prop) (post : ι → AC → List Cl → List Z → Z → AC → AC → Prop) (xp : ι → AC → List Cl → List Z → Ex → AC → AC → Prop) : Sp := fun vs H Q E => ∃ (i : ι) (M : Addr → Prop) (m : AC) (r : List Cl) (zs : List Z),
  (∀ a, M a → H a ≠ none) ∧ RwA K M H vs zs ∧ (∀ e ∈ m, M e.1 ∧ CellOk K M H e.1 e.2 ∧ e.2.isRo = false) ∧ (∀ e ∈ r, M e.a ∧ CellOk K M H e.a e.c) ∧ ((toCl false m ++ r).Pairwise fun e e' => e.a ≠ e'.a) ∧ zs.length = n ∧ pre i m r zs ∧
  (∀ z v m' nw H', post i m r zs z m' nw → Same m m' → (∀ e ∈ nw, e.2.isRo = false) → (∀ a o, (∀ e ∈ m, e.1 ≠ a) → H a = some o → H' a = some o) → (∀ e ∈ nw, H e.1 = none) → (nw.Pairwise fun e e' => e.1 ≠ e'.1) →
    (∀ e ∈ m' ++ nw, CellOk K (fun a => M a ∨ ∃ e ∈ nw, e.1 = a) H' e.1 e.2) → Rw K (fun a => M a ∨ ∃ e ∈ nw, e.1 = a) H' v z → Q v H') ∧
  (∀ ex a v m' nw H', xp i m r zs ex m' nw → Same m m' → (∀ e ∈ nw, e.2.isRo = false) → (∀ a o, (∀ e ∈ m, e.1 ≠ a) → H a = some o → H' a = some o) → (∀ e ∈ nw, H e.1 = none) → (nw.Pairwise fun e e' => e.1 ≠ e'.1) →
    (∀ e ∈ m' ++ nw, CellOk K (fun a => M a ∨ ∃ e ∈ nw, e.1 = a) H' e.1 e.2) → H a = none → ¬ (M a ∨ ∃ e ∈ nw, e.1 = a) → H' a = some (.xd [(keyZ ex.found, v)]) → Rw K (fun a => M a ∨ ∃ e ∈ nw, e.1 = a) H' v (valZ ex.found) → E ex.cls (some a) H')
section
variable {ι : Type} {K : Fg} {n : Nat} {pre : ι → AC → List Cl → List Z → Prop} {post : ι → AC → List Cl → List Z → Z → AC → AC → Prop} {xp : ι → AC → List Cl → List Z → Ex → AC → AC → Prop}
theorem gSp_len {ps : List Str} (h : ps.length = n) : ∀ vs H Q E, gSp K n pre post xp vs H Q E → vs.length = ps.length := by
  rintro vs H Q E ⟨i, M, m, r, zs, _, ra, _, _, _, l, _⟩
  rw [ra.len, l, h]
/-- the end of a def's body -/
def gEnd (q : Z → AC → AC → Prop) (m : AC) (z : Z) (y : S) : Prop := ∃ m' nw, q z m' nw ∧ Same m m' ∧ (∀ e ∈ nw, e.2.isRo = false) ∧ toCl false m' ⊆ y.m ∧ (toCl true nw).Sublist y.m
theorem g_body {N : List Str} {t : TS} {vs : List V} {H : Hp} {Q : VK} {E : XK} (h : gSp K n pre post xp vs H Q E)
    (b : ∀ i m r zs, zs.length = n → ((toCl false m ++ roM r).Pairwise fun e e' => e.a ≠ e'.a) → (∀ e ∈ m, e.2.isRo = false) → pre i m r zs → ∀ e : En, (∀ y, gEnd (post i m r zs) m (.d .none) y → e.nx y) → (∀ z y, gEnd (post i m r zs) m z y → e.rt z y) →
      wS { K := K, W := fun cls d _ H' => E cls d H', ex := fun ex y => ∃ m' nw, xp i m r zs ex m' nw ∧ Same m m' ∧ (∀ e ∈ nw, e.2.isRo = false) ∧ toCl false m' ⊆ y.m ∧ (toCl true nw).Sublist y.m } t ⟨l0 N zs, toCl false m ++ roM r⟩ e) :
    t { nx := fun _ G => Q .non G, rt := Q } (start N vs) H := by
  obtain ⟨i, M, m, r, zs, al, rr, cs, cr, pw, hl, hp, k1, k2⟩ := h
  have roMem : ∀ {l : List Cl} {e : Cl}, e ∈ roM l → ∃ e' ∈ l, e = ⟨e'.a, false, e'.c.toRo⟩ := fun {l e} he => by
    obtain ⟨e', q1, q2⟩ := List.mem_map.mp he
    exact ⟨e', q1, q2.symm⟩
  have hM : ∀ {a : Addr} {σ : St} {l : List (Option Z)}, Mv ⟨H, fun a => ∃ e ∈ m, e.1 = a, M, true⟩ σ ⟨l, toCl false m ++ roM r⟩ a → M a := fun {a σ l} z => z.elim (fun z => z) fun ⟨e, q1, q2⟩ => by
    rcases List.mem_append.mp q1 with q1 | q1
    · obtain ⟨e', q3, rfl⟩ := List.mem_map.mp q1
      exact q2 ▸ (cs e' q3).1
    · obtain ⟨e', q3, rfl⟩ := roMem q1
      exact q2 ▸ (cr e' q3).1
  have gM : GoH M H (Mv ⟨H, fun a => ∃ e ∈ m, e.1 = a, M, true⟩ (start N vs) ⟨l0 N zs, toCl false m ++ roM r⟩) H := fun a o na e => ⟨fun z => na (hM z), e⟩
  have pw' : (toCl false m ++ roM r).Pairwise fun e e' => e.a ≠ e'.a := by
    rw [List.pairwise_append] at pw ⊢
    refine ⟨pw.1, ?_, fun e he e' he' => ?_⟩
    · unfold roM; rw [List.pairwise_map]; exact pw.2.1
    · obtain ⟨e2, q3, rfl⟩ := roMem he'
      exact pw.2.2 e he e2 q3
  have gW : ∀ {σ' : St} {y' : S} {H' : Hp} {nw : AC}, (toCl true nw).Sublist y'.m → GoH (Mv ⟨H, fun a => ∃ e ∈ m, e.1 = a, M, true⟩ σ' y') H' (fun a => M a ∨ ∃ e ∈ nw, e.1 = a) H' := fun {σ' y' H' nw} sub a o n e =>
    ⟨fun z => n (z.elim .inl fun ⟨e', h1, h2⟩ => .inr ⟨_, sub.subset (List.mem_map.mpr ⟨e', h1, rfl⟩), h2⟩), e⟩
  have fin : ∀ {σ' : St} {y' : S} {H' : Hp} {m' nw : AC}, Wd0 K ⟨H, fun a => ∃ e ∈ m, e.1 = a, M, true⟩ σ' y' H' → (∀ e ∈ nw, e.2.isRo = false) → toCl false m' ⊆ y'.m → (toCl true nw).Sublist y'.m →
      (∀ a o, (∀ e ∈ m, e.1 ≠ a) → H a = some o → H' a = some o) ∧ (∀ e ∈ nw, H e.1 = none) ∧ (nw.Pairwise fun e e' => e.1 ≠ e'.1) ∧ ∀ e ∈ m' ++ nw, CellOk K (fun a => M a ∨ ∃ e ∈ nw, e.1 = a) H' e.1 e.2 := fun {σ' y' H' m' nw} w q0 sm sn => by
    have mem : ∀ e ∈ nw, (⟨e.1, true, e.2⟩ : Cl) ∈ y'.m := fun e he => sn.subset (List.mem_map.mpr ⟨e, he, rfl⟩)
    refine ⟨fun a o n e => w.keep a o (fun ⟨e', h1, h2⟩ => n e' h1 h2) e, fun e he => ?_, ?_, fun e he => ?_⟩
    · rcases w.frsh _ (mem e he) (q0 e he) with q | q
      · exact absurd q (w.nb rfl _ (mem e he) rfl)
      · exact q
    · have := w.dist.sublist sn
      unfold toCl at this
      rw [List.pairwise_map] at this
      exact this
    · rcases List.mem_append.mp he with he | he
      · exact (w.cell _ (sm (List.mem_map.mpr ⟨e, he, rfl⟩))).go (gW sn) fun _ q => q
      · exact (w.cell _ (mem e he)).go (gW sn) fun _ q => q
  refine b i m r zs hl pw' (fun e he => (cs e he).2.2) hp { nx := fun y => gEnd (post i m r zs) m (.d .none) y, rt := fun z y => gEnd (post i m r zs) m z y } (fun _ q => q) (fun _ _ q => q) ⟨H, fun a => ∃ e ∈ m, e.1 = a, M, true⟩ (start N vs) H _ rfl
    ⟨⟨fun a o _ e => e, al, al, l0_len rr, fun i u e => ?_, fun e he => ?_, pw', fun e he hr => ?_, fun a ⟨e, q1, q2⟩ => q2 ▸ (cs e q1).1, fun _ e he ho => ?_⟩, fun σ' y' H' ex cls d w g x q => ?_⟩
    ⟨fun σ' H' y' w g q => ?_, fun σ' u H' z' y' w g rz q => ?_, fun _ _ _ _ _ q => q.elim, fun _ _ _ _ _ q => q.elim⟩
  · obtain ⟨x, h1, h2⟩ := l0_slot rr e
    exact ⟨x, h1, h2.go gM⟩
  · rcases List.mem_append.mp he with he | he
    · obtain ⟨e', q3, rfl⟩ := List.mem_map.mp he
      exact (cs e' q3).2.1.go gM fun _ q => q
    · obtain ⟨e', q3, rfl⟩ := roMem he
      exact toRo_ok ((cr e' q3).2.go gM fun _ q => q)
  · rcases List.mem_append.mp he with he | he
    · obtain ⟨e', q3, rfl⟩ := List.mem_map.mp he
      exact .inl ⟨e', q3, rfl⟩
    · obtain ⟨e', q3, rfl⟩ := roMem he
      rw [toRo_ro] at hr; cases hr
  · rcases List.mem_append.mp he with he | he
    · obtain ⟨e', q3, rfl⟩ := List.mem_map.mp he
      cases ho
    · obtain ⟨e', q3, rfl⟩ := roMem he
      cases ho
  · obtain ⟨m', nw, q1, q2, q3, q4, q5⟩ := q
    obtain ⟨rfl, a, v, rfl, x1, x2, x3, x4⟩ := x
    obtain ⟨f1, f2, f3, f4⟩ := fin w q3 q4 q5
    exact k2 ex a v m' nw H' q1 q2 q3 f1 f2 f3 f4 x3 ((gW q5) a _ x2 x1).1 x1 (x4.go (gW q5))
  · obtain ⟨m', nw, q1, q2, q3, q4, q5⟩ := q
    obtain ⟨f1, f2, f3, f4⟩ := fin w.toWd0 q3 q4 q5
    exact k1 (.d .none) .non m' nw H' q1 q2 q3 f1 f2 f3 f4 (.d .non)
  · obtain ⟨m', nw, q1, q2, q3, q4, q5⟩ := q
    obtain ⟨f1, f2, f3, f4⟩ := fin w.toWd0 q3 q4 q5
    exact k1 z' u m' nw H' q1 q2 q3 f1 f2 f3 f4 (rz.w.go (gW q5))
end
section
variable {C : Ct} {y : S} {ts : TA} {te : TE} {Q : Z → S → Prop} {ι : Type} {n : Nat} {pre : ι → AC → List Cl → List Z → Prop} {post : ι → AC → List Cl → List Z → Z → AC → AC → Prop} {xp : ι → AC → List Cl → List Z → Ex → AC → AC → Prop}
theorem own_ao2 {m m' : List Cl} (h : ao m' = ao m) {e : Cl} (he : e ∈ m') : ∃ e0 ∈ m, e0.a = e.a ∧ e0.own = e.own ∧ e0.c.isRo = e.c.isRo := by
  have : (e.a, e.own, e.c.isRo) ∈ ao m := by rw [← h]; exact List.mem_map.mpr ⟨e, he, rfl⟩
  obtain ⟨e0, h1, h2⟩ := List.mem_map.mp this
  cases e0; cases e
  simp only [Prod.mk.injEq] at h2
  exact ⟨_, h1, h2.1, h2.2.1, h2.2.2⟩
/-- the store behind a call: the things m are m' now, nw are new -/
theorem g_store {y1 : S} {F : Fr} {σ : St} {H1 H' : Hp} {A B : List Cl} {b : Bool} {m m' nw : AC} (w1 : Wd C F σ y1 H1) (em : y1.m = A ++ toCl b m ++ B) (ro : ∀ e ∈ m, e.2.isRo = false) (sm : Same m m') (rn : ∀ e ∈ nw, e.2.isRo = false)
    (kp : ∀ a o, (∀ e ∈ m, e.1 ≠ a) → H1 a = some o → H' a = some o) (fr : ∀ e ∈ nw, H1 e.1 = none) (pw : nw.Pairwise fun e e' => e.1 ≠ e'.1) (cs : ∀ e ∈ m' ++ nw, CellOk C.K (fun a => Mv F σ y1 a ∨ ∃ e ∈ nw, e.1 = a) H' e.1 e.2) :
    Wd C F σ ⟨y1.l, A ++ toCl b m' ++ B ++ toCl true nw⟩ H' ∧ Go F σ y1 H1 σ ⟨y1.l, A ++ toCl b m' ++ B ++ toCl true nw⟩ H' ∧ Sh y1 ⟨y1.l, A ++ toCl b m' ++ B ++ toCl true nw⟩ := by
  obtain ⟨ha, ro'⟩ := sm
  have mem : ∀ e ∈ m, (⟨e.1, b, e.2⟩ : Cl) ∈ y1.m := fun e he => by
    rw [em]; exact List.mem_append.mpr (.inl (List.mem_append.mpr (.inr (List.mem_map.mpr ⟨e, he, rfl⟩))))
  have dist := w1.dist
  rw [em] at dist
  have aeq : (A ++ toCl b m' ++ B).map (·.a) = y1.m.map (·.a) := by
    rw [em]
    simp only [List.map_append, toCl, List.map_map]
    congr 2
  have aoeq : ao (A ++ toCl b m' ++ B) = ao y1.m := by
    rw [em]
    unfold ao
    simp only [List.map_append]
    congr 2
    unfold toCl
    rw [List.map_map, List.map_map]
    have e1 : ∀ l : List (Addr × Cell), (∀ e ∈ l, e.2.isRo = false) → l.map ((fun e : Cl => (e.a, e.own, e.c.isRo)) ∘ fun e => (⟨e.1, b, e.2⟩ : Cl)) = (l.map (·.1)).map fun a => (a, b, false) := fun l hl => by
      rw [List.map_map]
      exact List.map_congr_left fun e he => by show (e.1, b, e.2.isRo) = (e.1, b, false); rw [hl e he]
    rw [e1 m' ro', e1 m ro, ha]
  have inm : ∀ a, (∃ e ∈ m, e.1 = a) ↔ ∃ e ∈ m', e.1 = a := fun a => by
    have e1 : ∀ l : List (Addr × Cell), (∃ e ∈ l, e.1 = a) ↔ a ∈ l.map (·.1) := fun l => List.mem_map.symm
    rw [e1, e1, ha]
  have old : ∀ e ∈ A ++ toCl b m' ++ B, ∃ e0 ∈ y1.m, e0.a = e.a ∧ (e.own = true → e0.own = true) ∧ (e.c.isRo = false → e0.c.isRo = false) := fun e he => by
    obtain ⟨e', h1, h2, h3, h4⟩ := own_ao2 aoeq he
    exact ⟨e', h1, h2, fun z => h3.trans z, fun z => h4.trans z⟩
  have lv : ∀ a, Dom y1.m a → H' a ≠ none := fun a ⟨e, h1, h2⟩ z => by
    by_cases ha : ∃ e ∈ m, e.1 = a
    · obtain ⟨e', q1, q2⟩ := (inm a).mp ha
      exact (cs e' (List.mem_append.mpr (.inl q1))).live (q2 ▸ z)
    · cases r : H1 a with
      | none => exact (w1.cell e h1).live (h2 ▸ r)
      | some o => rw [kp a o (fun e he q => ha ⟨e, he, q⟩) r] at z; cases z
  have dAB : (A ++ toCl b m' ++ B).Pairwise fun e e' => e.a ≠ e'.a := by
    have p1 : ∀ l : List Cl, (l.Pairwise fun e e' => e.a ≠ e'.a) ↔ (l.map (·.a)).Pairwise (· ≠ ·) := fun l => by rw [List.pairwise_map]
    rw [p1, aeq, ← p1]
    exact w1.dist
  have key := w1.store (m := A ++ toCl b m' ++ B ++ toCl true nw) (H' := H') (fun a o n e => kp a o (fun e' he' z => n ⟨_, mem e' he', z, ro e' he'⟩) e) lv
    (fun e he => by
      rcases List.mem_append.mp he with he | he
      · exact .inl (old e he)
      · obtain ⟨e', h1, rfl⟩ := List.mem_map.mp he
        exact .inr (fr e' h1))
    (by
      rw [List.pairwise_append]
      refine ⟨dAB, by unfold toCl; rw [List.pairwise_map]; exact pw, fun e he e2 he2 z => ?_⟩
      obtain ⟨e', h1', rfl⟩ := List.mem_map.mp he2
      obtain ⟨e0, q1, q2, _⟩ := old e he
      exact (w1.cell e0 q1).live (by rw [q2, z]; exact fr e' h1'))
    (fun g e he => by
      have sub : ∀ a, (Mv F σ y1 a ∨ ∃ e ∈ nw, e.1 = a) → Mv F σ ⟨y1.l, A ++ toCl b m' ++ B ++ toCl true nw⟩ a := fun a z => by
        rcases z with (z | ⟨e2, h2, h3⟩) | ⟨e2, h2, h3⟩
        · exact .inl z
        · have : a ∈ (A ++ toCl b m' ++ B).map (·.a) := by rw [aeq]; exact List.mem_map.mpr ⟨e2, h2, h3⟩
          obtain ⟨e4, h4, h5⟩ := List.mem_map.mp this
          exact .inr ⟨e4, List.mem_append.mpr (.inl h4), h5⟩
        · exact .inr ⟨_, List.mem_append.mpr (.inr (List.mem_map.mpr ⟨e2, h2, rfl⟩)), h3⟩
      have sup : ∀ a, Mv F σ ⟨y1.l, A ++ toCl b m' ++ B ++ toCl true nw⟩ a → Mv F σ y1 a ∨ ∃ e ∈ nw, e.1 = a := fun a z => by
        rcases z with z | ⟨e2, h2, h3⟩
        · exact .inl (.inl z)
        · rcases List.mem_append.mp h2 with h2 | h2
          · obtain ⟨e0, q1, q2, _⟩ := old e2 h2
            exact .inl (.inr ⟨e0, q1, q2.trans h3⟩)
          · obtain ⟨e', h1', rfl⟩ := List.mem_map.mp h2
            exact .inr ⟨e', h1', h3⟩
      by_cases hq : ∃ e' ∈ m' ++ nw, e'.1 = e.a ∧ e'.2 = e.c
      · obtain ⟨e', h1', h2', h3'⟩ := hq
        rw [← h2', ← h3']
        exact (cs e' h1').go (fun a o n e => ⟨fun z => n (sup a z), e⟩) fun _ r => r
      · have hAB : e ∈ A ∨ e ∈ B := by
          rcases List.mem_append.mp he with he | he
          · rcases List.mem_append.mp he with he | he
            · rcases List.mem_append.mp he with he | he
              · exact .inl he
              · obtain ⟨e', h1', rfl⟩ := List.mem_map.mp he
                exact absurd ⟨e', List.mem_append.mpr (.inl h1'), rfl, rfl⟩ hq
            · exact .inr he
          · obtain ⟨e', h1', rfl⟩ := List.mem_map.mp he
            exact absurd ⟨e', List.mem_append.mpr (.inr h1'), rfl, rfl⟩ hq
        have hy : e ∈ y1.m := by
          rw [em]
          rcases hAB with h | h
          · exact List.mem_append.mpr (.inl (List.mem_append.mpr (.inl h)))
          · exact List.mem_append.mpr (.inr h)
        refine (w1.cell e hy).go g fun o r => kp _ _ (fun e' he' z => ?_) r
        have m1 : (⟨e'.1, b, e'.2⟩ : Cl) ∈ toCl b m := List.mem_map.mpr ⟨e', he', rfl⟩
        rcases hAB with h | h
        · exact (List.pairwise_append.mp (List.pairwise_append.mp dist).1).2.2 e h _ m1 z.symm
        · exact (List.pairwise_append.mp dist).2.2 _ (List.mem_append.mpr (.inr m1)) e h z)
  refine ⟨key.1, key.2, rfl, toCl true nw, ?_⟩
  show ao (A ++ toCl b m' ++ B ++ toCl true nw) = _
  rw [show ao (A ++ toCl b m' ++ B ++ toCl true nw) = ao (A ++ toCl b m' ++ B) ++ ao (toCl true nw) from List.map_append, aoeq]
/-- how a call stands to the store at y1 -/
def gCall (C : Ct) (n : Nat) (pre : ι → AC → List Cl → List Z → Prop) (post : ι → AC → List Cl → List Z → Z → AC → AC → Prop) (xp : ι → AC → List Cl → List Z → Ex → AC → AC → Prop) (zs : List Z) (y1 : S) (Q : Z → S → Prop) (X : Ex → S → Prop) : Prop :=
  ∃ i A m B b, y1.m = A ++ toCl b m ++ B ∧ (∀ e ∈ m, e.2.isRo = false) ∧ zs.length = n ∧ pre i m (A ++ B) zs ∧
    (∀ z m' nw, post i m (A ++ B) zs z m' nw → Same m m' → (∀ e ∈ nw, e.2.isRo = false) → Q z ⟨y1.l, A ++ toCl b m' ++ B ++ toCl true nw⟩) ∧
    ∀ ex m' nw, xp i m (A ++ B) zs ex m' nw → Same m m' → (∀ e ∈ nw, e.2.isRo = false) → X ex ⟨y1.l, A ++ toCl b m' ++ B ++ toCl true nw⟩
theorem g_nw {K : Fg} {M M' : Addr → Prop} {H : Hp} {v : V} {z : Z} (h : ∀ a, M' a → M a) (r : Rw K M H v z) : Rw K M' H v z := r.go fun a o n e => ⟨fun z => n (h a z), e⟩
theorem g_run {F : Fr} {σ : St} {y1 : S} {H1 : Hp} {K : VK} {E : XK} {vs : List V} {zs : List Z} (w1 : Wd C F σ y1 H1) (r1 : RwA C.K (Mv F σ y1) H1 vs zs)
    (k : ∀ v H' z y', Wd C F σ y' H' → Go F σ y1 H1 σ y' H' → Sh y1 y' → Rz C F σ y' H' v z → Q z y' → K v H') {X : Ex → S → Prop}
    (x : ∀ ex a H' y', Wd0 C.K F σ y' H' → Go F σ y1 H1 σ y' H' → XRep C.K F σ y' H' ex ex.cls (some a) → X ex y' → E ex.cls (some a) H') (w : gCall C n pre post xp zs y1 Q X) :
    gSp C.K n pre post xp vs H1 K E := by
  obtain ⟨i, A, m, B, b, em, ro, hn, hp, q, qx⟩ := w
  have mem : ∀ e ∈ m, (⟨e.1, b, e.2⟩ : Cl) ∈ y1.m := fun e he => by
    rw [em]; exact List.mem_append.mpr (.inl (List.mem_append.mpr (.inr (List.mem_map.mpr ⟨e, he, rfl⟩))))
  have memR : ∀ e ∈ A ++ B, e ∈ y1.m := fun e he => by
    rw [em]
    rcases List.mem_append.mp he with h | h
    · exact List.mem_append.mpr (.inl (List.mem_append.mpr (.inl h)))
    · exact List.mem_append.mpr (.inr h)
  have dist := w1.dist
  rw [em] at dist
  have pw : (toCl false m ++ (A ++ B)).Pairwise fun e e' => e.a ≠ e'.a := by
    have p1 : ∀ l : List Cl, (l.Pairwise fun e e' => e.a ≠ e'.a) ↔ (l.map (·.a)).Pairwise (· ≠ ·) := fun l => by rw [List.pairwise_map]
    have t1 : (toCl false m).map (·.a) = (toCl b m).map (·.a) := by unfold toCl; rw [List.map_map, List.map_map]; rfl
    rw [p1, List.map_append, t1, ← List.map_append, ← p1]
    refine (List.Perm.pairwise_iff (fun {x y} h => Ne.symm h) ?_).mp dist
    rw [List.append_assoc]; exact List.perm_append_comm_assoc A (toCl b m) B
  have supW : ∀ {m' nw : AC}, Same m m' → ∀ a, Mv F σ ⟨y1.l, A ++ toCl b m' ++ B ++ toCl true nw⟩ a → Mv F σ y1 a ∨ ∃ e ∈ nw, e.1 = a := fun {m' nw} sm a z => by
    rcases z with z | ⟨e2, h2, h3⟩
    · exact .inl (.inl z)
    · rcases List.mem_append.mp h2 with h2 | h2
      · have : a ∈ (A ++ toCl b m' ++ B).map (·.a) := List.mem_map.mpr ⟨e2, h2, h3⟩
        have aeq : (A ++ toCl b m' ++ B).map (·.a) = y1.m.map (·.a) := by
          rw [em]
          simp only [List.map_append, toCl, List.map_map]
          congr 2
          exact sm.1
        rw [aeq] at this
        obtain ⟨e4, h4, h5⟩ := List.mem_map.mp this
        exact .inl (.inr ⟨e4, h4, h5⟩)
      · obtain ⟨e', h1', rfl⟩ := List.mem_map.mp h2
        exact .inr ⟨e', h1', h3⟩
  refine ⟨i, Mv F σ y1, m, A ++ B, zs, fun a m e => w1.new e m, r1, fun e he => ⟨.inr ⟨_, mem e he, rfl⟩, w1.cell _ (mem e he), ro e he⟩, fun e he => ⟨.inr ⟨e, memR e he, rfl⟩, w1.cell e (memR e he)⟩, pw, hn, hp,
    fun z v m' nw H' hq sm rn kp fr pw' cs rv => ?_, fun ex a v m' nw H' hq sm rn kp fr pw' cs ha na hx rv => ?_⟩
  · obtain ⟨w2, g2, s2⟩ := g_store w1 em ro sm rn kp fr pw' cs
    exact k v H' z _ w2 g2 s2 (Rw.z (g_nw (supW sm) rv)) (q z m' nw hq sm rn)
  · obtain ⟨w2, g2, s2⟩ := g_store w1 em ro sm rn kp fr pw' cs
    exact x ex a H' _ w2.toWd0 g2 ⟨rfl, a, v, rfl, hx, fun z => na (supW sm a z), w1.newH0 ha, g_nw (supW sm) rv⟩ (qx ex m' nw hq sm rn)
theorem wE_g (w : wZ C ts y fun zs y1 => gCall C n pre post xp zs y1 Q C.ex) : wE C (tCallS (gSp C.K n pre post xp) (WE C.W) ts) y Q := by
  intro F σ H K wd k
  refine w F σ H _ wd fun vs H1 zs y1 w1 g1 s1 r1 hc => ?_
  exact g_run w1 r1 (fun v H' z y' w2 g2 s2 r q => k v H' z y' w2 (g1.trans g2) (s1.trans s2) r q) (fun ex a H' y' w2 g2 xr hx => w1.xk σ y' H' ex ex.cls (some a) w2 g2 xr hx) hc
theorem wE_g0 {E : XK} (w : wZ C ts y fun zs y1 => gCall C n pre post xp zs y1 Q fun _ _ => False) : wE C (tCall (gSp C.K n pre post xp) [] E ts) y Q := by
  intro F σ H K wd k
  refine w F σ H _ wd fun vs H1 zs y1 w1 g1 s1 r1 hc => ?_
  show gSp C.K n pre post xp (vs ++ []) H1 K E
  rw [List.append_nil]
  exact g_run w1 r1 (fun v H' z y' w2 g2 s2 r q => k v H' z y' w2 (g1.trans g2) (s1.trans s2) r q) (fun _ _ _ _ _ _ _ hx => hx.elim) hc
end
/-! ### fields -/
def insC : Cell → Option (Addr × List Str × List Z)
  | .ins D ks zs => some (D, ks, zs)
  | .ro c => insC c
  | _ => none
theorem insC_ok {K : Fg} {M : Addr → Prop} {H : Hp} {a D : Addr} {ks : List Str} {zs : List Z} : ∀ {c : Cell}, insC c = some (D, ks, zs) → CellOk K M H a c → ∃ dx xs, H a = some (.ins D dx (ks.zip xs)) ∧ ks.length = xs.length ∧ RwA K M H xs zs
  | .ins _ _ _, e, h => by cases e; exact h
  | .ro c, e, h => insC_ok (c := c) e h
  | .lst _, e, _ => by cases e
  | .dic _, e, _ => by cases e
  | .pu _, e, _ => by cases e
def idxS (f : Str) : List Str → Option Nat
  | [] => none
  | g :: ks => if g = f then some 0 else (idxS f ks).map (· + 1)
theorem idxS_look {f : Str} : ∀ {ks : List Str} {xs : List V} {i : Nat} {v : V}, idxS f ks = some i → xs[i]? = some v → (ks.zip xs).lookup f = some v
  | [], _, _, _, h, _ => by cases h
  | _ :: _, [], i, _, _, e => by simp at e
  | g :: ks, x :: xs, i, v, h, e => by
    unfold idxS at h
    by_cases q : g = f
    · rw [if_pos q] at h
      cases h
      have e : x = v := by simpa using e
      have hb : (f == g) = true := beq_iff_eq.mpr q.symm
      show List.lookup f ((g, x) :: ks.zip xs) = _
      simp only [List.lookup, hb, e]
    · rw [if_neg q] at h
      cases hi : idxS f ks with
      | none => rw [hi] at h; cases h
      | some j =>
        rw [hi] at h
        cases h
        have hb : (f == g) = false := beq_eq_false_iff_ne.mpr (Ne.symm q)
        show List.lookup f ((g, x) :: ks.zip xs) = _
        simp only [List.lookup, hb]
        exact idxS_look hi (by simpa using e)
theorem idxS_none {f : Str} : ∀ {ks : List Str} {xs : List V}, idxS f ks = none → (ks.zip xs).lookup f = none
  | [], _, _ => rfl
  | _ :: _, [], _ => rfl
  | g :: ks, x :: xs, h => by
    unfold idxS at h
    by_cases q : g = f
    · rw [if_pos q] at h; cases h
    · rw [if_neg q] at h
      have hb : (f == g) = false := beq_eq_false_iff_ne.mpr (Ne.symm q)
      show List.lookup f ((g, x) :: ks.zip xs) = _
      simp only [List.lookup, hb]
      refine idxS_none ?_
      cases hi : idxS f ks with
      | none => rfl
      | some j => rw [hi] at h; cases h
def putI {α : Type} (f : Str) (u : α) (ks : List Str) (zs : List α) : List Str × List α := match idxS f ks with
  | some i => (ks, zs.set i u)
  | none => (ks ++ [f], zs ++ [u])
theorem putF_zip {f : Str} {v : V} : ∀ {ks : List Str} {xs : List V}, ks.length = xs.length → putF f v (ks.zip xs) = (putI f v ks xs).1.zip (putI f v ks xs).2 ∧ (putI f v ks xs).1.length = (putI f v ks xs).2.length
  | [], [], _ => ⟨rfl, rfl⟩
  | [], _ :: _, h => by cases h
  | _ :: _, [], h => by cases h
  | g :: ks, x :: xs, h => by
    have h' : ks.length = xs.length := by simpa using h
    obtain ⟨i1, i2⟩ := putF_zip (f := f) (v := v) h'
    by_cases q : g = f
    · have e : putI f v (g :: ks) (x :: xs) = (g :: ks, v :: xs) := by unfold putI idxS; rw [if_pos q]; rfl
      rw [e]
      refine ⟨?_, by simpa using h'⟩
      show putF f v ((g, x) :: ks.zip xs) = _
      unfold putF
      rw [if_pos q]
      rfl
    · have e : putI f v (g :: ks) (x :: xs) = (g :: (putI f v ks xs).1, x :: (putI f v ks xs).2) := by
        unfold putI
        rw [show idxS f (g :: ks) = (idxS f ks).map (· + 1) from by rw [idxS, if_neg q]]
        cases idxS f ks <;> rfl
      rw [e]
      refine ⟨?_, by simpa using i2⟩
      show putF f v ((g, x) :: ks.zip xs) = _
      unfold putF
      rw [if_neg q, i1]
      rfl
theorem rwA_putI {K : Fg} {M : Addr → Prop} {H : Hp} {f : Str} {v : V} {u : Z} {ks : List Str} {xs : List V} {zs : List Z} (r : Rw K M H v u) (rs : RwA K M H xs zs) : (putI f v ks xs).1 = (putI f u ks zs).1 ∧ RwA K M H (putI f v ks xs).2 (putI f u ks zs).2 := by
  unfold putI
  cases idxS f ks with
  | some i => exact ⟨rfl, rs.set i r⟩
  | none => exact ⟨rfl, rs.app (.cons r .nil)⟩
/-- a class whose instances are plain, and have these fields alone by their dict -/
structure AtC (K : Fg) (D : Addr) (fs : List Str) : Prop where
  cls : Cls K D
  no : ∀ f ∈ fs, NoAttr K D f
theorem AtC.get {K : Fg} {D : Addr} {fs : List Str} {f : Str} (h : AtC K D fs) (hf : f ∈ fs) : Cls K D ∧ NoAttr K D f := ⟨h.cls, h.no f hf⟩
section
variable {C : Ct} {y : S} {te tv : TE} {Q : Z → S → Prop} {f : Str}
def FldP (C : Ct) (f : Str) (Q : Z → S → Prop) (z : Z) (y1 : S) : Prop := ∃ (a : Addr) (j : Nat) (b : Bool) (c : Cell) (D : Addr) (ks : List Str) (zs : List Z) (i : Nat) (u : Z), z = .lab a ∧ y1.m[j]? = some ⟨a, b, c⟩ ∧ insC c = some (D, ks, zs) ∧ (Cls C.K D ∧ NoAttr C.K D f) ∧ idxS f ks = some i ∧ zs[i]? = some u ∧ Q u y1
theorem wE_fld (w : wE C te y (FldP C f Q)) : wE C (tFld C.K te f) y Q := by
  intro F σ H K wd k
  refine w F σ H _ wd fun v H1 z y1 w1 g1 s1 r1 hw => ?_
  obtain ⟨a, j, b, c, D, ks, zs, i, u, ez, hj, ic, ⟨hc, hn⟩, hi, hu, q⟩ := hw
  subst ez
  cases (r1 : Rw C.K (Mv F σ y1) H1 v (.lab a))
  obtain ⟨dx, xs, h1, h2, h3⟩ := insC_ok ic (w1.cell _ (List.mem_of_getElem? hj))
  obtain ⟨x, hx, rx⟩ := h3.get hu
  exact ⟨a, D, dx, _, x, rfl, h1, hc, hn, idxS_look hi hx, k x H1 u y1 w1 g1 s1 rx.z q⟩
def SetP (C : Ct) (f : Str) (u : Z) (R : S → Prop) (z : Z) (y2 : S) : Prop := ∃ (a : Addr) (j : Nat) (b : Bool) (D : Addr) (ks : List Str) (zs : List Z) (ks' : List Str) (zs' : List Z), z = .lab a ∧ y2.m[j]? = some ⟨a, b, .ins D ks zs⟩ ∧ (Cls C.K D ∧ NoAttr C.K D f) ∧ ks.length < 1000 ∧ putI f u ks zs = (ks', zs') ∧ R ⟨y2.l, y2.m.set j ⟨a, b, .ins D ks' zs'⟩⟩
theorem wS_fld {e : En} (w : wE C tv y fun u y1 => wE C te y1 (SetP C f u e.nx)) :
    wS C (sFld C.K te tv f) y e := by
  intro F σ H E st wd k
  refine w F σ H _ wd fun v H1 u y1 w1 g1 s1 r1 w' => ?_
  refine w' F σ H1 _ w1 fun v2 H2 z y2 w2 g2 s2 r2 ⟨a, j, b, D, ks, zs, ks', zs', ez, hj, ⟨hc, hn⟩, hl, hp, q⟩ => ?_
  subst ez
  cases (r2 : Rw C.K (Mv F σ y2) H2 v2 (.lab a))
  obtain ⟨dx, xs, h1, h2, h3⟩ := (w2.cell _ (List.mem_of_getElem? hj) : CellOk C.K (Mv F σ y2) H2 a (.ins D ks zs))
  obtain ⟨p1, p2⟩ := putF_zip (f := f) (v := v) h2
  have ru : Rw C.K (Mv F σ y2) H2 v u := (r1.go g2).w
  refine ⟨a, D, dx, _, rfl, h1, hc, hn, by rw [List.length_zip]; omega, ?_⟩
  obtain ⟨w3, g3, s3⟩ := w2.cmut (H' := upd H2 a (.ins D dx (putF f v (ks.zip xs)))) (c' := .ins D ks' zs') hj rfl rfl (fun b o n e => by rw [upd_ne n]; exact e) fun M _ g => by
    obtain ⟨q1, q2⟩ := rwA_putI (f := f) (ks := ks) (ru.go g) (h3.go g)
    rw [hp] at q1 q2
    refine ⟨dx, (putI f v ks xs).2, ?_, ?_, q2⟩
    · rw [upd_same, p1, q1]
    · show ks'.length = _
      rw [← p2, q1]
  exact k.nx _ _ _ w3 ((g1.trans g2).trans g3) q
end
end Ux

set_option maxRecDepth 100000
set_option maxHeartbeats 4000000
/-! defs with several truths as defaults, called in any way: by places, by names in any order, left out -/
namespace Ux
open PySem PySem.Spec PyProof.Rows L2 Tq
/-- what a parameter is handed: the thing told at a place, a default -/
inductive Sl
  | at (i : Nat)
  | df (j : Nat) (b : Bool)
def Sl.ok (n : Nat) (dbs : List Bool) : Sl → Bool
  | .at i => decide (i < n)
  | .df j b => decide (dbs[j]? = some b)
def permU (sel : List Sl) (us its : List Value) : List Value := sel.map fun
  | .at i => us.getD i .none
  | .df j _ => its.getD j .none
structure Shp where
  m : Nat
  ks : List Str
  sel : List Sl
def dfU (dbs : List Bool) : List Value := dbs.map Value.bool
structure DfM (K : Fg) (mg : Str → Option Value) (x : Str) (st : Stmt) (ps : List Str) (dbs : List Bool) (shs : List Shp) : Prop where
  ex : ∃ (f : Addr) (fd : FuncData), FunD K x x (defArgs st) (defBody st) (defScope st) (dbs.map V.bl) [] f fd ∧ mg x = some (.ref f) ∧
    ∀ sh ∈ shs, sh.sel.all (Sl.ok (sh.m + sh.ks.length) dbs) = true ∧ ∀ (s : Shared) (us ws : List Value), K.In s.heap → us.length = sh.m → ws.length = sh.ks.length → BindsTo s fd ⟨us, sh.ks.zip ws⟩ (ps.zip (permU sh.sel (us ++ ws) (dfU dbs)))
structure CalM (P : Program) (w : World) (K : Fg) (mg : Str → Option Value) (base : Heap) (k : Nat) (x : Str) (ps : List Str) (sp : Sp) (dbs : List Bool) (shs : List Shp) : Prop where
  ex : ∃ (f : Addr) (fd : FuncData), Tq.FnG P w K mg base (L2.CX P w) k f fd ps sp ∧ mg x = some (.ref f) ∧ PySem.W.keepIn K (.ref f) = true ∧
    ∀ sh ∈ shs, sh.sel.all (Sl.ok (sh.m + sh.ks.length) dbs) = true ∧ ∀ (s : Shared) (us ws : List Value), K.In s.heap → us.length = sh.m → ws.length = sh.ks.length → BindsTo s fd ⟨us, sh.ks.zip ws⟩ (ps.zip (permU sh.sel (us ++ ws) (dfU dbs)))
theorem getD_rel {vs : List V} {us : List Value} (r : Vals vs us) (i : Nat) (h : i < vs.length) : RelV (vs.getD i .non) (us.getD i .none) := by
  induction r generalizing i with
  | nil => exact absurd h (by simp)
  | @cons v u vs us rv r ih =>
    cases i with
    | zero => exact rv
    | succ i => exact ih i (by simpa using h)
section
variable {P : Program} {w : World} {K : Fg} {mg : Str → Option Value} {base : Heap} {k : Nat} {x : Str} {ps N : List Str} {sp : Sp} {st : Stmt} {dbs : List Bool} {shs : List Shp}
end
section
variable {C : Ct} {y : S} {te tk : TA} {Q : Z → S → Prop} {n : Nat} {pre : List Z → List D → Prop} {post : List Z → List D → Z → Prop} {xp : List Z → List D → Ex → Prop} {sh : Shp}
theorem rw_at {K : Fg} {M : Addr → Prop} {H : Hp} {vs : List V} {zs : List Z} (r : RwA K M H vs zs) {i : Nat} (h : i < zs.length) : Rw K M H (vs.getD i .non) (zs.getD i (.d .none)) := by
  obtain ⟨v, h1, h2⟩ := r.get (i := i) (z := zs[i]) (by simp [h])
  rw [List.getD_eq_getElem?_getD, List.getD_eq_getElem?_getD, h1]
  simp [h]
  exact h2
end
end Ux

set_option maxRecDepth 100000
set_option maxHeartbeats 4000000
/-! calls of defs of classes: C(..), C.m(..), o.m(..) that may raise; defaults of any plain kind, in any shape of call -/
namespace Ux
open PySem PySem.Spec PyProof.Rows L2 Tq
inductive Dv where
  | n
  | b (x : Bool)
  | i (x : Int)
  | s (x : Str)
def Dv.v : Dv → V
  | .n => .non
  | .b x => .bl x
  | .i x => .int x
  | .s x => .str x
def Dv.d : Dv → D
  | .n => .none
  | .b x => .bool x
  | .i x => .int x
  | .s x => .str x
theorem Dv.rp {K : Fg} {M : Addr → Prop} {H : Hp} (x : Dv) : Rp K M H x.v x.d := by cases x <;> constructor
/-- what a parameter is handed: the thing told at a place, a default -/
inductive Sq
  | at (i : Nat)
  | df (j : Nat)
def Sq.ok (n q : Nat) : Sq → Bool
  | .at i => decide (i < n)
  | .df j => decide (j < q)
def qermU (sel : List Sq) (us its : List Value) : List Value := sel.map fun
  | .at i => us.getD i .none
  | .df j => its.getD j .none
def qermV (dvs : List Dv) (sel : List Sq) (vs : List V) : List V := sel.map fun
  | .at i => vs.getD i .non
  | .df j => (dvs.map Dv.v).getD j .non
def qermZ (dvs : List Dv) (sel : List Sq) (zs : List Z) : List Z := sel.map fun
  | .at i => zs.getD i (.d .none)
  | .df j => ((dvs.map fun x => Z.d x.d)).getD j (.d .none)
/-- m things by place (the object itself, too), the names of the others -/
structure Shq where
  m : Nat
  ks : List Str
  sel : List Sq
def BnQ (K : Fg) (fd : FuncData) (ps : List Str) (dvs : List Dv) (sh : Shq) : Prop := sh.sel.all (Sq.ok (sh.m + sh.ks.length) dvs.length) = true ∧ ∃ its : List Value, Vals (dvs.map Dv.v) its ∧
  ∀ (s : Shared) (us ws : List Value), K.In s.heap → us.length = sh.m → ws.length = sh.ks.length → BindsTo s fd ⟨us, sh.ks.zip ws⟩ (ps.zip (qermU sh.sel (us ++ ws) its))
theorem qerm_rel {n : Nat} {dvs : List Dv} {vs : List V} {us its : List Value} (r : Vals vs us) (hn : vs.length = n) (ri : Vals (dvs.map Dv.v) its) : ∀ sel : List Sq, sel.all (Sq.ok n dvs.length) = true → Vals (qermV dvs sel vs) (qermU sel us its)
  | [], _ => .nil
  | s :: sel, h => by
    rw [List.all_cons, Bool.and_eq_true] at h
    refine .cons ?_ (qerm_rel r hn ri sel h.2)
    cases s with
    | «at» i => exact getD_rel r i (by rw [hn]; exact of_decide_eq_true h.1)
    | df j => exact getD_rel ri j (by rw [List.length_map]; exact of_decide_eq_true h.1)
/-- a def of a class with defaults, as the top has it -/
structure DfQ (K : Fg) (x qual : Str) (st : Stmt) (ps : List Str) (dvs : List Dv) (shs : List Shq) (f : Addr) : Prop where
  ex : ∃ fd : FuncData, FunD K x qual (defArgs st) (defBody st) (defScope st) (dvs.map Dv.v) [] f fd ∧ ∀ sh ∈ shs, BnQ K fd ps dvs sh
structure CalQ (P : Program) (w : World) (K : Fg) (mg : Str → Option Value) (base : Heap) (CX : CXT) (k : Nat) (ps : List Str) (sp : Sp) (dvs : List Dv) (shs : List Shq) (f : Addr) : Prop where
  ex : ∃ fd : FuncData, FnG P w K mg base CX k f fd ps sp ∧ PySem.W.keepIn K (.ref f) = true ∧ ∀ sh ∈ shs, BnQ K fd ps dvs sh
section
variable {P : Program} {w : World} {K : Fg} {mg : Str → Option Value} {base : Heap} {j k : Nat} {x qual : Str} {ps N : List Str} {sp : Sp} {st : Stmt} {dvs : List Dv} {shs : List Shq} {C f : Addr}
theorem DfQ.ok (d : DfQ K x qual st ps dvs shs f) (Sc : FnScope N ps (defScope st)) (len : ∀ vs H Q E, sp vs H Q E → vs.length = ps.length)
    (hbody : ∀ (cdv : Value) (A : Around) (outer : List Env) (s : Shared) (H : Hp) (vs : List V) (Q : VK) (E : XK), Room k (A.deeper (envOfC qual (defScope st) s.heap.objs.size f cdv)) →
      (A.deeper (envOfC qual (defScope st) s.heap.objs.size f cdv)).guards = some [] → sp vs H Q E →
      ∃ t, PSs (cxOf (L2.CX P w) P w K mg base N qual (defScope st) f cdv A outer s H E) (defBody st) t ∧ t { nx := fun _ G => Q .non G, rt := Q } (start N vs) H) : CalQ P w K mg base (L2.CX P w) (k + 1) ps sp dvs shs f := by
  obtain ⟨fd, F, hb⟩ := d.ex
  have kp := F.kp
  obtain ⟨oc, od, dV, kV, doc, pm, an, cdv, ct, osl, rfl, lk, hcd, _, _⟩ := F.ex
  exact ⟨_, Tq.fn_ofG lk hcd Sc len fun A outer s H vs Q E hr hgu hsp => hbody cdv A outer s H vs Q E hr hgu hsp, kp, hb⟩
end
theorem dfq_mk {K : Fg} {h : Heap} {x qual : Str} {ps : List Str} {st : Stmt} {f T : Addr} {od od2 an : Option Addr} {sl sl2 : Array (Option Value)} {oc oc2 kV dc pm cd ct : Value} {dvs : List Dv} {its : List Value} {shs : List Shq} {n : Nat} (X : K.In h)
    (hd : dvs ≠ []) (rv : Vals (dvs.map Dv.v) its)
    (hb : ∀ sh ∈ shs, sh.sel.all (Sq.ok (sh.m + sh.ks.length) dvs.length) = true ∧ ∀ (T : Addr) (kV doc pm : Value) (an : Option Addr) (cdv ct : Value) (us ws its : List Value), us.length = sh.m → ws.length = sh.ks.length → its.length = dvs.length →
      ∃ k, bindArgs (PySem.W.fnOf x qual (defArgs st) (defBody st) (defScope st) (.ref T) kV doc pm an cdv ct) ⟨us, sh.ks.zip ws⟩ = seqItems? (.ref T) >>= k ∧ k (some its.toArray) = pure (ps.zip (qermU sh.sel (us ++ ws) its)))
    (l : K.lookup f = some ⟨oc, od, .func (PySem.W.fnOf x qual (defArgs st) (defBody st) (defScope st) (.ref T) kV dc pm an cd ct), sl⟩) (lT : K.lookup T = some ⟨oc2, od2, .seq its.toArray n, sl2⟩)
    (c : PySem.W.codeIn K cd qual = true) (k : PySem.W.keepIn K (.ref f) = true) : DfQ K x qual st ps dvs shs f := by
  have F : FunD K x qual (defArgs st) (defBody st) (defScope st) (dvs.map Dv.v) [] f (PySem.W.fnOf x qual (defArgs st) (defBody st) (defScope st) (.ref T) kV dc pm an cd ct) :=
    ⟨⟨oc, od, .ref T, kV, dc, pm, an, cd, ct, sl, rfl, l, c, .inr ⟨by intro z; exact hd (List.map_eq_nil_iff.mp z), T, _, its, n, rfl, lT, rfl, rv⟩, .inl rfl⟩, k⟩
  refine ⟨_, F, fun sh hs => ⟨(hb sh hs).1, its, rv, fun s us ws X l1 l2 => ?_⟩⟩
  obtain ⟨k, e1, e2⟩ := (hb sh hs).2 T kV dc pm an cd ct us ws its l1 l2 (by rw [← rv.length, List.length_map])
  refine BindsTo.of_looks fun M => ?_
  show PySem.W.Looks M s.heap (bindArgs _ ⟨us, sh.ks.zip ws⟩) _
  rw [e1]
  exact looks_items X lT rfl (.of_pure e2)
/-! ### C(es, kws) -/
def tMkG (C : Addr) (dvs : List Dv) (sh : Shq) (sp : Sp) (E : L2.St → XK) (te tk : TA) : TE := fun σ H Q => te σ H fun vs H1 => tk σ H1 fun zs H2 => vs.length + 1 = sh.m ∧ zs.length = sh.ks.length ∧
  ∀ x dx, H2 x = none → H2 dx = none → dx ≠ x → sp (qermV dvs sh.sel (.ref x :: (vs ++ zs))) (upd (upd H2 dx (.own x)) x (.ins C dx [])) (fun v H3 => v = .non ∧ Q (.ref x) H3) (E σ)
theorem make_guards {A : Around} {C : Addr} {us : List Value} {kw : List (Str × Value)} : (A.under (.builtin "type.__call__" ⟨.ref C :: us, kw⟩)).guards = A.guards := by
  first | rfl | simp [Around.under, Code.guards, Code.isGuard, pushGuards, guardIds]
section
variable {X : Cx} {k : Nat} {f D : Addr} {ps : List Str} {dvs : List Dv} {shs : List Shq} {sp : Sp} {x m : Str} {p p1 p2 pos : Pos} {e : Expr} {es : List Expr} {kws : List Keyword} {te tk2 : TA} {W : WX}
theorem run_mkG {sh : Shq} {pins : List (Addr × Obj)} {σ : L2.St} {H : Hp} {s : Shared} {Q : VK} {us ws : List Value} {vs zs : List V} (M : Mk X.K D f) (c : CalQ X.prog X.w X.K X.mg X.base (L2.CX X.prog X.w) k ps sp dvs shs f) (hs : sh ∈ shs) (hr : Room (k + 1) X.A) (hgu : X.A.guards = some []) (tk : Takes X W)
    (I : Inv X pins σ H s) (r : Vals vs us) (rz : Vals zs ws) (l1 : vs.length + 1 = sh.m) (l2 : zs.length = sh.ks.length)
    (h : ∀ x dx, H x = none → H dx = none → dx ≠ x → sp (qermV dvs sh.sel (.ref x :: (vs ++ zs))) (upd (upd H dx (.own x)) x (.ins D dx [])) (fun v H2 => v = .non ∧ Q (.ref x) H2) (WE W σ)) :
    wpAny (model X.prog X.w) X.A (call (.ref D) us (sh.ks.zip ws)) (EP X pins σ Q) X.xe s := by
  obtain ⟨fd, F, _, hb⟩ := c.ex
  obtain ⟨ho, its, ri, hb⟩ := hb sh hs
  have hq := h (s.heap.objs.size + 1) s.heap.objs.size (I.hok.fresh (Nat.le_succ _)) (I.hok.fresh (Nat.le_refl _)) (Nat.ne_of_lt (Nat.lt_succ_self _))
  have I2 := Inv.made (C := D) I
  have r1 : Vals (V.ref (s.heap.objs.size + 1) :: (vs ++ zs)) (Value.ref (s.heap.objs.size + 1) :: (us ++ ws)) := .cons rfl (r.append rz)
  have r2 := qerm_rel r1 (n := sh.m + sh.ks.length) (by rw [List.length_cons, List.length_append, ← l1, ← l2]; omega) ri sh.sel ho
  have e1 : (Value.ref (s.heap.objs.size + 1) :: us).length = sh.m := by rw [List.length_cons, ← r.length]; exact l1
  have e2 : ws.length = sh.ks.length := rz.length.symm.trans l2
  refine wpAny_call (make_map (f := f) I.kIn M.makes M.init (beq_iff_eq.mp M.fn) (codeAny_mono (F.run _ X.stack _ _ ⟨Value.ref (s.heap.objs.size + 1) :: us, sh.ks.zip ws⟩ (qermU sh.sel (Value.ref (s.heap.objs.size + 1) :: (us ++ ws)) its) _ _ (WE W σ) (hr.make D us (sh.ks.zip ws))
    (make_guards.trans hgu) (I2.env0.make D us (sh.ks.zip ws)) (hb _ (Value.ref (s.heap.objs.size + 1) :: us) ws I2.kIn e1 e2) r2 hq) fun r s' hq' => ?_))
  cases r with
  | error e => exact passAt tk σ pins _ _ e s' I2 hq'
  | ok fl =>
    cases fl with
    | ret u =>
      obtain ⟨v, H', I3, rv, ev, q3⟩ := I2.after hq'
      subst ev
      exact ⟨rv, ⟨V.ref (s.heap.objs.size + 1), H', I3, rfl, q3⟩⟩
    | next => exact False.elim hq'
    | brk => exact False.elim hq'
    | cont => exact False.elim hq'
theorem pe_mkG (sh : Shq) (M : Mk X.K D f) (c : CalQ X.prog X.w X.K X.mg X.base (L2.CX X.prog X.w) k ps sp dvs shs f) (hs : sh ∈ shs) (hr : Room (k + 1) X.A) (hgu : X.A.guards = some []) (hg : Gl X x) (hm : X.mg x = some (.ref D)) (tk : Takes X W) (ha : PA X (e :: es) te) (hkw : PK X kws tk2)
    (hall : (backToKw pos (keywordEach kws X.env)).all (·.1.isSome) = true := by rfl) (hks : (backToKw pos (keywordEach kws X.env)).filterMap (·.1) = sh.ks := by rfl)
    (hdb : (x == ("__debug__" : Str)) = false := by decide) (he : starEach (e :: es) X.env = (false, eval e X.env) :: starEach es X.env := by rfl)
    (hpl : ((backTo pos (starEach (e :: es) X.env)).any (·.1) || (backToKw pos (keywordEach kws X.env)).any (·.1.isNone)) = false := by rfl) :
    PE X (.Call (.Name x p) (e :: es) kws pos) (tMkG D dvs sh sp (WE W) te tk2) := by
  refine ⟨fun pins s σ H Q I h => ?_⟩
  refine wpAny_Call_Name_kw (ld_glob I hg hm ?_ hdb)
  refine PySem.W.callWith_KW (h₀ := X.base) I.ok.mod.kin M.kp hall (thn (ha.run pos pins s σ H _ I h) fun us s1 ⟨vs, H1, I1, r, q⟩ => ?_) hpl he
  refine thn (hkw.run pos pins s1 σ H1 _ I1 q) fun ws s2 ⟨zs, H2, I2, rz, l1, l2, q2⟩ => ⟨I2.kIn, ?_⟩
  rw [hks]
  exact run_mkG M c hs hr hgu tk I2 r rz l1 l2 q2
/-! ### C.m(e, ..), the def read off the class -/
structure ClF (K : Fg) (mg : Str → Option Value) (x m : Str) (f : Addr) : Prop where
  ex : ∃ T : Addr, mg x = some (.ref T) ∧ PySem.W.readsIn K T (.type "type") = true ∧ PySem.W.specialIn K (.ref T) "__getattribute__" = some (some (.builtin "type.__getattribute__")) ∧
    PySem.W.findCls K (.ref T) (.type "type") m = some (.val (.ref f)) ∧ PySem.W.keepIn K (.ref f) = true
theorem pe_clsF {pl : Sem Bool} (T : ClF X.K X.mg x m f) (c : MCal X.prog X.w X.K X.mg X.base CX0 k ps sp f) (hr : Room k X.A) (hgu : X.A.guards = some []) (hg : Gl X x) (ha : PA X (e :: es) te)
    (hdb : (x == ("__debug__" : Str)) = false := by decide)
    (hc : eval (.Call (.Attribute (.Name x p1) m p2) (e :: es) [] pos) X.env = (do
      let ov ← eval (.Name x p1) X.env
      standAt p2.atName
      let (f, first) ← holding [ov] (getMethod ov m pl)
      callWith pos f first (backTo pos (starEach (e :: es) X.env)) (backToKw pos (keywordEach [] X.env))) := by rfl)
    (he : starEach (e :: es) X.env = (false, eval e X.env) :: starEach es X.env := by rfl) (hpl : (backTo pos (starEach es X.env)).any (·.1) = false := by rfl) :
    PE X (.Call (.Attribute (.Name x p1) m p2) (e :: es) [] pos) (tCall sp [] E0 te) := by
  obtain ⟨T, hm, hrd, hga, hv, hk⟩ := T.ex
  obtain ⟨fd, F, hb⟩ := c.ex
  refine ⟨fun pins s σ H Q I h => ?_⟩
  refine PySem.W.methodCall_KW (ld_glob I hg hm ?_ hdb) hc
  refine PySem.W.method_cls I.kIn hga (PySem.W.cls_value I.kIn hrd hv rfl ?_)
  show wpAny _ _ (callWith pos (Value.ref f) [] (backTo pos (starEach (e :: es) X.env)) []) _ _ _
  refine PySem.W.callWith_K (first := []) (h₀ := X.base) I.ok.mod.kin hk (thn (ha.run pos pins _ σ H _ (I.tok _) h) fun us s2 ⟨vs, H2, I2, r, q2⟩ => ⟨I2.kIn, ?_⟩) he hpl
  exact run_fnG (us := us) (vs := vs) F hr hgu hb .nil pass0 I2 r q2
/-! ### o.m(e, ..), may raise -/
def tMethX (tab : List (Addr × Sp)) (m : Str) (E : L2.St → XK) (ta : TE) (t : TA) : TE := fun σ H Q => ta σ H fun x H1 => ∃ a C dx fs sp, x = .ref a ∧ H1 a = some (.ins C dx fs) ∧ fs.lookup m = none ∧ (C, sp) ∈ tab ∧ t σ H1 fun vs H2 => sp (x :: vs) H2 Q (E σ)
variable {o : Expr} {apos : Pos} {tab : List (Addr × Sp)} {ta : TE}
theorem pe_methX {pl : Sem Bool} (V : VTab X.prog X.w X.K X.mg X.base (L2.CX X.prog X.w) k m tab) (hr : Room k X.A) (hgu : X.A.guards = some []) (tk : Takes X W) (he : PE X o ta) (ha : PA X (e :: es) te)
    (hst : starEach (e :: es) X.env = (false, eval e X.env) :: starEach es X.env := by rfl) (hpl : (backTo pos (starEach es X.env)).any (·.1) = false := by rfl)
    (ht : eval (.Call (.Attribute o m apos) (e :: es) [] pos) X.env = (do
      let ov ← eval o X.env
      standAt apos.atName
      let (f, first) ← holding [ov] (getMethod ov m pl)
      callWith pos f first (backTo pos (starEach (e :: es) X.env)) (backToKw pos (keywordEach [] X.env))) := by rfl) :
    PE X (.Call (.Attribute o m apos) (e :: es) [] pos) (tMethX tab m (WE W) ta te) := by
  refine ⟨fun pins s σ H Q I h => ?_⟩
  refine PySem.W.methodCall_KW (pl := pl) (thn (he.run pins s σ H _ I h) fun u s1 ⟨x, H1, I1, rx, a, C, dx, fs, sp, ex, ea, l, hm, q⟩ => ?_) ht
  subst ex
  obtain rfl : u = Value.ref a := rx
  obtain ⟨c, f, fd, ps, km, F, hb⟩ := V _ hm
  refine getmeth_ok I1 ea c km l ?_
  refine PySem.W.callWith_K (first := [.ref a]) (h₀ := X.base) I.ok.mod.kin km.kp (thn (ha.run pos pins s1 σ H1 _ I1 q) fun us s2 ⟨vs, H2, I2, r, q2⟩ => ⟨I2.kIn, ?_⟩) hst hpl
  exact run_fnSG (us := .ref a :: us) (vs := .ref a :: vs) (E := WE W) F hr hgu hb (passAt tk σ) I2 (.cons rfl r) q2
theorem pe_methX0 {pl : Sem Bool} (V : VTab X.prog X.w X.K X.mg X.base (L2.CX X.prog X.w) k m tab) (hr : Room k X.A) (hgu : X.A.guards = some []) (tk : Takes X W) (he : PE X o ta)
    (ht : eval (.Call (.Attribute o m apos) [] [] pos) X.env = (do
      let ov ← eval o X.env
      standAt apos.atName
      let (f, first) ← holding [ov] (getMethod ov m pl)
      callWith pos f first (backTo pos (starEach [] X.env)) (backToKw pos (keywordEach [] X.env))) := by rfl) :
    PE X (.Call (.Attribute o m apos) [] [] pos) (tMethX tab m (WE W) ta tNil) := by
  refine ⟨fun pins s σ H Q I h => ?_⟩
  refine PySem.W.methodCall_KW (pl := pl) (thn (he.run pins s σ H _ I h) fun u s1 ⟨x, H1, I1, rx, a, C, dx, fs, sp, ex, ea, l, hm, q⟩ => ?_) ht
  subst ex
  obtain rfl : u = Value.ref a := rx
  obtain ⟨c, f, fd, ps, km, F, hb⟩ := V _ hm
  refine getmeth_ok I1 ea c km l ?_
  exact PySem.W.callWith_K0 (first := [.ref a]) I1.kIn km.kp (run_fnSG (us := [.ref a]) (vs := [.ref a]) (E := WE W) F hr hgu hb (passAt tk σ) I1 (.cons rfl .nil) q)
end
/-! ### the rules -/
section
variable {C : Ct} {y : S} {te : TE} {ts tk : TA} {Q : Z → S → Prop} {m : Str}
def MethP (C : Ct) (m : Str) (tab : List (Addr × Sp)) (ts : TA) (Q : Z → S → Prop) (z : Z) (y1 : S) : Prop := ∃ (a : Addr) (j : Nat) (b : Bool) (c : Cell) (D : Addr) (ks : List Str) (zs : List Z) (ι : Type) (n : Nat) (pre : ι → AC → List Cl → List Z → Prop) (post : ι → AC → List Cl → List Z → Z → AC → AC → Prop) (xp : ι → AC → List Cl → List Z → Ex → AC → AC → Prop),
      z = .lab a ∧ y1.m[j]? = some ⟨a, b, c⟩ ∧ insC c = some (D, ks, zs) ∧ idxS m ks = none ∧ (D, gSp C.K n pre post xp) ∈ tab ∧ wZ C ts y1 fun us y2 => gCall C n pre post xp (.lab a :: us) y2 Q C.ex
theorem wE_methG {tab : List (Addr × Sp)} (w : wE C te y (MethP C m tab ts Q)) : wE C (tMethX tab m (WE C.W) te ts) y Q := by
  intro F σ H K wd k
  refine w F σ H _ wd fun v H1 z y1 w1 g1 s1 r1 hw => ?_
  obtain ⟨a, j, b, c, D, ks, zs, ι, n, pre, post, xp, ez, hj, ic, hi, hm, w'⟩ := hw
  subst ez
  cases (r1 : Rw C.K (Mv F σ y1) H1 v (.lab a))
  obtain ⟨dx, xs, h1, h2, h3⟩ := insC_ok ic (w1.cell _ (List.mem_of_getElem? hj))
  refine ⟨a, D, dx, _, _, rfl, h1, idxS_none hi, hm, ?_⟩
  refine w' F σ H1 _ w1 fun vs H2 us y2 w2 g2 s2 r2 hc => ?_
  exact g_run w2 (.cons (.lab a) r2) (fun v H' z y' w3 g3 s3 r q => k v H' z y' w3 ((g1.trans g2).trans g3) ((s1.trans s2).trans s3) r q) (fun ex a H' y' w3 g3 xr hx => w2.xk σ y' H' ex ex.cls (some a) w3 g3 xr hx) hc
theorem rw_qerm {K : Fg} {M : Addr → Prop} {H : Hp} {dvs : List Dv} {vs : List V} {zs : List Z} (r : RwA K M H vs zs) : ∀ sel : List Sq, sel.all (Sq.ok zs.length dvs.length) = true → RwA K M H (qermV dvs sel vs) (qermZ dvs sel zs)
  | [], _ => .nil
  | s :: sel, h => by
    rw [List.all_cons, Bool.and_eq_true] at h
    refine .cons ?_ (rw_qerm r sel h.2)
    cases s with
    | «at» i => exact rw_at r (of_decide_eq_true h.1)
    | df j =>
      have hj : j < dvs.length := of_decide_eq_true h.1
      show Rw K M H ((dvs.map Dv.v).getD j .non) ((dvs.map fun x => Z.d x.d).getD j (.d .none))
      rw [List.getD_eq_getElem?_getD, List.getD_eq_getElem?_getD, List.getElem?_map, List.getElem?_map, List.getElem?_eq_getElem hj]
      exact .d (Dv.rp _)
/-- a new object -/
theorem mk_store {F : Fr} {σ : L2.St} {H : Hp} {x dx D : Addr} (w : Wd C F σ y H) (hx : H x = none) (hdx : H dx = none) (ne : dx ≠ x) :
    Wd C F σ ⟨y.l, y.m ++ [⟨x, true, .ins D [] []⟩]⟩ (upd (upd H dx (.own x)) x (.ins D dx [])) ∧ Go F σ y H σ ⟨y.l, y.m ++ [⟨x, true, .ins D [] []⟩]⟩ (upd (upd H dx (.own x)) x (.ins D dx [])) := by
  have gr : ∀ a u, H a = some u → upd (upd H dx (.own x)) x (.ins D dx []) a = some u := fun a u e => by
    rw [upd_ne (ne_of_none e hx), upd_ne (ne_of_none e hdx)]; exact e
  exact xn_call (nw := [(x, .ins D [] [])]) w gr (fun e he => by rw [List.mem_singleton] at he; subst he; exact hx) (List.pairwise_singleton _ _)
    (fun e he => by rw [List.mem_singleton] at he; subst he; exact ⟨dx, [], upd_same, rfl, .nil⟩)
theorem wE_mkG {D : Addr} {dvs : List Dv} {sh : Shq} {ι : Type} {n : Nat} {pre : ι → AC → List Cl → List Z → Prop} {post : ι → AC → List Cl → List Z → Z → AC → AC → Prop} {xp : ι → AC → List Cl → List Z → Ex → AC → AC → Prop}
    (w : wZ C ts y fun us y1 => wZ C tk y1 fun ws y2 => us.length + 1 = sh.m ∧ ws.length = sh.ks.length ∧ sh.sel.all (Sq.ok (sh.m + sh.ks.length) dvs.length) = true ∧
      ∀ x, gCall C n pre post xp (qermZ dvs sh.sel (.lab x :: (us ++ ws))) ⟨y2.l, y2.m ++ [⟨x, true, .ins D [] []⟩]⟩ (fun z y' => z = .d .none ∧ Q (.lab x) y') C.ex) : wE C (tMkG D dvs sh (gSp C.K n pre post xp) (WE C.W) ts tk) y Q := by
  intro F σ H K wd k
  refine w F σ H _ wd fun vs H1 us y1 w1 g1 s1 r1 w' => ?_
  refine w' F σ H1 _ w1 fun zs H2 ws y2 w2 g2 s2 r2 ⟨l1, l2, ho, hc⟩ => ?_
  refine ⟨by rw [r1.len]; exact l1, by rw [r2.len]; exact l2, fun x dx hx hdx ne => ?_⟩
  obtain ⟨w3, g3⟩ := mk_store (D := D) w2 hx hdx ne
  have s3 : Sh y2 ⟨y2.l, y2.m ++ [⟨x, true, .ins D [] []⟩]⟩ := ⟨rfl, [⟨x, true, .ins D [] []⟩], by unfold ao; rw [List.map_append]⟩
  have rr : RwA C.K (Mv F σ ⟨y2.l, y2.m ++ [⟨x, true, .ins D [] []⟩]⟩) (upd (upd H2 dx (.own x)) x (.ins D dx [])) (.ref x :: (vs ++ zs)) (.lab x :: (us ++ ws)) := .cons (.lab x) (((r1.go g2).app r2).go g3)
  refine g_run w3 (rw_qerm rr sh.sel ?_) (fun v H' z y' w4 g4 s4 r q => ?_) (fun ex a H' y' w4 g4 xr hx => w3.xk σ y' H' ex ex.cls (some a) w4 g4 xr hx) (hc x)
  · rw [show (Z.lab x :: (us ++ ws)).length = sh.m + sh.ks.length by rw [List.length_cons, List.length_append, ← l1, ← l2]; omega]
    exact ho
  · obtain ⟨rfl, q⟩ := q
    have : v = .non := by cases (r : Rp C.K (Mv F σ y') H' v .none); rfl
    exact ⟨this, k (.ref x) H' (.lab x) y' w4 (((g1.trans g2).trans g3).trans g4) (((s1.trans s2).trans s3).trans s4) (.lab x) q⟩
/-! ### isinstance(o, T), o an own object -/
structure IsiC (K : Fg) (D : Addr) : Prop where
  cl : Cls K D
  ha : PySem.W.findIn K (.ref D) "__class__" = some (some (.builtin "object.__class__"))
  hn : PySem.W.specialIn K (.builtin "object.__class__") "__get__" = some (some (.builtin "getset_descriptor.__get__"))
  htk : PySem.W.takesIn K (.builtin "object.__class__") = some true
  hm : PySem.W.mroIn K D (.type "object") = some true
def rIsC (K : Fg) : List V → Hp → VK → Prop := fun xs H Q => ∃ (a D dx T : Addr) (fs : List (Str × V)) (b : Bool), xs = [.ref a, .ref T] ∧ H a = some (.ins D dx fs) ∧ IsiC K D ∧ PySem.W.kitOne K (.ref D) (.ref T) = some b ∧ Q (.bl b) H
theorem call_isC {X : Cx} : CallR X (.builtin "isinstance") (rIsC X.K) := by
  intro pins s σ H xs us Q I r h
  obtain ⟨a, D, dx, T, fs, b, rfl, hd, ic, e, q⟩ := h
  cases r with
  | cons rx rr =>
    cases rr with
    | cons rt rr =>
      cases rr
      cases rx
      cases rt
      exact isinst_ok (x := .ref a) I rfl (.ins hd ic.cl ic.ha ic.hn ic.htk ic.hm) e fun tk => ⟨.bl b, H, I.kept (t' := tk) fun _ _ z => z, rfl, q⟩
def tIsC (K : Fg) (te : TE) (T : Addr) : TE := tCB (rIsC K) (tCons te (tCons (tC (.ref T)) tNil))
theorem zIC {X : Cx} {e : Expr} {K : Fg} {te : TE} {T : Addr} (h : PE X e (tCB (rIsC K) (tCons te (tCons (tC (.ref T)) tNil)))) : PE X e (tIsC K te T) := h
theorem wE_isC {T : Addr} (w : wE C te y fun z y1 => ∃ (a : Addr) (j : Nat) (b : Bool) (c : Cell) (D : Addr) (ks : List Str) (zs : List Z) (r : Bool), z = .lab a ∧ y1.m[j]? = some ⟨a, b, c⟩ ∧ insC c = some (D, ks, zs) ∧ IsiC C.K D ∧ PySem.W.kitOne C.K (.ref D) (.ref T) = some r ∧ Q (.d (.bool r)) y1) : wE C (tIsC C.K te T) y Q := by
  intro F σ H K wd k
  refine w F σ H _ wd fun v H1 z y1 w1 g1 s1 r1 hw => ?_
  obtain ⟨a, j, b, c, D, ks, zs, r, ez, hj, ic, hi, hk, q⟩ := hw
  subst ez
  cases (r1 : Rw C.K (Mv F σ y1) H1 v (.lab a))
  obtain ⟨dx, xs, h1, h2, h3⟩ := insC_ok ic (w1.cell _ (List.mem_of_getElem? hj))
  exact ⟨a, D, dx, T, _, r, rfl, h1, hi, hk, k _ H1 (.d (.bool r)) y1 w1 g1 s1 (.bl r) q⟩
/-! ### list(x) of a thing, a new list of ours -/
def tListR (K : Fg) (t : TA) : TE := tCB (rListD K) t
theorem zListR {X : Cx} {e : Expr} {K : Fg} {t : TA} (h : PE X e (tCB (rListD K) t)) : PE X e (tListR K t) := h
theorem xE_listR {te : TE} (w : wE C te y fun z y1 => ∃ d xs, Res y1.m z d ∧ dItems d = some xs ∧ ∀ p, Q (.lab p) ⟨y1.l, y1.m ++ [⟨p, true, .lst (xs.map Z.d)⟩]⟩) : wE C (tListR C.K (tCons te tNil)) y Q := by
  intro F σ H K wd k
  refine w F σ H _ wd fun x H1 z y1 w1 g1 s1 r1 ⟨d, xs, hr, hx, hq⟩ => ?_
  have key : ∃ a us, x = .ref a ∧ (SqL C.K H1 a us ∨ SqT C.K H1 a us) ∧ RpA C.K (Mv F σ y1) H1 us xs := by
    cases hr with
    | d d =>
      obtain ⟨a, us, rfl, h1, h2⟩ := rp_items r1 hx
      exact ⟨a, us, rfl, h1.elim (fun z => .inl z.sq) (fun z => .inr z.sq), h2⟩
    | @lab e d he hc =>
      have r1w := r1.w
      cases r1w
      have ok := w1.cell e he
      generalize e.c = c at hc ok
      induction hc with
      | lst ds =>
        cases hx
        obtain ⟨us, h1, h2⟩ := ok
        exact ⟨_, us, rfl, .inl (SqL.of h1), h2.ds⟩
      | dic kvs => cases hx
      | ro _ ih => exact ih hx ok
  obtain ⟨a, us, rfl, h1, h2⟩ := key
  refine ⟨a, us, rfl, h1, fun p hp => ?_⟩
  obtain ⟨w2, g2, s2⟩ := w1.cnew (o := .lst us) (c := .lst (xs.map Z.d)) (b := true) hp fun M g => ⟨us, upd_same, (RwA.of h2).go g⟩
  exact k _ _ (.lab p) _ w2 (g1.trans g2) (s1.trans s2) (.lab p) (hq p)
/-! ### a thing of a tuple, a list of ours read -/
theorem same_rfl {m : AC} (h : ∀ e ∈ m, e.2.isRo = false) : Same m m := ⟨rfl, h⟩
theorem g_end {q : Z → AC → AC → Prop} {m m' nw : AC} {z : Z} {y : S} {A : List Cl} (h : q z m' nw) (sm : Same m m') (rn : ∀ e ∈ nw, e.2.isRo = false) (e : y.m = toCl false m' ++ A ++ toCl true nw) : gEnd q m z y :=
  ⟨m', nw, h, sm, rn, by rw [e, List.append_assoc]; exact List.subset_append_left _ _, by rw [e]; exact List.sublist_append_right _ _⟩
theorem g_end0 {q : Z → AC → AC → Prop} {m m' : AC} {z : Z} {y : S} {A : List Cl} (h : q z m' []) (sm : Same m m') (e : y.m = toCl false m' ++ A) : gEnd q m z y :=
  g_end (A := A) (nw := []) h sm (by simp) (by rw [e]; simp [toCl])
end
theorem g_nil (X Y : List Cl) : [] ++ X ++ Y ++ toCl true [] = X ++ Y := by simp [toCl]
end Ux

set_option maxRecDepth 100000
set_option maxHeartbeats 4000000
/-! x[i] = e of a list; a written dict asked at once -/
namespace Ux
open PySem PySem.Spec PyProof.Rows L2 Tq
/-- nothing is raised outside of a try -/
theorem wS_plain {C : Ct} {t : TS} {y : S} {e : En} (w : wS { K := C.K } t y e) : wS C t y e := fun F σ H E st wd k =>
  w F σ H E st ⟨wd.toWd0, fun _ _ _ _ _ _ _ _ _ h => h.elim⟩ ⟨fun σ' H' y' w' g q => k.nx σ' H' y' (wd.to w'.toWd0 g) g q, fun σ' v H' z y' w' g r q => k.rt σ' v H' z y' (wd.to w'.toWd0 g) g r q, fun σ' H' y' w' g q => k.bk σ' H' y' (wd.to w'.toWd0 g) g q, fun σ' H' y' w' g q => k.ct σ' H' y' (wd.to w'.toWd0 g) g q⟩
theorem wS_setL {C : Ct} {y : S} {te ti : TE} {e : En} {i j : Nat} {a : Addr} {b : Bool} (hi : y.l[i]? = some (some (.lab a)))
    (w : wE C te y fun z y1 => y1.l[i]? = some (some (.lab a)) ∧ wE C ti y1 fun zi y2 => ∃ zs k jj, y2.m[j]? = some ⟨a, b, .lst zs⟩ ∧ zi = .d (.int k) ∧ ixN zs.length k = some jj ∧ e.nx ⟨y2.l, y2.m.set j ⟨a, b, .lst (zs.set jj z)⟩⟩) :
    wS C (tAsg te (gSub (tVar i) ti rSetL)) y e := by
  intro F σ H E st wd k
  refine w F σ H _ wd fun v H1 z y1 w1 g1 s1 r1 ⟨hi1, w'⟩ => ?_
  obtain ⟨x, h1, h2⟩ := w1.slot i _ hi1
  cases h2
  refine ⟨.ref a, h1, ?_⟩
  refine w' F σ H1 _ w1 fun v2 H2 zi y2 w2 g2 s2 r2 ⟨zs, kk, jj, hj, ez, hn, q⟩ => ?_
  subst ez
  obtain rfl := rp_int r2
  obtain ⟨us, e2, e3⟩ := (w2.cell _ (List.mem_of_getElem? hj) : CellOk C.K (Mv F σ y2) H2 a (.lst zs))
  refine ⟨a, us, kk, jj, rfl, rfl, e2, by rw [e3.len]; exact hn, ?_⟩
  obtain ⟨w3, g3, s3⟩ := w2.cmut (H' := upd H2 a (.lst (us.set jj v))) (c' := .lst (zs.set jj z)) hj rfl rfl (fun b o n e => by rw [upd_ne n]; exact e) fun M _ g => ⟨us.set jj v, upd_same, (e3.go g).set jj ((r1.go g2).w.go g)⟩
  exact k.nx _ _ _ w3 ((g1.trans g2).trans g3) q
theorem wE_dg3 {C : Ct} {y : S} {Q : Z → S → Prop} {a b c s : Str} {u v w n : Int} {i : Nat} (hi : y.l[i]? = some (some (.d (.str s))))
    (hv : valV (mergeK [] [(Sum.inr a, V.int u), (Sum.inr b, V.int v), (Sum.inr c, V.int w)]) (Sum.inr s) = some (.int n)) (q : Q (.d (.int n)) y) :
    wE C (tDGet (tDisp [(tC (.str a), tC (.int u)), (tC (.str b), tC (.int v)), (tC (.str c), tC (.int w))]) (tVar i)) y Q := by
  intro F σ H K wd k
  obtain ⟨x, h1, h2⟩ := wd.slot i _ hi
  cases h2 with
  | d h2 =>
    obtain rfl := rp_str h2
    intro p hp
    refine ⟨upd_same, [(Sum.inr a, V.int u), (Sum.inr b, V.int v), (Sum.inr c, V.int w)], rfl, by simp, ?_⟩
    refine ⟨.str s, h1, p, .int n, rfl, ?_, ?_⟩
    · rw [← hv]
      exact DGet.k (k := Sum.inr s) upd_same
    · have gr : ∀ e o, H e = some o → upd (upd H p (.dK [])) p (.dK (mergeK [] [(Sum.inr a, V.int u), (Sum.inr b, V.int v), (Sum.inr c, V.int w)])) e = some o := fun e o h => by
        rw [upd_ne (ne_of_none h hp), upd_ne (ne_of_none h hp)]; exact h
      exact k _ _ (.d (.int n)) y (wd.grow gr) (go_grow gr) (Sh.refl y) (.int n) q
end Ux

set_option maxRecDepth 100000
set_option maxHeartbeats 4000000
/-! lists read through the store, also where they are for reading alone: len, x[i], x[a:b] -/
namespace Ux
open PySem PySem.Spec PyProof.Rows L2 Tq
def tLenR (K : Fg) (t : TA) : TE := tCB (rLenD K) t
theorem zLenR {X : Cx} {e : Expr} {K : Fg} {t : TA} (h : PE X e (tCB (rLenD K) t)) : PE X e (tLenR K t) := h
def rIxR (K : Fg) : R2 := rIx K
theorem ixRK {X : Cx} (K : Fg) (h : X.K = K := by rfl) : IxR X (rIxR K) := ixK K h
def rSlR (K : Fg) : V → Option Int → Option Int → Hp → VK → Prop := rSlD K
theorem slRK {X : Cx} (K : Fg) (h : X.K = K := by rfl) : SlR X (rSlR K) := slK K h
section
variable {C : Ct} {y : S} {te ta tb : TE} {tl th : TO} {Q : Z → S → Prop}
/-- a list or tuple, as it stands -/
theorem res_seq {F : Fr} {σ : L2.St} {H : Hp} {v : V} {z : Z} {ds : List D} (wd : Wd C F σ y H) (r : Rz C F σ y H v z) (hr : Res y.m z (.list ds)) : ∃ a us, v = .ref a ∧ SqL C.K H a us ∧ RpA C.K (Mv F σ y) H us ds := by
  generalize hd : PyData.list ds = d at hr
  cases hr with
  | d d =>
    subst hd
    obtain ⟨a, us, rfl, h1, h2⟩ := rp_lst (r : Rp C.K (Mv F σ y) H v (.list ds))
    exact ⟨a, us, rfl, h1.sq, h2⟩
  | @lab e d he hc =>
    have r1w := r.w
    cases r1w
    have ok := wd.cell e he
    generalize e.c = c at hc ok
    induction hc with
    | lst ds' =>
      cases hd
      obtain ⟨us, h1, h2⟩ := ok
      exact ⟨_, us, rfl, SqL.of h1, h2.ds⟩
    | dic kvs => cases hd
    | ro _ ih => exact ih hd ok
theorem xE_lenR (w : wE C te y fun z y1 => ∃ ds, Res y1.m z (.list ds) ∧ Q (.d (.int ds.length)) y1) : wE C (tLenR C.K (tCons te tNil)) y Q := by
  intro F σ H K wd k
  refine w F σ H _ wd fun x H1 z y1 w1 g1 s1 r1 ⟨ds, hr, hq⟩ => ?_
  obtain ⟨a, us, rfl, h1, h2⟩ := res_seq w1 r1 hr
  exact ⟨_, ds.length, rfl, .inl ⟨us, h1, h2.len.symm⟩, k _ H1 (.d (.int ds.length)) y1 w1 g1 s1 (.int _) hq⟩
theorem wE_ixR (w : wE C ta y fun z y1 => wE C tb y1 fun z' y2 => ∃ (ds : List D) (i : Int) (u : D), Res y2.m z (.list ds) ∧ z' = .d (.int i) ∧ atI ds i = some u ∧ Q (.d u) y2) : wE C (tOp (rIxR C.K) ta tb) y Q := by
  intro F σ H K wd k
  refine w F σ H _ wd fun x H1 z y1 w1 g1 s1 r1 q1 => ?_
  refine q1 F σ H1 _ w1 fun x2 H2 z' y2 w2 g2 s2 r2 q2 => ?_
  obtain ⟨ds, i, u, hr, rfl, hi, hq⟩ := q2
  have ey := rp_int r2
  obtain ⟨a, us, rfl, h1, h2⟩ := res_seq w2 (r1.go g2) hr
  obtain ⟨v, e, rv⟩ := atI_rp h2 hi
  exact .inl ⟨_, _, i, v, rfl, ey, h1, e, k _ H2 (.d u) y2 w2 (g1.trans g2) (s1.trans s2) rv hq⟩
theorem xE_slR (w : wE C te y fun z y1 => wO C tl y1 fun l y2 => wO C th y2 fun h y3 => ∃ ds, Res y3.m z (.list ds) ∧ Q (.d (.list (cutD ds l h))) y3) : wE C (tSl (rSlR C.K) te tl th) y Q := by
  intro F σ H K wd k
  refine w F σ H _ wd fun x H1 z y1 w1 g1 s1 r1 q1 => ?_
  refine q1 F σ H1 _ w1 fun l H2 y2 w2 g2 s2 q2 => ?_
  refine q2 F σ H2 _ w2 fun h H3 y3 w3 g3 s3 q3 => ?_
  obtain ⟨ds, hr, hq⟩ := q3
  have r3 : Rz C F σ y3 H3 x z := Rz.go (g2.trans g3) r1
  obtain ⟨a, us, rfl, h1, h2⟩ := res_seq w3 r3 hr
  refine .inl ⟨a, us, rfl, h1, fun q hp => ?_⟩
  have gr := grow_upd (o := .lst (cutV us l h)) hp
  exact k _ _ (.d (.list (cutD ds l h))) y3 (w3.grow gr) (((g1.trans g2).trans g3).trans (go_grow gr)) ((s1.trans s2).trans s3) (.lst (.inl ⟨w3.new hp, .inl upd_same⟩) ((rpA_cut h2 l h).go (go_grow (F := F) (σ := σ) (y := y3) gr))) hq
end
end Ux

set_option maxRecDepth 100000
set_option maxHeartbeats 4000000
namespace Ux
open PySem PySem.Spec PyProof.Rows L2 Tq
/-! ### x.extend(list) -/
/-! ### [t + "..", .., t.replace("x", "y"), ..] -/
end Ux

set_option maxRecDepth 100000
set_option maxHeartbeats 4000000
namespace Ux
open PySem PySem.Spec PyProof.Rows L2 Tq
end Ux
namespace Ux
open PySem PySem.Spec PyProof.Rows L2 Tq
end Ux
namespace Ux
open PySem PySem.Spec PyProof.Rows L2 Tq
end Ux
namespace Ux
open PySem PySem.Spec PyProof.Rows L2 Tq
end Ux

set_option maxRecDepth 100000
set_option maxHeartbeats 4000000
/-! comprehensions that hand out new labels -/
namespace Ux
open PySem PySem.Spec PyProof.Rows L2 Tq
/-- data gone through, read as things -/
theorem wIZ_wI {C : Ct} {wi : TI} {y : S} {Q : List Z → S → Prop} (w : wI C wi y fun xs y1 => Q (xs.map Z.d) y1) : wIZ C wi y Q := fun F σ H R wd k =>
  w F σ H R wd fun J H1 xs y1 w1 g1 s1 hJ q => k J H1 (xs.map Z.d) y1 w1 g1 s1 (fun F1 σ2 y2 H2 w2 g2 i => by
    obtain ⟨j1, j2, j3⟩ := hJ F1 σ2 y2 H2 w2 g2 i
    refine ⟨fun h => j1 (by rw [List.length_map] at h; exact h), fun h => j2 (by rw [List.length_map] at h; exact h), fun x hx v H3 hy => ?_⟩
    rw [List.getElem?_map] at hx
    obtain ⟨d, hd, rfl⟩ := Option.map_eq_some_iff.mp hx
    obtain ⟨a, b⟩ := j3 d hd v H3 hy
    exact ⟨a, .d b⟩) q
theorem dom_app {m u nw : List Cl} (s : ao m = ao u ++ ao nw) (a : Addr) : Dom m a ↔ Dom u a ∨ Dom nw a := by
  have key : ∀ n : List Cl, Dom n a ↔ a ∈ (ao n).map (·.1) := fun n => by
    unfold Dom ao
    rw [List.map_map, List.mem_map]
    exact ⟨fun ⟨e, h1, h2⟩ => ⟨e, h1, h2⟩, fun ⟨e, h1, h2⟩ => ⟨e, h1, h2⟩⟩
  rw [key, key, key, s, List.map_append, List.mem_append]
theorem dist_app {m u nw : List Cl} (s : ao m = ao u ++ ao nw) (d : m.Pairwise fun e e' => e.a ≠ e'.a) {a : Addr} (h1 : Dom u a) (h2 : Dom nw a) : False := by
  have p1 : ((ao m).map (·.1)).Pairwise (· ≠ ·) := by
    unfold ao
    rw [List.map_map, List.pairwise_map]
    exact d
  rw [s, List.map_append, List.pairwise_append] at p1
  obtain ⟨e, q1, q2⟩ := h1
  obtain ⟨e', q3, q4⟩ := h2
  refine p1.2.2 a ?_ a ?_ rfl
  · exact List.mem_map.mpr ⟨_, List.mem_map.mpr ⟨e, q1, rfl⟩, q2⟩
  · exact List.mem_map.mpr ⟨_, List.mem_map.mpr ⟨e', q3, rfl⟩, q4⟩
theorem cell_app {m u nw : List Cl} (s : ao m = ao u ++ ao nw) {e : Cl} (he : e ∈ m) : (∃ e' ∈ u, e'.a = e.a ∧ e'.own = e.own ∧ e'.c.isRo = e.c.isRo) ∨ ∃ e' ∈ nw, e'.a = e.a ∧ e'.own = e.own ∧ e'.c.isRo = e.c.isRo := by
  have : (e.a, e.own, e.c.isRo) ∈ ao u ++ ao nw := by rw [← s]; exact List.mem_map.mpr ⟨e, he, rfl⟩
  rcases List.mem_append.mp this with h | h
  · obtain ⟨e', h1, h2⟩ := List.mem_map.mp h
    exact .inl ⟨e', h1, congrArg Prod.fst h2, congrArg (fun x => x.2.1) h2, congrArg (fun x => x.2.2) h2⟩
  · obtain ⟨e', h1, h2⟩ := List.mem_map.mp h
    exact .inr ⟨e', h1, congrArg Prod.fst h2, congrArg (fun x => x.2.1) h2, congrArg (fun x => x.2.2) h2⟩
section
variable {K : Fg} {F : Fr} {σ : St} {y y' u : S} {H H' : Hp} {l : Addr}
theorem sub_mvN {a : Addr} {H0 : Hp} {τ : St} {nw : List Cl} (s : ao y.m = ao u.m ++ ao nw) : Mv (sub F σ u H0 l) τ y a ↔ (Mv F σ y a ∨ a = l) := by
  constructor
  · rintro ((z | z) | z)
    · rcases z with z | z
      · exact .inl (.inl z)
      · exact .inl (.inr ((dom_app s a).mpr (.inl z)))
    · exact .inr z
    · exact .inl (.inr z)
  · rintro ((z | z) | z)
    · exact .inl (.inl (.inl z))
    · exact .inr z
    · exact .inl (.inr z)
theorem Wd0.rebN {H0 : Hp} {τ : St} {nw : List Cl} (w : Wd0 K (sub F σ u H0 l) τ y H) (s : ao y.m = ao u.m ++ ao nw) (kp : ∀ a o, a ≠ l → H a = some o → H' a = some o) (hl : H' l ≠ none) (nl : ¬ Dom y.m l) :
    Wd0 K (sub F σ y H' l) τ y H' ∧ GoH (Mv (sub F σ u H0 l) τ y) H (Mv (sub F σ y H' l) τ y) H' := by
  have s0 : ao y.m = ao y.m ++ ao [] := by simp [ao]
  have g : GoH (Mv (sub F σ u H0 l) τ y) H (Mv (sub F σ y H' l) τ y) H' := fun a v n e => by
    have ne : a ≠ l := fun z => n ((sub_mvN s).mpr (.inr z))
    exact ⟨fun z => n ((sub_mvN s).mpr ((sub_mvN s0).mp z)), kp a v ne e⟩
  have lv : ∀ a, (Mv F σ y a ∨ a = l) → H' a ≠ none := fun a z e => by
    by_cases ha : a = l
    · rw [ha] at e; exact hl e
    · cases q : H a with
      | none =>
        rcases z with (z | ⟨e', h1, h2⟩) | z
        · exact w.live a (.inl (.inl z)) q
        · exact (w.cell e' h1).live (h2 ▸ q)
        · exact ha z
      | some o => rw [kp a o ha q] at e; cases e
  refine ⟨⟨fun a v _ e => e, lv, lv, w.len, fun i z e => ?_, fun e he => (w.cell e he).go g fun o q => kp _ _ (fun z => nl ?_) q, w.dist, fun e he hr => .inl ⟨e, he, rfl, hr⟩, fun a z => .inl (.inr z.dom), fun q => nomatch q⟩, g⟩
  · obtain ⟨x, h1, h2⟩ := w.slot i z e
    exact ⟨x, h1, h2.go g⟩
  · exact ⟨e, he, z⟩
theorem Wd.outOfN {C : Ct} {H0 H2 : Hp} {nw : List Cl} (w : Wd C F σ u H) (h : H l = none) (w2 : Wd0 C.K (sub F σ y H0 l) σ y H2) (s : ao y.m = ao u.m ++ ao nw) (fr : ∀ e ∈ nw, e.c.isRo = false ∧ H e.a = none) (nl2 : ¬ Dom y.m l)
    (kp : ∀ a o, ¬ DomW u.m a → H a = some o → H2 a = some o) :
    Wd0 C.K F σ y H2 ∧ Go F σ u H σ y H2 ∧ ¬ Mv F σ y l ∧ GoH (Mv (sub F σ y H0 l) σ y) H2 (Mv F σ y) H2 ∧ GoH (Mv F σ u) H (Mv (sub F σ y H0 l) σ y) H2 := by
  have s0 : ao y.m = ao y.m ++ ao [] := by simp [ao]
  have nl : ¬ Mv F σ y l := by
    rintro (z | z)
    · exact w.live l z h
    · exact nl2 z
  have up : ∀ a, H a ≠ none → Mv F σ y a → Mv F σ u a := by
    rintro a ha (z | z)
    · exact .inl z
    · rcases (dom_app s a).mp z with z | ⟨e, h1, h2⟩
      · exact .inr z
      · exact absurd (h2 ▸ (fr e h1).2) ha
  have gd : GoH (Mv (sub F σ y H0 l) σ y) H2 (Mv F σ y) H2 := fun a v n e => ⟨fun z => n ((sub_mvN s0).mpr (.inl z)), e⟩
  refine ⟨⟨fun a v n e => kp a v (fun z => ?_) (w.keep a v n e), w.live0, fun a m => w2.live a (.inl (.inl m)), w2.len, fun i z e => ?_, fun e he => (w2.cell e he).go gd fun _ q => q, w2.dist, fun e he hr => ?_, w.sm, fun st e he ho => ?_⟩,
    fun a v n e => ⟨fun z => n (up a (by rw [e]; simp) z), kp a v (fun z => n (.inr z.dom)) e⟩, nl, gd, fun a v n e => ⟨fun z => ((sub_mvN s0).mp z).elim (fun z => n (up a (by rw [e]; simp) z)) (ne_of_none e h), kp a v (fun z => n (.inr z.dom)) e⟩⟩
  · obtain ⟨e0, h1, rfl, hr⟩ := z
    rcases w.frsh e0 h1 hr with q | q
    · exact n q
    · rw [q] at e; cases e
  · obtain ⟨x, h1, h2⟩ := w2.slot i z e
    exact ⟨x, h1, h2.go gd⟩
  · rcases cell_app s he with ⟨e', h1, h2, _, h4⟩ | ⟨e', h1, h2, _, h4⟩
    · rw [← h2]; exact w.frsh e' h1 (h4.trans hr)
    · rw [← h2]; exact .inr (w.newH0 (fr e' h1).2)
  · rcases cell_app s he with ⟨e', h1, h2, h3, _⟩ | ⟨e', h1, h2, h3, _⟩
    · rw [← h2]; exact w.nb st e' h1 (h3.trans ho)
    · rw [← h2]; exact fun z => w.live _ (w.sm _ z) (fr e' h1).2
end
section
variable {C : Ct} {y : S} {te : TE} {tt : TT} {wi : TI} {Q : Z → S → Prop}
/-- [e for x in .. if ..], where e hands out new labels -/
theorem wE_lcN {j : Nat}
    (w : wIZ C wi y fun xs y1 => ∃ I : Nat → List Z → List Cl → Prop, xs.length ≤ sizeLine ∧ (∀ i acc m, I i acc m → ∃ nw, ao m = ao y1.m ++ ao nw ∧ ∀ e ∈ nw, e.c.isRo = false) ∧ I 0 [] y1.m ∧
      (∀ i x acc m, xs[i]? = some x → I i acc m → wT C.q tt ⟨y1.l.set j (some x), m⟩ fun b y3 => if b = true then wE C.q te y3 fun z y4 => I (i + 1) (acc ++ [z]) y4.m else I (i + 1) acc y3.m) ∧
      (∀ acc m, I xs.length acc m → acc.length ≤ xs.length → Q (.lst acc) ⟨y1.l, m⟩)) :
    wE C (tLc wi (gName j) tt te [j]) y Q := by
  intro F σ H K wd k
  refine w F σ H _ wd fun J H1 xs y1 w1 g1 s1 hJ ⟨I, hz, ha, h0, hs, hd⟩ => ?_
  intro l hl
  have wz : wipe σ [j] = σ.set j none := rfl
  obtain ⟨ul, um⟩ := y1
  have nOl : ¬ Dom um l := fun z => w1.new hl (.inr z)
  have wi1 : Wd0 C.K (sub F σ ⟨ul, um⟩ (upd H1 l (.lst [])) l) σ ⟨ul, um⟩ (upd H1 l (.lst [])) := w1.toWd0.into (l := l) (o := .lst []) hl
  let P : Nat → Hp → Prop := fun i H2 => ∃ m acc vs, Wd0 C.K (sub F σ ⟨ul, m⟩ H2 l) σ ⟨ul, m⟩ H2 ∧ (∀ a o, ¬ DomW um a → H1 a = some o → H2 a = some o) ∧ I i acc m ∧ H2 l = some (.lst vs) ∧ RwA C.K (Mv (sub F σ ⟨ul, m⟩ H2 l) σ ⟨ul, m⟩) H2 vs acc ∧ acc.length ≤ i ∧ ¬ Dom m l ∧ ∃ nw, ao m = ao um ++ ao nw ∧ ∀ e ∈ nw, e.c.isRo = false ∧ H1 e.a = none
  refine ⟨fun i n H2 => n = xs.length - i ∧ i ≤ xs.length ∧ P i H2,
    ⟨xs.length, by simp, Nat.zero_le _, um, [], [], wi1, fun a o _ e => grow_upd hl a o e, h0, upd_same, .nil, Nat.zero_le _, nOl, [], by simp [ao], fun e he => by cases he⟩, ?_⟩
  rintro i n H2 ⟨rfl, hi, m, acc, vs, w2, kp2, hI, hl2, rv2, ha2, nl2, nw, am, fr⟩
  obtain ⟨o1, o2, o3, o4, o5⟩ := w1.outOfN hl w2 am fr nl2 kp2
  obtain ⟨j1, j2, j3⟩ := hJ (sub F σ ⟨ul, m⟩ H2 l) σ ⟨ul, m⟩ H2 w2 o5 i
  by_cases hlt : i < xs.length
  · refine .inr ⟨j1 hlt, P (i + 1), fun H3 h => ⟨xs.length - (i + 1), by omega, rfl, hlt, h⟩, fun v H3 hy => ?_⟩
    have ex : xs[i]? = some xs[i] := List.getElem?_eq_getElem hlt
    obtain ⟨gr, rv⟩ := j3 _ ex v H3 hy
    have sm0 : ao m = ao m ++ ao [] := by simp [ao]
    obtain ⟨w3, gx⟩ := w2.rebN (σ := σ) (y := ⟨ul, m⟩) (u := ⟨ul, m⟩) (nw := []) sm0 (H' := H3) (fun a o _ e => gr a o e) (by rw [gr l _ hl2]; simp) nl2
    have hl3 : H3 l = some (.lst vs) := gr l _ hl2
    have gy : GoH (Mv (sub F σ ⟨ul, m⟩ H2 l) σ ⟨ul, m⟩) H3 (Mv (sub F σ ⟨ul, m⟩ H3 l) σ ⟨ul, m⟩) H3 := fun a o n e => ⟨fun z => n ((sub_mvN (y := ⟨ul, m⟩) (u := ⟨ul, m⟩) sm0).mpr ((sub_mvN (y := ⟨ul, m⟩) (u := ⟨ul, m⟩) sm0).mp z)), e⟩
    have w4 : Wd0 C.K (sub F σ ⟨ul, m⟩ H3 l) (σ.set j (some v)) ⟨ul.set j (some xs[i]), m⟩ H3 := w3.set_z (rv.go gy)
    have eσ : (wipe σ [j]).set j (some v) = σ.set j (some v) := by rw [wz, List.set_set]
    show wipe ((wipe σ [j]).set j (some v)) [j] = wipe σ [j] ∧ tt ((wipe σ [j]).set j (some v)) H3 _
    rw [eσ]
    refine ⟨by show (σ.set j (some v)).set j none = σ.set j none; rw [List.set_set], ?_⟩
    have back : ∀ {m5 : List Cl} {l5 : List (Option Z)} {HH : Hp} {nw5 : List Cl} {acc5 : List Z}, Wd0 C.K (sub F σ ⟨ul, m⟩ H3 l) (σ.set j (some v)) ⟨l5, m5⟩ HH → l5 = ul.set j (some xs[i]) → ao m5 = ao m ++ ao nw5 → I (i + 1) acc5 m5 →
        GoH (Mv (sub F σ ⟨ul, m⟩ H3 l) σ ⟨ul, m⟩) H3 (Mv (sub F σ ⟨ul, m⟩ H3 l) σ ⟨l5, m5⟩) HH →
        Wd0 C.K (sub F σ ⟨ul, m⟩ H3 l) σ ⟨ul, m5⟩ HH ∧ (∀ a o, ¬ DomW um a → H1 a = some o → HH a = some o) ∧ HH l = some (.lst vs) ∧ ¬ Dom m5 l ∧ ∃ nw', ao m5 = ao um ++ ao nw' ∧ ∀ e ∈ nw', e.c.isRo = false ∧ H1 e.a = none := by
      intro m5 l5 HH nw5 acc5 ww e5 a5 i5 gg
      subst e5
      have hk : ∀ a o, ¬ DomW um a → H1 a = some o → HH a = some o := fun a o na e => by
        refine ww.keep a o ?_ (gr a o (kp2 a o na e))
        rintro ⟨e', h1, h2, h3⟩
        rcases cell_app am h1 with ⟨q, q1, q2, _, q4⟩ | ⟨q, q1, q2, _, q4⟩
        · exact na ⟨q, q1, q2.trans h2, q4.trans h3⟩
        · have := (fr q q1).2
          rw [q2.trans h2, e] at this
          cases this
      have hnl : ¬ DomW m l := fun z => nl2 z.dom
      have f5 : ∀ a, Dom nw5 a → DomW m5 a → H3 a = none := by
        rintro a hn ⟨e6, h1, h2, h3⟩
        rcases ww.frsh e6 h1 h3 with q | q
        · exact (dist_app a5 ww.dist (a := a) (h2 ▸ q.dom) hn).elim
        · rw [← h2]; exact q
      obtain ⟨nw', a', r'⟩ := ha _ _ _ i5
      have ee : ao nw' = ao nw ++ ao nw5 := by
        have : ao um ++ ao nw' = ao um ++ (ao nw ++ ao nw5) := by rw [← List.append_assoc, ← am, ← a5]; exact a'.symm
        exact List.append_cancel_left this
      have f6 : ∀ e ∈ nw', H1 e.a = none := by
        intro e he
        have hm : (e.a, e.own, e.c.isRo) ∈ ao nw ++ ao nw5 := by rw [← ee]; exact List.mem_map.mpr ⟨e, he, rfl⟩
        rcases List.mem_append.mp hm with h | h
        · obtain ⟨q, q1, q2⟩ := List.mem_map.mp h
          have q3 : q.a = e.a := congrArg Prod.fst q2
          exact q3 ▸ (fr q q1).2
        · have hd5 : Dom nw5 e.a := by
            obtain ⟨q, q1, q2⟩ := List.mem_map.mp h
            exact ⟨q, q1, congrArg Prod.fst q2⟩
          have hw5 : DomW m5 e.a := by
            have : (e.a, e.own, e.c.isRo) ∈ ao m5 := by rw [a5]; exact List.mem_append.mpr (.inr h)
            obtain ⟨q, q1, q2⟩ := List.mem_map.mp this
            exact ⟨q, q1, congrArg Prod.fst q2, (congrArg (fun x => x.2.2) q2).trans (r' e he)⟩
          have hn3 := f5 e.a hd5 hw5
          cases hq : H1 e.a with
          | none => rfl
          | some o =>
            by_cases hdu : DomW um e.a
            · exact (dist_app a5 ww.dist (a := e.a) ((dom_app am e.a).mpr (.inl hdu.dom)) hd5).elim
            · rw [gr _ _ (kp2 _ _ hdu hq)] at hn3
              cases hn3
      refine ⟨slot_unset ww w3.len.symm fun x e => ?_, hk, ww.keep l _ hnl hl3, ?_, nw', a', fun e he => ⟨r' e he, f6 e he⟩⟩
      · obtain ⟨u, q1, q2⟩ := w3.slot j x e
        exact ⟨u, q1, q2.go gg⟩
      · intro z
        rcases (dom_app a5 l).mp z with z1 | z1
        · exact nl2 z1
        · have hw5 : DomW m5 l := by
            obtain ⟨q, q1, q2⟩ := z1
            have hm : (q.a, q.own, q.c.isRo) ∈ ao m5 := by rw [a5]; exact List.mem_append.mpr (.inr (List.mem_map.mpr ⟨q, q1, rfl⟩))
            have hm2 : (q.a, q.own, q.c.isRo) ∈ ao nw' := by rw [ee]; exact List.mem_append.mpr (.inr (List.mem_map.mpr ⟨q, q1, rfl⟩))
            obtain ⟨p, p1, p2⟩ := List.mem_map.mp hm
            obtain ⟨p', p1', p2'⟩ := List.mem_map.mp hm2
            refine ⟨p, p1, (congrArg Prod.fst p2).trans q2, (congrArg (fun x => x.2.2) p2).trans ?_⟩
            exact (congrArg (fun x => x.2.2) p2').symm.trans (r' p' p1')
          have := f5 l z1 hw5
          rw [hl3] at this
          cases this
    refine hs i _ acc m ex hI (sub F σ ⟨ul, m⟩ H3 l) _ H3 _ w4.q fun b H5 y5 w5 g5 s5 q5 => ?_
    obtain ⟨l5, m5⟩ := y5
    cases b with
    | false =>
      obtain ⟨el5, nw5, a5⟩ := s5
      have gA : GoH (Mv (sub F σ ⟨ul, m⟩ H3 l) σ ⟨ul, m⟩) H3 (Mv (sub F σ ⟨ul, m⟩ H3 l) σ ⟨l5, m5⟩) H5 := g5
      obtain ⟨b1, b4, b5, b7, b8⟩ := back w5.toWd0 el5 a5 q5 gA
      obtain ⟨b6, gz⟩ := b1.rebN (σ := σ) (y := ⟨ul, m5⟩) (u := ⟨ul, m⟩) a5 (H' := H5) (fun a o _ e => e) (by rw [b5]; simp) b7
      exact ⟨m5, acc, vs, b6, b4, q5, b5, rv2.go ((gx.trans gA).trans gz), by omega, b7, b8⟩
    | true =>
      refine q5 (sub F σ ⟨ul, m⟩ H3 l) _ H5 _ w5 fun x6 H6 z6 y6 w6 g6 s6 r6 q6 => ?_
      obtain ⟨l6, m6⟩ := y6
      obtain ⟨el6, nw6, a6⟩ := s5.trans s6
      have gA : GoH (Mv (sub F σ ⟨ul, m⟩ H3 l) σ ⟨ul, m⟩) H3 (Mv (sub F σ ⟨ul, m⟩ H3 l) σ ⟨l6, m6⟩) H6 := g5.trans g6
      obtain ⟨b1, b4, b5, b7, b8⟩ := back w6.toWd0 el6 a6 q6 gA
      have hlen : vs.length = acc.length := rv2.len
      obtain ⟨b6, gz⟩ := b1.rebN (σ := σ) (y := ⟨ul, m6⟩) (u := ⟨ul, m⟩) a6 (H' := upd H6 l (.lst (vs ++ [x6]))) (fun a o n e => by rw [upd_ne n]; exact e) (by rw [upd_same]; simp) b7
      refine ⟨vs, b5, by omega, m6, acc ++ [z6], vs ++ [x6], b6, fun a o na e => ?_, q6, upd_same, ?_, by rw [List.length_append]; simp; omega, b7, b8⟩
      · rw [upd_ne (ne_of_none e hl)]
        exact b4 a o na e
      · exact (rv2.go ((gx.trans gA).trans gz)).app (.cons (r6.w.go gz) .nil)
  · have ei : i = xs.length := by omega
    subst ei
    refine .inl ⟨j2 (Nat.le_refl _), ?_⟩
    exact k _ H2 (.lst acc) ⟨ul, m⟩ (w1.to o1 o2) (g1.trans o2) (s1.trans ⟨rfl, nw, am⟩) (Rw.z (.lst (.inl ⟨o3, .inl hl2⟩) (rv2.go o4))) (hd acc m hI ha2)
end
/-- the cells of m, and new ones -/
def NewC (m m' : List Cl) : Prop := ∃ nw, ao m' = ao m ++ ao nw ∧ ∀ e ∈ nw, e.c.isRo = false
theorem NewC.rfl' {m : List Cl} : NewC m m := ⟨[], by simp [ao], fun e he => by cases he⟩
/-- [e for x in range(2)], turn by turn -/
theorem wE_lc2 {C : Ct} {y : S} {te : TE} {Q : Z → S → Prop} {j : Nat}
    (w : wE C.q te ⟨y.l.set j (some (.d (.int 0))), y.m⟩ fun z0 y1 => NewC y.m y1.m ∧ wE C.q te ⟨y.l.set j (some (.d (.int 1))), y1.m⟩ fun z1 y2 => NewC y.m y2.m ∧ Q (.lst [z0, z1]) ⟨y.l, y2.m⟩) :
    wE C (tLc (iRng1 (tCons (tC (.int 2)) tNil)) (gName j) tYes te [j]) y Q := by
  refine wE_lcN (wIZ_wI (wI_rng1 (wD_cons (wE_int ⟨_, rfl, wD_nil ⟨_, rfl, by decide, by decide, ?_⟩⟩))))
  refine ⟨fun i acc m => (i = 0 ∧ acc = [] ∧ m = y.m) ∨ (i = 1 ∧ NewC y.m m ∧ ∃ z0, acc = [z0] ∧ wE C.q te ⟨y.l.set j (some (.d (.int 1))), m⟩ fun z1 y2 => NewC y.m y2.m ∧ Q (.lst [z0, z1]) ⟨y.l, y2.m⟩) ∨ (2 ≤ i ∧ NewC y.m m ∧ (i = 2 → Q (.lst acc) ⟨y.l, m⟩)), by decide +kernel, ?_, .inl ⟨rfl, rfl, rfl⟩, ?_, ?_⟩
  · rintro i acc m (⟨_, _, rfl⟩ | ⟨_, h, _⟩ | ⟨_, h, _⟩)
    · exact NewC.rfl'
    · exact h
    · exact h
  · rintro i x acc m hx (⟨rfl, rfl, rfl⟩ | ⟨rfl, h, z0, rfl, hw⟩ | ⟨hi, _⟩)
    · cases hx
      refine wT_yes ?_
      exact wE_mono w fun z0 y1 ⟨h1, h2⟩ => .inr (.inl ⟨rfl, h1, z0, rfl, h2⟩)
    · cases hx
      refine wT_yes ?_
      exact wE_mono hw fun z1 y2 ⟨h1, h2⟩ => .inr (.inr ⟨Nat.le_refl 2, h1, fun _ => h2⟩)
    · have : i < 2 := (List.getElem?_eq_some_iff.mp hx).1
      omega
  · rintro acc m (⟨h, _⟩ | ⟨h, _⟩ | ⟨_, _, h⟩) _
    · cases h
    · cases h
    · exact h rfl
/-- what stands between two cells of the script, a thing made ahead of them too -/
def cellEnd1 (n : Nat) (s w : D) (y : S) : Prop := y.l.length = n + 3 ∧ y.l[0]? = some (some (.d s)) ∧ y.l[1]? = some (some (.d w))
theorem law_loop1 {K : Fg} {tb : TS} {e : En} {ns : List Int} {c : Int} {n : Nat} {dw : D} (hc : 0 ≤ c ∧ c ≤ 900) (hz : ∀ y, e.rt (.d (.bool true)) y)
    (hb : ∀ k : Int, 0 ≤ k → k < 1000 → wS { K := K } tb ⟨some (.d (.list (ns.map PyData.int))) :: some (.d dw) :: some (.d (.int k)) :: List.replicate n none, []⟩
      { nx := cellEnd1 n (.list (ns.map PyData.int)) dw, ct := cellEnd1 n (.list (ns.map PyData.int)) dw, bk := fun y1 => wS { K := K } (tRet (tC (.bl true))) y1 e, rt := e.rt }) :
    wS { K := K } (tSeq (tFor (iRng1 (tCons (tCB rMx (tCons (tC (.int 2)) (tCons (tCB rMn (tCons (tC (.int c)) (tCons (tCB (rLenD K) (tCons (tVar 0) tNil)) tNil))) tNil))) tNil)) (gName 2) tb) (tRet (tC (.bl true))))
      ⟨some (.d (.list (ns.map PyData.int))) :: some (.d dw) :: none :: List.replicate n none, []⟩ e := by
  refine wS_seq (wS_for (wI_rng1 (wD_cons (wE_max2 (wD_cons (wE_int ⟨_, rfl, wD_cons (wE_min2 (wD_cons (wE_int ⟨_, rfl, wD_cons (wE_len (wD_cons (wE_var rfl ⟨_, rfl, wD_nil ⟨_, _, rfl, rfl, ?_⟩⟩))) ⟩)))⟩))))))
  refine ⟨_, rfl, wD_nil ⟨_, _, rfl, _, rfl, wD_nil ⟨_, _, rfl, _, rfl, wD_nil ⟨_, rfl, ?_⟩⟩⟩⟩
  rw [List.length_map]
  generalize hj : (if (if (ns.length : Int) < c then (ns.length : Int) else c) > 2 then (if (ns.length : Int) < c then (ns.length : Int) else c) else 2) = j
  have h1 : 2 ≤ j ∧ j ≤ 900 := by
    rw [← hj]
    constructor
    · split <;> omega
    · split
      · split <;> omega
      · omega
  refine ⟨by omega, by omega, fun _ y => cellEnd1 n (.list (ns.map PyData.int)) dw y, ⟨by simp, rfl, rfl⟩, fun i x y2 hx ⟨hy1, hy2, hy3⟩ => ?_, fun y2 _ => wS_ret (wE_bl (hz _))⟩
  obtain ⟨hi, rfl⟩ := rangeD_get hx
  refine wG_name (wS_weak (hb (0 + (i : Int)) (by omega) (by omega)) ⟨by show _ = (y2.l.set 2 _).length; rw [List.length_set, hy1]; simp, fun k z e => ?_, List.nil_sublist _⟩)
  show (y2.l.set 2 _)[k]? = some (some z)
  match k, e with
  | 0, e =>
    cases e
    rw [List.getElem?_set_ne (by decide)]
    exact hy2
  | 1, e =>
    cases e
    rw [List.getElem?_set_ne (by decide)]
    exact hy3
  | 2, e =>
    cases e
    exact List.getElem?_set_self (by omega)
  | k + 3, e =>
    have e2 : (List.replicate n (none : Option Z))[k]? = some (some z) := e
    rw [List.getElem?_replicate] at e2
    split at e2 <;> cases e2
end Ux

set_option maxRecDepth 100000
set_option maxHeartbeats 4000000
namespace Tq
open PySem PySem.Spec PyProof.Rows L2
open PySem.NumText (digitsVal AllDigits)
def topS (i : Nat) : Stmt := PySem.Challenge.pw_termstream_k28_rows_asked.main.body.getD i (.Pass ⟨0, 0, 0, 0⟩)
local macro_rules | `(tactic| walk_at "less") => `(tactic| (repeat' (first | exact less_nil | refine less_none ?_ | refine less_some ?_)))
local macro_rules | `(tactic| walk_at "bd") => `(tactic| (repeat' (first | assumption | with_reducible apply Bd.mul | with_reducible apply Bd.add | with_reducible apply Bd.sub | with_reducible apply Bd.neg | (with_reducible apply Bd.div; rotate_left; omega) | exact Bd.lit (k := 40) (by first | decide | omega))))
local macro_rules | `(tactic| walk_at "dq") => `(tactic| (first
  | (with_reducible show wS _ _ (List.set _ _ _) _; refine wS_norm (by simp only [List.set]; first | done | exact rfl) ?_)
  | (with_reducible show wE _ (tVar _) _ _; first | refine wE_var rfl ?_ | refine wE_ptr rfl ?_)
  | (with_reducible show wE _ (tC (.int _)) _ _; refine wE_int ?_)
  | (with_reducible show wE _ (tC (.str _)) _ _; refine wE_str ?_)
  | (with_reducible show wE _ (tC (.bl _)) _ _; refine wE_bl ?_)
  | (with_reducible show wE _ (tC .non) _ _; refine wE_non ?_)
  | (with_reducible show wD _ (tCons _ _) _ _; refine wD_cons ?_)
  | (with_reducible show wD _ tNil _ _; refine wD_nil ?_)
  | (with_reducible show wE _ (tOp (rI0 _) _ _) _ _; first | with_reducible refine wE_add ?_ | with_reducible refine wE_sub ?_ | with_reducible refine wE_lt ?_ | with_reducible refine wE_le ?_ | with_reducible refine wE_gt ?_ | with_reducible refine wE_ge ?_)
  | (with_reducible show wE _ (tOp (rI CPow _) (tC _) (tC _)) _ _; refine wE_powN ?_)
  | (with_reducible show wE _ (tDisp _) _ _; first | refine wE_dispS (by constructor) ?_ | refine wE_dispI (by constructor) ?_)
  | (with_reducible show wE _ (tCall (spTake _) _ _ _) _ _; refine wE_take rfl ?_)
  | (with_reducible show wE _ (tOp (rI _ _) _ _) _ _; first | with_reducible refine wE_mod ?_ | with_reducible refine wE_fdivW ?_ | with_reducible refine wE_mulW ?_ | with_reducible refine wE_pow ?_ | with_reducible refine wE_fdivZ ?_ | with_reducible refine wE_modN ?_ | with_reducible refine wE_mul ?_)
  | (with_reducible show wE _ (tOp (rIx _) _ _) _ _; refine wE_ix ?_)
  | (with_reducible show wE _ (tOp (rCatG _) _ _) _ _; refine wE_catG ?_)
  | (with_reducible show wE _ (tOp rEq _ _) _ _; refine wE_eqS ?_)
  | (with_reducible show wE _ (tOp rNe _ _) _ _; refine wE_neS ?_)
  | (with_reducible show wE _ (tOp (rEqD _) _ _) _ _; refine wE_eqD ?_)
  | (with_reducible show wE _ (tOp (rNeD _) _ _) _ _; refine wE_neD ?_)
  | (with_reducible show wE _ (tOp _ _ _) _ _; first | with_reducible refine wE_addS ?_ | with_reducible refine wE_isN ?_ | with_reducible refine wE_notN ?_ | with_reducible refine wE_inSign ?_ | with_reducible refine wE_ltS ?_ | with_reducible refine wE_leS ?_)
  | (with_reducible show wE _ (tUn _ _) _ _; refine wE_neg ?_)
  | (with_reducible show wE _ (tLst _) _ _; refine wE_lst ?_)
  | (with_reducible show wE _ (tTup _) _ _; refine wE_tup ?_)
  | (with_reducible show wE _ tDNewK _ _; refine wE_dnew ?_)
  | (with_reducible show wE _ (tCB (rIsi _) _) _ _; refine wE_isi ?_)
  | (with_reducible show wE _ (tCB (rIsiT _) _) _ _; refine wE_isi2 ?_)
  | (with_reducible show wE _ (tCB (rAll _) _) _ _; refine wE_all ?_)
  | (with_reducible show wE _ (tCB (rAny _) _) _ _; refine wE_any ?_)
  | (with_reducible show wE _ (tCB (rSum _) _) _ _; refine wE_sum ?_)
  | (with_reducible show wE _ (tCB (rReprX _) _) _ _; refine wE_reprX ?_)
  | (with_reducible show wE _ (tRev2 _ _) _ _; refine wE_rev2 ?_)
  | (with_reducible show wE _ (tRev1 _ _) _ _; refine wE_rev1 ?_)
  | (with_reducible show wE _ (tCB (rRepr _) _) _ _; refine wE_reprS ?_)
  | (with_reducible show wE _ (tCB _ _) _ _; first | refine wE_len ?_ | with_reducible refine wE_abs ?_ | with_reducible refine wE_max2 ?_ | with_reducible refine wE_min2 ?_ | with_reducible refine wE_strI ?_ | with_reducible refine wE_intS ?_ | with_reducible refine wE_int1 ?_ | refine wE_listOf ?_ | refine wE_tupOf ?_)
  | (with_reducible show wE _ (tCall (detSp _ _ _ _) _ _ _) _ _; refine wE_det ?_)
  | (with_reducible show wE _ (tCall (pureSp _ _ _ _) _ _ _) _ _; refine wE_pure ?_)
  | (with_reducible show wE _ (tCall (puSp _ _ _ _ _) _ _ _) _ _; refine wE_pu rfl ?_)
  | (with_reducible show wE _ (tSl _ _ _ _) _ _; refine wE_sl ?_)
  | (with_reducible show wO _ tNoPart _ _; refine wO_no ?_)
  | (with_reducible show wO _ (tPart _) _ _; refine wO_part ?_)
  | (with_reducible show wE _ (tChain _ _ _ _ _) _ _; first | with_reducible refine wE_chainI ?_ | with_reducible refine wE_chainS ?_)
  | (with_reducible show wE _ (tAndV _ _) _ _; refine wE_andV ?_)
  | (with_reducible show wE _ (tOrV _ _) _ _; refine wE_orV ?_)
  | (with_reducible show wE _ (tNotV _) _ _; refine wE_notV ?_)
  | (with_reducible show wE _ (tIf _ _ _) _ _; refine wE_if ?_)
  | (with_reducible show wE _ (tM1 _ _ _) _ _; first | with_reducible refine wE_starts ?_ | with_reducible refine wE_index ?_ | refine wE_join ?_)
  | (with_reducible show wT _ (tTest _) _ _; refine wT_test ?_)
  | (with_reducible show wT _ (tB _) _ _; refine wT_B ?_)
  | (with_reducible show wT _ (tAnd _ _) _ _; refine wT_and ?_)
  | (with_reducible show wT _ (tOr _ _) _ _; refine wT_or ?_)
  | (with_reducible show wT _ (tNot _) _ _; refine wT_not ?_)
  | (with_reducible show wT _ tYes _ _; refine wT_yes ?_)
  | (with_reducible show wS _ (tSeq (tAsg (tLst _) (gName _)) (tSeq (tDrop (tBM _ _ rAppend _ _)) _)) _ _; refine wS_seq (wS_own ?_))
  | (with_reducible show wS _ (tSeq (tDrop (tBM _ _ rAppend (tVar _) _)) _) _ _; refine wS_seq (wS_app rfl ?_))
  | (with_reducible show wS _ (tSeq (tAsg (tCall spPurse _ _ _) _) _) _ _; refine wS_seq (wS_purse ?_))
  | (with_reducible show wS _ (tSeq (tAsg _ (gName _)) _) _ _; refine wS_seqA ?_)
  | (with_reducible show wS _ (tSeq (tPar _ _ _) _) _ _; refine wS_seqP ?_)
  | (with_reducible show wS _ (tSeq (tIfS _ _ tNext) _) _ _; refine wS_seqI ?_)
  | (with_reducible show wS _ (tDrop (tCall _ _ _ _)) _ _; refine wS_drop ?_)
  | (with_reducible show wS _ (tSeq _ _) _ _; refine wS_seq ?_)
  | (with_reducible show wS _ (tAsg _ (gName _)) _ _; refine wS_asg ?_)
  | (with_reducible show wS _ (tAsg _ _) _ _; refine wS_asgG ?_)
  | (with_reducible show wS _ (tPar _ _ _) _ _; refine wS_par ?_)
  | (with_reducible show wS _ (tIfS _ _ tNext) _ _; refine wS_ifN ?_)
  | (with_reducible show wS _ (tIfS _ _ _) _ _; refine wS_if ?_)
  | (with_reducible show wS _ (tRet _) _ _; refine wS_ret ?_)
  | (with_reducible show wS _ tRetN _ _; refine wS_retN ?_)
  | (with_reducible show wS _ tNext _ _; refine wS_next ?_)
  | (with_reducible show wS _ (tAug _ _ _) _ _; refine wS_aug rfl ?_)
  | (with_reducible show wI _ (iList _ _) _ _; refine wI_list ?_)
  | (with_reducible show wI _ (iTup _ _) _ _; refine wI_tup ?_)
  | (with_reducible show wI _ (iAny _ _) _ _; refine wI_any rfl rfl ?_)
  | (with_reducible show wI _ (iStr _) _ _; refine wI_str ?_)
  | (with_reducible show wI _ (iRng1 _) _ _; refine wI_rng1 ?_)
  | (with_reducible show wI _ (iRng2 _) _ _; refine wI_rng2 ?_)
  | (with_reducible show wG _ (gName _) _ _ _; refine wG_name ?_)
  | (with_reducible show wG _ (gTup _ _ _) _ _ _; refine wG_tup rfl ?_)
  | (with_reducible show wGs _ (gCons _ _) _ _ _; refine wGs_cons ?_)
  | (with_reducible show wGs _ gNil _ _ _; refine wGs_nil ?_)
  | (with_reducible show ite _ _ _; first | refine itb_t rfl ?_ | refine itb_f rfl ?_)
  | (with_reducible show @Exists _ _; first | refine ⟨_, _, rfl, rfl, by omega, fun r h0 h1 => ?_⟩ | refine ⟨_, rfl, ?_⟩ | refine ⟨_, _, rfl, dLen_str (by first | omega | decide), ?_⟩ | refine ⟨_, _, rfl, dCut_str (by first | omega | decide) _ _, ?_⟩ | refine ⟨_, _, rfl, rfl, sz_small (by first | omega | (simp only [strLen_append]; omega)), ?_⟩ | refine ⟨_, _, rfl, rfl, ?_⟩ | refine ⟨_, _, rfl, ?_⟩ | refine ⟨_, _, _, rfl, rfl, rfl, ?_⟩ | refine ⟨_, _, _, rfl, rfl, ?_⟩)
  | (with_reducible show CMulW _ _ ∧ _; refine ⟨Bd.mulW (by walk_at "bd") (by walk_at "bd"), ?_⟩)
  | (with_reducible show CDivW _ _ ∧ _; refine ⟨Bd.divW (by walk_at "bd") (by omega), ?_⟩)
  | (with_reducible show _ ∧ _; first | (refine ⟨sz_small ?_, ?_⟩; focus first | (simp; done) | (simp only [List.length_map, List.length_append, List.length_take, List.length_drop, List.length_cons, List.length_nil]; omega)) | (refine ⟨sz_lt1 ?_, ?_⟩; focus first | (simp; done) | (simp only [List.length_map, List.length_append, List.length_take, List.length_drop, List.length_cons, List.length_nil]; omega)) | refine and_sw ?_ ⟨rfl, trivial⟩ | refine and_sw ?_ ⟨rfl, ⟨_, rfl⟩⟩ | refine and_sw ?_ ⟨rfl, ⟨_, _, rfl⟩⟩ | refine and_sw ?_ ⟨rfl, ⟨_, _, _, rfl⟩⟩ | refine and_sw ?_ ⟨rfl, ⟨_, rfl, ?_⟩⟩ | refine and_sw ?_ ⟨rfl, ⟨_, _, rfl, ?_⟩⟩ | refine ⟨rfl, ?_⟩ | refine ⟨trivial, ?_⟩ | refine ⟨by omega, ?_⟩)
  | (with_reducible show _ ≤ sizeLine; exact sz_small (by omega))
  | fail))

def aD : Option Int → D
  | none => .none
  | some i => .int i
def oI : D → Option Int
  | .int i => some i
  | _ => none
theorem oI_aD (a : Option Int) : oI (aD a) = a := by cases a <;> rfl
theorem sh_aD (a : Option Int) : SeqAt.shaped (aD a) = true := by cases a <;> rfl
theorem dIx_ints {d : D} {ts : List Int} (h : intsD d = some ts) {i : Nat} (hi : i < ts.length) : dIx d (i : Int) = some (.int (ts.getD i 0)) := by
  rw [List.getD_eq_getElem?_getD, List.getElem?_eq_getElem hi]
  exact dIx_int h (List.getElem?_eq_getElem hi)
theorem dIx_last {d : D} {ts : List Int} (h : intsD d = some ts) (hn : ts ≠ []) : dIx d (-1) = some (.int (ts.getLastD 0)) := by
  have key : atI (ts.map PyData.int) (-1) = some (.int (ts.getLastD 0)) := by
    rw [atI_last (by intro h; rw [List.map_eq_nil_iff] at h; exact hn h), List.getLast?_map, List.getLastD_eq_getLast?]
    cases q : ts.getLast? with
    | none => rw [List.getLast?_eq_none_iff] at q; exact absurd q hn
    | some l => rfl
  unfold intsD at h
  cases d with
  | list xs =>
    have h : allInts xs = some ts := h
    rw [allInts_some h]
    exact key
  | tuple xs =>
    have h : allInts xs = some ts := h
    rw [allInts_some h]
    exact key
  | _ => cases h
abbrev sp_is_manner (K : Fg) : Sp := detSp K 1 (fun _ => True) (fun ds => .bool (mnOf (a0 ds)).isSome)

theorem inD_mn (s : Str) : inD (.str s) [.str "floor", .str "ceil", .str "near"] = (mnOf (.str s)).isSome := by
  have e : inD (.str s) [.str "floor", .str "ceil", .str "near"] = (decide (s = "floor") || (decide (s = "ceil") || (decide (s = "near") || false))) := by
    have er : ∀ a b : Str, eqF (.str a) (.str b) = decide (b = a) := fun a b => by
      show (a == b) = decide (b = a)
      by_cases h : a = b
      · rw [h, decide_eq_true rfl]; exact beq_self_eq_true b
      · rw [decide_eq_false (fun z => h z.symm)]; exact beq_eq_false_iff_ne.mpr h
    show ((eqF (.str "floor") (.str s)) || ((eqF (.str "ceil") (.str s)) || ((eqF (.str "near") (.str s)) || false))) = _
    rw [er, er, er]
  rw [e]
  unfold mnOf
  dsimp only
  by_cases h1 : s = "floor"
  · rw [if_pos h1, decide_eq_true h1]; rfl
  · rw [if_neg h1, decide_eq_false h1]
    by_cases h2 : s = "ceil"
    · rw [if_pos h2, decide_eq_true h2]; rfl
    · rw [if_neg h2, decide_eq_false h2]
      by_cases h3 : s = "near"
      · rw [if_pos h3, decide_eq_true h3]; rfl
      · rw [if_neg h3, decide_eq_false h3]; rfl

abbrev sp_law_size (K : Fg) : Sp := puSp K 1 (fun ds => ∃ l : Int, ds = [.int l] ∧ 1 ≤ l ∧ l ≤ 2) (fun _ => 2) (fun ds r => ∃ n : Int, r = .int n ∧ n ≤ 10 ^ 12 ∧ ∀ l : Int, ds = [.int l] → l ≤ n)

section
variable {P : Program} {w : World} {K : Fg} {mg : Str → Option Value} {base : Heap}
abbrev s_is_number : Stmt := topS 15
abbrev N_is_number : List Str := ["thing"]
theorem sc_is_number : FnScope N_is_number ["thing"] (defScope s_is_number) := ⟨rfl, rfl, rfl, by decide +kernel, rfl, by decide +kernel, by decide +kernel⟩
theorem ok_is_number (d : Df K mg "is_number" s_is_number ["thing"]) (b_bool : mg "bool" = none) (b_int : mg "int" = none) (b_isinstance : mg "isinstance" = none) : Cal P w K mg base 1 "is_number" ["thing"] (sp_is_number K) := by
  refine d.ok sc_is_number (pureSp_len rfl) (fun f cdv A outer s H vs Q E hr hgu h => ?_)
  refine ⟨_, (pss_one (ps_ret (pe_and (pe_callB (isiK K) (by rfl) b_isinstance (by decide +kernel) (pa_cons (pv 0) (pa_cons (pe_bltn (v := .ty "int") (by rfl) b_int (by decide +kernel) rfl) pa_nil))) (pe_one (pe_not (pe_callB (isiK K) (by rfl) b_isinstance (by decide +kernel) (pa_cons (pv 0) (pa_cons (pe_bltn (v := .ty "bool") (by rfl) b_bool (by decide +kernel) rfl) pa_nil)))))))), ?_⟩
  try dsimp only [cxOf]
  refine pure_body h (fun ds hl hp e hn hz => ?_)
  obtain ⟨x, rfl⟩ : ∃ x, ds = [x] := len1 hl
  show wS _ _ [some (.d x)] _
  repeat' walk_at "dq"
  refine ite2 (fun b => ?_) (fun b => ?_)
  · repeat' walk_at "dq"
    refine hz _ _ ?_
    show PyData.bool (!isT "bool" x) = .bool (isNum x)
    rw [isNum_eq, b]; rfl
  · refine hz _ _ ?_
    show PyData.bool false = .bool (isNum x)
    rw [isNum_eq, Bool.eq_false_iff.mpr b]; rfl
abbrev s_is_whole : Stmt := topS 16
abbrev N_is_whole : List Str := ["thing", "low", "high"]
theorem sc_is_whole : FnScope N_is_whole ["thing", "low", "high"] (defScope s_is_whole) := ⟨rfl, rfl, rfl, by decide +kernel, rfl, by decide +kernel, by decide +kernel⟩
theorem ok_is_whole (d : Df K mg "is_whole" s_is_whole ["thing", "low", "high"]) (c_is_number : Cal P w K mg base 1 "is_number" ["thing"] (sp_is_number K)) : Cal P w K mg base 2 "is_whole" ["thing", "low", "high"] (sp_is_whole K) := by
  refine d.ok sc_is_whole (pureSp_len rfl) (fun f cdv A outer s H vs Q E hr hgu h => ?_)
  refine ⟨_, (pss_one (ps_ret (pe_and (pe_cal c_is_number (hr.mono (by decide)) hgu (by rfl) (pa_cons (pv 0) pa_nil)) (pe_one (pe_chain op_le op_le (pv 1) (pv 0) (pv 2)))))), ?_⟩
  try dsimp only [cxOf]
  refine pure_body h (fun ds hl hp e hn hz => ?_)
  obtain ⟨x, lo, hi, rfl⟩ := hp
  show wS _ _ [some (.d x), some (.d (.int lo)), some (.d (.int hi))] _
  repeat' walk_at "dq"
  refine ite2 (fun b => ?_) (fun b => ?_)
  · obtain ⟨i, rfl⟩ : ∃ i, x = .int i := by cases x <;> first | exact ⟨_, rfl⟩ | cases b
    repeat' walk_at "dq"
    refine ite2 (fun b1 => ?_) (fun b1 => ?_)
    · repeat' walk_at "dq"
      refine hz _ _ ?_
      show PyData.bool (decide (i ≤ hi)) = .bool (decide (lo ≤ i) && decide (i ≤ hi))
      rw [b1]; rfl
    · refine hz _ _ ?_
      show PyData.bool false = .bool (decide (lo ≤ i) && decide (i ≤ hi))
      rw [Bool.eq_false_iff.mpr b1]; rfl
  · refine hz _ _ ?_
    show PyData.bool false = .bool (wholeB x lo hi)
    cases x <;> first | rfl | exact absurd rfl b
abbrev s_law_cell : Stmt := topS 64
abbrev N_law_cell : List Str := ["_law_script", "_law_k"]
theorem sc_law_cell : FnScope N_law_cell ["_law_script", "_law_k"] (defScope s_law_cell) := ⟨rfl, rfl, rfl, by decide +kernel, rfl, by decide +kernel, by decide +kernel⟩
theorem ok_law_cell (d : Df K mg "_law_cell" s_law_cell ["_law_script", "_law_k"]) (b_len : mg "len" = none) : Cal P w K mg base 1 "_law_cell" ["_law_script", "_law_k"] (sp_law_cell K) := by
  refine d.ok sc_law_cell (pureSp_len rfl) (fun f cdv A outer s H vs Q E hr hgu h => ?_)
  refine ⟨_, (pss_cons (ps_if (pt_cmpR op_lt (pv 1) (pe_callB (lenK K) (by rfl) b_len (by decide +kernel) (pa_cons (pv 0) pa_nil)) (nomark _)) (pss_one (ps_ret (pe_ix (ixK K) (pv 0) (pv 1) (fun _ _ => rfl)))) pss_nil)
    (pss_one (ps_ret (pe_op op_add (pe_op op_mulW pe_int (pv 1)) pe_int)))), ?_⟩
  try dsimp only [cxOf]
  refine pure_body h (fun ds hl hp e hn hz => ?_)
  obtain ⟨ns, k, rfl, k0, k1⟩ := hp
  show wS _ _ [some (.d (.list (ns.map PyData.int))), some (.d (.int k))] _
  repeat' walk_at "dq"
  refine ite2 (fun b => ?_) (fun b => ?_)
  · repeat' walk_at "dq"
    obtain ⟨x, hx, hm⟩ := atI_mem (xs := ns.map PyData.int) k0 (of_decide_eq_true b)
    refine ⟨_, _, x, rfl, rfl, hx, hz _ _ ?_⟩
    obtain ⟨n, _, rfl⟩ := List.mem_map.mp hm
    exact ⟨n, rfl⟩
  · repeat' walk_at "dq"
    exact hz _ _ ⟨_, rfl⟩
abbrev s_law_purse : Stmt := topS 65
abbrev N_law_purse : List Str := ["_law_cell_here"]
theorem sc_law_purse : FnScope N_law_purse ["_law_cell_here"] (defScope s_law_purse) := ⟨rfl, rfl, rfl, by decide +kernel, rfl, by decide +kernel, by decide +kernel⟩
theorem ok_law_purse (d : Df K mg "_law_purse" s_law_purse ["_law_cell_here"]) (b_max : mg "max" = none) : Cal P w K mg base 1 "_law_purse" ["_law_cell_here"] (sp_law_purse K) := by
  refine d.ok sc_law_purse (fun vs H Q E z => by obtain ⟨c, rfl, _⟩ := z; rfl) (fun f cdv A outer s H vs Q E hr hgu h => ?_)
  exact ⟨t_purse, (pss_one (ps_ret (pe_lst (pa_cons (pe_callB (call_max2 rfl) (by rfl) b_max (by decide +kernel) (pa_cons pe_int (pa_cons (pe_op op_sub (pv 0) (pe_op op_pow pe_int pe_int)) pa_nil))) (pa_cons (pe_op op_mod (pv 0) pe_int) (pa_cons pe_int pa_nil)))))), purse_read rfl h⟩
abbrev s_law_take : Stmt := topS 66
abbrev N_law_take : List Str := ["_law_purse_here", "_law_many", "_law_digit", "_law_one", "_law_other"]
theorem sc_law_take : FnScope N_law_take ["_law_purse_here", "_law_many"] (defScope s_law_take) := ⟨rfl, rfl, rfl, by decide +kernel, rfl, by decide +kernel, by decide +kernel⟩
theorem ok_law_take (d : Df K mg "_law_take" s_law_take ["_law_purse_here", "_law_many"])  : Cal P w K mg base 1 "_law_take" ["_law_purse_here", "_law_many"] (sp_law_take K) := by
  refine d.ok sc_law_take (puSp_len rfl) (fun f cdv A outer s H vs Q E hr hgu h => ?_)
  exact ⟨t_take2 K _ _ _, (pss_cons (ps_if (pt_cmpR op_gt (pe_ix (ixK K) (pv 0) pe_int (fun _ _ => rfl)) pe_int (nomark _)) (pss_cons (ps_set (i := 2) sc_law_take.nd rfl (Or.inl rfl) (pe_op op_mod (pe_ix (ixK K) (pv 0) pe_int (fun _ _ => rfl)) (pv 1)))
    (pss_cons (ps_asg (pe_op op_fdivW (pe_ix (ixK K) (pv 0) pe_int (fun _ _ => rfl)) (pv 1)) (pg_sub (pv 0) pe_int set_list))
    (pss_one (ps_ret (pv 2))))) pss_nil)
    (pss_cons (ps_asg (pe_op op_add (pe_ix (ixK K) (pv 0) pe_int (fun _ _ => rfl)) pe_int) (pg_sub (pv 0) pe_int set_list))
    (pss_cons (ps_set (i := 3) sc_law_take.nd rfl (Or.inl rfl) (pe_op op_mod (pe_op op_pow (pe_op op_add (pe_op op_add (pe_ix (ixK K) (pv 0) pe_int (fun _ _ => rfl)) (pe_op op_mul pe_int (pe_ix (ixK K) (pv 0) pe_int (fun _ _ => rfl)))) pe_int) pe_int) pe_int))
    (pss_cons (ps_set (i := 4) sc_law_take.nd rfl (Or.inl rfl) (pe_op op_mod (pe_op op_pow (pe_op op_add (pe_op op_mul (pe_ix (ixK K) (pv 0) pe_int (fun _ _ => rfl)) (pe_ix (ixK K) (pv 0) pe_int (fun _ _ => rfl))) pe_int) pe_int) pe_int))
    (pss_one (ps_ret (pe_op op_mod (pe_op op_fdivW (pe_op op_add (pe_op op_mul (pv 3) pe_int) (pv 4)) pe_int) (pv 1)))))))), take2_read (by decide) (by decide) (by decide) rfl h⟩
abbrev s_law_size : Stmt := topS 67
abbrev N_law_size : List Str := ["_law_purse_here", "_law_low", "_law_way"]
theorem sc_law_size : FnScope N_law_size ["_law_purse_here", "_law_low"] (defScope s_law_size) := ⟨rfl, rfl, rfl, by decide +kernel, rfl, by decide +kernel, by decide +kernel⟩
theorem ok_law_size (d : Df K mg "_law_size" s_law_size ["_law_purse_here", "_law_low"]) (c_law_take : Cal P w K mg base 1 "_law_take" ["_law_purse_here", "_law_many"] (sp_law_take K)) : Cal P w K mg base 2 "_law_size" ["_law_purse_here", "_law_low"] (sp_law_size K) := by
  refine d.ok sc_law_size (puSp_len rfl) (fun f cdv A outer s H vs Q E hr hgu h => ?_)
  refine ⟨_, (pss_cons (ps_set (i := 2) sc_law_size.nd rfl (Or.inl rfl) (pe_cal c_law_take (hr.mono (by decide)) hgu (by rfl) (pa_cons (pv 0) (pa_cons pe_int pa_nil))))
    (pss_cons (ps_if (pt_cmpR op_eq (pv 2) pe_int (nomark _)) (pss_one (ps_ret (pe_op op_add (pv 1) (pe_cal c_law_take (hr.mono (by decide)) hgu (by rfl) (pa_cons (pv 0) (pa_cons (pe_op op_sub (pe_op op_pow pe_int pe_int) (pv 1)) pa_nil)))))) pss_nil)
    (pss_one (ps_ret (pe_op op_add (pv 1) (pe_cal c_law_take (hr.mono (by decide)) hgu (by rfl) (pa_cons (pv 0) (pa_cons (pe_ix (ixK K) (pe_lst (pa_cons pe_int (pa_cons pe_int (pa_cons pe_int (pa_cons pe_int (pa_cons pe_int pa_nil)))))) (pe_op op_sub (pv 2) pe_int) (fun _ _ => rfl)) pa_nil)))))))), ?_⟩
  try dsimp only [cxOf]
  refine pu_body h (fun ds m hl hp hc e hn hz => ?_)
  obtain ⟨l, rfl, l1, l2⟩ := hp
  have hc : 2 ≤ m := hc
  show wS _ _ [some (.pu m), some (.d (.int l)), none] _
  repeat' walk_at "dq"
  rename_i w w0 w1
  have fin : ∀ (n : Int) (m' : Nat), l ≤ n → n ≤ 10 ^ 12 → m - 2 ≤ m' → e.rt (.d (.int n)) [some (.pu m'), some (.d (.int l)), some (.d (.int w))] := fun n m' h1 h2 h3 => hz _ _ _ ⟨n, rfl, h2, fun l' e' => by cases e'; exact h1⟩ rfl h3
  refine ite2 (fun c => ?_) (fun c => ?_)
  · have c := of_decide_eq_true c
    repeat' walk_at "dq"
    rename_i r r0 r1
    exact fin (l + r) _ (by omega) (by omega) (by omega)
  · have c := of_decide_eq_false (Bool.eq_false_iff.mpr c)
    repeat' walk_at "dq"
    obtain ⟨x, hx, hm⟩ := atI_mem (xs := ([PyData.int 1, PyData.int 1, PyData.int 2, PyData.int 5, PyData.int 40] : List D)) (i := w - 1) (by omega) (by show w - 1 < 5; omega)
    obtain ⟨n, rfl, n0, n1⟩ : ∃ n : Int, x = .int n ∧ 1 ≤ n ∧ n ≤ 40 := by
      simp only [List.mem_cons, List.not_mem_nil, or_false] at hm
      rcases hm with rfl | rfl | rfl | rfl | rfl <;> exact ⟨_, rfl, by decide, by decide⟩
    refine ⟨_, _, _, rfl, rfl, hx, ?_⟩
    repeat' walk_at "dq"
    rename_i r r0 r1
    exact fin (l + r) _ (by omega) (by omega) (by omega)
abbrev s_is_manner : Stmt := topS 27
abbrev N_is_manner : List Str := ["thing"]
theorem sc_is_manner : FnScope N_is_manner ["thing"] (defScope s_is_manner) := ⟨rfl, rfl, rfl, by decide +kernel, rfl, by decide +kernel, by decide +kernel⟩
theorem ok_is_manner (d : Df K mg "is_manner" s_is_manner ["thing"]) (b_isinstance : mg "isinstance" = none) (b_str : mg "str" = none) {a_MANNERS : Addr} (m_MANNERS : Tq.GD K mg "MANNERS" a_MANNERS (PyData.tuple [(.str "floor"), (.str "ceil"), (.str "near")])) : Cal P w K mg base 1 "is_manner" ["thing"] (sp_is_manner K) := by
  refine d.ok sc_is_manner (pureSp_len rfl) (fun f cdv A outer s H vs Q E hr hgu h => ?_)
  refine ⟨_, (pss_one (ps_ret (pe_and (pe_callB (isiK K) (by rfl) b_isinstance (by decide +kernel) (pa_cons (pv 0) (pa_cons (pe_bltn (v := .ty "str") (by rfl) b_str (by decide +kernel) rfl) pa_nil))) (pe_one (pe_cmpR (inK K) (pv 0) (pe_glob (v := .ref a_MANNERS) (by rfl) m_MANNERS.m rfl) (by rfl)))))), ?_⟩
  try dsimp only [cxOf]
  refine pure_body h (fun ds hl hp e hn hz => ?_)
  obtain ⟨x, rfl⟩ : ∃ x, ds = [x] := len1 hl
  show wS _ _ [some (.d x)] _
  repeat' walk_at "dq"
  rw [isT_str]
  cases x with
  | str s =>
    repeat' walk_at "dq"
    refine wE_inT (wE_var rfl (wE_gd m_MANNERS.r ⟨_, _, rfl, .inl rfl, rfl, rfl, ?_⟩))
    refine hz _ _ ?_
    show PyData.bool (inD (.str s) [.str "floor", .str "ceil", .str "near"]) = .bool (mnOf (.str s)).isSome
    rw [inD_mn]
  | _ => exact hz _ _ rfl
end
end Tq
namespace Ux
open PySem PySem.Spec PyProof.Rows L2 Tq
open PySem.NumText (digitsVal AllDigits)
local macro_rules | `(tactic| walk_at "fld") => `(tactic| (first
  | (refine ⟨_, 0, _, _, _, _, _, _, _, rfl, rfl, rfl, ?_, rfl, rfl, ?_⟩; (exact AtC.get (by assumption) (by decide)); try dsimp only [])
  | (refine ⟨_, 1, _, _, _, _, _, _, _, rfl, rfl, rfl, ?_, rfl, rfl, ?_⟩; (exact AtC.get (by assumption) (by decide)); try dsimp only [])
  | (refine ⟨_, 2, _, _, _, _, _, _, _, rfl, rfl, rfl, ?_, rfl, rfl, ?_⟩; (exact AtC.get (by assumption) (by decide)); try dsimp only [])
  | (refine ⟨_, 3, _, _, _, _, _, _, _, rfl, rfl, rfl, ?_, rfl, rfl, ?_⟩; (exact AtC.get (by assumption) (by decide)); try dsimp only [])
  | (refine ⟨_, 4, _, _, _, _, _, _, _, rfl, rfl, rfl, ?_, rfl, rfl, ?_⟩; (exact AtC.get (by assumption) (by decide)); try dsimp only [])
  | (refine ⟨_, 5, _, _, _, _, _, _, _, rfl, rfl, rfl, ?_, rfl, rfl, ?_⟩; (exact AtC.get (by assumption) (by decide)); try dsimp only [])
  | (refine ⟨_, 6, _, _, _, _, _, _, _, rfl, rfl, rfl, ?_, rfl, rfl, ?_⟩; (exact AtC.get (by assumption) (by decide)); try dsimp only [])
  | (refine ⟨_, 7, _, _, _, _, _, _, _, rfl, rfl, rfl, ?_, rfl, rfl, ?_⟩; (exact AtC.get (by assumption) (by decide)); try dsimp only [])))
local macro_rules | `(tactic| walk_at "set") => `(tactic| (first
  | (refine ⟨_, 0, _, _, _, _, _, _, rfl, rfl, ?_, by decide, rfl, ?_⟩; (exact AtC.get (by assumption) (by decide)); try dsimp only [])
  | (refine ⟨_, 1, _, _, _, _, _, _, rfl, rfl, ?_, by decide, rfl, ?_⟩; (exact AtC.get (by assumption) (by decide)); try dsimp only [])
  | (refine ⟨_, 2, _, _, _, _, _, _, rfl, rfl, ?_, by decide, rfl, ?_⟩; (exact AtC.get (by assumption) (by decide)); try dsimp only [])
  | (refine ⟨_, 3, _, _, _, _, _, _, rfl, rfl, ?_, by decide, rfl, ?_⟩; (exact AtC.get (by assumption) (by decide)); try dsimp only [])
  | (refine ⟨_, 4, _, _, _, _, _, _, rfl, rfl, ?_, by decide, rfl, ?_⟩; (exact AtC.get (by assumption) (by decide)); try dsimp only [])))
local macro_rules | `(tactic| walk_at "meth") => `(tactic| (first
  | refine ⟨_, 0, _, _, _, _, _, _, _, _, _, _, rfl, rfl, rfl, rfl, .head _, ?_⟩
  | refine ⟨_, 0, _, _, _, _, _, _, _, _, _, _, rfl, rfl, rfl, rfl, .tail _ (.head _), ?_⟩
  | refine ⟨_, 0, _, _, _, _, _, _, _, _, _, _, rfl, rfl, rfl, rfl, .tail _ (.tail _ (.head _)), ?_⟩
  | refine ⟨_, 1, _, _, _, _, _, _, _, _, _, _, rfl, rfl, rfl, rfl, .head _, ?_⟩
  | refine ⟨_, 1, _, _, _, _, _, _, _, _, _, _, rfl, rfl, rfl, rfl, .tail _ (.head _), ?_⟩
  | refine ⟨_, 1, _, _, _, _, _, _, _, _, _, _, rfl, rfl, rfl, rfl, .tail _ (.tail _ (.head _)), ?_⟩
  | refine ⟨_, 2, _, _, _, _, _, _, _, _, _, _, rfl, rfl, rfl, rfl, .head _, ?_⟩
  | refine ⟨_, 2, _, _, _, _, _, _, _, _, _, _, rfl, rfl, rfl, rfl, .tail _ (.head _), ?_⟩
  | refine ⟨_, 2, _, _, _, _, _, _, _, _, _, _, rfl, rfl, rfl, rfl, .tail _ (.tail _ (.head _)), ?_⟩
  | refine ⟨_, 3, _, _, _, _, _, _, _, _, _, _, rfl, rfl, rfl, rfl, .head _, ?_⟩
  | refine ⟨_, 3, _, _, _, _, _, _, _, _, _, _, rfl, rfl, rfl, rfl, .tail _ (.head _), ?_⟩
  | refine ⟨_, 3, _, _, _, _, _, _, _, _, _, _, rfl, rfl, rfl, rfl, .tail _ (.tail _ (.head _)), ?_⟩
  | refine ⟨_, 4, _, _, _, _, _, _, _, _, _, _, rfl, rfl, rfl, rfl, .head _, ?_⟩
  | refine ⟨_, 4, _, _, _, _, _, _, _, _, _, _, rfl, rfl, rfl, rfl, .tail _ (.head _), ?_⟩
  | refine ⟨_, 4, _, _, _, _, _, _, _, _, _, _, rfl, rfl, rfl, rfl, .tail _ (.tail _ (.head _)), ?_⟩
  | refine ⟨_, 5, _, _, _, _, _, _, _, _, _, _, rfl, rfl, rfl, rfl, .head _, ?_⟩
  | refine ⟨_, 5, _, _, _, _, _, _, _, _, _, _, rfl, rfl, rfl, rfl, .tail _ (.head _), ?_⟩
  | refine ⟨_, 5, _, _, _, _, _, _, _, _, _, _, rfl, rfl, rfl, rfl, .tail _ (.tail _ (.head _)), ?_⟩
  | refine ⟨_, 6, _, _, _, _, _, _, _, _, _, _, rfl, rfl, rfl, rfl, .head _, ?_⟩
  | refine ⟨_, 6, _, _, _, _, _, _, _, _, _, _, rfl, rfl, rfl, rfl, .tail _ (.head _), ?_⟩
  | refine ⟨_, 6, _, _, _, _, _, _, _, _, _, _, rfl, rfl, rfl, rfl, .tail _ (.tail _ (.head _)), ?_⟩
  | refine ⟨_, 7, _, _, _, _, _, _, _, _, _, _, rfl, rfl, rfl, rfl, .head _, ?_⟩
  | refine ⟨_, 7, _, _, _, _, _, _, _, _, _, _, rfl, rfl, rfl, rfl, .tail _ (.head _), ?_⟩
  | refine ⟨_, 7, _, _, _, _, _, _, _, _, _, _, rfl, rfl, rfl, rfl, .tail _ (.tail _ (.head _)), ?_⟩))
local macro_rules | `(tactic| walk_at "lessu") => `(tactic| (refine less_mk' ?_ ?_; (repeat' (first | exact less_nil | refine less_none ?_ | refine less_some ?_)); (first | exact List.nil_sublist _ | exact List.Sublist.refl _ | decide)))
local macro_rules | `(tactic| walk_at "bd") => `(tactic| (repeat' (first | assumption | with_reducible apply Bd.mul | with_reducible apply Bd.add | with_reducible apply Bd.sub | with_reducible apply Bd.neg | (with_reducible apply Bd.div; rotate_left; omega) | exact Bd.lit (k := 40) (by first | decide | omega))))
local macro_rules | `(tactic| walk_at "uy") => `(tactic| (first
  | (with_reducible show wE _ (tFld _ _ _) _ _; refine wE_fld ?_)
  | ((with_reducible show FldP _ _ _ _ _); walk_at "fld")
  | (with_reducible show wS _ (sFld _ _ _ _) _ _; refine wS_fld ?_)
  | ((with_reducible show SetP _ _ _ _ _ _); walk_at "set")
  | (with_reducible show wE _ (tMethX _ _ _ _ _) _ _; refine wE_methG ?_)
  | ((with_reducible show MethP _ _ _ _ _ _ _); walk_at "meth")
  | (with_reducible show wE _ (tMkG _ _ _ _ _ _ _) _ _; refine wE_mkG ?_)
  | (with_reducible show wE _ (tCallS (gSp _ _ _ _ _) _ _) _ _; refine wE_g ?_)
  | (with_reducible show wE _ (tCall (gSp _ _ _ _ _) _ _ _) _ _; refine wE_g0 ?_)
  | (with_reducible show wE _ (tIsC _ _ _) _ _; refine wE_isC ?_)
  | (with_reducible show wE _ (tListR _ _) _ _; refine xE_listR ?_)
  | (with_reducible show wE _ (tLenR _ _) _ _; refine xE_lenR ?_)
  | (with_reducible show wE _ (tOp (rIxR _) _ _) _ _; refine wE_ixR ?_)
  | (with_reducible show wE _ (tSl (rSlR _) _ _ _) _ _; refine xE_slR ?_)
  | (with_reducible show wE _ (tMk0 _) _ _; refine wE_mk0 ?_)
  | (with_reducible show wE _ (tMethU _ _ _ _ _) _ _; refine wE_meth ?_)
  | (with_reducible show wE _ (tCall (odSp _ _ _ _ _) _ _ _) _ _; refine wE_od ?_)
  | (with_reducible show wE _ (tCallS (bxSp _ _ _ _ _) _ _) _ _; refine wE_bx ?_)
  | (with_reducible show wE _ (tCall (miSp _ _ _ _) _ _ _) _ _; refine wE_mi ?_)
  | (with_reducible show wE _ (tOp (rNotInTD _) _ _) _ _; refine wE_notInTD ?_)
  | (with_reducible show wE _ (tOp (rNeNil _) _ _) _ _; refine wE_neNil ?_)
  | (with_reducible show wE _ (tOp (rIxL _) _ _) _ _; refine wE_ixL ?_)
  | (with_reducible show wE _ (tListD _ _) _ _; refine xE_listD ?_)
  | (with_reducible show wE _ (tSl (rSlNew _) _ _ _) _ _; refine xE_slN ?_)
  | (with_reducible show wS _ _ (S.set _ _ _) _; refine wS_norm (by simp only [S.set, List.set]; first | done | exact rfl) ?_)
  | (with_reducible show wE _ (tVar _) _ _; refine wE_var rfl ?_)
  | (with_reducible show wE _ (tC (.int _)) _ _; refine wE_int ?_)
  | (with_reducible show wE _ (tC (.str _)) _ _; refine wE_str ?_)
  | (with_reducible show wE _ (tC (.bl _)) _ _; refine wE_bl ?_)
  | (with_reducible show wE _ (tC .non) _ _; refine wE_non ?_)
  | (with_reducible show wD _ (tCons _ _) _ _; refine wD_cons ?_)
  | (with_reducible show wZ _ (tCons _ _) _ _; refine wZ_cons ?_)
  | (with_reducible show wZ _ tNil _ _; refine wZ_nil ?_)
  | (with_reducible show wE _ (tTupZ _) _ _; refine xE_tupZ ?_)
  | (with_reducible show wE _ (tLstZ _) _ _; refine xE_lstZ ?_)
  | (with_reducible show wE _ (tLstL _) _ _; refine xE_lstL ?_)
  | (with_reducible show wE _ tDNewL _ _; refine xE_dnewL ?_)
  | (with_reducible show wE _ (tDispL _) _ _; first | refine xE_dispS (by constructor) ?_ | refine xE_dispI (by constructor) ?_)
  | (with_reducible show wE _ (tIsX _ _ _ _ _ _ (tVar _)) _ _; refine wE_isX (by assumption) rfl rfl ?_)
  | (with_reducible show wE _ (tOp (rEqNil _) _ _) _ _; refine wE_eqNil ?_)
  | (with_reducible show wIZ _ (iList _ _) _ _; refine wIZ_list ?_)
  | (with_reducible show wE _ (tCall (mSp _ _ _ _) _ _ _) _ _; refine wE_m ?_)
  | (with_reducible show wE _ (tOp rIsB _ _) _ _; refine wE_isB ?_)
  | (with_reducible show wE _ (tOp rNotB _ _) _ _; refine wE_notB ?_)
  | (with_reducible show wE _ (tCall (vSp _) _ _ _) _ _; refine wE_veryA ?_)
  | (with_reducible show wE _ (tCall (oSp _ _ _) _ _ _) _ _; first | refine wE_odd (j := 0) rfl rfl (by omega) ?_ | refine wE_odd (j := 1) rfl rfl (by omega) ?_ | refine wE_odd (j := 2) rfl rfl (by omega) ?_)
  | (with_reducible show wE _ (tXf _ _ _ _ _ (tVar _)) _ _; first | refine wE_field rfl rfl ?_ | refine wE_found rfl rfl ⟨rfl, rfl⟩ ?_ | refine wE_found rfl rfl (Res.kz (by assumption)) ?_ | refine wE_found rfl rfl ?_ ?_)
  | (with_reducible show wE _ (tOp (rCatL _) _ _) _ _; refine xE_catL ?_)
  | (with_reducible show wE _ (tLenL _ _) _ _; refine xE_lenL ?_)
  | (with_reducible show wE _ (tListL _ _) _ _; refine xE_listL ?_)
  | (with_reducible show wE _ (tTupL _ _) _ _; refine xE_tupL ?_)
  | (with_reducible show wE _ (tSl (rSlLab _) _ _ _) _ _; refine xE_slL ?_)
  | (with_reducible show wE _ (tCall (oaSp _ _ _ _ _) _ _ _) _ _; refine wE_oa ?_)
  | (with_reducible show wE _ (tCall (anSp _ _ _ _) _ _ _) _ _; refine wE_an ?_)
  | (with_reducible show wE _ (tCB (rReprX _) _) _ _; refine wE_reprX ?_)
  | (with_reducible show wE _ (tReprRX _ _) _ _; refine xE_reprRX ?_)
  | (with_reducible show wE _ (tCallS (xnSp _ _ _ _ _) _ _) _ _; refine wE_xn ?_)
  | (with_reducible show wE _ (tCallS _ _ _) _ _; refine wE_x ?_)
  | (with_reducible show wD _ tNil _ _; refine wD_nil ?_)
  | (with_reducible show wE _ (tOp (rI0 _) _ _) _ _; first | with_reducible refine wE_add ?_ | with_reducible refine wE_sub ?_ | with_reducible refine wE_lt ?_ | with_reducible refine wE_le ?_ | with_reducible refine wE_gt ?_ | with_reducible refine wE_ge ?_)
  | (with_reducible show wE _ (tOp (rI CPow _) (tC _) (tC _)) _ _; refine wE_powN ?_)
  | (with_reducible show wE _ (tDisp _) _ _; first | refine wE_dispS (by constructor) ?_ | refine wE_dispI (by constructor) ?_)
  | (with_reducible show wE _ (tCall (spTake _) _ _ _) _ _; first | refine wE_take (j := 0) rfl rfl ?_ | refine wE_take (j := 1) rfl rfl ?_ | refine wE_take (j := 2) rfl rfl ?_ | refine wE_take (j := 3) rfl rfl ?_)
  | (with_reducible show wE _ (tOp (rI _ _) _ _) _ _; first | with_reducible refine wE_mod ?_ | with_reducible refine wE_fdivW ?_ | with_reducible refine wE_mulW ?_ | with_reducible refine wE_pow ?_ | with_reducible refine wE_fdivZ ?_ | with_reducible refine wE_modN ?_ | with_reducible refine wE_mul ?_)
  | (with_reducible show wE _ (tCallR (detSp _ _ _ _) _ _) _ _; refine xE_detR ?_)
  | (with_reducible show wE _ (tCallR (pureSp _ _ _ _) _ _) _ _; refine xE_pureR ?_)
  | (with_reducible show wE _ (tIsiR _ _) _ _; refine xE_isiR ?_)
  | (with_reducible show wE _ (tReprR _ _) _ _; refine xE_reprR ?_)
  | (with_reducible show wE _ (tOp (rIxZ _) _ _) _ _; refine xE_ixZ ?_)
  | (with_reducible show wE _ (tOp (rCatZ _) _ _) _ _; refine xE_catZ ?_)
  | (with_reducible show wE _ (tCall (asSp _ _ _ _) _ _ _) _ _; refine wE_as ?_)
  | (with_reducible show wE _ (tOp (rIx _) _ _) _ _; refine wE_ix ?_)
  | (with_reducible show wE _ (tOp (rCatG _) _ _) _ _; refine wE_catG ?_)
  | (with_reducible show wE _ (tOp rEq _ _) _ _; refine wE_eqS ?_)
  | (with_reducible show wE _ (tOp rNe _ _) _ _; refine wE_neS ?_)
  | (with_reducible show wE _ (tOp (rEqD _) _ _) _ _; refine wE_eqD ?_)
  | (with_reducible show wE _ (tOp (rNeD _) _ _) _ _; refine wE_neD ?_)
  | (with_reducible show wE _ (tOp _ _ _) _ _; first | with_reducible refine wE_addS ?_ | with_reducible refine wE_isN ?_ | with_reducible refine wE_notN ?_ | with_reducible refine wE_inSign ?_ | with_reducible refine wE_ltS ?_ | with_reducible refine wE_leS ?_)
  | (with_reducible show wE _ (tUn _ _) _ _; refine wE_neg ?_)
  | (with_reducible show wE _ (tLst _) _ _; refine wE_lst ?_)
  | (with_reducible show wE _ (tTup _) _ _; refine wE_tup ?_)
  | (with_reducible show wE _ tDNewK _ _; refine wE_dnew ?_)
  | (with_reducible show wE _ (tCB (rIsi _) _) _ _; refine wE_isi ?_)
  | (with_reducible show wE _ (tCB (rIsiT _) _) _ _; refine wE_isi2 ?_)
  | (with_reducible show wE _ (tCB (rAll _) _) _ _; refine wE_all ?_)
  | (with_reducible show wE _ (tCB (rAny _) _) _ _; refine wE_any ?_)
  | (with_reducible show wE _ (tCB (rSum _) _) _ _; refine wE_sum ?_)
  | (with_reducible show wE _ (tCB (rRepr _) _) _ _; refine wE_reprS ?_)
  | (with_reducible show wE _ (tCB _ _) _ _; first | refine wE_len ?_ | with_reducible refine wE_abs ?_ | with_reducible refine wE_max2 ?_ | with_reducible refine wE_min2 ?_ | with_reducible refine wE_strI ?_ | with_reducible refine wE_intS ?_ | with_reducible refine wE_int1 ?_ | refine wE_listOf ?_ | refine wE_tupOf ?_)
  | (with_reducible show wE _ (tCall (detSp _ _ _ _) _ _ _) _ _; refine wE_det ?_)
  | (with_reducible show wE _ (tCall (pureSp _ _ _ _) _ _ _) _ _; refine wE_pure ?_)
  | (with_reducible show wE _ (tCall (puSp _ _ _ _ _) _ _ _) _ _; first | refine wE_pu (j := 0) rfl rfl ?_ | refine wE_pu (j := 1) rfl rfl ?_ | refine wE_pu (j := 2) rfl rfl ?_ | refine wE_pu (j := 3) rfl rfl ?_)
  | (with_reducible show wE _ (tSl _ _ _ _) _ _; refine wE_sl ?_)
  | (with_reducible show wO _ tNoPart _ _; refine wO_no ?_)
  | (with_reducible show wO _ (tPart _) _ _; refine wO_part ?_)
  | (with_reducible show wE _ (tChain _ _ _ _ _) _ _; first | with_reducible refine wE_chainI ?_ | with_reducible refine wE_chainS ?_)
  | (with_reducible show wE _ (tAndV _ _) _ _; refine wE_andV ?_)
  | (with_reducible show wE _ (tOrV _ _) _ _; refine wE_orV ?_)
  | (with_reducible show wE _ (tNotV _) _ _; refine wE_notV ?_)
  | (with_reducible show wE _ (tIf _ _ _) _ _; refine wE_if ?_)
  | (with_reducible show wE _ (tM1 _ _ _) _ _; first | with_reducible refine wE_starts ?_ | with_reducible refine wE_index ?_ | refine wE_join ?_)
  | (with_reducible show wT _ (tTest _) _ _; refine wT_test ?_)
  | (with_reducible show wT _ (tB _) _ _; refine wT_B ?_)
  | (with_reducible show wT _ (tAnd _ _) _ _; refine wT_and ?_)
  | (with_reducible show wT _ (tOr _ _) _ _; refine wT_or ?_)
  | (with_reducible show wT _ (tNot _) _ _; refine wT_not ?_)
  | (with_reducible show wT _ tYes _ _; refine wT_yes ?_)
  | (with_reducible show wS _ (tSeq (tDrop (tBM _ _ rAppend (tVar _) _)) _) _ _; first | refine wS_seq (wS_app (j := 0) rfl rfl ?_) | refine wS_seq (wS_app (j := 1) rfl rfl ?_) | refine wS_seq (wS_app (j := 2) rfl rfl ?_) | refine wS_seq (wS_app (j := 3) rfl rfl ?_))
  | (with_reducible show wE _ (tCall spPurse _ _ _) _ _; refine wE_purse ?_)
  | (with_reducible show wS _ (tSeq (tAsg _ (gName _)) _) _ _; refine wS_seqA ?_)
  | (with_reducible show wS _ (tSeq (tPar _ _ _) _) _ _; refine wS_seqP ?_)
  | (with_reducible show wS _ (tSeq (tIfS _ _ tNext) _) _ _; refine wS_seqI ?_)
  | (with_reducible show wS _ (tDrop (tCall _ _ _ _)) _ _; refine wS_drop ?_)
  | (with_reducible show wS _ (tDrop (tCallS _ _ _)) _ _; refine wS_drop ?_)
  | (with_reducible show wS _ (tSeq _ _) _ _; refine wS_seq ?_)
  | (with_reducible show wS _ (tAsg _ (gName _)) _ _; refine wS_asg ?_)
  | (with_reducible show wS _ (tAsg _ _) _ _; refine wS_asgG ?_)
  | (with_reducible show wS _ (tPar _ _ _) _ _; refine wS_par ?_)
  | (with_reducible show wS _ (tIfS _ _ tNext) _ _; refine wS_ifN ?_)
  | (with_reducible show wS _ (tIfS _ _ _) _ _; refine wS_if ?_)
  | (with_reducible show wS _ (tRet _) _ _; refine wS_ret ?_)
  | (with_reducible show wS _ tRetN _ _; refine wS_retN ?_)
  | (with_reducible show wS _ tNext _ _; refine wS_next ?_)
  | (with_reducible show wS _ (tAug _ _ _) _ _; refine wS_aug rfl ?_)
  | (with_reducible show wI _ (iList _ _) _ _; refine wI_list ?_)
  | (with_reducible show wI _ (iTup _ _) _ _; refine wI_tup ?_)
  | (with_reducible show wI _ (iAny _ _) _ _; refine wI_any rfl rfl ?_)
  | (with_reducible show wI _ (iStr _) _ _; refine wI_str ?_)
  | (with_reducible show wI _ (iRng1 _) _ _; refine wI_rng1 ?_)
  | (with_reducible show wI _ (iRng2 _) _ _; refine wI_rng2 ?_)
  | (with_reducible show wG _ (gName _) _ _ _; refine wG_name ?_)
  | (with_reducible show wG _ (gTup _ _ _) _ _ _; first | (refine wG_tup rfl ?_; dsimp only [List.map]) | refine wG_tupZ rfl ?_)
  | (with_reducible show wGs _ (gCons _ _) _ _ _; refine wGs_cons ?_)
  | (with_reducible show wGs _ gNil _ _ _; refine wGs_nil ?_)
  | (with_reducible show ∀ (_ : Addr), _; intro _; try dsimp only [List.cons_append, List.nil_append])
  | (with_reducible show @Exists _ _; first | refine ⟨_, _, rfl, rfl, by omega, fun r h0 h1 => ?_⟩ | refine ⟨_, rfl, ?_⟩ | refine ⟨_, _, rfl, dLen_str (by first | omega | decide), ?_⟩ | refine ⟨_, _, rfl, dCut_str (by first | omega | decide) _ _, ?_⟩ | refine ⟨_, _, rfl, rfl, sz_small (by first | omega | (simp only [strLen_append]; omega)), ?_⟩ | refine ⟨_, _, rfl, rfl, ?_⟩ | refine ⟨_, _, rfl, ?_⟩ | refine ⟨_, _, _, rfl, rfl, rfl, ?_⟩ | refine ⟨_, _, _, rfl, rfl, ?_⟩)
  | (with_reducible show CMulW _ _ ∧ _; refine ⟨Bd.mulW (by walk_at "bd") (by walk_at "bd"), ?_⟩)
  | (with_reducible show CDivW _ _ ∧ _; refine ⟨Bd.divW (by walk_at "bd") (by omega), ?_⟩)
  | (with_reducible show ShOk _ ∧ _; refine ⟨by assumption, ?_⟩)
  | (with_reducible show _ ∧ _; first | (refine ⟨sz_small ?_, ?_⟩; focus first | (simp; done) | (simp only [List.length_map, List.length_append, List.length_take, List.length_drop, List.length_cons, List.length_nil]; omega)) | (refine ⟨sz_lt1 ?_, ?_⟩; focus first | (simp; done) | (simp only [List.length_map, List.length_append, List.length_take, List.length_drop, List.length_cons, List.length_nil]; omega)) | refine and_sw ?_ ⟨rfl, trivial⟩ | refine and_sw ?_ ⟨rfl, ⟨_, rfl⟩⟩ | refine and_sw ?_ ⟨rfl, ⟨_, _, rfl⟩⟩ | refine and_sw ?_ ⟨rfl, ⟨_, _, _, rfl⟩⟩ | refine and_sw ?_ ⟨rfl, ⟨_, rfl, ?_⟩⟩ | refine and_sw ?_ ⟨rfl, ⟨_, _, rfl, ?_⟩⟩ | refine ⟨rfl, ?_⟩ | refine ⟨trivial, ?_⟩ | refine ⟨by omega, ?_⟩)
  | (with_reducible show _ ≤ sizeLine; exact sz_small (by omega))
  | fail))
local macro_rules | `(tactic| walk_at "ux") => `(tactic| (first | walk_at "uy"| (with_reducible show ite _ _ _; first | refine itb_t rfl ?_ | refine itb_f rfl ?_)))
abbrev sh_Row___init___0 : Shq := ⟨2, [], [.at 0, .at 1, .df 0]⟩
abbrev sh_Row___init___1 : Shq := ⟨2, ["manner"], [.at 0, .at 1, .at 2]⟩
abbrev sh_Row___init___2 : Shq := ⟨3, [], [.at 0, .at 1, .at 2]⟩
abbrev shs_Row___init__ : List Shq := [sh_Row___init___0, sh_Row___init___1, sh_Row___init___2]
abbrev dvs_Row___init__ : List Dv := [.s "floor"]

abbrev MnC (CM CC CN : Addr) : Mn → Addr
  | .fl => CM
  | .ce => CC
  | .ne => CN
abbrev sp_fits (K : Fg) (k : Mn) : Sp := omSp K 2 (fun ds => ∃ (a : Option Int) (t : Int), ds = [aD a, .int t]) (fun ds => .bool (fitsB k (oI (a0 ds)) (toI (a1 ds))))
abbrev sp_ends (K : Fg) (k : Mn) : Sp := omSp K 1 (fun ds => ∃ t : Int, ds = [.int t]) (fun ds => .bool (endsB k (toI (a0 ds))))
def BgOk (d : D) : Prop := ∀ xs, dItems d = some xs → xs.length ≤ 1100
abbrev sp_is_beginning (K : Fg) (CM CC CN : Addr) : Sp := odSp K (MnC CM CC CN) 1 (fun _ ds => BgOk (a0 ds)) (fun k ds => .bool (bgD k (a0 ds)))
abbrev sp_is_ending (K : Fg) (CM CC CN : Addr) : Sp := odSp K (MnC CM CC CN) 1 (fun _ ds => ∃ ts, intsD (a0 ds) = some ts) (fun k ds => .bool (enD k (a0 ds)))
abbrev sp_manner_of (K : Fg) (CE CM CC CN : Addr) : Sp := xSp K 1 (fun _ _ => True) (fun _ ds z => ∃ k, mnOf (a0 ds) = some k ∧ z = .ob (MnC CM CC CN k) [] []) (fun zs ds ex => mnOf (a0 ds) = none ∧ ex = ⟨.ref CE, zs.getD 0 (.d .none)⟩)
theorem seqD_intsD {d : D} {xs : List D} (h : dItems d = some xs) (hn : xs.all isNum = true) : ∃ ts : List Int, xs = ts.map PyData.int ∧ intsD d = some ts := by
  obtain ⟨ts, e⟩ : ∃ ts : List Int, xs = ts.map PyData.int := ⟨_, allInts_some (by unfold allInts; rw [if_pos hn])⟩
  refine ⟨ts, e, ?_⟩
  unfold intsD
  rw [h, e]
  exact allInts_ints ts
theorem intsD_no {d : D} {xs : List D} (h : dItems d = some xs) (hn : xs.all isNum = false) : intsD d = none := by
  unfold intsD
  rw [h]
  show allInts xs = none
  unfold allInts
  rw [if_neg (by rw [hn]; exact Bool.false_ne_true)]
theorem fits_mem {K : Fg} {CM CC CN : Addr} (i : Mn) : (MnC CM CC CN i, sp_fits K i) ∈ [(CM, sp_fits K .fl), (CC, sp_fits K .ce), (CN, sp_fits K .ne)] := by cases i <;> simp
theorem ends_mem {K : Fg} {CM CC CN : Addr} (i : Mn) : (MnC CM CC CN i, sp_ends K i) ∈ [(CM, sp_ends K .fl), (CC, sp_ends K .ce), (CN, sp_ends K .ne)] := by cases i <;> simp
abbrev sp_is_row (K : Fg) (CE : Addr) : Sp := xSp K 2 (fun _ ds => BgOk (a0 ds)) (fun _ ds z => ∃ k, mnOf (a1 ds) = some k ∧ z = .d (.bool (rwD k (a0 ds)))) (fun zs ds ex => mnOf (a1 ds) = none ∧ ex = ⟨.ref CE, zs.getD 1 (.d .none)⟩)
def intsZ (ts : List Int) : List Z := (ts.map PyData.int).map Z.d
/-- a Row as it stands: its things, its manner, its terms, how many are made, whether the end is -/
structure RS where
  a : Addr
  k : Addr
  w : Addr
  how : Str
  ts : List Int
  n : Nat
  cl : Bool
def clD : Bool → D
  | true => .str "end"
  | false => .none
def RS.m (D : Addr) (s : RS) : AC := [(s.a, .ins D ["how", "kept", "closing", "whole_row"] [.d (.str s.how), .lab s.k, .d (clD s.cl), .lab s.w]), (s.k, .lst (intsZ (s.ts.take s.n))), (s.w, .lst (intsZ s.ts))]
structure RS.Ok (s : RS) : Prop where
  n1 : s.n ≤ s.ts.length
  l1 : s.ts.length ≤ 100
  c1 : s.cl = true → s.n = s.ts.length
def RS.go (s : RS) (p : Nat) : RS := { s with n := max s.n (min (p + 1) s.ts.length), cl := s.cl || decide (s.ts.length ≤ p) }
def ansD (ts : List Int) (p : Nat) : D := match ts[p]? with
  | some t => .tuple [.str "term", .int t]
  | none => .tuple [.str "end"]
theorem Res.app_r {A r : List Cl} {z : Z} {d : D} (h : Res r z d) : Res (A ++ roM r) z d := by
  cases h.rom with
  | d d => exact .d d
  | lab he hc => exact .lab (List.mem_append.mpr (.inr he)) hc
theorem Res.app_l {A B : List Cl} {z : Z} {d : D} (h : Res A z d) : Res (A ++ B) z d := by
  cases h with
  | d d => exact .d d
  | lab he hc => exact .lab (List.mem_append.mpr (.inl he)) hc
theorem Res.app_rr {A B : List Cl} {z : Z} {d : D} (h : Res B z d) : Res (A ++ B) z d := by
  cases h with
  | d d => exact .d d
  | lab he hc => exact .lab (List.mem_append.mpr (.inr he)) hc
theorem RS.ro {D : Addr} {s : RS} : ∀ e ∈ s.m D, e.2.isRo = false := by
  intro e he
  unfold RS.m at he
  simp only [List.mem_cons, List.not_mem_nil, or_false] at he
  rcases he with rfl | rfl | rfl <;> rfl
theorem atI_ints {ts : List Int} {n : Nat} {t : Int} (h : ts[n]? = some t) : atI (intsZ ts) (n : Int) = some (.d (.int t)) := by
  refine Tq.atI_nat ?_
  unfold intsZ
  simp [h]
theorem intsZ_app (ts : List Int) (t : Int) : intsZ ts ++ [Z.d (.int t)] = intsZ (ts ++ [t]) := by
  unfold intsZ; rw [List.map_append, List.map_append]; rfl
theorem intsZ_set (us : List Int) (l t : Int) : (intsZ (us ++ [l])).set us.length (Z.d (.int t)) = intsZ (us ++ [t]) := by
  unfold intsZ
  rw [List.map_append, List.map_append, List.map_append, List.map_append]
  have h : us.length = ((us.map PyData.int).map Z.d).length := by rw [List.length_map, List.length_map]
  rw [h]
  exact set_at_end _ _ _
theorem ixN_last (n : Nat) : ixN (n + 1) (-1) = some n := by
  unfold ixN
  rw [if_neg (by decide)]
  simp
  omega
theorem len_intsZ (ts : List Int) : (intsZ ts).length = ts.length := by unfold intsZ; rw [List.length_map, List.length_map]
theorem len_take {ts : List Int} {n : Nat} (h : n ≤ ts.length) : (intsZ (ts.take n)).length = n := by rw [len_intsZ, List.length_take, Nat.min_eq_left h]
theorem RS.go_fix {s : RS} {p : Nat} (ok : s.Ok) (h : p < s.n ∨ s.cl = true) : s.go p = s := by
  obtain ⟨n1, _, c1⟩ := ok
  obtain ⟨a, k, w, how, ts, n, cl⟩ := s
  dsimp only at n1 c1 h
  unfold RS.go
  dsimp only
  cases cl with
  | true =>
    have := c1 rfl
    rw [show max n (min (p + 1) ts.length) = n by omega, Bool.true_or]
  | false =>
    have : p < n := h.elim id (fun z => by cases z)
    rw [show max n (min (p + 1) ts.length) = n by omega, Bool.false_or, decide_eq_false (by omega)]
theorem RS.go_term {s : RS} {p : Nat} (ok : s.Ok) (hp : s.n ≤ p) (hl : s.n < s.ts.length) : ({ s with n := s.n + 1, cl := s.cl } : RS).go p = s.go p := by
  obtain ⟨a, k, w, how, ts, n, cl⟩ := s
  unfold RS.go
  dsimp only at *
  rw [show max (n + 1) (min (p + 1) ts.length) = max n (min (p + 1) ts.length) by omega]
theorem RS.go_end {s : RS} {p : Nat} (ok : s.Ok) (hp : s.n ≤ p) (hl : ¬ s.n < s.ts.length) : ({ s with n := s.n, cl := true } : RS).go p = s.go p := by
  obtain ⟨n1, _, c1⟩ := ok
  obtain ⟨a, k, w, how, ts, n, cl⟩ := s
  unfold RS.go
  dsimp only at *
  rw [Bool.true_or, decide_eq_true (show ts.length ≤ p by omega), Bool.or_true]
theorem take_succ {ts : List Int} {n : Nat} (h : n < ts.length) : intsZ (ts.take n) ++ [Z.d (.int ts[n])] = intsZ (ts.take (n + 1)) := by
  unfold intsZ
  rw [List.take_succ_eq_append_getElem h, List.map_append, List.map_append]
  rfl
abbrev sp_asked (K : Fg) (D : Addr) : Sp := gSp (ι := RS) K 1 (fun s m _ zs => m = s.m D ∧ zs = [.lab s.a] ∧ s.Ok) (fun s m _ _ z m' nw => z = .d (.int s.n) ∧ m' = m ∧ nw = []) (fun _ _ _ _ _ _ _ => False)
abbrev sp_manner (K : Fg) (D : Addr) : Sp := gSp (ι := RS) K 1 (fun s m _ zs => m = s.m D ∧ zs = [.lab s.a]) (fun s m _ _ z m' nw => z = .d (.str s.how) ∧ m' = m ∧ nw = []) (fun _ _ _ _ _ _ _ => False)
abbrev sp_depth (K : Fg) (D : Addr) : Sp := gSp (ι := RS) K 1 (fun s m _ zs => m = s.m D ∧ zs = [.lab s.a]) (fun s m _ _ z m' nw => z = .d (.int 0) ∧ m' = m ∧ nw = []) (fun _ _ _ _ _ _ _ => False)
abbrev sp_made (K : Fg) (D : Addr) : Sp := gSp (ι := RS) K 1 (fun s m _ zs => m = s.m D ∧ zs = [.lab s.a]) (fun s m _ _ z m' nw => m' = m ∧ ∃ p, z = .lab p ∧ nw = [(p, .lst (intsZ (s.ts.take s.n)))]) (fun _ _ _ _ _ _ _ => False)
abbrev sp_more (K : Fg) (D : Addr) : Sp := gSp (ι := RS) K 1 (fun s m _ zs => m = s.m D ∧ zs = [.lab s.a] ∧ s.Ok) (fun s m _ _ z m' nw => z = .d (ansD s.ts s.n) ∧ m' = m ∧ nw = []) (fun _ _ _ _ _ _ _ => False)
abbrev sp_answer (K : Fg) (D : Addr) : Sp := gSp (ι := RS × Nat) K 2 (fun s m _ zs => m = s.1.m D ∧ zs = [.lab s.1.a, .d (.int s.2)] ∧ s.1.Ok ∧ s.2 ≤ 999) (fun s m _ _ z m' nw => z = .d (ansD s.1.ts s.2) ∧ m' = (s.1.go s.2).m D ∧ nw = []) (fun _ _ _ _ _ _ _ => False)
abbrev sp_sinit (K : Fg) (D : Addr) : Sp := gSp (ι := Addr × Str) K 2 (fun s m _ zs => m = [(s.1, .ins D [] [])] ∧ zs = [.lab s.1, .d (.str s.2)]) (fun s m _ _ z m' nw => z = .d .none ∧ ∃ k, m' = [(s.1, .ins D ["how", "kept", "closing"] [.d (.str s.2), .lab k, .d .none])] ∧ nw = [(k, .lst [])]) (fun _ _ _ _ _ _ _ => False)
abbrev sp_rinit (K : Fg) (D : Addr) : Sp := gSp (ι := Addr × Mn × List Int) K 3 (fun s m r zs => m = [(s.1, .ins D [] [])] ∧ ∃ z d, zs = [.lab s.1, z, .d (.str s.2.1.word)] ∧ Res r z d ∧ intsD d = some s.2.2 ∧ rwD s.2.1 d = true ∧ s.2.2.length ≤ 100) (fun s m _ _ z m' nw => z = .d .none ∧ ∃ k w, m' ++ nw = (RS.mk s.1 k w s.2.1.word s.2.2 0 false).m D) (fun _ _ _ _ _ _ _ => False)

def plB (d : D) : Bool := wholeB d 0 999
def mnB (d : D) : Bool := wholeB d 0 1000
theorem whole_int {d : D} {hi : Int} (h : wholeB d 0 hi = true) : ∃ p : Nat, d = .int p ∧ (p : Int) ≤ hi := by
  cases d with
  | int n =>
    have h : decide (0 ≤ n ∧ n ≤ hi) = true := by simpa [wholeB] using h
    have h := of_decide_eq_true h
    exact ⟨n.toNat, by rw [Int.toNat_of_nonneg h.1], by omega⟩
  | _ => cases h
abbrev sp_ask (K : Fg) (D CP : Addr) : Sp := gSp (ι := RS × PyData) K 2 (fun s m r zs => m = s.1.m D ∧ (∃ z, zs = [.lab s.1.a, z] ∧ Res r z s.2) ∧ s.1.Ok) (fun s m _ _ z m' nw => ∃ p : Nat, s.2 = .int p ∧ p ≤ 999 ∧ z = .d (ansD s.1.ts p) ∧ m' = (s.1.go p).m D ∧ nw = [])
  (fun s m _ zs ex m' nw => plB s.2 = false ∧ ex = ⟨.ref CP, zs.getD 1 (.d .none)⟩ ∧ m' = m ∧ nw = [])
def RS.goT (s : RS) : Nat → RS
  | 0 => s
  | q + 1 => s.go q
abbrev sp_terms (K : Fg) (D CN : Addr) : Sp := gSp (ι := RS × PyData) K 2 (fun s m r zs => m = s.1.m D ∧ (∃ z, zs = [.lab s.1.a, z] ∧ Res r z s.2) ∧ s.1.Ok) (fun s m _ _ z m' nw => ∃ (q : Nat) (p : Addr), s.2 = .int q ∧ q ≤ 1000 ∧ z = .tup [.lab p, .d (.str (if q ≤ s.1.ts.length then "more" else "end"))] ∧ m' = (s.1.goT q).m D ∧ nw = [(p, .lst (intsZ (s.1.ts.take q)))])
  (fun s m _ zs ex m' nw => mnB s.2 = false ∧ ex = ⟨.ref CN, zs.getD 1 (.d .none)⟩ ∧ m' = m ∧ nw = [])
abbrev sp_need_place (K : Fg) (CP : Addr) : Sp := xSp K 1 (fun _ _ => True) (fun _ ds z => plB (a0 ds) = true ∧ z = .d .none) (fun zs ds ex => plB (a0 ds) = false ∧ ex = ⟨.ref CP, zs.getD 0 (.d .none)⟩)

theorem ixD28 {ds : List D} {r : Int} {R : D → Prop} (h0 : 0 ≤ r) (h1 : r < ds.length) (h : ∀ n ∈ ds, R n) : ∃ d i g, Z.d (.list ds) = Z.d d ∧ Z.d (.int r) = Z.d (.int i) ∧ dIx d i = some g ∧ R g := by
  obtain ⟨u, hu, hm⟩ := atI_mem (xs := ds) h0 h1
  exact ⟨_, _, u, rfl, rfl, hu, h u hm⟩
theorem snoc_ex {α : Type} {ts : List α} (h : ts ≠ []) : ∃ us l, ts = us ++ [l] := by
  rcases List.eq_nil_or_concat ts with z | ⟨us, l, e⟩
  · exact absurd z h
  · exact ⟨us, l, by rw [e, List.concat_eq_append]⟩
theorem in_two (l : Int) : inD (.int l) [.int 2, .int (-2)] = (decide (l = 2) || decide (l = -2)) := by
  by_cases h1 : l = 2
  · subst h1; rfl
  · by_cases h2 : l = -2
    · subst h2; rfl
    · have e1 : ((2 : Int) == l) = false := beq_eq_false_iff_ne.mpr (Ne.symm h1)
      have e2 : ((-2 : Int) == l) = false := beq_eq_false_iff_ne.mpr (Ne.symm h2)
      rw [decide_eq_false h1, decide_eq_false h2]
      show ((2 : Int) == l || ((-2 : Int) == l || false)) = _
      rw [e1, e2]; rfl
theorem sh_intsL (ts : List Int) : SeqAt.shaped (.list (ts.map PyData.int)) = true := by
  have z : PyData.canLayAll0 (ts.map PyData.int) = true ∧ PyData.depthAll (ts.map PyData.int) = 0 := by
    induction ts with
    | nil => exact ⟨rfl, rfl⟩
    | cons x r ih => exact ⟨by show (true && _) = true; rw [ih.1]; rfl, by show max 0 _ = 0; rw [ih.2]; rfl⟩
  simp [SeqAt.shaped, PyData.canLay0, PyData.depth, z.1, z.2]
/-- a purse, and a list that is read -/
structure NX where
  k : Mn
  pp : Addr
  n : Nat
  ts : List Int
def NX.zs (i : NX) (z : Z) : List Z := [.lab i.pp, .d (.str i.k.word), z]
abbrev sp_law_next (K : Fg) : Sp := gSp (ι := NX) K 3 (fun i m r zs => m = [(i.pp, .pu i.n)] ∧ 4 ≤ i.n ∧ (∃ z, zs = i.zs z ∧ Res r z (.list (i.ts.map PyData.int)) ∧ i.ts.length ≤ 200)) (fun i m _ _ z m' nw => nw = [] ∧ ∃ (t : Int) (n' : Nat), z = .d (.int t) ∧ i.n ≤ n' + 4 ∧ m' = [(i.pp, .pu n')] ∧ t.natAbs ≤ 10 ^ 12 ∧ (bgL i.k i.ts = true → bgL i.k (i.ts ++ [t]) = true)) (fun _ _ _ _ _ _ _ => False)

def lastW : Mn → Int
  | .fl => 1
  | .ce => 0
  | .ne => 2
theorem row_fix {k : Mn} {us : List Int} {l : Int} (hu : us ≠ []) (h : bgL k (us ++ [l]) = true) (hl : l = lastW k) : (bgL k (us ++ [l + 1]) && enL k (us ++ [l + 1])) = true := by
  obtain ⟨vs, v, rfl⟩ := snoc_ex hu
  rw [bgL_snoc, Bool.and_eq_true] at h
  rw [bgL_snoc, h.1, Bool.true_and]
  have he : enL k (vs ++ [v] ++ [l + 1]) = endsB k (l + 1) := by
    unfold enL
    rw [decide_eq_false (by simp), decide_eq_true (by simp), Bool.false_or, Bool.true_and, List.getLastD_concat]
  rw [he]
  have h2 := h.2
  subst hl
  generalize (if vs = [] then none else some v) = a at h2
  cases k with
  | fl => rfl
  | ce => cases h2
  | ne =>
    unfold fitsB at h2 ⊢
    dsimp only [lastW] at h2 ⊢
    rw [if_neg (by decide)] at h2 ⊢
    by_cases ha : a = some 2
    · rw [if_pos ha]; rfl
    · rw [if_neg ha] at h2 ⊢
      rw [Bool.or_eq_true] at h2
      rcases h2 with h2 | h2
      · rw [h2]; rfl
      · exact absurd (of_decide_eq_true h2) (by decide)
theorem row_ends {k : Mn} {us : List Int} {l : Int} (he : us = [] ∨ l ≠ lastW k) : enL k (us ++ [l]) = true := by
  unfold enL
  by_cases hu : us = []
  · subst hu; rfl
  · have hl : l ≠ lastW k := he.elim (fun z => absurd z hu) id
    have h1 : 1 < (us ++ [l]).length := by
      cases us with
      | nil => exact absurd rfl hu
      | cons x r => simp
    rw [decide_eq_true h1, Bool.true_and, List.getLastD_concat]
    have : endsB k l = true := by
      cases k with
      | fl => exact decide_eq_true hl
      | ce => rfl
      | ne => exact decide_eq_true hl
    rw [this, Bool.or_true]
structure WX where
  k : Mn
  pp : Addr
  n : Nat
  many : Nat
structure RwOk (k : Mn) (many : Nat) (ts : List Int) : Prop where
  len : ts.length = many
  ok : (bgL k ts && enL k ts) = true
  bd : ∀ t ∈ ts, t.natAbs ≤ 10 ^ 12 + 1
abbrev sp_law_row (K : Fg) : Sp := gSp (ι := WX) K 3 (fun i m _ zs => m = [(i.pp, .pu i.n)] ∧ zs = [.lab i.pp, .d (.str i.k.word), .d (.int i.many)] ∧ 1 ≤ i.many ∧ i.many ≤ 100 ∧ 4 * i.many ≤ i.n) (fun i m _ _ z m' nw => ∃ (ts : List Int) (n' : Nat) (p : Addr), z = .lab p ∧ nw = [(p, .lst (intsZ ts))] ∧ i.n ≤ n' + 4 * i.many ∧ m' = [(i.pp, .pu n')] ∧ RwOk i.k i.many ts) (fun _ _ _ _ _ _ _ => False)
theorem g_nil2 (x : Addr) (b : Bool) (c : Cell) (B : List Cl) : [] ++ toCl b [(x, c)] ++ B ++ toCl true [] = ⟨x, b, c⟩ :: B := by simp [toCl]

structure MX where
  k : Mn
  z : Z
  d : D
  ts : List Int
abbrev sp_law_made (K : Fg) (D : Addr) : Sp := gSp (ι := MX) K 2 (fun i m r zs => m = [] ∧ zs = [i.z, .d (.str i.k.word)] ∧ Res r i.z i.d ∧ intsD i.d = some i.ts ∧ rwD i.k i.d = true ∧ i.ts.length ≤ 100) (fun i m _ _ z m' nw => m' = [] ∧ ∃ a k w, z = .lab a ∧ nw = (RS.mk a k w i.k.word i.ts 0 false).m D) (fun _ _ _ _ _ _ _ => False)

def isK28 (s : RS) (way : Int) (z0 : Z) (d : D) (D0 : Addr) (z : Z) (m' nw : AC) : Prop :=
  (way = 0 ∧ plB d = false ∧ z = .tup [.d (.str "place"), z0] ∧ m' = s.m D0 ∧ nw = []) ∨
  (way = 0 ∧ ∃ p : Nat, d = .int p ∧ p ≤ 999 ∧ z = .tup [.d (.str "told"), .d (ansD s.ts p)] ∧ m' = (s.go p).m D0 ∧ nw = []) ∨
  (way = 1 ∧ mnB d = false ∧ z = .tup [.d (.str "number"), z0] ∧ m' = s.m D0 ∧ nw = []) ∨
  (way = 1 ∧ ∃ (q : Nat) (p : Addr), d = .int q ∧ q ≤ 1000 ∧ z = .tup [.d (.str "told"), .tup [.lab p, .d (.str (if q ≤ s.ts.length then "more" else "end"))]] ∧ m' = (s.goT q).m D0 ∧ nw = [(p, .lst (intsZ (s.ts.take q)))])
structure AX where
  s : RS
  way : Int
  z : Z
  d : D
abbrev sp_law_asked (K : Fg) (D : Addr) : Sp := gSp (ι := AX) K 3 (fun i m r zs => m = i.s.m D ∧ zs = [.lab i.s.a, .d (.int i.way), i.z] ∧ Res r i.z i.d ∧ i.s.Ok ∧ (i.way = 0 ∨ i.way = 1)) (fun i _ _ _ z m' nw => isK28 i.s i.way i.z i.d D z m' nw) (fun _ _ _ _ _ _ _ => False)

structure SX where
  s : RS
  pp : Addr
  n : Nat
  q : Addr
abbrev sp_law_step (K : Fg) (D : Addr) : Sp := gSp (ι := SX) K 4 (fun i m r zs => m = (i.pp, .pu i.n) :: i.s.m D ∧ zs = [.lab i.pp, .lab i.s.a, .lab i.q, .d (.int i.s.n)] ∧ 5 ≤ i.n ∧ i.s.Ok ∧ Res r (.lab i.q) (.list (i.s.ts.map PyData.int)) ∧ (∀ t ∈ i.s.ts, t.natAbs ≤ 10 ^ 12 + 1) ∧ i.s.ts ≠ [])
  (fun i _ _ _ z m' nw => nw = [] ∧ ∃ (n2 : Nat) (cl : Bool) (n' : Nat), z = .d (.int n2) ∧ m' = (i.pp, .pu n') :: ({ i.s with n := n2, cl := cl } : RS).m D ∧ i.n ≤ n' + 5 ∧ ({ i.s with n := n2, cl := cl } : RS).Ok) (fun _ _ _ _ _ _ _ => False)

theorem told0 {s : RS} {p : Nat} {D : Addr} {z0 z : Z} {m' nw : AC} (hp : p ≤ 999) (h : isK28 s 0 z0 (.int p) D z m' nw) : z = .tup [.d (.str "told"), .d (ansD s.ts p)] ∧ m' = (s.go p).m D ∧ nw = [] := by
  rcases h with ⟨_, h, _⟩ | ⟨_, p', e, _, h⟩ | ⟨h, _⟩ | ⟨h, _⟩
  · have h : wholeB (.int p) 0 999 = false := h
    have : wholeB (.int p) 0 999 = true := by simp [wholeB]; omega
    rw [this] at h; cases h
  · have : p = p' := by have := PyData.int.inj e; omega
    subst this
    exact h
  · cases h
  · cases h
theorem told1 {s : RS} {q : Nat} {D : Addr} {z0 z : Z} {m' nw : AC} (hp : q ≤ 1000) (h : isK28 s 1 z0 (.int q) D z m' nw) : ∃ p : Addr, z = .tup [.d (.str "told"), .tup [.lab p, .d (.str (if q ≤ s.ts.length then "more" else "end"))]] ∧ m' = (s.goT q).m D ∧ nw = [(p, .lst (intsZ (s.ts.take q)))] := by
  rcases h with ⟨h, _⟩ | ⟨h, _⟩ | ⟨_, h, _⟩ | ⟨_, q', p, e, _, h⟩
  · cases h
  · cases h
  · have h : wholeB (.int q) 0 1000 = false := h
    have : wholeB (.int q) 0 1000 = true := by simp [wholeB]; omega
    rw [this] at h; cases h
  · have : q = q' := by have := PyData.int.inj e; omega
    subst this
    exact ⟨p, h⟩
theorem go_ok {s : RS} {p : Nat} (ok : s.Ok) : (s.go p).Ok := by
  obtain ⟨n1, l1, c1⟩ := ok
  obtain ⟨a, k, w, how, ts, n, cl⟩ := s
  unfold RS.go
  dsimp only at n1 l1 c1 ⊢
  refine ⟨by dsimp only; omega, l1, fun h => ?_⟩
  dsimp only at h ⊢
  rw [Bool.or_eq_true, decide_eq_true_iff] at h
  rcases h with h | h
  · have := c1 h; omega
  · omega
theorem imax_eq {n l p : Nat} : (if (if ((p : Int) + 1) < (l : Int) then (p : Int) + 1 else (l : Int)) > (n : Int) then (if ((p : Int) + 1) < (l : Int) then (p : Int) + 1 else (l : Int)) else (n : Int)) = ((max n (min (p + 1) l) : Nat) : Int) := by
  split <;> split at * <;> omega
theorem imax_eq2 {n l p : Nat} : (if (if (p : Int) < (l : Int) then (p : Int) else (l : Int)) > (n : Int) then (if (p : Int) < (l : Int) then (p : Int) else (l : Int)) else (n : Int)) = ((max n (min p l) : Nat) : Int) := by
  split <;> split at * <;> omega
theorem goT_n {s : RS} {p : Nat} : (s.goT p).n = max s.n (min p s.ts.length) := by
  cases p with
  | zero => show s.n = _; omega
  | succ q => rfl
theorem goT_eta {s : RS} {p : Nat} : ({ s with n := (s.goT p).n, cl := (s.goT p).cl } : RS) = s.goT p := by cases p <;> rfl
theorem goT_a {s : RS} {p : Nat} : (s.goT p).a = s.a ∧ (s.goT p).k = s.k ∧ (s.goT p).w = s.w := by cases p <;> exact ⟨rfl, rfl, rfl⟩
theorem goT_ok {s : RS} {p : Nat} (ok : s.Ok) : (s.goT p).Ok := by
  cases p with
  | zero => exact ok
  | succ q => exact go_ok ok
theorem g_nil3 (x : Cl) (X Y : List Cl) : [x] ++ X ++ Y ++ toCl true [] = x :: (X ++ Y) := by simp [toCl]
theorem shx_term {t : Int} (h : t.natAbs ≤ 10 ^ 12 + 1) : Shx 40 2 (.int t) := (rx_int (k := 13) (by omega)).mono (by decide) (by decide)
theorem shx_list {ts : List Int} (h : ∀ t ∈ ts, t.natAbs ≤ 10 ^ 12 + 1) (hl : ts.length ≤ 100) (q : Nat) : Shx 4203 3 (.list ((ts.take q).map PyData.int)) := by
  have h1 := rx_list (b := 40) (k := 2) (xs := (ts.take q).map PyData.int) (fun x hx => by
    obtain ⟨t, ht, rfl⟩ := List.mem_map.mp hx
    exact shx_term (h t (List.mem_of_mem_take ht)))
  refine h1.mono ?_ (by decide)
  rw [List.length_map, List.length_take]
  omega
theorem shx_row {ts : List Int} {w : Str} (h : ∀ t ∈ ts, t.natAbs ≤ 10 ^ 12 + 1) (hl : ts.length ≤ 100) (q : Nat) (hw : Shx 40 2 (.str w)) : ShX (.tuple [.list ((ts.take q).map PyData.int), .str w]) :=
  (rx_tup (b := 4203) (k := 3) (xs := [_, _]) (fun x hx => by
    simp only [List.mem_cons, List.not_mem_nil, or_false] at hx
    rcases hx with rfl | rfl
    · exact shx_list h hl q
    · exact hw.mono (by decide) (by decide))).ok (by simp)
theorem shx0 {d : D} (h1 : sw2 d = true) (h2 : PyData.depth d ≤ 10) (h3 : d.shown.length ≤ 100) : ShX d := (⟨h1, h2, h3⟩ : Shx 100 10 d).ok
theorem shx_told : Shx 40 2 (.str "told") := ⟨by decide +kernel, by decide +kernel, by decide +kernel⟩
theorem shx_term0 : Shx 40 2 (.str "term") := ⟨by decide +kernel, by decide +kernel, by decide +kernel⟩
theorem shx_ans {ts : List Int} (h : ∀ t ∈ ts, t.natAbs ≤ 10 ^ 12 + 1) (p : Nat) : ShX (.tuple [.str "told", ansD ts p]) := by
  unfold ansD
  split
  · rename_i t ht
    have ht := h t (List.mem_of_getElem? ht)
    refine (rx_tup (b := 91) (k := 3) (xs := [_, _]) (fun x hx => ?_)).ok (by simp)
    simp only [List.mem_cons, List.not_mem_nil, or_false] at hx
    rcases hx with rfl | rfl
    · exact shx_told.mono (by decide) (by decide)
    · refine (rx_tup (b := 40) (k := 2) (xs := [_, _]) (fun x hx => ?_)).mono (by simp) (by decide)
      simp only [List.mem_cons, List.not_mem_nil, or_false] at hx
      rcases hx with rfl | rfl
      · exact shx_term0
      · exact shx_term ht
  · exact (⟨by decide +kernel, by decide +kernel, by decide +kernel⟩ : Shx 100 10 _).ok
theorem ixZ28 {L : List Z} {r : Int} {Q : Z → Prop} (h0 : 0 ≤ r) (h1 : r < L.length) (h : ∀ u ∈ L, Q u) : ∃ zs i u, seqZ (.lst L) = some zs ∧ Z.d (.int r) = Z.d (.int i) ∧ atI zs i = some u ∧ Q u := by
  obtain ⟨u, hu, hm⟩ := atI_mem (xs := L) h0 h1
  exact ⟨_, _, u, rfl, rfl, hu, h u hm⟩
theorem odd28 {s : RS} {way : Int} {u : Z} {d : D} {D0 : Addr} {z : Z} {m' nw : AC} (h : isK28 s way u d D0 z m' nw) (h0 : way = 0 → plB d = false) (h1 : way = 1 → mnB d = false) : ∃ w, z = .tup [.d (.str w), u] ∧ (way = 0 ∧ w = "place" ∨ way = 1 ∧ w = "number") ∧ m' = s.m D0 ∧ nw = [] := by
  rcases h with ⟨hw, _, hz, hm, hn⟩ | ⟨hw, p, rfl, h9, _⟩ | ⟨hw, _, hz, hm, hn⟩ | ⟨hw, p, _, rfl, h9, _⟩
  · exact ⟨_, hz, .inl ⟨hw, rfl⟩, hm, hn⟩
  · have := h0 hw
    have h2 : wholeB (.int p) 0 999 = true := by simp [wholeB]; omega
    rw [show plB (.int p) = wholeB (.int p) 0 999 from rfl, h2] at this; cases this
  · exact ⟨_, hz, .inr ⟨hw, rfl⟩, hm, hn⟩
  · have := h1 hw
    have h2 : wholeB (.int p) 0 1000 = true := by simp [wholeB]; omega
    rw [show mnB (.int p) = wholeB (.int p) 0 1000 from rfl, h2] at this; cases this

theorem intsD_map_l {ts : List Int} : intsD (.list (ts.map PyData.int)) = some ts := allInts_ints ts
theorem intsD_map_t {ts : List Int} : intsD (.tuple (ts.map PyData.int)) = some ts := allInts_ints ts
theorem RwOk.rw {k : Mn} {many : Nat} {ts : List Int} (h : RwOk k many ts) {d : D} (hd : intsD d = some ts) : rwD k d = true := by unfold rwD; rw [hd]; exact h.ok
theorem Res.sub {m m' : List Cl} {z : Z} {d : D} (h : Res m z d) (s : ∀ e ∈ m, e ∈ m') : Res m' z d := by
  cases h with
  | d d => exact .d d
  | lab he hc => exact .lab (s _ he) hc
theorem g_nil4 (x : Addr × Cell) (b : Bool) (X : AC) (B : List Cl) : [] ++ toCl b (x :: X) ++ B ++ toCl true [] = ⟨x.1, b, x.2⟩ :: (toCl b X ++ B) := by simp [toCl]
theorem shaped_word (k : Mn) : SeqAt.shaped (.str k.word) = true := by cases k <;> exact shaped_str (by decide +kernel)
theorem resI {M : List Cl} {a : Addr} {b : Bool} {ts : List Int} (h : ⟨a, b, .lst (intsZ ts)⟩ ∈ M) : Res M (.lab a) (.list (ts.map PyData.int)) := .lab h (.lst _)

section
variable {P : Program} {w : World} {K : Fg} {mg : Str → Option Value} {base : Heap}
abbrev s_i_NoNumber : Stmt := clsFn (topS 5)
theorem sc_i_NoNumber : FnScope ["self", "found"] ["self", "found"] (defScope s_i_NoNumber) := ⟨rfl, rfl, rfl, by decide +kernel, rfl, by decide +kernel, by decide +kernel⟩
theorem xc_NoNumber {C : Addr} (T : XcT K mg "NoNumber" "NoNumber.__init__" s_i_NoNumber C) (tx : TxC K mg "TermError") : Xc P w K mg base "NoNumber" C :=
  xc_ok T sc_i_NoNumber "no whole number that may be there" fun fI cdv A outer s H E => pss_cons (ps_expr (pe_tinit (by rfl) tx (pa_cons (pv 0) (pa_cons pe_str pa_nil)))) (pss_one (ps_ost (pv 0) (pv 1)))
abbrev s_i_NoManner : Stmt := clsFn (topS 7)
theorem sc_i_NoManner : FnScope ["self", "found"] ["self", "found"] (defScope s_i_NoManner) := ⟨rfl, rfl, rfl, by decide +kernel, rfl, by decide +kernel, by decide +kernel⟩
theorem xc_NoManner {C : Addr} (T : XcT K mg "NoManner" "NoManner.__init__" s_i_NoManner C) (tx : TxC K mg "TermError") : Xc P w K mg base "NoManner" C :=
  xc_ok T sc_i_NoManner "no manner" fun fI cdv A outer s H E => pss_cons (ps_expr (pe_tinit (by rfl) tx (pa_cons (pv 0) (pa_cons pe_str pa_nil)))) (pss_one (ps_ost (pv 0) (pv 1)))
abbrev s_i_NoPlace : Stmt := clsFn (topS 13)
theorem sc_i_NoPlace : FnScope ["self", "found"] ["self", "found"] (defScope s_i_NoPlace) := ⟨rfl, rfl, rfl, by decide +kernel, rfl, by decide +kernel, by decide +kernel⟩
theorem xc_NoPlace {C : Addr} (T : XcTB beK K mg "NoPlace" "NoPlace.__init__" s_i_NoPlace C) (tx : TxB beK K mg "Unknown") : XcB beK P w K mg base "NoPlace" C :=
  xcb_ok T sc_i_NoPlace "no such place" fun fI cdv A outer s H E => pss_cons (ps_expr (pe_tinitB (by rfl) tx (pa_cons (pv 0) (pa_cons pe_str pa_nil)) (by decide +kernel))) (pss_one (ps_ostB (pv 0) (pv 1)))
abbrev s_Stream_manner : Stmt := clsFnN 2 (topS 60)
abbrev N_Stream_manner : List Str := ["self"]
theorem sc_Stream_manner : FnScope N_Stream_manner ["self"] (defScope s_Stream_manner) := ⟨rfl, rfl, rfl, by decide +kernel, rfl, by decide +kernel, by decide +kernel⟩
theorem ok_Stream_manner {f : Addr} (d : MFn K "manner" "Stream.manner" s_Stream_manner ["self"] f) {C_Row : Addr} (at_Row : AtC K C_Row ["how", "kept", "closing", "whole_row"]) : MCal P w K mg base (L2.CX P w) 1 ["self"] (Ux.sp_manner K C_Row) f := by
  refine d.okX sc_Stream_manner (gSp_len rfl) (fun cdv A outer s H vs Q E hr hgu h => ?_)
  refine ⟨_, (pss_one (ps_ret (pe_fld (pv 0) rfl))), ?_⟩
  try dsimp only [cxOf]
  refine g_body h (fun i m r zs hl pw hro hp e hnx hrt => ?_)
  obtain ⟨rfl, rfl⟩ := hp
  show wS _ _ ⟨[some (.lab i.a)], _⟩ _
  repeat' walk_at "ux"
  exact hrt _ _ (g_end0 (A := roM r) ⟨rfl, rfl, rfl⟩ (same_rfl RS.ro) rfl)
abbrev s_Stream_depth : Stmt := clsFnN 3 (topS 60)
abbrev N_Stream_depth : List Str := ["self"]
theorem sc_Stream_depth : FnScope N_Stream_depth ["self"] (defScope s_Stream_depth) := ⟨rfl, rfl, rfl, by decide +kernel, rfl, by decide +kernel, by decide +kernel⟩
theorem ok_Stream_depth {f : Addr} (d : MFn K "depth" "Stream.depth" s_Stream_depth ["self"] f) {C_Row : Addr} : MCal P w K mg base (L2.CX P w) 1 ["self"] (Ux.sp_depth K C_Row) f := by
  refine d.okX sc_Stream_depth (gSp_len rfl) (fun cdv A outer s H vs Q E hr hgu h => ?_)
  refine ⟨_, (pss_one (ps_ret pe_int)), ?_⟩
  try dsimp only [cxOf]
  refine g_body h (fun i m r zs hl pw hro hp e hnx hrt => ?_)
  obtain ⟨rfl, rfl⟩ := hp
  show wS _ _ ⟨[some (.lab i.a)], _⟩ _
  repeat' walk_at "ux"
  exact hrt _ _ (g_end0 (A := roM r) ⟨rfl, rfl, rfl⟩ (same_rfl RS.ro) rfl)
abbrev s_Stream_made : Stmt := clsFnN 4 (topS 60)
abbrev N_Stream_made : List Str := ["self"]
theorem sc_Stream_made : FnScope N_Stream_made ["self"] (defScope s_Stream_made) := ⟨rfl, rfl, rfl, by decide +kernel, rfl, by decide +kernel, by decide +kernel⟩
theorem ok_Stream_made {f : Addr} (d : MFn K "made" "Stream.made" s_Stream_made ["self"] f) {C_Row : Addr} (at_Row : AtC K C_Row ["how", "kept", "closing", "whole_row"]) (b_list : mg "list" = none) : MCal P w K mg base (L2.CX P w) 1 ["self"] (Ux.sp_made K C_Row) f := by
  refine d.okX sc_Stream_made (gSp_len rfl) (fun cdv A outer s H vs Q E hr hgu h => ?_)
  refine ⟨_, (pss_one (ps_ret (zListR (pe_callTy (listK K) (by rfl) b_list (by decide +kernel) (pa_cons (pe_fld (pv 0) rfl) pa_nil))))), ?_⟩
  try dsimp only [cxOf]
  refine g_body h (fun i m r zs hl pw hro hp e hnx hrt => ?_)
  obtain ⟨rfl, rfl⟩ := hp
  show wS _ _ ⟨[some (.lab i.a)], _⟩ _
  repeat' walk_at "ux"
  refine ⟨.list ((i.ts.take i.n).map PyData.int), _, Res.at (j := 1) rfl (.lst _), rfl, fun p => ?_⟩
  exact hrt _ _ (g_end (A := roM r) (nw := [(p, .lst (intsZ (i.ts.take i.n)))]) ⟨rfl, p, rfl, rfl⟩ (same_rfl RS.ro) (by simp [Cell.isRo]) rfl)
abbrev s_Stream_asked : Stmt := clsFnN 5 (topS 60)
abbrev N_Stream_asked : List Str := ["self"]
theorem sc_Stream_asked : FnScope N_Stream_asked ["self"] (defScope s_Stream_asked) := ⟨rfl, rfl, rfl, by decide +kernel, rfl, by decide +kernel, by decide +kernel⟩
theorem ok_Stream_asked {f : Addr} (d : MFn K "asked" "Stream.asked" s_Stream_asked ["self"] f) {C_Row : Addr} (at_Row : AtC K C_Row ["how", "kept", "closing", "whole_row"]) (b_len : mg "len" = none) : MCal P w K mg base (L2.CX P w) 1 ["self"] (Ux.sp_asked K C_Row) f := by
  refine d.okX sc_Stream_asked (gSp_len rfl) (fun cdv A outer s H vs Q E hr hgu h => ?_)
  refine ⟨_, (pss_one (ps_ret (zLen (pe_callB (lenK K) (by rfl) b_len (by decide +kernel) (pa_cons (pe_fld (pv 0) rfl) pa_nil))))), ?_⟩
  try dsimp only [cxOf]
  refine g_body h (fun i m r zs hl pw hro hp e hnx hrt => ?_)
  obtain ⟨rfl, rfl, ok⟩ := hp
  show wS _ _ ⟨[some (.lab i.a)], _⟩ _
  repeat' walk_at "ux"
  refine ⟨_, _, 1, _, rfl, rfl, ?_⟩
  refine hrt _ _ (g_end0 (A := roM r) ⟨?_, rfl, rfl⟩ (same_rfl RS.ro) rfl)
  rw [len_intsZ, List.length_take, Nat.min_eq_left ok.n1]
abbrev s_Row_more : Stmt := clsFnN 1 (topS 62)
abbrev N_Row_more : List Str := ["self", "at"]
theorem sc_Row_more : FnScope N_Row_more ["self"] (defScope s_Row_more) := ⟨rfl, rfl, rfl, by decide +kernel, rfl, by decide +kernel, by decide +kernel⟩
theorem ok_Row_more {f : Addr} (d : MFn K "more" "Row.more" s_Row_more ["self"] f) {C_Row : Addr} (v_asked : VTab P w K mg base (L2.CX P w) 1 "asked" [(C_Row, Ux.sp_asked K C_Row)]) (at_Row : AtC K C_Row ["how", "kept", "closing", "whole_row"]) (b_len : mg "len" = none) : MCal P w K mg base (L2.CX P w) 2 ["self"] (Ux.sp_more K C_Row) f := by
  refine d.okX sc_Row_more (gSp_len rfl) (fun cdv A outer s H vs Q E hr hgu h => ?_)
  refine ⟨_, (pss_cons (ps_set (i := 1) sc_Row_more.nd rfl (Or.inl rfl) (pe_methX0 v_asked (hr.mono (by decide)) hgu (takes_of rfl rfl rfl rfl) (pv 0)))
    (pss_one (ps_ret (pe_ifExp (pt_cmpR op_lt (pv 1) (zLen (pe_callB (lenK K) (by rfl) b_len (by decide +kernel) (pa_cons (pe_fld (pv 0) rfl) pa_nil))) (nomark _)) (pe_tup (pa_cons pe_str (pa_cons (pe_ix (ixLK K) (pe_fld (pv 0) rfl) (pv 1) (fun _ _ => rfl)) pa_nil))) (pe_tup (pa_cons pe_str pa_nil)))))), ?_⟩
  try dsimp only [cxOf]
  refine g_body h (fun i m r zs hl pw hro hp e hnx hrt => ?_)
  obtain ⟨rfl, rfl, ok⟩ := hp
  show wS _ _ ⟨[some (.lab i.a), none], _⟩ _
  repeat' walk_at "ux"
  refine ⟨i, [], i.m C_Row, roM r, false, rfl, RS.ro, rfl, ⟨rfl, rfl, ok⟩, fun z m' nw hq _ _ => ?_, fun _ _ _ h => h.elim⟩
  obtain ⟨rfl, rfl, rfl⟩ := hq
  rw [g_nil]
  repeat' walk_at "ux"
  refine ⟨_, _, 2, _, rfl, rfl, _, _, rfl, rfl, _, rfl, ?_⟩
  have fin : ∀ d, d = ansD i.ts i.n → e.rt (.d d) ⟨[some (.lab i.a), some (.d (.int i.n))], toCl false (i.m C_Row) ++ roM r⟩ := fun d hd => hrt _ _ (g_end0 (A := roM r) ⟨by rw [hd], rfl, rfl⟩ (same_rfl RS.ro) rfl)
  rw [len_intsZ]
  refine ite2 (fun c => ?_) (fun c => ?_)
  · have c : i.n < i.ts.length := by have := of_decide_eq_true c; omega
    have ht : i.ts[i.n]? = some i.ts[i.n] := List.getElem?_eq_getElem c
    repeat' walk_at "ux"
    refine ⟨_, _, 2, _, _, _, rfl, rfl, rfl, atI_ints ht, ?_⟩
    repeat' walk_at "ux"
    exact fin _ (by unfold ansD; rw [ht])
  · have c : ¬ i.n < i.ts.length := by have := of_decide_eq_false (Bool.eq_false_iff.mpr c); omega
    repeat' walk_at "ux"
    exact fin _ (by unfold ansD; rw [List.getElem?_eq_none (by omega)])
abbrev s_Stream_answer : Stmt := clsFnN 7 (topS 60)
abbrev N_Stream_answer : List Str := ["self", "place", "found"]
theorem sc_Stream_answer : FnScope N_Stream_answer ["self", "place"] (defScope s_Stream_answer) := ⟨rfl, rfl, rfl, by decide +kernel, rfl, by decide +kernel, by decide +kernel⟩
theorem ok_Stream_answer {f : Addr} (d : MFn K "answer" "Stream.answer" s_Stream_answer ["self", "place"] f) {C_Row : Addr} (v_bounds : VTab P w K mg base (L2.CX P w) 0 "bounds" []) (v_more : VTab P w K mg base (L2.CX P w) 2 "more" [(C_Row, Ux.sp_more K C_Row)]) (at_Row : AtC K C_Row ["how", "kept", "closing", "whole_row"]) (b_len : mg "len" = none) : MCal P w K mg base (L2.CX P w) 3 ["self", "place"] (Ux.sp_answer K C_Row) f := by
  refine d.okX sc_Stream_answer (gSp_len rfl) (fun cdv A outer s H vs Q E hr hgu h => ?_)
  refine ⟨_, (pss_cons (ps_while (passes_of rfl) (PW.pt (pw_and (pt_cmpR op_le (zLen (pe_callB (lenK K) (by rfl) b_len (by decide +kernel) (pa_cons (pe_fld (pv 0) rfl) pa_nil))) (pv 1) (nomark _)) (pw_and1 (pt_cmpR op_isN (pe_fld (pv 0) rfl) pe_non (nomark _))))) (pss_cons (ps_set (i := 2) sc_Stream_answer.nd rfl (Or.inl rfl) (pe_methX0 v_more (hr.mono (by decide)) hgu (takes_of rfl rfl rfl rfl) (pv 0)))
    (pss_cons (ps_if (pt_cmpR op_eq (pe_ix (ixK K) (pv 2) pe_int (fun _ _ => rfl)) pe_str (nomark _)) (pss_one (ps_ret (pe_op (catZK K) (pe_tup (pa_cons pe_str pa_nil)) (pe_methX0 v_bounds (hr.mono (by decide)) hgu (takes_of rfl rfl rfl rfl) (pv 0))))) pss_nil)
    (pss_one (ps_if (pt_cmpR op_eq (pe_ix (ixK K) (pv 2) pe_int (fun _ _ => rfl)) pe_str (nomark _)) (pss_one (ps_expr (pe_bm PySem.F.plainAttrs_list PySem.F.slot_list_append PySem.F.type_list_append mt_append (pe_fld (pv 0) rfl) (pa_cons (pe_ix (ixK K) (pv 2) pe_int (fun _ _ => rfl)) pa_nil)))) (pss_one (ps_fld (pv 0) (pe_ix (ixK K) (pv 2) pe_int (fun _ _ => rfl)) rfl)))))))
    (pss_cons (ps_if (pt_cmpR op_lt (pv 1) (zLen (pe_callB (lenK K) (by rfl) b_len (by decide +kernel) (pa_cons (pe_fld (pv 0) rfl) pa_nil))) (nomark _)) (pss_one (ps_ret (pe_tup (pa_cons pe_str (pa_cons (pe_ix (ixLK K) (pe_fld (pv 0) rfl) (pv 1) (fun _ _ => rfl)) pa_nil))))) pss_nil)
    (pss_one (ps_ret (pe_tup (pa_cons (pe_fld (pv 0) rfl) pa_nil)))))), ?_⟩
  try dsimp only [cxOf]
  refine g_body h (fun i m r zs hl pw hro hp e hnx hrt => ?_)
  obtain ⟨rfl, rfl, ok, hp9⟩ := hp
  obtain ⟨s, p⟩ := i
  show wS _ _ ⟨[some (.lab s.a), some (.d (.int p)), none], _⟩ _
  refine wS_seq (wS_whileJ (fun m y => ∃ (n : Nat) (cl : Bool) (q : Option Z), y = ⟨[some (.lab s.a), some (.d (.int p)), q], toCl false (({ s with n := n, cl := cl } : RS).m C_Row) ++ roM r⟩ ∧ ({ s with n := n, cl := cl } : RS).Ok ∧ ({ s with n := n, cl := cl } : RS).go p = s.go p ∧ m = (p + 1 - n) + (if cl = true then 0 else 1))
    ⟨_, _, ⟨s.n, s.cl, none, rfl, ok, rfl, rfl⟩, by walk_at "lessu"⟩ ?_)
  rintro m y ⟨n, cl, q, rfl, ok', hg, rfl⟩
  have hn1 := ok'.n1
  dsimp only at hn1
  repeat' walk_at "ux"
  refine ⟨_, _, 1, _, rfl, rfl, ?_⟩
  rw [len_take hn1]
  repeat' walk_at "ux"
  refine ite2 (fun c0 => ?_) (fun c0 => ?_)
  · have c0 : n ≤ p := by have := of_decide_eq_true c0; omega
    cases cl with
    | true =>
      have ho : p < n ∨ true = true := .inr rfl
      have hfix := hg
      rw [RS.go_fix ok' ho] at hfix
      have fin : ∀ d, d = ansD s.ts p → e.rt (.d d) ⟨[some (.lab s.a), some (.d (.int p)), q], toCl false (({ s with n := n, cl := true } : RS).m C_Row) ++ roM r⟩ := fun d hd => hrt _ _ (g_end0 (A := roM r) ⟨by rw [hd], congrArg (RS.m C_Row) hfix, rfl⟩ ⟨rfl, RS.ro⟩ rfl)
      repeat' walk_at "ux"
      refine ⟨_, _, 1, _, rfl, rfl, ?_⟩
      refine ⟨_, _, rfl, rfl, _, rfl, ?_⟩
      have ok2 := ok'
      obtain ⟨n1, l1, c1'⟩ := ok2
      dsimp only at n1 l1 c1'
      rw [len_take n1]
      refine ite2 (fun c1 => ?_) (fun c1 => ?_)
      · have c1 : p < n := by have := of_decide_eq_true c1; omega
        have ht : s.ts[p]? = some s.ts[p] := List.getElem?_eq_getElem (by omega)
        have hk : (s.ts.take n)[p]? = some s.ts[p] := by rw [List.getElem?_take_of_lt c1, ht]
        repeat' walk_at "ux"
        refine ⟨_, _, 1, _, _, _, rfl, rfl, rfl, atI_ints hk, ?_⟩
        repeat' walk_at "ux"
        exact fin _ (by unfold ansD; rw [ht])
      · have c1 : ¬ p < n := by have := of_decide_eq_false (Bool.eq_false_iff.mpr c1); omega
        have := c1' rfl
        repeat' walk_at "ux"
        exact fin _ (by unfold ansD; rw [List.getElem?_eq_none (by omega)]; rfl)
    | false =>
      repeat' walk_at "ux"
      refine ⟨({ s with n := n, cl := false } : RS), [], ({ s with n := n, cl := false } : RS).m C_Row, roM r, false, rfl, RS.ro, rfl, ⟨rfl, rfl, ok'⟩, fun z m' nw hq _ _ => ?_, fun _ _ _ h => h.elim⟩
      obtain ⟨rfl, rfl, rfl⟩ := hq
      rw [g_nil]
      by_cases hl : n < s.ts.length
      · have ht : s.ts[n]? = some s.ts[n] := List.getElem?_eq_getElem hl
        rw [show ansD ({ s with n := n, cl := false } : RS).ts ({ s with n := n, cl := false } : RS).n = .tuple [.str "term", .int s.ts[n]] by unfold ansD; dsimp only; rw [ht]]
        repeat' walk_at "ux"
        refine wS_appX (j := 1) (a := s.k) (b := false) (zs0 := intsZ (s.ts.take n)) ?_
        repeat' walk_at "ux"
        refine ⟨lt_of_eq_of_lt (len_take hn1) (sz_lt1 (n := n) (by have := ok'.l1; dsimp only at this; omega)), ?_⟩
        dsimp only
        rw [take_succ hl]
        refine ⟨_, _, ?_, ⟨n + 1, false, _, rfl, ⟨by dsimp only; omega, ok'.l1, fun z => by cases z⟩, (RS.go_term ok' c0 hl).trans hg, rfl⟩, by walk_at "lessu"⟩
        simp only [Bool.false_eq_true, if_false]
        omega
      · rw [show ansD ({ s with n := n, cl := false } : RS).ts ({ s with n := n, cl := false } : RS).n = .tuple [.str "end"] by unfold ansD; dsimp only; rw [List.getElem?_eq_none (by omega)]]
        repeat' walk_at "ux"
        refine ⟨_, _, ?_, ⟨n, true, _, rfl, ⟨hn1, ok'.l1, fun _ => by dsimp only; omega⟩, (RS.go_end ok' c0 hl).trans hg, rfl⟩, by walk_at "lessu"⟩
        simp only [Bool.false_eq_true, if_false, if_true]
        omega
  · have c0 : ¬ n ≤ p := by have := of_decide_eq_false (Bool.eq_false_iff.mpr c0); omega
    have ho : p < n ∨ cl = true := .inl (by omega)
    refine itb_f rfl ?_
    have hfix := hg
    rw [RS.go_fix ok' ho] at hfix
    have fin : ∀ d, d = ansD s.ts p → e.rt (.d d) ⟨[some (.lab s.a), some (.d (.int p)), q], toCl false (({ s with n := n, cl := cl } : RS).m C_Row) ++ roM r⟩ := fun d hd => hrt _ _ (g_end0 (A := roM r) ⟨by rw [hd], congrArg (RS.m C_Row) hfix, rfl⟩ ⟨rfl, RS.ro⟩ rfl)
    repeat' walk_at "ux"
    refine ⟨_, _, 1, _, rfl, rfl, ?_⟩
    refine ⟨_, _, rfl, rfl, _, rfl, ?_⟩
    have ok2 := ok'
    obtain ⟨n1, l1, c1'⟩ := ok2
    dsimp only at n1 l1 c1'
    rw [len_take n1]
    refine ite2 (fun c1 => ?_) (fun c1 => ?_)
    · have c1 : p < n := by have := of_decide_eq_true c1; omega
      have ht : s.ts[p]? = some s.ts[p] := List.getElem?_eq_getElem (by omega)
      have hk : (s.ts.take n)[p]? = some s.ts[p] := by rw [List.getElem?_take_of_lt c1, ht]
      repeat' walk_at "ux"
      refine ⟨_, _, 1, _, _, _, rfl, rfl, rfl, atI_ints hk, ?_⟩
      repeat' walk_at "ux"
      exact fin _ (by unfold ansD; rw [ht])
    · have c1 : ¬ p < n := by have := of_decide_eq_false (Bool.eq_false_iff.mpr c1); omega
      have hcl : cl = true := ho.elim (fun z => absurd z c1) id
      subst hcl
      have := c1' rfl
      repeat' walk_at "ux"
      exact fin _ (by unfold ansD; rw [List.getElem?_eq_none (by omega)]; rfl)
abbrev s_Stream_terms : Stmt := clsFnN 9 (topS 60)
abbrev N_Stream_terms : List Str := ["self", "many", "word"]
theorem sc_Stream_terms : FnScope N_Stream_terms ["self", "many"] (defScope s_Stream_terms) := ⟨rfl, rfl, rfl, by decide +kernel, rfl, by decide +kernel, by decide +kernel⟩
theorem ok_Stream_terms {f : Addr} (d : MFn K "terms" "Stream.terms" s_Stream_terms ["self", "many"] f) {C_NoNumber C_Row : Addr} (x_NoNumber : Xc P w K mg base "NoNumber" C_NoNumber) (c_is_whole : Cal P w K mg base 2 "is_whole" ["thing", "low", "high"] (sp_is_whole K)) (v_answer : VTab P w K mg base (L2.CX P w) 3 "answer" [(C_Row, Ux.sp_answer K C_Row)]) (at_Row : AtC K C_Row ["how", "kept", "closing", "whole_row"]) {t_MOST_TERMS : Tok} (m_MOST_TERMS : mg "MOST_TERMS" = some (.int 1000 t_MOST_TERMS)) : MCal P w K mg base (L2.CX P w) 4 ["self", "many"] (Ux.sp_terms K C_Row C_NoNumber) f := by
  refine d.okX sc_Stream_terms (gSp_len rfl) (fun cdv A outer s H vs Q E hr hgu h => ?_)
  refine ⟨_, (pss_cons (ps_if (pt_not (pt_val (pe_calR c_is_whole (hr.mono (by decide)) hgu (by rfl) (pa_cons (pv 1) (pa_cons pe_int (pa_cons (pe_glob (v := .int 1000) (by rfl) m_MOST_TERMS ⟨_, rfl⟩) pa_nil)))))) (pss_one (ps_raiseF rfl x_NoNumber (hr.mono (by decide)) (takes_of rfl rfl rfl rfl) (pa_cons (pv 1) pa_nil) (by rfl))) pss_nil)
    (pss_cons (ps_if (pt_cmpR op_eq (pv 1) pe_int (nomark _)) (pss_one (ps_ret (pe_tupZ (pa_cons (pe_lstL pa_nil) (pa_cons pe_str pa_nil))))) pss_nil)
    (pss_cons (ps_set (i := 2) sc_Stream_terms.nd rfl (Or.inl rfl) (pe_ix (ixK K) (pe_methX v_answer (hr.mono (by decide)) hgu (takes_of rfl rfl rfl rfl) (pv 0) (pa_cons (pe_op op_sub (pv 1) pe_int) pa_nil)) pe_int (fun _ _ => rfl)))
    (pss_one (ps_ret (pe_tupZ (pa_cons (pe_slice (slNK K) (pe_fld (pv 0) rfl) po_none (po_some (pv 1))) (pa_cons (pe_ifExp (pt_cmpR op_eq (pv 2) pe_str (nomark _)) pe_str (pv 2)) pa_nil)))))))), ?_⟩
  try dsimp only [cxOf]
  refine g_body h (fun i m r zs hl pw hro hp e hnx hrt => ?_)
  obtain ⟨rfl, ⟨z, rfl, hres⟩, ok⟩ := hp
  obtain ⟨s, d⟩ := i
  dsimp only at hres ok
  show wS _ _ ⟨[some (.lab s.a), some (z), none], _⟩ _
  repeat' walk_at "ux"
  refine ⟨[d, .int 0, .int 1000], .cons hres.app_r (.cons (.d _) (.cons (.d _) .nil)), ⟨rfl, _, _, _, rfl⟩, rfl, _, rfl, ?_⟩
  dsimp only
  refine ite2 (fun c => ?_) (fun c => ?_)
  · have hb : wholeB d 0 1000 = false := by simpa using c
    refine wS_raise rfl x_NoNumber.oc x_NoNumber.no ?_
    repeat' walk_at "ux"
    exact ⟨_, _, ⟨hb, rfl, rfl, rfl⟩, same_rfl RS.ro, by simp, List.subset_append_left _ _, by simp [toCl]⟩
  · have hb : wholeB d 0 1000 = true := by simpa using c
    obtain ⟨q, rfl, hq⟩ := whole_int hb
    have ez : z = .d (.int q) := hres.int
    subst ez
    repeat' walk_at "ux"
    refine ite2 (fun c => ?_) (fun c => ?_)
    · have c := of_decide_eq_true c
      obtain rfl : q = 0 := by omega
      repeat' walk_at "ux"
      rename_i p
      exact hrt _ _ (g_end (A := roM r) (nw := [(p, .lst [])]) ⟨0, p, rfl, by omega, rfl, rfl, rfl⟩ ⟨rfl, RS.ro⟩ (by simp [Cell.isRo]) rfl)
    · have c := of_decide_eq_false (Bool.eq_false_iff.mpr c)
      obtain ⟨q, rfl⟩ : ∃ q', q = q' + 1 := ⟨q - 1, by omega⟩
      repeat' walk_at "ux"
      rw [show ((q + 1 : Nat) : Int) - 1 = (q : Int) by omega]
      refine ⟨(s, q), [], s.m C_Row, roM r, false, rfl, RS.ro, rfl, ⟨rfl, rfl, ok, by dsimp only; omega⟩, fun z m' nw hq _ _ => ?_, fun _ _ _ h => h.elim⟩
      obtain ⟨rfl, rfl, rfl⟩ := hq
      rw [g_nil]
      dsimp only
      have hn1 := ok.n1
      have htk : ((s.ts.take (s.go q).n).map PyData.int).take (q + 1) = (s.ts.take (q + 1)).map PyData.int := by
        rw [← List.map_take, List.take_take]
        congr 1
        show s.ts.take (min (q + 1) (max s.n (min (q + 1) s.ts.length))) = _
        by_cases h : q + 1 ≤ s.ts.length
        · rw [show min (q + 1) (max s.n (min (q + 1) s.ts.length)) = q + 1 by omega]
        · rw [List.take_of_length_le (show s.ts.length ≤ q + 1 by omega), List.take_of_length_le (by omega)]
      have fin : ∀ (w : Str) (p : Addr) (l : List (Option Z)) (y : S), w = (if q + 1 ≤ s.ts.length then ("more" : Str) else ("end" : Str)) → y = ⟨l, toCl false ((s.go q).m C_Row) ++ roM r ++ [⟨p, true, .lst (((s.ts.take (q + 1)).map PyData.int).map Z.d)⟩]⟩ → e.rt (.tup [.lab p, .d (.str w)]) y := fun w p l y hw hy => by
        subst hy
        exact hrt _ _ (g_end (A := roM r) (nw := [(p, .lst (intsZ (s.ts.take (q + 1))))]) ⟨q + 1, p, rfl, by omega, by rw [hw], rfl, rfl⟩ ⟨rfl, RS.ro⟩ (by simp [Cell.isRo]) rfl)
      by_cases hl : q < s.ts.length
      · rw [show ansD s.ts q = .tuple [.str "term", .int s.ts[q]] by unfold ansD; rw [List.getElem?_eq_getElem hl]]
        repeat' walk_at "ux"
        refine ⟨_, _, 1, (s.ts.take (s.go q).n).map PyData.int, rfl, rfl, fun p => ?_⟩
        rw [cutD_takeN, htk]
        dsimp only
        repeat' walk_at "ux"
        exact fin _ p _ _ (by rw [if_pos (by omega)]) rfl
      · rw [show ansD s.ts q = .tuple [.str "end"] by unfold ansD; rw [List.getElem?_eq_none (by omega)]]
        repeat' walk_at "ux"
        refine ⟨_, _, 1, (s.ts.take (s.go q).n).map PyData.int, rfl, rfl, fun p => ?_⟩
        rw [cutD_takeN, htk]
        dsimp only
        repeat' walk_at "ux"
        exact fin _ p _ _ (by rw [if_neg (by omega)]) rfl
abbrev s_law_next : Stmt := topS 68
abbrev N_law_next : List Str := ["_law_purse_here", "_law_kind", "_law_row_here", "_law_size_here"]
theorem sc_law_next : FnScope N_law_next ["_law_purse_here", "_law_kind", "_law_row_here"] (defScope s_law_next) := ⟨rfl, rfl, rfl, by decide +kernel, rfl, by decide +kernel, by decide +kernel⟩
theorem ok_law_next (d : Df K mg "_law_next" s_law_next ["_law_purse_here", "_law_kind", "_law_row_here"]) (c_law_take : Cal P w K mg base 1 "_law_take" ["_law_purse_here", "_law_many"] (sp_law_take K)) (c_law_size : Cal P w K mg base 2 "_law_size" ["_law_purse_here", "_law_low"] (sp_law_size K)) (b_len : mg "len" = none) : Cal P w K mg base 3 "_law_next" ["_law_purse_here", "_law_kind", "_law_row_here"] (Ux.sp_law_next K) := by
  refine d.ok sc_law_next (gSp_len rfl) (fun f cdv A outer s H vs Q E hr hgu h => ?_)
  refine ⟨_, (pss_cons (ps_if (pt_cmpR (eqK K hr.units) (pv 2) (pe_lst pa_nil) (nomark _)) (pss_one (ps_ret (pe_op op_mulW (pe_ix (ixK K) (pe_lst (pa_cons pe_int (pa_cons (pe_cal c_law_size (hr.mono (by decide)) hgu (by rfl) (pa_cons (pv 0) (pa_cons pe_int pa_nil))) pa_nil))) (pe_cal c_law_take (hr.mono (by decide)) hgu (by rfl) (pa_cons (pv 0) (pa_cons pe_int pa_nil))) (fun _ _ => rfl)) (pe_op op_sub pe_int (pe_op op_mulW pe_int (pe_cal c_law_take (hr.mono (by decide)) hgu (by rfl) (pa_cons (pv 0) (pa_cons pe_int pa_nil)))))))) pss_nil)
    (pss_cons (ps_if (pt_cmpR op_eq (pv 1) pe_str (nomark _)) (pss_one (ps_ret (pe_cal c_law_size (hr.mono (by decide)) hgu (by rfl) (pa_cons (pv 0) (pa_cons pe_int pa_nil))))) pss_nil)
    (pss_cons (ps_set (i := 3) sc_law_next.nd rfl (Or.inl rfl) (pe_cal c_law_size (hr.mono (by decide)) hgu (by rfl) (pa_cons (pv 0) (pa_cons pe_int pa_nil))))
    (pss_cons (ps_if (pt_cmpR op_eq (pv 1) pe_str (nomark _)) (pss_one (ps_ret (pv 3))) pss_nil)
    (pss_cons (ps_if (PW.pt (pw_and (pt_cmpR op_gt (pe_callB (lenK K) (by rfl) b_len (by decide +kernel) (pa_cons (pv 2) pa_nil)) pe_int (nomark _)) (pw_and1 (pt_cmpR (inK K) (pe_ix (ixK K) (pv 2) (pe_un un_neg pe_int) (fun _ _ => rfl)) (pe_tup (pa_cons pe_int (pa_cons (pe_un un_neg pe_int) pa_nil))) (by rfl))))) (pss_one (ps_ret (pe_ifExp (pt_cmpR op_gt (pe_ix (ixK K) (pv 2) (pe_un un_neg pe_int) (fun _ _ => rfl)) pe_int (nomark _)) (pv 3) (pe_op op_sub pe_int (pv 3))))) pss_nil)
    (pss_one (ps_ret (pe_op op_mulW (pv 3) (pe_op op_sub pe_int (pe_op op_mulW pe_int (pe_cal c_law_take (hr.mono (by decide)) hgu (by rfl) (pa_cons (pv 0) (pa_cons pe_int pa_nil))))))))))))), ?_⟩
  try dsimp only [cxOf]
  refine g_body h (fun i m r zs hl pw hro hp e hnx hrt => ?_)
  refine wS_plain ?_
  try dsimp only []
  obtain ⟨kk, pp, n, ts⟩ := i
  obtain ⟨rfl, h4, z, rfl, hres, hl⟩ := hp
  dsimp only at h4 hres hl
  show wS _ _ ⟨[some (.lab pp), some (.d (.str kk.word)), some (z), none], ⟨pp, false, .pu n⟩ :: roM r⟩ _
  have hrs : Res (⟨pp, false, .pu n⟩ :: roM r) z (.list (ts.map PyData.int)) := hres.app_r (A := [⟨pp, false, .pu n⟩])
  have fin : ∀ (t : Int) (n' : Nat) (l : List (Option Z)), n ≤ n' + 4 → t.natAbs ≤ 10 ^ 12 → (bgL kk ts = true → bgL kk (ts ++ [t]) = true) → e.rt (.d (.int t)) ⟨l, ⟨pp, false, .pu n'⟩ :: roM r⟩ := fun t n' l h1 h2 h3 => hrt _ _ (g_end0 (A := roM r) ⟨rfl, t, n', rfl, h1, rfl, h2, h3⟩ ⟨rfl, by simp [Cell.isRo]⟩ rfl)
  have t2 : Bd 2 2 := Bd.lit (by decide)
  refine wS_seqI (wT_lend (i := 2) rfl hrs (wT_cut (decide (ts = [])) (fun hc => ?_) (fun hc => ?_) ?_))
  · have hc := of_decide_eq_true hc
    subst hc
    repeat' walk_at "ux"
    refine ⟨⟨1, rfl, by decide, by decide⟩, by omega, ?_⟩
    rintro _ ⟨v, rfl, v1, v2⟩
    have v0 : 1 ≤ v := v2 1 rfl
    repeat' walk_at "ux"
    rename_i w w0 w1
    refine ixD28 w0 w1 (fun g hg => ?_)
    obtain ⟨u, rfl, u0, u1⟩ : ∃ n : Int, g = .int n ∧ 0 ≤ n ∧ n ≤ 10 ^ 12 := by
      simp only [List.mem_cons, List.not_mem_nil, or_false] at hg
      rcases hg with rfl | rfl
      · exact ⟨0, rfl, by decide, by decide⟩
      · exact ⟨v, rfl, by omega, v1⟩
    have bu : Bd 13 u := Bd.lit (by omega)
    repeat' walk_at "ux"
    rename_i s s0 s1
    have bs : Bd 2 s := Bd.lit (by omega)
    have b2 : Bd 4 (2 * s) := Bd.mul t2 bs
    have b3 : Bd 8 (1 - 2 * s) := (Bd.sub (Bd.lit (k := 3) (by decide)) b2).mono (by decide)
    repeat' walk_at "ux"
    refine fin (u * (1 - 2 * s)) _ _ (by omega) ?_ (fun _ => rfl)
    have s3 : s = 0 ∨ s = 1 := by omega
    rcases s3 with rfl | rfl <;> omega
  · have hc : ts ≠ [] := of_decide_eq_false hc
    obtain ⟨us, l, rfl⟩ := snoc_ex hc
    have fin : ∀ (t : Int) (n' : Nat) (l' : List (Option Z)), n ≤ n' + 4 → t.natAbs ≤ 10 ^ 12 → fitsB kk (if us = [] then none else some l) t = true → e.rt (.d (.int t)) ⟨l', ⟨pp, false, .pu n'⟩ :: roM r⟩ := fun t n' l' h1 h2 h3 => fin t n' l' h1 h2 (fun h => by rw [bgL_snoc, h, h3]; rfl)
    repeat' walk_at "ux"
    cases kk with
    | fl =>
      refine itb_t rfl ?_
      repeat' walk_at "ux"
      refine ⟨⟨1, rfl, by decide, by decide⟩, by omega, ?_⟩
      rintro _ ⟨v, rfl, v1, v2⟩
      have v0 : 1 ≤ v := v2 1 rfl
      exact fin v _ _ (by omega) (by omega) (decide_eq_true v0)
    | ce =>
      refine itb_f rfl ?_
      repeat' walk_at "ux"
      refine ⟨⟨2, rfl, by decide, by decide⟩, by omega, ?_⟩
      rintro _ ⟨v, rfl, v1, v2⟩
      have v0 : 2 ≤ v := v2 2 rfl
      repeat' walk_at "ux"
      exact fin v _ _ (by omega) (by omega) (decide_eq_true v0)
    | ne =>
      refine itb_f rfl ?_
      repeat' walk_at "ux"
      refine ⟨⟨2, rfl, by decide, by decide⟩, by omega, ?_⟩
      rintro _ ⟨v, rfl, v1, v2⟩
      have v0 : 2 ≤ v := v2 2 rfl
      have bv : Bd 13 v := Bd.lit (by omega)
      have hix : dIx (.list ((us ++ [l]).map PyData.int)) (-1) = some (.int l) := by
        show atI ((us ++ [l]).map PyData.int) (-1) = _
        rw [atI_last (by simp), List.map_append, List.map_singleton, List.getLast?_concat]
      have h2r : Res (⟨pp, false, .pu (n - 2)⟩ :: roM r) z (.list ((us ++ [l]).map PyData.int)) := hres.app_r (A := [⟨pp, false, .pu (n - 2)⟩])
      iterate 9 (walk_at "ux")
      refine itb_f rfl ?_
      refine wS_seqI (wT_lend (i := 2) rfl h2r (wT_cut (decide (us ≠ []) && (decide (l = 2) || decide (l = -2))) (fun hp => ?_) (fun hp => ?_) ?_))
      · rw [Bool.and_eq_true, Bool.or_eq_true, decide_eq_true_iff, decide_eq_true_iff, decide_eq_true_iff] at hp
        walk_at "ux"
        refine wE_if (wT_lend (i := 2) rfl h2r (wT_cut (decide (0 < l)) (fun hq => ?_) (fun hq => ?_) ?_))
        · have hq := of_decide_eq_true hq
          obtain rfl : l = 2 := by omega
          repeat' walk_at "ux"
          refine fin v _ _ (by omega) (by omega) ?_
          rw [if_neg hp.1]
          unfold fitsB
          dsimp only
          rw [if_neg (by omega), if_pos rfl, decide_eq_true (by omega)]
        · have hq := of_decide_eq_false hq
          obtain rfl : l = -2 := by omega
          repeat' walk_at "ux"
          refine fin (0 - v) _ _ (by omega) (by omega) ?_
          rw [if_neg hp.1]
          unfold fitsB
          dsimp only
          rw [if_neg (by omega), if_neg (by decide), decide_eq_true (show 0 - v < 0 by omega), Bool.or_true]
        · repeat' walk_at "ux"
          refine ⟨_, _, _, rfl, rfl, hix, ?_⟩
          repeat' walk_at "ux"
          first | rfl | exact ⟨_, rfl, rfl⟩
      · repeat' walk_at "ux"
        rename_i s s0 s1
        have bs : Bd 2 s := Bd.lit (by omega)
        have b2 : Bd 4 (2 * s) := Bd.mul t2 bs
        have b3 : Bd 8 (1 - 2 * s) := (Bd.sub (Bd.lit (k := 3) (by decide)) b2).mono (by decide)
        repeat' walk_at "ux"
        have s3 : s = 0 ∨ s = 1 := by omega
        refine fin (v * (1 - 2 * s)) _ _ (by omega) (by rcases s3 with rfl | rfl <;> omega) ?_
        have hv : ¬ (-2 < v * (1 - 2 * s) ∧ v * (1 - 2 * s) < 2) := by rcases s3 with rfl | rfl <;> omega
        unfold fitsB
        dsimp only
        rw [if_neg hv]
        by_cases hu : us = []
        · rw [if_pos hu]; rfl
        · rw [if_neg hu]
          have h1 : l ≠ 2 := fun z => by rw [z, decide_eq_true hu] at hp; cases hp
          have h3 : l ≠ -2 := fun z => by rw [z, decide_eq_true hu] at hp; cases hp
          rw [if_neg (fun z => h1 (Option.some.inj z)), decide_eq_true (show some l ≠ some (-2) from fun z => h3 (Option.some.inj z)), Bool.true_or]
      · repeat' walk_at "ux"
        refine ite2 (fun c => ?_) (fun c => ?_)
        · have c := of_decide_eq_true c
          have hu : us ≠ [] := fun z => by rw [z] at c; simp at c
          walk_at "ux"
          refine wE_in ?_
          repeat' walk_at "ux"
          refine ⟨_, _, _, rfl, rfl, hix, ?_⟩
          repeat' walk_at "ux"
          refine ⟨_, _, rfl, .inl rfl, rfl, rfl, _, rfl, ?_⟩
          rw [decide_eq_true hu, Bool.true_and]
          exact in_two l
        · have c := of_decide_eq_false (Bool.eq_false_iff.mpr c)
          have hu : us = [] := by
            cases us with
            | nil => rfl
            | cons x r => exact absurd (by simp; omega) c
          rw [hu]; rfl
  · repeat' walk_at "ux"
    refine ⟨sh_intsL ts, rfl, _, rfl, ?_⟩
    cases ts <;> rfl
abbrev s_law_row : Stmt := topS 69
abbrev N_law_row : List Str := ["_law_purse_here", "_law_kind", "_law_many", "_law_found", "_law_k", "_law_last"]
theorem sc_law_row : FnScope N_law_row ["_law_purse_here", "_law_kind", "_law_many"] (defScope s_law_row) := ⟨rfl, rfl, rfl, by decide +kernel, rfl, by decide +kernel, by decide +kernel⟩
theorem ok_law_row (d : Df K mg "_law_row" s_law_row ["_law_purse_here", "_law_kind", "_law_many"]) (c_law_next : Cal P w K mg base 3 "_law_next" ["_law_purse_here", "_law_kind", "_law_row_here"] (Ux.sp_law_next K)) (b_range : mg "range" = none) : Cal P w K mg base 4 "_law_row" ["_law_purse_here", "_law_kind", "_law_many"] (Ux.sp_law_row K) := by
  refine d.ok sc_law_row (gSp_len rfl) (fun f cdv A outer s H vs Q E hr hgu h => ?_)
  refine ⟨_, (pss_cons (ps_set (i := 3) sc_law_row.nd rfl (Or.inl rfl) (pe_lstL pa_nil))
    (pss_cons (ps_for PassesOwn.never rfl (pi_range1 (by rfl) b_range (pa_cons (pv 2) pa_nil)) (pg_name (i := 4) sc_law_row.nd rfl (Or.inl rfl)) (pss_one (ps_expr (pe_bm PySem.F.plainAttrs_list PySem.F.slot_list_append PySem.F.type_list_append mt_append (pv 3) (pa_cons (pe_cal c_law_next (hr.mono (by decide)) hgu (by rfl) (pa_cons (pv 0) (pa_cons (pv 1) (pa_cons (pv 3) pa_nil)))) pa_nil)))))
    (pss_cons (ps_set (i := 5) sc_law_row.nd rfl (Or.inl rfl) (pe_dget (hu_of hr) ((pe_disp (pps_cons pe_str pe_int (pps_cons pe_str pe_int (pps_cons pe_str pe_int pps_nil))) (by rfl) (by rfl) (fun z => by cases z) (by decide))) (pv 1) (fun _ _ => rfl)))
    (pss_cons (ps_if (PW.pt (pw_and (pt_cmpR op_gt (pv 2) pe_int (nomark _)) (pw_and1 (pt_cmpR op_eq (pe_ix (ixLK K) (pv 3) (pe_un un_neg pe_int) (fun _ _ => rfl)) (pv 5) (nomark _))))) (pss_one (ps_asg (pe_op op_add (pv 5) pe_int) (pg_sub (pv 3) (pe_un un_neg pe_int) set_list))) pss_nil)
    (pss_one (ps_ret (pv 3))))))), ?_⟩
  try dsimp only [cxOf]
  refine g_body h (fun i m r zs hl pw hro hp e hnx hrt => ?_)
  refine wS_plain ?_
  try dsimp only []
  obtain ⟨kk, pp, n, many⟩ := i
  obtain ⟨rfl, rfl, h1, h2, h3⟩ := hp
  dsimp only at h1 h2 h3
  show wS _ _ ⟨[some (.lab pp), some (.d (.str kk.word)), some (.d (.int many)), none, none, none], ⟨pp, false, .pu n⟩ :: roM r⟩ _
  repeat' walk_at "ux"
  rename_i p
  refine wS_for ?_
  repeat' walk_at "ux"
  refine forJ (fun i y => ∃ (ts : List Int) (n' : Nat), y = ⟨[some (.lab pp), some (.d (.str kk.word)), some (.d (.int many)), some (.lab p), none, none], ⟨pp, false, .pu n'⟩ :: (roM r ++ [⟨p, true, .lst (intsZ ts)⟩])⟩ ∧ ts.length = i ∧ bgL kk ts = true ∧ n ≤ n' + 4 * i ∧ ∀ t ∈ ts, t.natAbs ≤ 10 ^ 12) ⟨_, ⟨[], n, rfl, rfl, rfl, Nat.le_refl _, fun t ht => absurd ht (by simp)⟩, by walk_at "lessu"⟩ ?_ ?_
  · rintro i x y hx ⟨ts, n', rfl, hlen, hb, hn, hts⟩
    obtain ⟨hi, rfl⟩ := rangeD_get hx
    have hi : i < many := by omega
    refine wS_app (i := 3) (j := (roM r).length + 1) (a := p) (b := true) (zs0 := intsZ ts) rfl (at_end (⟨pp, false, .pu n'⟩ :: roM r) _) ?_
    repeat' walk_at "ux"
    refine ⟨⟨kk, pp, n', ts⟩, [], [(pp, .pu n')], roM r ++ [⟨p, true, .lst (intsZ ts)⟩], false, rfl, by simp [Cell.isRo], rfl, ⟨rfl, by dsimp only; omega, .lab p, rfl, Res.app_rr (Res.app_rr (Res.at (j := 0) rfl (.lst _))), by dsimp only; omega⟩, fun z m' nw hq _ _ => ?_, fun _ _ _ h => h.elim⟩
    obtain ⟨rfl, t, n2, rfl, hn2, rfl, ht, hb2⟩ := hq
    rw [g_nil2]
    dsimp only at hn2 ht hb2
    refine ⟨intsZ ts, at_end (⟨pp, false, .pu n2⟩ :: roM r) _, sz_lt1 (by rw [len_intsZ]; omega), ?_⟩
    dsimp only
    rw [List.set_cons_succ, set_at_end, intsZ_app]
    refine ⟨_, ⟨ts ++ [t], n2, rfl, by rw [List.length_append, hlen]; rfl, hb2 hb, by omega, fun u hu => ?_⟩, by walk_at "lessu"⟩
    rcases List.mem_append.mp hu with hu | hu
    · exact hts u hu
    · rw [List.mem_singleton.mp hu]; exact ht
  · rintro y2 y' ⟨ts, n', rfl, hlen, hb, hn, hts⟩ hl
    refine wS_weak ?_ hl
    rw [rangeD_len, Int.toNat_natCast] at hlen hn
    have hne : ts ≠ [] := fun z => by rw [z] at hlen; simp at hlen; omega
    obtain ⟨us, l, rfl⟩ := snoc_ex hne
    have hend : (roM r ++ [(⟨p, true, .lst (intsZ (us ++ [l]))⟩ : Cl)])[(roM r).length]? = some ⟨p, true, .lst (intsZ (us ++ [l]))⟩ := at_end _ _
    have fin : ∀ (ts' : List Int) (l' : List (Option Z)), RwOk kk many ts' → e.rt (.lab p) ⟨l', ⟨pp, false, .pu n'⟩ :: (roM r ++ [⟨p, true, .lst (intsZ ts')⟩])⟩ := fun ts' l' h => hrt _ _ (g_end (A := roM r) (m' := [(pp, .pu n')]) (nw := [(p, .lst (intsZ ts'))]) ⟨ts', n', p, rfl, rfl, hn, rfl, h⟩ ⟨rfl, by simp [Cell.isRo]⟩ (by simp [Cell.isRo]) rfl)
    refine wS_seq (wS_asg (wE_dg3 (n := lastW kk) rfl (by cases kk <;> rfl) ?_))
    have hlu : us.length + 1 = many := by rw [← hlen, List.length_append]; rfl
    have hix : atI (intsZ (us ++ [l])) (-1) = some (.d (.int l)) := by
      unfold intsZ
      rw [List.map_append, List.map_append, atI_last (by simp)]
      simp
    have keep : (us = [] ∨ l ≠ lastW kk) → RwOk kk many (us ++ [l]) := fun h => ⟨hlen, by rw [hb, row_ends h]; rfl, fun t ht => by have := hts t ht; omega⟩
    repeat' walk_at "ux"
    refine ite2 (fun c => ?_) (fun c => ?_)
    · have c : 1 < many := by have := of_decide_eq_true c; omega
      have hu : us ≠ [] := fun z => by rw [z] at hlu; simp at hlu; omega
      repeat' walk_at "ux"
      refine ⟨p, true, (roM r).length + 1, _, _, _, rfl, at_end (⟨pp, false, .pu n'⟩ :: roM r) _, rfl, hix, ?_⟩
      repeat' walk_at "ux"
      refine ite2 (fun c2 => ?_) (fun c2 => ?_)
      · have c2 : l = lastW kk := of_decide_eq_true c2
        refine wS_setL (i := 3) (j := (roM r).length + 1) (a := p) (b := true) rfl ?_
        repeat' walk_at "ux"
        refine ⟨intsZ (us ++ [l]), (-1 : Int), us.length, at_end (⟨pp, false, .pu n'⟩ :: roM r) _, rfl, by rw [len_intsZ, List.length_append]; exact ixN_last us.length, ?_⟩
        dsimp only
        rw [List.set_cons_succ, set_at_end, intsZ_set, ← c2]
        repeat' walk_at "ux"
        refine fin _ _ ⟨by rw [List.length_append, ← hlu]; rfl, row_fix hu hb c2, fun t ht => ?_⟩
        rcases List.mem_append.mp ht with ht | ht
        · have := hts t (List.mem_append.mpr (.inl ht)); omega
        · have := hts l (by simp)
          rw [List.mem_singleton.mp ht]; omega
      · have c2 : ¬ l = lastW kk := of_decide_eq_false (Bool.eq_false_iff.mpr c2)
        repeat' walk_at "ux"
        exact fin _ _ (keep (.inr c2))
    · have c : ¬ 1 < many := by have := of_decide_eq_false (Bool.eq_false_iff.mpr c); omega
      have hu : us = [] := by
        cases us with
        | nil => rfl
        | cons x r => simp at hlu; omega
      repeat' walk_at "ux"
      exact fin _ _ (keep (.inl hu))
abbrev s_manner_of : Stmt := topS 34
abbrev N_manner_of : List Str := ["word"]
theorem sc_manner_of : FnScope N_manner_of ["word"] (defScope s_manner_of) := ⟨rfl, rfl, rfl, by decide +kernel, rfl, by decide +kernel, by decide +kernel⟩
theorem ok_manner_of (d : Df K mg "manner_of" s_manner_of ["word"]) {C_Ceils C_Manner C_Nears C_NoManner : Addr} (x_NoManner : Xc P w K mg base "NoManner" C_NoManner) (g_Ceils : mg "Ceils" = some (.ref C_Ceils)) (g_Manner : mg "Manner" = some (.ref C_Manner)) (g_Nears : mg "Nears" = some (.ref C_Nears)) (c_is_manner : Cal P w K mg base 1 "is_manner" ["thing"] (sp_is_manner K)) (n_Ceils : Mk0 K C_Ceils) (n_Manner : Mk0 K C_Manner) (n_Nears : Mk0 K C_Nears) {t_CEIL : Tok} (m_CEIL : mg "CEIL" = some (.str "ceil" t_CEIL)) {t_NEAR : Tok} (m_NEAR : mg "NEAR" = some (.str "near" t_NEAR)) : CalX P w K mg base 3 "manner_of" ["word"] (Ux.sp_manner_of K C_NoManner C_Manner C_Ceils C_Nears) := by
  refine okX d sc_manner_of (xSp_len rfl) (fun f cdv A outer s H vs Q E hr hgu h => ?_)
  refine ⟨_, (pss_cons (ps_if (pt_not (pt_val (pe_calR c_is_manner (hr.mono (by decide)) hgu (by rfl) (pa_cons (pv 0) pa_nil)))) (pss_one (ps_raiseF rfl x_NoManner (hr.mono (by decide)) (takes_of rfl rfl rfl rfl) (pa_cons (pv 0) pa_nil) (by rfl))) pss_nil)
    (pss_cons (ps_if (pt_cmpR op_eq (pv 0) (pe_glob (v := .str "ceil") (by rfl) m_CEIL ⟨_, rfl⟩) (nomark _)) (pss_one (ps_ret (pe_mk0 n_Ceils (by rfl) g_Ceils))) pss_nil)
    (pss_cons (ps_if (pt_cmpR op_eq (pv 0) (pe_glob (v := .str "near") (by rfl) m_NEAR ⟨_, rfl⟩) (nomark _)) (pss_one (ps_ret (pe_mk0 n_Nears (by rfl) g_Nears))) pss_nil)
    (pss_one (ps_ret (pe_mk0 n_Manner (by rfl) g_Manner)))))), ?_⟩
  try dsimp only [cxOf]
  refine x_body h (fun mm zs ds hl hres hp e hnx hrt => ?_)
  obtain ⟨z, d, rfl, rfl, rs⟩ := resA1 hres hl
  show wS _ _ ⟨[some (z)], _⟩ _
  repeat' walk_at "ux"
  refine ⟨[d], .cons rs .nil, ⟨rfl, trivial⟩, rfl, ?_⟩
  repeat' walk_at "ux"
  cases hm : mnOf d with
  | none =>
    rw [show (mnOf (a0 [d])) = none from hm]
    repeat' walk_at "ux"
    refine wS_raise rfl x_NoManner.oc x_NoManner.no ?_
    repeat' walk_at "ux"
    all_goals (first | exact ⟨_, rfl, hm, rfl⟩ | exact ⟨hm, rfl⟩ | exact hm | rfl)
  | some k =>
    rw [show (mnOf (a0 [d])) = some k from hm]
    obtain rfl := mnOf_inv hm
    obtain rfl := rs.str
    have fin : ∀ y, e.rt (.ob (MnC C_Manner C_Ceils C_Nears k) [] []) y := fun y => hrt _ _ ⟨k, hm, rfl⟩
    cases k <;> (repeat' walk_at "ux") <;> exact fin _
abbrev s_Manner_fits : Stmt := clsFnN 2 (topS 31)
abbrev N_Manner_fits : List Str := ["self", "ahead", "term"]
theorem sc_Manner_fits : FnScope N_Manner_fits ["self", "ahead", "term"] (defScope s_Manner_fits) := ⟨rfl, rfl, rfl, by decide +kernel, rfl, by decide +kernel, by decide +kernel⟩
theorem ok_Manner_fits {f : Addr} (d : MFn K "fits" "Manner.fits" s_Manner_fits ["self", "ahead", "term"] f)  : MCal P w K mg base CX0 1 ["self", "ahead", "term"] (Ux.sp_fits K .fl) f := by
  refine d.ok sc_Manner_fits (obSp_len rfl) (fun cdv A outer s H vs Q E hr hgu h => ?_)
  refine ⟨_, (pss_one (ps_ret (pe_cmpR op_ge (pv 2) pe_int (nomark _)))), ?_⟩
  try dsimp only [cxOf]
  refine ob_body h (fun i ds hl hp e hn hz => ?_)
  obtain ⟨a, t, rfl⟩ := hp
  have ez : ∀ (b : Bool) y, b = fitsB .fl a t → e.rt (.d (.bool b)) y := fun b y hb => hz _ _ (by show PyData.bool b = .bool (fitsB .fl (oI (aD a)) t); rw [oI_aD, hb])
  show wS _ _ ⟨[some ((.ob i [] [])), some (.d (aD a)), some (.d (.int t))], _⟩ _
  repeat' walk_at "ux"
  exact ez _ _ rfl
abbrev s_Ceils_fits : Stmt := clsFnN 2 (topS 32)
abbrev N_Ceils_fits : List Str := ["self", "ahead", "term"]
theorem sc_Ceils_fits : FnScope N_Ceils_fits ["self", "ahead", "term"] (defScope s_Ceils_fits) := ⟨rfl, rfl, rfl, by decide +kernel, rfl, by decide +kernel, by decide +kernel⟩
theorem ok_Ceils_fits {f : Addr} (d : MFn K "fits" "Ceils.fits" s_Ceils_fits ["self", "ahead", "term"] f)  : MCal P w K mg base CX0 1 ["self", "ahead", "term"] (Ux.sp_fits K .ce) f := by
  refine d.ok sc_Ceils_fits (obSp_len rfl) (fun cdv A outer s H vs Q E hr hgu h => ?_)
  refine ⟨_, (pss_one (ps_ret (pe_cmpR op_ge (pv 2) pe_int (nomark _)))), ?_⟩
  try dsimp only [cxOf]
  refine ob_body h (fun i ds hl hp e hn hz => ?_)
  obtain ⟨a, t, rfl⟩ := hp
  have ez : ∀ (b : Bool) y, b = fitsB .ce a t → e.rt (.d (.bool b)) y := fun b y hb => hz _ _ (by show PyData.bool b = .bool (fitsB .ce (oI (aD a)) t); rw [oI_aD, hb])
  show wS _ _ ⟨[some ((.ob i [] [])), some (.d (aD a)), some (.d (.int t))], _⟩ _
  repeat' walk_at "ux"
  exact ez _ _ rfl
abbrev s_Nears_fits : Stmt := clsFnN 1 (topS 33)
abbrev N_Nears_fits : List Str := ["self", "ahead", "term"]
theorem sc_Nears_fits : FnScope N_Nears_fits ["self", "ahead", "term"] (defScope s_Nears_fits) := ⟨rfl, rfl, rfl, by decide +kernel, rfl, by decide +kernel, by decide +kernel⟩
theorem ok_Nears_fits {f : Addr} (d : MFn K "fits" "Nears.fits" s_Nears_fits ["self", "ahead", "term"] f)  : MCal P w K mg base CX0 1 ["self", "ahead", "term"] (Ux.sp_fits K .ne) f := by
  refine d.ok sc_Nears_fits (obSp_len rfl) (fun cdv A outer s H vs Q E hr hgu h => ?_)
  refine ⟨_, (pss_cons (ps_if (pt_chain op_lt op_lt (pe_un un_neg pe_int) (pv 2) pe_int) (pss_one (ps_ret pe_bl)) pss_nil)
    (pss_cons (ps_if (pt_cmpR (eqK K hr.units) (pv 1) pe_int (nomark _)) (pss_one (ps_ret (pe_cmpR op_gt (pv 2) pe_int (nomark _)))) pss_nil)
    (pss_one (ps_ret (pe_or (pe_cmpR (neK K hr.units) (pv 1) (pe_un un_neg pe_int) (nomark _)) (pe_one (pe_cmpR op_lt (pv 2) pe_int (nomark _)))))))), ?_⟩
  try dsimp only [cxOf]
  refine ob_body h (fun i ds hl hp e hn hz => ?_)
  obtain ⟨a, t, rfl⟩ := hp
  have ez : ∀ (b : Bool) y, b = fitsB .ne a t → e.rt (.d (.bool b)) y := fun b y hb => hz _ _ (by show PyData.bool b = .bool (fitsB .ne (oI (aD a)) t); rw [oI_aD, hb])
  show wS _ _ ⟨[some ((.ob i [] [])), some (.d (aD a)), some (.d (.int t))], _⟩ _
  repeat' walk_at "ux"

  refine ite2 (fun c => ?_) (fun c => ?_)
  · have c := of_decide_eq_true c
    repeat' walk_at "ux"
    refine ite2 (fun c1 => ?_) (fun c1 => ?_)
    · have c1 := of_decide_eq_true c1
      repeat' walk_at "ux"
      exact ez _ _ (by unfold fitsB; dsimp only; rw [if_pos ⟨c, c1⟩])
    · have c1 := of_decide_eq_false (Bool.eq_false_iff.mpr c1)
      have nn : ¬ (-2 < t ∧ t < 2) := fun z => c1 z.2
      repeat' walk_at "ux"
      refine ⟨sh_aD a, rfl, ?_⟩
      repeat' walk_at "ux"
      cases a with
      | none =>
        refine itb_f rfl ?_
        repeat' walk_at "ux"
        exact ez true _ (by unfold fitsB; dsimp only; rw [if_neg nn, if_neg (by decide)]; rfl)
      | some u =>
        by_cases h2 : u = 2
        · refine itb_t ((eqv_int u 2).trans (decide_eq_true h2)) ?_
          repeat' walk_at "ux"
          exact ez _ _ (by unfold fitsB; dsimp only; rw [if_neg nn, if_pos (by rw [h2])])
        · refine itb_f ((eqv_int u 2).trans (decide_eq_false h2)) ?_
          repeat' walk_at "ux"
          have e2 : fitsB .ne (some u) t = (decide (u ≠ -2) || decide (t < 0)) := by
            unfold fitsB; dsimp only
            rw [if_neg nn, if_neg (fun z => h2 (Option.some.inj z))]
            congr 1
            exact decide_eq_decide.mpr (by simp)
          by_cases h3 : u = -2
          · refine itb_f (by show (!PyData.eqv (.int u) (.int (-2))) = false; rw [eqv_int, decide_eq_true h3]; rfl) ?_
            repeat' walk_at "ux"
            exact ez _ _ (by rw [e2, decide_eq_false (show ¬ u ≠ -2 from fun z => z h3)]; rfl)
          · refine itb_t (by show (!PyData.eqv (.int u) (.int (-2))) = true; rw [eqv_int, decide_eq_false h3]; rfl) ?_
            exact ez _ _ (by rw [e2, decide_eq_true (show u ≠ -2 from h3)]; rfl)

  · have c := of_decide_eq_false (Bool.eq_false_iff.mpr c)
    have nn : ¬ (-2 < t ∧ t < 2) := fun z => c z.1
    repeat' walk_at "ux"
    refine ⟨sh_aD a, rfl, ?_⟩
    repeat' walk_at "ux"
    cases a with
    | none =>
      refine itb_f rfl ?_
      repeat' walk_at "ux"
      exact ez true _ (by unfold fitsB; dsimp only; rw [if_neg nn, if_neg (by decide)]; rfl)
    | some u =>
      by_cases h2 : u = 2
      · refine itb_t ((eqv_int u 2).trans (decide_eq_true h2)) ?_
        repeat' walk_at "ux"
        exact ez _ _ (by unfold fitsB; dsimp only; rw [if_neg nn, if_pos (by rw [h2])])
      · refine itb_f ((eqv_int u 2).trans (decide_eq_false h2)) ?_
        repeat' walk_at "ux"
        have e2 : fitsB .ne (some u) t = (decide (u ≠ -2) || decide (t < 0)) := by
          unfold fitsB; dsimp only
          rw [if_neg nn, if_neg (fun z => h2 (Option.some.inj z))]
          congr 1
          exact decide_eq_decide.mpr (by simp)
        by_cases h3 : u = -2
        · refine itb_f (by show (!PyData.eqv (.int u) (.int (-2))) = false; rw [eqv_int, decide_eq_true h3]; rfl) ?_
          repeat' walk_at "ux"
          exact ez _ _ (by rw [e2, decide_eq_false (show ¬ u ≠ -2 from fun z => z h3)]; rfl)
        · refine itb_t (by show (!PyData.eqv (.int u) (.int (-2))) = true; rw [eqv_int, decide_eq_false h3]; rfl) ?_
          exact ez _ _ (by rw [e2, decide_eq_true (show u ≠ -2 from h3)]; rfl)
abbrev s_is_beginning : Stmt := topS 36
abbrev N_is_beginning : List Str := ["manner", "thing", "at", "term"]
theorem sc_is_beginning : FnScope N_is_beginning ["manner", "thing"] (defScope s_is_beginning) := ⟨rfl, rfl, rfl, by decide +kernel, rfl, by decide +kernel, by decide +kernel⟩
theorem ok_is_beginning (d : Df K mg "is_beginning" s_is_beginning ["manner", "thing"]) {C_Ceils C_Manner C_Nears : Addr} (c_is_number : Cal P w K mg base 1 "is_number" ["thing"] (sp_is_number K)) (v_fits : VTab P w K mg base CX0 1 "fits" [(C_Manner, Ux.sp_fits K .fl), (C_Ceils, Ux.sp_fits K .ce), (C_Nears, Ux.sp_fits K .ne)]) (b_all : mg "all" = none) (b_isinstance : mg "isinstance" = none) (b_len : mg "len" = none) (b_list : mg "list" = none) (b_range : mg "range" = none) (b_tuple : mg "tuple" = none) : Cal P w K mg base 2 "is_beginning" ["manner", "thing"] (Ux.sp_is_beginning K C_Manner C_Ceils C_Nears) := by
  refine d.ok sc_is_beginning (obSp_len rfl) (fun f cdv A outer s H vs Q E hr hgu h => ?_)
  refine ⟨_, (pss_cons (ps_if (PW.pt (pw_or (pt_not (pt_val (pe_callB (isiTK K) (by rfl) b_isinstance (by decide +kernel) (pa_cons (pv 1) (pa_cons (pe_tup (pa_cons (pe_bltn (v := .ty "list") (by rfl) b_list (by decide +kernel) rfl) (pa_cons (pe_bltn (v := .ty "tuple") (by rfl) b_tuple (by decide +kernel) rfl) pa_nil))) pa_nil))))) (pw_or1 (pt_not (pt_val (pe_callB (allK K rfl) (by rfl) b_all (by decide +kernel) (pa_cons (pe_lc (own := [("term", 3)]) (g := gName 3) rfl sc_is_beginning.nd (piA K (pv 1)) (blkOk_by (own := [("term", 3)]) (N := N_is_beginning) (sc := defScope s_is_beginning) (by decide +kernel)) (fun _ _ _ _ _ => (pg_name (i := 3) sc_is_beginning.nd rfl (Or.inl rfl))) (fun _ _ _ _ _ => pts_nil) (fun _ _ _ _ _ => (pe_cal c_is_number (hr.mono (by decide)) hgu (by rfl) (pa_cons (pv 3) pa_nil)))) pa_nil))))))) (pss_one (ps_ret pe_bl)) pss_nil)
    (pss_cons (ps_for PassesOwn.never rfl (pi_range2 (by rfl) b_range (pa_cons pe_int (pa_cons (pe_callB (lenK K) (by rfl) b_len (by decide +kernel) (pa_cons (pv 1) pa_nil)) pa_nil))) (pg_name (i := 2) sc_is_beginning.nd rfl (Or.inl rfl)) (pss_one (ps_if (pt_not (pt_val (pe_methU v_fits (hr.mono (by decide)) hgu (pv 0) (pa_cons (pe_ifExp (pt_cmpR op_eq (pv 2) pe_int (nomark _)) pe_non (pe_ix (ixK K) (pv 1) (pe_op op_sub (pv 2) pe_int) (fun _ _ => rfl))) (pa_cons (pe_ix (ixK K) (pv 1) (pv 2) (fun _ _ => rfl)) pa_nil))))) (pss_one (ps_ret pe_bl)) pss_nil)))
    (pss_one (ps_ret pe_bl)))), ?_⟩
  try dsimp only [cxOf]
  refine ob_body h (fun i ds hl hp e hn hz => ?_)
  obtain ⟨d, rfl⟩ := len1 hl
  have hp : BgOk d := hp
  have fin : ∀ (b : Bool) y, b = bgD i d → e.rt (.d (.bool b)) y := fun b y hb => hz _ _ (by rw [hb]; rfl)
  show wS _ _ ⟨[some ((.ob (MnC C_Manner C_Ceils C_Nears i) [] [])), some (.d d), none, none], _⟩ _
  repeat' walk_at "ux"
  rw [items_isT]
  cases d with
  | list xs =>
    have hxl : xs.length ≤ 1100 := hp xs rfl
    repeat' walk_at "ux"
    refine wE_lcF (y' := ⟨[some (.ob (MnC C_Manner C_Ceils C_Nears i) [] []), some (.d (.list xs)), none, none], []⟩) (fun _ => true) (fun d => .bool (isNum d)) ?_
    repeat' walk_at "ux"
    refine ⟨sz_small (by omega), fun x hx => ?_, ?_⟩
    · repeat' walk_at "ux"
      intro _
      repeat' (first | walk_at "ux" | exact ⟨rfl, rfl⟩ | rfl)
    · refine ⟨_, rfl, wD_nil ⟨xs.map isNum, by rw [filter_tt, List.map_map]; rfl, ?_⟩⟩
      rw [List.all_map]
      repeat' walk_at "ux"
      cases hn : xs.all (id ∘ isNum) with
      | false =>
        repeat' walk_at "ux"
        refine fin _ _ ?_
        unfold bgD
        rw [intsD_no (d := .list xs) rfl hn]
      | true =>
        obtain ⟨ts, rfl, hts⟩ := seqD_intsD (d := .list xs) rfl (show xs.all isNum = true from hn)
        have hbl := bgL_iff (k := i) (ts := ts)
        rw [bgD_of hts] at fin
        have hdl := dLen_int hts
        have hix : ∀ j : Nat, j < ts.length → dIx (.list (ts.map PyData.int)) (j : Int) = some (.int (ts.getD j 0)) := fun j hj => dIx_ints hts hj
        rw [List.length_map] at hxl
        generalize PyData.list (ts.map PyData.int) = d at *
        repeat' walk_at "ux"
        refine wS_seq (wS_for ?_)
        repeat' walk_at "ux"
        refine ⟨_, _, rfl, hdl, ?_⟩
        repeat' walk_at "ux"
        refine forJ (fun j y => (∀ a, 1 ≤ a → a < j + 1 → fitAt i ts a = true) ∧ y = ⟨[some (.ob (MnC C_Manner C_Ceils C_Nears i) [] []), some (.d d), none, none], []⟩) ⟨_, ⟨fun a h1 h2 => by omega, rfl⟩, by walk_at "lessu"⟩ (fun j x y' hx ⟨hf, ey⟩ => ?_) (fun y2 y' ⟨hf, ey⟩ hl => ?_)
        · subst ey
          obtain ⟨hj, rfl⟩ := rangeD_get hx
          have hj : j + 1 < ts.length := by omega
          have ej : (1 : Int) + (j : Nat) = ((j + 1 : Nat) : Int) := by omega
          rw [ej]
          have hx1 := hix (j + 1) hj
          have hx0 : dIx d (((j + 1 : Nat) : Int) - 1) = some (.int (ts.getD j 0)) := by
            rw [show ((j + 1 : Nat) : Int) - 1 = (j : Int) by omega]
            exact hix j (by omega)
          have fin2 : ∀ (a : Option Int), a = aheadI ts (j + 1) → fitsB i a (ts.getD (j + 1) 0) = fitAt i ts (j + 1) := fun a h => by rw [h]; rfl
          repeat' walk_at "ux"
          refine ⟨_, _, _, _, rfl, fits_mem i, wZ_cons ?_⟩
          repeat' walk_at "ux"
          refine ite2 (fun c => ?_) (fun c => ?_)
          · have c : j = 0 := by have := of_decide_eq_true c; omega
            repeat' walk_at "ux"
            refine ⟨_, _, _, rfl, rfl, hx1, ?_⟩
            repeat' walk_at "ux"
            refine ⟨[aD none, .int (ts.getD (j + 1) 0)], .cons (.r (.d _)) (.cons (.r (.d _)) .nil), ⟨rfl, _, _, rfl⟩, rfl, ?_⟩
            have ef := fin2 none (by unfold aheadI; rw [if_pos (by omega)])
            show ∃ b, Z.d (.bool (fitsB i none (ts.getD (j + 1) 0))) = _ ∧ _
            rw [ef]
            cases hb : fitAt i ts (j + 1) with
            | false =>
              repeat' walk_at "ux"
              exact fin _ _ (Eq.symm (Bool.eq_false_iff.mpr fun h => by have := hbl.mp h (j + 1) (by omega) hj; rw [hb] at this; cases this))
            | true =>
              repeat' walk_at "ux"
              exact ⟨_, ⟨fun a h1 h2 => by
                by_cases q : a = j + 1
                · rw [q]; exact hb
                · exact hf a h1 (by omega), rfl⟩, by walk_at "lessu"⟩
          · have c : ¬ j = 0 := by have := of_decide_eq_false (Bool.eq_false_iff.mpr c); omega
            repeat' walk_at "ux"
            refine ⟨_, _, _, rfl, rfl, hx0, ?_⟩
            repeat' walk_at "ux"
            refine ⟨_, _, _, rfl, rfl, hx1, ?_⟩
            repeat' walk_at "ux"
            refine ⟨[aD (some (ts.getD j 0)), .int (ts.getD (j + 1) 0)], .cons (.r (.d _)) (.cons (.r (.d _)) .nil), ⟨rfl, _, _, rfl⟩, rfl, ?_⟩
            have ef := fin2 (some (ts.getD j 0)) (by unfold aheadI; rw [if_neg (by omega)]; rfl)
            show ∃ b, Z.d (.bool (fitsB i (some (ts.getD j 0)) (ts.getD (j + 1) 0))) = _ ∧ _
            rw [ef]
            cases hb : fitAt i ts (j + 1) with
            | false =>
              repeat' walk_at "ux"
              exact fin _ _ (Eq.symm (Bool.eq_false_iff.mpr fun h => by have := hbl.mp h (j + 1) (by omega) hj; rw [hb] at this; cases this))
            | true =>
              repeat' walk_at "ux"
              exact ⟨_, ⟨fun a h1 h2 => by
                by_cases q : a = j + 1
                · rw [q]; exact hb
                · exact hf a h1 (by omega), rfl⟩, by walk_at "lessu"⟩
        · subst ey
          refine wS_next ?_
          show wS _ (tRet _) _ _
          refine wS_weak ?_ hl
          refine wS_ret (wE_bl (fin _ _ (Eq.symm (hbl.mpr fun a h1 h2 => hf a h1 (by rw [rangeD_len]; omega)))))
  | tuple xs =>
    have hxl : xs.length ≤ 1100 := hp xs rfl
    repeat' walk_at "ux"
    refine wE_lcF (y' := ⟨[some (.ob (MnC C_Manner C_Ceils C_Nears i) [] []), some (.d (.tuple xs)), none, none], []⟩) (fun _ => true) (fun d => .bool (isNum d)) ?_
    repeat' walk_at "ux"
    refine ⟨sz_small (by omega), fun x hx => ?_, ?_⟩
    · repeat' walk_at "ux"
      intro _
      repeat' (first | walk_at "ux" | exact ⟨rfl, rfl⟩ | rfl)
    · refine ⟨_, rfl, wD_nil ⟨xs.map isNum, by rw [filter_tt, List.map_map]; rfl, ?_⟩⟩
      rw [List.all_map]
      repeat' walk_at "ux"
      cases hn : xs.all (id ∘ isNum) with
      | false =>
        repeat' walk_at "ux"
        refine fin _ _ ?_
        unfold bgD
        rw [intsD_no (d := .tuple xs) rfl hn]
      | true =>
        obtain ⟨ts, rfl, hts⟩ := seqD_intsD (d := .tuple xs) rfl (show xs.all isNum = true from hn)
        have hbl := bgL_iff (k := i) (ts := ts)
        rw [bgD_of hts] at fin
        have hdl := dLen_int hts
        have hix : ∀ j : Nat, j < ts.length → dIx (.tuple (ts.map PyData.int)) (j : Int) = some (.int (ts.getD j 0)) := fun j hj => dIx_ints hts hj
        rw [List.length_map] at hxl
        generalize PyData.tuple (ts.map PyData.int) = d at *
        repeat' walk_at "ux"
        refine wS_seq (wS_for ?_)
        repeat' walk_at "ux"
        refine ⟨_, _, rfl, hdl, ?_⟩
        repeat' walk_at "ux"
        refine forJ (fun j y => (∀ a, 1 ≤ a → a < j + 1 → fitAt i ts a = true) ∧ y = ⟨[some (.ob (MnC C_Manner C_Ceils C_Nears i) [] []), some (.d d), none, none], []⟩) ⟨_, ⟨fun a h1 h2 => by omega, rfl⟩, by walk_at "lessu"⟩ (fun j x y' hx ⟨hf, ey⟩ => ?_) (fun y2 y' ⟨hf, ey⟩ hl => ?_)
        · subst ey
          obtain ⟨hj, rfl⟩ := rangeD_get hx
          have hj : j + 1 < ts.length := by omega
          have ej : (1 : Int) + (j : Nat) = ((j + 1 : Nat) : Int) := by omega
          rw [ej]
          have hx1 := hix (j + 1) hj
          have hx0 : dIx d (((j + 1 : Nat) : Int) - 1) = some (.int (ts.getD j 0)) := by
            rw [show ((j + 1 : Nat) : Int) - 1 = (j : Int) by omega]
            exact hix j (by omega)
          have fin2 : ∀ (a : Option Int), a = aheadI ts (j + 1) → fitsB i a (ts.getD (j + 1) 0) = fitAt i ts (j + 1) := fun a h => by rw [h]; rfl
          repeat' walk_at "ux"
          refine ⟨_, _, _, _, rfl, fits_mem i, wZ_cons ?_⟩
          repeat' walk_at "ux"
          refine ite2 (fun c => ?_) (fun c => ?_)
          · have c : j = 0 := by have := of_decide_eq_true c; omega
            repeat' walk_at "ux"
            refine ⟨_, _, _, rfl, rfl, hx1, ?_⟩
            repeat' walk_at "ux"
            refine ⟨[aD none, .int (ts.getD (j + 1) 0)], .cons (.r (.d _)) (.cons (.r (.d _)) .nil), ⟨rfl, _, _, rfl⟩, rfl, ?_⟩
            have ef := fin2 none (by unfold aheadI; rw [if_pos (by omega)])
            show ∃ b, Z.d (.bool (fitsB i none (ts.getD (j + 1) 0))) = _ ∧ _
            rw [ef]
            cases hb : fitAt i ts (j + 1) with
            | false =>
              repeat' walk_at "ux"
              exact fin _ _ (Eq.symm (Bool.eq_false_iff.mpr fun h => by have := hbl.mp h (j + 1) (by omega) hj; rw [hb] at this; cases this))
            | true =>
              repeat' walk_at "ux"
              exact ⟨_, ⟨fun a h1 h2 => by
                by_cases q : a = j + 1
                · rw [q]; exact hb
                · exact hf a h1 (by omega), rfl⟩, by walk_at "lessu"⟩
          · have c : ¬ j = 0 := by have := of_decide_eq_false (Bool.eq_false_iff.mpr c); omega
            repeat' walk_at "ux"
            refine ⟨_, _, _, rfl, rfl, hx0, ?_⟩
            repeat' walk_at "ux"
            refine ⟨_, _, _, rfl, rfl, hx1, ?_⟩
            repeat' walk_at "ux"
            refine ⟨[aD (some (ts.getD j 0)), .int (ts.getD (j + 1) 0)], .cons (.r (.d _)) (.cons (.r (.d _)) .nil), ⟨rfl, _, _, rfl⟩, rfl, ?_⟩
            have ef := fin2 (some (ts.getD j 0)) (by unfold aheadI; rw [if_neg (by omega)]; rfl)
            show ∃ b, Z.d (.bool (fitsB i (some (ts.getD j 0)) (ts.getD (j + 1) 0))) = _ ∧ _
            rw [ef]
            cases hb : fitAt i ts (j + 1) with
            | false =>
              repeat' walk_at "ux"
              exact fin _ _ (Eq.symm (Bool.eq_false_iff.mpr fun h => by have := hbl.mp h (j + 1) (by omega) hj; rw [hb] at this; cases this))
            | true =>
              repeat' walk_at "ux"
              exact ⟨_, ⟨fun a h1 h2 => by
                by_cases q : a = j + 1
                · rw [q]; exact hb
                · exact hf a h1 (by omega), rfl⟩, by walk_at "lessu"⟩
        · subst ey
          refine wS_next ?_
          show wS _ (tRet _) _ _
          refine wS_weak ?_ hl
          refine wS_ret (wE_bl (fin _ _ (Eq.symm (hbl.mpr fun a h1 h2 => hf a h1 (by rw [rangeD_len]; omega)))))
  | _ =>
    repeat' walk_at "ux"
    exact fin _ _ rfl
abbrev s_Manner_ends : Stmt := clsFnN 3 (topS 31)
abbrev N_Manner_ends : List Str := ["self", "last"]
theorem sc_Manner_ends : FnScope N_Manner_ends ["self", "last"] (defScope s_Manner_ends) := ⟨rfl, rfl, rfl, by decide +kernel, rfl, by decide +kernel, by decide +kernel⟩
theorem ok_Manner_ends {f : Addr} (d : MFn K "ends" "Manner.ends" s_Manner_ends ["self", "last"] f)  : MCal P w K mg base CX0 1 ["self", "last"] (Ux.sp_ends K .fl) f := by
  refine d.ok sc_Manner_ends (obSp_len rfl) (fun cdv A outer s H vs Q E hr hgu h => ?_)
  refine ⟨_, (pss_one (ps_ret (pe_cmpR (neK K hr.units) (pv 1) pe_int (nomark _)))), ?_⟩
  try dsimp only [cxOf]
  refine ob_body h (fun i ds hl hp e hn hz => ?_)
  obtain ⟨t, rfl⟩ := hp
  show wS _ _ ⟨[some ((.ob i [] [])), some (.d (.int t))], _⟩ _
  repeat' walk_at "ux"
  exact hz _ _ (by show PyData.bool (!decide (t = 1)) = .bool (decide (t ≠ 1)); simp)
abbrev s_Ceils_ends : Stmt := clsFnN 3 (topS 32)
abbrev N_Ceils_ends : List Str := ["self", "last"]
theorem sc_Ceils_ends : FnScope N_Ceils_ends ["self", "last"] (defScope s_Ceils_ends) := ⟨rfl, rfl, rfl, by decide +kernel, rfl, by decide +kernel, by decide +kernel⟩
theorem ok_Ceils_ends {f : Addr} (d : MFn K "ends" "Ceils.ends" s_Ceils_ends ["self", "last"] f)  : MCal P w K mg base CX0 1 ["self", "last"] (Ux.sp_ends K .ce) f := by
  refine d.ok sc_Ceils_ends (obSp_len rfl) (fun cdv A outer s H vs Q E hr hgu h => ?_)
  refine ⟨_, (pss_one (ps_ret pe_bl)), ?_⟩
  try dsimp only [cxOf]
  refine ob_body h (fun i ds hl hp e hn hz => ?_)
  obtain ⟨t, rfl⟩ := hp
  show wS _ _ ⟨[some ((.ob i [] [])), some (.d (.int t))], _⟩ _
  repeat' walk_at "ux"
  exact hz _ _ rfl
abbrev s_Nears_ends : Stmt := clsFnN 2 (topS 33)
abbrev N_Nears_ends : List Str := ["self", "last"]
theorem sc_Nears_ends : FnScope N_Nears_ends ["self", "last"] (defScope s_Nears_ends) := ⟨rfl, rfl, rfl, by decide +kernel, rfl, by decide +kernel, by decide +kernel⟩
theorem ok_Nears_ends {f : Addr} (d : MFn K "ends" "Nears.ends" s_Nears_ends ["self", "last"] f)  : MCal P w K mg base CX0 1 ["self", "last"] (Ux.sp_ends K .ne) f := by
  refine d.ok sc_Nears_ends (obSp_len rfl) (fun cdv A outer s H vs Q E hr hgu h => ?_)
  refine ⟨_, (pss_one (ps_ret (pe_cmpR (neK K hr.units) (pv 1) pe_int (nomark _)))), ?_⟩
  try dsimp only [cxOf]
  refine ob_body h (fun i ds hl hp e hn hz => ?_)
  obtain ⟨t, rfl⟩ := hp
  show wS _ _ ⟨[some ((.ob i [] [])), some (.d (.int t))], _⟩ _
  repeat' walk_at "ux"
  exact hz _ _ (by show PyData.bool (!decide (t = 2)) = .bool (decide (t ≠ 2)); simp)
abbrev s_is_ending : Stmt := topS 37
abbrev N_is_ending : List Str := ["manner", "terms"]
theorem sc_is_ending : FnScope N_is_ending ["manner", "terms"] (defScope s_is_ending) := ⟨rfl, rfl, rfl, by decide +kernel, rfl, by decide +kernel, by decide +kernel⟩
theorem ok_is_ending (d : Df K mg "is_ending" s_is_ending ["manner", "terms"]) {C_Ceils C_Manner C_Nears : Addr} (v_ends : VTab P w K mg base CX0 1 "ends" [(C_Manner, Ux.sp_ends K .fl), (C_Ceils, Ux.sp_ends K .ce), (C_Nears, Ux.sp_ends K .ne)]) (b_len : mg "len" = none) : Cal P w K mg base 2 "is_ending" ["manner", "terms"] (Ux.sp_is_ending K C_Manner C_Ceils C_Nears) := by
  refine d.ok sc_is_ending (obSp_len rfl) (fun f cdv A outer s H vs Q E hr hgu h => ?_)
  refine ⟨_, (pss_one (ps_ret (pe_or (pe_cmpR op_eq (pe_callB (lenK K) (by rfl) b_len (by decide +kernel) (pa_cons (pv 1) pa_nil)) pe_int (nomark _)) (pe_one (pe_and (pe_cmpR op_gt (pe_callB (lenK K) (by rfl) b_len (by decide +kernel) (pa_cons (pv 1) pa_nil)) pe_int (nomark _)) (pe_one (pe_methU v_ends (hr.mono (by decide)) hgu (pv 0) (pa_cons (pe_ix (ixK K) (pv 1) (pe_un un_neg pe_int) (fun _ _ => rfl)) pa_nil)))))))), ?_⟩
  try dsimp only [cxOf]
  refine ob_body h (fun i ds hl hp e hn hz => ?_)
  obtain ⟨d, rfl⟩ := len1 hl
  obtain ⟨ts, hts⟩ := hp
  have hts : intsD d = some ts := hts
  have fin : ∀ (b : Bool) y, b = enL i ts → e.rt (.d (.bool b)) y := fun b y hb => hz _ _ (by rw [hb]; show PyData.bool (enL i ts) = .bool (enD i d); rw [enD_of hts])
  have hdl := dLen_int hts
  show wS _ _ ⟨[some ((.ob (MnC C_Manner C_Ceils C_Nears i) [] [])), some (.d d)], _⟩ _
  repeat' walk_at "ux"
  refine ⟨_, _, rfl, hdl, ?_⟩
  repeat' walk_at "ux"
  refine ite2 (fun c => ?_) (fun c => ?_)
  · have c : ts.length = 1 := by have := of_decide_eq_true c; omega
    exact fin _ _ (by unfold enL; rw [decide_eq_true c]; rfl)
  · have c : ¬ ts.length = 1 := by have := of_decide_eq_false (Bool.eq_false_iff.mpr c); omega
    repeat' walk_at "ux"
    refine ⟨_, _, rfl, hdl, ?_⟩
    repeat' walk_at "ux"
    refine ite2 (fun c1 => ?_) (fun c1 => ?_)
    · have c1 : 1 < ts.length := by have := of_decide_eq_true c1; omega
      have hix : dIx d (-1) = some (.int (ts.getLastD 0)) := dIx_last hts (by intro z; rw [z] at c1; simp at c1)
      repeat' walk_at "ux"
      refine ⟨_, _, _, _, rfl, ends_mem i, wZ_cons ?_⟩
      repeat' walk_at "ux"
      refine ⟨_, _, _, rfl, rfl, hix, ?_⟩
      repeat' walk_at "ux"
      refine ⟨[.int (ts.getLastD 0)], .cons (.r (.d _)) .nil, ⟨rfl, _, rfl⟩, rfl, ?_⟩
      exact fin _ _ (by unfold enL; rw [decide_eq_false c, decide_eq_true c1]; rfl)
    · have c1 : ¬ 1 < ts.length := by have := of_decide_eq_false (Bool.eq_false_iff.mpr c1); omega
      exact fin _ _ (by unfold enL; rw [decide_eq_false c, decide_eq_false c1]; rfl)
abbrev s_is_row : Stmt := topS 39
abbrev N_is_row : List Str := ["thing", "manner", "kind"]
theorem sc_is_row : FnScope N_is_row ["thing", "manner"] (defScope s_is_row) := ⟨rfl, rfl, rfl, by decide +kernel, rfl, by decide +kernel, by decide +kernel⟩
theorem ok_is_row (d : DfD K mg "is_row" s_is_row ["thing", "manner"] (.str "floor")) {C_Ceils C_Manner C_Nears C_NoManner : Addr} (c_manner_of : CalX P w K mg base 3 "manner_of" ["word"] (Ux.sp_manner_of K C_NoManner C_Manner C_Ceils C_Nears)) (c_is_beginning : Cal P w K mg base 2 "is_beginning" ["manner", "thing"] (Ux.sp_is_beginning K C_Manner C_Ceils C_Nears)) (c_is_ending : Cal P w K mg base 2 "is_ending" ["manner", "terms"] (Ux.sp_is_ending K C_Manner C_Ceils C_Nears)) : CalD P w K mg base 4 "is_row" ["thing", "manner"] (Ux.sp_is_row K C_NoManner) (.str "floor") := by
  refine okD d sc_is_row (xSp_len rfl) (fun f cdv A outer s H vs Q E hr hgu h => ?_)
  refine ⟨_, (pss_cons (ps_set (i := 2) sc_is_row.nd rfl (Or.inl rfl) (pe_calX c_manner_of (hr.mono (by decide)) hgu (by rfl) (takes_of rfl rfl rfl rfl) (pa_cons (pv 1) pa_nil)))
    (pss_one (ps_ret (pe_and (pe_cal c_is_beginning (hr.mono (by decide)) hgu (by rfl) (pa_cons (pv 2) (pa_cons (pv 0) pa_nil))) (pe_one (pe_cal c_is_ending (hr.mono (by decide)) hgu (by rfl) (pa_cons (pv 2) (pa_cons (pv 0) pa_nil)))))))), ?_⟩
  try dsimp only [cxOf]
  refine x_body h (fun mm zs ds hl hres hp e hnx hrt => ?_)
  obtain ⟨z, z', d, d', rfl, rfl, rs, rs'⟩ := resA2 hres hl
  have hp : BgOk d := hp
  show wS _ _ ⟨[some (z), some (z'), none], mm⟩ _
  repeat' walk_at "ux"
  refine ⟨[d'], .cons rs' .nil, ⟨rfl, trivial⟩, fun r hr => ?_, fun ex hx => hx⟩
  obtain ⟨k, hk, rfl⟩ := hr
  have hk : mnOf d' = some k := hk
  have fin : ∀ (b : Bool) y, b = rwD k d → e.rt (.d (.bool b)) y := fun b y hb => hrt _ _ ⟨k, hk, by rw [hb]; rfl⟩
  repeat' walk_at "ux"
  refine ⟨k, _, [d], rfl, .cons (.r rs) .nil, ⟨rfl, hp⟩, rfl, ?_⟩
  repeat' walk_at "ux"
  cases hf : bgD k d with
  | false =>
    rw [show bgD k (a0 [d]) = false from hf]
    repeat' walk_at "ux"
    refine fin _ _ ?_
    unfold bgD at hf
    unfold rwD
    split at hf
    · rw [hf]; rfl
    · rfl
  | true =>
    rw [show bgD k (a0 [d]) = true from hf]
    obtain ⟨ts, hts, hb⟩ := bgD_some hf
    repeat' walk_at "ux"
    refine ⟨k, _, [d], rfl, .cons (.r rs) .nil, ⟨rfl, ts, hts⟩, rfl, ?_⟩
    refine fin _ _ ?_
    show enD k d = _
    unfold rwD enD
    rw [hts]
    dsimp only
    rw [hb]
    rfl
abbrev s_Stream___init__ : Stmt := clsFnN 0 (topS 60)
abbrev N_Stream___init__ : List Str := ["self", "manner"]
theorem sc_Stream___init__ : FnScope N_Stream___init__ ["self", "manner"] (defScope s_Stream___init__) := ⟨rfl, rfl, rfl, by decide +kernel, rfl, by decide +kernel, by decide +kernel⟩
theorem ok_Stream___init__ {f : Addr} (d : MFn K "__init__" "Stream.__init__" s_Stream___init__ ["self", "manner"] f) {C_Row : Addr} (at_Row : AtC K C_Row ["how", "kept", "closing", "whole_row"]) : MCal P w K mg base CX0 1 ["self", "manner"] (Ux.sp_sinit K C_Row) f := by
  refine d.ok sc_Stream___init__ (gSp_len rfl) (fun cdv A outer s H vs Q E hr hgu h => ?_)
  refine ⟨_, (pss_cons (ps_fld (pv 0) (pv 1) rfl)
    (pss_cons (ps_fld (pv 0) (pe_lstL pa_nil) rfl)
    (pss_one (ps_fld (pv 0) pe_non rfl)))), ?_⟩
  try dsimp only [cxOf]
  refine g_body h (fun i m r zs hl pw hro hp e hnx hrt => ?_)
  refine wS_plain ?_
  try dsimp only []
  obtain ⟨rfl, rfl⟩ := hp
  obtain ⟨x, w⟩ := i
  show wS _ _ ⟨[some (.lab x), some (.d (.str w))], _⟩ _
  repeat' walk_at "ux"
  rename_i kp
  exact hnx _ (g_end (A := roM r) (nw := [(kp, .lst [])]) ⟨rfl, kp, rfl, rfl⟩ ⟨rfl, by simp [Cell.isRo]⟩ (by simp [Cell.isRo]) rfl)
abbrev s_Row___init__ : Stmt := clsFnN 0 (topS 62)
abbrev N_Row___init__ : List Str := ["self", "terms", "manner"]
theorem sc_Row___init__ : FnScope N_Row___init__ ["self", "terms", "manner"] (defScope s_Row___init__) := ⟨rfl, rfl, rfl, by decide +kernel, rfl, by decide +kernel, by decide +kernel⟩
theorem ok_Row___init__ {f : Addr} (d : DfQ K "__init__" "Row.__init__" s_Row___init__ ["self", "terms", "manner"] dvs_Row___init__ shs_Row___init__ f) {C_NoManner C_Row : Addr} (c_is_row : CalD P w K mg base 4 "is_row" ["thing", "manner"] (Ux.sp_is_row K C_NoManner) (.str "floor")) {f_Stream___init__ : Addr} (cf_Stream___init__ : ClF K mg "Stream" "__init__" f_Stream___init__) (c_Stream___init__ : MCal P w K mg base CX0 1 ["self", "manner"] (Ux.sp_sinit K C_Row) f_Stream___init__) (at_Row : AtC K C_Row ["how", "kept", "closing", "whole_row"]) (b_list : mg "list" = none) : CalQ P w K mg base (L2.CX P w) 5 ["self", "terms", "manner"] (Ux.sp_rinit K C_Row) dvs_Row___init__ shs_Row___init__ f := by
  refine d.ok sc_Row___init__ (gSp_len rfl) (fun cdv A outer s H vs Q E hr hgu h => ?_)
  refine ⟨_, (pss_cons (ps_if (pt_not (pt_val (pe_calX c_is_row.toX (hr.mono (by decide)) hgu (by rfl) (takes_of rfl rfl rfl rfl) (pa_cons (pv 1) (pa_cons (pv 2) pa_nil))))) (pss_one ps_no) pss_nil)
    (pss_cons (ps_expr (pe_clsF cf_Stream___init__ c_Stream___init__ (hr.mono (by decide)) hgu (by rfl) (pa_cons (pv 0) (pa_cons (pv 2) pa_nil))))
    (pss_one (ps_fld (pv 0) (zListR (pe_callTy (listK K) (by rfl) b_list (by decide +kernel) (pa_cons (pv 1) pa_nil))) rfl)))), ?_⟩
  try dsimp only [cxOf]
  refine g_body h (fun i m r zs hl pw hro hp e hnx hrt => ?_)
  obtain ⟨rfl, z, d, rfl, hres, hts, hrw, hl⟩ := hp
  obtain ⟨x, kk, ts⟩ := i
  dsimp only at hts hrw hl
  show wS _ _ ⟨[some (.lab x), some (z), some (.d (.str kk.word))], _⟩ _
  repeat' walk_at "ux"
  have hres' : Res (toCl false [(x, Cell.ins C_Row [] [])] ++ roM r) z d := hres.app_r
  refine ⟨[d, .str kk.word], .cons hres' (.cons (.d _) .nil), ⟨rfl, fun xs hx => ?_⟩, fun u hu => ?_, fun ex hx => ?_⟩
  · have hx : dItems d = some xs := hx
    rw [intsD_items hts] at hx
    cases hx
    rw [List.length_map]; omega
  · obtain ⟨k2, hk, rfl⟩ := hu
    have hk : mnOf (.str kk.word) = some k2 := hk
    rw [mnOf_word] at hk
    cases hk
    rw [show rwD kk (a0 [d, .str kk.word]) = true from hrw]
    repeat' walk_at "ux"
    refine ⟨(x, kk.word), [], [(x, Cell.ins C_Row [] [])], roM r, false, rfl, by simp [Cell.isRo], rfl, ⟨rfl, rfl⟩, fun u m' nw hq _ _ => ?_, fun _ _ _ h => h.elim⟩
    obtain ⟨rfl, kp, rfl, rfl⟩ := hq
    dsimp only
    have hres2 : Res ([] ++ toCl false [(x, Cell.ins C_Row ["how", "kept", "closing"] [.d (.str kk.word), .lab kp, .d .none])] ++ roM r ++ toCl true [(kp, .lst [])]) z d := (Res.app_l (hres.app_r))
    repeat' walk_at "ux"
    refine ⟨d, ts.map PyData.int, hres2, intsD_items hts, fun w => ?_⟩
    repeat' walk_at "ux"
    refine hnx _ (g_end (A := roM r) (m' := [(x, Cell.ins C_Row ["how", "kept", "closing", "whole_row"] [.d (.str kk.word), .lab kp, .d .none, .lab w])]) (nw := [(kp, .lst []), (w, .lst ((ts.map PyData.int).map Z.d))]) ⟨rfl, kp, w, rfl⟩ ⟨rfl, by simp [Cell.isRo]⟩ (by simp [Cell.isRo]) ?_)
    simp [toCl]
  · have hx : mnOf (.str kk.word) = none := hx.1
    rw [mnOf_word] at hx; cases hx
abbrev s_law_made : Stmt := topS 70
abbrev N_law_made : List Str := ["_law_terms", "_law_word"]
theorem sc_law_made : FnScope N_law_made ["_law_terms", "_law_word"] (defScope s_law_made) := ⟨rfl, rfl, rfl, by decide +kernel, rfl, by decide +kernel, by decide +kernel⟩
theorem ok_law_made (d : Df K mg "_law_made" s_law_made ["_law_terms", "_law_word"]) {C_Row : Addr} (g_Row : mg "Row" = some (.ref C_Row)) {f_Row___init__ : Addr} (mk_Row : Mk K C_Row f_Row___init__) (c_Row___init__ : CalQ P w K mg base (L2.CX P w) 5 ["self", "terms", "manner"] (Ux.sp_rinit K C_Row) dvs_Row___init__ shs_Row___init__ f_Row___init__) (b_len : mg "len" = none) : Cal P w K mg base 7 "_law_made" ["_law_terms", "_law_word"] (Ux.sp_law_made K C_Row) := by
  refine d.ok sc_law_made (gSp_len rfl) (fun f cdv A outer s H vs Q E hr hgu h => ?_)
  refine ⟨_, (pss_cons (ps_if (pt_cmpR op_eq (pv 1) pe_str (nomark _)) (pss_one (ps_ret (pe_mkG sh_Row___init___0 mk_Row c_Row___init__ (.head _) (hr.mono (by decide)) hgu (by rfl) g_Row takes0 (pa_cons (pv 0) pa_nil) pk_nil))) pss_nil)
    (pss_cons (ps_if (pt_cmpR op_eq (pe_op op_mod (pe_callB (lenK K) (by rfl) b_len (by decide +kernel) (pa_cons (pv 0) pa_nil)) pe_int) pe_int (nomark _)) (pss_one (ps_ret (pe_mkG sh_Row___init___1 mk_Row c_Row___init__ (.tail _ (.head _)) (hr.mono (by decide)) hgu (by rfl) g_Row takes0 (pa_cons (pv 0) pa_nil) (pk_cons (pv 1) pk_nil)))) pss_nil)
    (pss_one (ps_ret (pe_mkG sh_Row___init___2 mk_Row c_Row___init__ (.tail _ (.tail _ (.head _))) (hr.mono (by decide)) hgu (by rfl) g_Row takes0 (pa_cons (pv 0) (pa_cons (pv 1) pa_nil)) pk_nil))))), ?_⟩
  try dsimp only [cxOf]
  refine g_body h (fun i m r zs hl pw hro hp e hnx hrt => ?_)
  refine wS_plain ?_
  try dsimp only []
  obtain ⟨kk, z, d, ts⟩ := i
  obtain ⟨rfl, rfl, hres, hts, hrw, hl⟩ := hp
  dsimp only at hres hts hrw hl
  show wS _ _ ⟨[some (z), some (.d (.str kk.word))], roM r⟩ _
  have key : ∀ x : Addr, ∀ l : List (Option Z), gCall { K := K } 3 (fun (s : Addr × Mn × List Int) m r zs => m = [(s.1, .ins C_Row [] [])] ∧ ∃ z d, zs = [.lab s.1, z, .d (.str s.2.1.word)] ∧ Res r z d ∧ intsD d = some s.2.2 ∧ rwD s.2.1 d = true ∧ s.2.2.length ≤ 100) (fun s m _ _ z m' nw => z = .d .none ∧ ∃ k w, m' ++ nw = (RS.mk s.1 k w s.2.1.word s.2.2 0 false).m C_Row) (fun _ _ _ _ _ _ _ => False) [.lab x, z, .d (.str kk.word)] ⟨l, roM r ++ [⟨x, true, .ins C_Row [] []⟩]⟩ (fun z' y' => z' = .d .none ∧ e.rt (.lab x) y') (fun _ _ => False) := fun x l => by
    refine ⟨(x, kk, ts), roM r, [(x, .ins C_Row [] [])], [], true, by simp [toCl], by simp [Cell.isRo], rfl, ⟨rfl, z, d, rfl, ?_, hts, hrw, hl⟩, fun z' m' nw hq sm _ => ?_, fun _ _ _ h => h.elim⟩
    · rw [List.append_nil]
      exact hres.rom
    · obtain ⟨rfl, k, w, hkw⟩ := hq
      refine ⟨rfl, hrt _ _ ⟨[], (RS.mk x k w kk.word ts 0 false).m C_Row, ⟨rfl, x, k, w, rfl, rfl⟩, ⟨rfl, by simp⟩, RS.ro, by simp [toCl], ?_⟩⟩
      rw [← hkw]
      simp [toCl]
  repeat' walk_at "ux"
  refine ite2 (fun c => ?_) (fun c => ?_)
  · have c : kk.word = ("floor" : Str) := of_decide_eq_true c
    repeat' walk_at "ux"
    rename_i x
    have := key x [some z, some (.d (.str kk.word))]
    rw [c] at this ⊢
    exact this
  · refine wS_seqI (wT_lend (i := 0) rfl hres.rom (wT_cut (decide (ts.length % 2 = 0)) (fun hc => ?_) (fun hc => ?_) ?_))
    · repeat' walk_at "ux"
      rename_i x
      exact key x _
    · repeat' walk_at "ux"
      rename_i x
      exact key x _
    · repeat' walk_at "ux"
      refine ⟨_, _, rfl, dLen_int hts, ?_⟩
      repeat' walk_at "ux"
      exact decide_eq_decide.mpr (by omega)
abbrev s_need_place : Stmt := topS 58
abbrev N_need_place : List Str := ["thing"]
theorem sc_need_place : FnScope N_need_place ["thing"] (defScope s_need_place) := ⟨rfl, rfl, rfl, by decide +kernel, rfl, by decide +kernel, by decide +kernel⟩
theorem ok_need_place (d : Df K mg "need_place" s_need_place ["thing"]) {C_NoPlace : Addr} (x_NoPlace : XcB beK P w K mg base "NoPlace" C_NoPlace) (c_is_whole : Cal P w K mg base 2 "is_whole" ["thing", "low", "high"] (sp_is_whole K)) {t_MOST_PLACE : Tok} (m_MOST_PLACE : mg "MOST_PLACE" = some (.int 999 t_MOST_PLACE)) : CalX P w K mg base 3 "need_place" ["thing"] (Ux.sp_need_place K C_NoPlace) := by
  refine okX d sc_need_place (xSp_len rfl) (fun f cdv A outer s H vs Q E hr hgu h => ?_)
  refine ⟨_, (pss_one (ps_if (pt_not (pt_val (pe_calR c_is_whole (hr.mono (by decide)) hgu (by rfl) (pa_cons (pv 0) (pa_cons pe_int (pa_cons (pe_glob (v := .int 999) (by rfl) m_MOST_PLACE ⟨_, rfl⟩) pa_nil)))))) (pss_one (ps_raiseB rfl x_NoPlace (hr.mono (by decide)) (takes_of rfl rfl rfl rfl) (pa_cons (pv 0) pa_nil) (by rfl))) pss_nil)), ?_⟩
  try dsimp only [cxOf]
  refine x_body h (fun mm zs ds hl hres hp e hnx hrt => ?_)
  obtain ⟨z, d, rfl, rfl, rs⟩ := resA1 hres hl
  show wS _ _ ⟨[some (z)], _⟩ _
  repeat' walk_at "ux"
  refine ⟨[d, .int 0, .int 999], .cons rs (.cons (.d _) (.cons (.d _) .nil)), ⟨rfl, _, _, _, rfl⟩, rfl, _, rfl, ?_⟩
  dsimp only
  refine ite2 (fun c => ?_) (fun c => ?_)
  rotate_left
  · have hb : wholeB d 0 999 = true := by simpa using c
    exact hnx _ ⟨hb, rfl⟩
  · have hb : wholeB d 0 999 = false := by simpa using c
    refine wS_raiseB rfl x_NoPlace.oc x_NoPlace.no ?_
    repeat' walk_at "ux"
    exact ⟨hb, rfl⟩
abbrev s_Stream_ask : Stmt := clsFnN 8 (topS 60)
abbrev N_Stream_ask : List Str := ["self", "k"]
theorem sc_Stream_ask : FnScope N_Stream_ask ["self", "k"] (defScope s_Stream_ask) := ⟨rfl, rfl, rfl, by decide +kernel, rfl, by decide +kernel, by decide +kernel⟩
theorem ok_Stream_ask {f : Addr} (d : MFn K "ask" "Stream.ask" s_Stream_ask ["self", "k"] f) {C_NoPlace C_Row : Addr} (c_need_place : CalX P w K mg base 3 "need_place" ["thing"] (Ux.sp_need_place K C_NoPlace)) (v_answer : VTab P w K mg base (L2.CX P w) 3 "answer" [(C_Row, Ux.sp_answer K C_Row)]) (at_Row : AtC K C_Row ["how", "kept", "closing", "whole_row"]) : MCal P w K mg base (L2.CX P w) 4 ["self", "k"] (Ux.sp_ask K C_Row C_NoPlace) f := by
  refine d.okX sc_Stream_ask (gSp_len rfl) (fun cdv A outer s H vs Q E hr hgu h => ?_)
  refine ⟨_, (pss_cons (ps_expr (pe_calX c_need_place (hr.mono (by decide)) hgu (by rfl) (takes_of rfl rfl rfl rfl) (pa_cons (pv 1) pa_nil)))
    (pss_one (ps_ret (pe_methX v_answer (hr.mono (by decide)) hgu (takes_of rfl rfl rfl rfl) (pv 0) (pa_cons (pv 1) pa_nil))))), ?_⟩
  try dsimp only [cxOf]
  refine g_body h (fun i m r zs hl pw hro hp e hnx hrt => ?_)
  obtain ⟨rfl, ⟨z, rfl, hres⟩, ok⟩ := hp
  obtain ⟨s, d⟩ := i
  dsimp only at hres ok
  show wS _ _ ⟨[some (.lab s.a), some (z)], _⟩ _
  repeat' walk_at "ux"
  refine ⟨[d], .cons hres.app_r .nil, ⟨rfl, trivial⟩, fun u hu => ?_, fun ex hx => ?_⟩
  · obtain ⟨hb, rfl⟩ := hu
    obtain ⟨p, rfl, hp⟩ := whole_int (show wholeB d 0 999 = true from hb)
    have ez : z = .d (.int p) := hres.int
    subst ez
    repeat' walk_at "ux"
    refine ⟨(s, p), [], s.m C_Row, roM r, false, rfl, RS.ro, rfl, ⟨rfl, rfl, ok, by dsimp only; omega⟩, fun z m' nw hq _ _ => ?_, fun _ _ _ h => h.elim⟩
    obtain ⟨rfl, rfl, rfl⟩ := hq
    rw [g_nil]
    exact hrt _ _ (g_end0 (A := roM r) ⟨p, rfl, by omega, rfl, rfl, rfl⟩ ⟨rfl, RS.ro⟩ rfl)
  · obtain ⟨hb, rfl⟩ := hx
    exact ⟨_, _, ⟨hb, rfl, rfl, rfl⟩, same_rfl RS.ro, by simp, List.subset_append_left _ _, by simp [toCl]⟩
abbrev s_law_asked : Stmt := topS 71
abbrev N_law_asked : List Str := ["_law_stream", "_law_way", "_law_thing", "e"]
theorem sc_law_asked : FnScope N_law_asked ["_law_stream", "_law_way", "_law_thing"] (defScope s_law_asked) := ⟨rfl, rfl, rfl, by decide +kernel, rfl, by decide +kernel, by decide +kernel⟩
theorem ok_law_asked (d : Df K mg "_law_asked" s_law_asked ["_law_stream", "_law_way", "_law_thing"]) {C_NoNumber C_NoPlace C_Row : Addr} (x_NoNumber : Xc P w K mg base "NoNumber" C_NoNumber) (x_NoPlace : XcB beK P w K mg base "NoPlace" C_NoPlace) (t_NoPlace_NoPlace : PySem.W.exmOne K (.ref C_NoPlace) (.ref C_NoPlace) = some true) (t_NoNumber_NoPlace : PySem.W.exmOne K (.ref C_NoNumber) (.ref C_NoPlace) = some false) (t_NoNumber_NoNumber : PySem.W.exmOne K (.ref C_NoNumber) (.ref C_NoNumber) = some true) (v_ask : VTab P w K mg base (L2.CX P w) 4 "ask" [(C_Row, Ux.sp_ask K C_Row C_NoPlace)]) (v_terms : VTab P w K mg base (L2.CX P w) 4 "terms" [(C_Row, Ux.sp_terms K C_Row C_NoNumber)]) : Cal P w K mg base 5 "_law_asked" ["_law_stream", "_law_way", "_law_thing"] (Ux.sp_law_asked K C_Row) := by
  refine d.ok sc_law_asked (gSp_len rfl) (fun f cdv A outer s H vs Q E hr hgu h => ?_)
  refine ⟨_, (pss_one (ps_tryN rfl rfl sc_law_asked.nd (fun W pn xe tk po => (pss_cons (ps_if (pt_cmpR op_eq (pv 1) pe_int (nomark _)) (pss_one (ps_ret (pe_tupZ (pa_cons pe_str (pa_cons (pe_methX v_ask (hr.mono (by decide)) hgu tk (pv 0) (pa_cons (pv 2) pa_nil)) pa_nil))))) pss_nil)
    (pss_one (ps_ret (pe_tupZ (pa_cons pe_str (pa_cons (pe_methX v_terms (hr.mono (by decide)) hgu tk (pv 0) (pa_cons (pv 2) pa_nil)) pa_nil))))))) (HdN.as (i := 3) ⟨rfl, by decide, Or.inl x_NoPlace.gC⟩ rfl rfl (fun a oe cls d pn hz hf => (pss_one (ps_ret (pe_tupZ (pa_cons pe_str (pa_cons (pe_xf x_NoPlace.xf x_NoPlace.no hz hf (pv 3)) pa_nil)))))) (HdN.as (i := 3) ⟨rfl, by decide, Or.inl x_NoNumber.gC⟩ rfl rfl (fun a oe cls d pn hz hf => (pss_one (ps_ret (pe_tupZ (pa_cons pe_str (pa_cons (pe_xf x_NoNumber.xf x_NoNumber.no hz hf (pv 3)) pa_nil)))))) HdN.stop)))), ?_⟩
  try dsimp only [cxOf]
  refine g_body h (fun i m r zs hl pw hro hp e hnx hrt => ?_)
  refine wS_plain ?_
  try dsimp only []
  obtain ⟨s, way, z, d⟩ := i
  obtain ⟨rfl, rfl, hres, ok, hw⟩ := hp
  dsimp only at hres ok hw
  show wS _ _ ⟨[some (.lab s.a), some (.d (.int way)), some (z), none], toCl false (s.m C_Row) ++ roM r⟩ _
  refine wS_try (fun W => ?_)
  generalize hH : Hd _ _ _ _ = HD
  have fin : ∀ (z' : Z) (m' nw : AC) (l : List (Option Z)) (y : S), isK28 s way z d C_Row z' m' nw → Same (s.m C_Row) m' → (∀ e ∈ nw, e.2.isRo = false) → y = ⟨l, toCl false m' ++ roM r ++ toCl true nw⟩ → e.rt z' y := fun z' m' nw l y h1 h2 h3 h4 => hrt _ _ (g_end (A := roM r) h1 h2 h3 (by rw [h4]))
  have hP : plB d = false → way = 0 → ∀ y, y = ⟨[some (.lab s.a), some (.d (.int way)), some z, none], toCl false (s.m C_Row) ++ roM r⟩ → HD ⟨.ref C_NoPlace, z⟩ y := by
    rw [← hH]
    rintro hb hw0 y rfl
    refine ⟨true, t_NoPlace_NoPlace, fun _ a dd => ?_, fun z => Bool.noConfusion z⟩
    repeat' walk_at "ux"
    exact fin _ _ [] _ _ (.inl ⟨hw0, hb, rfl, rfl, rfl⟩) (same_rfl RS.ro) (by simp) (by simp [toCl]; rfl)
  have hN : mnB d = false → way = 1 → ∀ y, y = ⟨[some (.lab s.a), some (.d (.int way)), some z, none], toCl false (s.m C_Row) ++ roM r⟩ → HD ⟨.ref C_NoNumber, z⟩ y := by
    rw [← hH]
    rintro hb hw0 y rfl
    refine ⟨false, t_NoNumber_NoPlace, fun z => Bool.noConfusion z, fun _ => ⟨true, t_NoNumber_NoNumber, fun _ a dd => ?_, fun z => Bool.noConfusion z⟩⟩
    repeat' walk_at "ux"
    exact fin _ _ [] _ _ (.inr (.inr (.inl ⟨hw0, hb, rfl, rfl, rfl⟩))) (same_rfl RS.ro) (by simp) (by simp [toCl]; rfl)
  clear hH
  rcases hw with rfl | rfl
  · repeat' walk_at "ux"
    refine ⟨(s, d), [], s.m C_Row, roM r, false, rfl, RS.ro, rfl, ⟨rfl, ⟨z, rfl, hres.rom⟩, ok⟩, fun z' m' nw hq sm rn => ?_, fun ex m' nw hx _ _ => ?_⟩
    · obtain ⟨p, hd, hp9, rfl, rfl, rfl⟩ := hq
      rw [g_nil]
      repeat' walk_at "ux"
      exact fin _ ((s.go p).m C_Row) [] _ _ (.inr (.inl ⟨rfl, p, hd, hp9, rfl, rfl, rfl⟩)) sm (by simp) (by rw [show toCl true ([] : AC) = [] from rfl, List.append_nil])
    · obtain ⟨hb, rfl, rfl, rfl⟩ := hx
      rw [g_nil]
      exact hP hb rfl _ rfl
  · repeat' walk_at "ux"
    refine ⟨(s, d), [], s.m C_Row, roM r, false, rfl, RS.ro, rfl, ⟨rfl, ⟨z, rfl, hres.rom⟩, ok⟩, fun z' m' nw hq sm rn => ?_, fun ex m' nw hx _ _ => ?_⟩
    · obtain ⟨q, p, hd, hq9, rfl, rfl, rfl⟩ := hq
      repeat' walk_at "ux"
      exact fin _ ((s.goT q).m C_Row) [(p, .lst (intsZ (s.ts.take q)))] _ _ (.inr (.inr (.inr ⟨rfl, q, p, hd, hq9, rfl, rfl, rfl⟩))) sm rn rfl
    · obtain ⟨hb, rfl, rfl, rfl⟩ := hx
      rw [g_nil]
      exact hN hb rfl _ rfl
abbrev s_law_step : Stmt := topS 72
abbrev N_law_step : List Str := ["_law_purse_here", "_law_stream", "_law_row_here", "_law_ready", "_law_way", "_law_place", "_law_odd", "_law_thing", "_law_word", "_law_found", "_law_right", "_law_due"]
theorem sc_law_step : FnScope N_law_step ["_law_purse_here", "_law_stream", "_law_row_here", "_law_ready"] (defScope s_law_step) := ⟨rfl, rfl, rfl, by decide +kernel, rfl, by decide +kernel, by decide +kernel⟩
theorem ok_law_step (d : Df K mg "_law_step" s_law_step ["_law_purse_here", "_law_stream", "_law_row_here", "_law_ready"]) (dg : base.NoDigits) {C_Row : Addr} (c_law_take : Cal P w K mg base 1 "_law_take" ["_law_purse_here", "_law_many"] (sp_law_take K)) (c_law_asked : Cal P w K mg base 5 "_law_asked" ["_law_stream", "_law_way", "_law_thing"] (Ux.sp_law_asked K C_Row)) (b_int : mg "int" = none) (b_isinstance : mg "isinstance" = none) (b_len : mg "len" = none) (b_list : mg "list" = none) (b_max : mg "max" = none) (b_min : mg "min" = none) (b_repr : mg "repr" = none) : Cal P w K mg base 6 "_law_step" ["_law_purse_here", "_law_stream", "_law_row_here", "_law_ready"] (Ux.sp_law_step K C_Row) := by
  refine d.ok sc_law_step (gSp_len rfl) (fun f cdv A outer s H vs Q E hr hgu h => ?_)
  refine ⟨_, (pss_cons (ps_set (i := 4) sc_law_step.nd rfl (Or.inl rfl) (pe_cal c_law_take (hr.mono (by decide)) hgu (by rfl) (pa_cons (pv 0) (pa_cons pe_int pa_nil))))
    (pss_cons (ps_set (i := 5) sc_law_step.nd rfl (Or.inl rfl) (pe_cal c_law_take (hr.mono (by decide)) hgu (by rfl) (pa_cons (pv 0) (pa_cons (pe_ix (ixK K) (pe_lst (pa_cons pe_int (pa_cons (pe_op op_add (zLenR (pe_callB (lenK K) (by rfl) b_len (by decide +kernel) (pa_cons (pv 2) pa_nil))) pe_int) (pa_cons pe_int pa_nil)))) (pe_cal c_law_take (hr.mono (by decide)) hgu (by rfl) (pa_cons (pv 0) (pa_cons pe_int pa_nil))) (fun _ _ => rfl)) pa_nil))))
    (pss_cons (ps_if (pt_cmpR op_eq (pe_cal c_law_take (hr.mono (by decide)) hgu (by rfl) (pa_cons (pv 0) (pa_cons pe_int pa_nil))) pe_int (nomark _)) (pss_one (ps_set (i := 5) sc_law_step.nd rfl (Or.inl rfl) pe_int)) pss_nil)
    (pss_cons (ps_if (pt_cmpR op_eq (pv 4) pe_int (nomark _)) (pss_cons (ps_set (i := 6) sc_law_step.nd rfl (Or.inl rfl) (pe_lstZ (pa_cons pe_non (pa_cons pe_bl (pa_cons (pe_un un_neg pe_int) (pa_cons pe_str (pa_cons (pe_lstL (pa_cons pe_int pa_nil)) (pa_cons (pe_tup (pa_cons pe_int pa_nil)) (pa_cons pe_dnewL (pa_cons (pe_op op_add pe_int (pe_op op_mod (pv 5) pe_int)) (pa_cons (pe_op op_pow pe_int pe_int) (pa_cons pe_bl (pa_cons pe_str pa_nil)))))))))))))
    (pss_cons (ps_set (i := 7) sc_law_step.nd rfl (Or.inl rfl) (pe_ix (ixZK K) (pv 6) (pe_cal c_law_take (hr.mono (by decide)) hgu (by rfl) (pa_cons (pv 0) (pa_cons pe_int pa_nil))) (fun _ _ => rfl)))
    (pss_cons (ps_asg (pe_cal c_law_asked (hr.mono (by decide)) hgu (by rfl) (pa_cons (pv 1) (pa_cons (pe_op op_mod (pv 5) pe_int) (pa_cons (pv 7) pa_nil)))) (pgT K rfl (pgs_cons (pg_name (i := 8) sc_law_step.nd rfl (Or.inl rfl)) (pgs_cons (pg_name (i := 9) sc_law_step.nd rfl (Or.inl rfl)) pgs_nil))))
    (pss_cons (ps_if (pt_val (zR (pe_callB (isiK K) (by rfl) b_isinstance (by decide +kernel) (pa_cons (pv 7) (pa_cons (pe_bltn (v := .ty "list") (by rfl) b_list (by decide +kernel) rfl) pa_nil))))) (pss_one (ps_expr (pe_bm PySem.F.plainAttrs_list PySem.F.slot_list_append PySem.F.type_list_append mt_append (pv 7) (pa_cons pe_int pa_nil)))) pss_nil)
    (pss_cons (ps_set (i := 10) sc_law_step.nd rfl (Or.inl rfl) (pe_and (pe_cmpR op_eq (pv 8) (pe_ix (ixK K) (pe_lst (pa_cons pe_str (pa_cons pe_str pa_nil))) (pe_op op_mod (pv 5) pe_int) (fun _ _ => rfl)) (nomark _)) (pe_one (pe_cmpR op_eq (zPXT (pe_callB (reprXK K hgu hr.units dg) (by rfl) b_repr (by decide +kernel) (pa_cons (pv 9) pa_nil))) (zPX (pe_callB (reprXK K hgu hr.units dg) (by rfl) b_repr (by decide +kernel) (pa_cons (pv 7) pa_nil))) (nomark _)))))
    (pss_one (ps_ret (pe_ifExp (pt_val (pv 10)) (pv 3) pe_non)))))))) pss_nil)
    (pss_cons (ps_if (pt_cmpR op_lt (pv 4) pe_int (nomark _)) (pss_cons (ps_set (i := 11) sc_law_step.nd rfl (Or.inl rfl) (pe_ifExp (pt_cmpR op_lt (pv 5) (zLenR (pe_callB (lenK K) (by rfl) b_len (by decide +kernel) (pa_cons (pv 2) pa_nil))) (nomark _)) (pe_tup (pa_cons pe_str (pa_cons (pe_ix (ixRK K) (pv 2) (pv 5) (fun _ _ => rfl)) pa_nil))) (pe_tup (pa_cons pe_str pa_nil))))
    (pss_cons (ps_set (i := 10) sc_law_step.nd rfl (Or.inl rfl) (pe_cmpR op_eq (zPXT (pe_callB (reprXK K hgu hr.units dg) (by rfl) b_repr (by decide +kernel) (pa_cons (pe_cal c_law_asked (hr.mono (by decide)) hgu (by rfl) (pa_cons (pv 1) (pa_cons pe_int (pa_cons (pv 5) pa_nil)))) pa_nil))) (pe_callB (reprXK K hgu hr.units dg) (by rfl) b_repr (by decide +kernel) (pa_cons (pe_tup (pa_cons pe_str (pa_cons (pv 11) pa_nil))) pa_nil)) (nomark _)))
    (pss_one (ps_ret (pe_ifExp (pt_val (pv 10)) (pe_callB (call_max2 rfl) (by rfl) b_max (by decide +kernel) (pa_cons (pv 3) (pa_cons (pe_callB (call_min2 rfl) (by rfl) b_min (by decide +kernel) (pa_cons (zLenR (pe_callB (lenK K) (by rfl) b_len (by decide +kernel) (pa_cons (pv 2) pa_nil))) (pa_cons (pe_op op_add (pv 5) pe_int) pa_nil))) pa_nil))) pe_non))))) pss_nil)
    (pss_cons (ps_set (i := 5) sc_law_step.nd rfl (Or.inl rfl) (pe_op op_add (pv 5) (pe_callTy call_int1 (by rfl) b_int (by decide +kernel) (pa_cons (pe_cmpR op_eq (pv 5) pe_int (nomark _)) pa_nil))))
    (pss_cons (ps_set (i := 11) sc_law_step.nd rfl (Or.inl rfl) (pe_tup (pa_cons (pe_slice (slRK K) (pv 2) po_none (po_some (pv 5))) (pa_cons (pe_ifExp (pt_cmpR op_le (pv 5) (zLenR (pe_callB (lenK K) (by rfl) b_len (by decide +kernel) (pa_cons (pv 2) pa_nil))) (nomark _)) pe_str pe_str) pa_nil))))
    (pss_cons (ps_asg (pe_cal c_law_asked (hr.mono (by decide)) hgu (by rfl) (pa_cons (pv 1) (pa_cons pe_int (pa_cons (pv 5) pa_nil)))) (pgT K rfl (pgs_cons (pg_name (i := 8) sc_law_step.nd rfl (Or.inl rfl)) (pgs_cons (pg_name (i := 9) sc_law_step.nd rfl (Or.inl rfl)) pgs_nil))))
    (pss_cons (ps_if (PW.pt (pw_or (pt_cmpR op_ne (pv 8) pe_str (nomark _)) (pw_or1 (pt_cmpR op_ne (zPXT (pe_callB (reprXK K hgu hr.units dg) (by rfl) b_repr (by decide +kernel) (pa_cons (pv 9) pa_nil))) (pe_callB (reprXK K hgu hr.units dg) (by rfl) b_repr (by decide +kernel) (pa_cons (pv 11) pa_nil)) (nomark _))))) (pss_one (ps_ret pe_non)) pss_nil)
    (pss_cons (ps_expr (pe_bm PySem.F.plainAttrs_list PySem.F.slot_list_append PySem.F.type_list_append mt_append (pe_ix (ixZK K) (pv 9) pe_int (fun _ _ => rfl)) (pa_cons pe_int pa_nil)))
    (pss_one (ps_ret (pe_callB (call_max2 rfl) (by rfl) b_max (by decide +kernel) (pa_cons (pv 3) (pa_cons (pe_callB (call_min2 rfl) (by rfl) b_min (by decide +kernel) (pa_cons (zLenR (pe_callB (lenK K) (by rfl) b_len (by decide +kernel) (pa_cons (pv 2) pa_nil))) (pa_cons (pv 5) pa_nil))) pa_nil))))))))))))))), ?_⟩
  try dsimp only [cxOf]
  refine g_body h (fun i m r zs hl pw hro hp e hnx hrt => ?_)
  refine wS_plain ?_
  try dsimp only []
  obtain ⟨s, pp, n, q⟩ := i
  obtain ⟨rfl, rfl, h5, ok, hres, hbd, hne⟩ := hp
  dsimp only at h5 ok hres hbd hne
  show wS _ _ ⟨[some (.lab pp), some (.lab s.a), some (.lab q), some (.d (.int s.n)), none, none, none, none, none, none, none, none], ⟨pp, false, .pu n⟩ :: (toCl false (s.m C_Row) ++ roM r)⟩ _
  have hl1 := ok.l1
  have hrs : ∀ (x : Cl) (X N : List Cl), Res (x :: (X ++ (roM r ++ N))) (.lab q) (.list (s.ts.map PyData.int)) := fun x X N => Res.app_rr (A := [x]) (Res.app_rr (Res.app_l hres.rom))
  have hrs0 : ∀ (x : Cl) (X : List Cl), Res (x :: (X ++ roM r)) (.lab q) (.list (s.ts.map PyData.int)) := fun x X => Res.app_rr (A := [x]) (Res.app_rr hres.rom)
  have fin : ∀ (n2 : Nat) (cl : Bool) (n' : Nat) (l : List (Option Z)) (N : List Cl), n ≤ n' + 5 → ({ s with n := n2, cl := cl } : RS).Ok → e.rt (.d (.int n2)) ⟨l, ⟨pp, false, .pu n'⟩ :: (toCl false (({ s with n := n2, cl := cl } : RS).m C_Row) ++ (roM r ++ N))⟩ := fun n2 cl n' l N h1 h2 => hrt _ _ (g_end0 (A := roM r ++ N) ⟨rfl, n2, cl, n', rfl, rfl, h1, h2⟩ ⟨rfl, fun e he => by
    rcases List.mem_cons.mp he with rfl | he
    · rfl
    · exact RS.ro e he⟩ rfl)
  repeat' walk_at "ux"
  rename_i way wy0 wy1
  refine ⟨s.ts.map PyData.int, hrs0 _ _, ?_⟩
  rw [List.length_map]
  repeat' walk_at "ux"
  rename_i w w0 w1
  refine ixD28 w0 w1 (fun g hg => ?_)
  obtain ⟨k, rfl, k0, k1⟩ : ∃ n : Int, g = .int n ∧ 3 ≤ n ∧ n ≤ 120 := by
    have hlen : 1 ≤ s.ts.length := by
      cases h : s.ts with
      | nil => exact absurd h hne
      | cons x r => simp
    simp only [List.mem_cons, List.not_mem_nil, or_false] at hg
    rcases hg with rfl | rfl | rfl
    · exact ⟨3, rfl, by decide, by decide⟩
    · exact ⟨_, rfl, by omega, by omega⟩
    · exact ⟨120, rfl, by decide, by decide⟩
  refine ⟨k, _, rfl, rfl, ⟨by omega, by omega, by omega⟩, fun pl p0 p1 => ?_⟩
  obtain ⟨pl, rfl⟩ : ∃ p' : Nat, pl = p' := ⟨pl.toNat, by omega⟩
  show wS _ (tSeq (tIfS _ _ _) _) _ _
  refine seq_join (fun y => ∃ p : Nat, y = ⟨[some (.lab pp), some (.lab s.a), some (.lab q), some (.d (.int s.n)), some (.d (.int way)), some (.d (.int p)), none, none, none, none, none, none], ⟨pp, false, .pu (n - 1 - 1 - 1 - 1)⟩ :: (toCl false (s.m C_Row) ++ roM r)⟩ ∧ p ≤ 999) ?_ ?_
  · repeat' walk_at "ux"
    refine ite2 (fun c => ?_) (fun c => ?_)
    · repeat' walk_at "ux"
      exact Nat.le_refl _
    · exact ⟨pl, rfl, by omega⟩
  · rintro y ⟨p, rfl, hp9⟩
    repeat' walk_at "ux"
    refine ite2 (fun c => ?_) (fun c => ?_)
    · have c : way = 4 := of_decide_eq_true c
      have hpp : (p : Int) % 2 = 0 ∨ (p : Int) % 2 = 1 := by omega
      repeat' walk_at "ux"
      rename_i x1 x u u0 u1
      refine ixZ28 u0 u1 (fun z hz => ?_)
      have hd : ∃ d, (∀ M : List Cl, ⟨x1, true, .lst [.d (.int 3)]⟩ ∈ M → ⟨x, true, .dic []⟩ ∈ M → Res M z d) ∧ ((p : Int) % 2 = 0 → plB d = false) ∧ ((p : Int) % 2 = 1 → mnB d = false) ∧ ShX d ∧ (z = .lab x1 ∨ isT "list" d = false ∧ ∀ M : List Cl, ⟨x, true, .dic []⟩ ∈ M → Res M z d) := by
        simp only [List.mem_cons, List.not_mem_nil, or_false] at hz
        rcases hz with rfl | rfl | rfl | rfl | rfl | rfl | rfl | rfl | rfl | rfl | rfl
        · exact ⟨_, fun _ _ _ => .d _, fun _ => rfl, fun _ => rfl, shx0 (by decide +kernel) (by decide +kernel) (by decide +kernel), .inr ⟨by decide +kernel, fun _ _ => .d _⟩⟩
        · exact ⟨_, fun _ _ _ => .d _, fun _ => rfl, fun _ => rfl, shx0 (by decide +kernel) (by decide +kernel) (by decide +kernel), .inr ⟨by decide +kernel, fun _ _ => .d _⟩⟩
        · exact ⟨_, fun _ _ _ => .d _, fun _ => rfl, fun _ => rfl, shx0 (by decide +kernel) (by decide +kernel) (by decide +kernel), .inr ⟨by decide +kernel, fun _ _ => .d _⟩⟩
        · exact ⟨_, fun _ _ _ => .d _, fun _ => rfl, fun _ => rfl, shx0 (by decide +kernel) (by decide +kernel) (by decide +kernel), .inr ⟨by decide +kernel, fun _ _ => .d _⟩⟩
        · exact ⟨.list [.int 3], fun _ h _ => .lab h (.lst [_]), fun _ => rfl, fun _ => rfl, shx0 (by decide +kernel) (by decide +kernel) (by decide +kernel), .inl rfl⟩
        · exact ⟨_, fun _ _ _ => .d _, fun _ => rfl, fun _ => rfl, shx0 (by decide +kernel) (by decide +kernel) (by decide +kernel), .inr ⟨by decide +kernel, fun _ _ => .d _⟩⟩
        · exact ⟨dD [], fun _ _ h => .lab h (.dic []), fun _ => rfl, fun _ => rfl, shx0 (by decide +kernel) (by decide +kernel) (by decide +kernel), .inr ⟨by decide +kernel, fun _ h => .lab h (.dic [])⟩⟩
        · rcases hpp with e | e
          · rw [e]
            exact ⟨_, fun _ _ _ => .d _, fun _ => (by decide +kernel), fun z => (by cases z), shx0 (by decide +kernel) (by decide +kernel) (by decide +kernel), .inr ⟨by decide +kernel, fun _ _ => .d _⟩⟩
          · rw [e]
            exact ⟨_, fun _ _ _ => .d _, fun z => (by cases z), fun _ => (by decide +kernel), shx0 (by decide +kernel) (by decide +kernel) (by decide +kernel), .inr ⟨by decide +kernel, fun _ _ => .d _⟩⟩
        · exact ⟨_, fun _ _ _ => .d _, fun _ => (by decide +kernel), fun _ => (by decide +kernel), shx0 (by decide +kernel) (by decide +kernel) (by decide +kernel), .inr ⟨by decide +kernel, fun _ _ => .d _⟩⟩
        · exact ⟨_, fun _ _ _ => .d _, fun _ => rfl, fun _ => rfl, shx0 (by decide +kernel) (by decide +kernel) (by decide +kernel), .inr ⟨by decide +kernel, fun _ _ => .d _⟩⟩
        · exact ⟨_, fun _ _ _ => .d _, fun _ => rfl, fun _ => rfl, shx0 (by decide +kernel) (by decide +kernel) (by decide +kernel), .inr ⟨by decide +kernel, fun _ _ => .d _⟩⟩
      obtain ⟨d, hd, d0, d1, dx, dl⟩ := hd
      clear hz
      generalize hwz : (p : Int) % 2 = wz at hpp d0 d1 ⊢
      refine wS_perm (m' := (⟨pp, false, .pu (n - 1 - 1 - 1 - 1 - 1)⟩ :: (toCl false (s.m C_Row) ++ (roM r ++ [⟨x, true, .dic []⟩]))) ++ [⟨x1, true, .lst [.d (.int 3)]⟩]) ?_ ?_
      · dsimp only [List.set]
        refine .cons _ ?_
        simp only [List.append_eq, List.append_assoc]
        exact (List.perm_append_comm (l₁ := [_]) (l₂ := [_])).append_left _ |>.append_left _
      repeat' walk_at "ux"
      rw [hwz]
      refine ⟨⟨s, wz, z, d⟩, [⟨pp, false, .pu (n - 1 - 1 - 1 - 1 - 1)⟩], s.m C_Row, roM r ++ ([⟨x, true, .dic []⟩] ++ [⟨x1, true, .lst [.d (.int 3)]⟩]), false, by simp, RS.ro, rfl, ⟨rfl, rfl, hd _ (by simp) (by simp), ok, hpp⟩, fun zr m' nw hq sm rn => ?_, fun _ _ _ h => h.elim⟩
      obtain ⟨wd, rfl, hwd, rfl, rfl⟩ := odd28 hq d0 d1
      dsimp only
      have fin4 : ∀ (N : List Cl) (y : S), y.m = ⟨pp, false, .pu (n - 1 - 1 - 1 - 1 - 1)⟩ :: (toCl false (s.m C_Row) ++ (roM r ++ N)) → e.rt (.d (.int s.n)) y := fun N y h => by
        have := fin s.n s.cl _ y.l N (show n ≤ n - 1 - 1 - 1 - 1 - 1 + 5 by omega) ok
        rw [show ({ s with n := s.n, cl := s.cl } : RS) = s from rfl, ← h] at this
        exact this
      have hixw : ∀ R : D → Prop, R (.str wd) → ∃ d i g, Z.d (.list [PyData.str "place", PyData.str "number"]) = Z.d d ∧ Z.d (.int wz) = Z.d (.int i) ∧ dIx d i = some g ∧ R g := by
        intro R hR
        rcases hwd with ⟨rfl, rfl⟩ | ⟨rfl, rfl⟩
        · exact ⟨_, 0, _, rfl, rfl, rfl, hR⟩
        · exact ⟨_, 1, _, rfl, rfl, rfl, hR⟩
      rcases dl with rfl | ⟨dl, hd2⟩
      · repeat' walk_at "ux"
        refine ⟨.list [.int 3], .lab (e := ⟨x1, true, .lst [.d (.int 3)]⟩) (by simp) (.lst [_]), _, rfl, itb_t (isT_list _) ?_⟩
        refine wS_perm (m' := (⟨pp, false, .pu (n - 1 - 1 - 1 - 1 - 1)⟩ :: (toCl false (s.m C_Row) ++ (roM r ++ [⟨x, true, .dic []⟩]))) ++ [⟨x1, true, .lst [.d (.int 3)]⟩]) (.of_eq (by simp [toCl])) ?_
        refine wS_app (i := 7) (j := (⟨pp, false, .pu (n - 1 - 1 - 1 - 1 - 1)⟩ :: (toCl false (s.m C_Row) ++ (roM r ++ [⟨x, true, .dic []⟩]))).length) rfl (at_end _ _) ?_
        repeat' walk_at "ux"
        refine ⟨_, at_end _ _, sz_lt1 (by simp), ?_⟩
        dsimp only
        rw [set_at_end]
        have hR5 : ∀ M : List Cl, ⟨x1, true, .lst ([.d (.int 3)] ++ [.d (.int 5)])⟩ ∈ M → Res M (.lab x1) (.list [.int 3, .int 5]) := fun _ h => .lab h (.lst [_, _])
        repeat' walk_at "ux"
        rw [hwz]
        refine hixw _ ?_
        repeat' walk_at "ux"
        refine itb_t (eqS_self _) ?_
        repeat' walk_at "ux"
        refine xE_reprRXT ?_
        repeat' walk_at "ux"
        refine ⟨_, .r (hR5 _ (by simp)), shx0 (by decide +kernel) (by decide +kernel) (by decide +kernel), ?_⟩
        obtain ⟨X, hX⟩ : ∃ X, (PyData.list [.int 3, .int 5]).shown = X := ⟨_, rfl⟩
        rw [hX]
        refine xE_reprRX ?_
        repeat' walk_at "ux"
        refine ⟨_, hR5 _ (by simp), shx0 (by decide +kernel) (by decide +kernel) (by decide +kernel), ?_⟩
        rw [hX]
        repeat' walk_at "ux"
        refine itb_t (eqS_self X) ?_
        repeat' walk_at "ux"
        exact fin4 ([⟨x, true, .dic []⟩] ++ [⟨x1, true, .lst ([.d (.int 3)] ++ [.d (.int 5)])⟩]) _ (by simp [toCl])
      · repeat' walk_at "ux"
        refine ⟨d, hd2 _ (by simp), _, rfl, itb_f dl ?_⟩
        repeat' walk_at "ux"
        rw [hwz]
        refine hixw _ ?_
        repeat' walk_at "ux"
        refine itb_t (eqS_self _) ?_
        repeat' walk_at "ux"
        refine xE_reprRXT ?_
        repeat' walk_at "ux"
        refine ⟨_, .r (hd2 _ (by simp)), dx, ?_⟩
        obtain ⟨X, hX⟩ : ∃ X, d.shown = X := ⟨_, rfl⟩
        rw [hX]
        refine xE_reprRX ?_
        repeat' walk_at "ux"
        refine ⟨_, hd2 _ (by simp), dx, ?_⟩
        rw [hX]
        repeat' walk_at "ux"
        refine itb_t (eqS_self X) ?_
        repeat' walk_at "ux"
        exact fin4 ([⟨x, true, .dic []⟩] ++ [⟨x1, true, .lst [.d (.int 3)]⟩]) _ (by simp [toCl])
    · have c : ¬ way = 4 := of_decide_eq_false (Bool.eq_false_iff.mpr c)
      repeat' walk_at "ux"
      refine ite2 (fun c2 => ?_) (fun c2 => ?_)
      · have c2 : way < 2 := of_decide_eq_true c2
        have sTd : ShX (.tuple [.str "told", ansD s.ts p]) := shx_ans hbd p
        obtain ⟨X, hX⟩ : ∃ X, (PyData.tuple [.str "told", ansD s.ts p]).shown = X := ⟨_, rfl⟩
        repeat' walk_at "ux"
        refine ⟨s.ts.map PyData.int, hrs0 _ _, ?_⟩
        rw [List.length_map]
        repeat' walk_at "ux"
        refine ite2 (fun c3 => ?_) (fun c3 => ?_)
        · have c3 : p < s.ts.length := by have := of_decide_eq_true c3; omega
          have ht : s.ts[p]? = some s.ts[p] := List.getElem?_eq_getElem c3
          have ha : ansD s.ts p = .tuple [.str "term", .int s.ts[p]] := by unfold ansD; rw [ht]
          rw [ha] at sTd hX
          repeat' walk_at "ux"
          refine ⟨s.ts.map PyData.int, _, .int s.ts[p], hrs0 _ _, rfl, Tq.atI_nat (by rw [List.getElem?_map, ht]; rfl), ?_⟩
          repeat' walk_at "ux"
          refine xE_reprRXT ?_
          repeat' walk_at "ux"
          refine ⟨⟨s, 0, .d (.int p), .int p⟩, [⟨pp, false, .pu (n - 1 - 1 - 1 - 1)⟩], s.m C_Row, roM r, false, rfl, RS.ro, rfl, ⟨rfl, rfl, .d _, ok, .inl rfl⟩, fun z m' nw hq sm rn => ?_, fun _ _ _ h => h.elim⟩
          obtain ⟨rfl, rfl, rfl⟩ := told0 hp9 hq
          rw [g_nil3, ha]
          dsimp only
          refine ⟨_, .tup (.cons (.d _) (.cons (.d _) .nil)), sTd, ?_⟩
          rw [hX]
          repeat' walk_at "ux"
          rw [show (PyData.tuple [.str "told", (.tuple [.str "term", .int s.ts[p]])]).shown = X from hX]
          refine itb_t (eqS_self X) ?_
          repeat' walk_at "ux"
          refine ⟨s.ts.map PyData.int, hrs0 _ _, ?_⟩
          rw [List.length_map]
          repeat' walk_at "ux"
          have hf := fin (max s.n (min (p + 1) s.ts.length)) (s.cl || decide (s.ts.length ≤ p)) (n - 1 - 1 - 1 - 1) [some (.lab pp), some (.lab s.a), some (.lab q), some (.d (.int s.n)), some (.d (.int way)), some (.d (.int p)), none, none, none, none, some (.d (.bool (eqS (.str X) (.str X)))), some (.d (.tuple [.str "term", .int s.ts[p]]))] [] (by omega) (go_ok ok)
          rw [List.append_nil] at hf
          rw [imax_eq]
          exact hf
        · have c3 : ¬ p < s.ts.length := by have := of_decide_eq_false (Bool.eq_false_iff.mpr c3); omega
          have ha : ansD s.ts p = .tuple [.str "end"] := by unfold ansD; rw [List.getElem?_eq_none (by omega)]
          rw [ha] at sTd hX
          repeat' walk_at "ux"
          refine xE_reprRXT ?_
          repeat' walk_at "ux"
          refine ⟨⟨s, 0, .d (.int p), .int p⟩, [⟨pp, false, .pu (n - 1 - 1 - 1 - 1)⟩], s.m C_Row, roM r, false, rfl, RS.ro, rfl, ⟨rfl, rfl, .d _, ok, .inl rfl⟩, fun z m' nw hq sm rn => ?_, fun _ _ _ h => h.elim⟩
          obtain ⟨rfl, rfl, rfl⟩ := told0 hp9 hq
          rw [g_nil3, ha]
          dsimp only
          refine ⟨_, .tup (.cons (.d _) (.cons (.d _) .nil)), sTd, ?_⟩
          rw [hX]
          repeat' walk_at "ux"
          rw [show (PyData.tuple [.str "told", (.tuple [.str "end"])]).shown = X from hX]
          refine itb_t (eqS_self X) ?_
          repeat' walk_at "ux"
          refine ⟨s.ts.map PyData.int, hrs0 _ _, ?_⟩
          rw [List.length_map]
          repeat' walk_at "ux"
          have hf := fin (max s.n (min (p + 1) s.ts.length)) (s.cl || decide (s.ts.length ≤ p)) (n - 1 - 1 - 1 - 1) [some (.lab pp), some (.lab s.a), some (.lab q), some (.d (.int s.n)), some (.d (.int way)), some (.d (.int p)), none, none, none, none, some (.d (.bool (eqS (.str X) (.str X)))), some (.d (.tuple [.str "end"]))] [] (by omega) (go_ok ok)
          rw [List.append_nil] at hf
          rw [imax_eq]
          exact hf
      · have c2 : ¬ way < 2 := of_decide_eq_false (Bool.eq_false_iff.mpr c2)
        obtain ⟨p2, hp2, hp3⟩ : ∃ p2 : Nat, (p : Int) + (if eqS (.int p) (.int 999) = true then 1 else 0) = p2 ∧ p2 ≤ 1000 := by
          split
          · exact ⟨p + 1, by omega, by omega⟩
          · exact ⟨p, by omega, by omega⟩
        repeat' walk_at "ux"
        refine .inr ⟨_, rfl, ?_⟩
        repeat' walk_at "ux"
        rw [hp2]
        refine ⟨s.ts.map PyData.int, hrs0 _ _, ?_⟩
        rw [cutD_takeN, ← List.map_take]
        repeat' walk_at "ux"
        refine ⟨s.ts.map PyData.int, hrs0 _ _, ?_⟩
        rw [List.length_map]
        repeat' walk_at "ux"
        refine ite2 (fun c4 => ?_) (fun c4 => ?_)
        · have c4 : p2 ≤ s.ts.length := by have := of_decide_eq_true c4; omega
          repeat' walk_at "ux"
          refine ⟨⟨s, 1, .d (.int p2), .int p2⟩, [⟨pp, false, .pu (n - 1 - 1 - 1 - 1)⟩], s.m C_Row, roM r, false, rfl, RS.ro, rfl, ⟨rfl, rfl, .d _, ok, .inr rfl⟩, fun z m' nw hq sm rn => ?_, fun _ _ _ h => h.elim⟩
          obtain ⟨pq, rfl, rfl, rfl⟩ := told1 hp3 hq
          rw [if_pos c4]
          dsimp only
          have sTd : ShX (.tuple [.list ((s.ts.take p2).map PyData.int), .str "more"]) := shx_row hbd hl1 p2 (by exact ⟨by decide +kernel, by decide +kernel, by decide +kernel⟩)
          obtain ⟨X, hX⟩ : ∃ X, (PyData.tuple [.list ((s.ts.take p2).map PyData.int), .str "more"]).shown = X := ⟨_, rfl⟩
          repeat' walk_at "ux"
          refine xE_reprRXT ?_
          repeat' walk_at "ux"
          refine ⟨_, .tup (.cons (Res.app_rr (Res.at (j := 0) rfl (.lst _))) (.cons (.d _) .nil)), sTd, ?_⟩
          rw [hX]
          repeat' walk_at "ux"
          rw [show (PyData.tuple [.list ((s.ts.take p2).map PyData.int), .str "more"]).shown = X from hX]
          refine itb_f (congrArg Bool.not (eqS_self X)) ?_
          refine wS_seq (wS_appX (j := ([(⟨pp, false, .pu (n - 1 - 1 - 1 - 1)⟩ : Cl)] ++ toCl false ((s.goT p2).m C_Row) ++ roM r).length) (a := pq) (b := true) (zs0 := intsZ (s.ts.take p2)) ?_)
          repeat' walk_at "ux"
          refine ⟨at_end _ _, ?_⟩
          repeat' walk_at "ux"
          refine ⟨_, at_end _ _, sz_lt1 (by rw [len_intsZ, List.length_take]; omega), ?_⟩
          dsimp only
          rw [show toCl true [(pq, Cell.lst (intsZ (s.ts.take p2)))] = [⟨pq, true, .lst (intsZ (s.ts.take p2))⟩] from rfl, set_at_end]
          repeat' walk_at "ux"
          refine ⟨s.ts.map PyData.int, Res.app_l (Res.app_rr hres.rom), ?_⟩
          rw [List.length_map]
          repeat' walk_at "ux"
          rw [imax_eq2, ← goT_n]
          refine hrt _ _ (g_end0 (m' := (pp, .pu (n - 1 - 1 - 1 - 1)) :: (s.goT p2).m C_Row) (A := roM r ++ [⟨pq, true, .lst (intsZ (s.ts.take p2) ++ [.d (.int 7)])⟩]) ⟨rfl, (s.goT p2).n, (s.goT p2).cl, n - 1 - 1 - 1 - 1, rfl, by rw [goT_eta], by dsimp only; omega, by rw [goT_eta]; exact goT_ok ok⟩ ⟨by simp [RS.m, goT_a], fun e he => ?_⟩ (by simp [toCl]))
          rcases List.mem_cons.mp he with rfl | he
          · rfl
          · exact RS.ro e he
        · have c4 : ¬ p2 ≤ s.ts.length := by have := of_decide_eq_false (Bool.eq_false_iff.mpr c4); omega
          repeat' walk_at "ux"
          refine ⟨⟨s, 1, .d (.int p2), .int p2⟩, [⟨pp, false, .pu (n - 1 - 1 - 1 - 1)⟩], s.m C_Row, roM r, false, rfl, RS.ro, rfl, ⟨rfl, rfl, .d _, ok, .inr rfl⟩, fun z m' nw hq sm rn => ?_, fun _ _ _ h => h.elim⟩
          obtain ⟨pq, rfl, rfl, rfl⟩ := told1 hp3 hq
          rw [if_neg c4]
          dsimp only
          have sTd : ShX (.tuple [.list ((s.ts.take p2).map PyData.int), .str "end"]) := shx_row hbd hl1 p2 (by exact ⟨by decide +kernel, by decide +kernel, by decide +kernel⟩)
          obtain ⟨X, hX⟩ : ∃ X, (PyData.tuple [.list ((s.ts.take p2).map PyData.int), .str "end"]).shown = X := ⟨_, rfl⟩
          repeat' walk_at "ux"
          refine xE_reprRXT ?_
          repeat' walk_at "ux"
          refine ⟨_, .tup (.cons (Res.app_rr (Res.at (j := 0) rfl (.lst _))) (.cons (.d _) .nil)), sTd, ?_⟩
          rw [hX]
          repeat' walk_at "ux"
          rw [show (PyData.tuple [.list ((s.ts.take p2).map PyData.int), .str "end"]).shown = X from hX]
          refine itb_f (congrArg Bool.not (eqS_self X)) ?_
          refine wS_seq (wS_appX (j := ([(⟨pp, false, .pu (n - 1 - 1 - 1 - 1)⟩ : Cl)] ++ toCl false ((s.goT p2).m C_Row) ++ roM r).length) (a := pq) (b := true) (zs0 := intsZ (s.ts.take p2)) ?_)
          repeat' walk_at "ux"
          refine ⟨at_end _ _, ?_⟩
          repeat' walk_at "ux"
          refine ⟨_, at_end _ _, sz_lt1 (by rw [len_intsZ, List.length_take]; omega), ?_⟩
          dsimp only
          rw [show toCl true [(pq, Cell.lst (intsZ (s.ts.take p2)))] = [⟨pq, true, .lst (intsZ (s.ts.take p2))⟩] from rfl, set_at_end]
          repeat' walk_at "ux"
          refine ⟨s.ts.map PyData.int, Res.app_l (Res.app_rr hres.rom), ?_⟩
          rw [List.length_map]
          repeat' walk_at "ux"
          rw [imax_eq2, ← goT_n]
          refine hrt _ _ (g_end0 (m' := (pp, .pu (n - 1 - 1 - 1 - 1)) :: (s.goT p2).m C_Row) (A := roM r ++ [⟨pq, true, .lst (intsZ (s.ts.take p2) ++ [.d (.int 7)])⟩]) ⟨rfl, (s.goT p2).n, (s.goT p2).cl, n - 1 - 1 - 1 - 1, rfl, by rw [goT_eta], by dsimp only; omega, by rw [goT_eta]; exact goT_ok ok⟩ ⟨by simp [RS.m, goT_a], fun e he => ?_⟩ (by simp [toCl]))
          rcases List.mem_cons.mp he with rfl | he
          · rfl
          · exact RS.ro e he
abbrev s_law : Stmt := topS 73
abbrev N_law : List Str := ["_law_script", "_law_words", "_law_k", "_law_purse_here", "_law_manners", "_law_sizes", "_law_rows", "_law_handed", "_law_streams", "_law_ready", "_law_turn", "_law_at", "_law_kept"]
theorem sc_law : FnScope N_law ["_law_script"] (defScope s_law) := ⟨rfl, rfl, rfl, by decide +kernel, rfl, by decide +kernel, by decide +kernel⟩
theorem ok_law {f : Addr} {fd : FuncData} (F : Fun K "law" "law" s_law f fd) (dg : base.NoDigits) {C_NoNumber C_Row C_Stream : Addr} (g_Stream : mg "Stream" = some (.ref C_Stream)) (c_law_cell : Cal P w K mg base 1 "_law_cell" ["_law_script", "_law_k"] (sp_law_cell K)) (c_law_purse : Cal P w K mg base 1 "_law_purse" ["_law_cell_here"] (sp_law_purse K)) (c_law_take : Cal P w K mg base 1 "_law_take" ["_law_purse_here", "_law_many"] (sp_law_take K)) (c_law_row : Cal P w K mg base 4 "_law_row" ["_law_purse_here", "_law_kind", "_law_many"] (Ux.sp_law_row K)) (c_law_made : Cal P w K mg base 7 "_law_made" ["_law_terms", "_law_word"] (Ux.sp_law_made K C_Row)) (c_law_step : Cal P w K mg base 6 "_law_step" ["_law_purse_here", "_law_stream", "_law_row_here", "_law_ready"] (Ux.sp_law_step K C_Row)) (v_asked : VTab P w K mg base (L2.CX P w) 1 "asked" [(C_Row, Ux.sp_asked K C_Row)]) (v_depth : VTab P w K mg base (L2.CX P w) 1 "depth" [(C_Row, Ux.sp_depth K C_Row)]) (v_made : VTab P w K mg base (L2.CX P w) 1 "made" [(C_Row, Ux.sp_made K C_Row)]) (v_manner : VTab P w K mg base (L2.CX P w) 1 "manner" [(C_Row, Ux.sp_manner K C_Row)]) (v_terms : VTab P w K mg base (L2.CX P w) 4 "terms" [(C_Row, Ux.sp_terms K C_Row C_NoNumber)]) (ic_Row : IsiC K C_Row) (kc_Row_Stream : PySem.W.kitOne K (.ref C_Row) (.ref C_Stream) = some true) (b_isinstance : mg "isinstance" = none) (b_len : mg "len" = none) (b_list : mg "list" = none) (b_max : mg "max" = none) (b_min : mg "min" = none) (b_range : mg "range" = none) (b_repr : mg "repr" = none) (b_tuple : mg "tuple" = none) : FnG P w K mg base CX0 8 f fd ["_law_script"] (sp_law K) := by
  refine okG F sc_law spLaw_len (fun cdv A outer s H vs Q E hr hgu h => ?_)
  refine ⟨_, (pss_cons (ps_set (i := 1) sc_law.nd rfl (Or.inl rfl) (pe_lst (pa_cons pe_str (pa_cons pe_str (pa_cons pe_str pa_nil)))))
    (pss_cons (ps_for PassesOwn.never rfl (pi_range1 (by rfl) b_range (pa_cons (pe_callB (call_max2 rfl) (by rfl) b_max (by decide +kernel) (pa_cons pe_int (pa_cons (pe_callB (call_min2 rfl) (by rfl) b_min (by decide +kernel) (pa_cons pe_int (pa_cons (pe_callB (lenK K) (by rfl) b_len (by decide +kernel) (pa_cons (pv 0) pa_nil)) pa_nil))) pa_nil))) pa_nil)) (pg_name (i := 2) sc_law.nd rfl (Or.inl rfl)) (pss_cons (ps_set (i := 3) sc_law.nd rfl (Or.inr rfl) (pe_cal c_law_purse (hr.mono (by decide)) hgu (by rfl) (pa_cons (pe_cal c_law_cell (hr.mono (by decide)) hgu (by rfl) (pa_cons (pv 0) (pa_cons (pv 2) pa_nil))) pa_nil)))
    (pss_cons (ps_set (i := 4) sc_law.nd rfl (Or.inr rfl) (pe_lst (pa_cons (pe_ix (ixK K) (pv 1) (pe_cal c_law_take (hr.mono (by decide)) hgu (by rfl) (pa_cons (pv 3) (pa_cons pe_int pa_nil))) (fun _ _ => rfl)) (pa_cons (pe_ix (ixK K) (pv 1) (pe_cal c_law_take (hr.mono (by decide)) hgu (by rfl) (pa_cons (pv 3) (pa_cons pe_int pa_nil))) (fun _ _ => rfl)) pa_nil))))
    (pss_cons (ps_set (i := 5) sc_law.nd rfl (Or.inr rfl) (pe_lst (pa_cons (pe_op op_add pe_int (pe_cal c_law_take (hr.mono (by decide)) hgu (by rfl) (pa_cons (pv 3) (pa_cons (pe_ix (ixK K) (pe_lst (pa_cons pe_int (pa_cons pe_int (pa_cons pe_int pa_nil)))) (pe_cal c_law_take (hr.mono (by decide)) hgu (by rfl) (pa_cons (pv 3) (pa_cons pe_int pa_nil))) (fun _ _ => rfl)) pa_nil)))) (pa_cons (pe_op op_add pe_int (pe_cal c_law_take (hr.mono (by decide)) hgu (by rfl) (pa_cons (pv 3) (pa_cons pe_int pa_nil)))) pa_nil))))
    (pss_cons (ps_setLc (i := 6) (own := [("_law_at", 11)]) (g := gName 11) rfl sc_law.nd rfl rfl (sw_true rfl rfl rfl (by decide +kernel)) (pi_range1 (by rfl) b_range (pa_cons pe_int pa_nil)) (blkOk_by (own := [("_law_at", 11)]) (N := N_law) (sc := defScope s_law) (by decide +kernel)) (fun _ _ _ _ _ => (pg_name (i := 11) sc_law.nd rfl (Or.inl rfl))) (fun _ _ _ _ _ => pts_nil) (fun _ _ _ _ _ => (pe_cal c_law_row (hr.mono (by decide)) hgu (by rfl) (pa_cons (pv 3) (pa_cons (pe_ix (ixK K) (pv 4) (pv 11) (fun _ _ => rfl)) (pa_cons (pe_ix (ixK K) (pv 5) (pv 11) (fun _ _ => rfl)) pa_nil))))))
    (pss_cons (ps_set (i := 7) sc_law.nd rfl (Or.inr rfl) (pe_lstL (pa_cons (zListR (pe_callTy (listK K) (by rfl) b_list (by decide +kernel) (pa_cons (pe_ix (ixZK K) (pv 6) pe_int (fun _ _ => rfl)) pa_nil))) (pa_cons (zListR (pe_callTy (listK K) (by rfl) b_list (by decide +kernel) (pa_cons (pe_ix (ixZK K) (pv 6) pe_int (fun _ _ => rfl)) pa_nil))) pa_nil))))
    (pss_cons (ps_if (pt_cmpR op_eq (pe_cal c_law_take (hr.mono (by decide)) hgu (by rfl) (pa_cons (pv 3) (pa_cons pe_int pa_nil))) pe_int (nomark _)) (pss_one (ps_asg (zTup (pe_callTy (tupK K) (by rfl) b_tuple (by decide +kernel) (pa_cons (pe_ix (ixZK K) (pv 6) pe_int (fun _ _ => rfl)) pa_nil))) (pg_sub (pv 7) pe_int set_list))) pss_nil)
    (pss_cons (ps_setLc (i := 8) (own := [("_law_at", 11)]) (g := gName 11) rfl sc_law.nd rfl rfl (sw_true rfl rfl rfl (by decide +kernel)) (pi_range1 (by rfl) b_range (pa_cons pe_int pa_nil)) (blkOk_by (own := [("_law_at", 11)]) (N := N_law) (sc := defScope s_law) (by decide +kernel)) (fun _ _ _ _ _ => (pg_name (i := 11) sc_law.nd rfl (Or.inl rfl))) (fun _ _ _ _ _ => pts_nil) (fun _ _ _ _ _ => (pe_cal c_law_made (hr.mono (by decide)) hgu (by rfl) (pa_cons (pe_ix (ixLK K) (pv 7) (pv 11) (fun _ _ => rfl)) (pa_cons (pe_ix (ixK K) (pv 4) (pv 11) (fun _ _ => rfl)) pa_nil)))))
    (pss_cons (ps_expr (pe_bm PySem.F.plainAttrs_list PySem.F.slot_list_append PySem.F.type_list_append mt_append (pe_ix (ixLK K) (pv 7) pe_int (fun _ _ => rfl)) (pa_cons pe_int pa_nil)))
    (pss_cons (ps_set (i := 9) sc_law.nd rfl (Or.inl rfl) (pe_lstL (pa_cons pe_int (pa_cons pe_int pa_nil))))
    (pss_cons (ps_for PassesOwn.never rfl (pi_range1 (by rfl) b_range (pa_cons pe_int pa_nil)) (pg_name (i := 10) sc_law.nd rfl (Or.inl rfl)) (pss_cons (ps_set (i := 11) sc_law.nd rfl (Or.inl rfl) (pe_cal c_law_take (hr.mono (by decide)) hgu (by rfl) (pa_cons (pv 3) (pa_cons pe_int pa_nil))))
    (pss_cons (ps_if (PW.pt (pw_or (pt_not (pt_val (zIC (pe_callB call_isC (by rfl) b_isinstance (by decide +kernel) (pa_cons (pe_ix (ixZK K) (pv 8) (pv 11) (fun _ _ => rfl)) (pa_cons (pe_glob (v := .ref C_Stream) (by rfl) g_Stream rfl) pa_nil)))))) (pw_or1 (pt_cmpR (neK K hr.units) (pe_methX0 v_manner (hr.mono (by decide)) hgu takes0 (pe_ix (ixZK K) (pv 8) (pv 11) (fun _ _ => rfl))) (pe_ix (ixK K) (pv 4) (pv 11) (fun _ _ => rfl)) (nomark _))))) (pss_one (ps_ret pe_bl)) pss_nil)
    (pss_cons (ps_asg (pe_cal c_law_step (hr.mono (by decide)) hgu (by rfl) (pa_cons (pv 3) (pa_cons (pe_ix (ixZK K) (pv 8) (pv 11) (fun _ _ => rfl)) (pa_cons (pe_ix (ixZK K) (pv 6) (pv 11) (fun _ _ => rfl)) (pa_cons (pe_ix (ixLK K) (pv 9) (pv 11) (fun _ _ => rfl)) pa_nil))))) (pg_sub (pv 9) (pv 11) set_list))
    (pss_cons (ps_if (PW.pt (pw_or (pt_cmpR op_isN (pe_ix (ixLK K) (pv 9) (pv 11) (fun _ _ => rfl)) pe_non (nomark _)) (pw_or1 (pt_cmpR (neK K hr.units) (pe_methX0 v_depth (hr.mono (by decide)) hgu takes0 (pe_ix (ixZK K) (pv 8) (pv 11) (fun _ _ => rfl))) pe_int (nomark _))))) (pss_one (ps_ret pe_bl)) pss_nil)
    (pss_cons (ps_set (i := 12) sc_law.nd rfl (Or.inl rfl) (pe_methX0 v_made (hr.mono (by decide)) hgu takes0 (pe_ix (ixZK K) (pv 8) (pv 11) (fun _ _ => rfl))))
    (pss_cons (ps_if (PW.pt (pw_or (pt_cmpR op_ne (pe_callB (reprXK K hgu hr.units dg) (by rfl) b_repr (by decide +kernel) (pa_cons (pe_methX0 v_asked (hr.mono (by decide)) hgu takes0 (pe_ix (ixZK K) (pv 8) (pv 11) (fun _ _ => rfl))) pa_nil)) (pe_callB (reprXK K hgu hr.units dg) (by rfl) b_repr (by decide +kernel) (pa_cons (pe_ix (ixLK K) (pv 9) (pv 11) (fun _ _ => rfl)) pa_nil)) (nomark _)) (pw_or1 (pt_cmpR op_ne (zPX (pe_callB (reprXK K hgu hr.units dg) (by rfl) b_repr (by decide +kernel) (pa_cons (pv 12) pa_nil))) (pe_callB (reprXK K hgu hr.units dg) (by rfl) b_repr (by decide +kernel) (pa_cons (pe_slice (slRK K) (pe_ix (ixZK K) (pv 6) (pv 11) (fun _ _ => rfl)) po_none (po_some (pe_ix (ixLK K) (pv 9) (pv 11) (fun _ _ => rfl)))) pa_nil)) (nomark _))))) (pss_one (ps_ret pe_bl)) pss_nil)
    (pss_cons (ps_expr (pe_bm PySem.F.plainAttrs_list PySem.F.slot_list_append PySem.F.type_list_append mt_append (pv 12) (pa_cons pe_int pa_nil)))
    (pss_one (ps_if (pt_cmpR (neK K hr.units) (pe_methX0 v_asked (hr.mono (by decide)) hgu takes0 (pe_ix (ixZK K) (pv 8) (pe_op op_sub pe_int (pv 11)) (fun _ _ => rfl))) (pe_ix (ixLK K) (pv 9) (pe_op op_sub pe_int (pv 11)) (fun _ _ => rfl)) (nomark _)) (pss_one (ps_ret pe_bl)) pss_nil))))))))))
    (pss_one (ps_if (pt_cmpR op_ne (zPXT (pe_callB (reprXK K hgu hr.units dg) (by rfl) b_repr (by decide +kernel) (pa_cons (pe_methX v_terms (hr.mono (by decide)) hgu takes0 (pe_ix (ixZK K) (pv 8) pe_int (fun _ _ => rfl)) (pa_cons pe_int pa_nil)) pa_nil))) (zPXT (pe_callB (reprXK K hgu hr.units dg) (by rfl) b_repr (by decide +kernel) (pa_cons (pe_tupZ (pa_cons (pe_ix (ixZK K) (pv 6) pe_int (fun _ _ => rfl)) (pa_cons pe_str pa_nil))) pa_nil))) (nomark _)) (pss_one (ps_ret pe_bl)) pss_nil)))))))))))))
    (pss_one (ps_ret pe_bl)))), ?_⟩
  try dsimp only [cxOf]
  refine law_body h (fun ns hl e hz => ?_)
  show wS _ _ ⟨[some (.d (.list (ns.map PyData.int))), none, none, none, none, none, none, none, none, none, none, none, none], _⟩ _
  iterate 12 (walk_at "ux")
  refine ⟨by decide, ?_⟩
  refine law_loop1 (c := 6) (n := 10) (by decide) hz (fun k k0 k1 => ?_)
  show wS _ _ ⟨[some (.d (.list (ns.map PyData.int))), some (.d (.list [.str "floor", .str "ceil", .str "near"])), some (.d (.int k)), none, none, none, none, none, none, none, none, none, none], _⟩ _
  have hmn : ∀ g ∈ [PyData.str "floor", PyData.str "ceil", PyData.str "near"], ∃ kk : Mn, g = .str kk.word := by
    intro g hg
    simp only [List.mem_cons, List.not_mem_nil, or_false] at hg
    rcases hg with rfl | rfl | rfl
    · exact ⟨.fl, rfl⟩
    · exact ⟨.ce, rfl⟩
    · exact ⟨.ne, rfl⟩
  repeat' walk_at "ux"
  refine ⟨⟨ns, k, rfl, k0, k1⟩, ?_⟩
  rintro _ ⟨c, rfl⟩
  repeat' walk_at "ux"
  rename_i pp m0 m1 m2
  refine ixD28 m1 m2 (fun g hg => ?_)
  obtain ⟨ka, rfl⟩ := hmn g hg
  clear hg
  repeat' walk_at "ux"
  rename_i m0 m1 m2
  refine ixD28 m1 m2 (fun g hg => ?_)
  obtain ⟨kb, rfl⟩ := hmn g hg
  clear hg
  repeat' walk_at "ux"
  rename_i m0 m1 m2
  refine ixD28 m1 m2 (fun g hg => ?_)
  obtain ⟨mx, rfl, mx0, mx1⟩ : ∃ n : Int, g = .int n ∧ 1 ≤ n ∧ n ≤ 100 := by
    simp only [List.mem_cons, List.not_mem_nil, or_false] at hg
    rcases hg with rfl | rfl | rfl
    · exact ⟨3, rfl, by decide, by decide⟩
    · exact ⟨12, rfl, by decide, by decide⟩
    · exact ⟨100, rfl, by decide, by decide⟩
  clear hg
  repeat' walk_at "ux"
  rename_i ra ra0 ra1 rb rb0 rb1
  obtain ⟨na, hna⟩ : ∃ n : Nat, 1 + ra = n := ⟨(1 + ra).toNat, by omega⟩
  obtain ⟨nb, hnb⟩ : ∃ n : Nat, 1 + rb = n := ⟨(1 + rb).toNat, by omega⟩
  have na1 : 1 ≤ na ∧ na ≤ 100 := by omega
  have nb1 : 1 ≤ nb ∧ nb ≤ 100 := by omega
  rw [hna, hnb]
  clear hna hnb ra0 ra1 rb0 rb1 mx0 mx1 hmn
  refine wE_lc2 ?_
  repeat' walk_at "ux"
  refine ⟨⟨ka, pp, _, na⟩, [], [(pp, .pu _)], [], true, rfl, by simp [Cell.isRo], rfl, ⟨rfl, rfl, na1.1, na1.2, by dsimp only; omega⟩, ?_, fun _ _ _ z => z.elim⟩
  rintro _ _ _ ⟨ta, n1, qa, rfl, rfl, hn1, rfl, ha⟩ _ _
  refine ⟨⟨[⟨qa, true, .lst (intsZ ta)⟩], rfl, by simp [Cell.isRo]⟩, ?_⟩
  dsimp only [toCl, List.map, List.nil_append, List.append_nil, List.cons_append] at hn1 ⊢
  repeat' walk_at "ux"
  refine ⟨⟨kb, pp, n1, nb⟩, [], [(pp, .pu n1)], [⟨qa, true, .lst (intsZ ta)⟩], true, rfl, by simp [Cell.isRo], rfl, ⟨rfl, rfl, nb1.1, nb1.2, by dsimp only; omega⟩, ?_, fun _ _ _ z => z.elim⟩
  rintro _ _ _ ⟨tb, n2, qb, rfl, rfl, hn2, rfl, hb⟩ _ _
  refine ⟨⟨[⟨qa, true, .lst (intsZ ta)⟩, ⟨qb, true, .lst (intsZ tb)⟩], rfl, by simp [Cell.isRo]⟩, ?_⟩
  dsimp only [toCl, List.map, List.nil_append, List.append_nil, List.cons_append] at hn2 ⊢
  have hn : 7999000 ≤ n2 := by omega
  clear hn1 hn2
  repeat' walk_at "ux"
  refine ⟨_, _, resI (ts := ta) (List.mem_cons_of_mem _ (.head _)), rfl, fun ha1 => ?_⟩
  repeat' walk_at "ux"
  refine ⟨_, _, resI (b := true) (ts := tb) (by simp), rfl, fun hb1 => ?_⟩
  refine wZ_nil ⟨(show 2 ≤ sizeLine by decide), fun hl1 => ?_⟩
  show wS _ (tSeq (tIfS _ _ _) _) _ _
  refine seq_join (fun y => ∃ n z d, 7998000 ≤ n ∧ Res [⟨hb1, true, .lst (intsZ tb)⟩] z d ∧ intsD d = some tb ∧ y = ⟨[some (.d (.list (ns.map PyData.int))), some (.d (.list [.str "floor", .str "ceil", .str "near"])), some (.d (.int k)), some (.lab pp), some (.d (.list [.str ka.word, .str kb.word])), some (.d (.list [.int na, .int nb])), some (.lst [.lab qa, .lab qb]), some (.lab hl1), none, none, none, none, none],
    [⟨pp, true, .pu n⟩, ⟨qa, true, .lst (intsZ ta)⟩, ⟨qb, true, .lst (intsZ tb)⟩, ⟨ha1, true, .lst (intsZ ta)⟩, ⟨hb1, true, .lst (intsZ tb)⟩, ⟨hl1, true, .lst [.lab ha1, z]⟩]⟩) ?_ ?_
  · repeat' walk_at "ux"
    refine ite2 (fun c => ?_) (fun c => ?_)
    · refine wS_setL (j := 5) (b := true) rfl ?_
      repeat' walk_at "ux"
      refine ⟨qb, true, 2, tb.map PyData.int, rfl, rfl, rfl, ?_⟩
      repeat' walk_at "ux"
      exact ⟨n2 - 1, _, _, by omega, .d _, intsD_map_t, rfl⟩
    · exact ⟨n2 - 1, _, _, by omega, resI (b := true) (.head _), intsD_map_l, rfl⟩
  · rintro y ⟨n3, zb, db, hn3, hrb, hib, rfl⟩
    repeat' walk_at "ux"
    refine wE_lc2 ?_
    repeat' walk_at "ux"
    refine ⟨hl1, true, 5, _, 0, _, rfl, rfl, rfl, rfl, ?_⟩
    repeat' walk_at "ux"
    refine ⟨⟨ka, .lab ha1, .list (ta.map PyData.int), ta⟩, _, [], [], true, (List.append_nil _).symm.trans (List.append_nil _).symm, by simp, rfl, ⟨rfl, rfl, resI (b := true) (by simp), intsD_map_l, ha.rw intsD_map_l, by rw [ha.len]; exact na1.2⟩, ?_, fun _ _ _ z => z.elim⟩
    rintro _ _ _ ⟨rfl, a1, k1, w1, rfl, rfl⟩ _ _
    dsimp only [toCl, List.map, List.nil_append, List.append_nil, List.cons_append, RS.m]
    refine ⟨⟨_ :: _ :: _ :: [], rfl, by simp [Cell.isRo]⟩, ?_⟩
    repeat' walk_at "ux"
    refine ⟨hl1, true, 5, _, 1, _, rfl, rfl, rfl, rfl, ?_⟩
    repeat' walk_at "ux"
    refine ⟨⟨kb, zb, db, tb⟩, _, [], [], true, (List.append_nil _).symm.trans (List.append_nil _).symm, by simp, rfl, ⟨rfl, rfl, hrb.sub (by simp), hib, hb.rw hib, by rw [hb.len]; exact nb1.2⟩, ?_, fun _ _ _ z => z.elim⟩
    rintro _ _ _ ⟨rfl, a2, k2, w2, rfl, rfl⟩ _ _
    dsimp only [toCl, List.map, List.nil_append, List.append_nil, List.cons_append, RS.m]
    refine ⟨⟨_ :: _ :: _ :: _ :: _ :: _ :: [], rfl, by simp [Cell.isRo]⟩, ?_⟩
    refine wS_seq (wS_appX (j := 3) (a := ha1) (b := true) (zs0 := intsZ ta) ?_)
    repeat' walk_at "ux"
    refine ⟨hl1, true, 5, _, 0, _, rfl, rfl, rfl, rfl, rfl, rfl, ?_⟩
    repeat' walk_at "ux"
    refine ⟨sz_lt1 (by rw [len_intsZ, show ta.length = na from ha.len]; omega), ?_⟩
    repeat' walk_at "ux"
    rename_i rd
    refine wS_for ?_
    repeat' walk_at "ux"
    refine forJ (fun i y => ∃ (n xa xb : Nat) (ca cb : Bool), 7998000 ≤ n + 6 * i ∧ (RS.mk a1 k1 w1 ka.word ta xa ca).Ok ∧ (RS.mk a2 k2 w2 kb.word tb xb cb).Ok ∧ y = ⟨[some (.d (.list (ns.map PyData.int))), some (.d (.list [.str "floor", .str "ceil", .str "near"])), some (.d (.int k)), some (.lab pp), some (.d (.list [.str ka.word, .str kb.word])), none, some (.lst [.lab qa, .lab qb]), none, some (.lst [.lab a1, .lab a2]), some (.lab rd), none, none, none],
      ⟨pp, true, .pu n⟩ :: ([⟨qa, true, .lst (intsZ ta)⟩, ⟨qb, true, .lst (intsZ tb)⟩] ++ (toCl true ((RS.mk a1 k1 w1 ka.word ta xa ca).m C_Row) ++ (toCl true ((RS.mk a2 k2 w2 kb.word tb xb cb).m C_Row) ++ [⟨rd, true, .lst [.d (.int xa), .d (.int xb)]⟩])))⟩) ⟨_, ⟨n3, 0, 0, false, false, (by show 7998000 ≤ n3 + 6 * 0; omega), ⟨Nat.zero_le _, by dsimp only; rw [ha.len]; exact na1.2, fun z => nomatch z⟩, ⟨Nat.zero_le _, by dsimp only; rw [hb.len]; exact nb1.2, fun z => nomatch z⟩, rfl⟩, ?_⟩ (fun i x y' hx hJ => ?_) (fun y2 y' hJ hl => ?_)
    · refine less_mk' ?_ ?_
      · repeat' (first | exact less_nil | refine less_none ?_ | refine less_some ?_)
      · exact .cons₂ _ (.cons₂ _ (.cons₂ _ (.cons _ (.cons _ (.cons _ (List.Sublist.refl _))))))
    · obtain ⟨n, xa, xb, ca, cb, hn, oka, okb, rfl⟩ := hJ
      have ta_ne : ta ≠ [] := fun z => by have h1 := ha.len; rw [z] at h1; have h2 : 0 = na := h1; omega
      have tb_ne : tb ≠ [] := fun z => by have h1 := hb.len; rw [z] at h1; have h2 : 0 = nb := h1; omega
      obtain ⟨hi2, rfl⟩ := rangeD_get hx
      show wS _ (tSeq (tAsg _ _) _) _ _
      refine seq_join (fun y => ∃ r : Int, (r = 0 ∨ r = 1) ∧ y = ⟨[some (.d (.list (ns.map PyData.int))), some (.d (.list [.str "floor", .str "ceil", .str "near"])), some (.d (.int k)), some (.lab pp), some (.d (.list [.str ka.word, .str kb.word])), none, some (.lst [.lab qa, .lab qb]), none, some (.lst [.lab a1, .lab a2]), some (.lab rd), some (.d (.int (0 + (i : Int)))), some (.d (.int r)), none],
        ⟨pp, true, .pu (n - 1)⟩ :: ([⟨qa, true, .lst (intsZ ta)⟩, ⟨qb, true, .lst (intsZ tb)⟩] ++ (toCl true ((RS.mk a1 k1 w1 ka.word ta xa ca).m C_Row) ++ (toCl true ((RS.mk a2 k2 w2 kb.word tb xb cb).m C_Row) ++ [⟨rd, true, .lst [.d (.int xa), .d (.int xb)]⟩])))⟩) ?_ ?_
      · repeat' walk_at "ux"
        rename_i r r0 r1
        exact ⟨r, by omega, rfl⟩
      rintro y ⟨r, rfl | rfl, rfl⟩
      · refine wS_perm (m' := ⟨pp, true, .pu (n - 1)⟩ :: (toCl true ((RS.mk a1 k1 w1 ka.word ta xa ca).m C_Row) ++ ([⟨qa, true, .lst (intsZ ta)⟩, ⟨qb, true, .lst (intsZ tb)⟩] ++ (toCl true ((RS.mk a2 k2 w2 kb.word tb xb cb).m C_Row) ++ [⟨rd, true, .lst [.d (.int xa), .d (.int xb)]⟩])))) ((List.perm_append_comm_assoc [⟨qa, true, .lst (intsZ ta)⟩, ⟨qb, true, .lst (intsZ tb)⟩] (toCl true ((RS.mk a1 k1 w1 ka.word ta xa ca).m C_Row)) (toCl true ((RS.mk a2 k2 w2 kb.word tb xb cb).m C_Row) ++ [⟨rd, true, .lst [.d (.int xa), .d (.int xb)]⟩])).cons _) ?_
        repeat' walk_at "ux"
        refine ⟨a1, 1, true, _, C_Row, _, _, true, rfl, rfl, rfl, ic_Row, kc_Row_Stream, _, rfl, ?_⟩
        refine itb_f rfl ?_
        repeat' walk_at "ux"
        refine ⟨(RS.mk a1 k1 w1 ka.word ta xa ca), [_], RS.m C_Row _, _, true, rfl, RS.ro, rfl, ⟨rfl, rfl⟩, ?_, fun _ _ _ z => z.elim⟩
        rintro _ _ _ ⟨rfl, rfl, rfl⟩ _ _
        rw [g_nil3]
        repeat' walk_at "ux"
        refine ⟨shaped_word ka, shaped_word ka, _, rfl, itb_f (by rw [eqv_str]; simp) ?_⟩
        refine wS_seq (wS_setL (j := 9) (b := true) (a := rd) rfl ?_)
        repeat' walk_at "ux"
        refine ⟨rd, true, 9, _, 0, _, rfl, rfl, rfl, rfl, ?_⟩
        repeat' walk_at "ux"
        refine ⟨⟨(RS.mk a1 k1 w1 ka.word ta xa ca), pp, n - 1, qa⟩, [], (pp, .pu (n - 1)) :: RS.m C_Row _, _, true, rfl, ?_, rfl, ⟨rfl, rfl, by dsimp only; omega, oka, resI (b := true) (.head _), ha.bd, ta_ne⟩, ?_, fun _ _ _ z => z.elim⟩
        · intro e he
          rcases List.mem_cons.mp he with rfl | he
          · rfl
          · exact RS.ro e he
        rintro _ _ _ ⟨rfl, xa', ca', n', rfl, rfl, hn', oka'⟩ _ _
        dsimp only at hn' oka'
        rw [g_nil4]
        refine ⟨rfl, wE_var rfl ⟨_, 0, 0, rfl, rfl, rfl, ?_⟩⟩
        show wS _ _ ⟨[some (.d (.list (ns.map PyData.int))), some (.d (.list [.str "floor", .str "ceil", .str "near"])), some (.d (.int k)), some (.lab pp), some (.d (.list [.str ka.word, .str kb.word])), none, some (.lst [.lab qa, .lab qb]), none, some (.lst [.lab a1, .lab a2]), some (.lab rd), some (.d (.int (0 + (i : Int)))), some (.d (.int 0)), none], ⟨pp, true, .pu n'⟩ :: (toCl true ((RS.mk a1 k1 w1 ka.word ta xa' ca').m C_Row) ++ ([⟨qa, true, .lst (intsZ ta)⟩, ⟨qb, true, .lst (intsZ tb)⟩] ++ (toCl true ((RS.mk a2 k2 w2 kb.word tb xb cb).m C_Row) ++ [⟨rd, true, .lst [.d (.int xa'), .d (.int xb)]⟩])))⟩ _
        repeat' walk_at "ux"
        refine ⟨rd, true, 9, _, 0, _, rfl, rfl, rfl, rfl, ?_⟩
        repeat' walk_at "ux"
        refine ⟨(RS.mk a1 k1 w1 ka.word ta xa' ca'), [_], RS.m C_Row _, _, true, rfl, RS.ro, rfl, ⟨rfl, rfl⟩, ?_, fun _ _ _ z => z.elim⟩
        rintro _ _ _ ⟨rfl, rfl, rfl⟩ _ _
        rw [g_nil3]
        repeat' walk_at "ux"
        refine ⟨(RS.mk a1 k1 w1 ka.word ta xa' ca'), [_], RS.m C_Row _, _, true, rfl, RS.ro, rfl, ⟨rfl, rfl⟩, ?_, fun _ _ _ z => z.elim⟩
        rintro _ _ _ ⟨rfl, kp, rfl, rfl⟩ _ _
        show wS _ _ ⟨[some (.d (.list (ns.map PyData.int))), some (.d (.list [.str "floor", .str "ceil", .str "near"])), some (.d (.int k)), some (.lab pp), some (.d (.list [.str ka.word, .str kb.word])), none, some (.lst [.lab qa, .lab qb]), none, some (.lst [.lab a1, .lab a2]), some (.lab rd), some (.d (.int (0 + (i : Int)))), some (.d (.int 0)), some (.lab kp)], ⟨pp, true, .pu n'⟩ :: (toCl true ((RS.mk a1 k1 w1 ka.word ta xa' ca').m C_Row) ++ ([⟨qa, true, .lst (intsZ ta)⟩, ⟨qb, true, .lst (intsZ tb)⟩] ++ (toCl true ((RS.mk a2 k2 w2 kb.word tb xb cb).m C_Row) ++ [⟨rd, true, .lst [.d (.int xa'), .d (.int xb)]⟩, ⟨kp, true, .lst (intsZ (ta.take xa'))⟩])))⟩ _
        have hle : xa' ≤ 100 := Nat.le_trans oka'.n1 oka'.l1
        have sI : ShX (.int xa') := (rx_int (k := 4) (by omega)).ok
        have sL : ShX (.list ((ta.take xa').map PyData.int)) := (shx_list ha.bd (by rw [show ta.length = _ from ha.len]; exact na1.2) xa').ok
        obtain ⟨X, hX⟩ : ∃ X, (PyData.int xa').shown = X := ⟨_, rfl⟩
        obtain ⟨Y, hY⟩ : ∃ Y, (PyData.list ((ta.take xa').map PyData.int)).shown = Y := ⟨_, rfl⟩
        repeat' walk_at "ux"
        refine ⟨(RS.mk a1 k1 w1 ka.word ta xa' ca'), [_], RS.m C_Row _, _, true, rfl, RS.ro, rfl, ⟨rfl, rfl, oka'⟩, ?_, fun _ _ _ z => z.elim⟩
        rintro _ _ _ ⟨rfl, rfl, rfl⟩ _ _
        rw [g_nil3]
        refine ⟨_, rfl, sI, ?_⟩
        rw [hX]
        repeat' walk_at "ux"
        refine ⟨rd, true, 9, _, 0, _, rfl, rfl, rfl, rfl, ?_⟩
        repeat' walk_at "ux"
        rw [show (PyData.int xa').shown = X from hX]
        refine itb_f (congrArg Bool.not (eqS_self X)) ?_
        repeat' walk_at "ux"
        refine ⟨_, resI (b := true) (ts := ta.take xa') (List.mem_of_getElem? (i := 10) rfl), sL, ?_⟩
        rw [hY]
        repeat' walk_at "ux"
        refine ⟨rd, true, 9, _, 0, _, rfl, rfl, rfl, rfl, ?_⟩
        repeat' walk_at "ux"
        refine ⟨ta.map PyData.int, resI (b := true) (List.mem_of_getElem? (i := 4) rfl), ?_⟩
        rw [cutD_takeN, ← List.map_take]
        repeat' walk_at "ux"
        rw [show (PyData.list ((ta.take xa').map PyData.int)).shown = Y from hY]
        refine itb_f (congrArg Bool.not (eqS_self Y)) ?_
        refine wS_seq (wS_app (i := 12) (j := 10) (a := kp) (b := true) (zs0 := intsZ (ta.take xa')) rfl rfl ?_)
        repeat' walk_at "ux"
        refine ⟨sz_lt1 (by have h1 : (intsZ (ta.take xa')).length = xa' := len_take oka'.n1; omega), ?_⟩
        refine wS_perm (m := ⟨pp, true, .pu n'⟩ :: (toCl true ((RS.mk a1 k1 w1 ka.word ta xa' ca').m C_Row) ++ ([⟨qa, true, .lst (intsZ ta)⟩, ⟨qb, true, .lst (intsZ tb)⟩] ++ (toCl true ((RS.mk a2 k2 w2 kb.word tb xb cb).m C_Row) ++ [⟨rd, true, .lst [.d (.int xa'), .d (.int xb)]⟩, ⟨kp, true, .lst (intsZ (ta.take xa') ++ [.d (.int 3)])⟩])))) (m' := ⟨pp, true, .pu n'⟩ :: ([⟨qa, true, .lst (intsZ ta)⟩, ⟨qb, true, .lst (intsZ tb)⟩] ++ (toCl true ((RS.mk a1 k1 w1 ka.word ta xa' ca').m C_Row) ++ (toCl true ((RS.mk a2 k2 w2 kb.word tb xb cb).m C_Row) ++ [⟨rd, true, .lst [.d (.int xa'), .d (.int xb)]⟩, ⟨kp, true, .lst (intsZ (ta.take xa') ++ [.d (.int 3)])⟩])))) ((List.perm_append_comm_assoc (toCl true ((RS.mk a1 k1 w1 ka.word ta xa' ca').m C_Row)) [⟨qa, true, .lst (intsZ ta)⟩, ⟨qb, true, .lst (intsZ tb)⟩] (toCl true ((RS.mk a2 k2 w2 kb.word tb xb cb).m C_Row) ++ [⟨rd, true, .lst [.d (.int xa'), .d (.int xb)]⟩, ⟨kp, true, .lst (intsZ (ta.take xa') ++ [.d (.int 3)])⟩])).cons _) ?_
        repeat' walk_at "ux"
        refine ⟨(RS.mk a2 k2 w2 kb.word tb xb cb), ⟨pp, true, .pu n'⟩ :: ([⟨qa, true, .lst (intsZ ta)⟩, ⟨qb, true, .lst (intsZ tb)⟩] ++ toCl true ((RS.mk a1 k1 w1 ka.word ta xa' ca').m C_Row)), RS.m C_Row _, [⟨rd, true, .lst [.d (.int xa'), .d (.int xb)]⟩, ⟨kp, true, .lst (intsZ (ta.take xa') ++ [.d (.int 3)])⟩], true, rfl, RS.ro, rfl, ⟨rfl, rfl, okb⟩, ?_, fun _ _ _ z => z.elim⟩
        rintro _ _ _ ⟨rfl, rfl, rfl⟩ _ _
        rw [show toCl true ([] : AC) = [] from rfl, List.append_nil]
        repeat' walk_at "ux"
        refine ⟨rd, true, 9, _, 1, _, rfl, rfl, rfl, rfl, ?_⟩
        repeat' walk_at "ux"
        refine itb_f (by rw [eqv_int]; simp) ?_
        refine ⟨_, ⟨n', xa', xb, ca', cb, by omega, oka', okb, rfl⟩, less_mk' ?_ ?_⟩
        · repeat' (first | exact less_nil | refine less_none ?_ | refine less_some ?_)
        · exact .cons₂ _ (.cons₂ _ (.cons₂ _ (.cons₂ _ (.cons₂ _ (.cons₂ _ (.cons₂ _ (.cons₂ _ (.cons₂ _ (.cons₂ _ (.cons _ .slnil))))))))))
      · refine wS_perm (m' := ⟨pp, true, .pu (n - 1)⟩ :: (toCl true ((RS.mk a2 k2 w2 kb.word tb xb cb).m C_Row) ++ ([⟨qa, true, .lst (intsZ ta)⟩, ⟨qb, true, .lst (intsZ tb)⟩] ++ (toCl true ((RS.mk a1 k1 w1 ka.word ta xa ca).m C_Row) ++ [⟨rd, true, .lst [.d (.int xa), .d (.int xb)]⟩])))) ((List.perm_append_comm_assoc ([⟨qa, true, .lst (intsZ ta)⟩, ⟨qb, true, .lst (intsZ tb)⟩] ++ toCl true ((RS.mk a1 k1 w1 ka.word ta xa ca).m C_Row)) (toCl true ((RS.mk a2 k2 w2 kb.word tb xb cb).m C_Row)) [⟨rd, true, .lst [.d (.int xa), .d (.int xb)]⟩]).cons _) ?_
        repeat' walk_at "ux"
        refine ⟨a2, 1, true, _, C_Row, _, _, true, rfl, rfl, rfl, ic_Row, kc_Row_Stream, _, rfl, ?_⟩
        refine itb_f rfl ?_
        repeat' walk_at "ux"
        refine ⟨(RS.mk a2 k2 w2 kb.word tb xb cb), [_], RS.m C_Row _, _, true, rfl, RS.ro, rfl, ⟨rfl, rfl⟩, ?_, fun _ _ _ z => z.elim⟩
        rintro _ _ _ ⟨rfl, rfl, rfl⟩ _ _
        rw [g_nil3]
        repeat' walk_at "ux"
        refine ⟨shaped_word kb, shaped_word kb, _, rfl, itb_f (by rw [eqv_str]; simp) ?_⟩
        refine wS_seq (wS_setL (j := 9) (b := true) (a := rd) rfl ?_)
        repeat' walk_at "ux"
        refine ⟨rd, true, 9, _, 1, _, rfl, rfl, rfl, rfl, ?_⟩
        repeat' walk_at "ux"
        refine ⟨⟨(RS.mk a2 k2 w2 kb.word tb xb cb), pp, n - 1, qb⟩, [], (pp, .pu (n - 1)) :: RS.m C_Row _, _, true, rfl, ?_, rfl, ⟨rfl, rfl, by dsimp only; omega, okb, resI (b := true) (.tail _ (.head _)), hb.bd, tb_ne⟩, ?_, fun _ _ _ z => z.elim⟩
        · intro e he
          rcases List.mem_cons.mp he with rfl | he
          · rfl
          · exact RS.ro e he
        rintro _ _ _ ⟨rfl, xb', cb', n', rfl, rfl, hn', okb'⟩ _ _
        dsimp only at hn' okb'
        rw [g_nil4]
        refine ⟨rfl, wE_var rfl ⟨_, 1, 1, rfl, rfl, rfl, ?_⟩⟩
        show wS _ _ ⟨[some (.d (.list (ns.map PyData.int))), some (.d (.list [.str "floor", .str "ceil", .str "near"])), some (.d (.int k)), some (.lab pp), some (.d (.list [.str ka.word, .str kb.word])), none, some (.lst [.lab qa, .lab qb]), none, some (.lst [.lab a1, .lab a2]), some (.lab rd), some (.d (.int (0 + (i : Int)))), some (.d (.int 1)), none], ⟨pp, true, .pu n'⟩ :: (toCl true ((RS.mk a2 k2 w2 kb.word tb xb' cb').m C_Row) ++ ([⟨qa, true, .lst (intsZ ta)⟩, ⟨qb, true, .lst (intsZ tb)⟩] ++ (toCl true ((RS.mk a1 k1 w1 ka.word ta xa ca).m C_Row) ++ [⟨rd, true, .lst [.d (.int xa), .d (.int xb')]⟩])))⟩ _
        repeat' walk_at "ux"
        refine ⟨rd, true, 9, _, 1, _, rfl, rfl, rfl, rfl, ?_⟩
        repeat' walk_at "ux"
        refine ⟨(RS.mk a2 k2 w2 kb.word tb xb' cb'), [_], RS.m C_Row _, _, true, rfl, RS.ro, rfl, ⟨rfl, rfl⟩, ?_, fun _ _ _ z => z.elim⟩
        rintro _ _ _ ⟨rfl, rfl, rfl⟩ _ _
        rw [g_nil3]
        repeat' walk_at "ux"
        refine ⟨(RS.mk a2 k2 w2 kb.word tb xb' cb'), [_], RS.m C_Row _, _, true, rfl, RS.ro, rfl, ⟨rfl, rfl⟩, ?_, fun _ _ _ z => z.elim⟩
        rintro _ _ _ ⟨rfl, kp, rfl, rfl⟩ _ _
        show wS _ _ ⟨[some (.d (.list (ns.map PyData.int))), some (.d (.list [.str "floor", .str "ceil", .str "near"])), some (.d (.int k)), some (.lab pp), some (.d (.list [.str ka.word, .str kb.word])), none, some (.lst [.lab qa, .lab qb]), none, some (.lst [.lab a1, .lab a2]), some (.lab rd), some (.d (.int (0 + (i : Int)))), some (.d (.int 1)), some (.lab kp)], ⟨pp, true, .pu n'⟩ :: (toCl true ((RS.mk a2 k2 w2 kb.word tb xb' cb').m C_Row) ++ ([⟨qa, true, .lst (intsZ ta)⟩, ⟨qb, true, .lst (intsZ tb)⟩] ++ (toCl true ((RS.mk a1 k1 w1 ka.word ta xa ca).m C_Row) ++ [⟨rd, true, .lst [.d (.int xa), .d (.int xb')]⟩, ⟨kp, true, .lst (intsZ (tb.take xb'))⟩])))⟩ _
        have hle : xb' ≤ 100 := Nat.le_trans okb'.n1 okb'.l1
        have sI : ShX (.int xb') := (rx_int (k := 4) (by omega)).ok
        have sL : ShX (.list ((tb.take xb').map PyData.int)) := (shx_list hb.bd (by rw [show tb.length = _ from hb.len]; exact nb1.2) xb').ok
        obtain ⟨X, hX⟩ : ∃ X, (PyData.int xb').shown = X := ⟨_, rfl⟩
        obtain ⟨Y, hY⟩ : ∃ Y, (PyData.list ((tb.take xb').map PyData.int)).shown = Y := ⟨_, rfl⟩
        repeat' walk_at "ux"
        refine ⟨(RS.mk a2 k2 w2 kb.word tb xb' cb'), [_], RS.m C_Row _, _, true, rfl, RS.ro, rfl, ⟨rfl, rfl, okb'⟩, ?_, fun _ _ _ z => z.elim⟩
        rintro _ _ _ ⟨rfl, rfl, rfl⟩ _ _
        rw [g_nil3]
        refine ⟨_, rfl, sI, ?_⟩
        rw [hX]
        repeat' walk_at "ux"
        refine ⟨rd, true, 9, _, 1, _, rfl, rfl, rfl, rfl, ?_⟩
        repeat' walk_at "ux"
        rw [show (PyData.int xb').shown = X from hX]
        refine itb_f (congrArg Bool.not (eqS_self X)) ?_
        repeat' walk_at "ux"
        refine ⟨_, resI (b := true) (ts := tb.take xb') (List.mem_of_getElem? (i := 10) rfl), sL, ?_⟩
        rw [hY]
        repeat' walk_at "ux"
        refine ⟨rd, true, 9, _, 1, _, rfl, rfl, rfl, rfl, ?_⟩
        repeat' walk_at "ux"
        refine ⟨tb.map PyData.int, resI (b := true) (List.mem_of_getElem? (i := 5) rfl), ?_⟩
        rw [cutD_takeN, ← List.map_take]
        repeat' walk_at "ux"
        rw [show (PyData.list ((tb.take xb').map PyData.int)).shown = Y from hY]
        refine itb_f (congrArg Bool.not (eqS_self Y)) ?_
        refine wS_seq (wS_app (i := 12) (j := 10) (a := kp) (b := true) (zs0 := intsZ (tb.take xb')) rfl rfl ?_)
        repeat' walk_at "ux"
        refine ⟨sz_lt1 (by have h1 : (intsZ (tb.take xb')).length = xb' := len_take okb'.n1; omega), ?_⟩
        refine wS_perm (m := ⟨pp, true, .pu n'⟩ :: (toCl true ((RS.mk a2 k2 w2 kb.word tb xb' cb').m C_Row) ++ ([⟨qa, true, .lst (intsZ ta)⟩, ⟨qb, true, .lst (intsZ tb)⟩] ++ (toCl true ((RS.mk a1 k1 w1 ka.word ta xa ca).m C_Row) ++ [⟨rd, true, .lst [.d (.int xa), .d (.int xb')]⟩, ⟨kp, true, .lst (intsZ (tb.take xb') ++ [.d (.int 3)])⟩])))) (m' := ⟨pp, true, .pu n'⟩ :: ([⟨qa, true, .lst (intsZ ta)⟩, ⟨qb, true, .lst (intsZ tb)⟩] ++ (toCl true ((RS.mk a1 k1 w1 ka.word ta xa ca).m C_Row) ++ (toCl true ((RS.mk a2 k2 w2 kb.word tb xb' cb').m C_Row) ++ [⟨rd, true, .lst [.d (.int xa), .d (.int xb')]⟩, ⟨kp, true, .lst (intsZ (tb.take xb') ++ [.d (.int 3)])⟩])))) ((List.perm_append_comm_assoc (toCl true ((RS.mk a2 k2 w2 kb.word tb xb' cb').m C_Row)) ([⟨qa, true, .lst (intsZ ta)⟩, ⟨qb, true, .lst (intsZ tb)⟩] ++ toCl true ((RS.mk a1 k1 w1 ka.word ta xa ca).m C_Row)) [⟨rd, true, .lst [.d (.int xa), .d (.int xb')]⟩, ⟨kp, true, .lst (intsZ (tb.take xb') ++ [.d (.int 3)])⟩]).cons _) ?_
        repeat' walk_at "ux"
        refine ⟨(RS.mk a1 k1 w1 ka.word ta xa ca), ⟨pp, true, .pu n'⟩ :: [⟨qa, true, .lst (intsZ ta)⟩, ⟨qb, true, .lst (intsZ tb)⟩], RS.m C_Row _, (toCl true ((RS.mk a2 k2 w2 kb.word tb xb' cb').m C_Row) ++ [⟨rd, true, .lst [.d (.int xa), .d (.int xb')]⟩, ⟨kp, true, .lst (intsZ (tb.take xb') ++ [.d (.int 3)])⟩]), true, rfl, RS.ro, rfl, ⟨rfl, rfl, oka⟩, ?_, fun _ _ _ z => z.elim⟩
        rintro _ _ _ ⟨rfl, rfl, rfl⟩ _ _
        rw [show toCl true ([] : AC) = [] from rfl, List.append_nil]
        repeat' walk_at "ux"
        refine ⟨rd, true, 9, _, 0, _, rfl, rfl, rfl, rfl, ?_⟩
        repeat' walk_at "ux"
        refine itb_f (by rw [eqv_int]; simp) ?_
        refine ⟨_, ⟨n', xa, xb', ca, cb', by omega, oka, okb', rfl⟩, less_mk' ?_ ?_⟩
        · repeat' (first | exact less_nil | refine less_none ?_ | refine less_some ?_)
        · exact .cons₂ _ (.cons₂ _ (.cons₂ _ (.cons₂ _ (.cons₂ _ (.cons₂ _ (.cons₂ _ (.cons₂ _ (.cons₂ _ (.cons₂ _ (.cons _ .slnil))))))))))
    · obtain ⟨n, xa, xb, ca, cb, hn, oka, okb, rfl⟩ := hJ
      refine wS_weak ?_ hl
      clear hl
      have hla : ta.length ≤ 100 := oka.l1
      have sT : ShX (.tuple [.list ((ta.take 101).map PyData.int), .str "end"]) := shx_row ha.bd hla 101 (by exact ⟨by decide +kernel, by decide +kernel, by decide +kernel⟩)
      have ht : ta.take 101 = ta := List.take_of_length_le (by omega)
      rw [ht] at sT
      obtain ⟨X, hX⟩ : ∃ X, (PyData.tuple [.list (ta.map PyData.int), .str "end"]).shown = X := ⟨_, rfl⟩
      repeat' walk_at "ux"
      refine xE_reprRXT ?_
      repeat' walk_at "ux"
      refine ⟨(RS.mk a1 k1 w1 ka.word ta xa ca, .int 101), ⟨pp, true, .pu n⟩ :: [⟨qa, true, .lst (intsZ ta)⟩, ⟨qb, true, .lst (intsZ tb)⟩], RS.m C_Row _, _, true, rfl, RS.ro, rfl, ⟨rfl, ⟨_, rfl, .d _⟩, oka⟩, ?_, fun _ _ _ h _ _ => absurd (show mnB (.int 101) = false from h.1) (by decide +kernel)⟩
      rintro _ _ _ ⟨q, tp, hq, _, rfl, rfl, rfl⟩ _ _
      obtain rfl : q = 101 := by have := PyData.int.inj hq; omega
      dsimp only
      rw [if_neg (by omega), ht]
      refine ⟨.tuple [.list (ta.map PyData.int), .str "end"], .tup (.cons (resI (b := true) (by simp [toCl])) (.cons (.d _) .nil)), sT, ?_⟩
      rw [hX]
      repeat' walk_at "ux"
      refine xE_reprRXT ?_
      repeat' walk_at "ux"
      refine ⟨.tuple [.list (ta.map PyData.int), .str "end"], .tup (.cons (resI (b := true) (by simp [toCl])) (.cons (.d _) .nil)), sT, ?_⟩
      rw [hX]
      repeat' walk_at "ux"
      refine itb_f (congrArg Bool.not (eqS_self X)) ?_
      exact ⟨rfl, rfl, rfl⟩
theorem row_ok {C_NoNumber C_NoManner C_NoPlace C_Ceils C_Manner C_Nears C_Row C_Stream : Addr}
    {f_Stream_manner f_Stream_depth f_Stream_made f_Stream_asked f_Row_more f_Stream_answer f_Stream_terms f_Manner_fits f_Ceils_fits f_Nears_fits f_Manner_ends f_Ceils_ends f_Nears_ends f_Stream___init__ f_Row___init__ f_Stream_ask : Addr}
    (tx : TxC K mg "TermError")
    (txUnknown : TxB beK K mg "Unknown")
    (y_NoNumber : XcT K mg "NoNumber" "NoNumber.__init__" s_i_NoNumber C_NoNumber)
    (y_NoManner : XcT K mg "NoManner" "NoManner.__init__" s_i_NoManner C_NoManner)
    (y_NoPlace : XcTB beK K mg "NoPlace" "NoPlace.__init__" s_i_NoPlace C_NoPlace)
    (t_NoPlace_NoPlace : PySem.W.exmOne K (.ref C_NoPlace) (.ref C_NoPlace) = some true)
    (t_NoNumber_NoPlace : PySem.W.exmOne K (.ref C_NoNumber) (.ref C_NoPlace) = some false)
    (t_NoNumber_NoNumber : PySem.W.exmOne K (.ref C_NoNumber) (.ref C_NoNumber) = some true)
    (g_Ceils : mg "Ceils" = some (.ref C_Ceils))
    (g_Manner : mg "Manner" = some (.ref C_Manner))
    (g_Nears : mg "Nears" = some (.ref C_Nears))
    (g_Row : mg "Row" = some (.ref C_Row))
    (g_Stream : mg "Stream" = some (.ref C_Stream))
    (n_Ceils : Mk0 K C_Ceils)
    (n_Manner : Mk0 K C_Manner)
    (n_Nears : Mk0 K C_Nears)
    (cl_Ceils : Cls K C_Ceils)
    (cl_Manner : Cls K C_Manner)
    (cl_Nears : Cls K C_Nears)
    (cl_Row : Cls K C_Row)
    (me_Row_answer : Meth K C_Row "answer" f_Stream_answer)
    (me_Row_ask : Meth K C_Row "ask" f_Stream_ask)
    (me_Row_asked : Meth K C_Row "asked" f_Stream_asked)
    (me_Row_depth : Meth K C_Row "depth" f_Stream_depth)
    (me_Manner_ends : Meth K C_Manner "ends" f_Manner_ends)
    (me_Ceils_ends : Meth K C_Ceils "ends" f_Ceils_ends)
    (me_Nears_ends : Meth K C_Nears "ends" f_Nears_ends)
    (me_Manner_fits : Meth K C_Manner "fits" f_Manner_fits)
    (me_Ceils_fits : Meth K C_Ceils "fits" f_Ceils_fits)
    (me_Nears_fits : Meth K C_Nears "fits" f_Nears_fits)
    (me_Row_made : Meth K C_Row "made" f_Stream_made)
    (me_Row_manner : Meth K C_Row "manner" f_Stream_manner)
    (me_Row_more : Meth K C_Row "more" f_Row_more)
    (me_Row_terms : Meth K C_Row "terms" f_Stream_terms)
    (d_Stream_manner : MFn K "manner" "Stream.manner" s_Stream_manner ["self"] f_Stream_manner)
    (d_Stream_depth : MFn K "depth" "Stream.depth" s_Stream_depth ["self"] f_Stream_depth)
    (d_Stream_made : MFn K "made" "Stream.made" s_Stream_made ["self"] f_Stream_made)
    (d_Stream_asked : MFn K "asked" "Stream.asked" s_Stream_asked ["self"] f_Stream_asked)
    (d_Row_more : MFn K "more" "Row.more" s_Row_more ["self"] f_Row_more)
    (d_Stream_answer : MFn K "answer" "Stream.answer" s_Stream_answer ["self", "place"] f_Stream_answer)
    (d_Stream_terms : MFn K "terms" "Stream.terms" s_Stream_terms ["self", "many"] f_Stream_terms)
    (d_Manner_fits : MFn K "fits" "Manner.fits" s_Manner_fits ["self", "ahead", "term"] f_Manner_fits)
    (d_Ceils_fits : MFn K "fits" "Ceils.fits" s_Ceils_fits ["self", "ahead", "term"] f_Ceils_fits)
    (d_Nears_fits : MFn K "fits" "Nears.fits" s_Nears_fits ["self", "ahead", "term"] f_Nears_fits)
    (d_Manner_ends : MFn K "ends" "Manner.ends" s_Manner_ends ["self", "last"] f_Manner_ends)
    (d_Ceils_ends : MFn K "ends" "Ceils.ends" s_Ceils_ends ["self", "last"] f_Ceils_ends)
    (d_Nears_ends : MFn K "ends" "Nears.ends" s_Nears_ends ["self", "last"] f_Nears_ends)
    (d_Stream___init__ : MFn K "__init__" "Stream.__init__" s_Stream___init__ ["self", "manner"] f_Stream___init__)
    (d_Row___init__ : DfQ K "__init__" "Row.__init__" s_Row___init__ ["self", "terms", "manner"] dvs_Row___init__ shs_Row___init__ f_Row___init__)
    (d_Stream_ask : MFn K "ask" "Stream.ask" s_Stream_ask ["self", "k"] f_Stream_ask)
    (mk_Row : Mk K C_Row f_Row___init__)
    (cf_Stream___init__ : ClF K mg "Stream" "__init__" f_Stream___init__)
    (na_Row_how : NoAttr K C_Row "how")
    (na_Row_kept : NoAttr K C_Row "kept")
    (na_Row_closing : NoAttr K C_Row "closing")
    (na_Row_whole_row : NoAttr K C_Row "whole_row")
    (ic_Row : IsiC K C_Row)
    (kc_Row_Stream : PySem.W.kitOne K (.ref C_Row) (.ref C_Stream) = some true)
    (d_is_number : Df K mg "is_number" s_is_number ["thing"])
    (d_is_whole : Df K mg "is_whole" s_is_whole ["thing", "low", "high"])
    (d_law_cell : Df K mg "_law_cell" s_law_cell ["_law_script", "_law_k"])
    (d_law_purse : Df K mg "_law_purse" s_law_purse ["_law_cell_here"])
    (d_law_take : Df K mg "_law_take" s_law_take ["_law_purse_here", "_law_many"])
    (d_law_size : Df K mg "_law_size" s_law_size ["_law_purse_here", "_law_low"])
    (d_law_next : Df K mg "_law_next" s_law_next ["_law_purse_here", "_law_kind", "_law_row_here"])
    (d_law_row : Df K mg "_law_row" s_law_row ["_law_purse_here", "_law_kind", "_law_many"])
    (d_is_manner : Df K mg "is_manner" s_is_manner ["thing"])
    (d_manner_of : Df K mg "manner_of" s_manner_of ["word"])
    (d_is_beginning : Df K mg "is_beginning" s_is_beginning ["manner", "thing"])
    (d_is_ending : Df K mg "is_ending" s_is_ending ["manner", "terms"])
    (d_is_row : DfD K mg "is_row" s_is_row ["thing", "manner"] (.str "floor"))
    (d_law_made : Df K mg "_law_made" s_law_made ["_law_terms", "_law_word"])
    (d_need_place : Df K mg "need_place" s_need_place ["thing"])
    (d_law_asked : Df K mg "_law_asked" s_law_asked ["_law_stream", "_law_way", "_law_thing"])
    (d_law_step : Df K mg "_law_step" s_law_step ["_law_purse_here", "_law_stream", "_law_row_here", "_law_ready"])
    (b_all : mg "all" = none)
    (b_bool : mg "bool" = none)
    (b_int : mg "int" = none)
    (b_isinstance : mg "isinstance" = none)
    (b_len : mg "len" = none)
    (b_list : mg "list" = none)
    (b_max : mg "max" = none)
    (b_min : mg "min" = none)
    (b_range : mg "range" = none)
    (b_repr : mg "repr" = none)
    (b_str : mg "str" = none)
    (b_tuple : mg "tuple" = none)
    {t_CEIL : Tok} (m_CEIL : mg "CEIL" = some (.str "ceil" t_CEIL))
    {a_MANNERS : Addr} (m_MANNERS : Tq.GD K mg "MANNERS" a_MANNERS (PyData.tuple [(.str "floor"), (.str "ceil"), (.str "near")]))
    {t_MOST_PLACE : Tok} (m_MOST_PLACE : mg "MOST_PLACE" = some (.int 999 t_MOST_PLACE))
    {t_MOST_TERMS : Tok} (m_MOST_TERMS : mg "MOST_TERMS" = some (.int 1000 t_MOST_TERMS))
    {t_NEAR : Tok} (m_NEAR : mg "NEAR" = some (.str "near" t_NEAR)) :
    ∀ (base : Heap) (f : Addr) (fd : FuncData), base.NoDigits → Fun K "law" "law" s_law f fd → FnG P w K mg base CX0 8 f fd ["_law_script"] (sp_law K) := by
  intro base f fd dg F
  have x_NoNumber : Xc P w K mg base "NoNumber" C_NoNumber := xc_NoNumber y_NoNumber tx
  have x_NoManner : Xc P w K mg base "NoManner" C_NoManner := xc_NoManner y_NoManner tx
  have x_NoPlace : XcB beK P w K mg base "NoPlace" C_NoPlace := xc_NoPlace y_NoPlace txUnknown
  have at_Row : AtC K C_Row ["how", "kept", "closing", "whole_row"] := ⟨cl_Row, List.forall_mem_cons.mpr ⟨na_Row_how, List.forall_mem_cons.mpr ⟨na_Row_kept, List.forall_mem_cons.mpr ⟨na_Row_closing, List.forall_mem_cons.mpr ⟨na_Row_whole_row, List.forall_mem_nil _⟩⟩⟩⟩⟩
  have c_Stream_manner : MCal P w K mg base (L2.CX P w) 1 ["self"] (Ux.sp_manner K C_Row) f_Stream_manner := ok_Stream_manner d_Stream_manner at_Row
  have c_Stream_depth : MCal P w K mg base (L2.CX P w) 1 ["self"] (Ux.sp_depth K C_Row) f_Stream_depth := ok_Stream_depth d_Stream_depth 
  have c_Stream_made : MCal P w K mg base (L2.CX P w) 1 ["self"] (Ux.sp_made K C_Row) f_Stream_made := ok_Stream_made d_Stream_made at_Row b_list
  have c_Stream_asked : MCal P w K mg base (L2.CX P w) 1 ["self"] (Ux.sp_asked K C_Row) f_Stream_asked := ok_Stream_asked d_Stream_asked at_Row b_len
  have c_is_number : Cal P w K mg base 1 "is_number" ["thing"] (sp_is_number K) := ok_is_number d_is_number b_bool b_int b_isinstance
  have c_is_whole : Cal P w K mg base 2 "is_whole" ["thing", "low", "high"] (sp_is_whole K) := ok_is_whole d_is_whole c_is_number
  have v_asked : VTab P w K mg base (L2.CX P w) 1 "asked" [(C_Row, Ux.sp_asked K C_Row)] := (.cons (.of cl_Row me_Row_asked c_Stream_asked (by decide)) .nil)
  have c_Row_more : MCal P w K mg base (L2.CX P w) 2 ["self"] (Ux.sp_more K C_Row) f_Row_more := ok_Row_more d_Row_more v_asked at_Row b_len
  have v_bounds : VTab P w K mg base (L2.CX P w) 0 "bounds" [] := .nil
  have v_more : VTab P w K mg base (L2.CX P w) 2 "more" [(C_Row, Ux.sp_more K C_Row)] := (.cons (.of cl_Row me_Row_more c_Row_more (by decide)) .nil)
  have c_Stream_answer : MCal P w K mg base (L2.CX P w) 3 ["self", "place"] (Ux.sp_answer K C_Row) f_Stream_answer := ok_Stream_answer d_Stream_answer v_bounds v_more at_Row b_len
  have v_answer : VTab P w K mg base (L2.CX P w) 3 "answer" [(C_Row, Ux.sp_answer K C_Row)] := (.cons (.of cl_Row me_Row_answer c_Stream_answer (by decide)) .nil)
  have c_Stream_terms : MCal P w K mg base (L2.CX P w) 4 ["self", "many"] (Ux.sp_terms K C_Row C_NoNumber) f_Stream_terms := ok_Stream_terms d_Stream_terms x_NoNumber c_is_whole v_answer at_Row m_MOST_TERMS
  have c_law_cell : Cal P w K mg base 1 "_law_cell" ["_law_script", "_law_k"] (sp_law_cell K) := ok_law_cell d_law_cell b_len
  have c_law_purse : Cal P w K mg base 1 "_law_purse" ["_law_cell_here"] (sp_law_purse K) := ok_law_purse d_law_purse b_max
  have c_law_take : Cal P w K mg base 1 "_law_take" ["_law_purse_here", "_law_many"] (sp_law_take K) := ok_law_take d_law_take 
  have c_law_size : Cal P w K mg base 2 "_law_size" ["_law_purse_here", "_law_low"] (sp_law_size K) := ok_law_size d_law_size c_law_take
  have c_law_next : Cal P w K mg base 3 "_law_next" ["_law_purse_here", "_law_kind", "_law_row_here"] (Ux.sp_law_next K) := ok_law_next d_law_next c_law_take c_law_size b_len
  have c_law_row : Cal P w K mg base 4 "_law_row" ["_law_purse_here", "_law_kind", "_law_many"] (Ux.sp_law_row K) := ok_law_row d_law_row c_law_next b_range
  have c_is_manner : Cal P w K mg base 1 "is_manner" ["thing"] (sp_is_manner K) := ok_is_manner d_is_manner b_isinstance b_str m_MANNERS
  have c_manner_of : CalX P w K mg base 3 "manner_of" ["word"] (Ux.sp_manner_of K C_NoManner C_Manner C_Ceils C_Nears) := ok_manner_of d_manner_of x_NoManner g_Ceils g_Manner g_Nears c_is_manner n_Ceils n_Manner n_Nears m_CEIL m_NEAR
  have c_Manner_fits : MCal P w K mg base CX0 1 ["self", "ahead", "term"] (Ux.sp_fits K .fl) f_Manner_fits := ok_Manner_fits d_Manner_fits 
  have c_Ceils_fits : MCal P w K mg base CX0 1 ["self", "ahead", "term"] (Ux.sp_fits K .ce) f_Ceils_fits := ok_Ceils_fits d_Ceils_fits 
  have c_Nears_fits : MCal P w K mg base CX0 1 ["self", "ahead", "term"] (Ux.sp_fits K .ne) f_Nears_fits := ok_Nears_fits d_Nears_fits 
  have v_fits : VTab P w K mg base CX0 1 "fits" [(C_Manner, Ux.sp_fits K .fl), (C_Ceils, Ux.sp_fits K .ce), (C_Nears, Ux.sp_fits K .ne)] := (.cons (.of cl_Manner me_Manner_fits c_Manner_fits (by decide)) (.cons (.of cl_Ceils me_Ceils_fits c_Ceils_fits (by decide)) (.cons (.of cl_Nears me_Nears_fits c_Nears_fits (by decide)) .nil)))
  have c_is_beginning : Cal P w K mg base 2 "is_beginning" ["manner", "thing"] (Ux.sp_is_beginning K C_Manner C_Ceils C_Nears) := ok_is_beginning d_is_beginning c_is_number v_fits b_all b_isinstance b_len b_list b_range b_tuple
  have c_Manner_ends : MCal P w K mg base CX0 1 ["self", "last"] (Ux.sp_ends K .fl) f_Manner_ends := ok_Manner_ends d_Manner_ends 
  have c_Ceils_ends : MCal P w K mg base CX0 1 ["self", "last"] (Ux.sp_ends K .ce) f_Ceils_ends := ok_Ceils_ends d_Ceils_ends 
  have c_Nears_ends : MCal P w K mg base CX0 1 ["self", "last"] (Ux.sp_ends K .ne) f_Nears_ends := ok_Nears_ends d_Nears_ends 
  have v_ends : VTab P w K mg base CX0 1 "ends" [(C_Manner, Ux.sp_ends K .fl), (C_Ceils, Ux.sp_ends K .ce), (C_Nears, Ux.sp_ends K .ne)] := (.cons (.of cl_Manner me_Manner_ends c_Manner_ends (by decide)) (.cons (.of cl_Ceils me_Ceils_ends c_Ceils_ends (by decide)) (.cons (.of cl_Nears me_Nears_ends c_Nears_ends (by decide)) .nil)))
  have c_is_ending : Cal P w K mg base 2 "is_ending" ["manner", "terms"] (Ux.sp_is_ending K C_Manner C_Ceils C_Nears) := ok_is_ending d_is_ending v_ends b_len
  have c_is_row : CalD P w K mg base 4 "is_row" ["thing", "manner"] (Ux.sp_is_row K C_NoManner) (.str "floor") := ok_is_row d_is_row c_manner_of c_is_beginning c_is_ending
  have c_Stream___init__ : MCal P w K mg base CX0 1 ["self", "manner"] (Ux.sp_sinit K C_Row) f_Stream___init__ := ok_Stream___init__ d_Stream___init__ at_Row
  have c_Row___init__ : CalQ P w K mg base (L2.CX P w) 5 ["self", "terms", "manner"] (Ux.sp_rinit K C_Row) dvs_Row___init__ shs_Row___init__ f_Row___init__ := ok_Row___init__ d_Row___init__ c_is_row cf_Stream___init__ c_Stream___init__ at_Row b_list
  have c_law_made : Cal P w K mg base 7 "_law_made" ["_law_terms", "_law_word"] (Ux.sp_law_made K C_Row) := ok_law_made d_law_made g_Row mk_Row c_Row___init__ b_len
  have c_need_place : CalX P w K mg base 3 "need_place" ["thing"] (Ux.sp_need_place K C_NoPlace) := ok_need_place d_need_place x_NoPlace c_is_whole m_MOST_PLACE
  have c_Stream_ask : MCal P w K mg base (L2.CX P w) 4 ["self", "k"] (Ux.sp_ask K C_Row C_NoPlace) f_Stream_ask := ok_Stream_ask d_Stream_ask c_need_place v_answer at_Row
  have v_ask : VTab P w K mg base (L2.CX P w) 4 "ask" [(C_Row, Ux.sp_ask K C_Row C_NoPlace)] := (.cons (.of cl_Row me_Row_ask c_Stream_ask (by decide)) .nil)
  have v_terms : VTab P w K mg base (L2.CX P w) 4 "terms" [(C_Row, Ux.sp_terms K C_Row C_NoNumber)] := (.cons (.of cl_Row me_Row_terms c_Stream_terms (by decide)) .nil)
  have c_law_asked : Cal P w K mg base 5 "_law_asked" ["_law_stream", "_law_way", "_law_thing"] (Ux.sp_law_asked K C_Row) := ok_law_asked d_law_asked x_NoNumber x_NoPlace t_NoPlace_NoPlace t_NoNumber_NoPlace t_NoNumber_NoNumber v_ask v_terms
  have c_law_step : Cal P w K mg base 6 "_law_step" ["_law_purse_here", "_law_stream", "_law_row_here", "_law_ready"] (Ux.sp_law_step K C_Row) := ok_law_step d_law_step dg c_law_take c_law_asked b_int b_isinstance b_len b_list b_max b_min b_repr
  have v_depth : VTab P w K mg base (L2.CX P w) 1 "depth" [(C_Row, Ux.sp_depth K C_Row)] := (.cons (.of cl_Row me_Row_depth c_Stream_depth (by decide)) .nil)
  have v_made : VTab P w K mg base (L2.CX P w) 1 "made" [(C_Row, Ux.sp_made K C_Row)] := (.cons (.of cl_Row me_Row_made c_Stream_made (by decide)) .nil)
  have v_manner : VTab P w K mg base (L2.CX P w) 1 "manner" [(C_Row, Ux.sp_manner K C_Row)] := (.cons (.of cl_Row me_Row_manner c_Stream_manner (by decide)) .nil)
  exact ok_law F dg g_Stream c_law_cell c_law_purse c_law_take c_law_row c_law_made c_law_step v_asked v_depth v_made v_manner v_terms ic_Row kc_Row_Stream b_isinstance b_len b_list b_max b_min b_range b_repr b_tuple
end
end Ux
open PySem PySem.W PyProof.Rows
set_option maxHeartbeats 0 in
theorem PySem.Challenge.cw_termstream_k28_rows_asked_holds : PySem.Challenge.rw_termstream_k28_rows_asked.Holds :=
  Hd.hd_k28 (by
  k_fill
  refine Tq.walk_ofD (l := PySem.Challenge.rw_termstream_k28_rows_asked) (n := 63) (k := 8) (x := "_law_script") (sp := Tq.sp_law) rfl (by decide) rfl ⟨rfl, by decide, by decide⟩ (fun w h Y => PySem.W.kIn_of Y) ?F (fun K H a ns hl _ hS => ⟨a, ns, rfl, hS, hl, fun _ => rfl⟩)
  case F =>
    intro w mg fa h KX G hmg
    refine' Tq.law_mkD (st := Ux.s_law) KX G hmg (Ux.row_ok
      (Ux.txc_mk KX G ?xa ?xr ?xg ?xv)
      (Ux.txb_mk KX G ?y0a ?y0r ?y0g ?y0v)
      (Ux.xct_mk KX G (fun _ _ _ _ _ _ us hl => match us, hl with | [_, _], _ => rfl) ?X0aC ?X0xL ?X0vb ?X0sa ?X0ga ?X0gg ?X0nb ?X0a1 ?X0t1 ?X0l ?X0c ?X0k ?X0kC ?X0eC ?X0tC ?X0hC)
      (Ux.xct_mk KX G (fun _ _ _ _ _ _ us hl => match us, hl with | [_, _], _ => rfl) ?X1aC ?X1xL ?X1vb ?X1sa ?X1ga ?X1gg ?X1nb ?X1a1 ?X1t1 ?X1l ?X1c ?X1k ?X1kC ?X1eC ?X1tC ?X1hC)
      (Ux.xctb_mk Ux.beK_ok KX G (fun _ _ _ _ _ _ us hl => match us, hl with | [_, _], _ => rfl) ?X2aC ?X2xL ?X2vb ?X2sa ?X2ga ?X2gg ?X2nb ?X2a1 ?X2t1 ?X2l ?X2c ?X2k ?X2kC ?X2eC ?X2tC ?X2hC)
      (Ux.exm_mk (mg := mg) (x := "") (y := "") ?E0b ?E0t ?E0c ?E0s)
      (Ux.exm_mk (mg := mg) (x := "") (y := "") ?E1b ?E1t ?E1c ?E1s)
      (Ux.exm_mk (mg := mg) (x := "") (y := "") ?E2b ?E2t ?E2c ?E2s)
      (PySem.W.mg_of KX G ?G0)
      (PySem.W.mg_of KX G ?G1)
      (PySem.W.mg_of KX G ?G2)
      (PySem.W.mg_of KX G ?G3)
      (PySem.W.mg_of KX G ?G4)
      ⟨?M0a, ?M0b, ?M0c, ?M0d⟩
      ⟨?M1a, ?M1b, ?M1c, ?M1d⟩
      ⟨?M2a, ?M2b, ?M2c, ?M2d⟩
      ⟨?L0a, ?L0b, ?L0c, ?L0d⟩
      ⟨?L1a, ?L1b, ?L1c, ?L1d⟩
      ⟨?L2a, ?L2b, ?L2c, ?L2d⟩
      ⟨?L3a, ?L3b, ?L3c, ?L3d⟩
      ⟨?V0a, ?V0b, ?V0c⟩
      ⟨?V1a, ?V1b, ?V1c⟩
      ⟨?V2a, ?V2b, ?V2c⟩
      ⟨?V3a, ?V3b, ?V3c⟩
      ⟨?V4a, ?V4b, ?V4c⟩
      ⟨?V5a, ?V5b, ?V5c⟩
      ⟨?V6a, ?V6b, ?V6c⟩
      ⟨?V7a, ?V7b, ?V7c⟩
      ⟨?V8a, ?V8b, ?V8c⟩
      ⟨?V9a, ?V9b, ?V9c⟩
      ⟨?V10a, ?V10b, ?V10c⟩
      ⟨?V11a, ?V11b, ?V11c⟩
      ⟨?V12a, ?V12b, ?V12c⟩
      ⟨?V13a, ?V13b, ?V13c⟩
      (Ux.mfn_mk KX (fun _ _ _ _ _ _ us hl => match us, hl with | [_], _ => rfl) ?F0l ?F0c ?F0k)
      (Ux.mfn_mk KX (fun _ _ _ _ _ _ us hl => match us, hl with | [_], _ => rfl) ?F1l ?F1c ?F1k)
      (Ux.mfn_mk KX (fun _ _ _ _ _ _ us hl => match us, hl with | [_], _ => rfl) ?F2l ?F2c ?F2k)
      (Ux.mfn_mk KX (fun _ _ _ _ _ _ us hl => match us, hl with | [_], _ => rfl) ?F3l ?F3c ?F3k)
      (Ux.mfn_mk KX (fun _ _ _ _ _ _ us hl => match us, hl with | [_], _ => rfl) ?F4l ?F4c ?F4k)
      (Ux.mfn_mk KX (fun _ _ _ _ _ _ us hl => match us, hl with | [_, _], _ => rfl) ?F5l ?F5c ?F5k)
      (Ux.mfn_mk KX (fun _ _ _ _ _ _ us hl => match us, hl with | [_, _], _ => rfl) ?F6l ?F6c ?F6k)
      (Ux.mfn_mk KX (fun _ _ _ _ _ _ us hl => match us, hl with | [_, _, _], _ => rfl) ?F7l ?F7c ?F7k)
      (Ux.mfn_mk KX (fun _ _ _ _ _ _ us hl => match us, hl with | [_, _, _], _ => rfl) ?F8l ?F8c ?F8k)
      (Ux.mfn_mk KX (fun _ _ _ _ _ _ us hl => match us, hl with | [_, _, _], _ => rfl) ?F9l ?F9c ?F9k)
      (Ux.mfn_mk KX (fun _ _ _ _ _ _ us hl => match us, hl with | [_, _], _ => rfl) ?F10l ?F10c ?F10k)
      (Ux.mfn_mk KX (fun _ _ _ _ _ _ us hl => match us, hl with | [_, _], _ => rfl) ?F11l ?F11c ?F11k)
      (Ux.mfn_mk KX (fun _ _ _ _ _ _ us hl => match us, hl with | [_, _], _ => rfl) ?F12l ?F12c ?F12k)
      (Ux.mfn_mk KX (fun _ _ _ _ _ _ us hl => match us, hl with | [_, _], _ => rfl) ?F13l ?F13c ?F13k)
      (Ux.dfq_mk (dvs := Ux.dvs_Row___init__) (shs := Ux.shs_Row___init__) KX (by decide) (.cons (show ∃ t, _ = Value.str _ t from ⟨_, rfl⟩) .nil) (List.forall_mem_cons.mpr ⟨⟨by decide, fun _ _ _ _ _ _ _ us ws its h1 h2 h3 => match us, ws, its, h1, h2, h3 with | [_, _], [], [_], _, _, _ => ⟨_, rfl, rfl⟩⟩, (List.forall_mem_cons.mpr ⟨⟨by decide, fun _ _ _ _ _ _ _ us ws its h1 h2 h3 => match us, ws, its, h1, h2, h3 with | [_, _], [_], [_], _, _, _ => ⟨_, rfl, rfl⟩⟩, (List.forall_mem_cons.mpr ⟨⟨by decide, fun _ _ _ _ _ _ _ us ws its h1 h2 h3 => match us, ws, its, h1, h2, h3 with | [_, _, _], [], [_], _, _, _ => ⟨_, rfl, rfl⟩⟩, (fun _ h => absurd h (by simp))⟩)⟩)⟩) ?F14l ?F14t ?F14c ?F14k)
      (Ux.mfn_mk KX (fun _ _ _ _ _ _ us hl => match us, hl with | [_, _], _ => rfl) ?F15l ?F15c ?F15k)
      ⟨?K0a, ?K0b, ?K0c, ?K0d⟩
      ⟨_, PySem.W.mg_of KX G ?C0a, ?C0b, ?C0c, ?C0d, ?C0e⟩
      ?N0
      ?N1
      ?N2
      ?N3
      ⟨⟨?S0a, ?S0b, ?S0c, ?S0d⟩, ?S0e, ?S0f, ?S0g, ?S0h⟩
      (Ux.kit_mk ?J0n ?J0t ?J0c ?J0s)
      (Tq.df_mk KX G (fun _ _ _ _ _ _ us hl => match us, hl with | [_], _ => rfl) ?a0 ?l0 ?c0 ?k0)
      (Tq.df_mk KX G (fun _ _ _ _ _ _ us hl => match us, hl with | [_, _, _], _ => rfl) ?a1 ?l1 ?c1 ?k1)
      (Tq.df_mk KX G (fun _ _ _ _ _ _ us hl => match us, hl with | [_, _], _ => rfl) ?a2 ?l2 ?c2 ?k2)
      (Tq.df_mk KX G (fun _ _ _ _ _ _ us hl => match us, hl with | [_], _ => rfl) ?a3 ?l3 ?c3 ?k3)
      (Tq.df_mk KX G (fun _ _ _ _ _ _ us hl => match us, hl with | [_, _], _ => rfl) ?a4 ?l4 ?c4 ?k4)
      (Tq.df_mk KX G (fun _ _ _ _ _ _ us hl => match us, hl with | [_, _], _ => rfl) ?a5 ?l5 ?c5 ?k5)
      (Tq.df_mk KX G (fun _ _ _ _ _ _ us hl => match us, hl with | [_, _, _], _ => rfl) ?a6 ?l6 ?c6 ?k6)
      (Tq.df_mk KX G (fun _ _ _ _ _ _ us hl => match us, hl with | [_, _, _], _ => rfl) ?a7 ?l7 ?c7 ?k7)
      (Tq.df_mk KX G (fun _ _ _ _ _ _ us hl => match us, hl with | [_], _ => rfl) ?a8 ?l8 ?c8 ?k8)
      (Tq.df_mk KX G (fun _ _ _ _ _ _ us hl => match us, hl with | [_], _ => rfl) ?a9 ?l9 ?c9 ?k9)
      (Tq.df_mk KX G (fun _ _ _ _ _ _ us hl => match us, hl with | [_, _], _ => rfl) ?a10 ?l10 ?c10 ?k10)
      (Tq.df_mk KX G (fun _ _ _ _ _ _ us hl => match us, hl with | [_, _], _ => rfl) ?a11 ?l11 ?c11 ?k11)
      (Ux.dfd_mk KX G ⟨_, rfl⟩ (fun _ _ _ _ _ _ _ us its h1 h2 => match us, its, h1, h2 with | [_, _], [_], _, _ => ⟨_, rfl, rfl⟩) (fun _ _ _ _ _ _ _ us its h1 h2 => match us, its, h1, h2 with | [_], [_], _, _ => ⟨_, rfl, rfl⟩) (fun _ _ _ _ _ _ _ us ws its h1 h2 h3 => match us, ws, its, h1, h2, h3 with | [_], [_], [_], _, _, _ => ⟨_, rfl, rfl⟩) ?a12 ?l12 ?T12 ?c12 ?k12)
      (Tq.df_mk KX G (fun _ _ _ _ _ _ us hl => match us, hl with | [_, _], _ => rfl) ?a13 ?l13 ?c13 ?k13)
      (Tq.df_mk KX G (fun _ _ _ _ _ _ us hl => match us, hl with | [_], _ => rfl) ?a14 ?l14 ?c14 ?k14)
      (Tq.df_mk KX G (fun _ _ _ _ _ _ us hl => match us, hl with | [_, _, _], _ => rfl) ?a15 ?l15 ?c15 ?k15)
      (Tq.df_mk KX G (fun _ _ _ _ _ _ us hl => match us, hl with | [_, _, _, _], _ => rfl) ?a16 ?l16 ?c16 ?k16)
      (PySem.W.mg_none_of KX G ?z0)
      (PySem.W.mg_none_of KX G ?z1)
      (PySem.W.mg_none_of KX G ?z2)
      (PySem.W.mg_none_of KX G ?z3)
      (PySem.W.mg_none_of KX G ?z4)
      (PySem.W.mg_none_of KX G ?z5)
      (PySem.W.mg_none_of KX G ?z6)
      (PySem.W.mg_none_of KX G ?z7)
      (PySem.W.mg_none_of KX G ?z8)
      (PySem.W.mg_none_of KX G ?z9)
      (PySem.W.mg_none_of KX G ?z10)
      (PySem.W.mg_none_of KX G ?z11)
      (PySem.W.mg_of KX G ?y0)
      (Tq.gd_tup KX G (.cons (.str "floor" _) (.cons (.str "ceil" _) (.cons (.str "near" _) .nil))) (by show 3 ≤ sizeLine; decide) ?y1 ?yl1)
      (PySem.W.mg_of KX G ?y2)
      (PySem.W.mg_of KX G ?y3)
      (PySem.W.mg_of KX G ?y4)) (fun _ _ _ _ _ _ _ _ => .of_eq rfl) ?a ?l ?c ?k
    (case xa => first | k_is | decide +kernel | rfl | exact ⟨[_], rfl⟩); (case xr => first | k_is | decide +kernel | rfl | exact ⟨[_], rfl⟩); (case xg => first | k_is | decide +kernel | rfl | exact ⟨[_], rfl⟩); (case xv => first | k_is | decide +kernel | rfl | exact ⟨[_], rfl⟩); (case y0a => first | k_is | decide +kernel | rfl | exact ⟨[_], rfl⟩); (case y0r => first | k_is | decide +kernel | rfl | exact ⟨[_], rfl⟩); (case y0g => first | k_is | decide +kernel | rfl | exact ⟨[_], rfl⟩); (case y0v => first | k_is | decide +kernel | rfl | exact ⟨[_], rfl⟩)
    (case X0aC => first | k_is | decide +kernel | rfl | exact ⟨[_], rfl⟩); (case X0xL => first | k_is | decide +kernel | rfl | exact ⟨[_], rfl⟩); (case X0vb => first | k_is | decide +kernel | rfl | exact ⟨[_], rfl⟩); (case X0sa => first | k_is | decide +kernel | rfl | exact ⟨[_], rfl⟩); (case X0ga => first | k_is | decide +kernel | rfl | exact ⟨[_], rfl⟩); (case X0gg => first | k_is | decide +kernel | rfl | exact ⟨[_], rfl⟩); (case X0nb => first | k_is | decide +kernel | rfl | exact ⟨[_], rfl⟩); (case X0a1 => first | k_is | decide +kernel | rfl | exact ⟨[_], rfl⟩)
    (case X0t1 => first | k_is | decide +kernel | rfl | exact ⟨[_], rfl⟩); (case X0l => first | k_is | decide +kernel | rfl | exact ⟨[_], rfl⟩); (case X0c => first | k_is | decide +kernel | rfl | exact ⟨[_], rfl⟩); (case X0k => first | k_is | decide +kernel | rfl | exact ⟨[_], rfl⟩); (case X0kC => first | k_is | decide +kernel | rfl | exact ⟨[_], rfl⟩); (case X0eC => first | k_is | decide +kernel | rfl | exact ⟨[_], rfl⟩); (case X0tC => first | k_is | decide +kernel | rfl | exact ⟨[_], rfl⟩); (case X0hC => first | k_is | decide +kernel | rfl | exact ⟨[_], rfl⟩)
    (case X1aC => first | k_is | decide +kernel | rfl | exact ⟨[_], rfl⟩); (case X1xL => first | k_is | decide +kernel | rfl | exact ⟨[_], rfl⟩); (case X1vb => first | k_is | decide +kernel | rfl | exact ⟨[_], rfl⟩); (case X1sa => first | k_is | decide +kernel | rfl | exact ⟨[_], rfl⟩); (case X1ga => first | k_is | decide +kernel | rfl | exact ⟨[_], rfl⟩); (case X1gg => first | k_is | decide +kernel | rfl | exact ⟨[_], rfl⟩); (case X1nb => first | k_is | decide +kernel | rfl | exact ⟨[_], rfl⟩); (case X1a1 => first | k_is | decide +kernel | rfl | exact ⟨[_], rfl⟩)
    (case X1t1 => first | k_is | decide +kernel | rfl | exact ⟨[_], rfl⟩); (case X1l => first | k_is | decide +kernel | rfl | exact ⟨[_], rfl⟩); (case X1c => first | k_is | decide +kernel | rfl | exact ⟨[_], rfl⟩); (case X1k => first | k_is | decide +kernel | rfl | exact ⟨[_], rfl⟩); (case X1kC => first | k_is | decide +kernel | rfl | exact ⟨[_], rfl⟩); (case X1eC => first | k_is | decide +kernel | rfl | exact ⟨[_], rfl⟩); (case X1tC => first | k_is | decide +kernel | rfl | exact ⟨[_], rfl⟩); (case X1hC => first | k_is | decide +kernel | rfl | exact ⟨[_], rfl⟩)
    (case X2aC => first | k_is | decide +kernel | rfl | exact ⟨[_], rfl⟩); (case X2xL => first | k_is | decide +kernel | rfl | exact ⟨[_], rfl⟩); (case X2vb => first | k_is | decide +kernel | rfl | exact ⟨[_], rfl⟩); (case X2sa => first | k_is | decide +kernel | rfl | exact ⟨[_], rfl⟩); (case X2ga => first | k_is | decide +kernel | rfl | exact ⟨[_], rfl⟩); (case X2gg => first | k_is | decide +kernel | rfl | exact ⟨[_], rfl⟩); (case X2nb => first | k_is | decide +kernel | rfl | exact ⟨[_], rfl⟩); (case X2a1 => first | k_is | decide +kernel | rfl | exact ⟨[_], rfl⟩)
    (case X2t1 => first | k_is | decide +kernel | rfl | exact ⟨[_], rfl⟩); (case X2l => first | k_is | decide +kernel | rfl | exact ⟨[_], rfl⟩); (case X2c => first | k_is | decide +kernel | rfl | exact ⟨[_], rfl⟩); (case X2k => first | k_is | decide +kernel | rfl | exact ⟨[_], rfl⟩); (case X2kC => first | k_is | decide +kernel | rfl | exact ⟨[_], rfl⟩); (case X2eC => first | k_is | decide +kernel | rfl | exact ⟨[_], rfl⟩); (case X2tC => first | k_is | decide +kernel | rfl | exact ⟨[_], rfl⟩); (case X2hC => first | k_is | decide +kernel | rfl | exact ⟨[_], rfl⟩)
    (case E0b => first | k_is | decide +kernel | rfl | exact ⟨[_], rfl⟩); (case E0t => first | k_is | decide +kernel | rfl | exact ⟨[_], rfl⟩); (case E0c => first | k_is | decide +kernel | rfl | exact ⟨[_], rfl⟩); (case E0s => first | k_is | decide +kernel | rfl | exact ⟨[_], rfl⟩); (case E1b => first | k_is | decide +kernel | rfl | exact ⟨[_], rfl⟩); (case E1t => first | k_is | decide +kernel | rfl | exact ⟨[_], rfl⟩); (case E1c => first | k_is | decide +kernel | rfl | exact ⟨[_], rfl⟩); (case E1s => first | k_is | decide +kernel | rfl | exact ⟨[_], rfl⟩)
    (case E2b => first | k_is | decide +kernel | rfl | exact ⟨[_], rfl⟩); (case E2t => first | k_is | decide +kernel | rfl | exact ⟨[_], rfl⟩); (case E2c => first | k_is | decide +kernel | rfl | exact ⟨[_], rfl⟩); (case E2s => first | k_is | decide +kernel | rfl | exact ⟨[_], rfl⟩); (case G0 => first | k_is | decide +kernel | rfl | exact ⟨[_], rfl⟩); (case G1 => first | k_is | decide +kernel | rfl | exact ⟨[_], rfl⟩); (case G2 => first | k_is | decide +kernel | rfl | exact ⟨[_], rfl⟩); (case G3 => first | k_is | decide +kernel | rfl | exact ⟨[_], rfl⟩)
    (case G4 => first | k_is | decide +kernel | rfl | exact ⟨[_], rfl⟩); (case M0a => first | k_is | decide +kernel | rfl | exact ⟨[_], rfl⟩); (case M0b => first | k_is | decide +kernel | rfl | exact ⟨[_], rfl⟩); (case M0c => first | k_is | decide +kernel | rfl | exact ⟨[_], rfl⟩); (case M0d => first | k_is | decide +kernel | rfl | exact ⟨[_], rfl⟩); (case M1a => first | k_is | decide +kernel | rfl | exact ⟨[_], rfl⟩); (case M1b => first | k_is | decide +kernel | rfl | exact ⟨[_], rfl⟩); (case M1c => first | k_is | decide +kernel | rfl | exact ⟨[_], rfl⟩)
    (case M1d => first | k_is | decide +kernel | rfl | exact ⟨[_], rfl⟩); (case M2a => first | k_is | decide +kernel | rfl | exact ⟨[_], rfl⟩); (case M2b => first | k_is | decide +kernel | rfl | exact ⟨[_], rfl⟩); (case M2c => first | k_is | decide +kernel | rfl | exact ⟨[_], rfl⟩); (case M2d => first | k_is | decide +kernel | rfl | exact ⟨[_], rfl⟩); (case L0a => first | k_is | decide +kernel | rfl | exact ⟨[_], rfl⟩); (case L0b => first | k_is | decide +kernel | rfl | exact ⟨[_], rfl⟩); (case L0c => first | k_is | decide +kernel | rfl | exact ⟨[_], rfl⟩)
    (case L0d => first | k_is | decide +kernel | rfl | exact ⟨[_], rfl⟩); (case L1a => first | k_is | decide +kernel | rfl | exact ⟨[_], rfl⟩); (case L1b => first | k_is | decide +kernel | rfl | exact ⟨[_], rfl⟩); (case L1c => first | k_is | decide +kernel | rfl | exact ⟨[_], rfl⟩); (case L1d => first | k_is | decide +kernel | rfl | exact ⟨[_], rfl⟩); (case L2a => first | k_is | decide +kernel | rfl | exact ⟨[_], rfl⟩); (case L2b => first | k_is | decide +kernel | rfl | exact ⟨[_], rfl⟩); (case L2c => first | k_is | decide +kernel | rfl | exact ⟨[_], rfl⟩)
    (case L2d => first | k_is | decide +kernel | rfl | exact ⟨[_], rfl⟩); (case L3a => first | k_is | decide +kernel | rfl | exact ⟨[_], rfl⟩); (case L3b => first | k_is | decide +kernel | rfl | exact ⟨[_], rfl⟩); (case L3c => first | k_is | decide +kernel | rfl | exact ⟨[_], rfl⟩); (case L3d => first | k_is | decide +kernel | rfl | exact ⟨[_], rfl⟩); (case V0a => first | k_is | decide +kernel | rfl | exact ⟨[_], rfl⟩); (case V0b => first | k_is | decide +kernel | rfl | exact ⟨[_], rfl⟩); (case V0c => first | k_is | decide +kernel | rfl | exact ⟨[_], rfl⟩)
    (case V1a => first | k_is | decide +kernel | rfl | exact ⟨[_], rfl⟩); (case V1b => first | k_is | decide +kernel | rfl | exact ⟨[_], rfl⟩); (case V1c => first | k_is | decide +kernel | rfl | exact ⟨[_], rfl⟩); (case V2a => first | k_is | decide +kernel | rfl | exact ⟨[_], rfl⟩); (case V2b => first | k_is | decide +kernel | rfl | exact ⟨[_], rfl⟩); (case V2c => first | k_is | decide +kernel | rfl | exact ⟨[_], rfl⟩); (case V3a => first | k_is | decide +kernel | rfl | exact ⟨[_], rfl⟩); (case V3b => first | k_is | decide +kernel | rfl | exact ⟨[_], rfl⟩)
    (case V3c => first | k_is | decide +kernel | rfl | exact ⟨[_], rfl⟩); (case V4a => first | k_is | decide +kernel | rfl | exact ⟨[_], rfl⟩); (case V4b => first | k_is | decide +kernel | rfl | exact ⟨[_], rfl⟩); (case V4c => first | k_is | decide +kernel | rfl | exact ⟨[_], rfl⟩); (case V5a => first | k_is | decide +kernel | rfl | exact ⟨[_], rfl⟩); (case V5b => first | k_is | decide +kernel | rfl | exact ⟨[_], rfl⟩); (case V5c => first | k_is | decide +kernel | rfl | exact ⟨[_], rfl⟩); (case V6a => first | k_is | decide +kernel | rfl | exact ⟨[_], rfl⟩)
    (case V6b => first | k_is | decide +kernel | rfl | exact ⟨[_], rfl⟩); (case V6c => first | k_is | decide +kernel | rfl | exact ⟨[_], rfl⟩); (case V7a => first | k_is | decide +kernel | rfl | exact ⟨[_], rfl⟩); (case V7b => first | k_is | decide +kernel | rfl | exact ⟨[_], rfl⟩); (case V7c => first | k_is | decide +kernel | rfl | exact ⟨[_], rfl⟩); (case V8a => first | k_is | decide +kernel | rfl | exact ⟨[_], rfl⟩); (case V8b => first | k_is | decide +kernel | rfl | exact ⟨[_], rfl⟩); (case V8c => first | k_is | decide +kernel | rfl | exact ⟨[_], rfl⟩)
    (case V9a => first | k_is | decide +kernel | rfl | exact ⟨[_], rfl⟩); (case V9b => first | k_is | decide +kernel | rfl | exact ⟨[_], rfl⟩); (case V9c => first | k_is | decide +kernel | rfl | exact ⟨[_], rfl⟩); (case V10a => first | k_is | decide +kernel | rfl | exact ⟨[_], rfl⟩); (case V10b => first | k_is | decide +kernel | rfl | exact ⟨[_], rfl⟩); (case V10c => first | k_is | decide +kernel | rfl | exact ⟨[_], rfl⟩); (case V11a => first | k_is | decide +kernel | rfl | exact ⟨[_], rfl⟩); (case V11b => first | k_is | decide +kernel | rfl | exact ⟨[_], rfl⟩)
    (case V11c => first | k_is | decide +kernel | rfl | exact ⟨[_], rfl⟩); (case V12a => first | k_is | decide +kernel | rfl | exact ⟨[_], rfl⟩); (case V12b => first | k_is | decide +kernel | rfl | exact ⟨[_], rfl⟩); (case V12c => first | k_is | decide +kernel | rfl | exact ⟨[_], rfl⟩); (case V13a => first | k_is | decide +kernel | rfl | exact ⟨[_], rfl⟩); (case V13b => first | k_is | decide +kernel | rfl | exact ⟨[_], rfl⟩); (case V13c => first | k_is | decide +kernel | rfl | exact ⟨[_], rfl⟩); (case K0a => first | k_is | decide +kernel | rfl | exact ⟨[_], rfl⟩)
    (case K0b => first | k_is | decide +kernel | rfl | exact ⟨[_], rfl⟩); (case K0c => first | k_is | decide +kernel | rfl | exact ⟨[_], rfl⟩); (case K0d => first | k_is | decide +kernel | rfl | exact ⟨[_], rfl⟩); (case C0a => first | k_is | decide +kernel | rfl | exact ⟨[_], rfl⟩); (case C0b => first | k_is | decide +kernel | rfl | exact ⟨[_], rfl⟩); (case C0c => first | k_is | decide +kernel | rfl | exact ⟨[_], rfl⟩); (case C0d => first | k_is | decide +kernel | rfl | exact ⟨[_], rfl⟩); (case C0e => first | k_is | decide +kernel | rfl | exact ⟨[_], rfl⟩)
    (case F0l => first | k_is | decide +kernel | rfl | exact ⟨[_], rfl⟩); (case F0c => first | k_is | decide +kernel | rfl | exact ⟨[_], rfl⟩); (case F0k => first | k_is | decide +kernel | rfl | exact ⟨[_], rfl⟩); (case F1l => first | k_is | decide +kernel | rfl | exact ⟨[_], rfl⟩); (case F1c => first | k_is | decide +kernel | rfl | exact ⟨[_], rfl⟩); (case F1k => first | k_is | decide +kernel | rfl | exact ⟨[_], rfl⟩); (case F2l => first | k_is | decide +kernel | rfl | exact ⟨[_], rfl⟩); (case F2c => first | k_is | decide +kernel | rfl | exact ⟨[_], rfl⟩)
    (case F2k => first | k_is | decide +kernel | rfl | exact ⟨[_], rfl⟩); (case F3l => first | k_is | decide +kernel | rfl | exact ⟨[_], rfl⟩); (case F3c => first | k_is | decide +kernel | rfl | exact ⟨[_], rfl⟩); (case F3k => first | k_is | decide +kernel | rfl | exact ⟨[_], rfl⟩); (case F4l => first | k_is | decide +kernel | rfl | exact ⟨[_], rfl⟩); (case F4c => first | k_is | decide +kernel | rfl | exact ⟨[_], rfl⟩); (case F4k => first | k_is | decide +kernel | rfl | exact ⟨[_], rfl⟩); (case F5l => first | k_is | decide +kernel | rfl | exact ⟨[_], rfl⟩)
    (case F5c => first | k_is | decide +kernel | rfl | exact ⟨[_], rfl⟩); (case F5k => first | k_is | decide +kernel | rfl | exact ⟨[_], rfl⟩); (case F6l => first | k_is | decide +kernel | rfl | exact ⟨[_], rfl⟩); (case F6c => first | k_is | decide +kernel | rfl | exact ⟨[_], rfl⟩); (case F6k => first | k_is | decide +kernel | rfl | exact ⟨[_], rfl⟩); (case F7l => first | k_is | decide +kernel | rfl | exact ⟨[_], rfl⟩); (case F7c => first | k_is | decide +kernel | rfl | exact ⟨[_], rfl⟩); (case F7k => first | k_is | decide +kernel | rfl | exact ⟨[_], rfl⟩)
    (case F8l => first | k_is | decide +kernel | rfl | exact ⟨[_], rfl⟩); (case F8c => first | k_is | decide +kernel | rfl | exact ⟨[_], rfl⟩); (case F8k => first | k_is | decide +kernel | rfl | exact ⟨[_], rfl⟩); (case F9l => first | k_is | decide +kernel | rfl | exact ⟨[_], rfl⟩); (case F9c => first | k_is | decide +kernel | rfl | exact ⟨[_], rfl⟩); (case F9k => first | k_is | decide +kernel | rfl | exact ⟨[_], rfl⟩); (case F10l => first | k_is | decide +kernel | rfl | exact ⟨[_], rfl⟩); (case F10c => first | k_is | decide +kernel | rfl | exact ⟨[_], rfl⟩)
    (case F10k => first | k_is | decide +kernel | rfl | exact ⟨[_], rfl⟩); (case F11l => first | k_is | decide +kernel | rfl | exact ⟨[_], rfl⟩); (case F11c => first | k_is | decide +kernel | rfl | exact ⟨[_], rfl⟩); (case F11k => first | k_is | decide +kernel | rfl | exact ⟨[_], rfl⟩); (case F12l => first | k_is | decide +kernel | rfl | exact ⟨[_], rfl⟩); (case F12c => first | k_is | decide +kernel | rfl | exact ⟨[_], rfl⟩); (case F12k => first | k_is | decide +kernel | rfl | exact ⟨[_], rfl⟩); (case F13l => first | k_is | decide +kernel | rfl | exact ⟨[_], rfl⟩)
    (case F13c => first | k_is | decide +kernel | rfl | exact ⟨[_], rfl⟩); (case F13k => first | k_is | decide +kernel | rfl | exact ⟨[_], rfl⟩); (case F14l => first | k_is | decide +kernel | rfl | exact ⟨[_], rfl⟩); (case F14t => first | k_is | decide +kernel | rfl | exact ⟨[_], rfl⟩); (case F14c => first | k_is | decide +kernel | rfl | exact ⟨[_], rfl⟩); (case F14k => first | k_is | decide +kernel | rfl | exact ⟨[_], rfl⟩); (case F15l => first | k_is | decide +kernel | rfl | exact ⟨[_], rfl⟩); (case F15c => first | k_is | decide +kernel | rfl | exact ⟨[_], rfl⟩)
    (case F15k => first | k_is | decide +kernel | rfl | exact ⟨[_], rfl⟩); (case N0 => first | k_is | decide +kernel | rfl | exact ⟨[_], rfl⟩); (case N1 => first | k_is | decide +kernel | rfl | exact ⟨[_], rfl⟩); (case N2 => first | k_is | decide +kernel | rfl | exact ⟨[_], rfl⟩); (case N3 => first | k_is | decide +kernel | rfl | exact ⟨[_], rfl⟩); (case S0a => first | k_is | decide +kernel | rfl | exact ⟨[_], rfl⟩); (case S0b => first | k_is | decide +kernel | rfl | exact ⟨[_], rfl⟩); (case S0c => first | k_is | decide +kernel | rfl | exact ⟨[_], rfl⟩)
    (case S0d => first | k_is | decide +kernel | rfl | exact ⟨[_], rfl⟩); (case S0e => first | k_is | decide +kernel | rfl | exact ⟨[_], rfl⟩); (case S0f => first | k_is | decide +kernel | rfl | exact ⟨[_], rfl⟩); (case S0g => first | k_is | decide +kernel | rfl | exact ⟨[_], rfl⟩); (case S0h => first | k_is | decide +kernel | rfl | exact ⟨[_], rfl⟩); (case J0n => first | k_is | decide +kernel | rfl | exact ⟨[_], rfl⟩); (case J0t => first | k_is | decide +kernel | rfl | exact ⟨[_], rfl⟩); (case J0c => first | k_is | decide +kernel | rfl | exact ⟨[_], rfl⟩)
    (case J0s => first | k_is | decide +kernel | rfl | exact ⟨[_], rfl⟩); (case a0 => first | k_is | decide +kernel | rfl | exact ⟨[_], rfl⟩); (case l0 => first | k_is | decide +kernel | rfl | exact ⟨[_], rfl⟩); (case c0 => first | k_is | decide +kernel | rfl | exact ⟨[_], rfl⟩); (case k0 => first | k_is | decide +kernel | rfl | exact ⟨[_], rfl⟩); (case a1 => first | k_is | decide +kernel | rfl | exact ⟨[_], rfl⟩); (case l1 => first | k_is | decide +kernel | rfl | exact ⟨[_], rfl⟩); (case c1 => first | k_is | decide +kernel | rfl | exact ⟨[_], rfl⟩)
    (case k1 => first | k_is | decide +kernel | rfl | exact ⟨[_], rfl⟩); (case a2 => first | k_is | decide +kernel | rfl | exact ⟨[_], rfl⟩); (case l2 => first | k_is | decide +kernel | rfl | exact ⟨[_], rfl⟩); (case c2 => first | k_is | decide +kernel | rfl | exact ⟨[_], rfl⟩); (case k2 => first | k_is | decide +kernel | rfl | exact ⟨[_], rfl⟩); (case a3 => first | k_is | decide +kernel | rfl | exact ⟨[_], rfl⟩); (case l3 => first | k_is | decide +kernel | rfl | exact ⟨[_], rfl⟩); (case c3 => first | k_is | decide +kernel | rfl | exact ⟨[_], rfl⟩)
    (case k3 => first | k_is | decide +kernel | rfl | exact ⟨[_], rfl⟩); (case a4 => first | k_is | decide +kernel | rfl | exact ⟨[_], rfl⟩); (case l4 => first | k_is | decide +kernel | rfl | exact ⟨[_], rfl⟩); (case c4 => first | k_is | decide +kernel | rfl | exact ⟨[_], rfl⟩); (case k4 => first | k_is | decide +kernel | rfl | exact ⟨[_], rfl⟩); (case a5 => first | k_is | decide +kernel | rfl | exact ⟨[_], rfl⟩); (case l5 => first | k_is | decide +kernel | rfl | exact ⟨[_], rfl⟩); (case c5 => first | k_is | decide +kernel | rfl | exact ⟨[_], rfl⟩)
    (case k5 => first | k_is | decide +kernel | rfl | exact ⟨[_], rfl⟩); (case a6 => first | k_is | decide +kernel | rfl | exact ⟨[_], rfl⟩); (case l6 => first | k_is | decide +kernel | rfl | exact ⟨[_], rfl⟩); (case c6 => first | k_is | decide +kernel | rfl | exact ⟨[_], rfl⟩); (case k6 => first | k_is | decide +kernel | rfl | exact ⟨[_], rfl⟩); (case a7 => first | k_is | decide +kernel | rfl | exact ⟨[_], rfl⟩); (case l7 => first | k_is | decide +kernel | rfl | exact ⟨[_], rfl⟩); (case c7 => first | k_is | decide +kernel | rfl | exact ⟨[_], rfl⟩)
    (case k7 => first | k_is | decide +kernel | rfl | exact ⟨[_], rfl⟩); (case a8 => first | k_is | decide +kernel | rfl | exact ⟨[_], rfl⟩); (case l8 => first | k_is | decide +kernel | rfl | exact ⟨[_], rfl⟩); (case c8 => first | k_is | decide +kernel | rfl | exact ⟨[_], rfl⟩); (case k8 => first | k_is | decide +kernel | rfl | exact ⟨[_], rfl⟩); (case a9 => first | k_is | decide +kernel | rfl | exact ⟨[_], rfl⟩); (case l9 => first | k_is | decide +kernel | rfl | exact ⟨[_], rfl⟩); (case c9 => first | k_is | decide +kernel | rfl | exact ⟨[_], rfl⟩)
    (case k9 => first | k_is | decide +kernel | rfl | exact ⟨[_], rfl⟩); (case a10 => first | k_is | decide +kernel | rfl | exact ⟨[_], rfl⟩); (case l10 => first | k_is | decide +kernel | rfl | exact ⟨[_], rfl⟩); (case c10 => first | k_is | decide +kernel | rfl | exact ⟨[_], rfl⟩); (case k10 => first | k_is | decide +kernel | rfl | exact ⟨[_], rfl⟩); (case a11 => first | k_is | decide +kernel | rfl | exact ⟨[_], rfl⟩); (case l11 => first | k_is | decide +kernel | rfl | exact ⟨[_], rfl⟩); (case c11 => first | k_is | decide +kernel | rfl | exact ⟨[_], rfl⟩)
    (case k11 => first | k_is | decide +kernel | rfl | exact ⟨[_], rfl⟩); (case a12 => first | k_is | decide +kernel | rfl | exact ⟨[_], rfl⟩); (case l12 => first | k_is | decide +kernel | rfl | exact ⟨[_], rfl⟩); (case T12 => first | k_is | decide +kernel | rfl | exact ⟨[_], rfl⟩); (case c12 => first | k_is | decide +kernel | rfl | exact ⟨[_], rfl⟩); (case k12 => first | k_is | decide +kernel | rfl | exact ⟨[_], rfl⟩); (case a13 => first | k_is | decide +kernel | rfl | exact ⟨[_], rfl⟩); (case l13 => first | k_is | decide +kernel | rfl | exact ⟨[_], rfl⟩)
    (case c13 => first | k_is | decide +kernel | rfl | exact ⟨[_], rfl⟩); (case k13 => first | k_is | decide +kernel | rfl | exact ⟨[_], rfl⟩); (case a14 => first | k_is | decide +kernel | rfl | exact ⟨[_], rfl⟩); (case l14 => first | k_is | decide +kernel | rfl | exact ⟨[_], rfl⟩); (case c14 => first | k_is | decide +kernel | rfl | exact ⟨[_], rfl⟩); (case k14 => first | k_is | decide +kernel | rfl | exact ⟨[_], rfl⟩); (case a15 => first | k_is | decide +kernel | rfl | exact ⟨[_], rfl⟩); (case l15 => first | k_is | decide +kernel | rfl | exact ⟨[_], rfl⟩)
    (case c15 => first | k_is | decide +kernel | rfl | exact ⟨[_], rfl⟩); (case k15 => first | k_is | decide +kernel | rfl | exact ⟨[_], rfl⟩); (case a16 => first | k_is | decide +kernel | rfl | exact ⟨[_], rfl⟩); (case l16 => first | k_is | decide +kernel | rfl | exact ⟨[_], rfl⟩); (case c16 => first | k_is | decide +kernel | rfl | exact ⟨[_], rfl⟩); (case k16 => first | k_is | decide +kernel | rfl | exact ⟨[_], rfl⟩); (case z0 => first | k_is | decide +kernel | rfl | exact ⟨[_], rfl⟩); (case z1 => first | k_is | decide +kernel | rfl | exact ⟨[_], rfl⟩)
    (case z2 => first | k_is | decide +kernel | rfl | exact ⟨[_], rfl⟩); (case z3 => first | k_is | decide +kernel | rfl | exact ⟨[_], rfl⟩); (case z4 => first | k_is | decide +kernel | rfl | exact ⟨[_], rfl⟩); (case z5 => first | k_is | decide +kernel | rfl | exact ⟨[_], rfl⟩); (case z6 => first | k_is | decide +kernel | rfl | exact ⟨[_], rfl⟩); (case z7 => first | k_is | decide +kernel | rfl | exact ⟨[_], rfl⟩); (case z8 => first | k_is | decide +kernel | rfl | exact ⟨[_], rfl⟩); (case z9 => first | k_is | decide +kernel | rfl | exact ⟨[_], rfl⟩)
    (case z10 => first | k_is | decide +kernel | rfl | exact ⟨[_], rfl⟩); (case z11 => first | k_is | decide +kernel | rfl | exact ⟨[_], rfl⟩); (case y0 => first | k_is | decide +kernel | rfl | exact ⟨[_], rfl⟩); (case y1 => first | k_is | decide +kernel | rfl | exact ⟨[_], rfl⟩); (case yl1 => first | k_is | decide +kernel | rfl | exact ⟨[_], rfl⟩); (case y2 => first | k_is | decide +kernel | rfl | exact ⟨[_], rfl⟩); (case y3 => first | k_is | decide +kernel | rfl | exact ⟨[_], rfl⟩); (case y4 => first | k_is | decide +kernel | rfl | exact ⟨[_], rfl⟩)
    (case a => first | k_is | decide +kernel | rfl | exact ⟨[_], rfl⟩); (case l => first | k_is | decide +kernel | rfl | exact ⟨[_], rfl⟩); (case c => first | k_is | decide +kernel | rfl | exact ⟨[_], rfl⟩); (case k => first | k_is | decide +kernel | rfl | exact ⟨[_], rfl⟩))


