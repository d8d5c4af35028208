import PyProof.Rows.All
import Wide.All
import OpenK.AllK
import Wide.FinOn
import HandS.ForMost
import HandS.IsInst
import HandS.Wide
import HandS.Flow
import HandS.RaiseMore
import HandS.EndBits
import PyProof.ReprRoads
import HandS.TupAny
import HandS.Exc
import HandS.WordsExc
import KE.IntTextLaws
import PyProof.ReprLen
import PyProof.Rows.ReprOcc
import HandS.TryOnly
import PyProof.Rows.Digits
import PyProof.StrReplace2
import HandS.Style
import KE.KRevSl
import HandS.Text
import PyProof.Rows.StrSplitCount
import PyProof.Rows.StrLawsPart
import PyProof.Rows.StrFirst
import PyProof.StrLawsChain
import HandS.ExcInit
import HandS.ExcOwn
import HandS.ExcField
import HandS.ExcIs
import HandS.ClsMeth
import HandS.Small
import KE.KExcIs
import HandS.DeepEq
import HandS.Defaults
import KE.GoesEnum
import HandS.Conv
import PyProof.StrOps2
import PySem.Challenge.RW_termstream_k74_plans_by_form
set_option Elab.async false
set_option linter.all false
set_option maxRecDepth 100000
set_option maxHeartbeats 0
namespace Hd
open PySem PySem.W PyProof.Rows
open_top hd_k74 for PySem.Challenge.rw_termstream_k74_plans_by_form
end Hd
set_option maxHeartbeats 4000000

set_option maxRecDepth 100000
set_option maxHeartbeats 2000000
/-! Data over the heap (Rp), frames, slots, and the wp over data -/
namespace Tq
open PySem PySem.Spec PyProof.Rows L2
abbrev D := PyData
abbrev Fg := PySem.W.Frag
abbrev St := L2.St
def kD : Key → D
  | .inl i => .int i
  | .inr x => .str x
/-- a list of the written part -/
def KL (K : Fg) (a : Addr) (xs : List V) : Prop := ∃ (o : Obj) (its : Array Value) (n : Nat), K.lookup a = some o ∧ o.cls = .type "list" ∧ o.dict = none ∧ o.data = .seq its n ∧ its.size ≤ sizeLine ∧ Vals xs its.toList
def KT (K : Fg) (a : Addr) (xs : List V) : Prop := ∃ (o : Obj) (its : Array Value) (n : Nat), K.lookup a = some o ∧ o.cls = .type "tuple" ∧ o.data = .seq its n ∧ its.size ≤ sizeLine ∧ Vals xs its.toList
/-- a list, a tuple, apart from what may change -/
def LsA (K : Fg) (M : Addr → Prop) (H : Hp) (a : Addr) (xs : List V) : Prop := (¬ M a ∧ Rd H a (.lst xs)) ∨ KL K a xs
def TsA (K : Fg) (M : Addr → Prop) (H : Hp) (a : Addr) (xs : List V) : Prop := (¬ M a ∧ Rd H a (.tup xs)) ∨ KT K a xs
theorem LsA.sq {K : Fg} {M : Addr → Prop} {H : Hp} {a : Addr} {xs : List V} (h : LsA K M H a xs) : SqL K H a xs := h.elim (fun z => .inl z.2) .inr
theorem TsA.sq {K : Fg} {M : Addr → Prop} {H : Hp} {a : Addr} {xs : List V} (h : TsA K M H a xs) : SqT K H a xs := h.elim (fun z => .inl z.2) .inr
mutual
inductive Rp (K : Fg) (M : Addr → Prop) (H : Hp) : V → D → Prop
  | non : Rp K M H .non .none
  | bl (b : Bool) : Rp K M H (.bl b) (.bool b)
  | int (i : Int) : Rp K M H (.int i) (.int i)
  | str (x : Str) : Rp K M H (.str x) (.str x)
  | lst {a : Addr} {xs : List V} {ds : List D} : LsA K M H a xs → RpA K M H xs ds → Rp K M H (.ref a) (.list ds)
  | tup {a : Addr} {xs : List V} {ds : List D} : TsA K M H a xs → RpA K M H xs ds → Rp K M H (.ref a) (.tuple ds)
  | dic {a : Addr} {kvs : List (Key × V)} {ds : List (D × D)} : ¬ M a → H a = some (.dK kvs) → RpK K M H kvs ds → Rp K M H (.ref a) (.dict ds)
inductive RpA (K : Fg) (M : Addr → Prop) (H : Hp) : List V → List D → Prop
  | nil : RpA K M H [] []
  | cons {v : V} {d : D} {vs : List V} {ds : List D} : Rp K M H v d → RpA K M H vs ds → RpA K M H (v :: vs) (d :: ds)
inductive RpK (K : Fg) (M : Addr → Prop) (H : Hp) : List (Key × V) → List (D × D) → Prop
  | nil : RpK K M H [] []
  | cons {k : Key} {v : V} {d : D} {vs : List (Key × V)} {ds : List (D × D)} : Rp K M H v d → RpK K M H vs ds → RpK K M H ((k, v) :: vs) ((kD k, d) :: ds)
end
/-- what stood apart stands, and apart -/
def GoH (M : Addr → Prop) (H : Hp) (M' : Addr → Prop) (H' : Hp) : Prop := ∀ a o, ¬ M a → H a = some o → ¬ M' a ∧ H' a = some o
theorem GoH.refl {M : Addr → Prop} {H : Hp} : GoH M H M H := fun _ _ h e => ⟨h, e⟩
theorem GoH.trans {M M1 M2 : Addr → Prop} {H H1 H2 : Hp} (g : GoH M H M1 H1) (g' : GoH M1 H1 M2 H2) : GoH M H M2 H2 := fun a o h e => g' a o (g a o h e).1 (g a o h e).2
section
variable {K : Fg} {M M' : Addr → Prop} {H H' : Hp}
theorem Rd.go {a : Addr} {u : HO} (g : GoH M H M' H') (n : ¬ M a) (r : Rd H a u) : ¬ M' a ∧ Rd H' a u := by
  rcases r with r | ⟨o, r⟩
  · exact ⟨(g a _ n r).1, .inl (g a _ n r).2⟩
  · exact ⟨(g a _ n r).1, .inr ⟨o, (g a _ n r).2⟩⟩
theorem LsA.go {a : Addr} {xs : List V} (g : GoH M H M' H') (h : LsA K M H a xs) : LsA K M' H' a xs := h.elim (fun z => .inl (Rd.go g z.1 z.2)) .inr
theorem TsA.go {a : Addr} {xs : List V} (g : GoH M H M' H') (h : TsA K M H a xs) : TsA K M' H' a xs := h.elim (fun z => .inl (Rd.go g z.1 z.2)) .inr
theorem Rp.go (g : GoH M H M' H') {v : V} {d : D} (r : Rp K M H v d) : Rp K M' H' v d :=
  Rp.rec (motive_1 := fun v d _ => Rp K M' H' v d) (motive_2 := fun vs ds _ => RpA K M' H' vs ds) (motive_3 := fun vs ds _ => RpK K M' H' vs ds)
    .non .bl .int .str (fun h _ i => .lst (h.go g) i) (fun h _ i => .tup (h.go g) i) (fun n h _ i => .dic (g _ _ n h).1 (g _ _ n h).2 i)
    .nil (fun _ _ a b => .cons a b) .nil (fun _ _ a b => .cons a b) r
theorem RpA.go (g : GoH M H M' H') : ∀ {vs : List V} {ds : List D}, RpA K M H vs ds → RpA K M' H' vs ds
  | _, _, .nil => .nil
  | _, _, .cons a b => .cons (a.go g) (b.go g)
theorem RpK.go (g : GoH M H M' H') : ∀ {vs : List (Key × V)} {ds : List (D × D)}, RpK K M H vs ds → RpK K M' H' vs ds
  | _, _, .nil => .nil
  | _, _, .cons a b => .cons (a.go g) (b.go g)
theorem RpA.len : ∀ {vs : List V} {ds : List D}, RpA K M H vs ds → vs.length = ds.length
  | _, _, .nil => rfl
  | _, _, .cons _ b => congrArg (· + 1) b.len
theorem RpA.get : ∀ {vs : List V} {ds : List D} {i : Nat} {d : D}, RpA K M H vs ds → ds[i]? = some d → ∃ v, vs[i]? = some v ∧ Rp K M H v d
  | _, _, _, _, .nil, e => by simp at e
  | _, _, 0, _, .cons a _, e => by simp at e; subst e; exact ⟨_, rfl, a⟩
  | _, _, i + 1, d, .cons _ b, e => by
    obtain ⟨u, h1, h2⟩ := b.get (i := i) (d := d) (by simpa using e)
    exact ⟨u, by simpa using h1, h2⟩
theorem RpA.getV : ∀ {vs : List V} {ds : List D} {i : Nat} {v : V}, RpA K M H vs ds → vs[i]? = some v → ∃ d, ds[i]? = some d ∧ Rp K M H v d
  | _, _, _, _, .nil, e => by simp at e
  | _, _, 0, _, .cons a _, e => by simp at e; subst e; exact ⟨_, rfl, a⟩
  | _, _, i + 1, d, .cons _ b, e => by
    obtain ⟨u, h1, h2⟩ := b.getV (i := i) (v := d) (by simpa using e)
    exact ⟨u, by simpa using h1, h2⟩
theorem RpA.app : ∀ {vs us : List V} {ds es : List D}, RpA K M H vs ds → RpA K M H us es → RpA K M H (vs ++ us) (ds ++ es)
  | _, _, _, _, .nil, h => h
  | _, _, _, _, .cons a b, h => .cons a (b.app h)
theorem RpA.take : ∀ (n : Nat) {vs : List V} {ds : List D}, RpA K M H vs ds → RpA K M H (vs.take n) (ds.take n)
  | 0, _, _, _ => .nil
  | _ + 1, _, _, .nil => .nil
  | n + 1, _, _, .cons a b => .cons a (b.take n)
theorem RpA.drop : ∀ (n : Nat) {vs : List V} {ds : List D}, RpA K M H vs ds → RpA K M H (vs.drop n) (ds.drop n)
  | 0, _, _, h => h
  | _ + 1, _, _, .nil => .nil
  | n + 1, _, _, .cons _ b => b.drop n
theorem RpA.rev : ∀ {vs : List V} {ds : List D}, RpA K M H vs ds → RpA K M H vs.reverse ds.reverse
  | _, _, .nil => .nil
  | _, _, .cons a b => by
    rw [List.reverse_cons, List.reverse_cons]
    exact b.rev.app (.cons a .nil)
theorem rp_int {v : V} {i : Int} (r : Rp K M H v (.int i)) : v = .int i := by cases r; rfl
theorem rp_bl {v : V} {i : Bool} (r : Rp K M H v (.bool i)) : v = .bl i := by cases r; rfl
theorem rp_str {v : V} {i : Str} (r : Rp K M H v (.str i)) : v = .str i := by cases r; rfl
theorem rp_non {v : V} (r : Rp K M H v .none) : v = .non := by cases r; rfl
theorem rp_lst {v : V} {ds : List D} (r : Rp K M H v (.list ds)) : ∃ a xs, v = .ref a ∧ LsA K M H a xs ∧ RpA K M H xs ds := by
  cases r with | lst h1 h2 => exact ⟨_, _, rfl, h1, h2⟩
theorem rp_tup {v : V} {ds : List D} (r : Rp K M H v (.tuple ds)) : ∃ a xs, v = .ref a ∧ TsA K M H a xs ∧ RpA K M H xs ds := by
  cases r with | tup h1 h2 => exact ⟨_, _, rfl, h1, h2⟩
theorem rpA_ints : ∀ {vs : List V} {ns : List Int}, RpA K M H vs (ns.map PyData.int) → vs = ns.map V.int
  | [], [], _ => rfl
  | [], _ :: _, h => by cases h
  | _ :: _, [], h => by cases h
  | v :: vs, n :: ns, h => by
    cases h with | cons a b =>
    rw [rp_int a, rpA_ints b] <;> rfl
theorem rpA_strs : ∀ {vs : List V} {ns : List Str}, RpA K M H vs (ns.map PyData.str) → vs = ns.map V.str
  | [], [], _ => rfl
  | [], _ :: _, h => by cases h
  | _ :: _, [], h => by cases h
  | v :: vs, n :: ns, h => by
    cases h with | cons a b =>
    rw [rp_str a, rpA_strs b] <;> rfl
theorem rpA_bls : ∀ {vs : List V} {ns : List Bool}, RpA K M H vs (ns.map PyData.bool) → vs = ns.map V.bl
  | [], [], _ => rfl
  | [], _ :: _, h => by cases h
  | _ :: _, [], h => by cases h
  | v :: vs, n :: ns, h => by
    cases h with | cons a b =>
    rw [rp_bl a, rpA_bls b] <;> rfl
theorem rpA_int : ∀ (ns : List Int), RpA K M H (ns.map V.int) (ns.map PyData.int)
  | [] => .nil
  | n :: ns => .cons (.int n) (rpA_int ns)
end
/-- scalars -/
inductive Sc : V → D → Prop
  | non : Sc .non .none
  | bl (b : Bool) : Sc (.bl b) (.bool b)
  | int (i : Int) : Sc (.int i) (.int i)
  | str (x : Str) : Sc (.str x) (.str x)
theorem Sc.rp {K : Fg} {M : Addr → Prop} {H : Hp} {v : V} {d : D} (s : Sc v d) : Rp K M H v d := by
  cases s
  · exact .non
  · exact .bl _
  · exact .int _
  · exact .str _

/-! ### frames and slots -/
/-- a purse with room for n more draws -/
def PuOk (H : Hp) (a : Addr) (n : Nat) : Prop := ∃ x b c : Int, H a = some (.lst [.int x, .int b, .int c]) ∧ 0 ≤ x ∧ 0 ≤ b ∧ b < 2147483629 ∧ 0 ≤ c ∧ c + n ≤ 8000000
structure Ct where
  K : Fg
  pp : Bool
structure Fr where
  H0 : Hp
  S0 : Addr → Prop
  M0 : Addr → Prop
  p : Addr
  st : Bool
inductive Y where
  | d (d : D)
  | pu (n : Nat)
  | own (ds : List D)
def Y.o : Y → Bool
  | .d _ => false
  | _ => true
abbrev S := List (Option Y)
inductive Z where
  | d (d : D)
  | ptr (i : Nat)
def isO (y : S) (i : Nat) : Bool := match y[i]? with
  | some (some z) => z.o
  | _ => false
def Own (σ : St) (y : S) (a : Addr) : Prop := ∃ i, isO y i = true ∧ σ[i]? = some (some (.ref a))
def Mv (F : Fr) (σ : St) (y : S) (a : Addr) : Prop := F.M0 a ∨ Own σ y a
def SlotOk (K : Fg) (M : Addr → Prop) (H : Hp) (v : Option (Option V)) : Y → Prop
  | .d d => ∃ x, v = some (some x) ∧ Rp K M H x d
  | .pu n => ∃ a, v = some (some (.ref a)) ∧ PuOk H a n
  | .own ds => ∃ a xs, v = some (some (.ref a)) ∧ H a = some (.lst xs) ∧ RpA K M H xs ds
structure Wd (C : Ct) (F : Fr) (σ : St) (y : S) (H : Hp) : Prop where
  keep : ∀ a o, ¬ F.S0 a → F.H0 a = some o → H a = some o
  live0 : ∀ a, F.M0 a → F.H0 a ≠ none
  live : ∀ a, F.M0 a → H a ≠ none
  len : σ.length = y.length
  slot : ∀ (i : Nat) (z : Y), y[i]? = some (some z) → SlotOk C.K (Mv F σ y) H σ[i]? z
  dist : ∀ (i j : Nat) (a : Addr), isO y i = true → isO y j = true → σ[i]? = some (some (.ref a)) → σ[j]? = some (some (.ref a)) → i = j
  frsh : ∀ a, Own σ y a → F.S0 a ∨ F.H0 a = none
  pin : C.pp = true → σ[0]? = some (some (.ref F.p))
  sm : ∀ a, F.S0 a → F.M0 a
  nb : F.st = true → ∀ (i : Nat) (a : Addr), isO y i = true → σ[i]? = some (some (.ref a)) → F.S0 a → i = 0 ∧ C.pp = true
abbrev Go (F : Fr) (σ : St) (y : S) (H : Hp) (σ' : St) (y' : S) (H' : Hp) : Prop := GoH (Mv F σ y) H (Mv F σ' y') H'
def Sh (y y' : S) : Prop := ∀ i, isO y' i = isO y i
theorem Sh.refl (y : S) : Sh y y := fun _ => rfl
theorem Sh.trans {y y1 y2 : S} (a : Sh y y1) (b : Sh y1 y2) : Sh y y2 := fun i => (b i).trans (a i)
def Rz (C : Ct) (F : Fr) (σ : St) (y : S) (H : Hp) (v : V) : Z → Prop
  | .d d => Rp C.K (Mv F σ y) H v d
  | .ptr i => isO y i = true ∧ σ[i]? = some (some v)
inductive RzA (C : Ct) (F : Fr) (σ : St) (y : S) (H : Hp) : List V → List Z → Prop
  | nil : RzA C F σ y H [] []
  | cons {v : V} {z : Z} {vs : List V} {zs : List Z} : Rz C F σ y H v z → RzA C F σ y H vs zs → RzA C F σ y H (v :: vs) (z :: zs)
section
variable {C : Ct} {F : Fr} {σ : St} {y y' : S} {H H' : Hp}
theorem Rz.go {v : V} {z : Z} (g : Go F σ y H σ y' H') (s : Sh y y') (r : Rz C F σ y H v z) : Rz C F σ y' H' v z := by
  cases z with
  | d d => exact Rp.go g r
  | ptr i => exact ⟨(s i).trans r.1, r.2⟩
theorem RzA.go (g : Go F σ y H σ y' H') (s : Sh y y') : ∀ {vs : List V} {zs : List Z}, RzA C F σ y H vs zs → RzA C F σ y' H' vs zs
  | _, _, .nil => .nil
  | _, _, .cons a b => .cons (Rz.go g s a) (b.go g s)
theorem RzA.ds : ∀ {vs : List V} {ds : List D}, RzA C F σ y H vs (ds.map Z.d) → RpA C.K (Mv F σ y) H vs ds
  | [], [], _ => .nil
  | [], _ :: _, h => by cases h
  | _ :: _, [], h => by cases h
  | v :: vs, n :: ns, h => by
    cases h with | cons a b => exact .cons a b.ds
/-- a fresh address is apart -/
theorem Wd.new (w : Wd C F σ y H) {p : Addr} (h : H p = none) : ¬ Mv F σ y p := by
  rintro (z | ⟨i, hi, e⟩)
  · exact w.live p z h
  · cases q : y[i]? with
    | none => unfold isO at hi; rw [q] at hi; cases hi
    | some o =>
      cases o with
      | none => unfold isO at hi; rw [q] at hi; cases hi
      | some z =>
        have s := w.slot i z q
        cases z with
        | d d => unfold isO at hi; rw [q] at hi; cases hi
        | pu n =>
          obtain ⟨a, ea, x, b, c, ha, _⟩ := s
          rw [e] at ea; cases ea
          rw [h] at ha; cases ha
        | own ds =>
          obtain ⟨a, xs, ea, ha, _⟩ := s
          rw [e] at ea; cases ea
          rw [h] at ha; cases ha
/-- the heap grows, apart from what may change; what may change stays as it is -/
theorem Wd.grow (w : Wd C F σ y H) (g : ∀ a o, H a = some o → H' a = some o) : Wd C F σ y H' := by
  refine ⟨fun a o n e => g _ _ (w.keep a o n e), w.live0, fun a m e => ?_, w.len, fun i z e => ?_, w.dist, w.frsh, w.pin, w.sm, w.nb⟩
  · cases q : H a with
    | none => exact w.live a m q
    | some o => rw [g a o q] at e; cases e
  · have s := w.slot i z e
    have gg : GoH (Mv F σ y) H (Mv F σ y) H' := fun a o n e => ⟨n, g a o e⟩
    cases z with
    | d d => obtain ⟨x, h1, h2⟩ := s; exact ⟨x, h1, h2.go gg⟩
    | pu n => obtain ⟨a, h1, x, b, c, h2, h3⟩ := s; exact ⟨a, h1, x, b, c, g _ _ h2, h3⟩
    | own ds => obtain ⟨a, xs, h1, h2, h3⟩ := s; exact ⟨a, xs, h1, g _ _ h2, h3.go gg⟩
theorem go_grow (g : ∀ a o, H a = some o → H' a = some o) : Go F σ y H σ y H' := fun a o n e => ⟨n, g a o e⟩
theorem grow_upd {p : Addr} {o : HO} (h : H p = none) : ∀ a u, H a = some u → upd H p o a = some u := fun a u e => by
  rw [upd_ne (ne_of_none e h)]; exact e
end

/-! ### the wp over data -/
section
variable (C : Ct)
def wE (te : TE) (y : S) (Q : Z → S → Prop) : Prop := ∀ (F : Fr) σ H (K : VK), Wd C F σ y H → (∀ v H' z y', Wd C F σ y' H' → Go F σ y H σ y' H' → Sh y y' → Rz C F σ y' H' v z → Q z y' → K v H') → te σ H K
def wT (tt : TT) (y : S) (Q : Bool → S → Prop) : Prop := ∀ (F : Fr) σ H (K : Bool → Hp → Prop), Wd C F σ y H → (∀ b H' y', Wd C F σ y' H' → Go F σ y H σ y' H' → Sh y y' → Q b y' → K b H') → tt σ H K
def wO (to : TO) (y : S) (Q : Option Int → S → Prop) : Prop := ∀ (F : Fr) σ H (K : Option Int → Hp → Prop), Wd C F σ y H → (∀ b H' y', Wd C F σ y' H' → Go F σ y H σ y' H' → Sh y y' → Q b y' → K b H') → to σ H K
structure En where
  nx : S → Prop
  rt : Z → S → Prop
  bk : S → Prop := fun _ => False
  ct : S → Prop := fun _ => False
structure EnOk (F : Fr) (σ : St) (y : S) (H : Hp) (e : En) (E : Ends) : Prop where
  nx : ∀ σ' H' y', Wd C F σ' y' H' → Go F σ y H σ' y' H' → e.nx y' → E.nx σ' H'
  rt : ∀ σ' v H' z y', Wd C F σ' y' H' → Go F σ y H σ' y' H' → Rz C F σ' y' H' v z → e.rt z y' → E.rt v H'
  bk : ∀ σ' H' y', Wd C F σ' y' H' → Go F σ y H σ' y' H' → e.bk y' → E.bk σ' H'
  ct : ∀ σ' H' y', Wd C F σ' y' H' → Go F σ y H σ' y' H' → e.ct y' → E.ct σ' H'
def wS (ts : TS) (y : S) (e : En) : Prop := ∀ (F : Fr) σ H (E : Ends), F.st = true → Wd C F σ y H → EnOk C F σ y H e E → ts E σ H
end
end Tq

set_option maxRecDepth 100000
set_option maxHeartbeats 2000000
namespace Tq
open PySem PySem.Spec PyProof.Rows L2
/-! ### storing in a slot -/
section
variable {C : Ct} {F : Fr} {σ : St} {y y' : S} {H H' : Hp}
theorem isO_set {i j : Nat} {u : Option Y} (h : isO (y.set i u) j = true) : (j = i ∧ i < y.length ∧ ∃ z, u = some z ∧ z.o = true) ∨ (j ≠ i ∧ isO y j = true) ∨ (j = i ∧ y.length ≤ i) := by
  by_cases e : j = i
  · by_cases hl : i < y.length
    · refine .inl ⟨e, hl, ?_⟩
      subst e
      unfold isO at h
      rw [List.getElem?_set_self hl] at h
      cases u with
      | none => cases h
      | some z => exact ⟨z, rfl, h⟩
    · exact .inr (.inr ⟨e, by omega⟩)
  · refine .inr (.inl ⟨e, ?_⟩)
    unfold isO at h ⊢
    rw [List.getElem?_set_ne (Ne.symm e)] at h
    exact h
theorem isO_lt {i : Nat} (h : isO y i = true) : i < y.length := by
  unfold isO at h
  cases q : y[i]? with
  | none => rw [q] at h; cases h
  | some o => exact (List.getElem?_eq_some_iff.mp q).1
theorem isO_set_d {i j : Nat} {d : D} (h : isO (y.set i (some (.d d))) j = true) : j ≠ i ∧ isO y j = true := by
  rcases isO_set h with ⟨_, _, z, e, o⟩ | h | ⟨e, l⟩
  · cases e; cases o
  · exact h
  · have := isO_lt h; rw [List.length_set] at this; omega
theorem Mv_set_d {i : Nat} {v : Option V} {d : D} {a : Addr} (h : Mv F (σ.set i v) (y.set i (some (.d d))) a) : Mv F σ y a := by
  rcases h with h | ⟨j, hj, e⟩
  · exact .inl h
  · obtain ⟨n, o⟩ := isO_set_d hj
    rw [List.getElem?_set_ne (Ne.symm n)] at e
    exact .inr ⟨j, o, e⟩
theorem go_set_d {i : Nat} {v : Option V} {d : D} : Go F σ y H (σ.set i v) (y.set i (some (.d d))) H := fun a o n e => ⟨fun z => n (Mv_set_d z), e⟩
theorem Wd.set_d (w : Wd C F σ y H) {i : Nat} {v : V} {d : D} (hp : i ≠ 0 ∨ C.pp = false) (r : Rp C.K (Mv F σ y) H v d) : Wd C F (σ.set i (some v)) (y.set i (some (.d d))) H := by
  have g : Go F σ y H (σ.set i (some v)) (y.set i (some (.d d))) H := go_set_d
  refine ⟨w.keep, w.live0, w.live, by rw [List.length_set, List.length_set]; exact w.len, fun j z e => ?_, fun j k a h1 h2 e1 e2 => ?_, fun a h => ?_, fun e => ?_, w.sm, fun st j a h e s => ?_⟩
  · by_cases n : j = i
    · subst n
      have hl : j < y.length := by
        have := (List.getElem?_eq_some_iff.mp e).1
        rw [List.length_set] at this; exact this
      rw [List.getElem?_set_self hl] at e
      cases e
      refine ⟨v, ?_, r.go g⟩
      rw [List.getElem?_set_self (by rw [w.len]; exact hl)]
    · rw [List.getElem?_set_ne (Ne.symm n)] at e ⊢
      have s := w.slot j z e
      cases z with
      | d d => obtain ⟨x, h1, h2⟩ := s; exact ⟨x, h1, h2.go g⟩
      | pu n => exact s
      | own ds => obtain ⟨a, xs, h1, h2, h3⟩ := s; exact ⟨a, xs, h1, h2, h3.go g⟩
  · obtain ⟨n1, o1⟩ := isO_set_d h1
    obtain ⟨n2, o2⟩ := isO_set_d h2
    rw [List.getElem?_set_ne (Ne.symm n1)] at e1
    rw [List.getElem?_set_ne (Ne.symm n2)] at e2
    exact w.dist j k a o1 o2 e1 e2
  · obtain ⟨j, hj, e⟩ := h
    obtain ⟨n1, o1⟩ := isO_set_d hj
    rw [List.getElem?_set_ne (Ne.symm n1)] at e
    exact w.frsh a ⟨j, o1, e⟩
  · rcases hp with hp | hp
    · rw [List.getElem?_set_ne hp]; exact w.pin e
    · rw [hp] at e; cases e
  · obtain ⟨n1, o1⟩ := isO_set_d h
    rw [List.getElem?_set_ne (Ne.symm n1)] at e
    exact w.nb st j a o1 e s
end

/-! ### expressions -/
section
variable {C : Ct} {y : S} {ta tb tc te : TE} {Q : Z → S → Prop}
theorem wE_var {i : Nat} {d : D} (h : y[i]? = some (some (.d d))) (q : Q (.d d) y) : wE C (tVar i) y Q := fun F σ H K w k => by
  obtain ⟨x, h1, h2⟩ := w.slot i _ h
  exact ⟨x, h1, k x H (.d d) y w GoH.refl (Sh.refl y) h2 q⟩
theorem wE_ptr {i : Nat} (h : isO y i = true) (q : Q (.ptr i) y) : wE C (tVar i) y Q := fun F σ H K w k => by
  unfold isO at h
  cases e : y[i]? with
  | none => rw [e] at h; cases h
  | some o =>
    cases o with
    | none => rw [e] at h; cases h
    | some z =>
      have hO : isO y i = true := by unfold isO; rw [e]; rw [e] at h; exact h
      have s := w.slot i z e
      cases z with
      | d d => rw [e] at h; cases h
      | pu n => obtain ⟨a, h1, _⟩ := s; exact ⟨_, h1, k _ H (.ptr i) y w GoH.refl (Sh.refl y) ⟨hO, h1⟩ q⟩
      | own ds => obtain ⟨a, xs, h1, _⟩ := s; exact ⟨_, h1, k _ H (.ptr i) y w GoH.refl (Sh.refl y) ⟨hO, h1⟩ q⟩
theorem wE_sc {v : V} {d : D} (s : Sc v d) (q : Q (.d d) y) : wE C (tC v) y Q := fun F σ H K w k => k v H (.d d) y w GoH.refl (Sh.refl y) s.rp q
theorem wE_int {i : Int} (q : Q (.d (.int i)) y) : wE C (tC (.int i)) y Q := wE_sc (.int i) q
theorem wE_str {i : Str} (q : Q (.d (.str i)) y) : wE C (tC (.str i)) y Q := wE_sc (.str i) q
theorem wE_bl {i : Bool} (q : Q (.d (.bool i)) y) : wE C (tC (.bl i)) y Q := wE_sc (.bl i) q
theorem wE_non (q : Q (.d .none) y) : wE C (tC .non) y Q := wE_sc .non q
theorem wE_mono {R : Z → S → Prop} (h : wE C te y Q) (q : ∀ z y', Q z y' → R z y') : wE C te y R := fun F σ H K w k => h F σ H K w fun v H' z y' a b c d e => k v H' z y' a b c d (q z y' e)
/-- a fact over the data, a new heap that only grows -/
def OpD (K : Fg) (r : R2) (res : D → D → D → Prop) : Prop := ∀ (M : Addr → Prop) (H : Hp) (x y : V) (d e g : D) (Q : VK), (∀ a, H a = none → ¬ M a) → Rp K M H x d → Rp K M H y e → res d e g →
  (∀ v H', (∀ a o, H a = some o → H' a = some o) → Rp K M H' v g → Q v H') → r x y H Q
theorem wE_op {r : R2} {res : D → D → D → Prop} (h : OpD C.K r res) (w : wE C ta y fun z y1 => wE C tb y1 fun z' y2 => ∃ d e g, z = .d d ∧ z' = .d e ∧ res d e g ∧ Q (.d g) y2) : wE C (tOp r ta tb) y Q := by
  intro F σ H K wd k
  refine w F σ H _ wd fun x H1 z y1 w1 g1 s1 r1 q1 => ?_
  refine q1 F σ H1 _ w1 fun x2 H2 z' y2 w2 g2 s2 r2 q2 => ?_
  obtain ⟨d, e, g, rfl, rfl, hres, hq⟩ := q2
  refine h (Mv F σ y2) H2 x x2 d e g K (fun a => w2.new) (Rp.go g2 r1) r2 hres fun v H3 gr rv => ?_
  exact k v H3 (.d g) y2 (w2.grow gr) ((g1.trans g2).trans (go_grow gr)) (s1.trans s2) rv hq
theorem opD_I {C : Int → Int → Prop} {g : Int → Int → V} {gd : Int → Int → D} (hg : ∀ i j, Sc (g i j) (gd i j)) {K : Fg} : OpD K (rI C g) (fun d e r => ∃ i j, d = .int i ∧ e = .int j ∧ C i j ∧ r = gd i j) := by
  rintro M H x y d e r Q _ rx ry ⟨i, j, rfl, rfl, c, rfl⟩ k
  exact ⟨i, j, rp_int rx, rp_int ry, c, k _ H (fun _ _ e => e) (hg i j).rp⟩
theorem opD_I0 {g : Int → Int → V} {gd : Int → Int → D} (hg : ∀ i j, Sc (g i j) (gd i j)) {K : Fg} : OpD K (rI0 g) (fun d e r => ∃ i j, d = .int i ∧ e = .int j ∧ r = gd i j) := by
  rintro M H x y d e r Q _ rx ry ⟨i, j, rfl, rfl, rfl⟩ k
  exact ⟨i, j, rp_int rx, rp_int ry, k _ H (fun _ _ e => e) (hg i j).rp⟩
theorem wE_I {P : Int → Int → Prop} {g : Int → Int → V} (gd : Int → Int → D) (hg : ∀ i j, Sc (g i j) (gd i j)) (w : wE C ta y fun z y1 => wE C tb y1 fun z' y2 => ∃ i j, z = .d (.int i) ∧ z' = .d (.int j) ∧ P i j ∧ Q (.d (gd i j)) y2) : wE C (tOp (rI P g) ta tb) y Q :=
  wE_op (opD_I hg) (wE_mono w fun z y1 h => wE_mono h fun z' y2 ⟨i, j, e1, e2, c, q⟩ => ⟨_, _, _, e1, e2, ⟨i, j, rfl, rfl, c, rfl⟩, q⟩)
theorem wE_I0 {g : Int → Int → V} (gd : Int → Int → D) (hg : ∀ i j, Sc (g i j) (gd i j)) (w : wE C ta y fun z y1 => wE C tb y1 fun z' y2 => ∃ i j, z = .d (.int i) ∧ z' = .d (.int j) ∧ Q (.d (gd i j)) y2) : wE C (tOp (rI0 g) ta tb) y Q :=
  wE_op (opD_I0 hg) (wE_mono w fun z y1 h => wE_mono h fun z' y2 ⟨i, j, e1, e2, q⟩ => ⟨_, _, _, e1, e2, ⟨i, j, rfl, rfl, rfl⟩, q⟩)
theorem wE_add (w : wE C ta y fun z y1 => wE C tb y1 fun z' y2 => ∃ i j, z = .d (.int i) ∧ z' = .d (.int j) ∧ Q (.d (.int (i + j))) y2) : wE C (tOp (rI0 fun i j => .int (i + j)) ta tb) y Q := wE_I0 _ (fun _ _ => .int _) w
theorem wE_sub (w : wE C ta y fun z y1 => wE C tb y1 fun z' y2 => ∃ i j, z = .d (.int i) ∧ z' = .d (.int j) ∧ Q (.d (.int (i - j))) y2) : wE C (tOp (rI0 fun i j => .int (i - j)) ta tb) y Q := wE_I0 _ (fun _ _ => .int _) w
theorem wE_lt (w : wE C ta y fun z y1 => wE C tb y1 fun z' y2 => ∃ i j, z = .d (.int i) ∧ z' = .d (.int j) ∧ Q (.d (.bool (decide (i < j)))) y2) : wE C (tOp (rI0 fun i j => .bl (decide (i < j))) ta tb) y Q := wE_I0 (fun i j => .bool (decide (i < j))) (fun _ _ => .bl _) w
theorem wE_le (w : wE C ta y fun z y1 => wE C tb y1 fun z' y2 => ∃ i j, z = .d (.int i) ∧ z' = .d (.int j) ∧ Q (.d (.bool (decide (i ≤ j)))) y2) : wE C (tOp (rI0 fun i j => .bl (decide (i ≤ j))) ta tb) y Q := wE_I0 (fun i j => .bool (decide (i ≤ j))) (fun _ _ => .bl _) w
theorem wE_gt (w : wE C ta y fun z y1 => wE C tb y1 fun z' y2 => ∃ i j, z = .d (.int i) ∧ z' = .d (.int j) ∧ Q (.d (.bool (decide (j < i)))) y2) : wE C (tOp (rI0 fun i j => .bl (decide (j < i))) ta tb) y Q := wE_I0 (fun i j => .bool (decide (j < i))) (fun _ _ => .bl _) w
theorem wE_ge (w : wE C ta y fun z y1 => wE C tb y1 fun z' y2 => ∃ i j, z = .d (.int i) ∧ z' = .d (.int j) ∧ Q (.d (.bool (decide (j ≤ i)))) y2) : wE C (tOp (rI0 fun i j => .bl (decide (j ≤ i))) ta tb) y Q := wE_I0 (fun i j => .bool (decide (j ≤ i))) (fun _ _ => .bl _) w
theorem wE_mulW (w : wE C ta y fun z y1 => wE C tb y1 fun z' y2 => ∃ i j, z = .d (.int i) ∧ z' = .d (.int j) ∧ CMulW i j ∧ Q (.d (.int (i * j))) y2) : wE C (tOp (rI CMulW fun i j => .int (i * j)) ta tb) y Q := wE_I _ (fun _ _ => .int _) w
theorem wE_mul (w : wE C ta y fun z y1 => wE C tb y1 fun z' y2 => ∃ i j, z = .d (.int i) ∧ z' = .d (.int j) ∧ CMul i j ∧ Q (.d (.int (i * j))) y2) : wE C (tOp (rI CMul fun i j => .int (i * j)) ta tb) y Q := wE_I _ (fun _ _ => .int _) w
theorem wE_mod (w : wE C ta y fun z y1 => wE C tb y1 fun z' y2 => ∃ i j, z = .d (.int i) ∧ z' = .d (.int j) ∧ 0 < j ∧ Q (.d (.int (i % j))) y2) : wE C (tOp (rI (fun _ j => 0 < j) fun i j => .int (i % j)) ta tb) y Q := wE_I _ (fun _ _ => .int _) w
theorem wE_pow (w : wE C ta y fun z y1 => wE C tb y1 fun z' y2 => ∃ i j, z = .d (.int i) ∧ z' = .d (.int j) ∧ CPow i j ∧ Q (.d (.int (i ^ j.toNat))) y2) : wE C (tOp (rI CPow fun i j => .int (i ^ j.toNat)) ta tb) y Q := wE_I _ (fun _ _ => .int _) w
theorem wE_fdivW (w : wE C ta y fun z y1 => wE C tb y1 fun z' y2 => ∃ i j, z = .d (.int i) ∧ z' = .d (.int j) ∧ CDivW i j ∧ Q (.d (.int (i / j))) y2) : wE C (tOp (rI CDivW fun i j => .int (i / j)) ta tb) y Q := wE_I _ (fun _ _ => .int _) w
theorem wE_neg (w : wE C ta y fun z y1 => ∃ i, z = .d (.int i) ∧ Q (.d (.int (-i))) y1) : wE C (tUn (rU fun i => .int (-i)) ta) y Q := by
  intro F σ H K wd k
  refine w F σ H _ wd fun x H1 z y1 w1 g1 s1 r1 q1 => ?_
  obtain ⟨i, rfl, q⟩ := q1
  exact ⟨i, rp_int r1, k _ H1 (.d (.int (-i))) y1 w1 g1 s1 (.int _) q⟩
theorem wE_S0 {α : Type} {g : Str → Str → V} (gd : Str → Str → D) (hg : ∀ i j, Sc (g i j) (gd i j)) (w : wE C ta y fun z y1 => wE C tb y1 fun z' y2 => ∃ i j, z = .d (.str i) ∧ z' = .d (.str j) ∧ Q (.d (gd i j)) y2) : wE C (tOp (fun x y H Q => ∃ i j, x = .str i ∧ y = .str j ∧ Q (g i j) H) ta tb) y Q := by
  refine wE_op (res := fun d e r => ∃ i j, d = .str i ∧ e = .str j ∧ r = gd i j) ?_ (wE_mono w fun z y1 h => wE_mono h fun z' y2 ⟨i, j, e1, e2, q⟩ => ⟨_, _, _, e1, e2, ⟨i, j, rfl, rfl, rfl⟩, q⟩)
  rintro M H x y d e r Q _ rx ry ⟨i, j, rfl, rfl, rfl⟩ k
  exact ⟨i, j, rp_str rx, rp_str ry, k _ H (fun _ _ e => e) (hg i j).rp⟩
theorem wE_ltS (w : wE C ta y fun z y1 => wE C tb y1 fun z' y2 => ∃ i j, z = .d (.str i) ∧ z' = .d (.str j) ∧ Q (.d (.bool (decide (i.cps.toList < j.cps.toList)))) y2) :
    wE C (tOp (fun x y H Q => ∃ i j, x = .str i ∧ y = .str j ∧ Q (.bl (decide (i.cps.toList < j.cps.toList))) H) ta tb) y Q := wE_S0 (α := Unit) (fun i j => .bool (decide (i.cps.toList < j.cps.toList))) (fun _ _ => .bl _) w
theorem wE_leS (w : wE C ta y fun z y1 => wE C tb y1 fun z' y2 => ∃ i j, z = .d (.str i) ∧ z' = .d (.str j) ∧ Q (.d (.bool (!decide (j.cps.toList < i.cps.toList)))) y2) :
    wE C (tOp (fun x y H Q => ∃ i j, x = .str i ∧ y = .str j ∧ Q (.bl (!decide (j.cps.toList < i.cps.toList))) H) ta tb) y Q := wE_S0 (α := Unit) (fun i j => .bool (!decide (j.cps.toList < i.cps.toList))) (fun _ _ => .bl _) w
theorem wE_addS (w : wE C ta y fun z y1 => wE C tb y1 fun z' y2 => ∃ i j, z = .d (.str i) ∧ z' = .d (.str j) ∧ i.length + j.length ≤ sizeLine ∧ Q (.d (.str (i ++ j))) y2) :
    wE C (tOp (fun x y H Q => ∃ i j, x = .str i ∧ y = .str j ∧ i.length + j.length ≤ sizeLine ∧ Q (.str (i ++ j)) H) ta tb) y Q := by
  refine wE_op (res := fun d e r => ∃ i j, d = .str i ∧ e = .str j ∧ i.length + j.length ≤ sizeLine ∧ r = .str (i ++ j)) ?_ (wE_mono w fun z y1 h => wE_mono h fun z' y2 ⟨i, j, e1, e2, c, q⟩ => ⟨_, _, _, e1, e2, ⟨i, j, rfl, rfl, c, rfl⟩, q⟩)
  rintro M H x y d e r Q _ rx ry ⟨i, j, rfl, rfl, c, rfl⟩ k
  exact ⟨i, j, rp_str rx, rp_str ry, c, k _ H (fun _ _ e => e) (.str _)⟩
theorem wE_inSign (w : wE C ta y fun z y1 => wE C tb y1 fun z' y2 => ∃ (c : Nat) (j : Str), z = .d (.str ⟨#[c]⟩) ∧ z' = .d (.str j) ∧ Q (.d (.bool (decide (c ∈ j.cps.toList)))) y2) :
    wE C (tOp (fun x y H Q => ∃ (c : Nat) (z : Str), x = .str ⟨#[c]⟩ ∧ y = .str z ∧ Q (.bl (decide (c ∈ z.cps.toList))) H) ta tb) y Q := by
  refine wE_op (res := fun d e r => ∃ (c : Nat) (j : Str), d = .str ⟨#[c]⟩ ∧ e = .str j ∧ r = .bool (decide (c ∈ j.cps.toList))) ?_ (wE_mono w fun z y1 h => wE_mono h fun z' y2 ⟨i, j, e1, e2, q⟩ => ⟨_, _, _, e1, e2, ⟨i, j, rfl, rfl, rfl⟩, q⟩)
  rintro M H x y d e r Q _ rx ry ⟨i, j, rfl, rfl, rfl⟩ k
  exact ⟨i, j, rp_str rx, rp_str ry, k _ H (fun _ _ e => e) (.bl _)⟩
/-- data without dicts, for == -/
theorem Rp.dp {K : Fg} {M : Addr → Prop} {H : Hp} {v : V} {d : D} (r : Rp K M H v d) : d.hasDict = false → Dp K H v d :=
  Rp.rec (motive_1 := fun v d _ => d.hasDict = false → Dp K H v d) (motive_2 := fun vs ds _ => PyData.hasDictAll ds = false → DpAll K H vs ds) (motive_3 := fun _ _ _ => True)
    (fun _ => .non) (fun b _ => .bl b) (fun b _ => .int b) (fun b _ => .str b)
    (fun h _ i e => .lst h.sq (i (by simpa only [PyData.hasDict] using e))) (fun h _ i e => .tup h.sq (i (by simpa only [PyData.hasDict] using e)))
    (fun _ _ _ _ e => by simp [PyData.hasDict] at e)
    (fun _ => .nil) (fun _ _ a b e => by
      simp only [PyData.hasDictAll, Bool.or_eq_false_iff] at e
      exact .cons (a e.1) (b e.2)) trivial (fun _ _ _ _ => trivial) r
theorem canLay_noDict {d : D} (h : SeqAt.shaped d = true) : d.hasDict = false := PyData.hasDict_of_canLay d (SeqAt.canLay_of_shaped h)
theorem wE_eqD (w : wE C ta y fun z y1 => wE C tb y1 fun z' y2 => ∃ d e, z = .d d ∧ z' = .d e ∧ SeqAt.shaped d = true ∧ SeqAt.shaped e = true ∧ Q (.d (.bool (PyData.eqv d e))) y2) : wE C (tOp (rEqD C.K) ta tb) y Q := by
  refine wE_op (res := fun d e r => SeqAt.shaped d = true ∧ SeqAt.shaped e = true ∧ r = .bool (PyData.eqv d e)) ?_ (wE_mono w fun z y1 h => wE_mono h fun z' y2 ⟨d, e, e1, e2, s1, s2, q⟩ => ⟨_, _, _, e1, e2, ⟨s1, s2, rfl⟩, q⟩)
  rintro M H x y d e r Q _ rx ry ⟨s1, s2, rfl⟩ k
  exact ⟨d, e, rx.dp (canLay_noDict s1), ry.dp (canLay_noDict s2), s1, s2, k _ H (fun _ _ e => e) (.bl _)⟩
theorem wE_neD (w : wE C ta y fun z y1 => wE C tb y1 fun z' y2 => ∃ d e, z = .d d ∧ z' = .d e ∧ SeqAt.shaped d = true ∧ SeqAt.shaped e = true ∧ Q (.d (.bool (!PyData.eqv d e))) y2) : wE C (tOp (rNeD C.K) ta tb) y Q := by
  refine wE_op (res := fun d e r => SeqAt.shaped d = true ∧ SeqAt.shaped e = true ∧ r = .bool (!PyData.eqv d e)) ?_ (wE_mono w fun z y1 h => wE_mono h fun z' y2 ⟨d, e, e1, e2, s1, s2, q⟩ => ⟨_, _, _, e1, e2, ⟨s1, s2, rfl⟩, q⟩)
  rintro M H x y d e r Q _ rx ry ⟨s1, s2, rfl⟩ k
  exact ⟨d, e, rx.dp (canLay_noDict s1), ry.dp (canLay_noDict s2), s1, s2, k _ H (fun _ _ e => e) (.bl _)⟩
theorem wE_isN (w : wE C ta y fun z y1 => wE C tb y1 fun z' y2 => ∃ d, z = .d d ∧ z' = .d .none ∧ Q (.d (.bool (match d with | .none => true | _ => false))) y2) :
    wE C (tOp (fun x y H Q => y = .non ∧ Q (.bl (decide (x = .non))) H) ta tb) y Q := by
  refine wE_op (res := fun d e r => e = .none ∧ r = .bool (match d with | .none => true | _ => false)) ?_ (wE_mono w fun z y1 h => wE_mono h fun z' y2 ⟨d, e1, e2, q⟩ => ⟨_, _, _, e1, e2, ⟨rfl, rfl⟩, q⟩)
  rintro M H x y d e r Q _ rx ry ⟨rfl, rfl⟩ k
  refine ⟨rp_non ry, k _ H (fun _ _ e => e) ?_⟩
  cases rx <;> exact .bl _
theorem wE_notN (w : wE C ta y fun z y1 => wE C tb y1 fun z' y2 => ∃ d, z = .d d ∧ z' = .d .none ∧ Q (.d (.bool (match d with | .none => false | _ => true))) y2) :
    wE C (tOp (fun x y H Q => y = .non ∧ Q (.bl (!decide (x = .non))) H) ta tb) y Q := by
  refine wE_op (res := fun d e r => e = .none ∧ r = .bool (match d with | .none => false | _ => true)) ?_ (wE_mono w fun z y1 h => wE_mono h fun z' y2 ⟨d, e1, e2, q⟩ => ⟨_, _, _, e1, e2, ⟨rfl, rfl⟩, q⟩)
  rintro M H x y d e r Q _ rx ry ⟨rfl, rfl⟩ k
  refine ⟨rp_non ry, k _ H (fun _ _ e => e) ?_⟩
  cases rx <;> exact .bl _
/-! items -/
def dIx (d : D) (i : Int) : Option D := match d with
  | .list xs => atI xs i
  | .tuple xs => atI xs i
  | .str z => if z.length ≤ sizeLine then (atI z.cps.toList i).map fun c => .str ⟨#[c]⟩ else none
  | _ => none
theorem atI_rp {K : Fg} {M : Addr → Prop} {H : Hp} {vs : List V} {ds : List D} {i : Int} {d : D} (r : RpA K M H vs ds) (h : atI ds i = some d) : ∃ v, atI vs i = some v ∧ Rp K M H v d := by
  unfold atI at h ⊢
  rw [r.len]
  cases e : ixN ds.length i with
  | none => rw [e] at h; cases h
  | some j =>
    rw [e] at h
    exact r.get (i := j) h
theorem wE_ix (w : wE C ta y fun z y1 => wE C tb y1 fun z' y2 => ∃ d i g, z = .d d ∧ z' = .d (.int i) ∧ dIx d i = some g ∧ Q (.d g) y2) : wE C (tOp (rIx C.K) ta tb) y Q := by
  refine wE_op (res := fun d e r => ∃ i, e = .int i ∧ dIx d i = some r) ?_ (wE_mono w fun z y1 h => wE_mono h fun z' y2 ⟨d, i, g, e1, e2, s, q⟩ => ⟨_, _, _, e1, e2, ⟨i, rfl, s⟩, q⟩)
  rintro M H x y d e r Q _ rx ry ⟨i, rfl, h⟩ k
  have ey := rp_int ry
  cases rx with
  | non => cases h
  | bl b => cases h
  | int b => cases h
  | dic _ _ _ => cases h
  | str z =>
    simp only [dIx] at h
    by_cases hz : z.length ≤ sizeLine
    · rw [if_pos hz] at h
      cases q : atI z.cps.toList i with
      | none => rw [q] at h; cases h
      | some c =>
        rw [q] at h; cases h
        exact .inr (.inr ⟨z, i, c, rfl, ey, hz, q, k _ H (fun _ _ e => e) (.str _)⟩)
    · rw [if_neg hz] at h; cases h
  | lst h1 h2 =>
    obtain ⟨v, e, rv⟩ := atI_rp h2 h
    exact .inl ⟨_, _, i, v, rfl, ey, h1.sq, e, k _ H (fun _ _ e => e) rv⟩
  | tup h1 h2 =>
    obtain ⟨v, e, rv⟩ := atI_rp h2 h
    exact .inr (.inl ⟨_, _, i, v, rfl, ey, h1.sq, e, k _ H (fun _ _ e => e) rv⟩)
end
end Tq

set_option maxRecDepth 100000
set_option maxHeartbeats 2000000
namespace Tq
open PySem PySem.Spec PyProof.Rows L2
/-! ### further operators over HandS -/
section
variable {X : Cx}
/-- list + list, whatever the lists are -/
def rCatG (K : Fg) : R2 := fun x y H Q => ∃ l b xs zs, x = .ref l ∧ y = .ref b ∧ SqL K H l xs ∧ SqL K H b zs ∧ xs.length + zs.length ≤ sizeLine ∧ ∀ p, H p = none → Q (.ref p) (upd H p (.lst (xs ++ zs)))
theorem op_catG : OpR X (binaryOp .Add) (rCatG X.K) := by
  intro pins s σ H x y v u Q I rx ry h
  obtain ⟨l, b, xs, zs, rfl, rfl, hl, hb, hz, q⟩ := h
  cases rx
  cases ry
  obtain ⟨i1, r1, p1, z1⟩ := I.list hl
  obtain ⟨i2, r2, p2, z2⟩ := I.list hb
  obtain ⟨⟨c1, d1, t1, s1⟩, ho1, hc1, n1, hd1⟩ := p1.isList
  obtain ⟨⟨c2, d2, t2, s2⟩, ho2, hc2, n2, hd2⟩ := p2.isList
  simp only at hc1 hd1 hc2 hd2
  subst hc1 hd1 hc2 hd2
  have l1 := r1.length
  have l2 := r2.length
  refine concat_meets ⟨_, ho1, rfl⟩ ⟨_, ho2, rfl⟩ noFill_list_add seq_list_add PySem.F.slot_list_add PySem.F.entry_list_add (PySem.F.args_list_add_2 _ _)
    (list_addW l b i1.toArray i2.toArray n1 n2 d1 d2 s1 s2 (by rw [List.size_toArray, List.size_toArray]; omega)) ⟨ho1, ho2, ?_⟩
  have ea : i1.toArray ++ i2.toArray = (i1 ++ i2).toArray := by simp
  rw [ea]
  exact ⟨.ref _, _, I.lnew (t' := s.toks) (r1.append r2) (by rw [List.length_append]; omega), rfl, q _ I.fresh⟩
/-- // by any number but nought, below 2 ^ 9000 in size -/
def CDivZ (_ j : Int) : Prop := j ≠ 0 ∧ j.natAbs.log2 < 9000
end
/-! ### repr -/
def scD : D → Bool
  | .none | .bool _ | .int _ | .str _ => true
  | _ => false
/-- no dict but at the top, and there with plain values -/
def dsm (d : D) : Bool := match d with
  | .dict kvs => kvs.all fun kv => scD kv.2
  | d => !d.hasDict
abbrev M0 : Addr → Prop := fun _ => False
theorem Rp.any {K : Fg} {M : Addr → Prop} {H : Hp} {v : V} {d : D} (r : Rp K M H v d) : Rp K M0 H v d := r.go fun a o _ e => ⟨fun z => z, e⟩
section
variable {X : Cx} {pins : List (Addr × Obj)} {σ : St} {H : Hp} {s : Shared}
theorem rpk_reads : ∀ {kvs : List (Key × V)} {ds : List (D × D)} {vs : List (Key × Value)} {es : List DictEntry}, RpK X.K M0 H kvs ds → ds.all (fun kv => scD kv.2) = true → KV kvs vs → Pairs (mixKind X.prog X.w) es vs →
    ReadsAll s.heap (es.map (·.key)) (ds.map (·.1)) [] ∧ ReadsAll s.heap (es.map (·.val)) (ds.map (·.2)) []
  | _, _, _, _, .nil, _, kv, pr => by
    cases kv
    cases pr
    exact ⟨.nil, .nil⟩
  | _, _, _, _, @RpK.cons _ _ _ k v d _ _ a b, hs, kv, pr => by
    cases kv with
    | @cons _ kw _ _ r1 r2 =>
      cases pr with
      | @cons e _ es _ p1 p2 p3 =>
        rw [List.all_cons, Bool.and_eq_true] at hs
        obtain ⟨q1, q2⟩ := rpk_reads b hs.2 r2 p3
        have e1 : k = kw.1 := r1.1
        have rv : RelV v kw.2 := r1.2
        constructor
        · have rk : Reads s.heap e.key (kD k) [] := by
            rw [← e1, mixKind_is] at p1
            rcases keyIs_shape p1 with ⟨i, t, z1, z2⟩ | ⟨x, t, z1, z2⟩
            · rw [z1, z2]; exact .int i t
            · rw [z1, z2]; exact .str x t
          exact ReadsAll.cons (as := []) (bs := []) rk q1
        · have rw' : Reads s.heap e.val d [] := by
            rw [p2]
            cases a with
            | non => rw [show kw.2 = Value.none from rv]; exact .none
            | bl b => rw [show kw.2 = Value.bool b from rv]; exact .bool b
            | int b => obtain ⟨t, z⟩ := (show ∃ t, kw.2 = Value.int b t from rv); rw [z]; exact .int b t
            | str b => obtain ⟨t, z⟩ := (show ∃ t, kw.2 = Value.str b t from rv); rw [z]; exact .str b t
            | lst _ _ => cases hs.1
            | tup _ _ => cases hs.1
            | dic _ _ _ => cases hs.1
          exact ReadsAll.cons (as := []) (bs := []) rw' q2
theorem Rp.reads (I : Inv X pins σ H s) {v : V} {u : Value} {d : D} (r : Rp X.K M0 H v d) (rv : RelV v u) (hs : dsm d = true) : ∃ as, Reads s.heap u d as ∧ (d.hasDict = true → sysModules ∉ as) := by
  by_cases hd : d.hasDict = false
  · obtain ⟨as, q⟩ := Dp.reads I d v u (r.dp hd) rv
    exact ⟨as, q, fun z => by rw [hd] at z; cases z⟩
  · cases r with
    | non => exact absurd rfl hd
    | bl _ => exact absurd rfl hd
    | int _ => exact absurd rfl hd
    | str _ => exact absurd rfl hd
    | lst _ _ => simp only [dsm, Bool.not_eq_true'] at hs; exact absurd hs hd
    | tup _ _ => simp only [dsm, Bool.not_eq_true'] at hs; exact absurd hs hd
    | @dic a kvs ds _ h k =>
      cases (show u = Value.ref a from rv)
      obtain ⟨_, nsm, vs, kv, o, es, ep, ho, ex, hdt, _, pr, _⟩ := (show ObjOk X.prog X.w H s.heap a (.dK kvs) from I.hok a _ h)
      obtain ⟨q1, q2⟩ := rpk_reads (X := X) (s := s) k hs kv pr
      refine ⟨_, Reads.dict (as := []) (bs := []) ho ex.1 hdt q1 q2, fun _ z => ?_⟩
      have z' : sysModules = a := by simpa using z
      rw [z'] at nsm
      simp at nsm
def rRepr (K : Fg) : List V → Hp → VK → Prop := fun xs H Q => ∃ x d, xs = [x] ∧ Rp K M0 H x d ∧ dsm d = true ∧ d.showable = true ∧ d.depth ≤ 60 ∧ d.shown.length ≤ sizeLine ∧ Q (.str d.shown) H
end
/-! ### promises where nothing is being shown: as FnOk, with the guards told -/
structure FnG (P : Program) (w : World) (K : Fg) (mg : Str → Option Value) (base : Heap) (CX : CXT) (k : Nat) (f : Addr) (fd : FuncData) (ps : List Str) (sp : Sp) : Prop where
  len : ∀ vs H Q E, sp vs H Q E → vs.length = ps.length
  run : ∀ (A : Around) (outer : List Env) (s : Shared) (H : Hp) (args : Args) (us : List Value) (vs : List V) (Q : VK) (E : XK), Room k A → A.guards = some [] →
    Env0 P w K mg base A outer s H → BindsTo s fd args (ps.zip us) → Vals vs us → sp vs H Q E → codeAny (model P w) A (.call (.ref f) args) (CR CX outer P w H s Q E) s
theorem FnG.of {P : Program} {w : World} {K : Fg} {mg : Str → Option Value} {base : Heap} {CX : CXT} {k : Nat} {f : Addr} {fd : FuncData} {ps : List Str} {sp : Sp} (F : FnOk P w K mg base CX k f fd ps sp) :
    FnG P w K mg base CX k f fd ps sp := ⟨F.len, fun A outer s H args us vs Q E hr _ => F.run A outer s H args us vs Q E hr⟩
theorem FnG.mono {P : Program} {w : World} {K : Fg} {mg : Str → Option Value} {base : Heap} {CX : CXT} {j k : Nat} {f : Addr} {fd : FuncData} {ps : List Str} {sp : Sp} (F : FnG P w K mg base CX j f fd ps sp) (h : j ≤ k) :
    FnG P w K mg base CX k f fd ps sp := ⟨F.len, fun A outer s H args us vs Q E hr => F.run A outer s H args us vs Q E (hr.mono h)⟩
section
variable {X : Cx} {CX : CXT} {k : Nat} {f : Addr} {fd : FuncData} {ps : List Str} {sp : Sp} {dvs : List V} {ds : List Value} {E : XK} {x : Str} {p pos : Pos} {e : Expr} {es : List Expr} {t : TA}
theorem run_fnG {pins : List (Addr × Obj)} {σ : St} {H : Hp} {s : Shared} {Q : VK} {us : List Value} {vs : List V} (F : FnG X.prog X.w X.K X.mg X.base CX k f fd ps sp) (hr : Room k X.A) (hg : X.A.guards = some []) (hb : Binds X.K fd ps ds) (hd : Vals dvs ds)
    (hx : Passes CX X E) (I : Inv X pins σ H s) (r : Vals vs us) (h : sp (vs ++ dvs) H Q E) : wpAny (model X.prog X.w) X.A (call (.ref f) us) (EP X pins σ Q) X.xe s := by
  have r2 : Vals (vs ++ dvs) (us ++ ds) := r.append hd
  have hl : (us ++ ds).length = ps.length := by
    rw [← r2.length]
    exact F.len _ _ _ _ h
  refine wpAny_call (codeAny_mono (F.run X.A X.stack s H ⟨us, []⟩ (us ++ ds) (vs ++ dvs) Q E hr hg I.env0 (hb s us I.kIn hl) r2 h) fun res s2 hq => ?_)
  cases res with
  | error ev => exact hx pins σ H s ev s2 I hq
  | ok fl =>
    cases fl
    case ret u => exact I.after hq
    all_goals exact False.elim hq
theorem pe_callG (F : FnG X.prog X.w X.K X.mg X.base CX k f fd ps sp) (hr : Room k X.A) (hgu : X.A.guards = some []) (hg : Gl X x) (hm : X.mg x = some (.ref f)) (hk : PySem.W.keepIn X.K (.ref f) = true) (hb : Binds X.K fd ps ds) (hd : Vals dvs ds)
    (hx : Passes CX X E) (ha : PA X (e :: es) t) (hdb : (x == ("__debug__" : Str)) = false := by decide)
    (he : starEach (e :: es) X.env = (false, eval e X.env) :: starEach es X.env := by rfl)
    (hpl : (backTo pos (starEach es X.env)).any (·.1) = false := by rfl) : PE X (.Call (.Name x p) (e :: es) [] pos) (tCall sp dvs E t) := by
  constructor
  intro pins s σ H Q I h
  refine wpAny_Call_Name_kw (ld_glob I hg hm ?_ hdb)
  refine PySem.W.callWith_K (h₀ := X.base) I.ok.mod.kin hk (thn (ha.run pos pins s σ H _ I h) fun us s1 ⟨vs, H1, I1, r, q⟩ => ⟨I1.kIn, ?_⟩) he hpl
  exact run_fnG F hr hgu hb hd hx I1 r q
end
theorem fn_ofG {CX : CXT} {P : Program} {w : World} {K : Fg} {mg : Str → Option Value} {base : Heap} {k : Nat} {f : Addr} {name qual : Str} {params : Arguments} {body : List Stmt} {scope : Scope} {dV kV doc pm cdv ct oc : Value} {an od : Option Addr}
    {osl : Array (Option Value)} {N ps : List Str} {sp : Sp} (lk : K.lookup f = some ⟨oc, od, .func (PySem.W.fnOf name qual params body scope dV kV doc pm an cdv ct), osl⟩) (hcd : PySem.W.codeIn K cdv qual = true) (Sc : FnScope N ps scope)
    (len : ∀ vs H Q E, sp vs H Q E → vs.length = ps.length)
    (hbody : ∀ (A : Around) (outer : List Env) (s : Shared) (H : Hp) (vs : List V) (Q : VK) (E : XK), Room k (A.deeper (envOfC qual scope s.heap.objs.size f cdv)) → (A.deeper (envOfC qual scope s.heap.objs.size f cdv)).guards = some [] → sp vs H Q E →
      ∃ t, PSs (cxOf CX P w K mg base N qual scope f cdv A outer s H E) body t ∧ t { nx := fun _ H' => Q .non H', rt := Q } (start N vs) H) :
    FnG P w K mg base CX (k + 1) f (PySem.W.fnOf name qual params body scope dV kV doc pm an cdv ct) ps sp := by
  refine ⟨len, fun A outer s H args us vs Q E hr hgu e0 hb r hsp => ?_⟩
  have hl := len _ _ _ _ hsp
  have kpd : ∀ b o, base.get? b = some o → s.heap.get? b = some o := fun b o e => (e0.bs b o e).1
  have KX : K.In s.heap := e0.mod.kin.keeps kpd
  have lim : s.heap.NoLimit := e0.mod.nolimit.keeps kpd
  have hkind : ∀ z ∈ ps.zip us, scope.names.lookup z.1 = some .local ∨ (scope.names.lookup z.1 = some .cell ∧ ((cellsFrom (s.heap.objs.size + 1) scope.names []).lookup z.1).isSome = true) := by
    rintro ⟨n, v⟩ hz
    rcases Sc.par n (List.of_mem_zip hz).1 with q | q
    · exact .inl q
    · exact .inr ⟨q, PySem.W.cellsFrom_some _ _ _ (.inl q)⟩
  refine codeAny_call_function hr.depth (KX _ _ lk) rfl Sc.co Sc.gen rfl (PySem.W.codeRec_of KX hcd) (hb _ _ _ _ ?_)
  refine wpAny_newFunctionEnv_cells Sc.kind hkind fun env he s1 x => ?_
  subst he
  refine ⟨lim.keeps x.toInCall.keep, codeAny_func ?_⟩
  obtain ⟨t, ht, hq⟩ := hbody A outer s H vs Q E (hr.deeper _) hgu hsp
  have I : Inv (cxOf CX P w K mg base N qual scope f cdv A outer s H E) [] (start N vs) H s1 := inv_start Sc hr.hd e0 hl r x
  refine wpAny_mono (ht.run [] s1 (start N vs) H _ I hq) (fun fl s2 hs => ?_) fun ev s2 hs => hs
  cases fl with
  | ret u =>
    obtain ⟨v, τ, G, J, rv, q⟩ := hs
    exact ⟨v, G, J.os, J.bare, J.base, J.hok, rv, q⟩
  | next =>
    obtain ⟨τ, G, J, q⟩ := hs
    exact ⟨V.non, G, J.os, J.bare, J.base, J.hok, rfl, q⟩
  | brk =>
    obtain ⟨_, _, _, q⟩ := hs
    exact False.elim q
  | cont =>
    obtain ⟨_, _, _, q⟩ := hs
    exact False.elim q
theorem okG {P : Program} {w : World} {K : Fg} {mg : Str → Option Value} {base : Heap} {x qual : Str} {st : Stmt} {f : Addr} {fd : FuncData} {N ps : List Str} {k : Nat} {sp : Sp} (F : Fun K x qual st f fd) (Sc : FnScope N ps (defScope st))
    (len : ∀ vs H Q E, sp vs H Q E → vs.length = ps.length)
    (hbody : ∀ (cdv : Value) (A : Around) (outer : List Env) (s : Shared) (H : Hp) (vs : List V) (Q : VK) (E : XK), Room k (A.deeper (envOfC qual (defScope st) s.heap.objs.size f cdv)) →
      (A.deeper (envOfC qual (defScope st) s.heap.objs.size f cdv)).guards = some [] → sp vs H Q E →
      ∃ t, PSs (cxOf CX0 P w K mg base N qual (defScope st) f cdv A outer s H E).nox (defBody st) t ∧ t { nx := fun _ G => Q .non G, rt := Q } (start N vs) H) : FnG P w K mg base CX0 (k + 1) f fd ps sp := by
  obtain ⟨oc, od, kV, doc, pm, an, cdv, ct, osl, rfl, lk, hcd⟩ := F.ex
  refine fn_ofG lk hcd Sc len fun A outer s H vs Q E hr hgu hsp => ?_
  obtain ⟨t, h, q⟩ := hbody cdv A outer s H vs Q E hr hgu hsp
  exact ⟨t, h.nox, q⟩
end Tq

set_option maxRecDepth 100000
set_option maxHeartbeats 2000000
namespace Tq
open PySem PySem.Spec PyProof.Rows L2
/-- what the law's call is to show -/
abbrev LawEnd (s₁ : Shared) : Result → Shared → Prop := fun r s' => r = .ok (.ret (.bool true)) ∧ OldK s₁.heap s'.heap ∧ s'.os = s₁.os ∧ AllBare s'.gens
section
variable {P : Program} {w : World} {K : Fg} {mg mb : Str → Option Value} {CX : CXT} {k : Nat} {fa a : Addr} {fd : FuncData} {x : Str} {sp : Sp} {s₁ : Shared} {vs : List Value} {ns : List Int}
end
end Tq

set_option maxRecDepth 100000
set_option maxHeartbeats 2000000
namespace Tq
open PySem PySem.Spec PyProof.Rows L2
section
variable {C : Ct} {y : S} {ta tb tc te : TE} {t u : TT} {ts : TA} {Q : Z → S → Prop} {R : Bool → S → Prop}
theorem wE_catG (w : wE C ta y fun z y1 => wE C tb y1 fun z' y2 => ∃ xs ys, z = .d (.list xs) ∧ z' = .d (.list ys) ∧ xs.length + ys.length ≤ sizeLine ∧ Q (.d (.list (xs ++ ys))) y2) : wE C (tOp (rCatG C.K) ta tb) y Q := by
  refine wE_op (res := fun d e r => ∃ xs ys, d = .list xs ∧ e = .list ys ∧ xs.length + ys.length ≤ sizeLine ∧ r = .list (xs ++ ys)) ?_ (wE_mono w fun z y1 h => wE_mono h fun z' y2 ⟨xs, ys, e1, e2, c, q⟩ => ⟨_, _, _, e1, e2, ⟨xs, ys, rfl, rfl, c, rfl⟩, q⟩)
  rintro M H x y d e r Q fr rx ry ⟨xs, ys, rfl, rfl, c, rfl⟩ k
  obtain ⟨a, us, rfl, h1, h2⟩ := rp_lst rx
  obtain ⟨b, vs, rfl, h3, h4⟩ := rp_lst ry
  refine ⟨a, b, us, vs, rfl, rfl, h1.sq, h3.sq, by rw [h2.len, h4.len]; exact c, fun p hp => k _ _ (grow_upd hp) ?_⟩
  have g : GoH M H M (upd H p (.lst (us ++ vs))) := fun a o n e => ⟨n, grow_upd hp a o e⟩
  exact .lst (.inl ⟨fr p hp, .inl upd_same⟩) ((h2.go g).app (h4.go g))
theorem wE_fdivZ (w : wE C ta y fun z y1 => wE C tb y1 fun z' y2 => ∃ i j, z = .d (.int i) ∧ z' = .d (.int j) ∧ CDivZ i j ∧ Q (.d (.int (i.fdiv j))) y2) : wE C (tOp (rI CDivZ fun i j => .int (i.fdiv j)) ta tb) y Q := wE_I _ (fun _ _ => .int _) w
theorem wE_modN (w : wE C ta y fun z y1 => wE C tb y1 fun z' y2 => ∃ i j, z = .d (.int i) ∧ z' = .d (.int j) ∧ j ≠ 0 ∧ Q (.d (.int (i.fmod j))) y2) : wE C (tOp (rI (fun _ j => j ≠ 0) fun i j => .int (i.fmod j)) ta tb) y Q := wE_I _ (fun _ _ => .int _) w
/-! truth -/
theorem wE_andV (w : wE C ta y fun z y1 => ∃ b, z = .d (.bool b) ∧ if b = true then wE C tb y1 Q else Q (.d (.bool false)) y1) : wE C (tAndV ta tb) y Q := by
  intro F σ H K wd k
  refine w F σ H _ wd fun x H1 z y1 w1 g1 s1 r1 q1 => ?_
  obtain ⟨b, rfl, q⟩ := q1
  refine ⟨b, rp_bl r1, ?_⟩
  cases b with
  | true => exact q F σ H1 _ w1 fun v H2 z y2 w2 g2 s2 r2 q2 => k v H2 z y2 w2 (g1.trans g2) (s1.trans s2) r2 q2
  | false => exact k _ H1 (.d (.bool false)) y1 w1 g1 s1 (.bl _) q
theorem wE_orV (w : wE C ta y fun z y1 => ∃ b, z = .d (.bool b) ∧ if b = true then Q (.d (.bool true)) y1 else wE C tb y1 Q) : wE C (tOrV ta tb) y Q := by
  intro F σ H K wd k
  refine w F σ H _ wd fun x H1 z y1 w1 g1 s1 r1 q1 => ?_
  obtain ⟨b, rfl, q⟩ := q1
  refine ⟨b, rp_bl r1, ?_⟩
  cases b with
  | true => exact k _ H1 (.d (.bool true)) y1 w1 g1 s1 (.bl _) q
  | false => exact q F σ H1 _ w1 fun v H2 z y2 w2 g2 s2 r2 q2 => k v H2 z y2 w2 (g1.trans g2) (s1.trans s2) r2 q2
theorem wE_notV (w : wE C ta y fun z y1 => ∃ b, z = .d (.bool b) ∧ Q (.d (.bool (!b))) y1) : wE C (tNotV ta) y Q := by
  intro F σ H K wd k
  refine w F σ H _ wd fun x H1 z y1 w1 g1 s1 r1 q1 => ?_
  obtain ⟨b, rfl, q⟩ := q1
  exact ⟨b, rp_bl r1, k _ H1 (.d (.bool !b)) y1 w1 g1 s1 (.bl _) q⟩
theorem wE_if (w : wT C t y fun b y1 => if b = true then wE C ta y1 Q else wE C tb y1 Q) : wE C (tIf t ta tb) y Q := by
  intro F σ H K wd k
  refine w F σ H _ wd fun b H1 y1 w1 g1 s1 q => ?_
  cases b with
  | true => exact q F σ H1 _ w1 fun v H2 z y2 w2 g2 s2 r2 q2 => k v H2 z y2 w2 (g1.trans g2) (s1.trans s2) r2 q2
  | false => exact q F σ H1 _ w1 fun v H2 z y2 w2 g2 s2 r2 q2 => k v H2 z y2 w2 (g1.trans g2) (s1.trans s2) r2 q2
theorem wT_test (w : wE C te y fun z y1 => ∃ b, z = .d (.bool b) ∧ R b y1) : wT C (tTest te) y R := by
  intro F σ H K wd k
  refine w F σ H _ wd fun x H1 z y1 w1 g1 s1 r1 q1 => ?_
  obtain ⟨b, rfl, q⟩ := q1
  exact ⟨b, rp_bl r1, k b H1 y1 w1 g1 s1 q⟩
theorem wT_B (w : wE C te y fun z y1 => ∃ b, z = .d (.bool b) ∧ R b y1) : wT C (tB te) y R := wT_test w
theorem wT_and (w : wT C t y fun b y1 => if b = true then wT C u y1 R else R false y1) : wT C (tAnd t u) y R := by
  intro F σ H K wd k
  refine w F σ H _ wd fun b H1 y1 w1 g1 s1 q => ?_
  cases b with
  | true => exact q F σ H1 _ w1 fun v H2 y2 w2 g2 s2 q2 => k v H2 y2 w2 (g1.trans g2) (s1.trans s2) q2
  | false => exact k false H1 y1 w1 g1 s1 q
theorem wT_or (w : wT C t y fun b y1 => if b = true then R true y1 else wT C u y1 R) : wT C (tOr t u) y R := by
  intro F σ H K wd k
  refine w F σ H _ wd fun b H1 y1 w1 g1 s1 q => ?_
  cases b with
  | true => exact k true H1 y1 w1 g1 s1 q
  | false => exact q F σ H1 _ w1 fun v H2 y2 w2 g2 s2 q2 => k v H2 y2 w2 (g1.trans g2) (s1.trans s2) q2
theorem wT_not (w : wT C t y fun b y1 => R (!b) y1) : wT C (tNot t) y R := by
  intro F σ H K wd k
  exact w F σ H _ wd fun b H1 y1 w1 g1 s1 q => k (!b) H1 y1 w1 g1 s1 q
theorem wT_yes (q : R true y) : wT C tYes y R := fun F σ H K wd k => k true H y wd GoH.refl (Sh.refl y) q
theorem wT_mono {R' : Bool → S → Prop} (h : wT C t y R) (q : ∀ z y', R z y' → R' z y') : wT C t y R' := fun F σ H K w k => h F σ H K w fun z H' y' a b c e => k z H' y' a b c (q z y' e)
/-- chains -/
theorem wE_chain {r r' : R2} {res res' : D → D → D → Prop} (h : OpD C.K r res) (h' : OpD C.K r' res')
    (w : wE C ta y fun z1 y1 => wE C tb y1 fun z2 y2 => ∃ d1 d2 b, z1 = .d d1 ∧ z2 = .d d2 ∧ res d1 d2 (.bool b) ∧ if b = true then wE C tc y2 fun z3 y3 => ∃ d3 g, z3 = .d d3 ∧ res' d2 d3 g ∧ Q (.d g) y3 else Q (.d (.bool false)) y2) :
    wE C (tChain r r' ta tb tc) y Q := by
  intro F σ H K wd k
  refine w F σ H _ wd fun x H1 z y1 w1 g1 s1 r1 q1 => ?_
  refine q1 F σ H1 _ w1 fun x2 H2 z' y2 w2 g2 s2 r2 q2 => ?_
  obtain ⟨d1, d2, b, rfl, rfl, hres, hq⟩ := q2
  refine h (Mv F σ y2) H2 x x2 d1 d2 (.bool b) _ (fun a => w2.new) (Rp.go g2 r1) r2 hres fun v H3 gr rv => ?_
  have w3 := w2.grow gr
  have g3 := (g1.trans g2).trans (go_grow (F := F) (σ := σ) (y := y2) gr)
  refine ⟨b, rp_bl rv, ?_⟩
  cases b with
  | false => exact k _ H3 (.d (.bool false)) y2 w3 g3 (s1.trans s2) (.bl _) hq
  | true =>
    refine hq F σ H3 _ w3 fun x4 H4 z4 y4 w4 g4 s4 r4 q4 => ?_
    obtain ⟨d3, g, rfl, hres', hq'⟩ := q4
    refine h' (Mv F σ y4) H4 x2 x4 d2 d3 g _ (fun a => w4.new) (Rp.go g4 (Rp.go (go_grow (F := F) (σ := σ) (y := y2) gr) r2)) r4 hres' fun v5 H5 gr5 rv5 => ?_
    exact k v5 H5 (.d g) y4 (w4.grow gr5) ((g3.trans g4).trans (go_grow gr5)) ((s1.trans s2).trans s4) rv5 hq'
theorem wE_chainI {p p' : Int → Int → Bool} (w : wE C ta y fun z1 y1 => wE C tb y1 fun z2 y2 => ∃ i j, z1 = .d (.int i) ∧ z2 = .d (.int j) ∧ if p i j = true then wE C tc y2 fun z3 y3 => ∃ m, z3 = .d (.int m) ∧ Q (.d (.bool (p' j m))) y3 else Q (.d (.bool false)) y2) :
    wE C (tChain (rI0 fun i j => .bl (p i j)) (rI0 fun i j => .bl (p' i j)) ta tb tc) y Q := by
  refine wE_chain (opD_I0 (gd := fun i j => .bool (p i j)) fun _ _ => .bl _) (opD_I0 (gd := fun i j => .bool (p' i j)) fun _ _ => .bl _) (wE_mono w fun z1 y1 h => wE_mono h fun z2 y2 ⟨i, j, e1, e2, q⟩ => ⟨_, _, p i j, e1, e2, ⟨i, j, rfl, rfl, rfl⟩, ?_⟩)
  cases hb : p i j with
  | true =>
    rw [hb] at q
    exact wE_mono (show wE C tc y2 _ from q) fun z3 y3 ⟨m, e3, q3⟩ => ⟨_, _, e3, ⟨j, m, rfl, rfl, rfl⟩, q3⟩
  | false => rw [hb] at q; exact q
theorem opD_S0 {g : Str → Str → V} {gd : Str → Str → D} (hg : ∀ i j, Sc (g i j) (gd i j)) {K : Fg} : OpD K (fun x y H Q => ∃ i j, x = .str i ∧ y = .str j ∧ Q (g i j) H) (fun d e r => ∃ i j, d = .str i ∧ e = .str j ∧ r = gd i j) := by
  rintro M H x y d e r Q _ rx ry ⟨i, j, rfl, rfl, rfl⟩ k
  exact ⟨i, j, rp_str rx, rp_str ry, k _ H (fun _ _ e => e) (hg i j).rp⟩
theorem wE_chainS {p p' : Str → Str → Bool} (w : wE C ta y fun z1 y1 => wE C tb y1 fun z2 y2 => ∃ i j, z1 = .d (.str i) ∧ z2 = .d (.str j) ∧ if p i j = true then wE C tc y2 fun z3 y3 => ∃ m, z3 = .d (.str m) ∧ Q (.d (.bool (p' j m))) y3 else Q (.d (.bool false)) y2) :
    wE C (tChain (fun x y H Q => ∃ i j, x = .str i ∧ y = .str j ∧ Q (.bl (p i j)) H) (fun x y H Q => ∃ i j, x = .str i ∧ y = .str j ∧ Q (.bl (p' i j)) H) ta tb tc) y Q := by
  refine wE_chain (opD_S0 (gd := fun i j => .bool (p i j)) fun _ _ => .bl _) (opD_S0 (gd := fun i j => .bool (p' i j)) fun _ _ => .bl _) (wE_mono w fun z1 y1 h => wE_mono h fun z2 y2 ⟨i, j, e1, e2, q⟩ => ⟨_, _, p i j, e1, e2, ⟨i, j, rfl, rfl, rfl⟩, ?_⟩)
  cases hb : p i j with
  | true =>
    rw [hb] at q
    exact wE_mono (show wE C tc y2 _ from q) fun z3 y3 ⟨m, e3, q3⟩ => ⟨_, _, e3, ⟨j, m, rfl, rfl, rfl⟩, q3⟩
  | false => rw [hb] at q; exact q
/-! arguments, displays -/
def wD (C : Ct) (ta : TA) (y : S) (Q : List D → S → Prop) : Prop := ∀ (F : Fr) σ H (K : List V → Hp → Prop), Wd C F σ y H → (∀ vs H' ds y', Wd C F σ y' H' → Go F σ y H σ y' H' → Sh y y' → RpA C.K (Mv F σ y') H' vs ds → Q ds y' → K vs H') → ta σ H K
variable {q : List D → S → Prop}
theorem wD_nil (h : q [] y) : wD C tNil y q := fun F σ H K wd k => k [] H [] y wd GoH.refl (Sh.refl y) .nil h
theorem wD_cons (w : wE C ta y fun z y1 => ∃ d, z = .d d ∧ wD C ts y1 fun ds y2 => q (d :: ds) y2) : wD C (tCons ta ts) y q := by
  intro F σ H K wd k
  refine w F σ H _ wd fun x H1 z y1 w1 g1 s1 r1 q1 => ?_
  obtain ⟨d, rfl, h⟩ := q1
  exact h F σ H1 _ w1 fun vs H2 ds y2 w2 g2 s2 r2 q2 => k (x :: vs) H2 (d :: ds) y2 w2 (g1.trans g2) (s1.trans s2) (.cons (Rp.go g2 r1) r2) q2
theorem wD_mono {q' : List D → S → Prop} (h : wD C ts y q) (e : ∀ z y', q z y' → q' z y') : wD C ts y q' := fun F σ H K w k => h F σ H K w fun vs H' z y' a b c d f => k vs H' z y' a b c d (e z y' f)
theorem wE_tup (w : wD C ts y fun ds y1 => ds.length ≤ sizeLine ∧ Q (.d (.tuple ds)) y1) : wE C (tTup ts) y Q := by
  intro F σ H K wd k
  refine w F σ H _ wd fun vs H1 ds y1 w1 g1 s1 r1 ⟨hz, q1⟩ => ⟨by rw [r1.len]; exact hz, fun p hp => ?_⟩
  have gr := grow_upd (o := .tup vs) hp
  exact k _ _ (.d (.tuple ds)) y1 (w1.grow gr) (g1.trans (go_grow gr)) s1 (.tup (.inl ⟨w1.new hp, .inl upd_same⟩) (r1.go (go_grow gr))) q1
theorem wE_lst (w : wD C ts y fun ds y1 => ds.length ≤ sizeLine ∧ Q (.d (.list ds)) y1) : wE C (tLst ts) y Q := by
  intro F σ H K wd k
  refine w F σ H _ wd fun vs H1 ds y1 w1 g1 s1 r1 ⟨hz, q1⟩ => ⟨by rw [r1.len]; exact hz, fun p hp => ?_⟩
  have gr := grow_upd (o := .lst vs) hp
  exact k _ _ (.d (.list ds)) y1 (w1.grow gr) (g1.trans (go_grow gr)) s1 (.lst (.inl ⟨w1.new hp, .inl upd_same⟩) (r1.go (go_grow gr))) q1
theorem wE_dnew (h : Q (.d (.dict [])) y) : wE C tDNewK y Q := by
  intro F σ H K wd k p hp
  have gr := grow_upd (o := .dK []) hp
  exact k _ _ (.d (.dict [])) y (wd.grow gr) (go_grow gr) (Sh.refl y) (.dic (wd.new hp) upd_same .nil) h
/-- {k: v}, one written pair of scalars -/
theorem wE_disp1 {kk : Key} {v : V} {d : D} (s : Sc v d) (h : Q (.d (.dict [(kD kk, d)])) y) : wE C (tDisp [(tC (kV kk), tC v)]) y Q := by
  intro F σ H K wd k p hp
  refine ⟨upd_same, [(kk, v)], rfl, by simp, ?_⟩
  have gr : ∀ a u, H a = some u → upd (upd H p (.dK [])) p (.dK (mergeK [] [(kk, v)])) a = some u := fun a u e => by rw [upd_upd]; exact grow_upd hp a u e
  refine k _ _ (.d (.dict [(kD kk, d)])) y (wd.grow gr) (go_grow gr) (Sh.refl y) (.dic (wd.new hp) (kvs := [(kk, v)]) ?_ (.cons s.rp .nil)) h
  rw [upd_same]
  rfl
/-! built-ins -/
def CbD (K : Fg) (r : List V → Hp → VK → Prop) (res : List D → D → Prop) : Prop := ∀ (M : Addr → Prop) (H : Hp) (xs : List V) (ds : List D) (g : D) (Q : VK), (∀ a, H a = none → ¬ M a) → RpA K M H xs ds → res ds g →
  (∀ v H', (∀ a o, H a = some o → H' a = some o) → Rp K M H' v g → Q v H') → r xs H Q
theorem wE_cb {r : List V → Hp → VK → Prop} {res : List D → D → Prop} (h : CbD C.K r res) (w : wD C ts y fun ds y1 => ∃ g, res ds g ∧ Q (.d g) y1) : wE C (tCB r ts) y Q := by
  intro F σ H K wd k
  refine w F σ H _ wd fun vs H1 ds y1 w1 g1 s1 r1 q1 => ?_
  obtain ⟨g, hres, hq⟩ := q1
  exact h (Mv F σ y1) H1 vs ds g K (fun a => w1.new) r1 hres fun v H2 gr rv => k v H2 (.d g) y1 (w1.grow gr) (g1.trans (go_grow gr)) s1 rv hq
theorem rpA1 {K : Fg} {M : Addr → Prop} {H : Hp} {vs : List V} {d : D} (r : RpA K M H vs [d]) : ∃ v, vs = [v] ∧ Rp K M H v d := by
  cases r with | cons a b => cases b; exact ⟨_, rfl, a⟩
theorem rpA2 {K : Fg} {M : Addr → Prop} {H : Hp} {vs : List V} {d e : D} (r : RpA K M H vs [d, e]) : ∃ v u, vs = [v, u] ∧ Rp K M H v d ∧ Rp K M H u e := by
  cases r with | cons a b => obtain ⟨u, rfl, h⟩ := rpA1 b; exact ⟨_, u, rfl, a, h⟩
theorem wE_abs (w : wD C ts y fun ds y1 => ∃ i, ds = [.int i] ∧ Q (.d (.int (if i < 0 then -i else i))) y1) : wE C (tCB (fun xs H Q => ∃ i, xs = [.int i] ∧ Q (.int (if i < 0 then -i else i)) H) ts) y Q := by
  refine wE_cb (res := fun ds g => ∃ i, ds = [.int i] ∧ g = .int (if i < 0 then -i else i)) ?_ (wD_mono w fun ds y1 ⟨i, e, q⟩ => ⟨_, ⟨i, e, rfl⟩, q⟩)
  rintro M H xs ds g Q _ r ⟨i, rfl, rfl⟩ k
  obtain ⟨v, rfl, rv⟩ := rpA1 r
  exact ⟨i, by rw [rp_int rv], k _ H (fun _ _ e => e) (.int _)⟩
theorem wE_max2 (w : wD C ts y fun ds y1 => ∃ i j, ds = [.int i, .int j] ∧ Q (.d (.int (if j > i then j else i))) y1) : wE C (tCB (fun xs H Q => ∃ i j, xs = [.int i, .int j] ∧ Q (.int (if j > i then j else i)) H) ts) y Q := by
  refine wE_cb (res := fun ds g => ∃ i j, ds = [.int i, .int j] ∧ g = .int (if j > i then j else i)) ?_ (wD_mono w fun ds y1 ⟨i, j, e, q⟩ => ⟨_, ⟨i, j, e, rfl⟩, q⟩)
  rintro M H xs ds g Q _ r ⟨i, j, rfl, rfl⟩ k
  obtain ⟨v, u, rfl, rv, ru⟩ := rpA2 r
  exact ⟨i, j, by rw [rp_int rv, rp_int ru], k _ H (fun _ _ e => e) (.int _)⟩
theorem wE_min2 (w : wD C ts y fun ds y1 => ∃ i j, ds = [.int i, .int j] ∧ Q (.d (.int (if j < i then j else i))) y1) : wE C (tCB (fun xs H Q => ∃ i j, xs = [.int i, .int j] ∧ Q (.int (if j < i then j else i)) H) ts) y Q := by
  refine wE_cb (res := fun ds g => ∃ i j, ds = [.int i, .int j] ∧ g = .int (if j < i then j else i)) ?_ (wD_mono w fun ds y1 ⟨i, j, e, q⟩ => ⟨_, ⟨i, j, e, rfl⟩, q⟩)
  rintro M H xs ds g Q _ r ⟨i, j, rfl, rfl⟩ k
  obtain ⟨v, u, rfl, rv, ru⟩ := rpA2 r
  exact ⟨i, j, by rw [rp_int rv, rp_int ru], k _ H (fun _ _ e => e) (.int _)⟩
theorem wE_int1 (w : wD C ts y fun ds y1 => (∃ i, ds = [.int i] ∧ Q (.d (.int i)) y1) ∨ ∃ b, ds = [.bool b] ∧ Q (.d (.int (if b then 1 else 0))) y1) :
    wE C (tCB (fun xs H Q => (∃ i, xs = [.int i] ∧ Q (.int i) H) ∨ ∃ k, xs = [.bl k] ∧ Q (.int (if k then 1 else 0)) H) ts) y Q := by
  refine wE_cb (res := fun ds g => (∃ i, ds = [.int i] ∧ g = .int i) ∨ ∃ b, ds = [.bool b] ∧ g = .int (if b then 1 else 0)) ?_ (wD_mono w fun ds y1 h => ?_)
  · rintro M H xs ds g Q _ r (⟨i, rfl, rfl⟩ | ⟨b, rfl, rfl⟩) k
    · obtain ⟨v, rfl, rv⟩ := rpA1 r
      exact .inl ⟨i, by rw [rp_int rv], k _ H (fun _ _ e => e) (.int _)⟩
    · obtain ⟨v, rfl, rv⟩ := rpA1 r
      exact .inr ⟨b, by rw [rp_bl rv], k _ H (fun _ _ e => e) (.int _)⟩
  · rcases h with ⟨i, e, q⟩ | ⟨b, e, q⟩
    · exact ⟨_, .inl ⟨i, e, rfl⟩, q⟩
    · exact ⟨_, .inr ⟨b, e, rfl⟩, q⟩
theorem wE_strI (w : wD C ts y fun ds y1 => ∃ i, ds = [.int i] ∧ i.natAbs.log2 < 1920 ∧ Q (.d (.str (toString i))) y1) : wE C (tCB (fun xs H Q => ∃ i, xs = [.int i] ∧ i.natAbs.log2 < 1920 ∧ Q (.str (toString i)) H) ts) y Q := by
  refine wE_cb (res := fun ds g => ∃ i, ds = [.int i] ∧ i.natAbs.log2 < 1920 ∧ g = .str (toString i)) ?_ (wD_mono w fun ds y1 ⟨i, e, c, q⟩ => ⟨_, ⟨i, e, c, rfl⟩, q⟩)
  rintro M H xs ds g Q _ r ⟨i, rfl, c, rfl⟩ k
  obtain ⟨v, rfl, rv⟩ := rpA1 r
  exact ⟨i, by rw [rp_int rv], c, k _ H (fun _ _ e => e) (.str _)⟩
theorem wE_intS (w : wD C ts y fun ds y1 => ∃ a n, ds = [.str a] ∧ PySem.intText? a = some n ∧ a.length ≤ 640 ∧ Q (.d (.int n)) y1) : wE C (tCB (fun xs H Q => ∃ a n, xs = [.str a] ∧ PySem.intText? a = some n ∧ a.length ≤ 640 ∧ Q (.int n) H) ts) y Q := by
  refine wE_cb (res := fun ds g => ∃ a n, ds = [.str a] ∧ PySem.intText? a = some n ∧ a.length ≤ 640 ∧ g = .int n) ?_ (wD_mono w fun ds y1 ⟨i, n, e, c, l, q⟩ => ⟨_, ⟨i, n, e, c, l, rfl⟩, q⟩)
  rintro M H xs ds g Q _ r ⟨i, n, rfl, c, l, rfl⟩ k
  obtain ⟨v, rfl, rv⟩ := rpA1 r
  exact ⟨i, n, by rw [rp_str rv], c, l, k _ H (fun _ _ e => e) (.int _)⟩
def dLen (d : D) : Option Nat := match d with
  | .str z => if z.length ≤ sizeLine then some z.length else none
  | .list xs => some xs.length
  | .tuple xs => some xs.length
  | _ => none
theorem wE_len (w : wD C ts y fun ds y1 => ∃ d n, ds = [d] ∧ dLen d = some n ∧ Q (.d (.int n)) y1) : wE C (tCB (fun xs H Q => ∃ x n, xs = [x] ∧ LenV C.K x H n ∧ Q (.int (n : Nat)) H) ts) y Q := by
  refine wE_cb (res := fun ds g => ∃ d n, ds = [d] ∧ dLen d = some n ∧ g = .int n) ?_ (wD_mono w fun ds y1 ⟨d, n, e, c, q⟩ => ⟨_, ⟨d, n, e, c, rfl⟩, q⟩)
  rintro M H xs ds g Q _ r ⟨d, n, rfl, c, rfl⟩ k
  obtain ⟨v, rfl, rv⟩ := rpA1 r
  refine ⟨v, n, rfl, ?_, k _ H (fun _ _ e => e) (.int _)⟩
  cases rv with
  | non => cases c
  | bl _ => cases c
  | int _ => cases c
  | dic _ _ _ => cases c
  | str z =>
    simp only [dLen] at c
    by_cases h : z.length ≤ sizeLine
    · rw [if_pos h] at c; cases c; exact ⟨h, rfl⟩
    · rw [if_neg h] at c; cases c
  | lst h1 h2 => cases c; exact .inl ⟨_, h1.sq, h2.len.symm⟩
  | tup h1 h2 => cases c; exact .inr ⟨_, h1.sq, h2.len.symm⟩
theorem wE_all (w : wD C ts y fun ds y1 => ∃ bs : List Bool, ds = [.list (bs.map PyData.bool)] ∧ Q (.d (.bool (bs.all id))) y1) : wE C (tCB (rAll C.K) ts) y Q := by
  refine wE_cb (res := fun ds g => ∃ bs : List Bool, ds = [.list (bs.map PyData.bool)] ∧ g = .bool (bs.all id)) ?_ (wD_mono w fun ds y1 ⟨i, e, q⟩ => ⟨_, ⟨i, e, rfl⟩, q⟩)
  rintro M H xs ds g Q _ r ⟨bs, rfl, rfl⟩ k
  obtain ⟨v, rfl, rv⟩ := rpA1 r
  obtain ⟨a, us, rfl, h1, h2⟩ := rp_lst rv
  have e := rpA_bls h2
  subst e
  exact ⟨a, bs, rfl, h1.sq, k _ H (fun _ _ e => e) (.bl _)⟩
theorem wE_any (w : wD C ts y fun ds y1 => ∃ bs : List Bool, ds = [.list (bs.map PyData.bool)] ∧ Q (.d (.bool (bs.any id))) y1) : wE C (tCB (rAny C.K) ts) y Q := by
  refine wE_cb (res := fun ds g => ∃ bs : List Bool, ds = [.list (bs.map PyData.bool)] ∧ g = .bool (bs.any id)) ?_ (wD_mono w fun ds y1 ⟨i, e, q⟩ => ⟨_, ⟨i, e, rfl⟩, q⟩)
  rintro M H xs ds g Q _ r ⟨bs, rfl, rfl⟩ k
  obtain ⟨v, rfl, rv⟩ := rpA1 r
  obtain ⟨a, us, rfl, h1, h2⟩ := rp_lst rv
  have e := rpA_bls h2
  subst e
  exact ⟨a, bs, rfl, h1.sq, k _ H (fun _ _ e => e) (.bl _)⟩
theorem wE_sum (w : wD C ts y fun ds y1 => ∃ bs : List Int, ds = [.list (bs.map PyData.int)] ∧ Q (.d (.int bs.sum)) y1) : wE C (tCB (rSum C.K) ts) y Q := by
  refine wE_cb (res := fun ds g => ∃ bs : List Int, ds = [.list (bs.map PyData.int)] ∧ g = .int bs.sum) ?_ (wD_mono w fun ds y1 ⟨i, e, q⟩ => ⟨_, ⟨i, e, rfl⟩, q⟩)
  rintro M H xs ds g Q _ r ⟨bs, rfl, rfl⟩ k
  obtain ⟨v, rfl, rv⟩ := rpA1 r
  obtain ⟨a, us, rfl, h1, h2⟩ := rp_lst rv
  have e := rpA_ints h2
  subst e
  exact ⟨a, bs, rfl, h1.sq, k _ H (fun _ _ e => e) (.int _)⟩
def dItems : D → Option (List D)
  | .list xs => some xs
  | .tuple xs => some xs
  | _ => none
theorem rp_items {K : Fg} {M : Addr → Prop} {H : Hp} {v : V} {d : D} {xs : List D} (r : Rp K M H v d) (h : dItems d = some xs) : ∃ a us, v = .ref a ∧ (LsA K M H a us ∨ TsA K M H a us) ∧ RpA K M H us xs := by
  cases r with
  | non => cases h
  | bl _ => cases h
  | int _ => cases h
  | str _ => cases h
  | dic _ _ _ => cases h
  | lst h1 h2 => cases h; exact ⟨_, _, rfl, .inl h1, h2⟩
  | tup h1 h2 => cases h; exact ⟨_, _, rfl, .inr h1, h2⟩
theorem wE_listOf (w : wD C ts y fun ds y1 => ∃ d xs, ds = [d] ∧ dItems d = some xs ∧ Q (.d (.list xs)) y1) :
    wE C (tCB (fun xs H Q => ∃ p ys, xs = [.ref p] ∧ (SqL C.K H p ys ∨ SqT C.K H p ys) ∧ ∀ l, H l = none → Q (.ref l) (upd H l (.lst ys))) ts) y Q := by
  refine wE_cb (res := fun ds g => ∃ d xs, ds = [d] ∧ dItems d = some xs ∧ g = .list xs) ?_ (wD_mono w fun ds y1 ⟨i, xs, e, c, q⟩ => ⟨_, ⟨i, xs, e, c, rfl⟩, q⟩)
  rintro M H xs ds g Q fr r ⟨d, es, rfl, c, rfl⟩ k
  obtain ⟨v, rfl, rv⟩ := rpA1 r
  obtain ⟨a, us, rfl, h1, h2⟩ := rp_items rv c
  refine ⟨a, us, rfl, h1.elim (fun z => .inl z.sq) (fun z => .inr z.sq), fun p hp => k _ _ (grow_upd hp) (.lst (.inl ⟨fr p hp, .inl upd_same⟩) (h2.go fun a o n e => ⟨n, grow_upd hp a o e⟩))⟩
theorem wE_tupOf (w : wD C ts y fun ds y1 => ∃ d xs, ds = [d] ∧ dItems d = some xs ∧ Q (.d (.tuple xs)) y1) :
    wE C (tCB (fun xs H Q => ∃ p ys, xs = [.ref p] ∧ ((SqL C.K H p ys ∧ ∀ l, H l = none → Q (.ref l) (upd H l (.tup ys))) ∨ (SqT C.K H p ys ∧ Q (.ref p) H))) ts) y Q := by
  refine wE_cb (res := fun ds g => ∃ d xs, ds = [d] ∧ dItems d = some xs ∧ g = .tuple xs) ?_ (wD_mono w fun ds y1 ⟨i, xs, e, c, q⟩ => ⟨_, ⟨i, xs, e, c, rfl⟩, q⟩)
  rintro M H xs ds g Q fr r ⟨d, es, rfl, c, rfl⟩ k
  obtain ⟨v, rfl, rv⟩ := rpA1 r
  obtain ⟨a, us, rfl, h1, h2⟩ := rp_items rv c
  refine ⟨a, us, rfl, ?_⟩
  rcases h1 with h1 | h1
  · exact .inl ⟨h1.sq, fun p hp => k _ _ (grow_upd hp) (.tup (.inl ⟨fr p hp, .inl upd_same⟩) (h2.go fun a o n e => ⟨n, grow_upd hp a o e⟩))⟩
  · exact .inr ⟨h1.sq, k _ H (fun _ _ e => e) (.tup h1 h2)⟩
theorem wE_repr (w : wD C ts y fun ds y1 => ∃ d, ds = [d] ∧ dsm d = true ∧ d.showable = true ∧ d.depth ≤ 60 ∧ d.shown.length ≤ sizeLine ∧ Q (.d (.str d.shown)) y1) : wE C (tCB (rRepr C.K) ts) y Q := by
  refine wE_cb (res := fun ds g => ∃ d, ds = [d] ∧ dsm d = true ∧ d.showable = true ∧ d.depth ≤ 60 ∧ d.shown.length ≤ sizeLine ∧ g = .str d.shown) ?_ (wD_mono w fun ds y1 ⟨d, e, c1, c2, c3, c4, q⟩ => ⟨_, ⟨d, e, c1, c2, c3, c4, rfl⟩, q⟩)
  rintro M H xs ds g Q _ r ⟨d, rfl, c1, c2, c3, c4, rfl⟩ k
  obtain ⟨v, rfl, rv⟩ := rpA1 r
  exact ⟨v, d, rfl, rv.any, c1, c2, c3, c4, k _ H (fun _ _ e => e) (.str _)⟩
/-! isinstance -/
def tyN : D → String
  | .none => "NoneType"
  | .bool _ => "bool"
  | .int _ => "int"
  | .str _ => "str"
  | .list _ => "list"
  | .tuple _ => "tuple"
  | .dict _ => "dict"
def tyNames : List String := ["NoneType", "bool", "int", "str", "list", "tuple", "dict"]
def isT (T : String) (d : D) : Bool := (kitB (tyN d) T).getD false
theorem rp_ty {K : Fg} {M : Addr → Prop} {H : Hp} {v : V} {d : D} (r : Rp K M H v d) : TyX K H v (.type (tyN d)) := by
  cases r with
  | non => exact .base .non
  | bl b => exact .base (.bl b)
  | int b => exact .base (.int b)
  | str b => exact .base (.str b)
  | lst h _ =>
    rcases h with ⟨_, h | ⟨o, h⟩⟩ | ⟨o, its, n, h1, h2, _⟩
    · exact .base (.lst h)
    · exact .base (.frz h)
    · exact .kList h1 h2
  | tup h _ =>
    rcases h with ⟨_, h | ⟨o, h⟩⟩ | ⟨o, its, n, h1, h2, _⟩
    · exact .base (.tup h)
    · exact .fTuple h
    · exact .kTuple h1 h2
  | dic _ h _ => exact .base (.dK h)
theorem kit_isT {T : String} (hT : (tyNames.all fun n => (kitB n T).isSome) = true) (d : D) : kitB (tyN d) T = some (isT T d) := by
  have h : (kitB (tyN d) T).isSome = true := by
    have z := List.all_eq_true.mp hT
    exact z (tyN d) (by cases d <;> simp [tyN, tyNames])
  unfold isT
  cases e : kitB (tyN d) T with
  | none => rw [e] at h; cases h
  | some b => rfl
theorem wE_isi {T : String} (w : wE C te y fun z y1 => ∃ d, z = .d d ∧ Q (.d (.bool (isT T d))) y1) (hT : (tyNames.all fun n => (kitB n T).isSome) = true := by decide +kernel) : wE C (tCB (rIsi C.K) (tCons te (tCons (tC (.ty T)) tNil))) y Q := by
  intro F σ H K wd k
  refine w F σ H _ wd fun x H1 z y1 w1 g1 s1 r1 q1 => ?_
  obtain ⟨d, rfl, h⟩ := q1
  exact ⟨x, .ty T, _, _, isT T d, rfl, .ty T, rp_ty r1, kit_ty (kit_isT hT d), k _ H1 (.d (.bool (isT T d))) y1 w1 g1 s1 (.bl _) h⟩
theorem wE_isi2 {T U : String} (w : wE C te y fun z y1 => ∃ d, z = .d d ∧ Q (.d (.bool (isT T d || isT U d))) y1) (hT : (tyNames.all fun n => (kitB n T).isSome) = true := by decide +kernel) (hU : (tyNames.all fun n => (kitB n U).isSome) = true := by decide +kernel) :
    wE C (tCB (rIsiT C.K) (tCons te (tCons (tTup (tCons (tC (.ty T)) (tCons (tC (.ty U)) tNil))) tNil))) y Q := by
  intro F σ H K wd k
  refine w F σ H _ wd fun x H1 z y1 w1 g1 s1 r1 q1 => ?_
  obtain ⟨d, rfl, h⟩ := q1
  refine ⟨by show 2 ≤ sizeLine; decide, fun p hp => ?_⟩
  have gr := grow_upd (o := .tup [.ty T, .ty U]) hp
  refine ⟨x, p, [.ty T, .ty U], _, [.type T, .type U], isT T d || isT U d, rfl, upd_same, .cons (.ty T) (.cons (.ty U) .nil), rp_ty (Rp.go (go_grow (F := F) (σ := σ) (y := y1) gr) r1), ?_, k _ _ (.d (.bool (isT T d || isT U d))) y1 (w1.grow gr) (g1.trans (go_grow gr)) s1 (.bl _) h⟩
  refine kitAny_cons (b := isT T d) (kit_ty (kit_isT hT d)) (fun e => ?_) (fun e => by rw [e]; rfl)
  refine kitAny_cons (b := isT U d) (kit_ty (kit_isT hU d)) (fun e2 => ?_) (fun e2 => by rw [e, e2]; rfl)
  rw [e, e2]
  rfl
/-! slices -/
variable {tl th : TO}
theorem wO_no {q : Option Int → S → Prop} (h : q none y) : wO C tNoPart y q := fun F σ H K wd k => k none H y wd GoH.refl (Sh.refl y) h
theorem wO_part {q : Option Int → S → Prop} (w : wE C te y fun z y1 => ∃ i, z = .d (.int i) ∧ q (some i) y1) : wO C (tPart te) y q := by
  intro F σ H K wd k
  refine w F σ H _ wd fun x H1 z y1 w1 g1 s1 r1 q1 => ?_
  obtain ⟨i, rfl, h⟩ := q1
  exact ⟨i, rp_int r1, k (some i) H1 y1 w1 g1 s1 h⟩
def cutD {α : Type} (xs : List α) (lo hi : Option Int) : List α := (xs.drop (HT.sIx xs.length 0 lo)).take (HT.sIx xs.length xs.length hi - HT.sIx xs.length 0 lo)
theorem rpA_cut {K : Fg} {M : Addr → Prop} {H : Hp} {vs : List V} {ds : List D} (r : RpA K M H vs ds) (lo hi : Option Int) : RpA K M H (cutV vs lo hi) (cutD ds lo hi) := by
  unfold cutV cutD
  rw [r.len]
  exact (r.drop _).take _
def dCut (d : D) (lo hi : Option Int) : Option D := match d with
  | .list xs => some (.list (cutD xs lo hi))
  | .tuple xs => some (.tuple (cutD xs lo hi))
  | .str z => if z.length ≤ sizeLine then some (.str (cutS z lo hi)) else none
  | _ => none
def rSlD (K : Fg) : V → Option Int → Option Int → Hp → VK → Prop := fun x lo hi H Q => rSlL K x lo hi H Q ∨ rSlA K x lo hi H Q ∨ rSlS x lo hi H Q
theorem sl_any {X : Cx} : SlR X (rSlD X.K) := sl_list.or (sl_tupA.or sl_str)
theorem cutD_whole {α : Type} (xs : List α) (lo hi : Option Int) (h : HT.sIx xs.length 0 lo = 0 ∧ HT.sIx xs.length xs.length hi = xs.length) : cutD xs lo hi = xs := by
  unfold cutD
  rw [h.1, h.2, List.drop_zero, Nat.sub_zero, List.take_length]
theorem wE_sl (w : wE C te y fun z y1 => wO C tl y1 fun l y2 => wO C th y2 fun h y3 => ∃ d g, z = .d d ∧ dCut d l h = some g ∧ Q (.d g) y3) : wE C (tSl (rSlD C.K) te tl th) y Q := by
  intro F σ H K wd k
  refine w F σ H _ wd fun x H1 z y1 w1 g1 s1 r1 q1 => ?_
  refine q1 F σ H1 _ w1 fun l H2 y2 w2 g2 s2 q2 => ?_
  refine q2 F σ H2 _ w2 fun h H3 y3 w3 g3 s3 q3 => ?_
  obtain ⟨d, g, rfl, c, hq⟩ := q3
  have r3 : Rp C.K (Mv F σ y3) H3 x d := Rp.go (g2.trans g3) r1
  have G := (g1.trans g2).trans g3
  have SS := (s1.trans s2).trans s3
  cases r3 with
  | non => cases c
  | bl _ => cases c
  | int _ => cases c
  | dic _ _ _ => cases c
  | str z =>
    simp only [dCut] at c
    by_cases hz : z.length ≤ sizeLine
    · rw [if_pos hz] at c; cases c
      exact .inr (.inr ⟨z, rfl, hz, k _ H3 (.d (.str (cutS z l h))) y3 w3 G SS (.str _) hq⟩)
    · rw [if_neg hz] at c; cases c
  | @lst a xs ds h1 h2 =>
    cases c
    refine .inl ⟨a, xs, rfl, h1.sq, fun p hp => ?_⟩
    have gr := grow_upd (o := .lst (cutV xs l h)) hp
    exact k _ _ (.d (.list (cutD ds l h))) y3 (w3.grow gr) (G.trans (go_grow gr)) SS (.lst (.inl ⟨w3.new hp, .inl upd_same⟩) ((rpA_cut h2 l h).go (go_grow gr))) hq
  | @tup a xs ds h1 h2 =>
    cases c
    refine .inr (.inl ⟨a, xs, rfl, h1.sq, fun e => ?_, fun e p hp => ?_⟩)
    · rw [h2.len] at e
      rw [cutD_whole ds l h e] at hq
      exact k _ H3 (.d (.tuple ds)) y3 w3 G SS (.tup h1 h2) hq
    · have gr := grow_upd (o := .tup (cutV xs l h)) hp
      exact k _ _ (.d (.tuple (cutD ds l h))) y3 (w3.grow gr) (G.trans (go_grow gr)) SS (.tup (.inl ⟨w3.new hp, .inl upd_same⟩) ((rpA_cut h2 l h).go (go_grow gr))) hq
/-! texts' methods -/
theorem wE_starts (w : wE C ta y fun z y1 => ∃ a, z = .d (.str a) ∧ wE C tb y1 fun z' y2 => ∃ b, z' = .d (.str b) ∧ Q (.d (.bool (Txt.startswith a b))) y2) :
    wE C (tM1 (fun x xs H Q => ∃ a b, x = .str a ∧ xs = [.str b] ∧ Q (.bl (Txt.startswith a b)) H) ta tb) y Q := by
  intro F σ H K wd k
  refine w F σ H _ wd fun x H1 z y1 w1 g1 s1 r1 q1 => ?_
  obtain ⟨a, rfl, q1⟩ := q1
  have e := rp_str r1
  subst e
  refine ⟨⟨a, rfl⟩, q1 F σ H1 _ w1 fun x2 H2 z' y2 w2 g2 s2 r2 q2 => ?_⟩
  obtain ⟨b, rfl, hq⟩ := q2
  exact ⟨a, b, rfl, by rw [rp_str r2], k _ H2 (.d (.bool _)) y2 w2 (g1.trans g2) (s1.trans s2) (.bl _) hq⟩
theorem wE_join (w : wE C ta y fun z y1 => ∃ a, z = .d (.str a) ∧ wE C tb y1 fun z' y2 => ∃ (d : D) (ys : List Str), z' = .d d ∧ dItems d = some (ys.map PyData.str) ∧ (ys.map (·.length)).sum + ys.length * a.length ≤ 16777216 ∧ Q (.d (.str (Txt.join a ys))) y2) :
    wE C (tM1 (fun x xs H Q => ∃ a p, ∃ ys : List Str, x = .str a ∧ xs = [.ref p] ∧ (SqL C.K H p (ys.map V.str) ∨ SqT C.K H p (ys.map V.str)) ∧ (ys.map (·.length)).sum + ys.length * a.length ≤ 16777216 ∧ Q (.str (Txt.join a ys)) H) ta tb) y Q := by
  intro F σ H K wd k
  refine w F σ H _ wd fun x H1 z y1 w1 g1 s1 r1 q1 => ?_
  obtain ⟨a, rfl, q1⟩ := q1
  have e := rp_str r1
  subst e
  refine ⟨⟨a, rfl⟩, q1 F σ H1 _ w1 fun x2 H2 z' y2 w2 g2 s2 r2 q2 => ?_⟩
  obtain ⟨d, ys, rfl, hi, hz, hq⟩ := q2
  obtain ⟨p, us, rfl, h1, h2⟩ := rp_items r2 hi
  have e := rpA_strs h2
  subst e
  exact ⟨a, p, ys, rfl, rfl, h1.elim (fun z => .inl z.sq) (fun z => .inr z.sq), hz, k _ H2 (.d (.str _)) y2 w2 (g1.trans g2) (s1.trans s2) (.str _) hq⟩
end
end Tq

set_option maxRecDepth 100000
set_option maxHeartbeats 2000000
namespace Tq
open PySem PySem.Spec PyProof.Rows L2
section
variable {C : Ct} {y : S} {ta tb tc te : TE} {t u : TT} {tx tz : TS} {ts : TA} {e : En} {R : Bool → S → Prop}
theorem EnOk.go {σ σ' : St} {y' : S} {H H' : Hp} {E : Ends} (k : EnOk C F σ y H e E) (g : Go F σ y H σ' y' H') : EnOk C F σ' y' H' e E :=
  ⟨fun a b c w g2 q => k.nx a b c w (g.trans g2) q, fun a b c d f w g2 r q => k.rt a b c d f w (g.trans g2) r q, fun a b c w g2 q => k.bk a b c w (g.trans g2) q, fun a b c w g2 q => k.ct a b c w (g.trans g2) q⟩
theorem wS_seq (w : wS C tx y { e with nx := fun y1 => wS C tz y1 e }) : wS C (tSeq tx tz) y e := by
  intro F σ H E st wd k
  refine w F σ H _ st wd ⟨fun σ1 H1 y1 w1 g1 q => ?_, k.rt, k.bk, k.ct⟩
  exact q F σ1 H1 E st w1 (k.go g1)
theorem wS_next (h : e.nx y) : wS C tNext y e := fun F σ H E st wd k => k.nx σ H y wd GoH.refl h
theorem wS_ret (w : wE C te y fun z y1 => e.rt z y1) : wS C (tRet te) y e := by
  intro F σ H E st wd k
  exact w F σ H _ wd fun v H1 z y1 w1 g1 s1 r1 q => k.rt σ v H1 z y1 w1 g1 r1 q
theorem wS_retN (h : e.rt (.d .none) y) : wS C tRetN y e := fun F σ H E st wd k => k.rt σ .non H (.d .none) y wd GoH.refl .non h
theorem wS_drop (w : wE C te y fun z y1 => e.nx y1) : wS C (tDrop te) y e := by
  intro F σ H E st wd k
  exact w F σ H _ wd fun v H1 z y1 w1 g1 s1 r1 q => k.nx σ H1 y1 w1 g1 q
theorem wS_asg {i : Nat} (w : wE C te y fun z y1 => ∃ d, z = .d d ∧ e.nx (y1.set i (some (.d d)))) (hp : i ≠ 0 ∨ C.pp = false := by first | exact Or.inr rfl | exact Or.inl (by decide)) : wS C (tAsg te (gName i)) y e := by
  intro F σ H E st wd k
  refine w F σ H _ wd fun v H1 z y1 w1 g1 s1 r1 q => ?_
  obtain ⟨d, rfl, q⟩ := q
  exact k.nx _ H1 _ (w1.set_d hp r1) (g1.trans go_set_d) q
theorem wS_if (w : wT C t y fun b y1 => if b = true then wS C tx y1 e else wS C tz y1 e) : wS C (tIfS t tx tz) y e := by
  intro F σ H E st wd k
  refine w F σ H _ wd fun b H1 y1 w1 g1 s1 q => ?_
  cases b with
  | true => exact q F σ H1 E st w1 (k.go g1)
  | false => exact q F σ H1 E st w1 (k.go g1)
theorem wS_par {i j : Nat} (w : wD C ts y fun ds y1 => ∃ d g, ds = [d, g] ∧ e.nx ((y1.set i (some (.d d))).set j (some (.d g)))) (hp : i ≠ 0 ∨ C.pp = false := by first | exact Or.inr rfl | exact Or.inl (by decide)) (hq : j ≠ 0 ∨ C.pp = false := by first | exact Or.inr rfl | exact Or.inl (by decide)) : wS C (tPar i j ts) y e := by
  intro F σ H E st wd k
  refine w F σ H _ wd fun vs H1 ds y1 w1 g1 s1 r1 q => ?_
  obtain ⟨d, g, rfl, q⟩ := q
  obtain ⟨v, u, rfl, rv, ru⟩ := rpA2 r1
  refine ⟨v, u, rfl, k.nx _ H1 _ ((w1.set_d hp rv).set_d hq (ru.go go_set_d)) ((g1.trans go_set_d).trans go_set_d) q⟩
theorem wS_aug {i : Nat} {f : Int → Int → Int} {a : Int} (hx : y[i]? = some (some (.d (.int a)))) (w : wE C te y fun z y1 => ∃ b, z = .d (.int b) ∧ e.nx (y1.set i (some (.d (.int (f a b)))))) (hp : i ≠ 0 ∨ C.pp = false := by first | exact Or.inr rfl | exact Or.inl (by decide)) : wS C (tAug i te (ipI f)) y e := by
  intro F σ H E st wd k
  obtain ⟨x, h1, h2⟩ := wd.slot i _ hx
  refine ⟨x, h1, w F σ H _ wd fun v H1 z y1 w1 g1 s1 r1 q => ?_⟩
  obtain ⟨b, rfl, q⟩ := q
  exact ⟨a, b, rp_int h2, rp_int r1, k.nx _ H1 _ (w1.set_d hp (.int _)) (g1.trans go_set_d) q⟩
/-! ### the usual pairs -/
theorem wS_seqA {i : Nat} (w : wE C te y fun z y1 => ∃ d, z = .d d ∧ wS C tz (y1.set i (some (.d d))) e) (hp : i ≠ 0 ∨ C.pp = false := by first | exact Or.inr rfl | exact Or.inl (by decide)) : wS C (tSeq (tAsg te (gName i)) tz) y e := wS_seq (wS_asg w hp)
theorem wS_seqP {i j : Nat} (w : wD C ts y fun ds y1 => ∃ d g, ds = [d, g] ∧ wS C tz ((y1.set i (some (.d d))).set j (some (.d g))) e) (hp : i ≠ 0 ∨ C.pp = false := by first | exact Or.inr rfl | exact Or.inl (by decide)) (hq : j ≠ 0 ∨ C.pp = false := by first | exact Or.inr rfl | exact Or.inl (by decide)) : wS C (tSeq (tPar i j ts) tz) y e := wS_seq (wS_par w hp hq)
theorem wS_seqI (w : wT C t y fun b y1 => if b = true then wS C tx y1 { nx := fun y2 => wS C tz y2 e, rt := e.rt, bk := e.bk, ct := e.ct } else wS C tz y1 e) : wS C (tSeq (tIfS t tx tNext) tz) y e := by
  refine wS_seq (wS_if (wT_mono w fun b y1 h => ?_))
  cases b with
  | true => exact h
  | false => exact wS_next h
theorem wS_ifN (w : wT C t y fun b y1 => if b = true then wS C tx y1 e else e.nx y1) : wS C (tIfS t tx tNext) y e := by
  refine wS_if (wT_mono w fun b y1 h => ?_)
  cases b with
  | true => exact h
  | false => exact wS_next h
/-! ### what is walked -/
def JOk (C : Ct) (F : Fr) (J : It) (σ : St) (y : S) (H : Hp) (xs : List D) : Prop := ∀ (F1 : Fr) σ1 y1 H1, Wd C F1 σ1 y1 H1 → GoH (Mv F σ y) H (Mv F1 σ1 y1) H1 → ∀ i : Nat, (i < xs.length → J.go i H1) ∧ (xs.length ≤ i → J.stop i H1) ∧
  ∀ x, xs[i]? = some x → ∀ v H2, J.yld i H1 v H2 → (∀ a o, H1 a = some o → H2 a = some o) ∧ Rp C.K (Mv F1 σ1 y1) H2 v x
def wI (C : Ct) (wi : TI) (y : S) (Q : List D → S → Prop) : Prop := ∀ (F : Fr) σ H (R : It → Hp → Prop), Wd C F σ y H → (∀ J H' xs y', Wd C F σ y' H' → Go F σ y H σ y' H' → Sh y y' → JOk C F J σ y' H' xs → Q xs y' → R J H') → wi σ H R
variable {Qi : List D → S → Prop} {wi : TI}
theorem wI_list (w : wE C te y fun z y1 => ∃ xs, z = .d (.list xs) ∧ Qi xs y1) : wI C (iList C.K te) y Qi := by
  intro F σ H R wd k
  refine w F σ H _ wd fun v H1 z y1 w1 g1 s1 r1 q => ?_
  obtain ⟨xs, rfl, q⟩ := q
  obtain ⟨a, us, rfl, h1, h2⟩ := rp_lst r1
  refine ⟨a, rfl, ⟨us, h1.sq⟩, k _ H1 xs y1 w1 g1 s1 (fun F1 σ2 y2 H2 w2 g2 i => ?_) q⟩
  have e1 := (h1.go g2).sq
  have e2 := h2.go g2
  refine ⟨fun hi => ?_, fun hi => ⟨us, e1, by rw [h2.len]; exact hi⟩, fun x hx v H3 hy => ?_⟩
  · have : i < us.length := by rw [h2.len]; exact hi
    exact ⟨us, us[i], e1, by simp [this]⟩
  · obtain ⟨rfl, hv⟩ := hy
    obtain ⟨d, hd, rd⟩ := e2.getV (hv us e1)
    rw [hx] at hd
    cases hd
    exact ⟨fun _ _ e => e, rd⟩
theorem wI_tup (w : wE C te y fun z y1 => ∃ xs, z = .d (.tuple xs) ∧ Qi xs y1) : wI C (iTup C.K te) y Qi := by
  intro F σ H R wd k
  refine w F σ H _ wd fun v H1 z y1 w1 g1 s1 r1 q => ?_
  obtain ⟨xs, rfl, q⟩ := q
  obtain ⟨a, us, rfl, h1, h2⟩ := rp_tup r1
  refine ⟨a, rfl, ⟨us, h1.sq⟩, k _ H1 xs y1 w1 g1 s1 (fun F1 σ2 y2 H2 w2 g2 i => ?_) q⟩
  have e1 := (h1.go g2).sq
  have e2 := h2.go g2
  refine ⟨fun hi => ?_, fun hi => ⟨us, e1, by rw [h2.len]; exact hi⟩, fun x hx v H3 hy => ?_⟩
  · have : i < us.length := by rw [h2.len]; exact hi
    exact ⟨us, us[i], e1, by simp [this]⟩
  · obtain ⟨rfl, hv⟩ := hy
    obtain ⟨d, hd, rd⟩ := e2.getV (hv us e1)
    rw [hx] at hd
    cases hd
    exact ⟨fun _ _ e => e, rd⟩
/-- the signs of a text -/
def signs (z : Str) : List D := z.cps.toList.map fun c => .str ⟨#[c]⟩
theorem signs_len (z : Str) : (signs z).length = z.cps.size := by unfold signs; rw [List.length_map, Array.length_toList]
theorem wI_str (w : wE C te y fun z y1 => ∃ x, z = .d (.str x) ∧ Qi (signs x) y1) : wI C (iStr te) y Qi := by
  intro F σ H R wd k
  refine w F σ H _ wd fun v H1 z y1 w1 g1 s1 r1 q => ?_
  obtain ⟨x, rfl, q⟩ := q
  refine ⟨x, rp_str r1, k _ H1 (signs x) y1 w1 g1 s1 (fun F1 σ2 y2 H2 w2 g2 i => ⟨fun hi => ?_, fun hi => ?_, fun d hd v H3 hy => ?_⟩) q⟩
  · rw [signs_len] at hi; exact hi
  · rw [signs_len] at hi; exact hi
  · obtain ⟨rfl, c, hc, rfl⟩ := hy
    refine ⟨fun _ _ e => e, ?_⟩
    unfold signs at hd
    rw [List.getElem?_map, Array.getElem?_toList, hc] at hd
    cases hd
    exact .str _
def rangeD (lo : Int) (n : Nat) : List D := (List.range n).map fun k => .int (lo + (k : Nat))
theorem rangeD_len (lo : Int) (n : Nat) : (rangeD lo n).length = n := by unfold rangeD; rw [List.length_map, List.length_range]
theorem rangeD_get {lo : Int} {n i : Nat} {x : D} (h : (rangeD lo n)[i]? = some x) : i < n ∧ x = .int (lo + (i : Nat)) := by
  have hl : i < n := by have := (List.getElem?_eq_some_iff.mp h).1; rwa [rangeD_len] at this
  unfold rangeD at h
  rw [List.getElem?_map, List.getElem?_range hl] at h
  cases h
  exact ⟨hl, rfl⟩
theorem wI_rng1 (w : wD C ts y fun ds y1 => ∃ j : Int, ds = [.int j] ∧ -(2 ^ 62) ≤ j ∧ j < 2 ^ 62 ∧ Qi (rangeD 0 j.toNat) y1) : wI C (iRng1 ts) y Qi := by
  intro F σ H R wd k
  refine w F σ H _ wd fun vs H1 ds y1 w1 g1 s1 r1 q => ?_
  obtain ⟨j, rfl, h1, h2, q⟩ := q
  obtain ⟨v, rfl, rv⟩ := rpA1 r1
  have e := rp_int rv
  subst e
  refine ⟨j, rfl, h1, h2, k _ H1 _ y1 w1 g1 s1 (fun F1 σ2 y2 H2 w2 g2 i => ⟨fun hi => ?_, fun hi => ?_, fun d hd v H3 hy => ?_⟩) q⟩
  · rw [rangeD_len] at hi; exact hi
  · rw [rangeD_len] at hi; exact hi
  · obtain ⟨rfl, rfl⟩ := hy
    obtain ⟨_, rfl⟩ := rangeD_get hd
    exact ⟨fun _ _ e => e, .int _⟩
theorem wI_rng2 (w : wD C ts y fun ds y1 => ∃ i j : Int, ds = [.int i, .int j] ∧ (-(2 ^ 62) ≤ i ∧ i < 2 ^ 62 ∧ -(2 ^ 62) ≤ j ∧ j < 2 ^ 62) ∧ Qi (rangeD i (j - i).toNat) y1) : wI C (iRng2 ts) y Qi := by
  intro F σ H R wd k
  refine w F σ H _ wd fun vs H1 ds y1 w1 g1 s1 r1 q => ?_
  obtain ⟨i0, j, rfl, h1, q⟩ := q
  obtain ⟨v, u, rfl, rv, ru⟩ := rpA2 r1
  have e := rp_int rv
  have e' := rp_int ru
  subst e e'
  refine ⟨i0, j, rfl, h1, k _ H1 _ y1 w1 g1 s1 (fun F1 σ2 y2 H2 w2 g2 i => ⟨fun hi => ?_, fun hi => ?_, fun d hd v H3 hy => ?_⟩) q⟩
  · rw [rangeD_len] at hi; exact hi
  · rw [rangeD_len] at hi; exact hi
  · obtain ⟨rfl, rfl⟩ := hy
    obtain ⟨_, rfl⟩ := rangeD_get hd
    exact ⟨fun _ _ e => e, .int _⟩
/-! ### for, while -/
/-- the target takes a datum -/
def wG (C : Ct) (g : TG) (d : D) (y : S) (Q : S → Prop) : Prop := ∀ (F : Fr) σ H (v : V) (R : St → Hp → Prop), Wd C F σ y H → Rp C.K (Mv F σ y) H v d → (∀ σ' y', Wd C F σ' y' H → Go F σ y H σ' y' H → Q y' → R σ' H) → g v σ H R
variable {g : TG} {Qg : S → Prop}
theorem wG_name {i : Nat} {d : D} (h : Qg (y.set i (some (.d d)))) (hp : i ≠ 0 ∨ C.pp = false := by first | exact Or.inr rfl | exact Or.inl (by decide)) : wG C (gName i) d y Qg := fun F σ H v R wd r k => k _ _ (wd.set_d hp r) go_set_d h
def wGs (C : Ct) (g : TGs) (ds : List D) (y : S) (Q : S → Prop) : Prop := ∀ (F : Fr) σ H (vs : List V) (R : St → Hp → Prop), Wd C F σ y H → RpA C.K (Mv F σ y) H vs ds → (∀ σ' y', Wd C F σ' y' H → Go F σ y H σ' y' H → Q y' → R σ' H) → g vs σ H R
theorem wGs_nil (h : Qg y) : wGs C gNil [] y Qg := fun F σ H vs R wd r k => by
  cases r
  exact ⟨rfl, k σ y wd GoH.refl h⟩
theorem wGs_cons {gs : TGs} {d : D} {ds : List D} (h : wG C g d y fun y1 => wGs C gs ds y1 Qg) : wGs C (gCons g gs) (d :: ds) y Qg := fun F σ H vs R wd r k => by
  cases r with
  | @cons v _ vs _ r1 r2 =>
    refine ⟨v, vs, rfl, h F σ H v _ wd r1 fun σ1 y1 w1 g1 q1 => ?_⟩
    exact q1 F σ1 H vs R w1 (r2.go g1) fun σ2 y2 w2 g2 q2 => k σ2 y2 w2 (g1.trans g2) q2
theorem wG_tup {n : Nat} {gs : TGs} {ds : List D} (hn : ds.length = n) (h : wGs C gs ds y Qg) : wG C (gTup C.K n gs) (.tuple ds) y Qg := fun F σ H v R wd r k => by
  obtain ⟨a, us, rfl, h1, h2⟩ := rp_tup r
  exact ⟨a, us, rfl, h1.sq, by rw [h2.len]; exact hn, h F σ H us R wd h2 k⟩
theorem wS_asgG (w : wE C te y fun z y1 => ∃ d, z = .d d ∧ wG C g d y1 e.nx) : wS C (tAsg te g) y e := by
  intro F σ H E st wd k
  refine w F σ H _ wd fun v H1 z y1 w1 g1 s1 r1 q => ?_
  obtain ⟨d, rfl, q⟩ := q
  exact q F σ H1 v _ w1 r1 fun σ2 y2 w2 g2 q2 => k.nx σ2 H1 y2 w2 (g1.trans g2) q2
theorem wS_for (w : wI C wi y fun xs y1 => ∃ I : Nat → S → Prop, I 0 y1 ∧ (∀ i x y2, xs[i]? = some x → I i y2 → wG C g x y2 fun y3 => wS C tx y3 { nx := I (i + 1), ct := I (i + 1), bk := e.nx, rt := e.rt }) ∧ (∀ y2, I xs.length y2 → e.nx y2)) :
    wS C (tFor wi g tx) y e := by
  intro F σ H E st wd k
  refine w F σ H _ wd fun J H1 xs y1 w1 g1 s1 hJ ⟨I, h0, hs, hd⟩ => ?_
  refine ⟨fun i m σ2 H2 => m = xs.length - i ∧ i ≤ xs.length ∧ ∃ y2, Wd C F σ2 y2 H2 ∧ Go F σ y1 H1 σ2 y2 H2 ∧ I i y2, ⟨xs.length, by simp, Nat.zero_le _, y1, w1, GoH.refl, h0⟩, ?_⟩
  rintro i m σ2 H2 ⟨rfl, hi, y2, w2, g2, hI⟩
  obtain ⟨j1, j2, j3⟩ := hJ F σ2 y2 H2 w2 g2 i
  by_cases hlt : i < xs.length
  · refine .inr ⟨j1 hlt, fun σ3 H3 => ∃ y3, Wd C F σ3 y3 H3 ∧ Go F σ y1 H1 σ3 y3 H3 ∧ I (i + 1) y3, fun σ3 H3 ⟨y3, w3, g3, h3⟩ => ⟨xs.length - (i + 1), by omega, rfl, hlt, y3, w3, g3, h3⟩, fun v H3 hy => ?_⟩
    have ex : xs[i]? = some xs[i] := List.getElem?_eq_getElem hlt
    obtain ⟨gr, rv⟩ := j3 _ ex v H3 hy
    have w3 := w2.grow gr
    have g3 := g2.trans (go_grow (F := F) (σ := σ2) (y := y2) gr)
    refine hs i _ y2 ex hI F σ2 H3 v _ w3 rv fun σ4 y4 w4 g4 q4 => ?_
    refine q4 F σ4 H3 _ st w4 ⟨fun σ5 H5 y5 w5 g5 q5 => ⟨y5, w5, (g3.trans g4).trans g5, q5⟩, fun σ5 v5 H5 z5 y5 w5 g5 r5 q5 => k.rt σ5 v5 H5 z5 y5 w5 (((g1.trans g3).trans g4).trans g5) r5 q5,
      fun σ5 H5 y5 w5 g5 q5 => k.nx σ5 H5 y5 w5 (((g1.trans g3).trans g4).trans g5) q5, fun σ5 H5 y5 w5 g5 q5 => ⟨y5, w5, (g3.trans g4).trans g5, q5⟩⟩
  · have ei : i = xs.length := by omega
    subst ei
    exact .inl ⟨j2 (Nat.le_refl _), k.nx σ2 H2 y2 w2 (g1.trans g2) (hd y2 hI)⟩
end
end Tq

set_option maxRecDepth 100000
set_option maxHeartbeats 2000000
namespace Tq
open PySem PySem.Spec PyProof.Rows L2
section
variable {C : Ct} {F : Fr} {σ : St} {y y' : S} {H H' : Hp}
theorem isO_none {j i : Nat} (h : isO (y.set j none) i = true) : i ≠ j ∧ isO y i = true := by
  rcases isO_set h with ⟨_, _, z, e, _⟩ | h | ⟨e, l⟩
  · cases e
  · exact h
  · have := isO_lt h; rw [List.length_set] at this; omega
theorem isO_none' {j i : Nat} (n : i ≠ j) : isO (y.set j none) i = isO y i := by
  unfold isO
  rw [List.getElem?_set_ne (Ne.symm n)]
theorem sh_none {j : Nat} (h : isO y j = false) : Sh y (y.set j none) := fun i => by
  by_cases e : i = j
  · subst e
    rw [h]
    cases q : isO (y.set i none) i with
    | false => rfl
    | true => exact absurd rfl (isO_none q).1
  · exact isO_none' e
/-- a slot is forgotten, its value may be another one -/
theorem Wd.unset (w : Wd C F σ y H) {j : Nat} {τ : St} (hl : τ.length = σ.length) (hτ : ∀ i, i ≠ j → τ[i]? = σ[i]?) (hp : j ≠ 0 ∨ C.pp = false) : Wd C F τ (y.set j none) H ∧ Go F σ y H τ (y.set j none) H := by
  have own : ∀ a, Own τ (y.set j none) a → Own σ y a := by
    rintro a ⟨i, hi, e⟩
    obtain ⟨n, o⟩ := isO_none hi
    rw [hτ i n] at e
    exact ⟨i, o, e⟩
  have g : Go F σ y H τ (y.set j none) H := fun a o n e => ⟨fun z => n (z.elim .inl fun z => .inr (own a z)), e⟩
  refine ⟨⟨w.keep, w.live0, w.live, by rw [hl, List.length_set]; exact w.len, fun i z e => ?_, fun i k a h1 h2 e1 e2 => ?_, fun a h => w.frsh a (own a h), fun e => ?_, w.sm, fun st i a h e s => ?_⟩, g⟩
  · have n : i ≠ j := by
      rintro rfl
      have hl := (List.getElem?_eq_some_iff.mp e).1
      rw [List.length_set] at hl
      rw [List.getElem?_set_self hl] at e
      cases e
    rw [List.getElem?_set_ne (Ne.symm n)] at e
    rw [hτ i n]
    have s := w.slot i z e
    cases z with
    | d d => obtain ⟨x, h1, h2⟩ := s; exact ⟨x, h1, h2.go g⟩
    | pu n => exact s
    | own ds => obtain ⟨a, xs, h1, h2, h3⟩ := s; exact ⟨a, xs, h1, h2, h3.go g⟩
  · obtain ⟨n1, o1⟩ := isO_none h1
    obtain ⟨n2, o2⟩ := isO_none h2
    rw [hτ i n1] at e1
    rw [hτ k n2] at e2
    exact w.dist i k a o1 o2 e1 e2
  · rcases hp with hp | hp
    · rw [hτ 0 (Ne.symm hp)]; exact w.pin e
    · rw [hp] at e; cases e
  · obtain ⟨n1, o1⟩ := isO_none h
    rw [hτ i n1] at e
    exact w.nb st i a o1 e s
theorem own_sh (s : Sh y y') {a : Addr} : Own σ y' a ↔ Own σ y a := by
  constructor
  · rintro ⟨i, hi, e⟩; exact ⟨i, by rw [← s i]; exact hi, e⟩
  · rintro ⟨i, hi, e⟩; exact ⟨i, by rw [s i]; exact hi, e⟩
theorem own_live (w : Wd C F σ y H) {a : Addr} (h : Own σ y a) : H a ≠ none := fun e => w.new e (.inr h)
/-- a frame within, at the heap as it stands: what is owned may change; l is apart -/
def sub (F : Fr) (σ : St) (y : S) (H : Hp) (l : Addr) : Fr := ⟨H, Own σ y, fun a => Mv F σ y a ∨ a = l, F.p, false⟩
theorem sub_mv {l a : Addr} {H0 : Hp} {u : S} (s : Sh u y) : Mv (sub F σ u H0 l) σ y a ↔ (Mv F σ u a ∨ a = l) := by
  constructor
  · rintro (z | z)
    · exact z
    · exact .inl (.inr ((own_sh s).mp z))
  · exact .inl
theorem slots_go {M : Addr → Prop} {z : Y} {v : Option (Option V)} (g : GoH (Mv F σ y) H M H') (hk : ∀ a o, v = some (some (.ref a)) → z.o = true → H a = some o → H' a = some o) (s : SlotOk C.K (Mv F σ y) H v z) : SlotOk C.K M H' v z := by
  cases z with
  | d d => obtain ⟨x, h1, h2⟩ := s; exact ⟨x, h1, h2.go g⟩
  | pu n => obtain ⟨b, h1, x, c, d, h2, h3⟩ := s; exact ⟨b, h1, x, c, d, hk _ _ h1 rfl h2, h3⟩
  | own ds => obtain ⟨b, xs, h1, h2, h3⟩ := s; exact ⟨b, xs, h1, hk _ _ h1 rfl h2, h3.go g⟩
theorem Wd.into (w : Wd C F σ y H) {l : Addr} {o : HO} (h : H l = none) : Wd C (sub F σ y (upd H l o) l) σ y (upd H l o) := by
  have nl : ¬ Mv F σ y l := w.new h
  have g : GoH (Mv F σ y) H (Mv (sub F σ y (upd H l o) l) σ y) (upd H l o) := fun a u n e => by
    have ne : a ≠ l := ne_of_none e h
    exact ⟨fun z => ((sub_mv (Sh.refl y)).mp z).elim n ne, by rw [upd_ne ne]; exact e⟩
  have lv : ∀ a, (Mv F σ y a ∨ a = l) → upd H l o a ≠ none := by
    rintro a (z | z) e
    · by_cases ha : a = l
      · exact nl (ha ▸ z)
      · rw [upd_ne ha] at e
        rcases z with z | z
        · exact w.live a z e
        · exact own_live w z e
    · rw [z, upd_same] at e; cases e
  exact ⟨fun a u _ e => e, lv, lv, w.len, fun i z e => slots_go g (fun a u _ _ e => grow_upd h a u e) (w.slot i z e), w.dist, fun a ha => .inl ha, w.pin, fun a z => .inl (.inr z), fun q => nomatch q⟩
/-- the frame within, with l written, at the heap as it stands then -/
theorem Wd.reb {u : S} {H0 : Hp} {l : Addr} {o : HO} (w : Wd C (sub F σ u H0 l) σ y H) (s : Sh u y) (nl : ¬ Own σ u l) : Wd C (sub F σ u (upd H l o) l) σ y (upd H l o) := by
  have g : GoH (Mv (sub F σ u H0 l) σ y) H (Mv (sub F σ u (upd H l o) l) σ y) (upd H l o) := fun a v n e => by
    have ne : a ≠ l := fun z => n ((sub_mv s).mpr (.inr z))
    exact ⟨fun z => n ((sub_mv s).mpr ((sub_mv s).mp z)), by rw [upd_ne ne]; exact e⟩
  have lv : ∀ a, (Mv F σ u a ∨ a = l) → upd H l o a ≠ none := fun a z e => by
    by_cases ha : a = l
    · rw [ha, upd_same] at e; cases e
    · rw [upd_ne ha] at e; exact w.live a z e
  refine ⟨fun a v _ e => e, lv, lv, w.len, fun i z e => slots_go g (fun a v e1 e2 e3 => ?_) (w.slot i z e), w.dist, fun a ha => .inl ((own_sh s).mp ha), w.pin, fun a z => .inl (.inr z), fun q => nomatch q⟩
  have ne : a ≠ l := by
    rintro rfl
    exact nl ((own_sh s).mp ⟨i, by unfold isO; rw [e]; exact e2, e1⟩)
  rw [upd_ne ne]; exact e3
theorem Wd.regrow {u : S} {H0 : Hp} {l : Addr} (w : Wd C (sub F σ u H0 l) σ y H) (s : Sh u y) (gr : ∀ a o, H a = some o → H' a = some o) : Wd C (sub F σ u H' l) σ y H' := by
  have w2 := w.grow gr
  exact ⟨fun a v _ e => e, w2.live, w2.live, w2.len, w2.slot, w2.dist, fun a ha => .inl ((own_sh s).mp ha), w2.pin, fun a z => .inl (.inr z), fun q => nomatch q⟩
theorem Wd.outOf {u : S} {H0 H2 : Hp} {l : Addr} (w : Wd C F σ u H) (h : H l = none) (w2 : Wd C (sub F σ u H0 l) σ y H2) (s : Sh u y) (kp : ∀ a o, ¬ Own σ u a → H a = some o → H2 a = some o) :
    Wd C F σ y H2 ∧ Go F σ u H σ y H2 ∧ ¬ Mv F σ y l ∧ GoH (Mv (sub F σ u H0 l) σ y) H2 (Mv F σ y) H2 ∧ GoH (Mv F σ u) H (Mv (sub F σ u H0 l) σ y) H2 := by
  have nl : ¬ Mv F σ u l := w.new h
  have mv : ∀ a, Mv F σ y a ↔ Mv F σ u a := fun a => ⟨fun z => z.elim .inl fun z => .inr ((own_sh s).mp z), fun z => z.elim .inl fun z => .inr ((own_sh s).mpr z)⟩
  have gd : GoH (Mv (sub F σ u H0 l) σ y) H2 (Mv F σ y) H2 := fun a v n e => ⟨fun z => n ((sub_mv s).mpr (.inl ((mv a).mp z))), e⟩
  have st : ∀ a o, ¬ Mv F σ u a → H a = some o → H2 a = some o := fun a o n e => kp a o (fun z => n (.inr z)) e
  refine ⟨⟨fun a v n e => ?_, w.live0, fun a m => w2.live a (.inl (.inl m)), w2.len, fun i z e => slots_go gd (fun _ _ _ _ e => e) (w2.slot i z e), w2.dist, fun a ha => w.frsh a ((own_sh s).mp ha), w2.pin, w.sm, fun q i a h e => w.nb q i a (by rw [← s i]; exact h) e⟩, fun a v n e => ⟨fun z => n ((mv a).mp z), st a v n e⟩, fun z => nl ((mv l).mp z), gd, fun a v n e => ⟨fun z => ((sub_mv s).mp z).elim n (ne_of_none e h), st a v n e⟩⟩
  refine kp a v (fun z => ?_) (w.keep a v n e)
  rcases w.frsh a z with q | q
  · exact n q
  · rw [q] at e; cases e
end
section
variable {C : Ct} {y : S} {te : TE} {tt : TT} {wi : TI} {Q : Z → S → Prop}
/-- [e for x in .. if ..] -/
theorem wE_lc {j : Nat} (hj : isO y j = false)
    (w : wI C wi y fun xs y1 => ∃ I : Nat → List D → S → Prop, xs.length ≤ sizeLine ∧ I 0 [] (y1.set j none) ∧
      (∀ i x acc y2, xs[i]? = some x → I i acc y2 → wT C tt (y2.set j (some (.d x))) fun b y3 => if b = true then wE C te y3 fun z y4 => ∃ d, z = .d d ∧ I (i + 1) (acc ++ [d]) (y4.set j none) else I (i + 1) acc (y3.set j none)) ∧
      (∀ acc y2, I xs.length acc y2 → acc.length ≤ xs.length → Q (.d (.list acc)) y2))
    (hp : j ≠ 0 ∨ C.pp = false := by first | exact Or.inr rfl | exact Or.inl (by decide)) :
    wE C (tLc wi (gName j) tt te [j]) y Q := by
  intro F σ H K wd k
  refine w F σ H _ wd fun J H1 xs y1 w1 g1 s1 hJ ⟨I, hz, h0, hs, hd⟩ => ?_
  intro l hl
  have wz : wipe σ [j] = σ.set j none := rfl
  obtain ⟨w1', g1'⟩ := w1.unset (j := j) (τ := σ) rfl (fun _ _ => rfl) hp
  have sz : Sh y1 (y1.set j none) := sh_none ((s1 j).trans hj)
  have uj : isO (y1.set j none) j = false := (sz j).trans ((s1 j).trans hj)
  generalize y1.set j none = u at w1' g1' sz h0 uj
  have wi1 := w1'.into (l := l) (o := .lst []) hl
  have nOl : ¬ Own σ u l := fun z => w1'.new hl (.inr z)
  refine ⟨fun i m H2 => m = xs.length - i ∧ i ≤ xs.length ∧ ∃ y2 acc vs, Wd C (sub F σ u H2 l) σ y2 H2 ∧ Sh u y2 ∧ (∀ a o, ¬ Own σ u a → H1 a = some o → H2 a = some o) ∧ I i acc y2 ∧ H2 l = some (.lst vs) ∧ RpA C.K (Mv (sub F σ u H2 l) σ y2) H2 vs acc ∧ acc.length ≤ i,
    ⟨xs.length, by simp, Nat.zero_le _, u, [], [], wi1, Sh.refl u, fun a o _ e => grow_upd hl a o e, h0, upd_same, .nil, Nat.zero_le _⟩, ?_⟩
  rintro i m H2 ⟨rfl, hi, y2, acc, vs, w2, s2, kp2, hI, hl2, rv2, ha2⟩
  obtain ⟨o1, o2, o3, o4, o5⟩ := w1'.outOf hl w2 s2 kp2
  obtain ⟨j1, j2, j3⟩ := hJ (sub F σ u H2 l) σ y2 H2 w2 (g1'.trans o5) i
  by_cases hlt : i < xs.length
  · refine .inr ⟨j1 hlt, fun H3 => ∃ y3 acc vs, Wd C (sub F σ u H3 l) σ y3 H3 ∧ Sh u y3 ∧ (∀ a o, ¬ Own σ u a → H1 a = some o → H3 a = some o) ∧ I (i + 1) acc y3 ∧ H3 l = some (.lst vs) ∧ RpA C.K (Mv (sub F σ u H3 l) σ y3) H3 vs acc ∧ acc.length ≤ i + 1,
      fun H3 h => ⟨xs.length - (i + 1), by omega, rfl, hlt, h⟩, fun v H3 hy => ?_⟩
    have ex : xs[i]? = some xs[i] := List.getElem?_eq_getElem hlt
    obtain ⟨gr, rv⟩ := j3 _ ex v H3 hy
    have w3 := w2.regrow s2 gr
    have gx : GoH (Mv (sub F σ u H2 l) σ y2) H2 (Mv (sub F σ u H3 l) σ y2) H3 := fun a o n e => ⟨fun z => n ((sub_mv s2).mpr ((sub_mv s2).mp z)), gr a o e⟩
    have gy : GoH (Mv (sub F σ u H2 l) σ y2) H3 (Mv (sub F σ u H3 l) σ y2) H3 := fun a o n e => ⟨fun z => n ((sub_mv s2).mpr ((sub_mv s2).mp z)), e⟩
    have w4 : Wd C (sub F σ u H3 l) (σ.set j (some v)) (y2.set j (some (.d xs[i]))) H3 := w3.set_d hp (rv.go gy)
    have g4 : GoH (Mv (sub F σ u H2 l) σ y2) H2 (Mv (sub F σ u H3 l) (σ.set j (some v)) (y2.set j (some (.d xs[i])))) H3 := gx.trans go_set_d
    have eσ : (wipe σ [j]).set j (some v) = σ.set j (some v) := by rw [wz, List.set_set]
    show wipe ((wipe σ [j]).set j (some v)) [j] = wipe σ [j] ∧ tt ((wipe σ [j]).set j (some v)) H3 _
    rw [eσ]
    refine ⟨by show (σ.set j (some v)).set j none = σ.set j none; rw [List.set_set], ?_⟩
    have back : ∀ {yy : S} {HH : Hp}, Wd C (sub F σ u H3 l) (σ.set j (some v)) yy HH → Sh (y2.set j (some (.d xs[i]))) yy →
        Wd C (sub F σ u H3 l) σ (yy.set j none) HH ∧ Sh u (yy.set j none) ∧ GoH (Mv (sub F σ u H3 l) (σ.set j (some v)) yy) HH (Mv (sub F σ u H3 l) σ (yy.set j none)) HH ∧
          (∀ a o, ¬ Own σ u a → H1 a = some o → HH a = some o) ∧ HH l = some (.lst vs) := by
      intro yy HH ww ss
      obtain ⟨a1, a2⟩ := ww.unset (j := j) (τ := σ) (by rw [List.length_set]) (fun n hn => (List.getElem?_set_ne (Ne.symm hn)).symm) hp
      refine ⟨a1, fun n => ?_, a2, fun a o na e => ww.keep a o na (gr a o (kp2 a o na e)), ww.keep l _ nOl (gr l _ hl2)⟩
      by_cases hn : n = j
      · subst hn
        rw [uj]
        cases q : isO (yy.set n none) n with
        | false => rfl
        | true => exact absurd rfl (isO_none q).1
      · rw [isO_none' hn, ss n]
        have : isO (y2.set j (some (.d xs[i]))) n = isO y2 n := by
          unfold isO
          rw [List.getElem?_set_ne (Ne.symm hn)]
        rw [this]
        exact s2 n
    refine hs i _ acc y2 ex hI (sub F σ u H3 l) _ H3 _ w4 fun b H5 y5 w5 g5 s5 q5 => ?_
    cases b with
    | false =>
      obtain ⟨b1, b2, b3, b4, b5⟩ := back w5 s5
      have b6 := b1.regrow b2 (H' := H5) (fun _ _ e => e)
      have gz : GoH (Mv (sub F σ u H3 l) σ (y5.set j none)) H5 (Mv (sub F σ u H5 l) σ (y5.set j none)) H5 := fun a o n e => ⟨fun z => n ((sub_mv b2).mpr ((sub_mv b2).mp z)), e⟩
      exact ⟨y5.set j none, acc, vs, b6, b2, b4, q5, b5, rv2.go (((g4.trans g5).trans b3).trans gz), by omega⟩
    | true =>
      refine q5 (sub F σ u H3 l) _ H5 _ w5 fun x6 H6 z6 y6 w6 g6 s6 r6 q6 => ?_
      obtain ⟨d, rfl, q6⟩ := q6
      obtain ⟨b1, b2, b3, b4, b5⟩ := back w6 (s5.trans s6)
      have hlen : vs.length = acc.length := rv2.len
      refine ⟨vs, b5, by omega, y6.set j none, acc ++ [d], vs ++ [x6], b1.reb b2 nOl, b2, fun a o na e => ?_, q6, upd_same, ?_, by rw [List.length_append]; simp; omega⟩
      · rw [upd_ne (ne_of_none e hl)]
        exact b4 a o na e
      · have gz : GoH (Mv (sub F σ u H3 l) σ (y6.set j none)) H6 (Mv (sub F σ u (upd H6 l (.lst (vs ++ [x6]))) l) σ (y6.set j none)) (upd H6 l (.lst (vs ++ [x6]))) := fun a o n e => by
          have ne : a ≠ l := fun z => n ((sub_mv b2).mpr (.inr z))
          exact ⟨fun z => n ((sub_mv b2).mpr ((sub_mv b2).mp z)), by rw [upd_ne ne]; exact e⟩
        exact (rv2.go ((((g4.trans g5).trans g6).trans b3).trans gz)).app (.cons (Rp.go (b3.trans gz) r6) .nil)
  · have ei : i = xs.length := by omega
    subst ei
    refine .inl ⟨j2 (Nat.le_refl _), ?_⟩
    exact k _ H2 (.d (.list acc)) y2 o1 ((g1.trans g1').trans o2) ((s1.trans sz).trans s2) (.lst (.inl ⟨o3, .inl hl2⟩) (rv2.go o4)) (hd acc y2 hI ha2)
/-- a comprehension whose turns change nothing -/
theorem wE_lcF {j : Nat} {y' : S} (p : D → Bool) (f : D → D) (hj : isO y j = false)
    (w : wI C wi y fun xs y1 => y1 = y' ∧ xs.length ≤ sizeLine ∧ (∀ x ∈ xs, wT C tt (y'.set j (some (.d x))) fun b y3 => y3 = y'.set j (some (.d x)) ∧ b = p x ∧ (p x = true → wE C te y3 fun z y4 => z = .d (f x) ∧ y4 = y'.set j (some (.d x)))) ∧ Q (.d (.list ((xs.filter p).map f))) (y'.set j none))
    (hp : j ≠ 0 ∨ C.pp = false := by first | exact Or.inr rfl | exact Or.inl (by decide)) :
    wE C (tLc wi (gName j) tt te [j]) y Q := by
  refine wE_lc hj (fun F σ H R wd k => w F σ H R wd fun J H1 xs y1 w1 g1 s1 hJ ⟨e, hz, hs, hq⟩ => k J H1 xs y1 w1 g1 s1 hJ ?_) hp
  subst e
  refine ⟨fun i acc y2 => y2 = y1.set j none ∧ acc = ((xs.take i).filter p).map f, hz, ⟨rfl, rfl⟩, fun i x acc y2 hx ⟨e1, e2⟩ => ?_, fun acc y2 ⟨e1, e2⟩ _ => ?_⟩
  · subst e1 e2
    have hm : x ∈ xs := List.mem_of_getElem? hx
    have ht : xs.take (i + 1) = xs.take i ++ [x] := by rw [List.take_add_one, hx]; rfl
    have es : (y1.set j none).set j (some (.d x)) = y1.set j (some (.d x)) := List.set_set ..
    have ef : (y1.set j (some (.d x))).set j none = y1.set j none := List.set_set ..
    rw [es]
    refine wT_mono (hs x hm) fun b y3 ⟨e3, eb, h3⟩ => ?_
    subst eb e3
    cases hpx : p x with
    | true =>
      show wE C te _ _
      refine wE_mono (h3 hpx) fun z y4 ⟨ez, ey⟩ => ⟨f x, ez, ?_, ?_⟩
      · rw [ey, ef]
      · rw [ht, List.filter_append, List.map_append, List.filter_cons, if_pos hpx]
        rfl
    | false =>
      refine ⟨ef, ?_⟩
      rw [ht, List.filter_append, List.filter_cons, if_neg (by rw [hpx]; simp), List.filter_nil, List.append_nil]
  · subst e1 e2
    rw [List.take_length]
    exact hq
end
end Tq

set_option maxRecDepth 100000
set_option maxHeartbeats 2000000
namespace Tq
open PySem PySem.Spec PyProof.Rows L2
/-! ### owned things -/
section
variable {C : Ct} {F : Fr} {σ : St} {y y' : S} {H H' : Hp}
theorem PuOk.mono {H : Hp} {a : Addr} {m n : Nat} (h : PuOk H a n) (l : m ≤ n) : PuOk H a m := by
  obtain ⟨x, b, c, h1, h2, h3, h4, h5, h6⟩ := h
  exact ⟨x, b, c, h1, h2, h3, h4, h5, by omega⟩
/-- a new thing is taken into a slot, owned -/
theorem Wd.set_own (w : Wd C F σ y H) {i : Nat} {p : Addr} {o : HO} {z : Y} (hz : z.o = true) (hn : H p = none) (hp : i ≠ 0 ∨ C.pp = false)
    (ok : ∀ M, GoH (Mv F σ y) H M (upd H p o) → SlotOk C.K M (upd H p o) (some (some (.ref p))) z) :
    Wd C F (σ.set i (some (.ref p))) (y.set i (some z)) (upd H p o) ∧ Go F σ y H (σ.set i (some (.ref p))) (y.set i (some z)) (upd H p o) := by
  have own : ∀ a, Own (σ.set i (some (.ref p))) (y.set i (some z)) a → a = p ∨ Own σ y a := by
    rintro a ⟨j, hj, e⟩
    rcases isO_set hj with ⟨rfl, hl, _⟩ | ⟨n, hO⟩ | ⟨rfl, hl⟩
    · rw [List.getElem?_set_self (by rw [w.len]; exact hl)] at e
      cases e
      exact .inl rfl
    · rw [List.getElem?_set_ne (Ne.symm n)] at e
      exact .inr ⟨j, hO, e⟩
    · have := isO_lt hj; rw [List.length_set] at this; omega
  have g : Go F σ y H (σ.set i (some (.ref p))) (y.set i (some z)) (upd H p o) := fun a u n e => by
    have ne : a ≠ p := ne_of_none e hn
    refine ⟨?_, by rw [upd_ne ne]; exact e⟩
    rintro (q | q)
    · exact n (.inl q)
    · rcases own a q with q | q
      · exact ne q
      · exact n (.inr q)
  have old : ∀ {j : Nat} {a : Addr}, isO y j = true → σ[j]? = some (some (.ref a)) → a ≠ p := fun hO e z => own_live w ⟨_, hO, e⟩ (z ▸ hn)
  refine ⟨⟨fun a u n e => grow_upd hn a u (w.keep a u n e), w.live0, fun a m e => ?_, by rw [List.length_set, List.length_set]; exact w.len, fun j x e => ?_, fun j k a h1 h2 e1 e2 => ?_, fun a h => ?_, fun e => ?_, w.sm, fun st j a h e s => ?_⟩, g⟩
  · cases q : H a with
    | none => exact w.live a m q
    | some u => rw [grow_upd hn a u q] at e; cases e
  · by_cases n : j = i
    · subst n
      have hl : j < y.length := by
        have := (List.getElem?_eq_some_iff.mp e).1
        rw [List.length_set] at this; exact this
      rw [List.getElem?_set_self hl] at e
      cases e
      rw [List.getElem?_set_self (by rw [w.len]; exact hl)]
      exact ok _ g
    · rw [List.getElem?_set_ne (Ne.symm n)] at e ⊢
      exact slots_go g (fun a u _ _ e => grow_upd hn a u e) (w.slot j x e)
  · rcases isO_set h1 with ⟨r1, l1, _⟩ | ⟨n1, o1⟩ | ⟨r1, l1⟩
    · rcases isO_set h2 with ⟨r2, l2, _⟩ | ⟨n2, o2⟩ | ⟨r2, l2⟩
      · rw [r1, r2]
      · rw [r1, List.getElem?_set_self (by rw [w.len]; exact l1)] at e1
        rw [List.getElem?_set_ne (Ne.symm n2)] at e2
        cases e1
        exact absurd rfl (old o2 e2)
      · have := isO_lt h2; rw [List.length_set] at this; omega
    · rcases isO_set h2 with ⟨r2, l2, _⟩ | ⟨n2, o2⟩ | ⟨r2, l2⟩
      · rw [r2, List.getElem?_set_self (by rw [w.len]; exact l2)] at e2
        rw [List.getElem?_set_ne (Ne.symm n1)] at e1
        cases e2
        exact absurd rfl (old o1 e1)
      · rw [List.getElem?_set_ne (Ne.symm n1)] at e1
        rw [List.getElem?_set_ne (Ne.symm n2)] at e2
        exact w.dist j k a o1 o2 e1 e2
      · have := isO_lt h2; rw [List.length_set] at this; omega
    · have := isO_lt h1; rw [List.length_set] at this; omega
  · rcases own a h with q | q
    · subst q
      by_cases s : F.S0 a
      · exact .inl s
      · refine .inr ?_
        cases e : F.H0 a with
        | none => rfl
        | some u => rw [w.keep a u s e] at hn; cases hn
    · exact w.frsh a q
  · rcases hp with hp | hp
    · rw [List.getElem?_set_ne hp]; exact w.pin e
    · rw [hp] at e; cases e
  · rcases isO_set h with ⟨r1, l1, _⟩ | ⟨n1, o1⟩ | ⟨r1, l1⟩
    · rw [r1, List.getElem?_set_self (by rw [w.len]; exact l1)] at e
      cases e
      exact absurd hn (w.live p (w.sm p s))
    · rw [List.getElem?_set_ne (Ne.symm n1)] at e
      exact w.nb st j a o1 e s
    · have := isO_lt h; rw [List.length_set] at this; omega
theorem isO_of {i : Nat} {z : Y} (h : y[i]? = some (some z)) : isO y i = z.o := by unfold isO; rw [h]
theorem sh_set {i : Nat} {z x : Y} (h : y[i]? = some (some z)) (e : x.o = z.o) : Sh y (y.set i (some x)) := fun j => by
  by_cases n : j = i
  · subst n
    have hl := (List.getElem?_eq_some_iff.mp h).1
    rw [isO_of h, isO_of (List.getElem?_set_self hl)]
    exact e
  · unfold isO
    rw [List.getElem?_set_ne (Ne.symm n)]
/-- an owned thing has changed, and no other -/
theorem Wd.set_mut (w : Wd C F σ y H) {i : Nat} {p : Addr} {z x : Y} (hi : y[i]? = some (some z)) (hz : z.o = true) (hx : x.o = true) (hσ : σ[i]? = some (some (.ref p))) (kp : ∀ a o, a ≠ p → H a = some o → H' a = some o) (hl : H' p ≠ none)
    (ok : ∀ M, GoH (Mv F σ y) H M H' → SlotOk C.K M H' (some (some (.ref p))) x) : Wd C F σ (y.set i (some x)) H' ∧ Go F σ y H σ (y.set i (some x)) H' ∧ Sh y (y.set i (some x)) := by
  have s : Sh y (y.set i (some x)) := sh_set hi (by rw [hx, hz])
  have hO : Own σ y p := ⟨i, by rw [isO_of hi]; exact hz, hσ⟩
  have mv : ∀ a, Mv F σ (y.set i (some x)) a → Mv F σ y a := fun a z => z.elim .inl fun z => .inr ((own_sh s).mp z)
  have g : Go F σ y H σ (y.set i (some x)) H' := fun a u n e => ⟨fun z => n (mv a z), kp a u (fun z => n (.inr (z ▸ hO))) e⟩
  refine ⟨⟨fun a u n e => kp a u (fun q => ?_) (w.keep a u n e), w.live0, fun a m e => ?_, by rw [List.length_set]; exact w.len, fun j v e => ?_, fun j k a h1 h2 e1 e2 => ?_, fun a h => w.frsh a ((own_sh s).mp h), w.pin, w.sm, fun q j a h e => w.nb q j a (by rw [← s j]; exact h) e⟩, g, s⟩
  · subst q
    rcases w.frsh a hO with q | q
    · exact n q
    · rw [q] at e; cases e
  · by_cases ha : a = p
    · exact hl (ha ▸ e)
    · cases q : H a with
      | none => exact w.live a m q
      | some u => rw [kp a u ha q] at e; cases e
  · by_cases n : j = i
    · subst n
      have hl := (List.getElem?_eq_some_iff.mp hi).1
      rw [List.getElem?_set_self hl] at e
      cases e
      rw [hσ]
      exact ok _ g
    · rw [List.getElem?_set_ne (Ne.symm n)] at e
      refine slots_go g (fun a u e1 e2 e3 => kp a u (fun q => n ?_) e3) (w.slot j v e)
      subst q
      exact w.dist j i a (by rw [isO_of e]; exact e2) (by rw [isO_of hi]; exact hz) e1 hσ
  · rw [s j] at h1
    rw [s k] at h2
    exact w.dist j k a h1 h2 e1 e2
end
section
variable {C : Ct} {y : S} {te : TE} {ts : TA} {tx : TS} {e : En} {Q : Z → S → Prop}
/-- x = [..], owned -/
theorem wS_own {i : Nat} (w : wD C ts y fun ds y1 => ds.length ≤ sizeLine ∧ e.nx (y1.set i (some (.own ds)))) (hp : i ≠ 0 ∨ C.pp = false := by first | exact Or.inr rfl | exact Or.inl (by decide)) : wS C (tAsg (tLst ts) (gName i)) y e := by
  intro F σ H E st wd k
  refine w F σ H _ wd fun vs H1 ds y1 w1 g1 s1 r1 ⟨hz, q⟩ => ⟨by rw [r1.len]; exact hz, fun p hn => ?_⟩
  obtain ⟨w2, g2⟩ := w1.set_own (i := i) (o := .lst vs) (z := .own ds) rfl hn hp fun M g => ⟨p, vs, rfl, upd_same, r1.go g⟩
  exact k.nx _ _ _ w2 (g1.trans g2) q
/-- x.append(e) -/
theorem wS_app {i : Nat} {ds0 : List D} (hi : y[i]? = some (some (.own ds0))) (w : wE C te y fun z y1 => ∃ d ds, z = .d d ∧ y1[i]? = some (some (.own ds)) ∧ ds.length < sizeLine ∧ e.nx (y1.set i (some (.own (ds ++ [d]))))) :
    wS C (tDrop (tBM C.K "list" rAppend (tVar i) (tCons te tNil))) y e := by
  intro F σ H E st wd k
  obtain ⟨a, xs, h1, h2, h3⟩ := wd.slot i _ hi
  refine ⟨.ref a, h1, Or.inl ⟨rfl, xs, .inl (.inl h2)⟩, w F σ H _ wd fun v H1 z y1 w1 g1 s1 r1 q => ?_⟩
  obtain ⟨d, ds, rfl, hi1, hz, q⟩ := q
  obtain ⟨b, us, e1, e2, e3⟩ := w1.slot i _ hi1
  have eb : a = b := by rw [h1] at e1; cases e1; rfl
  subst eb
  refine ⟨a, us, v, rfl, rfl, e2, by rw [e3.len]; exact hz, ?_⟩
  obtain ⟨w2, g2, s2⟩ := w1.set_mut (H' := upd H1 a (.lst (us ++ [v]))) (x := .own (ds ++ [d])) hi1 rfl rfl e1 (fun b o n e => by rw [upd_ne n]; exact e) (by rw [upd_same]; simp)
    fun M g => ⟨a, us ++ [v], rfl, upd_same, (e3.go g).app (.cons (Rp.go g r1) .nil)⟩
  exact k.nx _ _ _ w2 (g1.trans g2) q
end
/-! ### promises over data -/
def pureSp (K : Fg) (n : Nat) (pre : List D → Prop) (post : List D → D → Prop) : Sp := fun vs H Q _ => ∃ (M : Addr → Prop) (ds : List D), (∀ a, M a → H a ≠ none) ∧ RpA K M H vs ds ∧ ds.length = n ∧ pre ds ∧
  ∀ d v H', post ds d → (∀ a o, H a = some o → H' a = some o) → Rp K M H' v d → Q v H'
theorem pureSp_len {K : Fg} {n : Nat} {pre : List D → Prop} {post : List D → D → Prop} {ps : List Str} (h : ps.length = n) : ∀ vs H Q E, pureSp K n pre post vs H Q E → vs.length = ps.length := by
  rintro vs H Q E ⟨M, ds, _, r, l, _⟩
  rw [r.len, l, h]
/-- a purse ahead of the arguments; cost: the draws at most -/
def puSp (K : Fg) (n : Nat) (pre : List D → Prop) (cost : List D → Nat) (post : List D → D → Prop) : Sp := fun vs H Q _ => ∃ (M : Addr → Prop) (p : Addr) (us : List V) (ds : List D) (m : Nat), vs = .ref p :: us ∧ M p ∧ (∀ a, M a → H a ≠ none) ∧ PuOk H p m ∧
  RpA K M H us ds ∧ ds.length = n ∧ pre ds ∧ cost ds ≤ m ∧ ∀ d v H', post ds d → (∀ a o, a ≠ p → H a = some o → H' a = some o) → PuOk H' p (m - cost ds) → Rp K M H' v d → Q v H'
theorem puSp_len {K : Fg} {n : Nat} {pre : List D → Prop} {cost : List D → Nat} {post : List D → D → Prop} {ps : List Str} (h : ps.length = n + 1) : ∀ vs H Q E, puSp K n pre cost post vs H Q E → vs.length = ps.length := by
  rintro vs H Q E ⟨M, p, us, ds, m, rfl, _, _, _, r, l, _⟩
  rw [List.length_cons, r.len, l, h]
section
variable {K : Fg} {N : List Str} {t : TS} {vs : List V} {H : Hp} {Q : VK} {E : XK} {n : Nat} {pre : List D → Prop} {post : List D → D → Prop} {cost : List D → Nat}
def y0 (N : List Str) (ds : List D) : S := ds.map (fun d => some (.d d)) ++ List.replicate (N.length - ds.length) none
theorem getElem?_app_none {α : Type} {as : List (Option α)} {k i : Nat} {z : α} (h : (as ++ List.replicate k none)[i]? = some (some z)) : as[i]? = some (some z) := by
  by_cases hi : i < as.length
  · rwa [List.getElem?_append_left hi] at h
  · rw [List.getElem?_append_right (by omega), List.getElem?_replicate] at h
    split at h <;> cases h
theorem start_get {i : Nat} {v : V} (h : vs[i]? = some v) : (start N vs)[i]? = some (some v) := by
  unfold L2.start
  have hl := (List.getElem?_eq_some_iff.mp h).1
  rw [List.getElem?_append_left (by rw [List.length_map]; exact hl), List.getElem?_map, h]
  rfl
theorem y0_isO (N : List Str) (ds : List D) (j : Nat) : isO (y0 N ds) j = false := by
  unfold isO y0
  split
  · rename_i q2
    have q3 := getElem?_app_none q2
    rw [List.getElem?_map] at q3
    cases q4 : ds[j]? with
    | none => rw [q4] at q3; cases q3
    | some d => rw [q4] at q3; cases q3; rfl
  · rfl
theorem pure_body (h : pureSp K n pre post vs H Q E) (b : ∀ ds, ds.length = n → pre ds → ∀ e : En, (∀ y, post ds .none → e.nx y) → (∀ d y, post ds d → e.rt (.d d) y) → wS ⟨K, false⟩ t (y0 N ds) e) :
    t { nx := fun _ G => Q .non G, rt := Q } (start N vs) H := by
  obtain ⟨M, ds, al, r, l, hp, k⟩ := h
  refine b ds l hp { nx := fun _ => post ds .none, rt := fun z _ => ∃ d, z = .d d ∧ post ds d } (fun _ q => q) (fun d _ q => ⟨d, rfl, q⟩) ⟨H, fun _ => False, M, 0, true⟩ (start N vs) H _ rfl ⟨fun a o _ e => e, al, al, ?_, fun i z e => ?_, fun i j a h1 _ _ _ => ?_, fun a ⟨i, h1, _⟩ => ?_, fun q => (nomatch q), fun a z => z.elim, fun _ _ _ _ _ z => z.elim⟩ ⟨fun σ' H' y' w g q => ?_, fun σ' v H' z y' w g rz q => ?_, fun _ _ _ _ _ q => q.elim, fun _ _ _ _ _ q => q.elim⟩
  · unfold L2.start y0
    rw [List.length_append, List.length_append, List.length_map, List.length_map, List.length_replicate, List.length_replicate, r.len]
  · have e1 := getElem?_app_none e
    rw [List.getElem?_map] at e1
    cases q : ds[i]? with
    | none => rw [q] at e1; cases e1
    | some d =>
      rw [q] at e1
      cases e1
      obtain ⟨v, hv, rv⟩ := r.get q
      refine ⟨v, start_get hv, rv.go fun a o na e => ⟨fun z => z.elim na ?_, e⟩⟩
      rintro ⟨j, hj, _⟩
      rw [y0_isO] at hj
      cases hj
  · rw [y0_isO] at h1; cases h1
  · rw [y0_isO] at h1; cases h1
  · exact k .none .non H' q (fun a o e => w.keep a o (fun z => z) e) .non
  · obtain ⟨d, rfl, q⟩ := q
    exact k d v H' q (fun a o e => w.keep a o (fun z => z) e) (Rp.go (fun a o n e => ⟨fun z => n (.inl z), e⟩) rz)
theorem pu_body (h : puSp K n pre cost post vs H Q E) (b : ∀ ds m, ds.length = n → pre ds → cost ds ≤ m → ∀ e : En, (∀ y k, post ds .none → y[0]? = some (some (.pu k)) → m - cost ds ≤ k → e.nx y) → (∀ d y k, post ds d → y[0]? = some (some (.pu k)) → m - cost ds ≤ k → e.rt (.d d) y) → wS ⟨K, true⟩ t (some (.pu m) :: y0 (N.drop 1) ds) e)
    (hN : 0 < N.length := by decide) : t { nx := fun _ G => Q .non G, rt := Q } (start N vs) H := by
  obtain ⟨M, p, us, ds, m, rfl, mp, al, pk, r, l, hp, hc, k⟩ := h
  have isd : ∀ j, isO (y0 (N.drop 1) ds) j = false := y0_isO _ _
  have is0 : ∀ j, isO (some (.pu m) :: y0 (N.drop 1) ds) j = true → j = 0 := fun j hj => by
    cases j with
    | zero => rfl
    | succ j =>
      have : isO (some (.pu m) :: y0 (N.drop 1) ds) (j + 1) = isO (y0 (N.drop 1) ds) j := by unfold isO; rw [List.getElem?_cons_succ]
      rw [this, isd j] at hj
      cases hj
  have s0 : (start N (.ref p :: us))[0]? = some (some (.ref p)) := start_get rfl
  have own : ∀ a, Own (start N (.ref p :: us)) (some (.pu m) :: y0 (N.drop 1) ds) a → a = p := fun a ⟨j, hj, e⟩ => by
    have := is0 j hj
    subst this
    rw [s0] at e
    cases e
    rfl
  have fin : ∀ {σ' : St} {H' : Hp} {y' : S} {q : Nat}, Wd ⟨K, true⟩ ⟨H, fun a => a = p, M, p, true⟩ σ' y' H' → y'[0]? = some (some (.pu q)) → m - cost ds ≤ q → PuOk H' p (m - cost ds) := fun {σ' H' y' q} w e hq => by
    obtain ⟨a, h1, h2⟩ := w.slot 0 _ e
    rw [w.pin rfl] at h1
    cases h1
    exact h2.mono hq
  refine b ds m l hp hc { nx := fun y => post ds .none ∧ ∃ k, y[0]? = some (some (.pu k)) ∧ m - cost ds ≤ k, rt := fun z y => ∃ d k, z = .d d ∧ post ds d ∧ y[0]? = some (some (.pu k)) ∧ m - cost ds ≤ k }
    (fun y k q1 q2 q3 => ⟨q1, k, q2, q3⟩) (fun d y k q1 q2 q3 => ⟨d, k, rfl, q1, q2, q3⟩) ⟨H, fun a => a = p, M, p, true⟩ (start N (.ref p :: us)) H _ rfl ⟨fun a o _ e => e, al, al, ?_, fun i z e => ?_, fun i j a h1 h2 _ _ => (is0 i h1).trans (is0 j h2).symm, fun a h => .inl (own a h), fun _ => s0, fun a z => (show a = p from z) ▸ mp, fun _ i a h _ _ => ⟨is0 i h, rfl⟩⟩ ⟨fun σ' H' y' w g q => ?_, fun σ' v H' z y' w g rz q => ?_, fun _ _ _ _ _ q => q.elim, fun _ _ _ _ _ q => q.elim⟩
  · unfold L2.start y0
    simp only [List.length_append, List.length_cons, List.length_map, List.length_replicate, List.length_drop]
    rw [r.len]
    omega
  · cases i with
    | zero =>
      cases e
      exact ⟨p, s0, pk⟩
    | succ i =>
      rw [List.getElem?_cons_succ] at e
      have e1 := getElem?_app_none e
      rw [List.getElem?_map] at e1
      cases q : ds[i]? with
      | none => rw [q] at e1; cases e1
      | some d =>
        rw [q] at e1
        cases e1
        obtain ⟨v, hv, rv⟩ := r.get q
        refine ⟨v, start_get (by rw [List.getElem?_cons_succ]; exact hv), rv.go fun a o na e => ⟨fun z => z.elim na fun z => ?_, e⟩⟩
        exact na ((own a z) ▸ mp)
  · obtain ⟨q1, c, q2, q3⟩ := q
    exact k .none .non H' q1 (fun a o n e => w.keep a o n e) (fin w q2 q3) .non
  · obtain ⟨d, c, rfl, q1, q2, q3⟩ := q
    exact k d v H' q1 (fun a o n e => w.keep a o n e) (fin w q2 q3) (Rp.go (fun a o n e => ⟨fun z => n (.inl z), e⟩) rz)
end
section
variable {C : Ct} {y : S} {ts : TA} {Q : Z → S → Prop} {E : XK} {n : Nat} {pre : List D → Prop} {post : List D → D → Prop} {cost : List D → Nat} {e : En}
theorem wE_pure (w : wD C ts y fun ds y1 => ds.length = n ∧ pre ds ∧ ∀ d, post ds d → Q (.d d) y1) : wE C (tCall (pureSp C.K n pre post) [] E ts) y Q := by
  intro F σ H K wd k
  refine w F σ H _ wd fun vs H1 ds y1 w1 g1 s1 r1 ⟨hn, hp, q⟩ => ?_
  rw [List.append_nil]
  exact ⟨Mv F σ y1, ds, fun a m e => w1.new e m, r1, hn, hp, fun d v H2 hd gr rv => k v H2 (.d d) y1 (w1.grow gr) (g1.trans (go_grow gr)) s1 rv (q d hd)⟩
theorem wE_pu {i m0 : Nat} (hi : y[i]? = some (some (.pu m0))) (w : wD C ts y fun ds y1 => ∃ m, y1[i]? = some (some (.pu m)) ∧ ds.length = n ∧ pre ds ∧ cost ds ≤ m ∧ ∀ d, post ds d → Q (.d d) (y1.set i (some (.pu (m - cost ds))))) :
    wE C (tCall (puSp C.K n pre cost post) [] E (tCons (tVar i) ts)) y Q := by
  intro F σ H K wd k
  obtain ⟨a, h1, h2⟩ := wd.slot i _ hi
  refine ⟨.ref a, h1, w F σ H _ wd fun vs H1 ds y1 w1 g1 s1 r1 ⟨m, hi1, hn, hp, hc, q⟩ => ?_⟩
  obtain ⟨b, e1, e2⟩ := w1.slot i _ hi1
  have eb : a = b := by rw [h1] at e1; cases e1; rfl
  subst eb
  rw [List.append_nil]
  refine ⟨Mv F σ y1, a, vs, ds, m, rfl, .inr ⟨i, by rw [isO_of hi1]; rfl, e1⟩, fun a m e => w1.new e m, e2, r1, hn, hp, hc, fun d v H2 hd kp pk rv => ?_⟩
  have hl : H2 a ≠ none := by
    obtain ⟨x, b, c, z, _⟩ := pk
    rw [z]; simp
  obtain ⟨w2, g2, s2⟩ := w1.set_mut (H' := H2) (x := .pu (m - cost ds)) hi1 rfl rfl e1 kp hl fun M g => ⟨a, rfl, pk⟩
  refine k v H2 (.d d) _ w2 (g1.trans g2) (s1.trans s2) (Rp.go (fun b o nb eb => ⟨fun z => nb (z.elim .inl fun z => .inr ((own_sh s2).mp z)), eb⟩) rv) (q d hd)
end
end Tq

set_option maxRecDepth 100000
set_option maxHeartbeats 2000000
namespace Tq
open PySem PySem.Spec PyProof.Rows L2
/-! ### defs of the text by their names -/
/-- the def x of the text, behind the top -/
structure Df (K : Fg) (mg : Str → Option Value) (x : Str) (st : Stmt) (ps : List Str) : Prop where
  ex : ∃ (f : Addr) (fd : FuncData), Fun K x x st f fd ∧ mg x = some (.ref f) ∧ Binds K fd ps []
/-- the name x is a def that keeps sp -/
structure Cal (P : Program) (w : World) (K : Fg) (mg : Str → Option Value) (base : Heap) (k : Nat) (x : Str) (ps : List Str) (sp : Sp) : Prop where
  ex : ∃ (f : Addr) (fd : FuncData), FnG P w K mg base CX0 k f fd ps sp ∧ mg x = some (.ref f) ∧ PySem.W.keepIn K (.ref f) = true ∧ Binds K fd ps []
section
variable {P : Program} {w : World} {K : Fg} {mg : Str → Option Value} {base : Heap} {k : Nat} {x : Str} {ps N : List Str} {sp : Sp} {st : Stmt}
theorem Df.ok (d : Df K mg x st ps) (Sc : FnScope N ps (defScope st)) (len : ∀ vs H Q E, sp vs H Q E → vs.length = ps.length)
    (hbody : ∀ (f : Addr) (cdv : Value) (A : Around) (outer : List Env) (s : Shared) (H : Hp) (vs : List V) (Q : VK) (E : XK), Room k (A.deeper (envOfC x (defScope st) s.heap.objs.size f cdv)) →
      (A.deeper (envOfC x (defScope st) s.heap.objs.size f cdv)).guards = some [] → sp vs H Q E →
      ∃ t, PSs (cxOf CX0 P w K mg base N x (defScope st) f cdv A outer s H E).nox (defBody st) t ∧ t { nx := fun _ G => Q .non G, rt := Q } (start N vs) H) : Cal P w K mg base (k + 1) x ps sp := by
  obtain ⟨f, fd, F, hm, hb⟩ := d.ex
  exact ⟨f, fd, okG F Sc len (hbody f), hm, F.kp, hb⟩
theorem pe_cal {X : Cx} {p pos : Pos} {e : Expr} {es : List Expr} {t : TA} (c : Cal X.prog X.w X.K X.mg X.base k x ps sp) (hr : Room k X.A) (hgu : X.A.guards = some []) (hg : Gl X x) (ha : PA X (e :: es) t) (hdb : (x == ("__debug__" : Str)) = false := by decide)
    (he : starEach (e :: es) X.env = (false, eval e X.env) :: starEach es X.env := by rfl)
    (hpl : (backTo pos (starEach es X.env)).any (·.1) = false := by rfl) : PE X (.Call (.Name x p) (e :: es) [] pos) (tCall sp [] E0 t) := by
  obtain ⟨f, fd, F, hm, hk, hb⟩ := c.ex
  exact pe_callG F hr hgu hg hm hk hb .nil pass0 ha hdb he hpl
theorem Cal.mono {j : Nat} (c : Cal P w K mg base j x ps sp) (h : j ≤ k) : Cal P w K mg base k x ps sp := by
  obtain ⟨f, fd, F, hm, hk, hb⟩ := c.ex
  exact ⟨f, fd, F.mono h, hm, hk, hb⟩
end
/-! ### the law's purse -/
def spPurse : Sp := fun vs H Q _ => ∃ c : Int, vs = [.int c] ∧ ∀ (p : Addr) (x b : Int), H p = none → 0 ≤ x → 0 ≤ b → b < 2147483629 → Q (.ref p) (upd H p (.lst [.int x, .int b, .int 0]))
/-- r of 0 .. many - 1 -/
def postTake : List D → D → Prop := fun ds d => ∃ m r : Int, ds = [.int m] ∧ d = .int r ∧ 0 ≤ r ∧ r < m
def preTake : List D → Prop := fun ds => ∃ m : Int, ds = [.int m] ∧ 0 < m ∧ m.natAbs.log2 < 9000
abbrev spTake (K : Fg) : Sp := puSp K 1 preTake (fun _ => 1) postTake
abbrev rMd : R2 := rI (fun _ j => 0 < j) fun i j => .int (i % j)
abbrev rDv : R2 := rI CDivW fun i j => .int (i / j)
abbrev rAd : R2 := rI0 fun i j => .int (i + j)
abbrev rMu : R2 := rI CMul fun i j => .int (i * j)
abbrev rPw : R2 := rI CPow fun i j => .int (i ^ j.toNat)
theorem ix_at {K : Fg} {H : Hp} {p : Addr} {xs : List V} {i : Int} {v : V} {Q : VK} (h : H p = some (.lst xs)) (e : atI xs i = some v) (q : Q v H) : rIx K (.ref p) (.int i) H Q := .inl ⟨p, xs, i, v, rfl, rfl, .inl (.inl h), e, q⟩
theorem natAbs_lt {x : Int} {n : Nat} (h1 : 0 ≤ x) (h2 : x < (n : Int)) : x.natAbs < n := by omega
theorem div_ok {i j : Int} (h : 0 < j) (h2 : j < 1073741824) : CDivW i j := wide_div (b := 30) h (by omega) (by decide) (by decide)
/-- purse = _law_purse(c) -/
theorem wS_purse {C : Ct} {y : S} {e : En} {ts : TA} {E : XK} {i : Nat} (w : wD C ts y fun ds y1 => ∃ c : Int, ds = [.int c] ∧ e.nx (y1.set i (some (.pu 8000000)))) (hp : i ≠ 0 ∨ C.pp = false := by first | exact Or.inr rfl | exact Or.inl (by decide)) :
    wS C (tAsg (tCall spPurse [] E ts) (gName i)) y e := by
  intro F σ H E st wd k
  refine w F σ H _ wd fun vs H1 ds y1 w1 g1 s1 r1 ⟨c, hc, q⟩ => ?_
  subst hc
  obtain ⟨v, rfl, rv⟩ := rpA1 r1
  refine ⟨c, by rw [rp_int rv]; rfl, fun p x b hn hx hb hb2 => ?_⟩
  obtain ⟨w2, g2⟩ := w1.set_own (i := i) (o := .lst [.int x, .int b, .int 0]) (z := .pu 8000000) rfl hn hp fun M g => ⟨p, rfl, x, b, 0, upd_same, hx, hb, hb2, by decide, by decide⟩
  exact k.nx _ _ _ w2 (g1.trans g2) q
end Tq

set_option maxRecDepth 100000
set_option maxHeartbeats 2000000
/-! The rules that speak of the written part, with that part told (so that they serve within a comprehension's block, too) -/
namespace Tq
open PySem PySem.Spec PyProof.Rows L2
abbrev rLenD (K : Fg) : List V → Hp → VK → Prop := fun xs H Q => ∃ x n, xs = [x] ∧ LenV K x H n ∧ Q (.int (n : Nat)) H
abbrev rListD (K : Fg) : List V → Hp → VK → Prop := fun xs H Q => ∃ p ys, xs = [.ref p] ∧ (SqL K H p ys ∨ SqT K H p ys) ∧ ∀ l, H l = none → Q (.ref l) (upd H l (.lst ys))
abbrev rTupD (K : Fg) : List V → Hp → VK → Prop := fun xs H Q => ∃ p ys, xs = [.ref p] ∧ ((SqL K H p ys ∧ ∀ l, H l = none → Q (.ref l) (upd H l (.tup ys))) ∨ (SqT K H p ys ∧ Q (.ref p) H))
abbrev rJoinD (K : Fg) : V → List V → Hp → VK → Prop := fun x xs H Q => ∃ a p, ∃ ys : List Str, x = .str a ∧ xs = [.ref p] ∧ (SqL K H p (ys.map V.str) ∨ SqT K H p (ys.map V.str)) ∧ (ys.map (·.length)).sum + ys.length * a.length ≤ 16777216 ∧ Q (.str (Txt.join a ys)) H
def iAny (K : Fg) (tl : TE) : TI := fun σ H R => iList K tl σ H R ∨ iTup K tl σ H R
section
variable {X : Cx} (K : Fg)
theorem ixK (h : X.K = K := by rfl) : IxR X (rIx K) := h ▸ ix_seq
theorem slK (h : X.K = K := by rfl) : SlR X (rSlD K) := h ▸ sl_any
theorem catK (h : X.K = K := by rfl) : OpR X (binaryOp .Add) (rCatG K) := h ▸ op_catG
theorem catTK (h : X.K = K := by rfl) : OpR X (binaryOp .Add) (rCatA K) := h ▸ op_catA
theorem eqK (hu : X.A.units + 64 < cLine) (h : X.K = K := by rfl) : OpR X (compareOp .Eq) (rEqD K) := h ▸ op_eqD hu
theorem neK (hu : X.A.units + 64 < cLine) (h : X.K = K := by rfl) : OpR X (compareOp .NotEq) (rNeD K) := h ▸ op_neD hu
theorem inK (h : X.K = K := by rfl) : OpR X (compareOp .In) (rIn K false) := h ▸ op_in_seq
theorem lenK (h : X.K = K := by rfl) : CallR X (.builtin "len") (rLenD K) := h ▸ call_len
theorem allK (hc : X.calm = true) (h : X.K = K := by rfl) : CallR X (.builtin "all") (rAll K) := h ▸ cr_all hc
theorem isiK (h : X.K = K := by rfl) : CallR X (.builtin "isinstance") (rIsi K) := h ▸ call_isi
theorem isiTK (h : X.K = K := by rfl) : CallR X (.builtin "isinstance") (rIsiT K) := h ▸ call_isiT
theorem listK (h : X.K = K := by rfl) : CallR X (.type "list") (rListD K) := h ▸ call_list_of
theorem tupK (h : X.K = K := by rfl) : CallR X (.type "tuple") (rTupD K) := h ▸ call_tuple_of
theorem piL {tg l : Expr} {tl : TE} (hl : PE X l tl) (h : X.K = K := by rfl) : PI X tg l (iList K tl) := h ▸ pi_list hl
theorem piT {tg l : Expr} {tl : TE} (hl : PE X l tl) (h : X.K = K := by rfl) : PI X tg l (iTup K tl) := h ▸ pi_tup hl
theorem piA {tg l : Expr} {tl : TE} (hl : PE X l tl) (h : X.K = K := by rfl) : PI X tg l (iAny K tl) :=
  ⟨fun pins s σ H R I q => q.elim (fun z => (piL K hl h).run pins s σ H R I z) fun z => (piT K hl h).run pins s σ H R I z⟩
theorem pgT {pos : Pos} {es : List Expr} {k : Nat} {t : TGs} {n : Nat} (hc : X.calm = true) (g : PGs X es t) (h : X.K = K := by rfl) (hn : (assignEach es X.env).length = n := by rfl) (hst : (assignEach es X.env).findIdx? (·.1) = none := by rfl) :
    PG X (.Tuple es k pos) (gTup K n t) := h ▸ pg_tup hc g hn hst
theorem joinK {o e : Expr} {to te : TE} {apos pos : Pos} (ho : PE X o to) (he : PE X e te) (h : X.K = K := by rfl) (hs : starEach [e] X.env = [(false, eval e X.env)] := by rfl) (hbase : attributeBase o "join" X.env (eval o X.env) = eval o X.env := by rfl)
    (hline : (apos.endLine == pos.line) = true := by rfl) : PE X (.Call (.Attribute o "join" apos) [e] [] pos) (tM1 (rJoinD K) to te) := h ▸ pe_join ho he hs hbase hline
end
section
variable {C : Ct} {y : S} {Qi : List D → S → Prop}
theorem wI_any {i : Nat} {d : D} {xs : List D} (h : y[i]? = some (some (.d d))) (hx : dItems d = some xs) (q : Qi xs y) : wI C (iAny C.K (tVar i)) y Qi := by
  intro F σ H R wd k
  cases d with
  | list us =>
    cases hx
    exact .inl (wI_list (wE_var h ⟨_, rfl, q⟩) F σ H R wd k)
  | tuple us =>
    cases hx
    exact .inr (wI_tup (wE_var h ⟨_, rfl, q⟩) F σ H R wd k)
  | _ => cases hx
end
end Tq

set_option maxRecDepth 100000
set_option maxHeartbeats 4000000
namespace Tq
open PySem PySem.Spec PyProof.Rows L2
theorem len1 {ds : List D} (h : ds.length = 1) : ∃ x, ds = [x] := match ds, h with | [x], _ => ⟨x, rfl⟩
theorem len0 {ds : List D} (h : ds.length = 0) : ds = [] := match ds, h with | [], _ => rfl
/-! kinds -/
def isNum : D → Bool
  | .int _ => true
  | _ => false
theorem isT_int (d : D) : isT "int" d = (match d with | .int _ => true | .bool _ => true | _ => false) := by
  cases d with
  | none => show (kitB "NoneType" "int").getD false = false; decide +kernel
  | bool _ => show (kitB "bool" "int").getD false = true; decide +kernel
  | int _ => show (kitB "int" "int").getD false = true; decide +kernel
  | str _ => show (kitB "str" "int").getD false = false; decide +kernel
  | list _ => show (kitB "list" "int").getD false = false; decide +kernel
  | tuple _ => show (kitB "tuple" "int").getD false = false; decide +kernel
  | dict _ => show (kitB "dict" "int").getD false = false; decide +kernel
theorem isT_bool (d : D) : isT "bool" d = (match d with | .bool _ => true | _ => false) := by
  cases d with
  | none => show (kitB "NoneType" "bool").getD false = false; decide +kernel
  | bool _ => show (kitB "bool" "bool").getD false = true; decide +kernel
  | int _ => show (kitB "int" "bool").getD false = false; decide +kernel
  | str _ => show (kitB "str" "bool").getD false = false; decide +kernel
  | list _ => show (kitB "list" "bool").getD false = false; decide +kernel
  | tuple _ => show (kitB "tuple" "bool").getD false = false; decide +kernel
  | dict _ => show (kitB "dict" "bool").getD false = false; decide +kernel
theorem isT_str (d : D) : isT "str" d = (match d with | .str _ => true | _ => false) := by
  cases d with
  | none => show (kitB "NoneType" "str").getD false = false; decide +kernel
  | bool _ => show (kitB "bool" "str").getD false = false; decide +kernel
  | int _ => show (kitB "int" "str").getD false = false; decide +kernel
  | str _ => show (kitB "str" "str").getD false = true; decide +kernel
  | list _ => show (kitB "list" "str").getD false = false; decide +kernel
  | tuple _ => show (kitB "tuple" "str").getD false = false; decide +kernel
  | dict _ => show (kitB "dict" "str").getD false = false; decide +kernel
theorem isT_list (d : D) : isT "list" d = (match d with | .list _ => true | _ => false) := by
  cases d with
  | none => show (kitB "NoneType" "list").getD false = false; decide +kernel
  | bool _ => show (kitB "bool" "list").getD false = false; decide +kernel
  | int _ => show (kitB "int" "list").getD false = false; decide +kernel
  | str _ => show (kitB "str" "list").getD false = false; decide +kernel
  | list _ => show (kitB "list" "list").getD false = true; decide +kernel
  | tuple _ => show (kitB "tuple" "list").getD false = false; decide +kernel
  | dict _ => show (kitB "dict" "list").getD false = false; decide +kernel
theorem isT_tuple (d : D) : isT "tuple" d = (match d with | .tuple _ => true | _ => false) := by
  cases d with
  | none => show (kitB "NoneType" "tuple").getD false = false; decide +kernel
  | bool _ => show (kitB "bool" "tuple").getD false = false; decide +kernel
  | int _ => show (kitB "int" "tuple").getD false = false; decide +kernel
  | str _ => show (kitB "str" "tuple").getD false = false; decide +kernel
  | list _ => show (kitB "list" "tuple").getD false = false; decide +kernel
  | tuple _ => show (kitB "tuple" "tuple").getD false = true; decide +kernel
  | dict _ => show (kitB "dict" "tuple").getD false = false; decide +kernel
theorem isNum_eq (d : D) : isNum d = (isT "int" d && !isT "bool" d) := by
  rw [isT_int, isT_bool]
  cases d <;> rfl
/-- tests on ints -/
theorem eqv_int (i j : Int) : PyData.eqv (.int i) (.int j) = decide (i = j) := by
  simp only [PyData.eqv]
  first | rfl | (by_cases h : i = j <;> simp [h])
theorem eqv_str (i j : Str) : PyData.eqv (.str i) (.str j) = decide (i = j) := by
  simp only [PyData.eqv]
  first | rfl | (by_cases h : i = j <;> simp [h])
theorem sz_small {n : Nat} (h : n ≤ 100000) : n ≤ sizeLine := Nat.le_trans h (by decide)
theorem log2_lt {x : Int} {n : Nat} (h : x.natAbs < 2 ^ n) (h0 : 0 < n) : x.natAbs.log2 < n := PySem.Flt.log2_lt_of h0 h
theorem itb_t {b : Bool} {A B : Prop} (h : b = true) (a : A) : if b = true then A else B := by rw [if_pos h]; exact a
theorem itb_f {b : Bool} {A B : Prop} (h : b = false) (a : B) : if b = true then A else B := by rw [if_neg (by rw [h]; simp)]; exact a
/-- B, then the side A -/
theorem and_sw {A B : Prop} (b : B) (a : A) : A ∧ B := ⟨a, b⟩
/-! the numbers' common divisor -/
def gcdI (a b : Int) : Int := (Nat.gcd a.natAbs b.natAbs : Nat)
/-! promises of defs whose answer is a function of what is handed in -/
abbrev a0 (ds : List D) : D := ds.getD 0 .none
abbrev a1 (ds : List D) : D := ds.getD 1 .none
abbrev a2 (ds : List D) : D := ds.getD 2 .none
abbrev detSp (K : Fg) (n : Nat) (pre : List D → Prop) (G : List D → D) : Sp := pureSp K n pre (fun ds d => d = G ds)
theorem wE_det {C : Ct} {y : S} {ts : TA} {Q : Z → S → Prop} {E : XK} {n : Nat} {pre : List D → Prop} {G : List D → D} (w : wD C ts y fun ds y1 => (ds.length = n ∧ pre ds) ∧ Q (.d (G ds)) y1) : wE C (tCall (detSp C.K n pre G) [] E ts) y Q :=
  wE_pure (wD_mono w fun ds y1 ⟨⟨h1, h2⟩, q⟩ => ⟨h1, h2, fun d e => by subst e; exact q⟩)
abbrev sp_law_cell (K : Fg) : Sp := pureSp K 2 (fun ds => ∃ (ns : List Int) (k : Int), ds = [.list (ns.map PyData.int), .int k] ∧ 0 ≤ k ∧ k < 1000) (fun _ d => ∃ n : Int, d = .int n)
abbrev sp_law_purse (K : Fg) : Sp := spPurse
abbrev sp_law_take (K : Fg) : Sp := spTake K
abbrev sp_is_number (K : Fg) : Sp := detSp K 1 (fun _ => True) (fun ds => .bool (isNum (a0 ds)))
section
variable {C : Ct} {y : S} {te : TE} {Q : Z → S → Prop} {E : XK}
/-- a draw -/
theorem wE_take {i m0 : Nat} (hi : y[i]? = some (some (.pu m0))) (w : wE C te y fun z y1 => ∃ (k : Int) (m : Nat), z = .d (.int k) ∧ y1[i]? = some (some (.pu m)) ∧ (0 < k ∧ k ≤ 10 ^ 40 ∧ 1 ≤ m) ∧ ∀ r : Int, 0 ≤ r → r < k → Q (.d (.int r)) (y1.set i (some (.pu (m - 1))))) :
    wE C (tCall (spTake C.K) [] E (tCons (tVar i) (tCons te tNil))) y Q := by
  refine wE_pu hi (wD_cons (wE_mono w fun z y1 ⟨k, m, e, hm, ⟨h0, h1, h2⟩, q⟩ => ⟨_, e, wD_nil ⟨m, hm, rfl, ⟨k, rfl, h0, ?_⟩, h2, fun d hd => ?_⟩⟩))
  · have hb : k.natAbs < 2 ^ 200 := Nat.lt_of_le_of_lt (show k.natAbs ≤ 10 ^ 40 by omega) (by decide)
    exact Nat.lt_of_lt_of_le (log2_lt hb (by decide)) (by decide)
  · obtain ⟨k', r, e1, e2, h3, h4⟩ := hd
    cases e1
    subst e2
    exact q r h3 h4
theorem wE_powN {a : Int} {n : Nat} (q : Q (.d (.int (a ^ (OfNat.ofNat n : Nat)))) y) (ha : a.natAbs < 2 ^ 64 := by decide) (hn : n ≤ 1000000 := by decide) : wE C (tOp (rI CPow fun i j => .int (i ^ j.toNat)) (tC (.int a)) (tC (.int (OfNat.ofNat n)))) y Q := by
  refine wE_pow (wE_int (wE_int ⟨_, _, rfl, rfl, ⟨?_, ?_, ha⟩, q⟩))
  · show (0 : Int) ≤ (n : Nat); omega
  · show ((n : Nat) : Int) ≤ 1000000; omega
theorem wE_dispS {k : Str} {v : V} {d : D} (s : Sc v d) (h : Q (.d (.dict [(.str k, d)])) y) : wE C (tDisp [(tC (.str k), tC v)]) y Q := wE_disp1 (kk := .inr k) s h
theorem wE_dispI {k : Int} {v : V} {d : D} (s : Sc v d) (h : Q (.d (.dict [(.int k, d)])) y) : wE C (tDisp [(tC (.int k), tC v)]) y Q := wE_disp1 (kk := .inl k) s h
end
/-! == of plain things -/
def scalD : D → D → Bool
  | .int _, .int _ => true
  | .str _, .str _ => true
  | .bool _, .bool _ => true
  | .none, .none => true
  | _, _ => false
def eqS : D → D → Bool
  | .int i, .int j => decide (i = j)
  | .str i, .str j => decide (i = j)
  | .bool i, .bool j => decide (i = j)
  | .none, .none => true
  | _, _ => false
section
variable {C : Ct} {y : S} {ta tb : TE} {Q : Z → S → Prop}
theorem eqS_ok {K : Fg} {M : Addr → Prop} {H : Hp} {x u : V} {d e : D} (rx : Rp K M H x d) (ru : Rp K M H u e) (h : scalD d e = true) : scal x u = true ∧ decide (x = u) = eqS d e := by
  cases rx <;> cases ru <;> first | (cases h; done) | (refine ⟨rfl, ?_⟩; simp [eqS])
theorem wE_eqS (w : wE C ta y fun z y1 => wE C tb y1 fun z' y2 => ∃ d e, z = .d d ∧ z' = .d e ∧ scalD d e = true ∧ Q (.d (.bool (eqS d e))) y2) : wE C (tOp rEq ta tb) y Q := by
  refine wE_op (res := fun d e r => scalD d e = true ∧ r = .bool (eqS d e)) ?_ (wE_mono w fun z y1 h => wE_mono h fun z' y2 ⟨d, e, e1, e2, s, q⟩ => ⟨_, _, _, e1, e2, ⟨s, rfl⟩, q⟩)
  rintro M H x u d e r Q _ rx ru ⟨s, rfl⟩ k
  obtain ⟨h1, h2⟩ := eqS_ok rx ru s
  refine ⟨h1, ?_⟩
  rw [h2]
  exact k _ H (fun _ _ e => e) (.bl _)
theorem wE_neS (w : wE C ta y fun z y1 => wE C tb y1 fun z' y2 => ∃ d e, z = .d d ∧ z' = .d e ∧ scalD d e = true ∧ Q (.d (.bool (!eqS d e))) y2) : wE C (tOp rNe ta tb) y Q := by
  refine wE_op (res := fun d e r => scalD d e = true ∧ r = .bool (!eqS d e)) ?_ (wE_mono w fun z y1 h => wE_mono h fun z' y2 ⟨d, e, e1, e2, s, q⟩ => ⟨_, _, _, e1, e2, ⟨s, rfl⟩, q⟩)
  rintro M H x u d e r Q _ rx ru ⟨s, rfl⟩ k
  obtain ⟨h1, h2⟩ := eqS_ok rx ru s
  refine ⟨h1, ?_⟩
  rw [h2]
  exact k _ H (fun _ _ e => e) (.bl _)
end
end Tq

set_option maxRecDepth 100000
set_option maxHeartbeats 4000000
namespace Tq
open PySem PySem.Spec PyProof.Rows L2
/-! ### the law's own promise -/
def spLaw (K : Fg) : Sp := fun vs H Q _ => ∃ (a : Addr) (ns : List Int), vs = [.ref a] ∧ SqL K H a (ns.map V.int) ∧ ns.length ≤ 63 ∧ ∀ H', Q (.bl true) H'
theorem spLaw_len {K : Fg} {x : Str} : ∀ vs H Q E, spLaw K vs H Q E → vs.length = [x].length := by
  rintro vs H Q E ⟨a, ns, rfl, _⟩
  rfl
theorem law_body {K : Fg} {N : List Str} {t : TS} {vs : List V} {H : Hp} {Q : VK} {E : XK} (h : spLaw K vs H Q E) (b : ∀ ns : List Int, ns.length ≤ 63 → ∀ e : En, (∀ y, e.rt (.d (.bool true)) y) → wS ⟨K, false⟩ t (y0 N [.list (ns.map PyData.int)]) e) :
    t { nx := fun _ G => Q .non G, rt := Q } (start N vs) H := by
  obtain ⟨a, ns, rfl, hs, hl, k⟩ := h
  refine pure_body (K := K) (n := 1) (pre := fun ds => ds = [.list (ns.map PyData.int)]) (post := fun _ d => d = .bool true) (Q := Q) (E := fun _ _ _ => False) ⟨fun _ => False, [.list (ns.map PyData.int)], fun a z => z.elim, .cons (.lst ?_ (rpA_int ns)) .nil, rfl, rfl, fun d v H' e _ r => ?_⟩ ?_
  · rcases hs with hs | hs
    · exact .inl ⟨fun z => z, hs⟩
    · exact .inr hs
  · subst e
    rw [rp_bl r]
    exact k H'
  · rintro ds _ rfl e hn hr
    exact b ns hl e fun y => hr _ y rfl
/-! ### kinds of things: the program's, the law's -/
def wholeB (x : D) (lo hi : Int) : Bool := match x with
  | .int i => decide (lo ≤ i) && decide (i ≤ hi)
  | _ => false
abbrev sp_is_whole (K : Fg) : Sp := detSp K 3 (fun ds => ∃ x lo hi, ds = [x, .int lo, .int hi]) (fun ds => .bool (match ds with | [x, .int lo, .int hi] => wholeB x lo hi | _ => false))
def onlyB (t s : Str) : Bool := t.cps.toList.all fun c => decide (c ∈ s.cps.toList)
abbrev sp_has_only (K : Fg) : Sp := detSp K 2 (fun ds => ∃ t s, ds = [.str t, .str s] ∧ t.length ≤ sizeLine) (fun ds => .bool (match ds with | [.str t, .str s] => onlyB t s | _ => false))
/-- every sign is one -/
def okT (t : Str) : Prop := ∀ c ∈ t.cps.toList, c < 1114112
def okS : D → Prop
  | .str t => t.length ≤ sizeLine ∧ okT t
  | _ => True
def letters : Str := "abcdefghijklmnopqrstuvwxyz"
def nameB : D → Bool
  | .str t => decide (1 ≤ t.length) && decide (t.length ≤ 6) && onlyB t letters
  | _ => false
abbrev sp_is_name (K : Fg) : Sp := detSp K 1 (fun ds => ∃ x, ds = [x] ∧ okS x) (fun ds => .bool (nameB (a0 ds)))
abbrev sp_law (K : Fg) : Sp := spLaw K
theorem atI_mem {α : Type} {xs : List α} {i : Int} (h0 : 0 ≤ i) (h1 : i < xs.length) : ∃ x, atI xs i = some x ∧ x ∈ xs := by
  obtain ⟨n, rfl⟩ := Int.eq_ofNat_of_zero_le h0
  have hn : n < xs.length := by omega
  exact ⟨xs[n], atI_nat (List.getElem?_eq_getElem hn), List.getElem_mem hn⟩
theorem dCut_str {t : Str} (h : t.length ≤ 1000) (lo hi : Option Int) : dCut (.str t) lo hi = some (.str (cutS t lo hi)) := if_pos (sz_small (by omega))
theorem dIx_str {t : Str} (h : t.length ≤ 1000) {i : Int} (h0 : 0 ≤ i) (h1 : i < t.length) : ∃ c : Nat, dIx (.str t) i = some (.str ⟨#[c]⟩) ∧ c ∈ t.cps.toList := by
  obtain ⟨c, hc, hm⟩ := atI_mem (xs := t.cps.toList) h0 (by rw [Array.length_toList]; exact h1)
  refine ⟨c, ?_, hm⟩
  show (if t.length ≤ sizeLine then _ else _) = _
  rw [if_pos (sz_small (by omega)), hc]
  rfl
/-- a letter -/
theorem letter_iff (c : Nat) : c ∈ letters.cps.toList ↔ 97 ≤ c ∧ c ≤ 122 := by
  have e : letters.cps.toList = List.range' 97 26 := by decide
  rw [e, List.mem_range']
  constructor
  · rintro ⟨i, hi, rfl⟩; omega
  · intro h; exact ⟨c - 97, by omega, by omega⟩
theorem only_filter (t : Str) (p : D → Bool) (hp : ∀ c : Nat, p (.str ⟨#[c]⟩) = !(decide (97 ≤ c) && decide (c ≤ 122))) : ((signs t).filter p).isEmpty = onlyB t letters := by
  unfold onlyB signs
  induction t.cps.toList with
  | nil => rfl
  | cons c r ih =>
    rw [List.map_cons, List.filter_cons, hp c, List.all_cons]
    by_cases h : 97 ≤ c ∧ c ≤ 122
    · have h2 : decide (c ∈ letters.cps.toList) = true := decide_eq_true ((letter_iff c).mpr h)
      have h3 : (!(decide (97 ≤ c) && decide (c ≤ 122))) = false := by simp [h.1, h.2]
      rw [h2, h3]
      exact ih
    · have h2 : decide (c ∈ letters.cps.toList) = false := decide_eq_false fun z => h ((letter_iff c).mp z)
      have h3 : (!(decide (97 ≤ c) && decide (c ≤ 122))) = true := by
        simp only [Bool.not_eq_true', Bool.and_eq_false_iff, decide_eq_false_iff_not]
        omega
      rw [h2, h3]
      rfl
/-! what repr is asked of -/
def ShOk (d : D) : Prop := dsm d = true ∧ d.showable = true ∧ d.depth ≤ 60 ∧ d.shown.length ≤ sizeLine
theorem wE_reprS {C : Ct} {y : S} {te : TE} {Q : Z → S → Prop} (w : wE C te y fun z y1 => ∃ d, z = .d d ∧ ShOk d ∧ Q (.d (.str d.shown)) y1) : wE C (tCB (rRepr C.K) (tCons te tNil)) y Q :=
  wE_repr (wD_cons (wE_mono w fun z y1 ⟨d, e, ⟨h1, h2, h3, h4⟩, q⟩ => ⟨d, e, wD_nil ⟨d, rfl, h1, h2, h3, h4, q⟩⟩))
end Tq

set_option maxRecDepth 100000
set_option maxHeartbeats 4000000
namespace Tq
open PySem PySem.Spec PyProof.Rows L2
theorem sz_lt1 {n : Nat} (h : n < 100000) : n < sizeLine := Nat.lt_of_lt_of_le h (by decide)
theorem wS_norm {C : Ct} {t : TS} {y y' : S} {e : En} (h : y = y') (w : wS C t y' e) : wS C t y e := h ▸ w
/-! ### what is known of the slots may be forgotten -/
def Less (y' y : S) : Prop := y'.length = y.length ∧ ∀ (i : Nat) (z : Y), y'[i]? = some (some z) → y[i]? = some (some z)
theorem Less.isO {y' y : S} (h : Less y' y) {i : Nat} (o : Tq.isO y' i = true) : Tq.isO y i = true := by
  unfold Tq.isO at o
  cases q : y'[i]? with
  | none => rw [q] at o; cases o
  | some u =>
    cases u with
    | none => rw [q] at o; cases o
    | some z =>
      rw [q] at o
      rw [isO_of (h.2 i z q)]
      exact o
theorem Wd.weak {C : Ct} {F : Fr} {σ : St} {y y' : S} {H : Hp} (w : Wd C F σ y H) (h : Less y' y) : Wd C F σ y' H ∧ Go F σ y H σ y' H := by
  have own : ∀ a, Own σ y' a → Own σ y a := fun a ⟨i, o, e⟩ => ⟨i, h.isO o, e⟩
  have g : Go F σ y H σ y' H := fun a o n e => ⟨fun z => n (z.elim .inl fun z => .inr (own a z)), e⟩
  exact ⟨⟨w.keep, w.live0, w.live, w.len.trans h.1.symm, fun i z e => slots_go g (fun _ _ _ _ e => e) (w.slot i z (h.2 i z e)), fun i j a o1 o2 => w.dist i j a (h.isO o1) (h.isO o2), fun a o => w.frsh a (own a o), w.pin, w.sm, fun st i a o => w.nb st i a (h.isO o)⟩, g⟩
theorem wS_weak {C : Ct} {t : TS} {y y' : S} {e : En} (w : wS C t y' e) (h : Less y' y) : wS C t y e := by
  intro F σ H E st wd k
  obtain ⟨w1, g1⟩ := wd.weak h
  exact w F σ H E st w1 (k.go g1)
abbrev rMx : List V → Hp → VK → Prop := fun xs H Q => ∃ i j, xs = [.int i, .int j] ∧ Q (.int (if j > i then j else i)) H
abbrev rMn : List V → Hp → VK → Prop := fun xs H Q => ∃ i j, xs = [.int i, .int j] ∧ Q (.int (if j < i then j else i)) H
/-- what stands between two cells: the script alone is known -/
def cellEnd (n : Nat) (s : D) (y : S) : Prop := y.length = n + 2 ∧ y[0]? = some (some (.d s))
/-- for _law_k in range(max(2, min(c, len(script)))): tb; return True -/
theorem law_loop {K : Fg} {tb : TS} {e : En} {ns : List Int} {c : Int} {n : Nat} (hc : 0 ≤ c ∧ c ≤ 900) (hz : ∀ y, e.rt (.d (.bool true)) y)
    (hb : ∀ k : Int, 0 ≤ k → k < 1000 → wS ⟨K, false⟩ tb (some (.d (.list (ns.map PyData.int))) :: some (.d (.int k)) :: List.replicate n none)
      { nx := cellEnd n (.list (ns.map PyData.int)), ct := cellEnd n (.list (ns.map PyData.int)), bk := fun y1 => wS ⟨K, false⟩ (tRet (tC (.bl true))) y1 e, rt := e.rt }) :
    wS ⟨K, false⟩ (tSeq (tFor (iRng1 (tCons (tCB rMx (tCons (tC (.int 2)) (tCons (tCB rMn (tCons (tC (.int c)) (tCons (tCB (rLenD K) (tCons (tVar 0) tNil)) tNil))) tNil))) tNil)) (gName 1) tb) (tRet (tC (.bl true))))
      (some (.d (.list (ns.map PyData.int))) :: none :: List.replicate n none) e := by
  refine wS_seq (wS_for (wI_rng1 (wD_cons (wE_max2 (wD_cons (wE_int ⟨_, rfl, wD_cons (wE_min2 (wD_cons (wE_int ⟨_, rfl, wD_cons (wE_len (wD_cons (wE_var rfl ⟨_, rfl, wD_nil ⟨_, _, rfl, rfl, ?_⟩⟩))) ⟩)))⟩))))))
  refine ⟨_, rfl, wD_nil ⟨_, _, rfl, _, rfl, wD_nil ⟨_, _, rfl, _, rfl, wD_nil ⟨_, rfl, ?_⟩⟩⟩⟩
  rw [List.length_map]
  generalize hj : (if (if (ns.length : Int) < c then (ns.length : Int) else c) > 2 then (if (ns.length : Int) < c then (ns.length : Int) else c) else 2) = j
  have h1 : 2 ≤ j ∧ j ≤ 900 := by
    rw [← hj]
    constructor
    · split <;> omega
    · split
      · split <;> omega
      · omega
  refine ⟨by omega, by omega, fun _ y => cellEnd n (.list (ns.map PyData.int)) y, ⟨by simp, rfl⟩, fun i x y2 hx ⟨hy1, hy2⟩ => ?_, fun y2 _ => wS_ret (wE_bl (hz _))⟩
  obtain ⟨hi, rfl⟩ := rangeD_get hx
  refine wG_name (wS_weak (hb (0 + (i : Int)) (by omega) (by omega)) ⟨by rw [List.length_set, hy1]; simp, fun k z e => ?_⟩)
  match k, e with
  | 0, e =>
    cases e
    rw [List.getElem?_set_ne (by decide)]
    exact hy2
  | 1, e =>
    cases e
    exact List.getElem?_set_self (by omega)
  | k + 2, e =>
    have e2 : (List.replicate n (none : Option Y))[k]? = some (some z) := e
    rw [List.getElem?_replicate] at e2
    split at e2 <;> cases e2
end Tq

set_option maxRecDepth 100000
set_option maxHeartbeats 4000000
namespace Tq
open PySem PySem.Spec PyProof.Rows L2
theorem less_nil : Less [] [] := ⟨rfl, fun i z e => e⟩
theorem less_none {a b : S} {z : Option Y} (h : Less a b) : Less (none :: a) (z :: b) := by
  refine ⟨congrArg (· + 1) h.1, fun i u e => ?_⟩
  cases i with
  | zero => cases e
  | succ i => exact h.2 i u e
theorem less_some {a b : S} {z : Option Y} (h : Less a b) : Less (z :: a) (z :: b) := by
  refine ⟨congrArg (· + 1) h.1, fun i u e => ?_⟩
  cases i with
  | zero => exact e
  | succ i => exact h.2 i u e
theorem less_set {a b : S} {i : Nat} {z : Option Y} (h : Less a b) : Less (a.set i z) (b.set i z) := by
  refine ⟨by rw [List.length_set, List.length_set, h.1], fun j u e => ?_⟩
  rw [List.getElem?_set] at e ⊢
  rw [← h.1]
  split at e
  · next q => rw [if_pos q]; exact e
  · next q => rw [if_neg q]; exact h.2 j u e
end Tq

set_option maxRecDepth 100000
set_option maxHeartbeats 4000000
namespace Tq
open PySem PySem.Spec PyProof.Rows L2
/-! ### what the top has written -/
theorem df_mk {K : Fg} {h : Heap} {mg : Str → Option Value} {x : Str} {st : Stmt} {ps : List Str} {f : Addr} {od an : Option Addr} {sl : Array (Option Value)} {oc kV dc pm cd ct : Value} (X : K.In h) (G : h.Ns mainGlobals mg)
    (hb : ∀ (kV dc pm : Value) (an : Option Addr) (cd ct : Value) (us : List Value), us.length = ps.length → bindArgs (PySem.W.fnOf x x (defArgs st) (defBody st) (defScope st) .none kV dc pm an cd ct) ⟨us, []⟩ = pure (ps.zip us))
    (a : PySem.W.nsIn K mainGlobals x = some (some (.ref f))) (l : K.lookup f = some ⟨oc, od, .func (PySem.W.fnOf x x (defArgs st) (defBody st) (defScope st) .none kV dc pm an cd ct), sl⟩) (c : PySem.W.codeIn K cd x = true) (k : PySem.W.keepIn K (.ref f) = true) : Df K mg x st ps :=
  ⟨f, _, fun_mk l c k, PySem.W.mg_of X G a, (fun_mk l c k).binds hb⟩
end Tq

set_option maxRecDepth 100000
set_option maxHeartbeats 4000000
namespace Tq
open PySem PySem.Spec PyProof.Rows L2
open PySem.Builtin.Str (occurrences subAt)
open PySem.NumText (digitsVal AllDigits)
/-! ### numbers in texts -/
abbrev rIndex : V → List V → Hp → VK → Prop := fun x xs H Q => ∃ a b i r, x = .str a ∧ xs = [.str b] ∧ occurrences a b 0 a.length 1 = i :: r ∧ Q (.int (i : Nat)) H
theorem wE_index {C : Ct} {ta tb : TE} {y : S} {Q : Z → S → Prop} (w : wE C ta y fun z y1 => ∃ a, z = .d (.str a) ∧ wE C tb y1 fun z' y2 => ∃ b i r, z' = .d (.str b) ∧ occurrences a b 0 a.length 1 = i :: r ∧ Q (.d (.int (i : Nat))) y2) :
    wE C (tM1 rIndex ta tb) y Q := by
  intro F σ H K wd k
  refine w F σ H _ wd fun x H1 z y1 w1 g1 s1 r1 q1 => ?_
  obtain ⟨a, rfl, q1⟩ := q1
  have e := rp_str r1
  subst e
  refine ⟨⟨a, rfl⟩, q1 F σ H1 _ w1 fun x2 H2 z' y2 w2 g2 s2 r2 q2 => ?_⟩
  obtain ⟨b, i, r, rfl, ho, hq⟩ := q2
  exact ⟨a, b, i, r, rfl, by rw [rp_str r2], ho, k _ H2 (.d (.int _)) y2 w2 (g1.trans g2) (s1.trans s2) (.int _) hq⟩
theorem str_lenL (t : Str) : t.cps.toList.length = t.length := Array.length_toList
end Tq

set_option maxRecDepth 100000
set_option maxHeartbeats 4000000
namespace Tq
open PySem PySem.Spec PyProof.Rows L2
/-! ### what repr shows, bounded -/
structure Shw (b k : Nat) (d : D) : Prop where
  nd : d.hasDict = false
  sw : d.showable = true
  dp : d.depth ≤ k
  ln : d.shown.length ≤ b
theorem Shw.ok {b k : Nat} {d : D} (h : Shw b k d) (hb : b ≤ 10000000 := by decide) (hk : k ≤ 60 := by decide) : ShOk d := by
  refine ⟨?_, h.sw, Nat.le_trans h.dp hk, Nat.le_trans h.ln (Nat.le_trans hb (by decide))⟩
  have := h.nd
  cases d with
  | dict kvs => cases this
  | list xs => show (!(PyData.list xs).hasDict) = true; rw [this]; rfl
  | tuple xs => show (!(PyData.tuple xs).hasDict) = true; rw [this]; rfl
  | _ => rfl
theorem Shw.mono {b k b' k' : Nat} {d : D} (h : Shw b k d) (hb : b ≤ b') (hk : k ≤ k') : Shw b' k' d := ⟨h.nd, h.sw, Nat.le_trans h.dp hk, Nat.le_trans h.ln hb⟩
theorem shownAll_map (xs : List D) : PyData.shownAll xs = xs.map PyData.shown := by
  induction xs with
  | nil => rfl
  | cons x r ih => rw [List.map_cons, ← ih]; rfl
end Tq

set_option maxRecDepth 100000
set_option maxHeartbeats 4000000
namespace Tq
open PySem PySem.Spec PyProof.Rows L2
open PySem.NumText (digitsVal AllDigits)
/-- a loop whose turns know J alone -/
theorem forJ {C : Ct} {v : Nat} {tx : TS} {xs : List D} {y0 : S} {bk : S → Prop} {rt : Z → S → Prop} {R : S → Prop} (J : Nat → S → Prop) (hv : v ≠ 0 := by decide) (h0 : ∃ y', J 0 y' ∧ Less y' y0)
    (hb : ∀ i x y', xs[i]? = some x → J i y' → wS C tx (y'.set v (some (.d x))) { nx := fun y => ∃ y', J (i + 1) y' ∧ Less y' y, ct := fun y => ∃ y', J (i + 1) y' ∧ Less y' y, bk := bk, rt := rt }) (he : ∀ y2 y', J xs.length y' → Less y' y2 → R y2) :
    ∃ I : Nat → S → Prop, I 0 y0 ∧ (∀ i x y2, xs[i]? = some x → I i y2 → wG C (gName v) x y2 fun y3 => wS C tx y3 { nx := I (i + 1), ct := I (i + 1), bk := bk, rt := rt }) ∧ (∀ y2, I xs.length y2 → R y2) :=
  ⟨fun i y => ∃ y', J i y' ∧ Less y' y, h0, fun i x y2 hx ⟨y', hj, hl⟩ => wG_name (hp := Or.inl hv) (wS_weak (hb i x y' hx hj) (less_set hl)), fun y2 ⟨y', hj, hl⟩ => he y2 y' hj hl⟩
theorem dLen_str {t : Str} (h : t.length ≤ 1000) : dLen (.str t) = some t.length := if_pos (sz_small (by omega))
theorem ten_two (a : Nat) : (10 : Nat) ^ a ≤ 2 ^ (4 * a) := by
  rw [Nat.pow_mul]
  exact Nat.pow_le_pow_left (by decide) a
theorem mulW_ok {i j : Int} (a b : Nat) (hi : i.natAbs < 10 ^ a) (hj : j.natAbs < 10 ^ b) (h : a ≤ 50000 := by omega) (h2 : b ≤ 50000 := by omega) : CMulW i j := by
  refine wide_mul (a := 4 * a + 1) (b := 4 * b + 1) (Nat.lt_of_lt_of_le hi ?_) (Nat.lt_of_lt_of_le hj ?_) (by omega) (by omega) (by omega)
  · exact Nat.le_trans (ten_two a) (Nat.pow_le_pow_right (by decide) (by omega))
  · exact Nat.le_trans (ten_two b) (Nat.pow_le_pow_right (by decide) (by omega))
theorem okT_ofS (s : String) : okT (Str.ofString s) := by
  intro c hc
  rw [PyProof.Rows.signs_ofString] at hc
  obtain ⟨ch, _, rfl⟩ := List.mem_map.mp hc
  have := ch.valid
  show ch.val.toNat < 1114112
  rcases this with h | h
  · have : ch.val.toNat < 55296 := h
    omega
  · exact h.2
end Tq

set_option maxRecDepth 100000
set_option maxHeartbeats 4000000
namespace Tq
open PySem PySem.Spec PyProof.Rows L2
end Tq

set_option maxRecDepth 100000
set_option maxHeartbeats 4000000
namespace Tq
open PySem PySem.Spec PyProof.Rows L2
/-! ### whole numbers of at most k figures -/
def Bd (k : Nat) (x : Int) : Prop := x.natAbs < 10 ^ k
theorem Bd.mono {k k' : Nat} {x : Int} (h : Bd k x) (hk : k ≤ k') : Bd k' x := Nat.lt_of_lt_of_le h (Nat.pow_le_pow_right (by decide) hk)
theorem Bd.add {k k' : Nat} {x y : Int} (h : Bd k x) (h' : Bd k' y) : Bd (k + k' + 1) (x + y) := by
  have h1 := h.mono (show k ≤ k + k' by omega)
  have h2 := h'.mono (show k' ≤ k + k' by omega)
  unfold Bd at *
  rw [Nat.pow_succ]
  omega
theorem Bd.neg {k : Nat} {x : Int} (h : Bd k x) : Bd k (-x) := by unfold Bd at *; omega
theorem Bd.sub {k k' : Nat} {x y : Int} (h : Bd k x) (h' : Bd k' y) : Bd (k + k' + 1) (x - y) := by
  rw [Int.sub_eq_add_neg]; exact h.add h'.neg
theorem Bd.mul {k k' : Nat} {x y : Int} (h : Bd k x) (h' : Bd k' y) : Bd (k + k') (x * y) := by
  unfold Bd at *
  rw [Int.natAbs_mul, Nat.pow_add]
  exact Nat.mul_lt_mul'' h h'
theorem Bd.div {k : Nat} {x y : Int} (h : Bd k x) (hy : 0 < y) : Bd (k + 1) (x / y) := by
  unfold Bd at *
  rw [Nat.pow_succ]
  have h1 : x / y ≤ x.natAbs := by
    rcases Int.lt_or_le x 0 with z | z
    · have := Int.ediv_neg_of_neg_of_pos z hy; omega
    · have := Int.ediv_le_self y z; omega
  have h2 : -(x.natAbs : Int) - 1 ≤ x / y := by
    rcases Int.lt_or_le x 0 with z | z
    · have e := Int.emod_add_mul_ediv x y
      have e1 := Int.emod_nonneg x (show y ≠ 0 by omega)
      have e2 := Int.emod_lt_of_pos x hy
      rcases Int.lt_or_le (x / y) (-(x.natAbs : Int) - 1) with w | w
      · have : y * (x / y) ≤ 1 * (x / y) := Int.mul_le_mul_of_nonpos_right (by omega) (by omega)
        have h3 : y * (x / y) ≤ y * (-(x.natAbs : Int) - 2) := Int.mul_le_mul_of_nonneg_left (by omega) (by omega)
        have h4 : y * (-(x.natAbs : Int) - 2) = -(y * x.natAbs) - 2 * y := by rw [Int.mul_sub, Int.mul_neg]; omega
        have h5 : 1 * (x.natAbs : Int) ≤ y * x.natAbs := Int.mul_le_mul_of_nonneg_right (by omega) (by omega)
        omega
      · exact w
    · have := Int.ediv_nonneg z (show 0 ≤ y by omega); omega
  omega
theorem Bd.mod {k : Nat} {x y : Int} (h : Bd k y) (hy : 0 < y) : Bd k (x % y) := by
  have e1 := Int.emod_nonneg x (show y ≠ 0 by omega)
  have e2 := Int.emod_lt_of_pos x hy
  unfold Bd at *
  omega
theorem Bd.lit {k : Nat} {x : Int} (h : x.natAbs < 10 ^ k) : Bd k x := h
theorem Bd.max {k k' : Nat} {x y : Int} (h : Bd k x) (h' : Bd k' y) : Bd (k + k') (if y > x then y else x) := by
  split
  · exact h'.mono (by omega)
  · exact h.mono (by omega)
theorem Bd.min {k k' : Nat} {x y : Int} (h : Bd k x) (h' : Bd k' y) : Bd (k + k') (if y < x then y else x) := by
  split
  · exact h'.mono (by omega)
  · exact h.mono (by omega)
theorem Bd.mulW {k k' : Nat} {x y : Int} (h : Bd k x) (h' : Bd k' y) (hk : k ≤ 50000 := by decide) (hk' : k' ≤ 50000 := by decide) : CMulW x y := mulW_ok k k' h h' hk hk'
theorem Bd.divW {k : Nat} {x y : Int} (h : Bd k y) (hy : 0 < y) (hk : k ≤ 2000 := by decide) : CDivW x y := wide_div (b := 4 * k + 1) hy (Nat.lt_of_lt_of_le h (Nat.le_trans (ten_two k) (Nat.pow_le_pow_right (by decide) (by omega)))) (by omega) (by omega)
/-! ### neighbours of a fraction -/
structure NB (p q N a b c d : Int) : Prop where
  b1 : 1 ≤ b
  d1 : 1 ≤ d
  bN : b ≤ N
  dN : d ≤ N
  ov : N < b + d
  one : c * b - a * d = 1
  lo : 0 < p * b - a * q
  hi : 0 < c * q - p * d
/-- the parts of a fraction between two neighbours -/
theorem nb_q {p q a b c d : Int} (h : c * b - a * d = 1) : q = b * (c * q - p * d) + d * (p * b - a * q) := by
  have : q * (c * b - a * d) = b * (c * q - p * d) + d * (p * b - a * q) := by
    simp only [Int.mul_sub, Int.sub_mul, Int.mul_assoc, Int.mul_comm, Int.mul_left_comm]
    omega
  rw [h, Int.mul_one] at this
  exact this
theorem le_mul {a x : Int} (ha : 0 ≤ a) (hx : 1 ≤ x) : a ≤ a * x := by
  have := Int.mul_le_mul_of_nonneg_left hx ha
  omega
theorem nb_sum {p q a b c d : Int} (h : c * b - a * d = 1) (hb : 1 ≤ b) (hd : 1 ≤ d) (hx : 0 < p * b - a * q) (hy : 0 < c * q - p * d) : b + d ≤ q := by
  have e := nb_q (p := p) (q := q) h
  have h1 := le_mul (a := b) (x := c * q - p * d) (by omega) hy
  have h2 := le_mul (a := d) (x := p * b - a * q) (by omega) hx
  omega
/-- one below the other and no smaller denominator fits between -/
theorem NB.le {p q N a b c d a' b' c' d' : Int} (h : NB p q N a b c d) (h' : NB p q N a' b' c' d') : a' * b ≤ a * b' := by
  -- a'/b' < p/q < c/d
  rcases Int.lt_or_le (a * b') (a' * b) with z | z
  · exfalso
    have q1 := nb_sum h.one h.b1 h.d1 h.lo h.hi
    have b1 := h.b1
    have d1 := h.d1
    have b1' := h'.b1
    -- a' d < c b'
    have hx := h'.lo
    have hy := h.hi
    have k1 : 0 < c * b' - a' * d := by
      have m1 : 0 < b' * (c * q - p * d) := Int.mul_pos (by omega) hy
      have m2 : 0 < d * (p * b' - a' * q) := Int.mul_pos (by omega) hx
      have e : q * (c * b' - a' * d) = b' * (c * q - p * d) + d * (p * b' - a' * q) := by
        simp only [Int.mul_sub, Int.sub_mul, Int.mul_assoc, Int.mul_comm, Int.mul_left_comm]
        omega
      rcases Int.lt_or_le 0 (c * b' - a' * d) with w | w
      · exact w
      · have : q * (c * b' - a' * d) ≤ 0 := Int.mul_nonpos_of_nonneg_of_nonpos (by omega) w
        omega
    have k2 : 0 < a' * b - a * b' := by omega
    have e := nb_q (p := a') (q := b') h.one
    have h1 := le_mul (a := b) (x := c * b' - a' * d) (by omega) k1
    have h2 := le_mul (a := d) (x := a' * b - a * b') (by omega) k2
    have := h'.bN
    have := h.ov
    omega
  · exact z
theorem NB.low {p q N a b c d a' b' c' d' : Int} (h : NB p q N a b c d) (h' : NB p q N a' b' c' d') : a = a' ∧ b = b' := by
  have e : a' * b = a * b' := Int.le_antisymm (h.le h') (h'.le h)
  have key : ∀ {a b c d a' b' : Int}, c * b - a * d = 1 → 1 ≤ b → 1 ≤ b' → a' * b = a * b' → b ≤ b' := by
    intro a b c d a' b' h1 hb hb' e
    have e2 : b' = b * (c * b' - a' * d) := by
      have : b' * (c * b - a * d) = b * (c * b' - a' * d) := by
        have e3 : d * (a' * b) = d * (a * b') := by rw [e]
        simp only [Int.mul_sub, Int.sub_mul, Int.mul_assoc, Int.mul_comm, Int.mul_left_comm] at e3 ⊢
        omega
      rw [h1, Int.mul_one] at this
      exact this
    have h3 : 1 ≤ c * b' - a' * d := by
      rcases Int.lt_or_le (c * b' - a' * d) 1 with w | w
      · have : b * (c * b' - a' * d) ≤ 0 := Int.mul_nonpos_of_nonneg_of_nonpos (by omega) (by omega)
        omega
      · exact w
    have := le_mul (a := b) (by omega) h3
    omega
  have hb : b = b' := Int.le_antisymm (key h.one h.b1 h'.b1 e) (key h'.one h'.b1 h.b1 e.symm)
  subst hb
  exact ⟨(Int.eq_of_mul_eq_mul_right (by have := h.b1; omega) e).symm, rfl⟩
/-- what stands at each turn -/
structure NI (p q N a b c d : Int) : Prop where
  b1 : 1 ≤ b
  d1 : 1 ≤ d
  bN : b ≤ N
  dN : d ≤ N
  one : c * b - a * d = 1
  lo : 0 < p * b - a * q
  hi : 0 < c * q - p * d
theorem Bd.of_mul {k : Nat} {a q : Int} (h : Bd k (a * q)) (hq : 1 ≤ q) : Bd k a := by
  unfold Bd at *
  rw [Int.natAbs_mul] at h
  have : a.natAbs * 1 ≤ a.natAbs * q.natAbs := Nat.mul_le_mul_left _ (by omega)
  omega
theorem NI.bd {p q N a b c d : Int} {k : Nat} (h : NI p q N a b c d) (hp : Bd k p) (hq : Bd k q) (hN : Bd k N) : Bd k b ∧ Bd k d ∧ Bd (3 * k + 1) a ∧ Bd (3 * k + 1) c ∧ (p * b - a * q) ≤ q ∧ (c * q - p * d) ≤ q ∧ 1 ≤ q := by
  have e := nb_q (p := p) (q := q) h.one
  have hb := h.b1
  have hd := h.d1
  have hX := h.lo
  have hY := h.hi
  have h1 := le_mul (a := c * q - p * d) (x := b) (by omega) hb
  have h2 := le_mul (a := p * b - a * q) (x := d) (by omega) hd
  rw [Int.mul_comm _ b] at h1
  rw [Int.mul_comm _ d] at h2
  have hXb : 0 < d * (p * b - a * q) := Int.mul_pos (by omega) hX
  have hYb : 0 < b * (c * q - p * d) := Int.mul_pos (by omega) hY
  have x1 : p * b - a * q ≤ q := by omega
  have y1 : c * q - p * d ≤ q := by omega
  have q1 : 1 ≤ q := by omega
  have bb : Bd k b := by have := h.bN; unfold Bd at *; omega
  have bd : Bd k d := by have := h.dN; unfold Bd at *; omega
  refine ⟨bb, bd, ?_, ?_, x1, y1, q1⟩
  · refine Bd.of_mul (q := q) ?_ q1
    have ex : a * q = p * b - (p * b - a * q) := by omega
    rw [ex]
    have hx : Bd k (p * b - a * q) := by unfold Bd at *; omega
    exact ((hp.mul bb).sub hx).mono (by omega)
  · refine Bd.of_mul (q := q) ?_ q1
    have ex : c * q = p * d + (c * q - p * d) := by omega
    rw [ex]
    have hx : Bd k (c * q - p * d) := by unfold Bd at *; omega
    exact ((hp.mul bd).add hx).mono (by omega)
end Tq

set_option maxRecDepth 100000
set_option maxHeartbeats 4000000
namespace Tq
open PySem PySem.Spec PyProof.Rows L2
abbrev fr (a b : Int) : D := .tuple [.int a, .int b]
def NR (p q N : Int) (r : D) : Prop := (q ≤ N ∧ r = .tuple [fr p q, fr p q]) ∨ (N < q ∧ ∃ a b c d, NB p q N a b c d ∧ r = .tuple [fr a b, fr c d])
structure FN (p q N : Int) : Prop where
  q1 : 1 ≤ q
  g : gcdI p q = 1
  n1 : 1 ≤ N
  bp : Bd 65 p
  bq : Bd 65 q
  bN : Bd 65 N
theorem NI.nb {p q N a b c d : Int} (h : NI p q N a b c d) (o : N < b + d) : NB p q N a b c d := ⟨h.b1, h.d1, h.bN, h.dN, o, h.one, h.lo, h.hi⟩
theorem NB.ni {p q N a b c d : Int} (h : NB p q N a b c d) : NI p q N a b c d := ⟨h.b1, h.d1, h.bN, h.dN, h.one, h.lo, h.hi⟩
/-! ### what k15's law draws -/
theorem NR.bd {p q N : Int} {r : D} (h : NR p q N r) (f : FN p q N) : ∃ a b c d, r = .tuple [fr a b, fr c d] ∧ Bd 900 a ∧ Bd 900 b ∧ Bd 900 c ∧ Bd 900 d := by
  have f1 := f.bp
  have f2 := f.bq
  rcases h with ⟨h1, e⟩ | ⟨h1, a, b, c, d, n, e⟩
  · exact ⟨_, _, _, _, e, f1.mono (by decide), f2.mono (by decide), f1.mono (by decide), f2.mono (by decide)⟩
  · obtain ⟨b1, b2, b3, b4, _⟩ := n.ni.bd f.bp f.bq f.bN
    exact ⟨_, _, _, _, e, b3.mono (by decide), b1.mono (by decide), b4.mono (by decide), b2.mono (by decide)⟩
theorem NB.at {p q N N' a b c d : Int} (n : NB p q N a b c d) (h1 : b ≤ N') (h2 : d ≤ N') (h3 : N' < b + d) : NB p q N' a b c d := ⟨n.b1, n.d1, h1, h2, h3, n.one, n.lo, n.hi⟩
theorem FN.at {p q N N' : Int} (f : FN p q N) (h1 : 1 ≤ N') (h2 : N' ≤ q) : FN p q N' := ⟨f.q1, f.g, h1, f.bp, f.bq, by have := f.bq; unfold Bd at *; omega⟩
end Tq

set_option maxRecDepth 100000
set_option maxHeartbeats 4000000
namespace Tq
open PySem PySem.Spec PyProof.Rows L2
/-! ### the best fractions, by going through all bottoms -/
structure LB (p q k a b : Int) : Prop where
  b1 : 1 ≤ b
  bk : b ≤ k
  lo : a * q ≤ p * b
  best : ∀ x y, 1 ≤ y → y ≤ k → x * q ≤ p * y → x * b ≤ a * y
  less : ∀ x y, 1 ≤ y → y < b → x * q ≤ p * y → x * b < a * y
end Tq

set_option maxRecDepth 100000
set_option maxHeartbeats 4000000
namespace Tq
open PySem PySem.Spec PyProof.Rows L2
/-! ### tuples of the text's top, in, lists taken apart -/
/-- the name x is a thing of the written part that reads as d -/
structure GD (K : Fg) (mg : Str → Option Value) (x : Str) (a : Addr) (d : D) : Prop where
  m : mg x = some (.ref a)
  r : ∀ (M : Addr → Prop) (H : Hp), Rp K M H (.ref a) d
mutual
/-- a value of the written part that reads as d -/
inductive KV1 (K : Fg) : Value → V → D → Prop
  | int (i : Int) (t : Tok) : KV1 K (.int i t) (.int i) (.int i)
  | str (s : Str) (t : Tok) : KV1 K (.str s t) (.str s) (.str s)
  | tup {a : Addr} {od : Option Addr} {sl : Array (Option Value)} {us : List Value} {vs : List V} {ds : List D} {n : Nat} (hz : us.length ≤ sizeLine) (l : K.lookup a = some ⟨.type "tuple", od, .seq us.toArray n, sl⟩) (kv : KVs K us vs ds) : KV1 K (.ref a) (.ref a) (.tuple ds)
inductive KVs (K : Fg) : List Value → List V → List D → Prop
  | nil : KVs K [] [] []
  | cons {u : Value} {v : V} {d : D} {us : List Value} {vs : List V} {ds : List D} : KV1 K u v d → KVs K us vs ds → KVs K (u :: us) (v :: vs) (d :: ds)
end
theorem KVs.vals {K : Fg} : ∀ {us : List Value} {vs : List V} {ds : List D}, KVs K us vs ds → Vals vs us
  | _, _, _, .nil => .nil
  | _, _, _, .cons (.int i t) b => .cons ⟨t, rfl⟩ b.vals
  | _, _, _, .cons (.str i t) b => .cons ⟨t, rfl⟩ b.vals
  | _, _, _, .cons (.tup _ _ _) b => .cons rfl b.vals
theorem KVs.rp {K : Fg} {M : Addr → Prop} {H : Hp} : ∀ {us : List Value} {vs : List V} {ds : List D}, KVs K us vs ds → RpA K M H vs ds
  | _, _, _, .nil => .nil
  | _, _, _, .cons (.int i t) b => .cons (.int i) b.rp
  | _, _, _, .cons (.str i t) b => .cons (.str i) b.rp
  | _, _, _, .cons (.tup hz l kv) b => .cons (.tup (.inr ⟨_, _, _, l, rfl, rfl, by rw [List.size_toArray]; exact hz, by simpa using kv.vals⟩) kv.rp) b.rp
theorem gd_tup {K : Fg} {h : Heap} {mg : Str → Option Value} {x : Str} {a : Addr} {od : Option Addr} {sl : Array (Option Value)} {us : List Value} {vs : List V} {ds : List D} {n : Nat} (X : K.In h) (G : h.Ns mainGlobals mg) (kv : KVs K us vs ds) (hz : us.length ≤ sizeLine)
    (aC : PySem.W.nsIn K mainGlobals x = some (some (.ref a))) (l : K.lookup a = some ⟨.type "tuple", od, .seq us.toArray n, sl⟩) : GD K mg x a (.tuple ds) :=
  ⟨PySem.W.mg_of X G aC, fun M H => .tup (.inr ⟨_, us.toArray, n, l, rfl, rfl, by rw [List.size_toArray]; exact hz, by simpa using kv.vals⟩) kv.rp⟩
section
variable {C : Ct} {y : S} {ta tb : TE} {Q : Z → S → Prop}
theorem wE_gd {a : Addr} {d : D} (h : ∀ (M : Addr → Prop) (H : Hp), Rp C.K M H (.ref a) d) (q : Q (.d d) y) : wE C (tC (.ref a)) y Q := fun F σ H K w k => k (.ref a) H (.d d) y w GoH.refl (Sh.refl y) (h _ H) q
/-! in, of plain things -/
def flatD : D → Bool
  | .none | .bool _ | .int _ | .str _ => true
  | _ => false
def eqF : D → D → Bool
  | .none, .none => true
  | .bool a, .bool b => a == b
  | .bool a, .int b => (if a then 1 else 0) == b
  | .int a, .bool b => a == (if b then 1 else 0)
  | .int a, .int b => a == b
  | .str a, .str b => a == b
  | _, _ => false
def inD (x : D) (xs : List D) : Bool := xs.any fun y => eqF y x
theorem flat_rp {K : Fg} {M : Addr → Prop} {H : Hp} {v : V} {d : D} (r : Rp K M H v d) (f : flatD d = true) : flatV v = true := by
  cases r <;> first | rfl | cases f
theorem eqF_rp {K : Fg} {M M' : Addr → Prop} {H H' : Hp} {v u : V} {d e : D} (r : Rp K M H v d) (f : flatD d = true) (r' : Rp K M' H' u e) (f' : flatD e = true) : eqV v u = eqF d e := by
  cases r <;> first | (cases f; done) | (cases r' <;> first | (cases f'; done) | rfl)
theorem inD_rp {K : Fg} {M : Addr → Prop} {H : Hp} {x : V} {d : D} (r : Rp K M H x d) (f : flatD d = true) : ∀ {vs : List V} {ds : List D}, RpA K M H vs ds → ds.all flatD = true → vs.all flatV = true ∧ inV x vs = inD d ds
  | _, _, .nil, _ => ⟨rfl, rfl⟩
  | _, _, .cons a b, h => by
    rw [List.all_cons, Bool.and_eq_true] at h
    obtain ⟨h1, h2⟩ := inD_rp r f b h.2
    refine ⟨by rw [List.all_cons, h1, flat_rp a h.1]; rfl, ?_⟩
    unfold inV inD at *
    rw [List.any_cons, List.any_cons, h2, eqF_rp a h.1 r f]
theorem wE_in {neg : Bool} (w : wE C ta y fun z y1 => wE C tb y1 fun z' y2 => ∃ d ds, z = .d d ∧ (z' = .d (.tuple ds) ∨ z' = .d (.list ds)) ∧ flatD d = true ∧ ds.all flatD = true ∧ Q (.d (.bool (if neg then !inD d ds else inD d ds))) y2) : wE C (tOp (rIn C.K neg) ta tb) y Q := by
  refine wE_op (res := fun d e r => ∃ ds, (e = .tuple ds ∨ e = .list ds) ∧ flatD d = true ∧ ds.all flatD = true ∧ r = .bool (if neg then !inD d ds else inD d ds)) ?_ (wE_mono w fun z y1 h => wE_mono h fun z' y2 ⟨d, ds, e1, e2, f1, f2, q⟩ => ?_)
  · rintro M H x y d e r Q _ rx ry ⟨ds, he, f1, f2, rfl⟩ k
    rcases he with rfl | rfl
    · obtain ⟨a, us, rfl, h1, h2⟩ := rp_tup ry
      obtain ⟨h3, h4⟩ := inD_rp rx f1 h2 f2
      refine ⟨a, us, rfl, .inr h1.sq, flat_rp rx f1, h3, ?_⟩
      rw [h4]
      exact k _ H (fun _ _ e => e) (.bl _)
    · obtain ⟨a, us, rfl, h1, h2⟩ := rp_lst ry
      obtain ⟨h3, h4⟩ := inD_rp rx f1 h2 f2
      refine ⟨a, us, rfl, .inl h1.sq, flat_rp rx f1, h3, ?_⟩
      rw [h4]
      exact k _ H (fun _ _ e => e) (.bl _)
  · rcases e2 with rfl | rfl
    · exact ⟨_, _, _, e1, rfl, ⟨ds, .inl rfl, f1, f2, rfl⟩, q⟩
    · exact ⟨_, _, _, e1, rfl, ⟨ds, .inr rfl, f1, f2, rfl⟩, q⟩
theorem wE_inT (w : wE C ta y fun z y1 => wE C tb y1 fun z' y2 => ∃ d ds, z = .d d ∧ (z' = .d (.tuple ds) ∨ z' = .d (.list ds)) ∧ flatD d = true ∧ ds.all flatD = true ∧ Q (.d (.bool (inD d ds))) y2) : wE C (tOp (rIn C.K false) ta tb) y Q := wE_in w
end
end Tq

set_option maxRecDepth 100000
set_option maxHeartbeats 4000000
namespace Tq
open PySem PySem.Spec PyProof.Rows L2
/-! ### rows of whole terms -/
def toI : D → Int
  | .int i => i
  | _ => 0
section
variable {C : Ct} {y : S} {te : TE} {Qi : List D → S → Prop}
theorem wI_anyL (w : wE C te y fun z y1 => ∃ xs, z = .d (.list xs) ∧ Qi xs y1) : wI C (iAny C.K te) y Qi := fun F σ H R wd k => .inl (wI_list w F σ H R wd k)
theorem wI_anyT (w : wE C te y fun z y1 => ∃ xs, z = .d (.tuple xs) ∧ Qi xs y1) : wI C (iAny C.K te) y Qi := fun F σ H R wd k => .inr (wI_tup w F σ H R wd k)
end
theorem cutD1 {α : Type} (xs : List α) : cutD xs (some 1) none = xs.drop 1 := by
  cases xs with
  | nil => rfl
  | cons x xs =>
    unfold cutD
    have h1 : HT.sIx (x :: xs).length 0 (some 1) = 1 := by
      unfold HT.sIx
      simp
    rw [h1]
    show (xs.drop 0).take (xs.length + 1 - 1) = xs
    simp
theorem atI_last {α : Type} {xs : List α} (h : xs ≠ []) : atI xs (-1) = xs.getLast? := by
  have hl : 0 < xs.length := List.length_pos_iff.mpr h
  have e : ixN xs.length (-1) = some (xs.length - 1) := by
    unfold ixN
    rw [if_neg (by omega), if_pos (by omega)]
    congr 1
    omega
  unfold atI
  rw [e, List.getLast?_eq_getElem?]
  rfl
/-! ### turns -/
structure Mx where
  a : Int
  b : Int
  c : Int
  d : Int
def Mx.mul (m n : Mx) : Mx := ⟨m.a * n.a + m.b * n.c, m.a * n.b + m.b * n.d, m.c * n.a + m.d * n.c, m.c * n.b + m.d * n.d⟩
def Mx.one : Mx := ⟨1, 0, 0, 1⟩
def Mx.term (t : Int) : Mx := ⟨t, 1, 1, 0⟩
def MB (k : Nat) (m : Mx) : Prop := Bd k m.a ∧ Bd k m.b ∧ Bd k m.c ∧ Bd k m.d
def turnL (ts : List Int) : Mx := ts.foldl (fun m t => m.mul (.term t)) .one
theorem turn_snoc (ts : List Int) (t : Int) : turnL (ts ++ [t]) = (turnL ts).mul (.term t) := by
  unfold turnL
  rw [List.foldl_append]
  rfl
theorem Mx.mul_term (m : Mx) (t : Int) : m.mul (.term t) = ⟨m.a * t + m.b, m.a, m.c * t + m.d, m.c⟩ := by
  unfold Mx.mul Mx.term
  simp
theorem bd1 {k : Nat} {x y : Int} (h : Bd k x) (h' : Bd k y) : Bd (k + 1) (x + y) := by
  unfold Bd at *
  have : 10 ^ (k + 1) = 10 ^ k * 10 := Nat.pow_succ ..
  omega
theorem mb_step {k : Nat} {m : Mx} {t : Int} (h : MB k m) (ht : Bd 13 t) : MB (k + 14) (m.mul (.term t)) := by
  rw [Mx.mul_term]
  obtain ⟨h1, h2, h3, h4⟩ := h
  exact ⟨bd1 (k := k + 13) (h1.mul ht) (h2.mono (by omega)), h1.mono (by omega), bd1 (k := k + 13) (h3.mul ht) (h4.mono (by omega)), h3.mono (by omega)⟩
theorem list_snoc {P : List Int → Prop} (h0 : P []) (hs : ∀ ts t, P ts → P (ts ++ [t])) : ∀ ts, P ts := fun ts => by
  have : ∀ n (ts : List Int), ts.length = n → P ts := by
    intro n
    induction n with
    | zero => intro ts h; rw [List.eq_nil_of_length_eq_zero h]; exact h0
    | succ n ih =>
      intro ts h
      have hne : ts ≠ [] := fun z => by rw [z] at h; cases h
      rw [← List.dropLast_concat_getLast hne]
      exact hs _ _ (ih _ (by rw [List.length_dropLast]; omega))
  exact this _ ts rfl
theorem mb_turn (ts : List Int) (h : ∀ t ∈ ts, Bd 13 t) : MB (14 * ts.length + 1) (turnL ts) := by
  revert h
  refine list_snoc (P := fun ts => (∀ t ∈ ts, Bd 13 t) → MB (14 * ts.length + 1) (turnL ts)) ?_ ?_ ts
  · intro _
    show MB 1 .one
    exact ⟨Bd.lit (by decide), Bd.lit (by decide), Bd.lit (by decide), Bd.lit (by decide)⟩
  · intro ts t ih h
    rw [turn_snoc, List.length_append]
    have := mb_step (ih fun u hu => h u (List.mem_append.mpr (.inl hu))) (h t (List.mem_append.mpr (.inr (List.mem_singleton.mpr rfl))))
    rw [show 14 * (ts.length + [t].length) + 1 = 14 * ts.length + 1 + 14 by simp; omega]
    exact this
theorem MB.mono {k k' : Nat} {m : Mx} (h : MB k m) (hk : k ≤ k') : MB k' m := ⟨h.1.mono hk, h.2.1.mono hk, h.2.2.1.mono hk, h.2.2.2.mono hk⟩
/-- terms that may be handled -/
def TB (ts : List Int) : Prop := ts.length ≤ 110 ∧ ∀ t ∈ ts, Bd 13 t
theorem TB.take {ts : List Int} (h : TB ts) (n : Nat) : TB (ts.take n) := ⟨by rw [List.length_take]; have := h.1; omega, fun t ht => h.2 t (List.mem_of_mem_take ht)⟩
theorem TB.turn {ts : List Int} (h : TB ts) : MB 1600 (turnL ts) := (mb_turn ts h.2).mono (by have := h.1; omega)
/-- terms from 1 on behind the first one -/
def Pos1 (ts : List Int) : Prop := ∀ t ∈ ts.drop 1, 1 ≤ t
/-- how far two rows are alike -/
def alike : List Int → List Int → Nat
  | t :: ts, u :: us => if t = u then alike ts us + 1 else 0
  | _, _ => 0
theorem atI_nat {α : Type} {xs : List α} {i : Nat} {g : α} (e : xs[i]? = some g) : atI xs (i : Int) = some g := by
  have hi := (List.getElem?_eq_some_iff.mp e).1
  unfold atI ixN
  rw [if_pos (by omega), if_pos (by omega)]
  show xs[(i : Int).toNat]? = some g
  rw [Int.toNat_natCast, e]
theorem dIx_at {d : D} {xs : List D} {i : Nat} {g : D} (h : dItems d = some xs) (e : xs[i]? = some g) : dIx d (i : Int) = some g := by
  cases d with
  | list ys => cases h; exact atI_nat e
  | tuple ys => cases h; exact atI_nat e
  | _ => cases h
/-! two rows side by side -/
/-! ### drawn rows -/
/-! the law's own look -/
theorem filter_nil {α : Type} {p : α → Bool} {xs : List α} : (xs.filter p).isEmpty = xs.all (fun x => !p x) := by
  induction xs with
  | nil => rfl
  | cons x r ih =>
    rw [List.filter_cons, List.all_cons]
    cases p x <;> simp [ih]
end Tq

set_option maxRecDepth 100000
set_option maxHeartbeats 4000000
namespace Tq
open PySem PySem.Spec PyProof.Rows L2
/-! ### repr of data of any kind: dicts at any depth, whole numbers of up to 3000 figures -/
mutual
def sw2 : D → Bool
  | .none | .bool _ | .str _ => true
  | .int i => decide (i.natAbs.log2 < 12000)
  | .list xs | .tuple xs => sw2A xs
  | .dict kvs => sw2K kvs
def sw2A : List D → Bool
  | [] => true
  | x :: xs => sw2 x && sw2A xs
def sw2K : List (D × D) → Bool
  | [] => true
  | (k, v) :: r => scD k && sw2 k && sw2 v && sw2K r
end
theorem big_small {i : Int} (h : i.natAbs.log2 < 12000) : i.natAbs < 10 ^ 4300 :=
  Nat.lt_of_lt_of_le (lt_of_log2 (Nat.lt_trans h (by decide))) pow_lo
section
variable {prog : Program} {w : World} {A : Around} {E : Value → Shared → Prop} {s : Shared}
theorem big_code {a : Int} {t : Tok} (ha : a.natAbs < 10 ^ 4300) : GivesAt (fun s => s.heap.NoDigits) (Builtin.«int.__repr__» ⟨[.int a t], []⟩) (.str (toString a)) := by
  intro prog w A R s hn hq
  unfold Builtin.«int.__repr__»
  show wpAny _ _ (do let r ← Builtin.overDigitLimit? a; _) _ _ s
  refine wpAny_bind (overDigitLimit_any hn (fun _ => ?_) fun hge => absurd ha (by omega))
  exact wpAny_bind (wpAny_mkStr (wpAny_pure hq.2) hq.1)
theorem big_fits {a : Int} (ha : a.natAbs < 10 ^ 4300) : (Str.ofString (toString a)).length ≤ sizeLine := int_text_fits10 ha
theorem big_obj {a : Int} {t : Tok} {Q : Value → Shared → Prop} (hn : s.heap.NoDigits) (ha : a.natAbs < 10 ^ 4300) (h : Q (.str (toString a) s.toks) { s with toks := s.toks + 1 }) : wpAny (model prog w) A (pyReprObj (.int a t)) Q E s := by
  have hv : ([Value.int a t] : List Value).any Value.onHeap = false := rfl
  unfold pyReprObj
  simp only [cRoomFor, hv, Bool.false_eq_true, if_false, pure_bind]
  refine wpAny_bind (wpAny_specialOf (T := "int") (typeIs_int s a t) (PySem.F.slot_int_repr).lookup ?_)
  refine wpAny_bind (m := callSpecialIfBound? (.int a t) _) (wpAny_callSpecialIfBound?_slot (T := "int") (typeIs_int s a t) PySem.F.slot_int_repr (call_givesAt PySem.F.slot_int_repr (typeIs_int s a t) PySem.F.entry_int_repr (PySem.F.args_int_repr_1 _) (big_code ha) hn ⟨big_fits ha, ?_⟩))
  exact wpAny_bind (wpAny_isInstance (T := "str") (b := true) rfl PySem.isSubtype_str_str (wpAny_pure h))
end
end Tq
namespace Tq
open PySem PySem.Spec PyProof.Rows L2
section
variable {prog : Program} {w : World} {A : Around} {E : Value → Shared → Prop} {s : Shared}
theorem big_call {a : Int} {t : Tok} {Q : Value → Shared → Prop} (hn : s.heap.NoDigits) (ha : a.natAbs < 10 ^ 4300) (h : Q (.str (toString a) s.toks) { s with toks := s.toks + 1 }) : wpAny (model prog w) A (call (.builtin "repr") [.int a t]) Q E s := by
  have hv : ([Value.int a t] : List Value).any Value.onHeap = false := rfl
  refine Calls.call_function_entry PySem.F.kind_repr PySem.F.plain_repr PySem.F.entry_repr (PySem.F.args_repr1 _) ?_
  unfold Builtin.«repr»
  refine wpAny_bind (m := oneArg "repr" _) (wpAny_pure ?_)
  simp only [cRoomFor, hv, Bool.false_eq_true, if_false, pure_bind]
  refine wpAny_bind (wpAny_specialOf (T := "int") (typeIs_int s a t) (PySem.F.slot_int_repr).lookup ?_)
  refine wpAny_bind (m := callSpecialIfBound? (.int a t) _) (wpAny_callSpecialIfBound?_slot (T := "int") (typeIs_int s a t) PySem.F.slot_int_repr (call_givesAt PySem.F.slot_int_repr (typeIs_int s a t) PySem.F.entry_int_repr (PySem.F.args_int_repr_1 _) (big_code ha) hn ⟨big_fits ha, ?_⟩))
  refine wpAny_bind (wpAny_isInstance (T := "str") (b := true) rfl PySem.isSubtype_str_str ?_)
  exact wpAny_pure ⟨_, rfl, h⟩
theorem big_k {a : Int} {t : Tok} {bs : List Addr} {h₀ : Heap} {d : Nat} (hn : h₀.NoDigits) (ha : a.natAbs < 10 ^ 4300) : ReprK prog w bs h₀ d (.int a t) (toString a) := by
  intro base hb A g E s Q hg hcl hu hk hQ
  have hb' : base ≤ sizeLine := by omega
  rw [pyReprUnder_leaf (v := .int a t) hb' (fun _ e => nomatch e)]
  unfold pyRepr
  exact wpAny_bind (big_obj (hn.keeps hk) ha (wpAny_pure (hQ s.heap _ fun _ _ e => e)))
end
mutual
theorem rk {X : Cx} {pins : List (Addr × Obj)} {σ : St} {H : Hp} {s : Shared} (I : Inv X pins σ H s) (hn : s.heap.NoDigits) : ∀ (d : D) (v : V) (u : Value), Rp X.K M0 H v d → RelV v u → sw2 d = true → d.shown.length ≤ sizeLine →
    ∃ as bs, Reads s.heap u d as ∧ ReadAtMost s.heap d.depth bs ∧ ReprK X.prog X.w bs s.heap d.depth u d.shown
  | .none, _, _, r, rv, _, _ => by
    cases r
    cases rv
    exact ⟨[], [], .none, (fun _ h => nomatch h), .of_is ReprIs.none _ _ _⟩
  | .bool b, _, _, r, rv, _, _ => by
    cases r
    cases rv
    exact ⟨[], [], .bool b, (fun _ h => nomatch h), .of_is (ReprIs.bool b) _ _ _⟩
  | .int i, _, _, r, rv, hs, _ => by
    cases r
    obtain ⟨t, rfl⟩ := rv
    exact ⟨[], [], .int i t, (fun _ h => nomatch h), big_k hn (big_small (of_decide_eq_true hs))⟩
  | .str x, _, _, r, rv, _, hz => by
    cases r
    obtain ⟨t, rfl⟩ := rv
    exact ⟨[], [], .str x t, (fun _ h => nomatch h), .of_is (ReprIs.str x t hz) _ _ _⟩
  | .list ds, _, _, r, rv, hs, hz => by
    cases r with
    | @lst a vs _ h1 h2 =>
      cases rv
      obtain ⟨its, rvs, ⟨o, n, ho, hc, _, hd⟩, _⟩ := I.list h1.sq
      have hz2 : (listText (PyData.shownAll ds)).length ≤ sizeLine := hz
      obtain ⟨as, bs, ra, hb, hk⟩ := rkA I hn ds vs its h2 rvs hs (fun t ht => Nat.le_trans (listText_mem_le ht) hz2)
      have rr : Reads s.heap (.ref a) (.list ds) (a :: as) := .list ho hc hd ra
      have na : a ∉ bs := not_mem_of_deeper rr (Nat.lt_succ_self _) hb
      refine ⟨_, a :: bs, rr, ReadAtMost.cons rr (Nat.le_succ _) hb, ?_⟩
      cases its with
      | nil =>
        cases ra
        exact ReprK.listEmpty ho hc hd
      | cons x l => exact ReprK.list ho hc hd na (by simpa using hk.length_eq) (fun i y e => hk.item i y (by simpa using e))
  | .tuple ds, _, _, r, rv, hs, hz => by
    cases r with
    | @tup a vs _ h1 h2 =>
      cases rv
      obtain ⟨its, rvs, ⟨o, ho, hc, n, hd⟩, _⟩ := I.tuple h1.sq
      have hz2 : (tupleText (PyData.shownAll ds)).length ≤ sizeLine := hz
      obtain ⟨as, bs, ra, hb, hk⟩ := rkA I hn ds vs its h2 rvs hs (fun t ht => Nat.le_trans (tupleText_mem_le ht) hz2)
      have rr : Reads s.heap (.ref a) (.tuple ds) as := .tuple ho hc hd ra
      have na : a ∉ bs := not_mem_of_deeper rr (Nat.lt_succ_self _) hb
      exact ⟨_, a :: bs, rr, ReadAtMost.cons rr (Nat.le_succ _) hb, ReprK.tuple ho hc hd na hk⟩
  | .dict kvs, _, _, r, rv, hs, hz => by
    cases r with
    | @dic a ks _ _ h k =>
      cases rv
      obtain ⟨_, nsm, vs, kv, o, es, ep, ho, ex, hdt, _, pr, _⟩ := (show ObjOk X.prog X.w H s.heap a (.dK ks) from I.hok a _ h)
      have hz2 : (dictText (PyData.shownKv kvs)).length ≤ sizeLine := hz
      obtain ⟨as, as', bs, bs', r1, r2, m1, m2, k1, k2⟩ := rkV I hn kvs ks vs es.toList k kv pr hs
        (fun t ht => let ⟨p, hp, hl⟩ := PyData.shownKv_key_le kvs t ht; Nat.le_trans hl (Nat.le_trans (dictText_mem_le hp) hz2))
        (fun t ht => let ⟨p, hp, hl⟩ := PyData.shownKv_val_le kvs t ht; Nat.le_trans hl (Nat.le_trans (dictText_mem_le hp) hz2))
      have rr : Reads s.heap (.ref a) (.dict kvs) _ := .dict ho ex.1 hdt r1 r2
      have hb : ReadAtMost s.heap (PyData.depthKv kvs) (bs ++ bs') := (m1.mono (PyData.depthAll_keys_le kvs)).append (m2.mono (PyData.depthAll_vals_le kvs))
      have na : a ∉ bs ++ bs' := not_mem_of_deeper rr (Nat.lt_succ_self _) hb
      have nsy : (a == sysModules) = false := by simpa using nsm
      refine ⟨_, a :: (bs ++ bs'), rr, ReadAtMost.cons rr (Nat.le_succ _) hb, ?_⟩
      show ReprK _ _ _ _ (PyData.depthKv kvs + 1) _ (dictText (PyData.shownKv kvs))
      rw [PyData.shownKv_eq]
      exact ReprK.dict ho ex.1 hdt nsy na (ReprEntriesK.of_two es.toList _ _ (k1.more_le (fun b hb => List.mem_append_left _ hb) (PyData.depthAll_keys_le kvs)) (k2.more_le (fun b hb => List.mem_append_right _ hb) (PyData.depthAll_vals_le kvs)))
theorem rkA {X : Cx} {pins : List (Addr × Obj)} {σ : St} {H : Hp} {s : Shared} (I : Inv X pins σ H s) (hn : s.heap.NoDigits) : ∀ (ds : List D) (vs : List V) (us : List Value), RpA X.K M0 H vs ds → Vals vs us → sw2A ds = true → (∀ t ∈ PyData.shownAll ds, t.length ≤ sizeLine) →
    ∃ as bs, ReadsAll s.heap us ds as ∧ ReadAtMost s.heap (PyData.depthAll ds) bs ∧ ReprAllK X.prog X.w bs s.heap (PyData.depthAll ds) us (PyData.shownAll ds)
  | [], _, _, r, rv, _, _ => by
    cases r
    cases rv
    exact ⟨[], [], .nil, (fun _ h => nomatch h), .nil⟩
  | d :: ds, _, _, r, rv, hs, hz => by
    cases r with
    | cons r1 r2 =>
      cases rv with
      | cons v1 v2 =>
        have hs : (sw2 d && sw2A ds) = true := hs
        rw [Bool.and_eq_true] at hs
        obtain ⟨as, bs, q1, q2, q3⟩ := rk I hn d _ _ r1 v1 hs.1 (hz _ List.mem_cons_self)
        obtain ⟨as', bs', q4, q5, q6⟩ := rkA I hn ds _ _ r2 v2 hs.2 (fun t ht => hz t (List.mem_cons_of_mem _ ht))
        exact ⟨_, bs ++ bs', .cons q1 q4, (q2.mono (Nat.le_max_left _ _)).append (q5.mono (Nat.le_max_right _ _)), .cons ((q3.more fun b hb => List.mem_append_left _ hb).level_le (Nat.le_max_left _ _)) (q6.more_le (fun b hb => List.mem_append_right _ hb) (Nat.le_max_right _ _))⟩
theorem rkV {X : Cx} {pins : List (Addr × Obj)} {σ : St} {H : Hp} {s : Shared} (I : Inv X pins σ H s) (hn : s.heap.NoDigits) : ∀ (kvs : List (D × D)) (ks : List (Key × V)) (vs : List (Key × Value)) (es : List DictEntry), RpK X.K M0 H ks kvs → KV ks vs → Pairs (mixKind X.prog X.w) es vs → sw2K kvs = true →
    (∀ t ∈ PyData.shownAll (kvs.map (·.1)), t.length ≤ sizeLine) → (∀ t ∈ PyData.shownAll (kvs.map (·.2)), t.length ≤ sizeLine) →
    ∃ as as' bs bs', ReadsAll s.heap (es.map (·.key)) (kvs.map (·.1)) as ∧ ReadsAll s.heap (es.map (·.val)) (kvs.map (·.2)) as' ∧ ReadAtMost s.heap (PyData.depthAll (kvs.map (·.1))) bs ∧ ReadAtMost s.heap (PyData.depthAll (kvs.map (·.2))) bs' ∧
      ReprAllK X.prog X.w bs s.heap (PyData.depthAll (kvs.map (·.1))) (es.map (·.key)) (PyData.shownAll (kvs.map (·.1))) ∧ ReprAllK X.prog X.w bs' s.heap (PyData.depthAll (kvs.map (·.2))) (es.map (·.val)) (PyData.shownAll (kvs.map (·.2)))
  | [], _, _, _, r, kv, pr, _, _, _ => by
    cases r
    cases kv
    cases pr
    exact ⟨[], [], [], [], .nil, .nil, (fun _ h => nomatch h), (fun _ h => nomatch h), .nil, .nil⟩
  | (kd, d) :: kvs, _, _, _, r, kv, pr, hs, hz1, hz2 => by
    cases r with
    | @cons k v _ _ _ a b =>
      cases kv with
      | @cons _ kw _ _ r1 r2 =>
        cases pr with
        | @cons e _ es _ p1 p2 p3 =>
          have hs : (((scD (kD k) && sw2 (kD k)) && sw2 d) && sw2K kvs) = true := hs
          rw [Bool.and_eq_true, Bool.and_eq_true, Bool.and_eq_true] at hs
          obtain ⟨⟨⟨_, s1⟩, s2⟩, s3⟩ := hs
          obtain ⟨as, as', bs, bs', q1, q2, m1, m2, k1, k2⟩ := rkV I hn kvs _ _ _ b r2 p3 s3 (fun t ht => hz1 t (List.mem_cons_of_mem _ ht)) (fun t ht => hz2 t (List.mem_cons_of_mem _ ht))
          have e1 : k = kw.1 := r1.1
          have rv : RelV v kw.2 := r1.2
          obtain ⟨av, bv, u1, u2, u3⟩ := rk I hn d v kw.2 a rv s2 (hz2 _ List.mem_cons_self)
          rw [← p2] at u1 u3
          have rk1 : Reads s.heap e.key (kD k) [] ∧ ReprK X.prog X.w [] s.heap (kD k).depth e.key (kD k).shown := by
            rw [← e1, mixKind_is] at p1
            have hz0 : (kD k).shown.length ≤ sizeLine := hz1 _ List.mem_cons_self
            rcases keyIs_shape p1 with ⟨i, t, z1, z2⟩ | ⟨x, t, z1, z2⟩
            · subst z1
              rw [z2]
              exact ⟨.int i t, big_k hn (big_small (of_decide_eq_true s1))⟩
            · subst z1
              rw [z2]
              exact ⟨.str x t, .of_is (ReprIs.str x t hz0) _ _ _⟩
          refine ⟨_, _, [] ++ bs, bv ++ bs', .cons rk1.1 q1, .cons u1 q2, ?_, (u2.mono (Nat.le_max_left _ _)).append (m2.mono (Nat.le_max_right _ _)), .cons (rk1.2.more (fun b hb => nomatch hb) |>.level_le (Nat.le_max_left _ _)) (k1.more_le (fun b hb => List.mem_append_right _ hb) (Nat.le_max_right _ _)), .cons ((u3.more fun b hb => List.mem_append_left _ hb).level_le (Nat.le_max_left _ _)) (k2.more_le (fun b hb => List.mem_append_right _ hb) (Nat.le_max_right _ _))⟩
          exact m1.mono (Nat.le_max_right _ _)
end
end Tq
namespace Tq
open PySem PySem.Spec PyProof.Rows L2
def rReprX (K : Fg) : List V → Hp → VK → Prop := fun xs H Q => ∃ x d, xs = [x] ∧ Rp K M0 H x d ∧ sw2 d = true ∧ d.depth ≤ 60 ∧ d.shown.length ≤ sizeLine ∧ Q (.str d.shown) H
theorem call_reprX {X : Cx} (hg : X.A.guards = some []) (hu : X.A.units + 64 < cLine) (hdg : X.base.NoDigits) : CallR X (.builtin "repr") (rReprX X.K) := by
  intro pins s σ H xs us Q I r h
  obtain ⟨x, d, rfl, rx, hs, hd, hz, q⟩ := h
  obtain ⟨u, rfl, rv⟩ := vals1 r
  have hn : s.heap.NoDigits := hdg.keeps fun b o e => (I.env0.bs b o e).1
  have fin : ∀ tk t h', (∀ b o, s.heap.get? b = some o → h'.get? b = some o) → EP X pins σ Q (.str d.shown t) { s with heap := h', toks := tk } := fun tk t h' k => ⟨.str d.shown, H, I.kept (t' := tk) k, ⟨t, rfl⟩, q⟩
  cases rx with
  | non =>
    cases (show u = Value.none from rv)
    exact PySem.P.repr_of_none (by have := fin (s.toks + 1) s.toks s.heap (fun _ _ e => e); simpa only [PyData.shown] using this)
  | bl b =>
    cases (show u = Value.bool b from rv)
    exact PySem.P.repr_of_bool (by have := fin (s.toks + 1) s.toks s.heap (fun _ _ e => e); simpa only [PyData.shown] using this)
  | int b =>
    obtain ⟨t, e⟩ := (show ∃ t, u = Value.int b t from rv)
    cases e
    exact big_call hn (big_small (of_decide_eq_true hs)) (fin (s.toks + 1) s.toks s.heap (fun _ _ e => e))
  | str b =>
    obtain ⟨t, e⟩ := (show ∃ t, u = Value.str b t from rv)
    cases e
    exact PySem.P.repr_of_str (by have := fin (s.toks + 1) s.toks s.heap (fun _ _ e => e); simpa only [PyData.shown] using this) (by simpa only [PyData.shown] using hz)
  | @lst a vs ds h1 h2 =>
    cases (show u = Value.ref a from rv)
    obtain ⟨its, rvs, ⟨o, n, ho, hc, _, hdt⟩, _⟩ := I.list h1.sq
    have hz2 : (listText (PyData.shownAll ds)).length ≤ sizeLine := hz
    have hd2 : PyData.depthAll ds + 1 ≤ 60 := hd
    obtain ⟨as, bs, ra, hb, hk⟩ := rkA I hn ds vs its h2 rvs hs (fun t ht => Nat.le_trans (listText_mem_le ht) hz2)
    have na : a ∉ bs := not_mem_of_deeper (.list ho hc hdt ra) (Nat.lt_succ_self _) hb
    refine call_repr_slot (by omega) ⟨o, ho, hc⟩ PySem.F.slot_list_repr.toG ?_
    cases its with
    | nil =>
      cases ra
      exact call_list_repr_empty ⟨o, ho, hc⟩ ho hdt ⟨_, _, rfl, fin _ _ s.heap fun _ _ e => e⟩
    | cons x l => exact call_list_reprK (g := []) ho hc hdt na (by simpa using hk.length_eq) (fun i y e => hk.item i y (by simpa using e)) hg (fun b _ => Clear.nil b) (by show X.A.units + 1 + (PyData.depthAll ds + 1) < cLine; omega) (fun _ _ e => e) (fun h' t tk k => ⟨_, _, rfl, fin tk t h' k⟩) hz2
  | @tup a vs ds h1 h2 =>
    cases (show u = Value.ref a from rv)
    obtain ⟨its, rvs, ⟨o, ho, hc, n, hdt⟩, _⟩ := I.tuple h1.sq
    have hz2 : (tupleText (PyData.shownAll ds)).length ≤ sizeLine := hz
    have hd2 : PyData.depthAll ds + 1 ≤ 60 := hd
    obtain ⟨as, bs, ra, hb, hk⟩ := rkA I hn ds vs its h2 rvs hs (fun t ht => Nat.le_trans (tupleText_mem_le ht) hz2)
    have na : a ∉ bs := not_mem_of_deeper (.tuple ho hc hdt ra) (Nat.lt_succ_self _) hb
    refine call_repr_slot (by omega) ⟨o, ho, hc⟩ PySem.F.slot_tuple_repr ?_
    exact call_tuple_reprK (g := []) ho hc hdt na hk hg (fun b _ => Clear.nil b) (by show X.A.units + 1 + (PyData.depthAll ds + 1) < cLine; omega) (fun _ _ e => e) (fun h' t tk k => ⟨_, _, rfl, fin tk t h' k⟩) hz2
  | @dic a ks kvs _ h k =>
    cases (show u = Value.ref a from rv)
    obtain ⟨_, nsm, vs, kv, o, es, ep, ho, ex, hdt, _, pr, _⟩ := (show ObjOk X.prog X.w H s.heap a (.dK ks) from I.hok a _ h)
    have hz2 : (dictText (PyData.shownKv kvs)).length ≤ sizeLine := hz
    have hd2 : PyData.depthKv kvs + 1 ≤ 60 := hd
    obtain ⟨as, as', bs, bs', r1, r2, m1, m2, k1, k2⟩ := rkV I hn kvs ks vs es.toList k kv pr hs
      (fun t ht => let ⟨p, hp, hl⟩ := PyData.shownKv_key_le kvs t ht; Nat.le_trans hl (Nat.le_trans (dictText_mem_le hp) hz2))
      (fun t ht => let ⟨p, hp, hl⟩ := PyData.shownKv_val_le kvs t ht; Nat.le_trans hl (Nat.le_trans (dictText_mem_le hp) hz2))
    have hb : ReadAtMost s.heap (PyData.depthKv kvs) (bs ++ bs') := (m1.mono (PyData.depthAll_keys_le kvs)).append (m2.mono (PyData.depthAll_vals_le kvs))
    have na : a ∉ bs ++ bs' := not_mem_of_deeper (.dict ho ex.1 hdt r1 r2) (Nat.lt_succ_self _) hb
    have nsy : (a == sysModules) = false := by simpa using nsm
    refine call_repr_slot (by omega) ⟨o, ho, ex.1⟩ PySem.F.slot_dict_repr ?_
    have ew : PyData.shown (.dict kvs) = dictText (List.zipWith (fun k v : Str => k ++ ": " ++ v) (PyData.shownAll (kvs.map (·.1))) (PyData.shownAll (kvs.map (·.2)))) := by show dictText (PyData.shownKv kvs) = _; rw [PyData.shownKv_eq]
    rw [ew] at fin
    exact call_dict_reprK (g := []) ho ex.1 hdt nsy na (ReprEntriesK.of_two es.toList _ _ (k1.more_le (fun b hb => List.mem_append_left _ hb) (PyData.depthAll_keys_le kvs)) (k2.more_le (fun b hb => List.mem_append_right _ hb) (PyData.depthAll_vals_le kvs))) hg (fun b _ => Clear.nil b) (by show X.A.units + 1 + (PyData.depthKv kvs + 1) < cLine; omega) (fun _ _ e => e) (fun h' t tk k => ⟨_, _, rfl, fin tk t h' k⟩) (by rw [← PyData.shownKv_eq]; exact hz2)
end Tq
namespace Tq
open PySem PySem.Spec PyProof.Rows L2
section
variable {P : Program} {w : World} {K : Fg} {mg mb : Str → Option Value} {CX : CXT} {k : Nat} {fa a : Addr} {fd : FuncData} {x : Str} {sp : Sp} {s₁ : Shared} {vs : List Value} {ns : List Int}
theorem law_coreD (KX : K.In s₁.heap) (hns : s₁.heap.Ns mainGlobals mg) (hb : s₁.heap.Ns builtinsNs mb) (hbb : ∀ x : Str, x ≠ "__name__" → mb x = bootBuiltins x) (hlim : s₁.heap.NoLimit) (hdg : s₁.heap.NoDigits) (hg : s₁.gens = #[])
    (ha : s₁.heap.get? a = some { cls := .type "list", data := .seq vs.toArray }) (hr : Room k callerA)
    (F : ∀ base : Heap, K.In base → base.Ns mainGlobals mg → base.NoDigits → FnG P w K mg base CX k fa fd [x] sp) (hbind : ∀ (s : Shared) (u : Value), BindsTo s fd ⟨[u], []⟩ [(x, u)])
    (hCX : ∀ H e s', CX [] H s₁ (fun _ _ _ => False) e s' → False)
    (H : Hp) (hsp : sp [.ref a] H (fun v _ => v = .bl true) fun _ _ _ => False) (hO : Only H) (hok : HOk P w H s₁.heap) (hA : ∀ b, H b ≠ none → b = a) (hK : H a ≠ none → K.lookup a = none) :
    codeAny (model P w) callerA (.call (.ref fa) ⟨[.ref a], []⟩) (LawEnd s₁) s₁ := by
  have isA : ∀ {b : Addr} {u : HO}, H b = some u → b = a := fun {b u} q => hA b (by rw [q]; simp)
  have noA : ∀ {b : Addr} {o : Obj} {es : Array DictEntry} {ep : Nat}, s₁.heap.get? b = some o → o.data = .dict es ep → H b = none := by
    intro b o es ep e d
    cases q : H b with
    | none => rfl
    | some u =>
      rw [isA q, ha] at e
      cases e
      cases (show Data.seq vs.toArray _ = Data.dict es ep from d)
  have nsK : ∀ {b : Addr} {m : Str → Option Value}, s₁.heap.Ns b m → (hidT s₁.heap H).Ns b m := fun {b m} ⟨o, es, ep, e, d, r⟩ => ⟨o, es, ep, hidT_get e (noA e d), d, r⟩
  have hKb : K.In (hidT s₁.heap H) := by
    intro b o e
    refine hidT_get (KX b o e) ?_
    cases q : H b with
    | none => rfl
    | some u =>
      have eb := isA q
      subst eb
      rw [hK (by rw [q]; simp)] at e
      cases e
  obtain ⟨mc, lim1, lim2⟩ := hlim
  have hM : Mod K mg (hidT s₁.heap H) := ⟨hKb, nsK hns, ⟨mb, nsK hb, hbb⟩, ⟨mc, nsK lim1, lim2⟩⟩
  have e0 : Env0 P w K mg (hidT s₁.heap H) callerA [] s₁ H :=
    ⟨rfl, hM, fun b o e => of_hidT e, Nat.le_of_eq (hidT_size _ _), trivial, fun b hb => absurd (show b ∈ ([] : List Addr) from hb) (by simp), hok, .of_eq hg⟩
  refine codeAny_mono ((F _ hKb (nsK hns) (let ⟨mc, n1, n2⟩ := hdg; ⟨mc, nsK n1, n2⟩)).run callerA [] s₁ H ⟨[.ref a], []⟩ [.ref a] [.ref a] _ _ hr rfl e0 (hbind s₁ (.ref a)) (.cons rfl .nil) hsp) fun r s' h => ?_
  cases r with
  | error e => exact (hCX H e s' h).elim
  | ok fl =>
    cases fl
    case ret u =>
      obtain ⟨v, G, os, bare, un, hok', r', q⟩ := h
      cases (show v = .bl true from q)
      cases (show u = Value.bool true from r')
      refine ⟨rfl, OldK.of_keep fun b o e => ?_, os, bare⟩
      rcases hO b with z | ⟨ob, xs, z⟩
      · exact un.keep b o e z (by intro zz; exact absurd (show b ∈ ([] : List Addr) from zz) (by simp)) (by simp)
      · obtain ⟨e1, _⟩ := hok b _ z
        obtain ⟨e2, _⟩ := hok' b _ (un.frzs b ob _ z)
        rw [e] at e1
        cases e1
        exact e2
    all_goals exact False.elim h
/-- the law's promise at the heap behind the top, the guards told -/
theorem law_callD (KX : K.In s₁.heap) (hns : s₁.heap.Ns mainGlobals mg) (hb : s₁.heap.Ns builtinsNs mb) (hbb : ∀ x : Str, x ≠ "__name__" → mb x = bootBuiltins x) (hlim : s₁.heap.NoLimit) (hdg : s₁.heap.NoDigits) (hg : s₁.gens = #[])
    (ha : s₁.heap.get? a = some { cls := .type "list", data := .seq vs.toArray }) (hi : IntsAre vs ns) (hl : ns.length ≤ sizeLine) (hr : Room k callerA)
    (F : ∀ base : Heap, K.In base → base.Ns mainGlobals mg → base.NoDigits → FnG P w K mg base CX k fa fd [x] sp) (hbind : ∀ (s : Shared) (u : Value), BindsTo s fd ⟨[u], []⟩ [(x, u)])
    (hsp : ∀ H : Hp, Only H → SqL K H a (ns.map V.int) → sp [.ref a] H (fun v _ => v = .bl true) fun _ _ _ => False)
    (hCX : ∀ H e s', CX [] H s₁ (fun _ _ _ => False) e s' → False) :
    codeAny (model P w) callerA (.call (.ref fa) ⟨[.ref a], []⟩) (LawEnd s₁) s₁ := by
  have rv := vals_ints hi
  cases hk : K.lookup a with
  | some o =>
    have e := KX a o hk
    rw [ha] at e
    cases e
    have hO : Only (fun _ => none) := fun _ => .inl rfl
    refine law_coreD KX hns hb hbb hlim hdg hg ha hr F hbind hCX (fun _ => none) (hsp _ hO ?_) hO (fun b u z => by cases z) (fun b z => absurd rfl z) fun z => absurd rfl z
    refine .inr ⟨_, vs.toArray, _, hk, rfl, rfl, rfl, ?_, by simpa using rv⟩
    rw [List.size_toArray, hi.length]
    exact hl
  | none =>
    have ob : (({ cls := .type "list", data := .seq vs.toArray } : Obj)) = { cls := .type "list", data := .seq vs.toArray } := rfl
    generalize hH : (fun b : Addr => if b = a then some (HO.frz { cls := .type "list", data := .seq vs.toArray } (.lst (ns.map V.int))) else none) = H
    have at1 : H a = some (HO.frz { cls := .type "list", data := .seq vs.toArray } (.lst (ns.map V.int))) := by rw [← hH]; exact if_pos rfl
    have at2 : ∀ b, b ≠ a → H b = none := fun b hb => by rw [← hH]; exact if_neg hb
    have hO : Only H := fun b => by
      by_cases hb : b = a
      · subst hb; exact .inr ⟨_, _, at1⟩
      · exact .inl (at2 b hb)
    refine law_coreD KX hns hb hbb hlim hdg hg ha hr F hbind hCX H (hsp _ hO (.inl (.inr ⟨_, at1⟩))) hO (fun b u z => ?_) (fun b z => ?_) fun _ => hk
    · by_cases hb : b = a
      · subst hb
        rw [at1] at z
        cases z
        exact ⟨ha, by rw [List.length_map]; exact hl, vs, _, rv, ha⟩
      · rw [at2 b hb] at z; cases z
    · by_cases hb : b = a
      · exact hb
      · exact absurd (at2 b hb) z
end
theorem walk_ofD {l : PySem.W.OpenLaw} {n k : Nat} {q : Program} {loose : List Str} {XP : (Str → Option Value) → Heap → Prop} {YP : World → Heap → Prop} {d : DefRec} {K : Params → Fg} {sp : Fg → Sp} {x : Str}
    (hn : l.most = some n) (hn2 : n ≤ sizeLine) (hdf : d.params.defaults = []) (hr : Room k callerA)
    (hY : ∀ (w : World) (h : Heap), YP w h → (K w.params).In h)
    (F : ∀ (w : World) (mg : Str → Option Value) (fa : Addr) (h : Heap), (K w.params).In h → h.Ns mainGlobals mg → mg d.name = some (.ref fa) →
      ∃ fd : FuncData, (∀ (s : Shared) (u : Value), BindsTo s fd ⟨[u], []⟩ [(x, u)]) ∧
        ∀ base : Heap, (K w.params).In base → base.Ns mainGlobals mg → base.NoDigits → FnG l.prog w (K w.params) mg base CX0 k fa fd [x] (sp (K w.params)))
    (hsp : ∀ (K : Fg) (H : Hp) (a : Addr) (ns : List Int), ns.length ≤ n → Only H → SqL K H a (ns.map V.int) → sp K [.ref a] H (fun v _ => v = .bl true) fun _ _ _ => False) :
    PySem.W.WalkO q loose XP YP l.row.toRowW d [] (fun f vs => PySem.call f vs) := by
  refine Att.attach_call hn hdf fun w s₀ s₁ mg mb fa o pm cd doc a vs ns G Y ho hd hcd hmg hobj hints hlen hg => ?_
  have KX := hY w _ Y
  obtain ⟨fd, hb, hF⟩ := F w mg fa _ KX G.T.g hmg
  exact law_callD KX G.T.g G.T.b G.T.builtins G.T.nolimit G.T.nodigits hg hobj hints (Nat.le_trans hlen hn2) hr hF hb (fun H hO hS => hsp (K w.params) H a ns hlen hO hS) fun H e s' h => h
end Tq
namespace Tq
open PySem PySem.Spec PyProof.Rows L2
theorem law_mkD {P : Program} {w : World} {K : Fg} {h : Heap} {mg : Str → Option Value} {st : Stmt} {x : Str} {f fa : Addr} {n : Nat} {sp : Sp} {od an : Option Addr} {sl : Array (Option Value)} {oc kV dc pm cd ct : Value} (X : K.In h) (G : h.Ns mainGlobals mg) (hfa : mg "law" = some (.ref fa))
    (ok : ∀ (base : Heap) (f : Addr) (fd : FuncData), base.NoDigits → Fun K "law" "law" st f fd → FnG P w K mg base CX0 n f fd [x] sp)
    (hb : ∀ (kV dc pm : Value) (an : Option Addr) (cd ct : Value) (s : Shared) (u : Value), BindsTo s (PySem.W.fnOf "law" "law" (defArgs st) (defBody st) (defScope st) .none kV dc pm an cd ct) ⟨[u], []⟩ [(x, u)])
    (a : PySem.W.nsIn K mainGlobals "law" = some (some (.ref f))) (l : K.lookup f = some ⟨oc, od, .func (PySem.W.fnOf "law" "law" (defArgs st) (defBody st) (defScope st) .none kV dc pm an cd ct), sl⟩) (c : PySem.W.codeIn K cd "law" = true) (k : PySem.W.keepIn K (.ref f) = true) :
    ∃ fd : FuncData, (∀ (s : Shared) (u : Value), BindsTo s fd ⟨[u], []⟩ [(x, u)]) ∧ ∀ base : Heap, K.In base → base.Ns mainGlobals mg → base.NoDigits → FnG P w K mg base CX0 n fa fd [x] sp := by
  have e := hfa.symm.trans (PySem.W.mg_of X G a)
  cases e
  exact ⟨_, hb kV dc pm an cd ct, fun base _ _ dg => ok base _ _ dg (fun_mk l c k)⟩
/-- what may be shown -/
structure ShX (d : D) : Prop where
  sw : sw2 d = true
  dp : d.depth ≤ 60
  ln : d.shown.length ≤ sizeLine
theorem reprXK {X : Cx} (K : Fg) (hg : X.A.guards = some []) (hu : X.A.units + 64 < cLine) (hd : X.base.NoDigits) (h : X.K = K := by rfl) : CallR X (.builtin "repr") (rReprX K) := h ▸ call_reprX hg hu hd
theorem wE_reprX {C : Ct} {y : S} {te : TE} {Q : Z → S → Prop} (w : wE C te y fun z y1 => ∃ d, z = .d d ∧ ShX d ∧ Q (.d (.str d.shown)) y1) : wE C (tCB (rReprX C.K) (tCons te tNil)) y Q := by
  intro F σ H K wd k
  refine w F σ H _ wd fun x H1 z y1 w1 g1 s1 r1 q1 => ?_
  obtain ⟨d, rfl, ⟨h1, h2, h3⟩, h⟩ := q1
  exact ⟨x, d, rfl, Rp.any r1, h1, h2, h3, k _ H1 (.d (.str d.shown)) y1 w1 g1 s1 (.str _) h⟩
end Tq

set_option maxRecDepth 100000
set_option maxHeartbeats 4000000
namespace Tq
open PySem PySem.Spec PyProof.Rows L2
/-! ### xs[-2::-1], xs[::-1] -/
def tRev2 (K : Fg) (te : TE) : TE := fun σ H Q => te σ H fun x H1 => ∃ a xs, x = .ref a ∧ SqL K H1 a xs ∧ ∀ p, H1 p = none → Q (.ref p) (upd H1 p (.lst xs.dropLast.reverse))
def tRev1 (K : Fg) (te : TE) : TE := tRevL K te
theorem pe_rev1 {X : Cx} {e : Expr} {te : TE} {k : Nat} {p1 p2 p3 pos : Pos} (K : Fg) (he : PE X e te) (hK : X.K = K := by rfl) : PE X (.Subscript e (.Slice none none (some (.UnaryOp .USub (.Constant (.int 1) k p1) p2)) p3) pos) (tRev1 K te) := hK ▸ pe_revL he
section
variable {C : Ct} {y : S} {te : TE} {Q : Z → S → Prop}
theorem wE_rev2 (w : wE C te y fun z y1 => ∃ xs, z = .d (.list xs) ∧ Q (.d (.list xs.dropLast.reverse)) y1) : wE C (tRev2 C.K te) y Q := by
  intro F σ H K wd k
  refine w F σ H _ wd fun x H1 z y1 w1 g1 s1 r1 ⟨xs, ez, q⟩ => ?_
  subst ez
  obtain ⟨a, us, rfl, h1, h2⟩ := rp_lst r1
  refine ⟨a, us, rfl, h1.sq, fun p hp => ?_⟩
  have gr := grow_upd (o := .lst us.dropLast.reverse) hp
  have h3 : RpA C.K (Mv F σ y1) H1 us.dropLast xs.dropLast := by
    rw [List.dropLast_eq_take, List.dropLast_eq_take, h2.len]
    exact h2.take _
  exact k _ _ (.d (.list xs.dropLast.reverse)) y1 (w1.grow gr) (g1.trans (go_grow gr)) s1 (.lst (.inl ⟨w1.new hp, .inl upd_same⟩) (h3.rev.go (go_grow gr))) q
theorem wE_rev1 (w : wE C te y fun z y1 => ∃ xs, z = .d (.list xs) ∧ Q (.d (.list xs.reverse)) y1) : wE C (tRev1 C.K te) y Q := by
  intro F σ H K wd k
  refine w F σ H _ wd fun x H1 z y1 w1 g1 s1 r1 ⟨xs, ez, q⟩ => ?_
  subst ez
  obtain ⟨a, us, rfl, h1, h2⟩ := rp_lst r1
  refine ⟨a, us, rfl, h1.sq, fun p hp => ?_⟩
  have gr := grow_upd (o := .lst us.reverse) hp
  exact k _ _ (.d (.list xs.reverse)) y1 (w1.grow gr) (g1.trans (go_grow gr)) s1 (.lst (.inl ⟨w1.new hp, .inl upd_same⟩) (h2.rev.go (go_grow gr))) q
end
/-! ### turns: products, values from behind -/
def Mx.det (m : Mx) : Int := m.a * m.d - m.b * m.c
/-! ### enumerate -/
/-! ### neighbours among the beginnings of a row -/
def sgE (i : Nat) : Int := if i % 2 = 0 then 1 else -1
/-- what stands at a place of a legal row -/
structure Amid (ts : List Int) (i : Nat) (a1 c1 a0 c0 p q : Int) : Prop where
  rc : ∃ rc : Int, 0 ≤ rc ∧ (rc = 0 ↔ i + 1 = ts.length) ∧ a1 * q - p * c1 = rc * sgE (i + 1) ∧ (1 ≤ i → ∃ ra, rc ≤ ra ∧ a0 * q - p * c0 = ra * sgE i)
  det : a1 * c0 - a0 * c1 = - sgE i
  cs : 1 ≤ i → 0 ≤ c0 ∧ c0 ≤ c1
end Tq

set_option maxRecDepth 100000
set_option maxHeartbeats 4000000
namespace Tq
open PySem PySem.Spec PyProof.Rows L2
/-! ### how long the text of data is that holds great whole numbers -/
structure Shx (b k : Nat) (d : D) : Prop where
  sw : sw2 d = true
  dp : d.depth ≤ k
  ln : d.shown.length ≤ b
theorem Shx.ok {b k : Nat} {d : D} (h : Shx b k d) (hb : b ≤ 10000000 := by decide) (hk : k ≤ 60 := by decide) : ShX d :=
  ⟨h.sw, Nat.le_trans h.dp hk, Nat.le_trans h.ln (Nat.le_trans hb (by decide))⟩
theorem Shx.mono {b k b' k' : Nat} {d : D} (h : Shx b k d) (hb : b ≤ b') (hk : k ≤ k') : Shx b' k' d := ⟨h.sw, Nat.le_trans h.dp hk, Nat.le_trans h.ln hb⟩
theorem rx_int {i : Int} {k : Nat} (h : i.natAbs < 10 ^ k) (hk : 0 < k := by decide) (h2 : k ≤ 3600 := by decide) : Shx (k + 1) 0 (.int i) := by
  refine ⟨?_, Nat.le_refl _, ?_⟩
  · refine decide_eq_true (log2_lt (Nat.lt_of_lt_of_le h ?_) (by decide))
    exact Nat.le_trans (Nat.pow_le_pow_right (by decide) h2) (by decide +kernel)
  · show (Str.ofString (toString i)).length ≤ _
    rw [PySem.ofString_length]
    exact int_text_length_le10 hk h
theorem rx_all {b k : Nat} {xs : List D} (h : ∀ x ∈ xs, Shx b k x) : sw2A xs = true ∧ PyData.depthAll xs ≤ k ∧ ((PyData.shownAll xs).map (·.length)).sum ≤ xs.length * b := by
  induction xs with
  | nil => exact ⟨rfl, Nat.zero_le _, Nat.zero_le _⟩
  | cons x r ih =>
    obtain ⟨h1, h2, h3⟩ := ih fun z hz => h z (List.mem_cons_of_mem _ hz)
    obtain ⟨g1, g2, g3⟩ := h x List.mem_cons_self
    refine ⟨?_, ?_, ?_⟩
    · show (sw2 x && sw2A r) = true
      rw [g1, h1]; rfl
    · show max x.depth (PyData.depthAll r) ≤ k
      omega
    · show ((x.shown :: PyData.shownAll r).map (·.length)).sum ≤ _
      rw [List.map_cons, List.sum_cons, List.length_cons, Nat.succ_mul]
      omega
theorem rx_list {b k : Nat} {xs : List D} (h : ∀ x ∈ xs, Shx b k x) : Shx (xs.length * (b + 2) + 3) (k + 1) (.list xs) := by
  obtain ⟨h2, h3, h4⟩ := rx_all h
  refine ⟨h2, Nat.succ_le_succ h3, ?_⟩
  have := listText_len_le (PyData.shownAll xs)
  have hl : (PyData.shownAll xs).length = xs.length := by rw [shownAll_map, List.length_map]
  show (listText (PyData.shownAll xs)).length ≤ _
  rw [Nat.mul_add]
  omega
theorem rx_tup {b k : Nat} {xs : List D} (h : ∀ x ∈ xs, Shx b k x) : Shx (xs.length * (b + 2) + 3) (k + 1) (.tuple xs) := by
  obtain ⟨h2, h3, h4⟩ := rx_all h
  refine ⟨h2, Nat.succ_le_succ h3, ?_⟩
  have := tupleText_len_le (PyData.shownAll xs)
  have hl : (PyData.shownAll xs).length = xs.length := by rw [shownAll_map, List.length_map]
  show (tupleText (PyData.shownAll xs)).length ≤ _
  rw [Nat.mul_add]
  omega
end Tq

set_option maxRecDepth 100000
set_option maxHeartbeats 4000000
/-! the three manners, over plain data -/
namespace Tq
open PySem PySem.Spec PyProof.Rows L2
inductive Mn where
  | fl
  | ce
  | ne
deriving DecidableEq
def Mn.word : Mn → Str
  | .fl => "floor"
  | .ce => "ceil"
  | .ne => "near"
def Mn.turned : Mn → Int
  | .ce => -1
  | _ => 1
def mnOf : D → Option Mn
  | .str s => if s = ("floor" : Str) then some .fl else if s = ("ceil" : Str) then some .ce else if s = ("near" : Str) then some .ne else none
  | _ => none
theorem mnOf_word (k : Mn) : mnOf (.str k.word) = some k := by cases k <;> decide +kernel
/-- whether a term may stand behind another one, not the first; none: the first is ahead -/
def fitsB : Mn → Option Int → Int → Bool
  | .fl, _, t => decide (1 ≤ t)
  | .ce, _, t => decide (2 ≤ t)
  | .ne, a, t => if -2 < t ∧ t < 2 then false else if a = some 2 then decide (0 < t) else decide (a ≠ some (-2)) || decide (t < 0)
def endsB : Mn → Int → Bool
  | .fl, t => decide (t ≠ 1)
  | .ce, _ => true
  | .ne, t => decide (t ≠ 2)
def aheadI (ts : List Int) (i : Nat) : Option Int := if i = 1 then none else some (ts.getD (i - 1) 0)
def fitAt (k : Mn) (ts : List Int) (i : Nat) : Bool := fitsB k (aheadI ts i) (ts.getD i 0)
def bgL (k : Mn) (ts : List Int) : Bool := (List.range (ts.length - 1)).all fun i => fitAt k ts (i + 1)
def enL (k : Mn) (ts : List Int) : Bool := decide (ts.length = 1) || (decide (1 < ts.length) && endsB k (ts.getLastD 0))
end Tq

set_option maxRecDepth 100000
set_option maxHeartbeats 4000000
namespace Tq
open PySem PySem.Spec PyProof.Rows L2
/-! ### the row of a fraction's root -/
/-- how a root stands to a / b: the sign of this -/
def eR (A B a b : Int) : Int := A * b * b - a * a * B
def sgL (n : Nat) : Int := if n % 2 = 0 then 1 else -1
def dR (A B : Int) (n : Nat) (m : Mx) : Int := -sgL n * eR A B m.a m.c
def wR (A B : Int) (n : Nat) (m : Mx) : Int := -sgL n * (m.a * m.b * B - m.c * m.d * A)
def cR (A B : Int) (n : Nat) (m : Mx) : Int := -sgL n * eR A B m.b m.d
/-- a beginning of the row of the root -/
structure Beg (A B : Int) (n : Nat) (m : Mx) : Prop where
  det : m.a * m.d - m.b * m.c = sgL n
  near : 0 ≤ dR A B n m
  far : 1 ≤ n → dR A B n m - 2 * wR A B n m + cR A B n m < 0
  back : cR A B n m ≤ 0
/-! ### the greatest whole number whose square is no greater -/
/-! ### the row -/
/-- a beginning of the root's row -/
structure BegL (A B : Int) (ts : List Int) : Prop where
  beg : Beg A B ts.length (turnL ts)
  pos : Pos1 ts
  all0 : ∀ t ∈ ts, 0 ≤ t ∧ t ≤ 2 * 10 ^ 12
  zero : ts.length = 0 → wR A B ts.length (turnL ts) = 0
  last : 2 ≤ ts.length → ts.getLast? = some 1 → dR A B ts.length (turnL ts) ≠ 0
/-! ### x *= e -/
/-! ### roots step by step -/
theorem BegL.bd {A B : Int} {ts : List Int} (h : BegL A B ts) : ∀ t ∈ ts, Bd 13 t := fun t ht => by
  have := h.all0 t ht
  unfold Bd
  omega
theorem BegL.tb {A B : Int} {ts : List Int} (h : BegL A B ts) (hl : ts.length ≤ 61) : TB ts := ⟨by omega, h.bd⟩
theorem BegL.mb {A B : Int} {ts : List Int} (h : BegL A B ts) (hl : ts.length ≤ 61) : MB 900 (turnL ts) := (mb_turn ts h.bd).mono (by omega)
/-! ### the row, also below nought -/
/-- the purse's third form -/
def t_take3 (K : Fg) (c1 c2 c3 : Int) : TS :=
  tSeq (tIfS (tTest (tOp (rI0 fun i j => .bl (decide (j < i))) (tOp (rIx K) (tVar 0) (tC (.int 0))) (tC (.int 0))))
    (tSeq (tAsg (tOp rMd (tOp (rIx K) (tVar 0) (tC (.int 0))) (tVar 1)) (gName 2))
    (tSeq (tAsg (tOp rDv (tOp (rIx K) (tVar 0) (tC (.int 0))) (tVar 1)) (gSub (tVar 0) (tC (.int 0)) rSetL))
    (tRet (tVar 2)))) tNext)
  (tSeq (tAsg (tOp rAd (tOp (rIx K) (tVar 0) (tC (.int 2))) (tC (.int 1))) (gSub (tVar 0) (tC (.int 2)) rSetL))
  (tSeq (tAsg (tOp rMd (tOp rPw (tOp rAd (tOp rAd (tOp (rIx K) (tVar 0) (tC (.int 1))) (tOp rMu (tC (.int c1)) (tOp (rIx K) (tVar 0) (tC (.int 2))))) (tC (.int c2))) (tC (.int 5))) (tC (.int 2147483647))) (gName 3))
  (tSeq (tAsg (tOp rMd (tOp rPw (tOp rAd (tOp rMu (tOp (rIx K) (tVar 0) (tC (.int 1))) (tOp (rIx K) (tVar 0) (tC (.int 2)))) (tC (.int c3))) (tC (.int 3))) (tC (.int 2147483587))) (gName 4))
  (tRet (tOp rMd (tOp rDv (tOp rAd (tVar 3) (tOp rMu (tC (.int 2147483647)) (tVar 4))) (tC (.int 16))) (tVar 1))))))
theorem take3_read {K : Fg} {c1 c2 c3 : Int} (hc1 : 0 ≤ c1 ∧ c1 ≤ 1000000) (hc2 : 0 ≤ c2 ∧ c2 ≤ 1000000) (hc3 : 0 ≤ c3 ∧ c3 ≤ 1000000) {vs : List V} {H : Hp} {Q : VK} {E : XK} {N : List Str} (hN : N.length = 5) (h : spTake K vs H Q E) : t_take3 K c1 c2 c3 { nx := fun _ G => Q .non G, rt := Q } (start N vs) H := by
  obtain ⟨M, p, us, ds, n, rfl, mp, al, pk, r, hl, ⟨m, rfl, m0, mb⟩, hn, k⟩ := h
  have hn : 1 ≤ n := hn
  have k : ∀ d v H', postTake [.int m] d → (∀ a o, a ≠ p → H a = some o → H' a = some o) → PuOk H' p (n - 1) → Rp K M H' v d → Q v H' := k
  obtain ⟨v, rfl, rv⟩ := rpA1 r
  have e := rp_int rv
  subst e
  have es : start N [.ref p, .int m] = [some (.ref p), some (.int m), none, none, none] := by
    unfold L2.start
    rw [hN]
    rfl
  rw [es]
  obtain ⟨x, b, q, hp, hx, hb0, hb1, hq0, hq1⟩ := pk
  refine ⟨_, rfl, ix_at hp rfl ⟨_, _, rfl, rfl, _, rfl, ite2 (fun hc => ?_) (fun hc => ?_)⟩⟩
  · refine ⟨_, rfl, ix_at hp rfl ⟨_, rfl, _, _, rfl, rfl, m0, ?_⟩⟩
    refine ⟨_, rfl, ix_at hp rfl ⟨_, rfl, _, _, rfl, rfl, ⟨m0, mb⟩, _, rfl, p, _, 0, 0, rfl, rfl, hp, rfl, ?_⟩⟩
    refine ⟨_, rfl, k (.int (x % m)) _ _ ⟨m, x % m, rfl, rfl, Int.emod_nonneg _ (by omega), Int.emod_lt_of_pos _ m0⟩ (fun a o na e => by rw [upd_ne na]; exact e) ⟨x / m, b, q, upd_same, Int.ediv_nonneg hx (by omega), hb0, hb1, hq0, by omega⟩ (.int _)⟩
  · have nn : (n : Int) ≥ 1 := by omega
    refine ⟨_, rfl, ix_at hp rfl ⟨_, _, rfl, rfl, _, rfl, p, _, 2, 2, rfl, rfl, hp, rfl, ?_⟩⟩
    generalize hH2 : upd H p (.lst ([V.int x, .int b, .int q].set 2 (.int (q + 1)))) = H2
    have hp2 : H2 p = some (.lst [.int x, .int b, .int (q + 1)]) := by rw [← hH2]; exact upd_same
    have q0 : 0 ≤ q + 1 ∧ q + 1 ≤ 8000000 := by omega
    have m1 : 0 ≤ c1 * (q + 1) := Int.mul_nonneg hc1.1 (by omega)
    have m2 : c1 * (q + 1) ≤ 1000000 * 8000000 := Int.mul_le_mul hc1.2 q0.2 q0.1 (by omega)
    have m3 : 0 ≤ b * (q + 1) := Int.mul_nonneg hb0 (by omega)
    have m4 : b * (q + 1) ≤ 2147483629 * 8000000 := Int.mul_le_mul (by omega) q0.2 q0.1 (by omega)
    have hbd : 0 ≤ b + c1 * (q + 1) + c2 ∧ b + c1 * (q + 1) + c2 < 18446744073709551616 := by constructor <;> omega
    refine ⟨_, rfl, ix_at hp2 rfl ⟨_, rfl, ix_at hp2 rfl ⟨_, _, rfl, rfl, .inl (by constructor <;> omega), _, _, rfl, rfl, _, _, rfl, rfl, _, _, rfl, rfl, ⟨by decide, by decide, natAbs_lt hbd.1 hbd.2⟩, _, _, rfl, rfl, (by show (0 : Int) < 2147483647; decide), ?_⟩⟩⟩
    obtain ⟨one, hone⟩ : ∃ o, o = (b + c1 * (q + 1) + c2) ^ (5 : Int).toNat % 2147483647 := ⟨_, rfl⟩
    have one0 : 0 ≤ one := by rw [hone]; exact Int.emod_nonneg _ (by decide)
    have one1 : one < 2147483647 := by rw [hone]; exact Int.emod_lt_of_pos _ (by decide)
    have hb2 : 0 ≤ b * (q + 1) + c3 ∧ b * (q + 1) + c3 < 18446744073709551616 := by constructor <;> omega
    refine ⟨_, rfl, ix_at hp2 rfl ⟨_, rfl, ix_at hp2 rfl ⟨_, _, rfl, rfl, .inl (by constructor <;> omega), _, _, rfl, rfl, _, _, rfl, rfl, ⟨by decide, by decide, natAbs_lt hb2.1 hb2.2⟩, _, _, rfl, rfl, (by show (0 : Int) < 2147483587; decide), ?_⟩⟩⟩
    dsimp only
    rw [← hone]
    refine ⟨_, rfl, _, rfl, _, _, rfl, rfl, .inl (by constructor <;> omega), _, _, rfl, rfl, _, _, rfl, rfl, div_ok (by decide) (by decide), _, rfl, _, _, rfl, rfl, m0, ?_⟩
    refine k _ _ _ ⟨m, _, rfl, rfl, Int.emod_nonneg _ (by omega), Int.emod_lt_of_pos _ m0⟩ (fun a o na e => by rw [← hH2, upd_ne na]; exact e) ⟨x, b, q + 1, hp2, hx, hb0, hb1, by omega, by omega⟩ (.int _)
/-- [max(0, c - 10 ** 18), c % 2147483563, 0] -/
def t_purse3 : TS := tRet (tLst (tCons (tCB (fun xs H Q => ∃ i j, xs = [.int i, .int j] ∧ Q (.int (if j > i then j else i)) H) (tCons (tC (.int 0)) (tCons (tOp (rI0 fun i j => .int (i - j)) (tVar 0) (tOp (rI CPow fun i j => .int (i ^ j.toNat)) (tC (.int 10)) (tC (.int 18)))) tNil)))
  (tCons (tOp (rI (fun _ j => 0 < j) fun i j => .int (i % j)) (tVar 0) (tC (.int 2147483563))) (tCons (tC (.int 0)) tNil))))
theorem purse3_read {vs : List V} {H : Hp} {Q : VK} {E : XK} {N : List Str} (hN : N.length = 1) (h : spPurse vs H Q E) : t_purse3 { nx := fun _ G => Q .non G, rt := Q } (start N vs) H := by
  obtain ⟨c, rfl, k⟩ := h
  have es : start N [.int c] = [some (.int c)] := by
    unfold L2.start
    rw [hN]
    rfl
  rw [es]
  have z : (10 : Int).natAbs < 2 ^ 64 := by decide
  refine ⟨_, rfl, _, _, rfl, rfl, ⟨by decide, by decide, z⟩, _, _, rfl, rfl, _, _, rfl, _, rfl, _, _, rfl, rfl, (by show (0 : Int) < 2147483563; decide), by show 3 ≤ sizeLine; decide, fun p hp => k p _ _ hp ?_ (Int.emod_nonneg _ (by decide)) (Int.lt_trans (Int.emod_lt_of_pos _ (by decide)) (by decide))⟩
  split <;> omega
end Tq

set_option maxRecDepth 100000
set_option maxHeartbeats 4000000
namespace Tq
open PySem PySem.Spec PyProof.Rows L2
open PySem.Builtin.Str (occurrences subAt strSub)
/-! ### texts taken apart at a sign -/
section
variable {C : Ct} {y : S} {ta tb : TE} {Q : Z → S → Prop}
end
/-! ### what the parts are -/
theorem app_list (a b : Str) : (a ++ b).cps.toList = a.cps.toList ++ b.cps.toList := by
  show (a.cps ++ b.cps).toList = _
  exact Array.toList_append
end Tq

set_option maxRecDepth 100000
set_option maxHeartbeats 4000000
namespace Tq
open PySem PySem.Spec PyProof.Rows L2
/-! ### fractions shown -/
end Tq

set_option maxRecDepth 100000
set_option maxHeartbeats 2000000
/-! Slots with labels, a store of things that may change, exceptions -/
namespace Ux
open PySem PySem.Spec PyProof.Rows L2 Tq
abbrev St := L2.St
abbrev D := PyData
inductive Z where
  | d (d : D)
  | lab (a : Addr)
  | tup (zs : List Z)
  | lst (zs : List Z)
  | exc (a dd : Addr) (z : Z)
  | ob (C : Addr) (ks : List Str) (zs : List Z)
  | nm (f : Str) (z : Z)
/-- what an exception's field is called, and holds -/
def keyZ : Z → Str
  | .nm f _ => f
  | _ => "found"
def valZ : Z → Z
  | .nm _ z => z
  | z => z
inductive Cell where
  | lst (zs : List Z)
  | ins (C : Addr) (ks : List Str) (zs : List Z)
  | dic (kvs : List (Key × Z))
  | pu (n : Nat)
  | ro (c : Cell)
def Cell.isRo : Cell → Bool
  | .ro _ => true
  | _ => false
structure Cl where
  a : Addr
  own : Bool
  c : Cell
structure S where
  l : List (Option Z)
  m : List Cl
def S.set (y : S) (i : Nat) (z : Option Z) : S := ⟨y.l.set i z, y.m⟩
structure Ex where
  cls : Value
  found : Z
structure Ct where
  K : Fg
  W : WX := fun _ _ _ _ => False
  ex : Ex → S → Prop := fun _ _ => False
structure Fr where
  H0 : Hp
  S0 : Addr → Prop
  M0 : Addr → Prop
  st : Bool
def Dom (m : List Cl) (a : Addr) : Prop := ∃ e ∈ m, e.a = a
/-- what may be written -/
def DomW (m : List Cl) (a : Addr) : Prop := ∃ e ∈ m, e.a = a ∧ e.c.isRo = false
def Mv (F : Fr) (_ : St) (y : S) (a : Addr) : Prop := F.M0 a ∨ Dom y.m a
mutual
inductive Rw (K : Fg) (M : Addr → Prop) (H : Hp) : V → Z → Prop
  | d {v : V} {d : D} : Rp K M H v d → Rw K M H v (.d d)
  | lab (a : Addr) : Rw K M H (.ref a) (.lab a)
  | tup {a : Addr} {xs : List V} {zs : List Z} : TsA K M H a xs → RwA K M H xs zs → Rw K M H (.ref a) (.tup zs)
  | lst {a : Addr} {xs : List V} {zs : List Z} : LsA K M H a xs → RwA K M H xs zs → Rw K M H (.ref a) (.lst zs)
  | exc {a dd : Addr} {v : V} {z : Z} : ¬ M dd → H dd = some (.xd [(keyZ z, v)]) → Rw K M H v (valZ z) → Rw K M H (.ref a) (.exc a dd z)
  | ob {a dx C : Addr} {ks : List Str} {xs : List V} {zs : List Z} : ¬ M a → H a = some (.ins C dx (ks.zip xs)) → ks.length = xs.length → RwA K M H xs zs → Rw K M H (.ref a) (.ob C ks zs)
inductive RwA (K : Fg) (M : Addr → Prop) (H : Hp) : List V → List Z → Prop
  | nil : RwA K M H [] []
  | cons {v : V} {z : Z} {vs : List V} {zs : List Z} : Rw K M H v z → RwA K M H vs zs → RwA K M H (v :: vs) (z :: zs)
end
section
variable {K : Fg} {M M' : Addr → Prop} {H H' : Hp}
theorem Rw.go (g : GoH M H M' H') {v : V} {z : Z} (r : Rw K M H v z) : Rw K M' H' v z :=
  Rw.rec (motive_1 := fun v z _ => Rw K M' H' v z) (motive_2 := fun vs zs _ => RwA K M' H' vs zs)
    (fun h => .d (h.go g)) .lab (fun h _ i => .tup (h.go g) i) (fun h _ i => .lst (h.go g) i) (fun n h _ i => .exc (g _ _ n h).1 (g _ _ n h).2 i) (fun n h l _ i => .ob (g _ _ n h).1 (g _ _ n h).2 l i) .nil (fun _ _ a b => .cons a b) r
theorem RwA.go (g : GoH M H M' H') : ∀ {vs : List V} {zs : List Z}, RwA K M H vs zs → RwA K M' H' vs zs
  | _, _, .nil => .nil
  | _, _, .cons a b => .cons (a.go g) (b.go g)
theorem Rw.kz {v : V} {z : Z} (r : Rw K M H v z) : keyZ z = "found" ∧ valZ z = z := by cases r <;> exact ⟨rfl, rfl⟩
theorem RwA.len : ∀ {vs : List V} {zs : List Z}, RwA K M H vs zs → vs.length = zs.length
  | _, _, .nil => rfl
  | _, _, .cons _ b => congrArg (· + 1) b.len
theorem RwA.get : ∀ {vs : List V} {zs : List Z} {i : Nat} {z : Z}, RwA K M H vs zs → zs[i]? = some z → ∃ v, vs[i]? = some v ∧ Rw K M H v z
  | _, _, _, _, .nil, e => by simp at e
  | _, _, 0, _, .cons a _, e => by simp at e; subst e; exact ⟨_, rfl, a⟩
  | _, _, i + 1, d, .cons _ b, e => by
    obtain ⟨u, h1, h2⟩ := b.get (i := i) (z := d) (by simpa using e)
    exact ⟨u, by simpa using h1, h2⟩
theorem RwA.getV : ∀ {vs : List V} {zs : List Z} {i : Nat} {v : V}, RwA K M H vs zs → vs[i]? = some v → ∃ z, zs[i]? = some z ∧ Rw K M H v z
  | _, _, _, _, .nil, e => by simp at e
  | _, _, 0, _, .cons a _, e => by simp at e; subst e; exact ⟨_, rfl, a⟩
  | _, _, i + 1, d, .cons _ b, e => by
    obtain ⟨u, h1, h2⟩ := b.getV (i := i) (v := d) (by simpa using e)
    exact ⟨u, by simpa using h1, h2⟩
theorem RwA.app : ∀ {vs us : List V} {zs es : List Z}, RwA K M H vs zs → RwA K M H us es → RwA K M H (vs ++ us) (zs ++ es)
  | _, _, _, _, .nil, h => h
  | _, _, _, _, .cons a b, h => .cons a (b.app h)
theorem RwA.set : ∀ {vs : List V} {zs : List Z} {v : V} {z : Z} (i : Nat), RwA K M H vs zs → Rw K M H v z → RwA K M H (vs.set i v) (zs.set i z)
  | _, _, _, _, _, .nil, _ => .nil
  | _, _, _, _, 0, .cons _ b, h => .cons h b
  | _, _, _, _, i + 1, .cons a b, h => .cons a (b.set i h)
theorem RwA.of : ∀ {vs : List V} {ds : List D}, RpA K M H vs ds → RwA K M H vs (ds.map Z.d)
  | _, _, .nil => .nil
  | _, _, .cons a b => .cons (.d a) (RwA.of b)
theorem RwA.ds : ∀ {vs : List V} {ds : List D}, RwA K M H vs (ds.map Z.d) → RpA K M H vs ds
  | [], [], _ => .nil
  | [], _ :: _, h => by cases h
  | _ :: _, [], h => by cases h
  | v :: vs, n :: ns, h => by
    cases h with | cons a b => cases a with | d a => exact .cons a b.ds
end
inductive RwK (K : Fg) (M : Addr → Prop) (H : Hp) : List (Key × V) → List (Key × Z) → Prop
  | nil : RwK K M H [] []
  | cons {k : Key} {v : V} {z : Z} {vs : List (Key × V)} {zs : List (Key × Z)} : Rw K M H v z → RwK K M H vs zs → RwK K M H ((k, v) :: vs) ((k, z) :: zs)
theorem RwK.go {K : Fg} {M M' : Addr → Prop} {H H' : Hp} (g : GoH M H M' H') : ∀ {vs : List (Key × V)} {zs : List (Key × Z)}, RwK K M H vs zs → RwK K M' H' vs zs
  | _, _, .nil => .nil
  | _, _, .cons a b => .cons (a.go g) (b.go g)
def CellOk (K : Fg) (M : Addr → Prop) (H : Hp) (a : Addr) : Cell → Prop
  | .lst zs => ∃ xs, H a = some (.lst xs) ∧ RwA K M H xs zs
  | .ins C ks zs => ∃ dx xs, H a = some (.ins C dx (ks.zip xs)) ∧ ks.length = xs.length ∧ RwA K M H xs zs
  | .dic kvs => ∃ ks, H a = some (.dK ks) ∧ RwK K M H ks kvs
  | .pu n => PuOk H a n
  | .ro c => CellOk K M H a c
theorem CellOk.live {K : Fg} {M : Addr → Prop} {H : Hp} {a : Addr} {c : Cell} (h : CellOk K M H a c) : H a ≠ none := by
  induction c with
  | lst zs => obtain ⟨xs, h1, _⟩ := h; rw [h1]; simp
  | ins _ _ _ => obtain ⟨_, xs, h1, _⟩ := h; rw [h1]; simp
  | dic zs => obtain ⟨xs, h1, _⟩ := h; rw [h1]; simp
  | pu n => obtain ⟨x, b, c, h1, _⟩ := h; rw [h1]; simp
  | ro c ih => exact ih h
theorem CellOk.go {K : Fg} {M M' : Addr → Prop} {H H' : Hp} {a : Addr} {c : Cell} (g : GoH M H M' H') (k : ∀ o, H a = some o → H' a = some o) (h : CellOk K M H a c) : CellOk K M' H' a c := by
  induction c with
  | lst zs => obtain ⟨xs, h1, h2⟩ := h; exact ⟨xs, k _ h1, h2.go g⟩
  | ins _ _ _ => obtain ⟨dx, xs, h1, l, h2⟩ := h; exact ⟨dx, xs, k _ h1, l, h2.go g⟩
  | dic zs => obtain ⟨xs, h1, h2⟩ := h; exact ⟨xs, k _ h1, h2.go g⟩
  | pu n => obtain ⟨x, b, c, h1, h2⟩ := h; exact ⟨x, b, c, k _ h1, h2⟩
  | ro c ih => exact ih h
def Rz (C : Ct) (F : Fr) (σ : St) (y : S) (H : Hp) (v : V) (z : Z) : Prop := match z with
  | .d d => Rp C.K (Mv F σ y) H v d
  | z => Rw C.K (Mv F σ y) H v z
abbrev Go (F : Fr) (σ : St) (y : S) (H : Hp) (σ' : St) (y' : S) (H' : Hp) : Prop := GoH (Mv F σ y) H (Mv F σ' y') H'
/-- the slots stand; the store's things stand, more may have come -/
def ao (m : List Cl) : List (Addr × Bool × Bool) := m.map fun e => (e.a, e.own, e.c.isRo)
def Sh (y y' : S) : Prop := y'.l = y.l ∧ ∃ nw : List Cl, ao y'.m = ao y.m ++ ao nw
theorem Sh.refl (y : S) : Sh y y := ⟨rfl, [], by simp [ao]⟩
theorem Sh.trans {y y1 y2 : S} (a : Sh y y1) (b : Sh y1 y2) : Sh y y2 := by
  obtain ⟨a1, n1, a2⟩ := a
  obtain ⟨b1, n2, b2⟩ := b
  exact ⟨b1.trans a1, n1 ++ n2, by rw [b2, a2, List.append_assoc]; simp [ao]⟩
section
variable {C : Ct} {F : Fr} {σ : St} {y y' : S} {H H' : Hp}
theorem Rz.w {v : V} {z : Z} (r : Rz C F σ y H v z) : Rw C.K (Mv F σ y) H v z := by
  cases z with
  | d d => exact .d r
  | _ => exact r
theorem Rw.z {v : V} {z : Z} (r : Rw C.K (Mv F σ y) H v z) : Rz C F σ y H v z := by
  cases z with
  | d d => cases r with | d r => exact r
  | _ => exact r
theorem Rz.go {v : V} {z : Z} (g : Go F σ y H σ y' H') (r : Rz C F σ y H v z) : Rz C F σ y' H' v z := (r.w.go g).z
end
structure Wd0 (K : Fg) (F : Fr) (σ : St) (y : S) (H : Hp) : Prop where
  keep : ∀ a o, ¬ F.S0 a → F.H0 a = some o → H a = some o
  live0 : ∀ a, F.M0 a → F.H0 a ≠ none
  live : ∀ a, F.M0 a → H a ≠ none
  len : σ.length = y.l.length
  slot : ∀ (i : Nat) (z : Z), y.l[i]? = some (some z) → ∃ x, σ[i]? = some (some x) ∧ Rw K (Mv F σ y) H x z
  cell : ∀ e ∈ y.m, CellOk K (Mv F σ y) H e.a e.c
  dist : y.m.Pairwise fun e e' => e.a ≠ e'.a
  frsh : ∀ e ∈ y.m, e.c.isRo = false → F.S0 e.a ∨ F.H0 e.a = none
  sm : ∀ a, F.S0 a → F.M0 a
  nb : F.st = true → ∀ e ∈ y.m, e.own = true → ¬ F.S0 e.a
/-- an exception with a thing found, its dict new -/
structure XRep (K : Fg) (F : Fr) (σ : St) (y : S) (H : Hp) (ex : Ex) (cls : Value) (d : Option Addr) : Prop where
  cls : cls = ex.cls
  dd : ∃ a v, d = some a ∧ H a = some (.xd [(keyZ ex.found, v)]) ∧ ¬ Mv F σ y a ∧ F.H0 a = none ∧ Rw K (Mv F σ y) H v (valZ ex.found)
structure Wd (C : Ct) (F : Fr) (σ : St) (y : S) (H : Hp) : Prop extends Wd0 C.K F σ y H where
  xk : ∀ σ' y' H' ex cls d, Wd0 C.K F σ' y' H' → Go F σ y H σ' y' H' → XRep C.K F σ' y' H' ex cls d → C.ex ex y' → C.W cls d σ' H'
section
variable {C : Ct} {F : Fr} {σ σ' : St} {y y' : S} {H H' : Hp}
theorem Wd.to (w : Wd C F σ y H) (w' : Wd0 C.K F σ' y' H') (g : Go F σ y H σ' y' H') : Wd C F σ' y' H' := ⟨w', fun σ2 y2 H2 ex cls d w2 g2 => w.xk σ2 y2 H2 ex cls d w2 (g.trans g2)⟩
theorem Wd0.new {K : Fg} (w : Wd0 K F σ y H) {p : Addr} (h : H p = none) : ¬ Mv F σ y p := by
  rintro (z | ⟨e, he, rfl⟩)
  · exact w.live p z h
  · exact (w.cell e he).live h
theorem Wd.new (w : Wd C F σ y H) {p : Addr} (h : H p = none) : ¬ Mv F σ y p := w.toWd0.new h
theorem Wd.newH0 (w : Wd C F σ y H) {p : Addr} (h : H p = none) : F.H0 p = none := by
  cases e : F.H0 p with
  | none => rfl
  | some o =>
    by_cases s : F.S0 p
    · exact absurd h (w.live p (w.sm p s))
    · rw [w.keep p o s e] at h; cases h
theorem go_grow (g : ∀ a o, H a = some o → H' a = some o) : Go F σ y H σ y H' := fun a o n e => ⟨n, g a o e⟩
theorem Wd.grow (w : Wd C F σ y H) (g : ∀ a o, H a = some o → H' a = some o) : Wd C F σ y H' := by
  have gg : Go F σ y H σ y H' := go_grow g
  refine w.to ⟨fun a o n e => g _ _ (w.keep a o n e), w.live0, fun a m e => ?_, w.len, fun i z e => ?_, fun e he => (w.cell e he).go gg (fun o q => g _ _ q), w.dist, w.frsh, w.sm, w.nb⟩ gg
  · cases q : H a with
    | none => exact w.live a m q
    | some o => rw [g a o q] at e; cases e
  · obtain ⟨x, h1, h2⟩ := w.slot i z e
    exact ⟨x, h1, h2.go gg⟩
end
/-! ### the wp -/
section
variable (C : Ct)
def wE (te : TE) (y : S) (Q : Z → S → Prop) : Prop := ∀ (F : Fr) σ H (K : VK), Wd C F σ y H → (∀ v H' z y', Wd C F σ y' H' → Go F σ y H σ y' H' → Sh y y' → Rz C F σ y' H' v z → Q z y' → K v H') → te σ H K
def wT (tt : TT) (y : S) (Q : Bool → S → Prop) : Prop := ∀ (F : Fr) σ H (K : Bool → Hp → Prop), Wd C F σ y H → (∀ b H' y', Wd C F σ y' H' → Go F σ y H σ y' H' → Sh y y' → Q b y' → K b H') → tt σ H K
def wO (to : TO) (y : S) (Q : Option Int → S → Prop) : Prop := ∀ (F : Fr) σ H (K : Option Int → Hp → Prop), Wd C F σ y H → (∀ b H' y', Wd C F σ y' H' → Go F σ y H σ y' H' → Sh y y' → Q b y' → K b H') → to σ H K
structure En where
  nx : S → Prop
  rt : Z → S → Prop
  bk : S → Prop := fun _ => False
  ct : S → Prop := fun _ => False
structure EnOk (F : Fr) (σ : St) (y : S) (H : Hp) (e : En) (E : Ends) : Prop where
  nx : ∀ σ' H' y', Wd C F σ' y' H' → Go F σ y H σ' y' H' → e.nx y' → E.nx σ' H'
  rt : ∀ σ' v H' z y', Wd C F σ' y' H' → Go F σ y H σ' y' H' → Rz C F σ' y' H' v z → e.rt z y' → E.rt v H'
  bk : ∀ σ' H' y', Wd C F σ' y' H' → Go F σ y H σ' y' H' → e.bk y' → E.bk σ' H'
  ct : ∀ σ' H' y', Wd C F σ' y' H' → Go F σ y H σ' y' H' → e.ct y' → E.ct σ' H'
def wS (ts : TS) (y : S) (e : En) : Prop := ∀ (F : Fr) σ H (E : Ends), F.st = true → Wd C F σ y H → EnOk C F σ y H e E → ts E σ H
end
/-! ### storing in a slot -/
section
variable {C : Ct} {F : Fr} {σ : St} {y y' : S} {H H' : Hp}
theorem go_set {σ' : St} {i : Nat} {z : Option Z} : Go F σ y H σ' (y.set i z) H := fun a o n e => ⟨n, e⟩
theorem Wd0.set_z {K : Fg} (w : Wd0 K F σ y H) {i : Nat} {v : V} {z : Z} (r : Rw K (Mv F σ y) H v z) : Wd0 K F (σ.set i (some v)) (y.set i (some z)) H := by
  refine ⟨w.keep, w.live0, w.live, by show (σ.set i _).length = (y.l.set i _).length; rw [List.length_set, List.length_set]; exact w.len, fun j x e => ?_, w.cell, w.dist, w.frsh, w.sm, w.nb⟩
  have e' : (y.l.set i (some z))[j]? = some (some x) := e
  by_cases n : j = i
  · subst n
    have hl : j < y.l.length := by
      have := (List.getElem?_eq_some_iff.mp e').1
      rw [List.length_set] at this; exact this
    rw [List.getElem?_set_self hl] at e'
    cases e'
    exact ⟨v, by rw [List.getElem?_set_self (by rw [w.len]; exact hl)], r⟩
  · rw [List.getElem?_set_ne (Ne.symm n)] at e' ⊢
    exact w.slot j x e'
theorem Wd.set_z (w : Wd C F σ y H) {i : Nat} {v : V} {z : Z} (r : Rz C F σ y H v z) : Wd C F (σ.set i (some v)) (y.set i (some z)) H := w.to (w.toWd0.set_z r.w) go_set
end
end Ux

set_option maxRecDepth 100000
set_option maxHeartbeats 4000000
namespace Ux
open PySem PySem.Spec PyProof.Rows L2 Tq
section
variable {C : Ct} {y : S} {te : TE} {Q : Z → S → Prop}
theorem wE_varZ {i : Nat} {z : Z} (h : y.l[i]? = some (some z)) (q : Q z y) : wE C (tVar i) y Q := fun F σ H K w k => by
  obtain ⟨x, h1, h2⟩ := w.slot i _ h
  exact ⟨x, h1, k x H z y w GoH.refl (Sh.refl y) h2.z q⟩
theorem wE_var {i : Nat} {z : Z} (h : y.l[i]? = some (some z)) (q : Q z y) : wE C (tVar i) y Q := wE_varZ h q
theorem grow_upd {H : Hp} {p : Addr} {o : HO} (h : H p = none) : ∀ a u, H a = some u → upd H p o a = some u := Tq.grow_upd h
end
section
variable {C : Ct} {F : Fr} {σ : St} {y y' : S} {H H' : Hp}
end

section
variable {C : Ct} {y : S} {ta tb tc te : TE} {Q : Z → S → Prop}
theorem wE_sc {v : V} {d : D} (s : Sc v d) (q : Q (.d d) y) : wE C (tC v) y Q := fun F σ H K w k => k v H (.d d) y w GoH.refl (Sh.refl y) s.rp q
theorem wE_int {i : Int} (q : Q (.d (.int i)) y) : wE C (tC (.int i)) y Q := wE_sc (.int i) q
theorem wE_str {i : Str} (q : Q (.d (.str i)) y) : wE C (tC (.str i)) y Q := wE_sc (.str i) q
theorem wE_bl {i : Bool} (q : Q (.d (.bool i)) y) : wE C (tC (.bl i)) y Q := wE_sc (.bl i) q
theorem wE_non (q : Q (.d .none) y) : wE C (tC .non) y Q := wE_sc .non q
theorem wE_mono {R : Z → S → Prop} (h : wE C te y Q) (q : ∀ z y', Q z y' → R z y') : wE C te y R := fun F σ H K w k => h F σ H K w fun v H' z y' a b c d e => k v H' z y' a b c d (q z y' e)
theorem wE_op {r : R2} {res : D → D → D → Prop} (h : OpD C.K r res) (w : wE C ta y fun z y1 => wE C tb y1 fun z' y2 => ∃ d e g, z = .d d ∧ z' = .d e ∧ res d e g ∧ Q (.d g) y2) : wE C (tOp r ta tb) y Q := by
  intro F σ H K wd k
  refine w F σ H _ wd fun x H1 z y1 w1 g1 s1 r1 q1 => ?_
  refine q1 F σ H1 _ w1 fun x2 H2 z' y2 w2 g2 s2 r2 q2 => ?_
  obtain ⟨d, e, g, rfl, rfl, hres, hq⟩ := q2
  refine h (Mv F σ y2) H2 x x2 d e g K (fun a => w2.new) (Rp.go g2 r1) r2 hres fun v H3 gr rv => ?_
  exact k v H3 (.d g) y2 (w2.grow gr) ((g1.trans g2).trans (go_grow gr)) (s1.trans s2) rv hq
theorem wE_I {P : Int → Int → Prop} {g : Int → Int → V} (gd : Int → Int → D) (hg : ∀ i j, Sc (g i j) (gd i j)) (w : wE C ta y fun z y1 => wE C tb y1 fun z' y2 => ∃ i j, z = .d (.int i) ∧ z' = .d (.int j) ∧ P i j ∧ Q (.d (gd i j)) y2) : wE C (tOp (rI P g) ta tb) y Q :=
  wE_op (opD_I hg) (wE_mono w fun z y1 h => wE_mono h fun z' y2 ⟨i, j, e1, e2, c, q⟩ => ⟨_, _, _, e1, e2, ⟨i, j, rfl, rfl, c, rfl⟩, q⟩)
theorem wE_I0 {g : Int → Int → V} (gd : Int → Int → D) (hg : ∀ i j, Sc (g i j) (gd i j)) (w : wE C ta y fun z y1 => wE C tb y1 fun z' y2 => ∃ i j, z = .d (.int i) ∧ z' = .d (.int j) ∧ Q (.d (gd i j)) y2) : wE C (tOp (rI0 g) ta tb) y Q :=
  wE_op (opD_I0 hg) (wE_mono w fun z y1 h => wE_mono h fun z' y2 ⟨i, j, e1, e2, q⟩ => ⟨_, _, _, e1, e2, ⟨i, j, rfl, rfl, rfl⟩, q⟩)
theorem wE_add (w : wE C ta y fun z y1 => wE C tb y1 fun z' y2 => ∃ i j, z = .d (.int i) ∧ z' = .d (.int j) ∧ Q (.d (.int (i + j))) y2) : wE C (tOp (rI0 fun i j => .int (i + j)) ta tb) y Q := wE_I0 _ (fun _ _ => .int _) w
theorem wE_sub (w : wE C ta y fun z y1 => wE C tb y1 fun z' y2 => ∃ i j, z = .d (.int i) ∧ z' = .d (.int j) ∧ Q (.d (.int (i - j))) y2) : wE C (tOp (rI0 fun i j => .int (i - j)) ta tb) y Q := wE_I0 _ (fun _ _ => .int _) w
theorem wE_lt (w : wE C ta y fun z y1 => wE C tb y1 fun z' y2 => ∃ i j, z = .d (.int i) ∧ z' = .d (.int j) ∧ Q (.d (.bool (decide (i < j)))) y2) : wE C (tOp (rI0 fun i j => .bl (decide (i < j))) ta tb) y Q := wE_I0 (fun i j => .bool (decide (i < j))) (fun _ _ => .bl _) w
theorem wE_le (w : wE C ta y fun z y1 => wE C tb y1 fun z' y2 => ∃ i j, z = .d (.int i) ∧ z' = .d (.int j) ∧ Q (.d (.bool (decide (i ≤ j)))) y2) : wE C (tOp (rI0 fun i j => .bl (decide (i ≤ j))) ta tb) y Q := wE_I0 (fun i j => .bool (decide (i ≤ j))) (fun _ _ => .bl _) w
theorem wE_gt (w : wE C ta y fun z y1 => wE C tb y1 fun z' y2 => ∃ i j, z = .d (.int i) ∧ z' = .d (.int j) ∧ Q (.d (.bool (decide (j < i)))) y2) : wE C (tOp (rI0 fun i j => .bl (decide (j < i))) ta tb) y Q := wE_I0 (fun i j => .bool (decide (j < i))) (fun _ _ => .bl _) w
theorem wE_ge (w : wE C ta y fun z y1 => wE C tb y1 fun z' y2 => ∃ i j, z = .d (.int i) ∧ z' = .d (.int j) ∧ Q (.d (.bool (decide (j ≤ i)))) y2) : wE C (tOp (rI0 fun i j => .bl (decide (j ≤ i))) ta tb) y Q := wE_I0 (fun i j => .bool (decide (j ≤ i))) (fun _ _ => .bl _) w
theorem wE_mulW (w : wE C ta y fun z y1 => wE C tb y1 fun z' y2 => ∃ i j, z = .d (.int i) ∧ z' = .d (.int j) ∧ CMulW i j ∧ Q (.d (.int (i * j))) y2) : wE C (tOp (rI CMulW fun i j => .int (i * j)) ta tb) y Q := wE_I _ (fun _ _ => .int _) w
theorem wE_mul (w : wE C ta y fun z y1 => wE C tb y1 fun z' y2 => ∃ i j, z = .d (.int i) ∧ z' = .d (.int j) ∧ CMul i j ∧ Q (.d (.int (i * j))) y2) : wE C (tOp (rI CMul fun i j => .int (i * j)) ta tb) y Q := wE_I _ (fun _ _ => .int _) w
theorem wE_mod (w : wE C ta y fun z y1 => wE C tb y1 fun z' y2 => ∃ i j, z = .d (.int i) ∧ z' = .d (.int j) ∧ 0 < j ∧ Q (.d (.int (i % j))) y2) : wE C (tOp (rI (fun _ j => 0 < j) fun i j => .int (i % j)) ta tb) y Q := wE_I _ (fun _ _ => .int _) w
theorem wE_pow (w : wE C ta y fun z y1 => wE C tb y1 fun z' y2 => ∃ i j, z = .d (.int i) ∧ z' = .d (.int j) ∧ CPow i j ∧ Q (.d (.int (i ^ j.toNat))) y2) : wE C (tOp (rI CPow fun i j => .int (i ^ j.toNat)) ta tb) y Q := wE_I _ (fun _ _ => .int _) w
theorem wE_fdivW (w : wE C ta y fun z y1 => wE C tb y1 fun z' y2 => ∃ i j, z = .d (.int i) ∧ z' = .d (.int j) ∧ CDivW i j ∧ Q (.d (.int (i / j))) y2) : wE C (tOp (rI CDivW fun i j => .int (i / j)) ta tb) y Q := wE_I _ (fun _ _ => .int _) w
theorem wE_neg (w : wE C ta y fun z y1 => ∃ i, z = .d (.int i) ∧ Q (.d (.int (-i))) y1) : wE C (tUn (rU fun i => .int (-i)) ta) y Q := by
  intro F σ H K wd k
  refine w F σ H _ wd fun x H1 z y1 w1 g1 s1 r1 q1 => ?_
  obtain ⟨i, rfl, q⟩ := q1
  exact ⟨i, rp_int r1, k _ H1 (.d (.int (-i))) y1 w1 g1 s1 (.int _) q⟩
theorem wE_S0 {α : Type} {g : Str → Str → V} (gd : Str → Str → D) (hg : ∀ i j, Sc (g i j) (gd i j)) (w : wE C ta y fun z y1 => wE C tb y1 fun z' y2 => ∃ i j, z = .d (.str i) ∧ z' = .d (.str j) ∧ Q (.d (gd i j)) y2) : wE C (tOp (fun x y H Q => ∃ i j, x = .str i ∧ y = .str j ∧ Q (g i j) H) ta tb) y Q := by
  refine wE_op (res := fun d e r => ∃ i j, d = .str i ∧ e = .str j ∧ r = gd i j) ?_ (wE_mono w fun z y1 h => wE_mono h fun z' y2 ⟨i, j, e1, e2, q⟩ => ⟨_, _, _, e1, e2, ⟨i, j, rfl, rfl, rfl⟩, q⟩)
  rintro M H x y d e r Q _ rx ry ⟨i, j, rfl, rfl, rfl⟩ k
  exact ⟨i, j, rp_str rx, rp_str ry, k _ H (fun _ _ e => e) (hg i j).rp⟩
theorem wE_ltS (w : wE C ta y fun z y1 => wE C tb y1 fun z' y2 => ∃ i j, z = .d (.str i) ∧ z' = .d (.str j) ∧ Q (.d (.bool (decide (i.cps.toList < j.cps.toList)))) y2) :
    wE C (tOp (fun x y H Q => ∃ i j, x = .str i ∧ y = .str j ∧ Q (.bl (decide (i.cps.toList < j.cps.toList))) H) ta tb) y Q := wE_S0 (α := Unit) (fun i j => .bool (decide (i.cps.toList < j.cps.toList))) (fun _ _ => .bl _) w
theorem wE_leS (w : wE C ta y fun z y1 => wE C tb y1 fun z' y2 => ∃ i j, z = .d (.str i) ∧ z' = .d (.str j) ∧ Q (.d (.bool (!decide (j.cps.toList < i.cps.toList)))) y2) :
    wE C (tOp (fun x y H Q => ∃ i j, x = .str i ∧ y = .str j ∧ Q (.bl (!decide (j.cps.toList < i.cps.toList))) H) ta tb) y Q := wE_S0 (α := Unit) (fun i j => .bool (!decide (j.cps.toList < i.cps.toList))) (fun _ _ => .bl _) w
theorem wE_addS (w : wE C ta y fun z y1 => wE C tb y1 fun z' y2 => ∃ i j, z = .d (.str i) ∧ z' = .d (.str j) ∧ i.length + j.length ≤ sizeLine ∧ Q (.d (.str (i ++ j))) y2) :
    wE C (tOp (fun x y H Q => ∃ i j, x = .str i ∧ y = .str j ∧ i.length + j.length ≤ sizeLine ∧ Q (.str (i ++ j)) H) ta tb) y Q := by
  refine wE_op (res := fun d e r => ∃ i j, d = .str i ∧ e = .str j ∧ i.length + j.length ≤ sizeLine ∧ r = .str (i ++ j)) ?_ (wE_mono w fun z y1 h => wE_mono h fun z' y2 ⟨i, j, e1, e2, c, q⟩ => ⟨_, _, _, e1, e2, ⟨i, j, rfl, rfl, c, rfl⟩, q⟩)
  rintro M H x y d e r Q _ rx ry ⟨i, j, rfl, rfl, c, rfl⟩ k
  exact ⟨i, j, rp_str rx, rp_str ry, c, k _ H (fun _ _ e => e) (.str _)⟩
theorem wE_inSign (w : wE C ta y fun z y1 => wE C tb y1 fun z' y2 => ∃ (c : Nat) (j : Str), z = .d (.str ⟨#[c]⟩) ∧ z' = .d (.str j) ∧ Q (.d (.bool (decide (c ∈ j.cps.toList)))) y2) :
    wE C (tOp (fun x y H Q => ∃ (c : Nat) (z : Str), x = .str ⟨#[c]⟩ ∧ y = .str z ∧ Q (.bl (decide (c ∈ z.cps.toList))) H) ta tb) y Q := by
  refine wE_op (res := fun d e r => ∃ (c : Nat) (j : Str), d = .str ⟨#[c]⟩ ∧ e = .str j ∧ r = .bool (decide (c ∈ j.cps.toList))) ?_ (wE_mono w fun z y1 h => wE_mono h fun z' y2 ⟨i, j, e1, e2, q⟩ => ⟨_, _, _, e1, e2, ⟨i, j, rfl, rfl, rfl⟩, q⟩)
  rintro M H x y d e r Q _ rx ry ⟨i, j, rfl, rfl, rfl⟩ k
  exact ⟨i, j, rp_str rx, rp_str ry, k _ H (fun _ _ e => e) (.bl _)⟩
theorem wE_eqD (w : wE C ta y fun z y1 => wE C tb y1 fun z' y2 => ∃ d e, z = .d d ∧ z' = .d e ∧ SeqAt.shaped d = true ∧ SeqAt.shaped e = true ∧ Q (.d (.bool (PyData.eqv d e))) y2) : wE C (tOp (rEqD C.K) ta tb) y Q := by
  refine wE_op (res := fun d e r => SeqAt.shaped d = true ∧ SeqAt.shaped e = true ∧ r = .bool (PyData.eqv d e)) ?_ (wE_mono w fun z y1 h => wE_mono h fun z' y2 ⟨d, e, e1, e2, s1, s2, q⟩ => ⟨_, _, _, e1, e2, ⟨s1, s2, rfl⟩, q⟩)
  rintro M H x y d e r Q _ rx ry ⟨s1, s2, rfl⟩ k
  exact ⟨d, e, rx.dp (canLay_noDict s1), ry.dp (canLay_noDict s2), s1, s2, k _ H (fun _ _ e => e) (.bl _)⟩
theorem wE_neD (w : wE C ta y fun z y1 => wE C tb y1 fun z' y2 => ∃ d e, z = .d d ∧ z' = .d e ∧ SeqAt.shaped d = true ∧ SeqAt.shaped e = true ∧ Q (.d (.bool (!PyData.eqv d e))) y2) : wE C (tOp (rNeD C.K) ta tb) y Q := by
  refine wE_op (res := fun d e r => SeqAt.shaped d = true ∧ SeqAt.shaped e = true ∧ r = .bool (!PyData.eqv d e)) ?_ (wE_mono w fun z y1 h => wE_mono h fun z' y2 ⟨d, e, e1, e2, s1, s2, q⟩ => ⟨_, _, _, e1, e2, ⟨s1, s2, rfl⟩, q⟩)
  rintro M H x y d e r Q _ rx ry ⟨s1, s2, rfl⟩ k
  exact ⟨d, e, rx.dp (canLay_noDict s1), ry.dp (canLay_noDict s2), s1, s2, k _ H (fun _ _ e => e) (.bl _)⟩
theorem wE_isN (w : wE C ta y fun z y1 => wE C tb y1 fun z' y2 => ∃ d, z = .d d ∧ z' = .d .none ∧ Q (.d (.bool (match d with | .none => true | _ => false))) y2) :
    wE C (tOp (fun x y H Q => y = .non ∧ Q (.bl (decide (x = .non))) H) ta tb) y Q := by
  refine wE_op (res := fun d e r => e = .none ∧ r = .bool (match d with | .none => true | _ => false)) ?_ (wE_mono w fun z y1 h => wE_mono h fun z' y2 ⟨d, e1, e2, q⟩ => ⟨_, _, _, e1, e2, ⟨rfl, rfl⟩, q⟩)
  rintro M H x y d e r Q _ rx ry ⟨rfl, rfl⟩ k
  refine ⟨rp_non ry, k _ H (fun _ _ e => e) ?_⟩
  cases rx <;> exact .bl _
theorem wE_notN (w : wE C ta y fun z y1 => wE C tb y1 fun z' y2 => ∃ d, z = .d d ∧ z' = .d .none ∧ Q (.d (.bool (match d with | .none => false | _ => true))) y2) :
    wE C (tOp (fun x y H Q => y = .non ∧ Q (.bl (!decide (x = .non))) H) ta tb) y Q := by
  refine wE_op (res := fun d e r => e = .none ∧ r = .bool (match d with | .none => false | _ => true)) ?_ (wE_mono w fun z y1 h => wE_mono h fun z' y2 ⟨d, e1, e2, q⟩ => ⟨_, _, _, e1, e2, ⟨rfl, rfl⟩, q⟩)
  rintro M H x y d e r Q _ rx ry ⟨rfl, rfl⟩ k
  refine ⟨rp_non ry, k _ H (fun _ _ e => e) ?_⟩
  cases rx <;> exact .bl _
theorem wE_ix (w : wE C ta y fun z y1 => wE C tb y1 fun z' y2 => ∃ d i g, z = .d d ∧ z' = .d (.int i) ∧ dIx d i = some g ∧ Q (.d g) y2) : wE C (tOp (rIx C.K) ta tb) y Q := by
  refine wE_op (res := fun d e r => ∃ i, e = .int i ∧ dIx d i = some r) ?_ (wE_mono w fun z y1 h => wE_mono h fun z' y2 ⟨d, i, g, e1, e2, s, q⟩ => ⟨_, _, _, e1, e2, ⟨i, rfl, s⟩, q⟩)
  rintro M H x y d e r Q _ rx ry ⟨i, rfl, h⟩ k
  have ey := rp_int ry
  cases rx with
  | non => cases h
  | bl b => cases h
  | int b => cases h
  | dic _ _ _ => cases h
  | str z =>
    simp only [dIx] at h
    by_cases hz : z.length ≤ sizeLine
    · rw [if_pos hz] at h
      cases q : atI z.cps.toList i with
      | none => rw [q] at h; cases h
      | some c =>
        rw [q] at h; cases h
        exact .inr (.inr ⟨z, i, c, rfl, ey, hz, q, k _ H (fun _ _ e => e) (.str _)⟩)
    · rw [if_neg hz] at h; cases h
  | lst h1 h2 =>
    obtain ⟨v, e, rv⟩ := atI_rp h2 h
    exact .inl ⟨_, _, i, v, rfl, ey, h1.sq, e, k _ H (fun _ _ e => e) rv⟩
  | tup h1 h2 =>
    obtain ⟨v, e, rv⟩ := atI_rp h2 h
    exact .inr (.inl ⟨_, _, i, v, rfl, ey, h1.sq, e, k _ H (fun _ _ e => e) rv⟩)
end
end Ux

set_option maxRecDepth 100000
set_option maxHeartbeats 4000000
namespace Ux
open PySem PySem.Spec PyProof.Rows L2 Tq
section
variable {C : Ct} {y : S} {ta tb tc te : TE} {t u : TT} {ts : TA} {Q : Z → S → Prop} {R : Bool → S → Prop}
theorem wE_catG (w : wE C ta y fun z y1 => wE C tb y1 fun z' y2 => ∃ xs ys, z = .d (.list xs) ∧ z' = .d (.list ys) ∧ xs.length + ys.length ≤ sizeLine ∧ Q (.d (.list (xs ++ ys))) y2) : wE C (tOp (rCatG C.K) ta tb) y Q := by
  refine wE_op (res := fun d e r => ∃ xs ys, d = .list xs ∧ e = .list ys ∧ xs.length + ys.length ≤ sizeLine ∧ r = .list (xs ++ ys)) ?_ (wE_mono w fun z y1 h => wE_mono h fun z' y2 ⟨xs, ys, e1, e2, c, q⟩ => ⟨_, _, _, e1, e2, ⟨xs, ys, rfl, rfl, c, rfl⟩, q⟩)
  rintro M H x y d e r Q fr rx ry ⟨xs, ys, rfl, rfl, c, rfl⟩ k
  obtain ⟨a, us, rfl, h1, h2⟩ := rp_lst rx
  obtain ⟨b, vs, rfl, h3, h4⟩ := rp_lst ry
  refine ⟨a, b, us, vs, rfl, rfl, h1.sq, h3.sq, by rw [h2.len, h4.len]; exact c, fun p hp => k _ _ (grow_upd hp) ?_⟩
  have g : GoH M H M (upd H p (.lst (us ++ vs))) := fun a o n e => ⟨n, grow_upd hp a o e⟩
  exact .lst (.inl ⟨fr p hp, .inl upd_same⟩) ((h2.go g).app (h4.go g))
theorem wE_fdivZ (w : wE C ta y fun z y1 => wE C tb y1 fun z' y2 => ∃ i j, z = .d (.int i) ∧ z' = .d (.int j) ∧ CDivZ i j ∧ Q (.d (.int (i.fdiv j))) y2) : wE C (tOp (rI CDivZ fun i j => .int (i.fdiv j)) ta tb) y Q := wE_I _ (fun _ _ => .int _) w
theorem wE_modN (w : wE C ta y fun z y1 => wE C tb y1 fun z' y2 => ∃ i j, z = .d (.int i) ∧ z' = .d (.int j) ∧ j ≠ 0 ∧ Q (.d (.int (i.fmod j))) y2) : wE C (tOp (rI (fun _ j => j ≠ 0) fun i j => .int (i.fmod j)) ta tb) y Q := wE_I _ (fun _ _ => .int _) w
theorem wE_andV (w : wE C ta y fun z y1 => ∃ b, z = .d (.bool b) ∧ if b = true then wE C tb y1 Q else Q (.d (.bool false)) y1) : wE C (tAndV ta tb) y Q := by
  intro F σ H K wd k
  refine w F σ H _ wd fun x H1 z y1 w1 g1 s1 r1 q1 => ?_
  obtain ⟨b, rfl, q⟩ := q1
  refine ⟨b, rp_bl r1, ?_⟩
  cases b with
  | true => exact q F σ H1 _ w1 fun v H2 z y2 w2 g2 s2 r2 q2 => k v H2 z y2 w2 (g1.trans g2) (s1.trans s2) r2 q2
  | false => exact k _ H1 (.d (.bool false)) y1 w1 g1 s1 (.bl _) q
theorem wE_orV (w : wE C ta y fun z y1 => ∃ b, z = .d (.bool b) ∧ if b = true then Q (.d (.bool true)) y1 else wE C tb y1 Q) : wE C (tOrV ta tb) y Q := by
  intro F σ H K wd k
  refine w F σ H _ wd fun x H1 z y1 w1 g1 s1 r1 q1 => ?_
  obtain ⟨b, rfl, q⟩ := q1
  refine ⟨b, rp_bl r1, ?_⟩
  cases b with
  | true => exact k _ H1 (.d (.bool true)) y1 w1 g1 s1 (.bl _) q
  | false => exact q F σ H1 _ w1 fun v H2 z y2 w2 g2 s2 r2 q2 => k v H2 z y2 w2 (g1.trans g2) (s1.trans s2) r2 q2
theorem wE_notV (w : wE C ta y fun z y1 => ∃ b, z = .d (.bool b) ∧ Q (.d (.bool (!b))) y1) : wE C (tNotV ta) y Q := by
  intro F σ H K wd k
  refine w F σ H _ wd fun x H1 z y1 w1 g1 s1 r1 q1 => ?_
  obtain ⟨b, rfl, q⟩ := q1
  exact ⟨b, rp_bl r1, k _ H1 (.d (.bool !b)) y1 w1 g1 s1 (.bl _) q⟩
theorem wE_if (w : wT C t y fun b y1 => if b = true then wE C ta y1 Q else wE C tb y1 Q) : wE C (tIf t ta tb) y Q := by
  intro F σ H K wd k
  refine w F σ H _ wd fun b H1 y1 w1 g1 s1 q => ?_
  cases b with
  | true => exact q F σ H1 _ w1 fun v H2 z y2 w2 g2 s2 r2 q2 => k v H2 z y2 w2 (g1.trans g2) (s1.trans s2) r2 q2
  | false => exact q F σ H1 _ w1 fun v H2 z y2 w2 g2 s2 r2 q2 => k v H2 z y2 w2 (g1.trans g2) (s1.trans s2) r2 q2
theorem wT_test (w : wE C te y fun z y1 => ∃ b, z = .d (.bool b) ∧ R b y1) : wT C (tTest te) y R := by
  intro F σ H K wd k
  refine w F σ H _ wd fun x H1 z y1 w1 g1 s1 r1 q1 => ?_
  obtain ⟨b, rfl, q⟩ := q1
  exact ⟨b, rp_bl r1, k b H1 y1 w1 g1 s1 q⟩
theorem wT_B (w : wE C te y fun z y1 => ∃ b, z = .d (.bool b) ∧ R b y1) : wT C (tB te) y R := wT_test w
theorem wT_and (w : wT C t y fun b y1 => if b = true then wT C u y1 R else R false y1) : wT C (tAnd t u) y R := by
  intro F σ H K wd k
  refine w F σ H _ wd fun b H1 y1 w1 g1 s1 q => ?_
  cases b with
  | true => exact q F σ H1 _ w1 fun v H2 y2 w2 g2 s2 q2 => k v H2 y2 w2 (g1.trans g2) (s1.trans s2) q2
  | false => exact k false H1 y1 w1 g1 s1 q
theorem wT_or (w : wT C t y fun b y1 => if b = true then R true y1 else wT C u y1 R) : wT C (tOr t u) y R := by
  intro F σ H K wd k
  refine w F σ H _ wd fun b H1 y1 w1 g1 s1 q => ?_
  cases b with
  | true => exact k true H1 y1 w1 g1 s1 q
  | false => exact q F σ H1 _ w1 fun v H2 y2 w2 g2 s2 q2 => k v H2 y2 w2 (g1.trans g2) (s1.trans s2) q2
theorem wT_not (w : wT C t y fun b y1 => R (!b) y1) : wT C (tNot t) y R := by
  intro F σ H K wd k
  exact w F σ H _ wd fun b H1 y1 w1 g1 s1 q => k (!b) H1 y1 w1 g1 s1 q
theorem wT_yes (q : R true y) : wT C tYes y R := fun F σ H K wd k => k true H y wd GoH.refl (Sh.refl y) q
theorem wT_mono {R' : Bool → S → Prop} (h : wT C t y R) (q : ∀ z y', R z y' → R' z y') : wT C t y R' := fun F σ H K w k => h F σ H K w fun z H' y' a b c e => k z H' y' a b c (q z y' e)
theorem wE_chain {r r' : R2} {res res' : D → D → D → Prop} (h : OpD C.K r res) (h' : OpD C.K r' res')
    (w : wE C ta y fun z1 y1 => wE C tb y1 fun z2 y2 => ∃ d1 d2 b, z1 = .d d1 ∧ z2 = .d d2 ∧ res d1 d2 (.bool b) ∧ if b = true then wE C tc y2 fun z3 y3 => ∃ d3 g, z3 = .d d3 ∧ res' d2 d3 g ∧ Q (.d g) y3 else Q (.d (.bool false)) y2) :
    wE C (tChain r r' ta tb tc) y Q := by
  intro F σ H K wd k
  refine w F σ H _ wd fun x H1 z y1 w1 g1 s1 r1 q1 => ?_
  refine q1 F σ H1 _ w1 fun x2 H2 z' y2 w2 g2 s2 r2 q2 => ?_
  obtain ⟨d1, d2, b, rfl, rfl, hres, hq⟩ := q2
  refine h (Mv F σ y2) H2 x x2 d1 d2 (.bool b) _ (fun a => w2.new) (Rp.go g2 r1) r2 hres fun v H3 gr rv => ?_
  have w3 := w2.grow gr
  have g3 := (g1.trans g2).trans (go_grow (F := F) (σ := σ) (y := y2) gr)
  refine ⟨b, rp_bl rv, ?_⟩
  cases b with
  | false => exact k _ H3 (.d (.bool false)) y2 w3 g3 (s1.trans s2) (.bl _) hq
  | true =>
    refine hq F σ H3 _ w3 fun x4 H4 z4 y4 w4 g4 s4 r4 q4 => ?_
    obtain ⟨d3, g, rfl, hres', hq'⟩ := q4
    refine h' (Mv F σ y4) H4 x2 x4 d2 d3 g _ (fun a => w4.new) (Rp.go g4 (Rp.go (go_grow (F := F) (σ := σ) (y := y2) gr) r2)) r4 hres' fun v5 H5 gr5 rv5 => ?_
    exact k v5 H5 (.d g) y4 (w4.grow gr5) ((g3.trans g4).trans (go_grow gr5)) ((s1.trans s2).trans s4) rv5 hq'
theorem wE_chainI {p p' : Int → Int → Bool} (w : wE C ta y fun z1 y1 => wE C tb y1 fun z2 y2 => ∃ i j, z1 = .d (.int i) ∧ z2 = .d (.int j) ∧ if p i j = true then wE C tc y2 fun z3 y3 => ∃ m, z3 = .d (.int m) ∧ Q (.d (.bool (p' j m))) y3 else Q (.d (.bool false)) y2) :
    wE C (tChain (rI0 fun i j => .bl (p i j)) (rI0 fun i j => .bl (p' i j)) ta tb tc) y Q := by
  refine wE_chain (opD_I0 (gd := fun i j => .bool (p i j)) fun _ _ => .bl _) (opD_I0 (gd := fun i j => .bool (p' i j)) fun _ _ => .bl _) (wE_mono w fun z1 y1 h => wE_mono h fun z2 y2 ⟨i, j, e1, e2, q⟩ => ⟨_, _, p i j, e1, e2, ⟨i, j, rfl, rfl, rfl⟩, ?_⟩)
  cases hb : p i j with
  | true =>
    rw [hb] at q
    exact wE_mono (show wE C tc y2 _ from q) fun z3 y3 ⟨m, e3, q3⟩ => ⟨_, _, e3, ⟨j, m, rfl, rfl, rfl⟩, q3⟩
  | false => rw [hb] at q; exact q
theorem wE_chainS {p p' : Str → Str → Bool} (w : wE C ta y fun z1 y1 => wE C tb y1 fun z2 y2 => ∃ i j, z1 = .d (.str i) ∧ z2 = .d (.str j) ∧ if p i j = true then wE C tc y2 fun z3 y3 => ∃ m, z3 = .d (.str m) ∧ Q (.d (.bool (p' j m))) y3 else Q (.d (.bool false)) y2) :
    wE C (tChain (fun x y H Q => ∃ i j, x = .str i ∧ y = .str j ∧ Q (.bl (p i j)) H) (fun x y H Q => ∃ i j, x = .str i ∧ y = .str j ∧ Q (.bl (p' i j)) H) ta tb tc) y Q := by
  refine wE_chain (opD_S0 (gd := fun i j => .bool (p i j)) fun _ _ => .bl _) (opD_S0 (gd := fun i j => .bool (p' i j)) fun _ _ => .bl _) (wE_mono w fun z1 y1 h => wE_mono h fun z2 y2 ⟨i, j, e1, e2, q⟩ => ⟨_, _, p i j, e1, e2, ⟨i, j, rfl, rfl, rfl⟩, ?_⟩)
  cases hb : p i j with
  | true =>
    rw [hb] at q
    exact wE_mono (show wE C tc y2 _ from q) fun z3 y3 ⟨m, e3, q3⟩ => ⟨_, _, e3, ⟨j, m, rfl, rfl, rfl⟩, q3⟩
  | false => rw [hb] at q; exact q
def wD (C : Ct) (ta : TA) (y : S) (Q : List D → S → Prop) : Prop := ∀ (F : Fr) σ H (K : List V → Hp → Prop), Wd C F σ y H → (∀ vs H' ds y', Wd C F σ y' H' → Go F σ y H σ y' H' → Sh y y' → RpA C.K (Mv F σ y') H' vs ds → Q ds y' → K vs H') → ta σ H K
variable {q : List D → S → Prop}
theorem wD_nil (h : q [] y) : wD C tNil y q := fun F σ H K wd k => k [] H [] y wd GoH.refl (Sh.refl y) .nil h
theorem wD_cons (w : wE C ta y fun z y1 => ∃ d, z = .d d ∧ wD C ts y1 fun ds y2 => q (d :: ds) y2) : wD C (tCons ta ts) y q := by
  intro F σ H K wd k
  refine w F σ H _ wd fun x H1 z y1 w1 g1 s1 r1 q1 => ?_
  obtain ⟨d, rfl, h⟩ := q1
  exact h F σ H1 _ w1 fun vs H2 ds y2 w2 g2 s2 r2 q2 => k (x :: vs) H2 (d :: ds) y2 w2 (g1.trans g2) (s1.trans s2) (.cons (Rp.go g2 r1) r2) q2
theorem wD_mono {q' : List D → S → Prop} (h : wD C ts y q) (e : ∀ z y', q z y' → q' z y') : wD C ts y q' := fun F σ H K w k => h F σ H K w fun vs H' z y' a b c d f => k vs H' z y' a b c d (e z y' f)
theorem wE_tup (w : wD C ts y fun ds y1 => ds.length ≤ sizeLine ∧ Q (.d (.tuple ds)) y1) : wE C (tTup ts) y Q := by
  intro F σ H K wd k
  refine w F σ H _ wd fun vs H1 ds y1 w1 g1 s1 r1 ⟨hz, q1⟩ => ⟨by rw [r1.len]; exact hz, fun p hp => ?_⟩
  have gr := grow_upd (o := .tup vs) hp
  exact k _ _ (.d (.tuple ds)) y1 (w1.grow gr) (g1.trans (go_grow gr)) s1 (.tup (.inl ⟨w1.new hp, .inl upd_same⟩) (r1.go (go_grow gr))) q1
theorem wE_lst (w : wD C ts y fun ds y1 => ds.length ≤ sizeLine ∧ Q (.d (.list ds)) y1) : wE C (tLst ts) y Q := by
  intro F σ H K wd k
  refine w F σ H _ wd fun vs H1 ds y1 w1 g1 s1 r1 ⟨hz, q1⟩ => ⟨by rw [r1.len]; exact hz, fun p hp => ?_⟩
  have gr := grow_upd (o := .lst vs) hp
  exact k _ _ (.d (.list ds)) y1 (w1.grow gr) (g1.trans (go_grow gr)) s1 (.lst (.inl ⟨w1.new hp, .inl upd_same⟩) (r1.go (go_grow gr))) q1
theorem wE_dnew (h : Q (.d (.dict [])) y) : wE C tDNewK y Q := by
  intro F σ H K wd k p hp
  have gr := grow_upd (o := .dK []) hp
  exact k _ _ (.d (.dict [])) y (wd.grow gr) (go_grow gr) (Sh.refl y) (.dic (wd.new hp) upd_same .nil) h
theorem wE_disp1 {kk : Key} {v : V} {d : D} (s : Sc v d) (h : Q (.d (.dict [(kD kk, d)])) y) : wE C (tDisp [(tC (kV kk), tC v)]) y Q := by
  intro F σ H K wd k p hp
  refine ⟨upd_same, [(kk, v)], rfl, by simp, ?_⟩
  have gr : ∀ a u, H a = some u → upd (upd H p (.dK [])) p (.dK (mergeK [] [(kk, v)])) a = some u := fun a u e => by rw [upd_upd]; exact grow_upd hp a u e
  refine k _ _ (.d (.dict [(kD kk, d)])) y (wd.grow gr) (go_grow gr) (Sh.refl y) (.dic (wd.new hp) (kvs := [(kk, v)]) ?_ (.cons s.rp .nil)) h
  rw [upd_same]
  rfl
theorem wE_cb {r : List V → Hp → VK → Prop} {res : List D → D → Prop} (h : CbD C.K r res) (w : wD C ts y fun ds y1 => ∃ g, res ds g ∧ Q (.d g) y1) : wE C (tCB r ts) y Q := by
  intro F σ H K wd k
  refine w F σ H _ wd fun vs H1 ds y1 w1 g1 s1 r1 q1 => ?_
  obtain ⟨g, hres, hq⟩ := q1
  exact h (Mv F σ y1) H1 vs ds g K (fun a => w1.new) r1 hres fun v H2 gr rv => k v H2 (.d g) y1 (w1.grow gr) (g1.trans (go_grow gr)) s1 rv hq
theorem wE_abs (w : wD C ts y fun ds y1 => ∃ i, ds = [.int i] ∧ Q (.d (.int (if i < 0 then -i else i))) y1) : wE C (tCB (fun xs H Q => ∃ i, xs = [.int i] ∧ Q (.int (if i < 0 then -i else i)) H) ts) y Q := by
  refine wE_cb (res := fun ds g => ∃ i, ds = [.int i] ∧ g = .int (if i < 0 then -i else i)) ?_ (wD_mono w fun ds y1 ⟨i, e, q⟩ => ⟨_, ⟨i, e, rfl⟩, q⟩)
  rintro M H xs ds g Q _ r ⟨i, rfl, rfl⟩ k
  obtain ⟨v, rfl, rv⟩ := rpA1 r
  exact ⟨i, by rw [rp_int rv], k _ H (fun _ _ e => e) (.int _)⟩
theorem wE_max2 (w : wD C ts y fun ds y1 => ∃ i j, ds = [.int i, .int j] ∧ Q (.d (.int (if j > i then j else i))) y1) : wE C (tCB (fun xs H Q => ∃ i j, xs = [.int i, .int j] ∧ Q (.int (if j > i then j else i)) H) ts) y Q := by
  refine wE_cb (res := fun ds g => ∃ i j, ds = [.int i, .int j] ∧ g = .int (if j > i then j else i)) ?_ (wD_mono w fun ds y1 ⟨i, j, e, q⟩ => ⟨_, ⟨i, j, e, rfl⟩, q⟩)
  rintro M H xs ds g Q _ r ⟨i, j, rfl, rfl⟩ k
  obtain ⟨v, u, rfl, rv, ru⟩ := rpA2 r
  exact ⟨i, j, by rw [rp_int rv, rp_int ru], k _ H (fun _ _ e => e) (.int _)⟩
theorem wE_min2 (w : wD C ts y fun ds y1 => ∃ i j, ds = [.int i, .int j] ∧ Q (.d (.int (if j < i then j else i))) y1) : wE C (tCB (fun xs H Q => ∃ i j, xs = [.int i, .int j] ∧ Q (.int (if j < i then j else i)) H) ts) y Q := by
  refine wE_cb (res := fun ds g => ∃ i j, ds = [.int i, .int j] ∧ g = .int (if j < i then j else i)) ?_ (wD_mono w fun ds y1 ⟨i, j, e, q⟩ => ⟨_, ⟨i, j, e, rfl⟩, q⟩)
  rintro M H xs ds g Q _ r ⟨i, j, rfl, rfl⟩ k
  obtain ⟨v, u, rfl, rv, ru⟩ := rpA2 r
  exact ⟨i, j, by rw [rp_int rv, rp_int ru], k _ H (fun _ _ e => e) (.int _)⟩
theorem wE_int1 (w : wD C ts y fun ds y1 => (∃ i, ds = [.int i] ∧ Q (.d (.int i)) y1) ∨ ∃ b, ds = [.bool b] ∧ Q (.d (.int (if b then 1 else 0))) y1) :
    wE C (tCB (fun xs H Q => (∃ i, xs = [.int i] ∧ Q (.int i) H) ∨ ∃ k, xs = [.bl k] ∧ Q (.int (if k then 1 else 0)) H) ts) y Q := by
  refine wE_cb (res := fun ds g => (∃ i, ds = [.int i] ∧ g = .int i) ∨ ∃ b, ds = [.bool b] ∧ g = .int (if b then 1 else 0)) ?_ (wD_mono w fun ds y1 h => ?_)
  · rintro M H xs ds g Q _ r (⟨i, rfl, rfl⟩ | ⟨b, rfl, rfl⟩) k
    · obtain ⟨v, rfl, rv⟩ := rpA1 r
      exact .inl ⟨i, by rw [rp_int rv], k _ H (fun _ _ e => e) (.int _)⟩
    · obtain ⟨v, rfl, rv⟩ := rpA1 r
      exact .inr ⟨b, by rw [rp_bl rv], k _ H (fun _ _ e => e) (.int _)⟩
  · rcases h with ⟨i, e, q⟩ | ⟨b, e, q⟩
    · exact ⟨_, .inl ⟨i, e, rfl⟩, q⟩
    · exact ⟨_, .inr ⟨b, e, rfl⟩, q⟩
theorem wE_strI (w : wD C ts y fun ds y1 => ∃ i, ds = [.int i] ∧ i.natAbs.log2 < 1920 ∧ Q (.d (.str (toString i))) y1) : wE C (tCB (fun xs H Q => ∃ i, xs = [.int i] ∧ i.natAbs.log2 < 1920 ∧ Q (.str (toString i)) H) ts) y Q := by
  refine wE_cb (res := fun ds g => ∃ i, ds = [.int i] ∧ i.natAbs.log2 < 1920 ∧ g = .str (toString i)) ?_ (wD_mono w fun ds y1 ⟨i, e, c, q⟩ => ⟨_, ⟨i, e, c, rfl⟩, q⟩)
  rintro M H xs ds g Q _ r ⟨i, rfl, c, rfl⟩ k
  obtain ⟨v, rfl, rv⟩ := rpA1 r
  exact ⟨i, by rw [rp_int rv], c, k _ H (fun _ _ e => e) (.str _)⟩
theorem wE_intS (w : wD C ts y fun ds y1 => ∃ a n, ds = [.str a] ∧ PySem.intText? a = some n ∧ a.length ≤ 640 ∧ Q (.d (.int n)) y1) : wE C (tCB (fun xs H Q => ∃ a n, xs = [.str a] ∧ PySem.intText? a = some n ∧ a.length ≤ 640 ∧ Q (.int n) H) ts) y Q := by
  refine wE_cb (res := fun ds g => ∃ a n, ds = [.str a] ∧ PySem.intText? a = some n ∧ a.length ≤ 640 ∧ g = .int n) ?_ (wD_mono w fun ds y1 ⟨i, n, e, c, l, q⟩ => ⟨_, ⟨i, n, e, c, l, rfl⟩, q⟩)
  rintro M H xs ds g Q _ r ⟨i, n, rfl, c, l, rfl⟩ k
  obtain ⟨v, rfl, rv⟩ := rpA1 r
  exact ⟨i, n, by rw [rp_str rv], c, l, k _ H (fun _ _ e => e) (.int _)⟩
theorem wE_len (w : wD C ts y fun ds y1 => ∃ d n, ds = [d] ∧ dLen d = some n ∧ Q (.d (.int n)) y1) : wE C (tCB (fun xs H Q => ∃ x n, xs = [x] ∧ LenV C.K x H n ∧ Q (.int (n : Nat)) H) ts) y Q := by
  refine wE_cb (res := fun ds g => ∃ d n, ds = [d] ∧ dLen d = some n ∧ g = .int n) ?_ (wD_mono w fun ds y1 ⟨d, n, e, c, q⟩ => ⟨_, ⟨d, n, e, c, rfl⟩, q⟩)
  rintro M H xs ds g Q _ r ⟨d, n, rfl, c, rfl⟩ k
  obtain ⟨v, rfl, rv⟩ := rpA1 r
  refine ⟨v, n, rfl, ?_, k _ H (fun _ _ e => e) (.int _)⟩
  cases rv with
  | non => cases c
  | bl _ => cases c
  | int _ => cases c
  | dic _ _ _ => cases c
  | str z =>
    simp only [dLen] at c
    by_cases h : z.length ≤ sizeLine
    · rw [if_pos h] at c; cases c; exact ⟨h, rfl⟩
    · rw [if_neg h] at c; cases c
  | lst h1 h2 => cases c; exact .inl ⟨_, h1.sq, h2.len.symm⟩
  | tup h1 h2 => cases c; exact .inr ⟨_, h1.sq, h2.len.symm⟩
theorem wE_all (w : wD C ts y fun ds y1 => ∃ bs : List Bool, ds = [.list (bs.map PyData.bool)] ∧ Q (.d (.bool (bs.all id))) y1) : wE C (tCB (rAll C.K) ts) y Q := by
  refine wE_cb (res := fun ds g => ∃ bs : List Bool, ds = [.list (bs.map PyData.bool)] ∧ g = .bool (bs.all id)) ?_ (wD_mono w fun ds y1 ⟨i, e, q⟩ => ⟨_, ⟨i, e, rfl⟩, q⟩)
  rintro M H xs ds g Q _ r ⟨bs, rfl, rfl⟩ k
  obtain ⟨v, rfl, rv⟩ := rpA1 r
  obtain ⟨a, us, rfl, h1, h2⟩ := rp_lst rv
  have e := rpA_bls h2
  subst e
  exact ⟨a, bs, rfl, h1.sq, k _ H (fun _ _ e => e) (.bl _)⟩
theorem wE_any (w : wD C ts y fun ds y1 => ∃ bs : List Bool, ds = [.list (bs.map PyData.bool)] ∧ Q (.d (.bool (bs.any id))) y1) : wE C (tCB (rAny C.K) ts) y Q := by
  refine wE_cb (res := fun ds g => ∃ bs : List Bool, ds = [.list (bs.map PyData.bool)] ∧ g = .bool (bs.any id)) ?_ (wD_mono w fun ds y1 ⟨i, e, q⟩ => ⟨_, ⟨i, e, rfl⟩, q⟩)
  rintro M H xs ds g Q _ r ⟨bs, rfl, rfl⟩ k
  obtain ⟨v, rfl, rv⟩ := rpA1 r
  obtain ⟨a, us, rfl, h1, h2⟩ := rp_lst rv
  have e := rpA_bls h2
  subst e
  exact ⟨a, bs, rfl, h1.sq, k _ H (fun _ _ e => e) (.bl _)⟩
theorem wE_sum (w : wD C ts y fun ds y1 => ∃ bs : List Int, ds = [.list (bs.map PyData.int)] ∧ Q (.d (.int bs.sum)) y1) : wE C (tCB (rSum C.K) ts) y Q := by
  refine wE_cb (res := fun ds g => ∃ bs : List Int, ds = [.list (bs.map PyData.int)] ∧ g = .int bs.sum) ?_ (wD_mono w fun ds y1 ⟨i, e, q⟩ => ⟨_, ⟨i, e, rfl⟩, q⟩)
  rintro M H xs ds g Q _ r ⟨bs, rfl, rfl⟩ k
  obtain ⟨v, rfl, rv⟩ := rpA1 r
  obtain ⟨a, us, rfl, h1, h2⟩ := rp_lst rv
  have e := rpA_ints h2
  subst e
  exact ⟨a, bs, rfl, h1.sq, k _ H (fun _ _ e => e) (.int _)⟩
theorem wE_listOf (w : wD C ts y fun ds y1 => ∃ d xs, ds = [d] ∧ dItems d = some xs ∧ Q (.d (.list xs)) y1) :
    wE C (tCB (fun xs H Q => ∃ p ys, xs = [.ref p] ∧ (SqL C.K H p ys ∨ SqT C.K H p ys) ∧ ∀ l, H l = none → Q (.ref l) (upd H l (.lst ys))) ts) y Q := by
  refine wE_cb (res := fun ds g => ∃ d xs, ds = [d] ∧ dItems d = some xs ∧ g = .list xs) ?_ (wD_mono w fun ds y1 ⟨i, xs, e, c, q⟩ => ⟨_, ⟨i, xs, e, c, rfl⟩, q⟩)
  rintro M H xs ds g Q fr r ⟨d, es, rfl, c, rfl⟩ k
  obtain ⟨v, rfl, rv⟩ := rpA1 r
  obtain ⟨a, us, rfl, h1, h2⟩ := rp_items rv c
  refine ⟨a, us, rfl, h1.elim (fun z => .inl z.sq) (fun z => .inr z.sq), fun p hp => k _ _ (grow_upd hp) (.lst (.inl ⟨fr p hp, .inl upd_same⟩) (h2.go fun a o n e => ⟨n, grow_upd hp a o e⟩))⟩
theorem wE_tupOf (w : wD C ts y fun ds y1 => ∃ d xs, ds = [d] ∧ dItems d = some xs ∧ Q (.d (.tuple xs)) y1) :
    wE C (tCB (fun xs H Q => ∃ p ys, xs = [.ref p] ∧ ((SqL C.K H p ys ∧ ∀ l, H l = none → Q (.ref l) (upd H l (.tup ys))) ∨ (SqT C.K H p ys ∧ Q (.ref p) H))) ts) y Q := by
  refine wE_cb (res := fun ds g => ∃ d xs, ds = [d] ∧ dItems d = some xs ∧ g = .tuple xs) ?_ (wD_mono w fun ds y1 ⟨i, xs, e, c, q⟩ => ⟨_, ⟨i, xs, e, c, rfl⟩, q⟩)
  rintro M H xs ds g Q fr r ⟨d, es, rfl, c, rfl⟩ k
  obtain ⟨v, rfl, rv⟩ := rpA1 r
  obtain ⟨a, us, rfl, h1, h2⟩ := rp_items rv c
  refine ⟨a, us, rfl, ?_⟩
  rcases h1 with h1 | h1
  · exact .inl ⟨h1.sq, fun p hp => k _ _ (grow_upd hp) (.tup (.inl ⟨fr p hp, .inl upd_same⟩) (h2.go fun a o n e => ⟨n, grow_upd hp a o e⟩))⟩
  · exact .inr ⟨h1.sq, k _ H (fun _ _ e => e) (.tup h1 h2)⟩
theorem wE_repr (w : wD C ts y fun ds y1 => ∃ d, ds = [d] ∧ dsm d = true ∧ d.showable = true ∧ d.depth ≤ 60 ∧ d.shown.length ≤ sizeLine ∧ Q (.d (.str d.shown)) y1) : wE C (tCB (rRepr C.K) ts) y Q := by
  refine wE_cb (res := fun ds g => ∃ d, ds = [d] ∧ dsm d = true ∧ d.showable = true ∧ d.depth ≤ 60 ∧ d.shown.length ≤ sizeLine ∧ g = .str d.shown) ?_ (wD_mono w fun ds y1 ⟨d, e, c1, c2, c3, c4, q⟩ => ⟨_, ⟨d, e, c1, c2, c3, c4, rfl⟩, q⟩)
  rintro M H xs ds g Q _ r ⟨d, rfl, c1, c2, c3, c4, rfl⟩ k
  obtain ⟨v, rfl, rv⟩ := rpA1 r
  exact ⟨v, d, rfl, rv.any, c1, c2, c3, c4, k _ H (fun _ _ e => e) (.str _)⟩
theorem wE_isi {T : String} (w : wE C te y fun z y1 => ∃ d, z = .d d ∧ Q (.d (.bool (isT T d))) y1) (hT : (tyNames.all fun n => (kitB n T).isSome) = true := by decide +kernel) : wE C (tCB (rIsi C.K) (tCons te (tCons (tC (.ty T)) tNil))) y Q := by
  intro F σ H K wd k
  refine w F σ H _ wd fun x H1 z y1 w1 g1 s1 r1 q1 => ?_
  obtain ⟨d, rfl, h⟩ := q1
  exact ⟨x, .ty T, _, _, isT T d, rfl, .ty T, rp_ty r1, kit_ty (kit_isT hT d), k _ H1 (.d (.bool (isT T d))) y1 w1 g1 s1 (.bl _) h⟩
theorem wE_isi2 {T U : String} (w : wE C te y fun z y1 => ∃ d, z = .d d ∧ Q (.d (.bool (isT T d || isT U d))) y1) (hT : (tyNames.all fun n => (kitB n T).isSome) = true := by decide +kernel) (hU : (tyNames.all fun n => (kitB n U).isSome) = true := by decide +kernel) :
    wE C (tCB (rIsiT C.K) (tCons te (tCons (tTup (tCons (tC (.ty T)) (tCons (tC (.ty U)) tNil))) tNil))) y Q := by
  intro F σ H K wd k
  refine w F σ H _ wd fun x H1 z y1 w1 g1 s1 r1 q1 => ?_
  obtain ⟨d, rfl, h⟩ := q1
  refine ⟨by show 2 ≤ sizeLine; decide, fun p hp => ?_⟩
  have gr := grow_upd (o := .tup [.ty T, .ty U]) hp
  refine ⟨x, p, [.ty T, .ty U], _, [.type T, .type U], isT T d || isT U d, rfl, upd_same, .cons (.ty T) (.cons (.ty U) .nil), rp_ty (Rp.go (go_grow (F := F) (σ := σ) (y := y1) gr) r1), ?_, k _ _ (.d (.bool (isT T d || isT U d))) y1 (w1.grow gr) (g1.trans (go_grow gr)) s1 (.bl _) h⟩
  refine kitAny_cons (b := isT T d) (kit_ty (kit_isT hT d)) (fun e => ?_) (fun e => by rw [e]; rfl)
  refine kitAny_cons (b := isT U d) (kit_ty (kit_isT hU d)) (fun e2 => ?_) (fun e2 => by rw [e, e2]; rfl)
  rw [e, e2]
  rfl
variable {tl th : TO}
theorem wO_no {q : Option Int → S → Prop} (h : q none y) : wO C tNoPart y q := fun F σ H K wd k => k none H y wd GoH.refl (Sh.refl y) h
theorem wO_part {q : Option Int → S → Prop} (w : wE C te y fun z y1 => ∃ i, z = .d (.int i) ∧ q (some i) y1) : wO C (tPart te) y q := by
  intro F σ H K wd k
  refine w F σ H _ wd fun x H1 z y1 w1 g1 s1 r1 q1 => ?_
  obtain ⟨i, rfl, h⟩ := q1
  exact ⟨i, rp_int r1, k (some i) H1 y1 w1 g1 s1 h⟩
theorem wE_sl (w : wE C te y fun z y1 => wO C tl y1 fun l y2 => wO C th y2 fun h y3 => ∃ d g, z = .d d ∧ dCut d l h = some g ∧ Q (.d g) y3) : wE C (tSl (rSlD C.K) te tl th) y Q := by
  intro F σ H K wd k
  refine w F σ H _ wd fun x H1 z y1 w1 g1 s1 r1 q1 => ?_
  refine q1 F σ H1 _ w1 fun l H2 y2 w2 g2 s2 q2 => ?_
  refine q2 F σ H2 _ w2 fun h H3 y3 w3 g3 s3 q3 => ?_
  obtain ⟨d, g, rfl, c, hq⟩ := q3
  have r3 : Rp C.K (Mv F σ y3) H3 x d := Rp.go (g2.trans g3) r1
  have G := (g1.trans g2).trans g3
  have SS := (s1.trans s2).trans s3
  cases r3 with
  | non => cases c
  | bl _ => cases c
  | int _ => cases c
  | dic _ _ _ => cases c
  | str z =>
    simp only [dCut] at c
    by_cases hz : z.length ≤ sizeLine
    · rw [if_pos hz] at c; cases c
      exact .inr (.inr ⟨z, rfl, hz, k _ H3 (.d (.str (cutS z l h))) y3 w3 G SS (.str _) hq⟩)
    · rw [if_neg hz] at c; cases c
  | @lst a xs ds h1 h2 =>
    cases c
    refine .inl ⟨a, xs, rfl, h1.sq, fun p hp => ?_⟩
    have gr := grow_upd (o := .lst (cutV xs l h)) hp
    exact k _ _ (.d (.list (cutD ds l h))) y3 (w3.grow gr) (G.trans (go_grow gr)) SS (.lst (.inl ⟨w3.new hp, .inl upd_same⟩) ((rpA_cut h2 l h).go (go_grow gr))) hq
  | @tup a xs ds h1 h2 =>
    cases c
    refine .inr (.inl ⟨a, xs, rfl, h1.sq, fun e => ?_, fun e p hp => ?_⟩)
    · rw [h2.len] at e
      rw [cutD_whole ds l h e] at hq
      exact k _ H3 (.d (.tuple ds)) y3 w3 G SS (.tup h1 h2) hq
    · have gr := grow_upd (o := .tup (cutV xs l h)) hp
      exact k _ _ (.d (.tuple (cutD ds l h))) y3 (w3.grow gr) (G.trans (go_grow gr)) SS (.tup (.inl ⟨w3.new hp, .inl upd_same⟩) ((rpA_cut h2 l h).go (go_grow gr))) hq
theorem wE_starts (w : wE C ta y fun z y1 => ∃ a, z = .d (.str a) ∧ wE C tb y1 fun z' y2 => ∃ b, z' = .d (.str b) ∧ Q (.d (.bool (Txt.startswith a b))) y2) :
    wE C (tM1 (fun x xs H Q => ∃ a b, x = .str a ∧ xs = [.str b] ∧ Q (.bl (Txt.startswith a b)) H) ta tb) y Q := by
  intro F σ H K wd k
  refine w F σ H _ wd fun x H1 z y1 w1 g1 s1 r1 q1 => ?_
  obtain ⟨a, rfl, q1⟩ := q1
  have e := rp_str r1
  subst e
  refine ⟨⟨a, rfl⟩, q1 F σ H1 _ w1 fun x2 H2 z' y2 w2 g2 s2 r2 q2 => ?_⟩
  obtain ⟨b, rfl, hq⟩ := q2
  exact ⟨a, b, rfl, by rw [rp_str r2], k _ H2 (.d (.bool _)) y2 w2 (g1.trans g2) (s1.trans s2) (.bl _) hq⟩
theorem wE_join (w : wE C ta y fun z y1 => ∃ a, z = .d (.str a) ∧ wE C tb y1 fun z' y2 => ∃ (d : D) (ys : List Str), z' = .d d ∧ dItems d = some (ys.map PyData.str) ∧ (ys.map (·.length)).sum + ys.length * a.length ≤ 16777216 ∧ Q (.d (.str (Txt.join a ys))) y2) :
    wE C (tM1 (fun x xs H Q => ∃ a p, ∃ ys : List Str, x = .str a ∧ xs = [.ref p] ∧ (SqL C.K H p (ys.map V.str) ∨ SqT C.K H p (ys.map V.str)) ∧ (ys.map (·.length)).sum + ys.length * a.length ≤ 16777216 ∧ Q (.str (Txt.join a ys)) H) ta tb) y Q := by
  intro F σ H K wd k
  refine w F σ H _ wd fun x H1 z y1 w1 g1 s1 r1 q1 => ?_
  obtain ⟨a, rfl, q1⟩ := q1
  have e := rp_str r1
  subst e
  refine ⟨⟨a, rfl⟩, q1 F σ H1 _ w1 fun x2 H2 z' y2 w2 g2 s2 r2 q2 => ?_⟩
  obtain ⟨d, ys, rfl, hi, hz, hq⟩ := q2
  obtain ⟨p, us, rfl, h1, h2⟩ := rp_items r2 hi
  have e := rpA_strs h2
  subst e
  exact ⟨a, p, ys, rfl, rfl, h1.elim (fun z => .inl z.sq) (fun z => .inr z.sq), hz, k _ H2 (.d (.str _)) y2 w2 (g1.trans g2) (s1.trans s2) (.str _) hq⟩
end
end Ux

set_option maxRecDepth 100000
set_option maxHeartbeats 4000000
namespace Ux
open PySem PySem.Spec PyProof.Rows L2 Tq
section
variable {C : Ct} {y : S} {ta tb tc te : TE} {t u : TT} {tx tz : TS} {ts : TA} {e : En} {Q : Z → S → Prop} {q : List Z → S → Prop}
/-! arguments of any kind -/
def wZ (C : Ct) (ta : TA) (y : S) (Q : List Z → S → Prop) : Prop := ∀ (F : Fr) σ H (K : List V → Hp → Prop), Wd C F σ y H → (∀ vs H' zs y', Wd C F σ y' H' → Go F σ y H σ y' H' → Sh y y' → RwA C.K (Mv F σ y') H' vs zs → Q zs y' → K vs H') → ta σ H K
theorem wZ_nil (h : q [] y) : wZ C tNil y q := fun F σ H K wd k => k [] H [] y wd GoH.refl (Sh.refl y) .nil h
theorem wZ_cons (w : wE C ta y fun z y1 => wZ C ts y1 fun zs y2 => q (z :: zs) y2) : wZ C (tCons ta ts) y q := by
  intro F σ H K wd k
  refine w F σ H _ wd fun x H1 z y1 w1 g1 s1 r1 h => ?_
  exact h F σ H1 _ w1 fun vs H2 ds y2 w2 g2 s2 r2 q2 => k (x :: vs) H2 (z :: ds) y2 w2 (g1.trans g2) (s1.trans s2) (.cons (r1.w.go g2) r2) q2
theorem wZ_mono {q' : List Z → S → Prop} (h : wZ C ts y q) (e : ∀ z y', q z y' → q' z y') : wZ C ts y q' := fun F σ H K w k => h F σ H K w fun vs H' z y' a b c d f => k vs H' z y' a b c d (e z y' f)
theorem wE_tupZ (w : wZ C ts y fun zs y1 => zs.length ≤ sizeLine ∧ Q (.tup zs) y1) : wE C (tTup ts) y Q := by
  intro F σ H K wd k
  refine w F σ H _ wd fun vs H1 zs y1 w1 g1 s1 r1 ⟨hz, q1⟩ => ⟨by rw [r1.len]; exact hz, fun p hp => ?_⟩
  have gr := grow_upd (o := .tup vs) hp
  exact k _ _ (.tup zs) y1 (w1.grow gr) (g1.trans (go_grow gr)) s1 (.tup (.inl ⟨w1.new hp, .inl upd_same⟩) (r1.go (go_grow (F := F) (σ := σ) (y := y1) gr))) q1
theorem wE_lstZ (w : wZ C ts y fun zs y1 => zs.length ≤ sizeLine ∧ Q (.lst zs) y1) : wE C (tLst ts) y Q := by
  intro F σ H K wd k
  refine w F σ H _ wd fun vs H1 zs y1 w1 g1 s1 r1 ⟨hz, q1⟩ => ⟨by rw [r1.len]; exact hz, fun p hp => ?_⟩
  have gr := grow_upd (o := .lst vs) hp
  exact k _ _ (.lst zs) y1 (w1.grow gr) (g1.trans (go_grow gr)) s1 (.lst (.inl ⟨w1.new hp, .inl upd_same⟩) (r1.go (go_grow (F := F) (σ := σ) (y := y1) gr))) q1
/-! storing -/
theorem wS_asg {i : Nat} (w : wE C te y fun z y1 => e.nx (y1.set i (some z))) : wS C (tAsg te (gName i)) y e := by
  intro F σ H E st wd k
  exact w F σ H _ wd fun v H1 z y1 w1 g1 s1 r1 q => k.nx _ H1 _ (w1.set_z r1) (g1.trans go_set) q
theorem wS_par {i j : Nat} (w : wZ C ts y fun zs y1 => ∃ z u, zs = [z, u] ∧ e.nx ((y1.set i (some z)).set j (some u))) : wS C (tPar i j ts) y e := by
  intro F σ H E st wd k
  refine w F σ H _ wd fun vs H1 zs y1 w1 g1 s1 r1 q => ?_
  obtain ⟨z, u, rfl, q⟩ := q
  cases r1 with | @cons v _ vs _ rv r2 =>
  cases r2 with | @cons v2 _ vs2 _ ru r3 =>
  cases r3
  refine ⟨v, v2, rfl, k.nx _ H1 _ ((w1.set_z rv.z).set_z (Rz.go (σ := σ) go_set ru.z).w.z) ((g1.trans (go_set (σ' := σ))).trans go_set) q⟩
theorem wS_aug {i : Nat} {f : Int → Int → Int} {a : Int} (hx : y.l[i]? = some (some (.d (.int a)))) (w : wE C te y fun z y1 => ∃ b, z = .d (.int b) ∧ e.nx (y1.set i (some (.d (.int (f a b)))))) : wS C (tAug i te (ipI f)) y e := by
  intro F σ H E st wd k
  obtain ⟨x, h1, h2⟩ := wd.slot i _ hx
  cases h2 with | d h2 =>
  refine ⟨x, h1, w F σ H _ wd fun v H1 z y1 w1 g1 s1 r1 q => ?_⟩
  obtain ⟨b, rfl, q⟩ := q
  exact ⟨a, b, rp_int h2, rp_int r1, k.nx _ H1 _ (w1.set_z (z := .d (.int (f a b))) (.int _)) (g1.trans go_set) q⟩
/-! targets -/
def wG (C : Ct) (g : TG) (z : Z) (y : S) (Q : S → Prop) : Prop := ∀ (F : Fr) σ H (v : V) (R : St → Hp → Prop), Wd C F σ y H → Rz C F σ y H v z → (∀ σ' y', Wd C F σ' y' H → Go F σ y H σ' y' H → Q y' → R σ' H) → g v σ H R
variable {g : TG} {Qg : S → Prop}
theorem wG_name {i : Nat} {z : Z} (h : Qg (y.set i (some z))) : wG C (gName i) z y Qg := fun F σ H v R wd r k => k _ _ (wd.set_z r) go_set h
def wGs (C : Ct) (g : TGs) (zs : List Z) (y : S) (Q : S → Prop) : Prop := ∀ (F : Fr) σ H (vs : List V) (R : St → Hp → Prop), Wd C F σ y H → RwA C.K (Mv F σ y) H vs zs → (∀ σ' y', Wd C F σ' y' H → Go F σ y H σ' y' H → Q y' → R σ' H) → g vs σ H R
theorem wGs_nil (h : Qg y) : wGs C gNil [] y Qg := fun F σ H vs R wd r k => by
  cases r
  exact ⟨rfl, k σ y wd GoH.refl h⟩
theorem wGs_cons {gs : TGs} {z : Z} {zs : List Z} (h : wG C g z y fun y1 => wGs C gs zs y1 Qg) : wGs C (gCons g gs) (z :: zs) y Qg := fun F σ H vs R wd r k => by
  cases r with
  | @cons v _ vs _ r1 r2 =>
    refine ⟨v, vs, rfl, h F σ H v _ wd r1.z fun σ1 y1 w1 g1 q1 => ?_⟩
    exact q1 F σ1 H vs R w1 (r2.go g1) fun σ2 y2 w2 g2 q2 => k σ2 y2 w2 (g1.trans g2) q2
theorem wG_tup {n : Nat} {gs : TGs} {ds : List D} (hn : ds.length = n) (h : wGs C gs (ds.map Z.d) y Qg) : wG C (gTup C.K n gs) (.d (.tuple ds)) y Qg := fun F σ H v R wd r k => by
  obtain ⟨a, us, rfl, h1, h2⟩ := rp_tup r
  exact ⟨a, us, rfl, h1.sq, by rw [h2.len]; exact hn, h F σ H us R wd (RwA.of h2) k⟩
theorem wG_tupZ {n : Nat} {gs : TGs} {zs : List Z} (hn : zs.length = n) (h : wGs C gs zs y Qg) : wG C (gTup C.K n gs) (.tup zs) y Qg := fun F σ H v R wd r k => by
  cases r.w with
  | tup h1 h2 => exact ⟨_, _, rfl, h1.sq, by rw [h2.len]; exact hn, h F σ H _ R wd h2 k⟩
theorem wS_asgG (w : wE C te y fun z y1 => wG C g z y1 e.nx) : wS C (tAsg te g) y e := by
  intro F σ H E st wd k
  exact w F σ H _ wd fun v H1 z y1 w1 g1 s1 r1 q => q F σ H1 v _ w1 r1 fun σ2 y2 w2 g2 q2 => k.nx σ2 H1 y2 w2 (g1.trans g2) q2
end
section
variable {C : Ct} {y : S} {ta tb tc te : TE} {t u : TT} {tx tz : TS} {ts : TA} {e : En} {R : Bool → S → Prop}
theorem EnOk.go {σ σ' : St} {y' : S} {H H' : Hp} {E : Ends} (k : EnOk C F σ y H e E) (g : Go F σ y H σ' y' H') : EnOk C F σ' y' H' e E :=
  ⟨fun a b c w g2 q => k.nx a b c w (g.trans g2) q, fun a b c d f w g2 r q => k.rt a b c d f w (g.trans g2) r q, fun a b c w g2 q => k.bk a b c w (g.trans g2) q, fun a b c w g2 q => k.ct a b c w (g.trans g2) q⟩
theorem wS_seq (w : wS C tx y { e with nx := fun y1 => wS C tz y1 e }) : wS C (tSeq tx tz) y e := by
  intro F σ H E st wd k
  refine w F σ H _ st wd ⟨fun σ1 H1 y1 w1 g1 q => ?_, k.rt, k.bk, k.ct⟩
  exact q F σ1 H1 E st w1 (k.go g1)
theorem wS_next (h : e.nx y) : wS C tNext y e := fun F σ H E st wd k => k.nx σ H y wd GoH.refl h
theorem wS_ret (w : wE C te y fun z y1 => e.rt z y1) : wS C (tRet te) y e := by
  intro F σ H E st wd k
  exact w F σ H _ wd fun v H1 z y1 w1 g1 s1 r1 q => k.rt σ v H1 z y1 w1 g1 r1 q
theorem wS_retN (h : e.rt (.d .none) y) : wS C tRetN y e := fun F σ H E st wd k => k.rt σ .non H (.d .none) y wd GoH.refl .non h
theorem wS_drop (w : wE C te y fun z y1 => e.nx y1) : wS C (tDrop te) y e := by
  intro F σ H E st wd k
  exact w F σ H _ wd fun v H1 z y1 w1 g1 s1 r1 q => k.nx σ H1 y1 w1 g1 q
theorem wS_if (w : wT C t y fun b y1 => if b = true then wS C tx y1 e else wS C tz y1 e) : wS C (tIfS t tx tz) y e := by
  intro F σ H E st wd k
  refine w F σ H _ wd fun b H1 y1 w1 g1 s1 q => ?_
  cases b with
  | true => exact q F σ H1 E st w1 (k.go g1)
  | false => exact q F σ H1 E st w1 (k.go g1)
theorem wS_seqA {i : Nat} (w : wE C te y fun z y1 => wS C tz (y1.set i (some z)) e) : wS C (tSeq (tAsg te (gName i)) tz) y e := wS_seq (wS_asg w)
theorem wS_seqP {i j : Nat} (w : wZ C ts y fun zs y1 => ∃ z u, zs = [z, u] ∧ wS C tz ((y1.set i (some z)).set j (some u)) e) : wS C (tSeq (tPar i j ts) tz) y e := wS_seq (wS_par w)
theorem wS_seqI (w : wT C t y fun b y1 => if b = true then wS C tx y1 { nx := fun y2 => wS C tz y2 e, rt := e.rt, bk := e.bk, ct := e.ct } else wS C tz y1 e) : wS C (tSeq (tIfS t tx tNext) tz) y e := by
  refine wS_seq (wS_if (wT_mono w fun b y1 h => ?_))
  cases b with
  | true => exact h
  | false => exact wS_next h
theorem wS_ifN (w : wT C t y fun b y1 => if b = true then wS C tx y1 e else e.nx y1) : wS C (tIfS t tx tNext) y e := by
  refine wS_if (wT_mono w fun b y1 h => ?_)
  cases b with
  | true => exact h
  | false => exact wS_next h
def JOk (C : Ct) (F : Fr) (J : It) (σ : St) (y : S) (H : Hp) (xs : List D) : Prop := ∀ (F1 : Fr) σ1 y1 H1, Wd0 C.K F1 σ1 y1 H1 → GoH (Mv F σ y) H (Mv F1 σ1 y1) H1 → ∀ i : Nat, (i < xs.length → J.go i H1) ∧ (xs.length ≤ i → J.stop i H1) ∧
  ∀ x, xs[i]? = some x → ∀ v H2, J.yld i H1 v H2 → (∀ a o, H1 a = some o → H2 a = some o) ∧ Rp C.K (Mv F1 σ1 y1) H2 v x
def wI (C : Ct) (wi : TI) (y : S) (Q : List D → S → Prop) : Prop := ∀ (F : Fr) σ H (R : It → Hp → Prop), Wd C F σ y H → (∀ J H' xs y', Wd C F σ y' H' → Go F σ y H σ y' H' → Sh y y' → JOk C F J σ y' H' xs → Q xs y' → R J H') → wi σ H R
variable {Qi : List D → S → Prop} {wi : TI}
theorem wI_list (w : wE C te y fun z y1 => ∃ xs, z = .d (.list xs) ∧ Qi xs y1) : wI C (iList C.K te) y Qi := by
  intro F σ H R wd k
  refine w F σ H _ wd fun v H1 z y1 w1 g1 s1 r1 q => ?_
  obtain ⟨xs, rfl, q⟩ := q
  obtain ⟨a, us, rfl, h1, h2⟩ := rp_lst r1
  refine ⟨a, rfl, ⟨us, h1.sq⟩, k _ H1 xs y1 w1 g1 s1 (fun F1 σ2 y2 H2 w2 g2 i => ?_) q⟩
  have e1 := (h1.go g2).sq
  have e2 := h2.go g2
  refine ⟨fun hi => ?_, fun hi => ⟨us, e1, by rw [h2.len]; exact hi⟩, fun x hx v H3 hy => ?_⟩
  · have : i < us.length := by rw [h2.len]; exact hi
    exact ⟨us, us[i], e1, by simp [this]⟩
  · obtain ⟨rfl, hv⟩ := hy
    obtain ⟨d, hd, rd⟩ := e2.getV (hv us e1)
    rw [hx] at hd
    cases hd
    exact ⟨fun _ _ e => e, rd⟩
theorem wI_tup (w : wE C te y fun z y1 => ∃ xs, z = .d (.tuple xs) ∧ Qi xs y1) : wI C (iTup C.K te) y Qi := by
  intro F σ H R wd k
  refine w F σ H _ wd fun v H1 z y1 w1 g1 s1 r1 q => ?_
  obtain ⟨xs, rfl, q⟩ := q
  obtain ⟨a, us, rfl, h1, h2⟩ := rp_tup r1
  refine ⟨a, rfl, ⟨us, h1.sq⟩, k _ H1 xs y1 w1 g1 s1 (fun F1 σ2 y2 H2 w2 g2 i => ?_) q⟩
  have e1 := (h1.go g2).sq
  have e2 := h2.go g2
  refine ⟨fun hi => ?_, fun hi => ⟨us, e1, by rw [h2.len]; exact hi⟩, fun x hx v H3 hy => ?_⟩
  · have : i < us.length := by rw [h2.len]; exact hi
    exact ⟨us, us[i], e1, by simp [this]⟩
  · obtain ⟨rfl, hv⟩ := hy
    obtain ⟨d, hd, rd⟩ := e2.getV (hv us e1)
    rw [hx] at hd
    cases hd
    exact ⟨fun _ _ e => e, rd⟩
theorem wI_str (w : wE C te y fun z y1 => ∃ x, z = .d (.str x) ∧ Qi (signs x) y1) : wI C (iStr te) y Qi := by
  intro F σ H R wd k
  refine w F σ H _ wd fun v H1 z y1 w1 g1 s1 r1 q => ?_
  obtain ⟨x, rfl, q⟩ := q
  refine ⟨x, rp_str r1, k _ H1 (signs x) y1 w1 g1 s1 (fun F1 σ2 y2 H2 w2 g2 i => ⟨fun hi => ?_, fun hi => ?_, fun d hd v H3 hy => ?_⟩) q⟩
  · rw [signs_len] at hi; exact hi
  · rw [signs_len] at hi; exact hi
  · obtain ⟨rfl, c, hc, rfl⟩ := hy
    refine ⟨fun _ _ e => e, ?_⟩
    unfold Tq.signs at hd
    rw [List.getElem?_map, Array.getElem?_toList, hc] at hd
    cases hd
    exact .str _
theorem wI_rng1 (w : wD C ts y fun ds y1 => ∃ j : Int, ds = [.int j] ∧ -(2 ^ 62) ≤ j ∧ j < 2 ^ 62 ∧ Qi (rangeD 0 j.toNat) y1) : wI C (iRng1 ts) y Qi := by
  intro F σ H R wd k
  refine w F σ H _ wd fun vs H1 ds y1 w1 g1 s1 r1 q => ?_
  obtain ⟨j, rfl, h1, h2, q⟩ := q
  obtain ⟨v, rfl, rv⟩ := rpA1 r1
  have e := rp_int rv
  subst e
  refine ⟨j, rfl, h1, h2, k _ H1 _ y1 w1 g1 s1 (fun F1 σ2 y2 H2 w2 g2 i => ⟨fun hi => ?_, fun hi => ?_, fun d hd v H3 hy => ?_⟩) q⟩
  · rw [rangeD_len] at hi; exact hi
  · rw [rangeD_len] at hi; exact hi
  · obtain ⟨rfl, rfl⟩ := hy
    obtain ⟨_, rfl⟩ := rangeD_get hd
    exact ⟨fun _ _ e => e, .int _⟩
theorem wI_rng2 (w : wD C ts y fun ds y1 => ∃ i j : Int, ds = [.int i, .int j] ∧ (-(2 ^ 62) ≤ i ∧ i < 2 ^ 62 ∧ -(2 ^ 62) ≤ j ∧ j < 2 ^ 62) ∧ Qi (rangeD i (j - i).toNat) y1) : wI C (iRng2 ts) y Qi := by
  intro F σ H R wd k
  refine w F σ H _ wd fun vs H1 ds y1 w1 g1 s1 r1 q => ?_
  obtain ⟨i0, j, rfl, h1, q⟩ := q
  obtain ⟨v, u, rfl, rv, ru⟩ := rpA2 r1
  have e := rp_int rv
  have e' := rp_int ru
  subst e e'
  refine ⟨i0, j, rfl, h1, k _ H1 _ y1 w1 g1 s1 (fun F1 σ2 y2 H2 w2 g2 i => ⟨fun hi => ?_, fun hi => ?_, fun d hd v H3 hy => ?_⟩) q⟩
  · rw [rangeD_len] at hi; exact hi
  · rw [rangeD_len] at hi; exact hi
  · obtain ⟨rfl, rfl⟩ := hy
    obtain ⟨_, rfl⟩ := rangeD_get hd
    exact ⟨fun _ _ e => e, .int _⟩
variable {g : TG} {Qg : S → Prop}
theorem wS_for (w : wI C wi y fun xs y1 => ∃ I : Nat → S → Prop, I 0 y1 ∧ (∀ i x y2, xs[i]? = some x → I i y2 → wG C g (.d x) y2 fun y3 => wS C tx y3 { nx := I (i + 1), ct := I (i + 1), bk := e.nx, rt := e.rt }) ∧ (∀ y2, I xs.length y2 → e.nx y2)) :
    wS C (tFor wi g tx) y e := by
  intro F σ H E st wd k
  refine w F σ H _ wd fun J H1 xs y1 w1 g1 s1 hJ ⟨I, h0, hs, hd⟩ => ?_
  refine ⟨fun i m σ2 H2 => m = xs.length - i ∧ i ≤ xs.length ∧ ∃ y2, Wd C F σ2 y2 H2 ∧ Go F σ y1 H1 σ2 y2 H2 ∧ I i y2, ⟨xs.length, by simp, Nat.zero_le _, y1, w1, GoH.refl, h0⟩, ?_⟩
  rintro i m σ2 H2 ⟨rfl, hi, y2, w2, g2, hI⟩
  obtain ⟨j1, j2, j3⟩ := hJ F σ2 y2 H2 w2.toWd0 g2 i
  by_cases hlt : i < xs.length
  · refine .inr ⟨j1 hlt, fun σ3 H3 => ∃ y3, Wd C F σ3 y3 H3 ∧ Go F σ y1 H1 σ3 y3 H3 ∧ I (i + 1) y3, fun σ3 H3 ⟨y3, w3, g3, h3⟩ => ⟨xs.length - (i + 1), by omega, rfl, hlt, y3, w3, g3, h3⟩, fun v H3 hy => ?_⟩
    have ex : xs[i]? = some xs[i] := List.getElem?_eq_getElem hlt
    obtain ⟨gr, rv⟩ := j3 _ ex v H3 hy
    have w3 := w2.grow gr
    have g3 := g2.trans (go_grow (F := F) (σ := σ2) (y := y2) gr)
    refine hs i _ y2 ex hI F σ2 H3 v _ w3 rv fun σ4 y4 w4 g4 q4 => ?_
    refine q4 F σ4 H3 _ st w4 ⟨fun σ5 H5 y5 w5 g5 q5 => ⟨y5, w5, (g3.trans g4).trans g5, q5⟩, fun σ5 v5 H5 z5 y5 w5 g5 r5 q5 => k.rt σ5 v5 H5 z5 y5 w5 (((g1.trans g3).trans g4).trans g5) r5 q5,
      fun σ5 H5 y5 w5 g5 q5 => k.nx σ5 H5 y5 w5 (((g1.trans g3).trans g4).trans g5) q5, fun σ5 H5 y5 w5 g5 q5 => ⟨y5, w5, (g3.trans g4).trans g5, q5⟩⟩
  · have ei : i = xs.length := by omega
    subst ei
    exact .inl ⟨j2 (Nat.le_refl _), k.nx σ2 H2 y2 w2 (g1.trans g2) (hd y2 hI)⟩
end
end Ux

set_option maxRecDepth 100000
set_option maxHeartbeats 2000000
namespace Ux
open PySem PySem.Spec PyProof.Rows L2 Tq
theorem dom_ao {m m' : List Cl} (h : ao m = ao m') (a : Addr) : Dom m a ↔ Dom m' a := by
  have key : ∀ n : List Cl, Dom n a ↔ a ∈ (ao n).map (·.1) := fun n => by
    unfold Dom ao
    rw [List.map_map, List.mem_map]
    exact ⟨fun ⟨e, h1, h2⟩ => ⟨e, h1, h2⟩, fun ⟨e, h1, h2⟩ => ⟨e, h1, h2⟩⟩
  rw [key, key, h]
theorem own_ao {m m' : List Cl} (h : ao m = ao m') {e : Cl} (he : e ∈ m) : ∃ e' ∈ m', e'.a = e.a ∧ e'.own = e.own ∧ e'.c.isRo = e.c.isRo := by
  have : (e.a, e.own, e.c.isRo) ∈ ao m' := by rw [← h]; exact List.mem_map.mpr ⟨e, he, rfl⟩
  obtain ⟨e', h1, h2⟩ := List.mem_map.mp this
  exact ⟨e', h1, congrArg Prod.fst h2, congrArg (fun x => x.2.1) h2, congrArg (fun x => x.2.2) h2⟩
theorem domW_ao {m m' : List Cl} (h : ao m = ao m') (a : Addr) : DomW m a → DomW m' a := fun ⟨e, h1, h2, h3⟩ => by
  obtain ⟨e', q1, q2, _, q3⟩ := own_ao h h1
  exact ⟨e', q1, q2.trans h2, q3.trans h3⟩
theorem DomW.dom {m : List Cl} {a : Addr} (h : DomW m a) : Dom m a := let ⟨e, h1, h2, _⟩ := h; ⟨e, h1, h2⟩
section
variable {K : Fg} {F : Fr} {σ : St} {y y' u : S} {H H' : Hp} {l : Addr}
/-- a frame within, at the heap as it stands; l is apart -/
def sub (F : Fr) (σ : St) (u : S) (H : Hp) (l : Addr) : Fr := ⟨H, DomW u.m, fun a => Mv F σ u a ∨ a = l, false⟩
theorem sub_mv {a : Addr} {H0 : Hp} {τ : St} (s : ao y.m = ao u.m) : Mv (sub F σ u H0 l) τ y a ↔ (Mv F σ u a ∨ a = l) := by
  constructor
  · rintro (z | z)
    · exact z
    · exact .inl (.inr ((dom_ao s a).mp z))
  · exact .inl
theorem mv_ao {a : Addr} {τ : St} (s : ao y.m = ao u.m) : Mv F τ y a ↔ Mv F σ u a := by
  unfold Mv
  rw [dom_ao s a]
/-- into the frame within -/
theorem Wd0.into (w : Wd0 K F σ u H) {o : HO} (h : H l = none) : Wd0 K (sub F σ u (upd H l o) l) σ u (upd H l o) := by
  have nl : ¬ Mv F σ u l := w.new h
  have g : GoH (Mv F σ u) H (Mv (sub F σ u (upd H l o) l) σ u) (upd H l o) := fun a v n e => by
    have ne : a ≠ l := ne_of_none e h
    exact ⟨fun z => ((sub_mv rfl).mp z).elim n ne, by rw [upd_ne ne]; exact e⟩
  have lv : ∀ a, (Mv F σ u a ∨ a = l) → upd H l o a ≠ none := by
    rintro a (z | z) e
    · by_cases ha : a = l
      · exact nl (ha ▸ z)
      · rw [upd_ne ha] at e
        exact w.new e z
    · rw [z, upd_same] at e; cases e
  refine ⟨fun a v _ e => e, lv, lv, w.len, fun i z e => ?_, fun e he => (w.cell e he).go g fun o q => grow_upd h _ _ q, w.dist, fun e he hr => .inl ⟨e, he, rfl, hr⟩, fun a z => .inl (.inr z.dom), fun q => nomatch q⟩
  obtain ⟨x, h1, h2⟩ := w.slot i z e
  exact ⟨x, h1, h2.go g⟩
/-- rebased at another heap, in which only l and new things are otherwise -/
theorem Wd0.reb {H0 : Hp} {τ : St} (w : Wd0 K (sub F σ u H0 l) τ y H) (s : ao y.m = ao u.m) (kp : ∀ a o, a ≠ l → H a = some o → H' a = some o) (hl : H' l ≠ none) (nl : ¬ Dom u.m l) : Wd0 K (sub F σ u H' l) τ y H' ∧ GoH (Mv (sub F σ u H0 l) τ y) H (Mv (sub F σ u H' l) τ y) H' := by
  have g : GoH (Mv (sub F σ u H0 l) τ y) H (Mv (sub F σ u H' l) τ y) H' := fun a v n e => by
    have ne : a ≠ l := fun z => n ((sub_mv s).mpr (.inr z))
    exact ⟨fun z => n ((sub_mv s).mpr ((sub_mv s).mp z)), kp a v ne e⟩
  have lv : ∀ a, (Mv F σ u a ∨ a = l) → H' a ≠ none := fun a z e => by
    by_cases ha : a = l
    · rw [ha] at e; exact hl e
    · cases q : H a with
      | none => exact w.live a z q
      | some o => rw [kp a o ha q] at e; cases e
  refine ⟨⟨fun a v _ e => e, lv, lv, w.len, fun i z e => ?_, fun e he => (w.cell e he).go g fun o q => kp _ _ (fun z => nl ?_) q, w.dist, fun e he hr => .inl (domW_ao s _ ⟨e, he, rfl, hr⟩), fun a z => .inl (.inr z.dom), fun q => nomatch q⟩, g⟩
  · obtain ⟨x, h1, h2⟩ := w.slot i z e
    exact ⟨x, h1, h2.go g⟩
  · exact z ▸ (dom_ao s e.a).mp ⟨e, he, rfl⟩
theorem Wd0.outOf {H0 H2 : Hp} (w : Wd0 K F σ u H) (h : H l = none) (w2 : Wd0 K (sub F σ u H0 l) σ y H2) (s : ao y.m = ao u.m) (kp : ∀ a o, ¬ DomW u.m a → H a = some o → H2 a = some o) :
    Wd0 K F σ y H2 ∧ Go F σ u H σ y H2 ∧ ¬ Mv F σ y l ∧ GoH (Mv (sub F σ u H0 l) σ y) H2 (Mv F σ y) H2 ∧ GoH (Mv F σ u) H (Mv (sub F σ u H0 l) σ y) H2 := by
  have nl : ¬ Mv F σ u l := w.new h
  have gd : GoH (Mv (sub F σ u H0 l) σ y) H2 (Mv F σ y) H2 := fun a v n e => ⟨fun z => n ((sub_mv s).mpr (.inl ((mv_ao s).mp z))), e⟩
  refine ⟨⟨fun a v n e => kp a v (fun z => ?_) (w.keep a v n e), w.live0, fun a m => w2.live a (.inl (.inl m)), w2.len, fun i z e => ?_, fun e he => (w2.cell e he).go gd fun _ q => q, w2.dist, fun e he hr => ?_, w.sm, fun st e he ho => ?_⟩,
    fun a v n e => ⟨fun z => n ((mv_ao s).mp z), kp a v (fun z => n (.inr z.dom)) e⟩, fun z => nl ((mv_ao s).mp z), gd, fun a v n e => ⟨fun z => ((sub_mv s).mp z).elim n (ne_of_none e h), kp a v (fun z => n (.inr z.dom)) e⟩⟩
  · obtain ⟨e0, h1, rfl, hr⟩ := z
    rcases w.frsh e0 h1 hr with q | q
    · exact n q
    · rw [q] at e; cases e
  · obtain ⟨x, h1, h2⟩ := w2.slot i z e
    exact ⟨x, h1, h2.go gd⟩
  · obtain ⟨e', h1, h2, _, h4⟩ := own_ao s he
    rw [← h2]; exact w.frsh e' h1 (h4.trans hr)
  · obtain ⟨e', h1, h2, h3, _⟩ := own_ao s he
    rw [← h2]; exact w.nb st e' h1 (h3.trans ho)
end
/-- exceptions are none of our business here -/
@[reducible] def Ct.q (C : Ct) : Ct := { C with ex := fun _ _ => False }
theorem Wd0.q {C : Ct} {F : Fr} {σ : St} {y : S} {H : Hp} (w : Wd0 C.K F σ y H) : Wd C.q F σ y H := ⟨w, fun _ _ _ _ _ _ _ _ _ z => z.elim⟩
section
variable {C : Ct} {y : S} {te : TE} {tt : TT} {wi : TI} {Q : Z → S → Prop}
theorem slot_unset {K : Fg} {F : Fr} {σ : St} {l : List (Option Z)} {m : List Cl} {H : Hp} {j : Nat} {v : V} {z : Option Z} (w : Wd0 K F (σ.set j (some v)) ⟨l.set j z, m⟩ H) (hl : l.length = σ.length)
    (hj : ∀ x, l[j]? = some (some x) → ∃ u, σ[j]? = some (some u) ∧ Rw K (Mv F σ ⟨l, m⟩) H u x) : Wd0 K F σ ⟨l, m⟩ H := by
  refine ⟨w.keep, w.live0, w.live, hl.symm, fun i x e => ?_, w.cell, w.dist, w.frsh, w.sm, w.nb⟩
  by_cases n : i = j
  · rw [n] at e ⊢; exact hj x e
  · obtain ⟨u, h1, h2⟩ := w.slot i x (by show (l.set j z)[i]? = _; rw [List.getElem?_set_ne (Ne.symm n)]; exact e)
    rw [List.getElem?_set_ne (Ne.symm n)] at h1
    exact ⟨u, h1, h2⟩
/-- [e for x in .. if ..] -/
theorem wE_lc {j : Nat}
    (w : wI C wi y fun xs y1 => ∃ I : Nat → List D → List Cl → Prop, xs.length ≤ sizeLine ∧ (∀ i acc m, I i acc m → ao m = ao y1.m) ∧ I 0 [] y1.m ∧
      (∀ i x acc m, xs[i]? = some x → I i acc m → wT C.q tt ⟨y1.l.set j (some (.d x)), m⟩ fun b y3 => if b = true then wE C.q te y3 fun z y4 => ∃ d, z = .d d ∧ I (i + 1) (acc ++ [d]) y4.m else I (i + 1) acc y3.m) ∧
      (∀ acc m, I xs.length acc m → acc.length ≤ xs.length → Q (.d (.list acc)) ⟨y1.l, m⟩)) :
    wE C (tLc wi (gName j) tt te [j]) y Q := by
  intro F σ H K wd k
  refine w F σ H _ wd fun J H1 xs y1 w1 g1 s1 hJ ⟨I, hz, ha, h0, hs, hd⟩ => ?_
  intro l hl
  have wz : wipe σ [j] = σ.set j none := rfl
  obtain ⟨ul, um⟩ := y1
  have wi1 := w1.toWd0.into (l := l) (o := .lst []) hl
  have nOl : ¬ Dom um l := fun z => w1.new hl (.inr z)
  refine ⟨fun i n H2 => n = xs.length - i ∧ i ≤ xs.length ∧ ∃ m acc vs, Wd0 C.K (sub F σ ⟨ul, um⟩ H2 l) σ ⟨ul, m⟩ H2 ∧ (∀ a o, ¬ DomW um a → H1 a = some o → H2 a = some o) ∧ I i acc m ∧ H2 l = some (.lst vs) ∧ RpA C.K (Mv (sub F σ ⟨ul, um⟩ H2 l) σ ⟨ul, m⟩) H2 vs acc ∧ acc.length ≤ i,
    ⟨xs.length, by simp, Nat.zero_le _, um, [], [], wi1, fun a o _ e => grow_upd hl a o e, h0, upd_same, .nil, Nat.zero_le _⟩, ?_⟩
  rintro i n H2 ⟨rfl, hi, m, acc, vs, w2, kp2, hI, hl2, rv2, ha2⟩
  have am : ao m = ao um := ha i acc m hI
  obtain ⟨o1, o2, o3, o4, o5⟩ := w1.toWd0.outOf hl w2 am kp2
  obtain ⟨j1, j2, j3⟩ := hJ (sub F σ ⟨ul, um⟩ H2 l) σ ⟨ul, m⟩ H2 w2 o5 i
  by_cases hlt : i < xs.length
  · refine .inr ⟨j1 hlt, fun H3 => ∃ m acc vs, Wd0 C.K (sub F σ ⟨ul, um⟩ H3 l) σ ⟨ul, m⟩ H3 ∧ (∀ a o, ¬ DomW um a → H1 a = some o → H3 a = some o) ∧ I (i + 1) acc m ∧ H3 l = some (.lst vs) ∧ RpA C.K (Mv (sub F σ ⟨ul, um⟩ H3 l) σ ⟨ul, m⟩) H3 vs acc ∧ acc.length ≤ i + 1,
      fun H3 h => ⟨xs.length - (i + 1), by omega, rfl, hlt, h⟩, fun v H3 hy => ?_⟩
    have ex : xs[i]? = some xs[i] := List.getElem?_eq_getElem hlt
    obtain ⟨gr, rv⟩ := j3 _ ex v H3 hy
    obtain ⟨w3, gx⟩ := w2.reb am (H' := H3) (fun a o _ e => gr a o e) (by rw [gr l _ hl2]; simp) nOl
    have gy : GoH (Mv (sub F σ ⟨ul, um⟩ H2 l) σ ⟨ul, m⟩) H3 (Mv (sub F σ ⟨ul, um⟩ H3 l) σ ⟨ul, m⟩) H3 := fun a o n e => ⟨fun z => n ((sub_mv am).mpr ((sub_mv am).mp z)), e⟩
    have w4 : Wd0 C.K (sub F σ ⟨ul, um⟩ H3 l) (σ.set j (some v)) ⟨ul.set j (some (.d xs[i])), m⟩ H3 := w3.set_z (.d (rv.go gy))
    have eσ : (wipe σ [j]).set j (some v) = σ.set j (some v) := by rw [wz, List.set_set]
    show wipe ((wipe σ [j]).set j (some v)) [j] = wipe σ [j] ∧ tt ((wipe σ [j]).set j (some v)) H3 _
    rw [eσ]
    refine ⟨by show (σ.set j (some v)).set j none = σ.set j none; rw [List.set_set], ?_⟩
    have back : ∀ {m5 : List Cl} {l5 : List (Option Z)} {HH : Hp}, Wd0 C.K (sub F σ ⟨ul, um⟩ H3 l) (σ.set j (some v)) ⟨l5, m5⟩ HH → l5 = ul.set j (some (.d xs[i])) → ao m5 = ao um →
        GoH (Mv (sub F σ ⟨ul, um⟩ H3 l) σ ⟨ul, m⟩) H3 (Mv (sub F σ ⟨ul, um⟩ H3 l) σ ⟨l5, m5⟩) HH →
        Wd0 C.K (sub F σ ⟨ul, um⟩ H3 l) σ ⟨ul, m5⟩ HH ∧ (∀ a o, ¬ DomW um a → H1 a = some o → HH a = some o) ∧ HH l = some (.lst vs) := by
      intro m5 l5 HH ww e5 a5 gg
      subst e5
      refine ⟨slot_unset ww w3.len.symm fun x e => ?_, fun a o na e => ww.keep a o na (gr a o (kp2 a o na e)), ww.keep l _ (fun z => nOl z.dom) (gr l _ hl2)⟩
      obtain ⟨u, q1, q2⟩ := w3.slot j x e
      exact ⟨u, q1, q2.go gg⟩
    refine hs i _ acc m ex hI (sub F σ ⟨ul, um⟩ H3 l) _ H3 _ w4.q fun b H5 y5 w5 g5 s5 q5 => ?_
    obtain ⟨l5, m5⟩ := y5
    cases b with
    | false =>
      have a5 : ao m5 = ao um := ha _ _ _ q5
      have gA : GoH (Mv (sub F σ ⟨ul, um⟩ H3 l) σ ⟨ul, m⟩) H3 (Mv (sub F σ ⟨ul, um⟩ H3 l) σ ⟨l5, m5⟩) H5 := g5
      obtain ⟨b1, b4, b5⟩ := back w5.toWd0 s5.1 a5 gA
      obtain ⟨b6, gz⟩ := b1.reb a5 (H' := H5) (fun a o _ e => e) (by rw [b5]; simp) nOl
      exact ⟨m5, acc, vs, b6, b4, q5, b5, rv2.go ((gx.trans gA).trans gz), by omega⟩
    | true =>
      refine q5 (sub F σ ⟨ul, um⟩ H3 l) _ H5 _ w5 fun x6 H6 z6 y6 w6 g6 s6 r6 q6 => ?_
      obtain ⟨d, rfl, q6⟩ := q6
      obtain ⟨l6, m6⟩ := y6
      have a6 : ao m6 = ao um := ha _ _ _ q6
      have gA : GoH (Mv (sub F σ ⟨ul, um⟩ H3 l) σ ⟨ul, m⟩) H3 (Mv (sub F σ ⟨ul, um⟩ H3 l) σ ⟨l6, m6⟩) H6 := g5.trans g6
      obtain ⟨b1, b4, b5⟩ := back w6.toWd0 (s6.1.trans s5.1) a6 gA
      have hlen : vs.length = acc.length := rv2.len
      obtain ⟨b6, gz⟩ := b1.reb a6 (H' := upd H6 l (.lst (vs ++ [x6]))) (fun a o n e => by rw [upd_ne n]; exact e) (by rw [upd_same]; simp) nOl
      refine ⟨vs, b5, by omega, m6, acc ++ [d], vs ++ [x6], b6, fun a o na e => ?_, q6, upd_same, ?_, by rw [List.length_append]; simp; omega⟩
      · rw [upd_ne (ne_of_none e hl)]
        exact b4 a o na e
      · exact (rv2.go ((gx.trans gA).trans gz)).app (.cons (Rp.go gz r6) .nil)
  · have ei : i = xs.length := by omega
    subst ei
    refine .inl ⟨j2 (Nat.le_refl _), ?_⟩
    exact k _ H2 (.d (.list acc)) ⟨ul, m⟩ (w1.to o1 o2) (g1.trans o2) (s1.trans ⟨rfl, [], by rw [show ao ([] : List Cl) = [] from rfl, List.append_nil]; exact am⟩) (.lst (.inl ⟨o3, .inl hl2⟩) (rv2.go o4)) (hd acc m hI ha2)
/-- a comprehension whose turns change nothing -/
theorem wE_lcF {j : Nat} {y' : S} (p : D → Bool) (f : D → D)
    (w : wI C wi y fun xs y1 => y1 = y' ∧ xs.length ≤ sizeLine ∧ (∀ x ∈ xs, wT C.q tt (y'.set j (some (.d x))) fun b y3 => y3 = y'.set j (some (.d x)) ∧ b = p x ∧ (p x = true → wE C.q te y3 fun z y4 => z = .d (f x) ∧ y4 = y'.set j (some (.d x)))) ∧ Q (.d (.list ((xs.filter p).map f))) y') :
    wE C (tLc wi (gName j) tt te [j]) y Q := by
  refine wE_lc (fun F σ H R wd k => w F σ H R wd fun J H1 xs y1 w1 g1 s1 hJ ⟨e, hz, hs, hq⟩ => k J H1 xs y1 w1 g1 s1 hJ ?_)
  subst e
  refine ⟨fun i acc m => m = y1.m ∧ acc = ((xs.take i).filter p).map f, hz, fun i acc m h => by rw [h.1], ⟨rfl, rfl⟩, fun i x acc m hx ⟨e1, e2⟩ => ?_, fun acc m ⟨e1, e2⟩ _ => ?_⟩
  · subst e1 e2
    have hm : x ∈ xs := List.mem_of_getElem? hx
    have ht : xs.take (i + 1) = xs.take i ++ [x] := by rw [List.take_add_one, hx]; rfl
    refine wT_mono (hs x hm) fun b y3 ⟨e3, eb, h3⟩ => ?_
    subst eb e3
    cases hpx : p x with
    | true =>
      show wE C.q te _ _
      refine wE_mono (h3 hpx) fun z y4 ⟨ez, ey⟩ => ⟨f x, ez, ?_, ?_⟩
      · rw [ey]; rfl
      · rw [ht, List.filter_append, List.map_append, List.filter_cons, if_pos hpx]
        rfl
    | false =>
      refine ⟨rfl, ?_⟩
      rw [ht, List.filter_append, List.filter_cons, if_neg (by rw [hpx]; simp), List.filter_nil, List.append_nil]
  · subst e1 e2
    rw [List.take_length]
    exact hq
end
end Ux

set_option maxRecDepth 100000
set_option maxHeartbeats 2000000
namespace Ux
open PySem PySem.Spec PyProof.Rows L2 Tq
/-! ### the store changes -/
section
variable {C : Ct} {F : Fr} {σ : St} {y y' : S} {H H' : Hp}
theorem Wd.store (w : Wd C F σ y H) {m : List Cl} (kp : ∀ a o, ¬ DomW y.m a → H a = some o → H' a = some o) (lv : ∀ a, Dom y.m a → H' a ≠ none)
    (src : ∀ e ∈ m, (∃ e0 ∈ y.m, e0.a = e.a ∧ (e.own = true → e0.own = true) ∧ (e.c.isRo = false → e0.c.isRo = false)) ∨ H e.a = none) (ds : m.Pairwise fun e e' => e.a ≠ e'.a)
    (ok : GoH (Mv F σ y) H (Mv F σ ⟨y.l, m⟩) H' → ∀ e ∈ m, CellOk C.K (Mv F σ ⟨y.l, m⟩) H' e.a e.c) : Wd C F σ ⟨y.l, m⟩ H' ∧ Go F σ y H σ ⟨y.l, m⟩ H' := by
  have g : Go F σ y H σ ⟨y.l, m⟩ H' := fun a o n e => by
    refine ⟨?_, kp a o (fun z => n (.inr z.dom)) e⟩
    rintro (z | ⟨e', h1, rfl⟩)
    · exact n (.inl z)
    · rcases src e' h1 with ⟨e0, q1, q2, _⟩ | q
      · exact n (.inr ⟨e0, q1, q2⟩)
      · rw [q] at e; cases e
  refine ⟨w.to ⟨fun a o n e => kp a o (fun ⟨e0, h1, h2, hr⟩ => ?_) (w.keep a o n e), w.live0, fun a m0 e => ?_, w.len, fun i z e => ?_, ok g, ds, fun e he hr => ?_, w.sm, fun st e he ho hs => ?_⟩ g, g⟩
  · subst h2
    rcases w.frsh e0 h1 hr with q | q
    · exact n q
    · rw [q] at e; cases e
  · by_cases hd : Dom y.m a
    · exact lv a hd e
    · cases q : H a with
      | none => exact w.live a m0 q
      | some o => rw [kp a o (fun z => hd z.dom) q] at e; cases e
  · obtain ⟨x, h1, h2⟩ := w.slot i z e
    exact ⟨x, h1, h2.go g⟩
  · rcases src e he with ⟨e0, q1, q2, _, q4⟩ | q
    · rw [← q2]; exact w.frsh e0 q1 (q4 hr)
    · exact .inr (w.newH0 q)
  · rcases src e he with ⟨e0, q1, q2, q3, _⟩ | q
    · exact w.nb st e0 q1 (q3 ho) (q2 ▸ hs)
    · exact w.live _ (w.sm _ hs) q
theorem pw_snoc {m : List Cl} {e : Cl} (h : m.Pairwise fun e e' => e.a ≠ e'.a) (n : ¬ Dom m e.a) : (m ++ [e]).Pairwise fun e e' => e.a ≠ e'.a := by
  rw [List.pairwise_append]
  refine ⟨h, List.pairwise_singleton _ _, fun a ha b hb => ?_⟩
  rw [List.mem_singleton] at hb
  subst hb
  exact fun z => n ⟨a, ha, z⟩
theorem pw_set {m : List Cl} {j : Nat} {e e' : Cl} (h : m.Pairwise fun e e' => e.a ≠ e'.a) (hj : m[j]? = some e) (ea : e'.a = e.a) : (m.set j e').Pairwise fun e e' => e.a ≠ e'.a := by
  have key : (m.set j e').map (·.a) = m.map (·.a) := by
    rw [List.map_set, ea]
    apply List.ext_getElem?
    intro i
    by_cases n : i = j
    · subst n
      obtain ⟨hl, hv⟩ := List.getElem?_eq_some_iff.mp hj
      rw [List.getElem?_set_self (by simpa using hl), List.getElem?_map, hj]
      rfl
    · rw [List.getElem?_set_ne (Ne.symm n)]
  have p1 : ∀ l : List Cl, (l.Pairwise fun e e' => e.a ≠ e'.a) ↔ (l.map (·.a)).Pairwise (· ≠ ·) := fun l => by rw [List.pairwise_map]
  rw [p1, key, ← p1]
  exact h
/-- a new thing of our own -/
theorem Wd.cnew (w : Wd C F σ y H) {p : Addr} {o : HO} {c : Cell} {b : Bool} (hn : H p = none) (ok : ∀ M, GoH (Mv F σ y) H M (upd H p o) → CellOk C.K M (upd H p o) p c) :
    Wd C F σ ⟨y.l, y.m ++ [⟨p, b, c⟩]⟩ (upd H p o) ∧ Go F σ y H σ ⟨y.l, y.m ++ [⟨p, b, c⟩]⟩ (upd H p o) ∧ Sh y ⟨y.l, y.m ++ [⟨p, b, c⟩]⟩ := by
  have nd : ¬ Dom y.m p := fun z => w.new hn (.inr z)
  suffices key : Wd C F σ ⟨y.l, y.m ++ [⟨p, b, c⟩]⟩ (upd H p o) ∧ Go F σ y H σ ⟨y.l, y.m ++ [⟨p, b, c⟩]⟩ (upd H p o) from ⟨key.1, key.2, rfl, [⟨p, b, c⟩], by simp [ao]⟩
  refine w.store (fun a v n e => grow_upd hn a v e) (fun a hd z => ?_) (fun e he => ?_) (pw_snoc w.dist nd) (fun g e he => ?_)
  · obtain ⟨e, h1, h2⟩ := hd
    subst h2
    rw [upd_ne (fun q => nd ⟨e, h1, q⟩)] at z
    exact (w.cell e h1).live z
  · rcases List.mem_append.mp he with he | he
    · exact .inl ⟨e, he, rfl, fun z => z, fun z => z⟩
    · rw [List.mem_singleton] at he; subst he; exact .inr hn
  · rcases List.mem_append.mp he with he | he
    · exact (w.cell e he).go g fun o q => grow_upd hn _ _ q
    · rw [List.mem_singleton] at he; subst he; exact ok _ g
theorem mem_set_or {α : Type} {l : List α} {j : Nat} {x e : α} (h : e ∈ l.set j x) : e = x ∨ e ∈ l := by
  rcases List.mem_or_eq_of_mem_set h with h | h
  · exact .inr h
  · exact .inl h
/-- a thing of the store has changed, and no other -/
theorem Wd.cmut (w : Wd C F σ y H) {j : Nat} {p : Addr} {b : Bool} {c c' : Cell} (hj : y.m[j]? = some ⟨p, b, c⟩) (hr : c.isRo = false) (hr' : c'.isRo = false) (kp : ∀ a o, a ≠ p → H a = some o → H' a = some o) (ok : ∀ M, (∀ a, M a → Mv F σ y a) → GoH (Mv F σ y) H M H' → CellOk C.K M H' p c') :
    Wd C F σ ⟨y.l, y.m.set j ⟨p, b, c'⟩⟩ H' ∧ Go F σ y H σ ⟨y.l, y.m.set j ⟨p, b, c'⟩⟩ H' ∧ Sh y ⟨y.l, y.m.set j ⟨p, b, c'⟩⟩ := by
  have hm : (⟨p, b, c⟩ : Cl) ∈ y.m := List.mem_of_getElem? hj
  have hl' : H' p ≠ none := by
    have g0 : GoH (Mv F σ y) H (Mv F σ y) H' := fun a o n e => ⟨n, kp a o (fun z => n (.inr ⟨_, hm, z.symm⟩)) e⟩
    exact (ok _ (fun _ q => q) g0).live
  suffices key : Wd C F σ ⟨y.l, y.m.set j ⟨p, b, c'⟩⟩ H' ∧ Go F σ y H σ ⟨y.l, y.m.set j ⟨p, b, c'⟩⟩ H' by
    refine ⟨key.1, key.2, rfl, [], ?_⟩
    show ao (y.m.set j ⟨p, b, c'⟩) = ao y.m ++ []
    rw [List.append_nil]
    unfold ao
    apply List.ext_getElem?
    intro i
    by_cases n : i = j
    · subst n
      obtain ⟨hl, _⟩ := List.getElem?_eq_some_iff.mp hj
      rw [List.getElem?_map, List.getElem?_map, List.getElem?_set_self hl, hj]
      show some (p, b, c'.isRo) = some (p, b, c.isRo)
      rw [hr, hr']
    · rw [List.getElem?_map, List.getElem?_map, List.getElem?_set_ne (Ne.symm n)]
  refine w.store (fun a v n e => kp a v (fun z => n ⟨_, hm, z.symm, hr⟩) e) (fun a hd z => ?_) (fun e he => ?_) (pw_set w.dist hj rfl) (fun g e he => ?_)
  · obtain ⟨e, h1, h2⟩ := hd
    subst h2
    by_cases q : e.a = p
    · exact hl' (q ▸ z)
    · cases r : H e.a with
      | none => exact (w.cell e h1).live r
      | some o => rw [kp _ o q r] at z; cases z
  · rcases mem_set_or he with he | he
    · subst he; exact .inl ⟨_, hm, rfl, fun z => z, fun _ => hr⟩
    · exact .inl ⟨e, he, rfl, fun z => z, fun z => z⟩
  · by_cases q : e.a = p
    · have : e = ⟨p, b, c'⟩ := by
        obtain ⟨i, hi⟩ := List.getElem?_of_mem he
        have pw := pw_set w.dist hj (e' := ⟨p, b, c'⟩) rfl
        obtain ⟨hl, _⟩ := List.getElem?_eq_some_iff.mp hj
        have hjj : (y.m.set j ⟨p, b, c'⟩)[j]? = some ⟨p, b, c'⟩ := List.getElem?_set_self hl
        by_cases n : i = j
        · subst n; rw [hjj] at hi; cases hi; rfl
        · exfalso
          rw [List.pairwise_iff_getElem] at pw
          obtain ⟨hi1, hi2⟩ := List.getElem?_eq_some_iff.mp hi
          obtain ⟨hj1, hj2⟩ := List.getElem?_eq_some_iff.mp hjj
          rcases Nat.lt_or_gt_of_ne n with n | n
          · have := pw i j hi1 hj1 n; rw [hi2, hj2] at this; exact this q
          · have := pw j i hj1 hi1 n; rw [hi2, hj2] at this; exact this q.symm
      subst this
      refine ok _ (fun a z => z.elim .inl fun ⟨e0, q1, q2⟩ => .inr ?_) g
      rcases mem_set_or q1 with q1 | q1
      · subst q1; exact ⟨_, hm, q2⟩
      · exact ⟨e0, q1, q2⟩
    · rcases mem_set_or he with he | he
      · subst he; exact absurd rfl q
      · exact (w.cell e he).go g fun o r => kp _ _ q r
/-- things of the store are let go -/
theorem Wd.csub (w : Wd C F σ y H) {m : List Cl} (h : m.Sublist y.m) : Wd C F σ ⟨y.l, m⟩ H ∧ Go F σ y H σ ⟨y.l, m⟩ H := by
  refine w.store (fun a o _ e => e) (fun a ⟨e, h1, h2⟩ => h2 ▸ (w.cell e h1).live) (fun e he => .inl ⟨e, h.subset he, rfl, fun z => z, fun z => z⟩) (w.dist.sublist h) fun g e he => (w.cell e (h.subset he)).go g fun _ q => q
end
/-! ### new lists, append -/
section
variable {C : Ct} {y : S} {te : TE} {ts : TA} {tx : TS} {e : En} {Q : Z → S → Prop}
/-- [..], a thing of our own -/
theorem wE_lstL (w : wZ C ts y fun zs y1 => zs.length ≤ sizeLine ∧ ∀ p, Q (.lab p) ⟨y1.l, y1.m ++ [⟨p, true, .lst zs⟩]⟩) : wE C (tLst ts) y Q := by
  intro F σ H K wd k
  refine w F σ H _ wd fun vs H1 zs y1 w1 g1 s1 r1 ⟨hz, q⟩ => ⟨by rw [r1.len]; exact hz, fun p hn => ?_⟩
  obtain ⟨w2, g2, s2⟩ := w1.cnew (o := .lst vs) (c := .lst zs) (b := true) hn fun M g => ⟨vs, upd_same, r1.go g⟩
  exact k _ _ (.lab p) _ w2 (g1.trans g2) (s1.trans s2) (.lab p) (q p)
theorem wE_dnewL (q : ∀ p, Q (.lab p) ⟨y.l, y.m ++ [⟨p, true, .dic []⟩]⟩) : wE C tDNewK y Q := by
  intro F σ H K wd k p hp
  obtain ⟨w2, g2, s2⟩ := wd.cnew (o := .dK []) (c := .dic []) (b := true) hp fun M g => ⟨[], upd_same, .nil⟩
  exact k _ _ (.lab p) _ w2 g2 s2 (.lab p) (q p)
theorem wE_dispL {kk : Key} {v : V} {d : D} (s : Sc v d) (q : ∀ p, Q (.lab p) ⟨y.l, y.m ++ [⟨p, true, .dic [(kk, .d d)]⟩]⟩) : wE C (tDisp [(tC (kV kk), tC v)]) y Q := by
  intro F σ H K wd k p hp
  refine ⟨upd_same, [(kk, v)], rfl, by simp, ?_⟩
  rw [upd_upd]
  obtain ⟨w2, g2, s2⟩ := wd.cnew (o := .dK (mergeK [] [(kk, v)])) (c := .dic [(kk, .d d)]) (b := true) hp fun M g => ⟨[(kk, v)], by rw [upd_same]; rfl, .cons (.d s.rp) .nil⟩
  exact k _ _ (.lab p) _ w2 g2 s2 (.lab p) (q p)
/-- x.append(e) -/
theorem wS_app {i j : Nat} {a : Addr} {b : Bool} {zs0 : List Z} (hi : y.l[i]? = some (some (.lab a))) (hj : y.m[j]? = some ⟨a, b, .lst zs0⟩) (w : wE C te y fun z y1 => ∃ zs, y1.m[j]? = some ⟨a, b, .lst zs⟩ ∧ zs.length < sizeLine ∧ e.nx ⟨y1.l, y1.m.set j ⟨a, b, .lst (zs ++ [z])⟩⟩) :
    wS C (tDrop (tBM C.K "list" rAppend (tVar i) (tCons te tNil))) y e := by
  intro F σ H E st wd k
  obtain ⟨x, h1, h2⟩ := wd.slot i _ hi
  cases h2
  obtain ⟨xs, c1, c2⟩ := (wd.cell _ (List.mem_of_getElem? hj) : CellOk C.K (Mv F σ y) H a (.lst zs0))
  refine ⟨.ref a, h1, Or.inl ⟨rfl, xs, .inl (.inl c1)⟩, w F σ H _ wd fun v H1 z y1 w1 g1 s1 r1 q => ?_⟩
  obtain ⟨zs, hj1, hz, q⟩ := q
  obtain ⟨us, e2, e3⟩ := (w1.cell _ (List.mem_of_getElem? hj1) : CellOk C.K (Mv F σ y1) H1 a (.lst zs))
  refine ⟨a, us, v, rfl, rfl, e2, by rw [e3.len]; exact hz, ?_⟩
  obtain ⟨w2, g2, s2⟩ := w1.cmut (H' := upd H1 a (.lst (us ++ [v]))) (c' := .lst (zs ++ [z])) hj1 rfl rfl (fun b o n e => by rw [upd_ne n]; exact e) fun M _ g => ⟨us ++ [v], upd_same, (e3.go g).app (.cons (r1.w.go g) .nil)⟩
  exact k.nx _ _ _ w2 (g1.trans g2) q
end
/-! ### a list of our own is a list like others from here on -/
section
variable {C : Ct} {y : S} {tx : TS} {e : En}
end
/-! ### less is known -/
def Less (y' y : S) : Prop := y'.l.length = y.l.length ∧ (∀ (i : Nat) (z : Z), y'.l[i]? = some (some z) → y.l[i]? = some (some z)) ∧ y'.m.Sublist y.m
theorem Wd.weak {C : Ct} {F : Fr} {σ : St} {y y' : S} {H : Hp} (w : Wd C F σ y H) (h : Less y' y) : Wd C F σ y' H ∧ Go F σ y H σ y' H := by
  obtain ⟨w1, g1⟩ := w.csub h.2.2
  have g2 : Go F σ ⟨y.l, y'.m⟩ H σ y' H := fun b o n e => ⟨n, e⟩
  exact ⟨w1.to ⟨w1.keep, w1.live0, w1.live, w.len.trans h.1.symm, fun i z e => w1.slot i z (h.2.1 i z e), w1.cell, w1.dist, w1.frsh, w1.sm, w1.nb⟩ g2, g1.trans g2⟩
theorem wS_weak {C : Ct} {t : TS} {y y' : S} {e : En} (w : wS C t y' e) (h : Less y' y) : wS C t y e := by
  intro F σ H E st wd k
  obtain ⟨w1, g1⟩ := wd.weak h
  exact w F σ H E st w1 (k.go g1)
theorem wS_norm {C : Ct} {t : TS} {y y' : S} {e : En} (h : y = y') (w : wS C t y' e) : wS C t y e := h ▸ w
end Ux

set_option maxRecDepth 100000
set_option maxHeartbeats 2000000
/-! exceptions over HandS: own classes with a field found, raise, several clauses -/
namespace Ux
open PySem PySem.Spec PyProof.Rows L2
abbrev Fg := PySem.W.Frag
/-! ### T.__init__(self, ..), T an own class without own __init__, over ValueError -/
structure TxC (K : Fg) (mg : Str → Option Value) (x : Str) : Prop where
  ex : ∃ T : Addr, mg x = some (.ref T) ∧ PySem.W.readsIn K T (.type "type") = true ∧ PySem.W.specialIn K (.ref T) "__getattribute__" = some (some (.builtin "type.__getattribute__")) ∧
    PySem.W.findCls K (.ref T) (.type "type") "__init__" = some (.val (.builtin "ValueError.__init__"))
/-! ### an own class with __init__(self, found): T.__init__(self, 'text'); self.found = found -/
def spInit (K : Fg) (C : Addr) : Sp := fun vs H Q _ => ∃ (a : Addr) (v : V), vs = [.ref a, v] ∧ OexC K C ∧ PySem.W.findIn K (.ref C) "found" = some none ∧ H a = some (exo a C none) ∧ ∀ dx, H dx = none → dx ≠ a → Q .non (upd (upd H dx (exd dx [(("found" : Str), v)])) a (exo a C (some dx)))
/-- the class x, at C: its instances hold what was found -/
structure Xc (P : Program) (w : World) (K : Fg) (mg : Str → Option Value) (base : Heap) (x : Str) (C : Addr) : Prop where
  gC : mg x = some (.ref C)
  oc : OexC K C
  xf : XfC K C
  no : PySem.W.findIn K (.ref C) "found" = some none
  ini : ∃ (fI : Addr) (fd : FuncData), PySem.W.findIn K (.ref C) "__init__" = some (some (.ref fI)) ∧ PySem.W.typeIn K (.ref fI) = some (.type "function") ∧ FnOk P w K mg base CX0 1 fI fd ["self", "found"] (spInit K C) ∧ Binds K fd ["self", "found"] []
section
variable {X : Cx} {x : Str} {C : Addr} {a : Expr} {ta : TA} {p pos pos2 : Pos}
end
/-! ### several clauses, with or without a name; the last ones may never be asked -/
inductive HdN (X : Cx) : List ExceptHandler → List (Value × Option Nat × (Addr → Value → Option Addr → TS)) → Prop
  | stop {hds : List ExceptHandler} : HdN X hds []
  | cons {x : Str} {c : Value} {ts : Addr → Value → Option Addr → TS} {b₀ : Stmt} {suite : List Stmt} {np pos' : Pos} {hds : List ExceptHandler} {l : List (Value × Option Nat × (Addr → Value → Option Addr → TS))} (hc : Names X x c)
      (hsu : ∀ (a : Addr) (oe : Obj) (cls : Value) (d : Option Addr) (pn : List (Addr × Obj)), Zc cls d oe → (∃ vs, oe.data = .fields vs) → PSs (X.suite a ((a, oe) :: pn)) (b₀ :: suite) (ts a cls d)) (r : HdN X hds l) :
      HdN X (.ExceptHandler (some (.Name x np)) none (b₀ :: suite) pos' :: hds) ((c, none, ts) :: l)
  | as {x n : Str} {i : Nat} {c : Value} {ts : Addr → Value → Option Addr → TS} {b₀ : Stmt} {suite : List Stmt} {np pos' : Pos} {hds : List ExceptHandler} {l : List (Value × Option Nat × (Addr → Value → Option Addr → TS))} (hc : Names X x c)
      (hi : X.N[i]? = some n) (hln : X.env.kindOf n = some .local)
      (hsu : ∀ (a : Addr) (oe : Obj) (cls : Value) (d : Option Addr) (pn : List (Addr × Obj)), Zc cls d oe → (∃ vs, oe.data = .fields vs) → PSs (X.suite a ((a, oe) :: pn)) (b₀ :: suite) (ts a cls d)) (r : HdN X hds l) :
      HdN X (.ExceptHandler (some (.Name x np)) (some n) (b₀ :: suite) pos' :: hds) ((c, some i, ts) :: l)
section
variable {X : Cx} {body : List Stmt} {h₀ : ExceptHandler} {hds : List ExceptHandler} {l : List (Value × Option Nat × (Addr → Value → Option Addr → TS))} {pos : Pos} {tb : WX → TS}
end
/-! ### defs that may raise, the guards told -/
structure CalX (P : Program) (w : World) (K : Fg) (mg : Str → Option Value) (base : Heap) (k : Nat) (x : Str) (ps : List Str) (sp : Sp) : Prop where
  ex : ∃ (f : Addr) (fd : FuncData), Tq.FnG P w K mg base (L2.CX P w) k f fd ps sp ∧ mg x = some (.ref f) ∧ PySem.W.keepIn K (.ref f) = true ∧ Binds K fd ps []
section
variable {P : Program} {w : World} {K : Fg} {mg : Str → Option Value} {base : Heap} {k : Nat} {x : Str} {ps N : List Str} {sp : Sp} {st : Stmt}
end
end Ux

set_option maxRecDepth 100000
set_option maxHeartbeats 2000000
namespace Ux
open PySem PySem.Spec PyProof.Rows L2 Tq
/-! ### what a thing is at present -/
def kvD (kvs : List (Key × D)) : List (Key × Z) := kvs.map fun p => (p.1, .d p.2)
def dD (kvs : List (Key × D)) : D := .dict (kvs.map fun p => (kD p.1, p.2))
inductive ResC : Cell → D → Prop
  | lst (ds : List D) : ResC (.lst (ds.map Z.d)) (.list ds)
  | dic (kvs : List (Key × D)) : ResC (.dic (kvD kvs)) (dD kvs)
  | ro {c : Cell} {d : D} : ResC c d → ResC (.ro c) d
inductive Res (m : List Cl) : Z → D → Prop
  | d (d : D) : Res m (.d d) d
  | lab {e : Cl} {d : D} : e ∈ m → ResC e.c d → Res m (.lab e.a) d
inductive ResA (m : List Cl) : List Z → List D → Prop
  | nil : ResA m [] []
  | cons {z : Z} {d : D} {zs : List Z} {ds : List D} : Res m z d → ResA m zs ds → ResA m (z :: zs) (d :: ds)
theorem ResA.ds {m : List Cl} : ∀ (ds : List D), ResA m (ds.map Z.d) ds
  | [] => .nil
  | d :: ds => .cons (.d d) (ResA.ds ds)
theorem ResA.len {m : List Cl} : ∀ {zs : List Z} {ds : List D}, ResA m zs ds → zs.length = ds.length
  | _, _, .nil => rfl
  | _, _, .cons _ b => congrArg (· + 1) b.len
def MvX (F : Fr) (σ : St) (y : S) (a : Addr) : Prop := Mv F σ y a ∧ ¬ Dom y.m a
theorem rpk_of {K : Fg} {M : Addr → Prop} {H : Hp} : ∀ {ks : List (Key × V)} {kvs : List (Key × D)}, RwK K M H ks (kvD kvs) → RpK K M H ks (kvs.map fun p => (kD p.1, p.2))
  | [], [], _ => .nil
  | _ :: _, [], h => by cases h
  | [], _ :: _, h => by cases h
  | _ :: _, (k, d) :: r, h => by
    cases h with | cons a b => cases a with | d a => exact .cons a (rpk_of b)
theorem ResC.rp {K : Fg} {M N : Addr → Prop} {H : Hp} {a : Addr} {c : Cell} {d : D} (h : ResC c d) (g : GoH M H N H) (n : ¬ N a) (ok : CellOk K M H a c) : Rp K N H (.ref a) d := by
  induction h with
  | lst ds =>
    obtain ⟨xs, h1, h2⟩ := ok
    exact .lst (.inl ⟨n, .inl h1⟩) (h2.ds.go g)
  | dic kvs =>
    obtain ⟨ks, h1, h2⟩ := ok
    exact .dic n h1 ((rpk_of h2).go g)
  | ro _ ih => exact ih ok
theorem Res.rp {K : Fg} {F : Fr} {σ : St} {y : S} {H : Hp} {v : V} {z : Z} {d : D} (w : Wd0 K F σ y H) (h : Res y.m z d) (r : Rw K (Mv F σ y) H v z) : Rp K (MvX F σ y) H v d := by
  have g : GoH (Mv F σ y) H (MvX F σ y) H := fun a o n e => ⟨fun q => n q.1, e⟩
  cases h with
  | d d => cases r with | d r => exact r.go g
  | @lab e d he hc =>
    cases r
    exact hc.rp g (fun q => q.2 ⟨e, he, rfl⟩) (w.cell e he)
theorem ResA.rp {K : Fg} {F : Fr} {σ : St} {y : S} {H : Hp} (w : Wd0 K F σ y H) : ∀ {vs : List V} {zs : List Z} {ds : List D}, ResA y.m zs ds → RwA K (Mv F σ y) H vs zs → RpA K (MvX F σ y) H vs ds
  | _, _, _, .nil, .nil => .nil
  | _, _, _, .cons a b, .cons c d => .cons (a.rp w c) (b.rp w d)
theorem sc_rp {K : Fg} {M N : Addr → Prop} {H : Hp} {v : V} {d : D} (h : scD d = true) (r : Rp K M H v d) : Rp K N H v d := by
  cases r with
  | non => exact .non
  | bl b => exact .bl b
  | int b => exact .int b
  | str b => exact .str b
  | lst _ _ => cases h
  | tup _ _ => cases h
  | dic _ _ _ => cases h
/-! ### calls of defs over data -/
section
variable {C : Ct} {y : S} {ts : TA} {te : TE} {Q : Z → S → Prop} {E : XK} {n : Nat} {pre : List D → Prop} {post : List D → D → Prop} {cost : List D → Nat} {e : En}
theorem wE_pure (w : wD C ts y fun ds y1 => ds.length = n ∧ pre ds ∧ ∀ d, post ds d → Q (.d d) y1) : wE C (tCall (pureSp C.K n pre post) [] E ts) y Q := by
  intro F σ H K wd k
  refine w F σ H _ wd fun vs H1 ds y1 w1 g1 s1 r1 ⟨hn, hp, q⟩ => ?_
  rw [List.append_nil]
  exact ⟨Mv F σ y1, ds, fun a m e => w1.new e m, r1, hn, hp, fun d v H2 hd gr rv => k v H2 (.d d) y1 (w1.grow gr) (g1.trans (go_grow gr)) s1 rv (q d hd)⟩
theorem wE_det {G : List D → D} (w : wD C ts y fun ds y1 => (ds.length = n ∧ pre ds) ∧ Q (.d (G ds)) y1) : wE C (tCall (detSp C.K n pre G) [] E ts) y Q :=
  wE_pure (wD_mono w fun ds y1 ⟨⟨h1, h2⟩, q⟩ => ⟨h1, h2, fun d e => by subst e; exact q⟩)
/-- what is handed in is taken as it is at present; the answer is plain -/
theorem wE_pureR (w : wZ C ts y fun zs y1 => ∃ ds, ResA y1.m zs ds ∧ ds.length = n ∧ pre ds ∧ ∀ d, post ds d → scD d = true ∧ Q (.d d) y1) : wE C (tCall (pureSp C.K n pre post) [] E ts) y Q := by
  intro F σ H K wd k
  refine w F σ H _ wd fun vs H1 zs y1 w1 g1 s1 r1 ⟨ds, hr, hn, hp, q⟩ => ?_
  rw [List.append_nil]
  exact ⟨MvX F σ y1, ds, fun a m e => w1.new e m.1, hr.rp w1.toWd0 r1, hn, hp, fun d v H2 hd gr rv => k v H2 (.d d) y1 (w1.grow gr) (g1.trans (go_grow gr)) s1 (sc_rp (q d hd).1 rv) (q d hd).2⟩
theorem wE_detR {G : List D → D} (w : wZ C ts y fun zs y1 => ∃ ds, ResA y1.m zs ds ∧ (ds.length = n ∧ pre ds) ∧ scD (G ds) = true ∧ Q (.d (G ds)) y1) : wE C (tCall (detSp C.K n pre G) [] E ts) y Q :=
  wE_pureR (wZ_mono w fun zs y1 ⟨ds, h0, ⟨h1, h2⟩, hs, q⟩ => ⟨ds, h0, h1, h2, fun d e => by subst e; exact ⟨hs, q⟩⟩)
theorem wE_pu {i j : Nat} {p : Addr} {b : Bool} {m0 : Nat} (hi : y.l[i]? = some (some (.lab p))) (hj : y.m[j]? = some ⟨p, b, .pu m0⟩)
    (w : wD C ts y fun ds y1 => ∃ m, y1.m[j]? = some ⟨p, b, .pu m⟩ ∧ ds.length = n ∧ pre ds ∧ cost ds ≤ m ∧ ∀ d, post ds d → Q (.d d) ⟨y1.l, y1.m.set j ⟨p, b, .pu (m - cost ds)⟩⟩) :
    wE C (tCall (puSp C.K n pre cost post) [] E (tCons (tVar i) ts)) y Q := by
  intro F σ H K wd k
  obtain ⟨x, h1, h2⟩ := wd.slot i _ hi
  cases h2
  refine ⟨.ref p, h1, w F σ H _ wd fun vs H1 ds y1 w1 g1 s1 r1 ⟨m, hj1, hn, hp, hc, q⟩ => ?_⟩
  show puSp C.K n pre cost post ((.ref p :: vs) ++ []) H1 K E
  rw [List.append_nil]
  have hm : (⟨p, b, .pu m⟩ : Cl) ∈ y1.m := List.mem_of_getElem? hj1
  refine ⟨Mv F σ y1, p, vs, ds, m, rfl, .inr ⟨_, hm, rfl⟩, fun a m e => w1.new e m, w1.cell _ hm, r1, hn, hp, hc, fun d v H2 hd kp pk rv => ?_⟩
  obtain ⟨w2, g2, s2⟩ := w1.cmut (H' := H2) (c' := .pu (m - cost ds)) hj1 rfl rfl kp fun M _ g => pk
  refine k v H2 (.d d) _ w2 (g1.trans g2) (s1.trans s2) (Rp.go (fun a o na e => ⟨fun z => na (z.elim .inl fun ⟨e', q1, q2⟩ => .inr ?_), e⟩) rv) (q d hd)
  rcases mem_set_or q1 with q1 | q1
  · subst q1; exact ⟨_, hm, q2⟩
  · exact ⟨e', q1, q2⟩
/-- a draw -/
theorem wE_take {i j : Nat} {p : Addr} {b : Bool} {m0 : Nat} (hi : y.l[i]? = some (some (.lab p))) (hj : y.m[j]? = some ⟨p, b, .pu m0⟩)
    (w : wE C te y fun z y1 => ∃ (k : Int) (m : Nat), z = .d (.int k) ∧ y1.m[j]? = some ⟨p, b, .pu m⟩ ∧ (0 < k ∧ k ≤ 10 ^ 40 ∧ 1 ≤ m) ∧ ∀ r : Int, 0 ≤ r → r < k → Q (.d (.int r)) ⟨y1.l, y1.m.set j ⟨p, b, .pu (m - 1)⟩⟩) :
    wE C (tCall (spTake C.K) [] E (tCons (tVar i) (tCons te tNil))) y Q := by
  refine wE_pu hi hj (wD_cons (wE_mono w fun z y1 ⟨k, m, e, hm, ⟨h0, h1, h2⟩, q⟩ => ⟨_, e, wD_nil ⟨m, hm, rfl, ⟨k, rfl, h0, ?_⟩, h2, fun d hd => ?_⟩⟩))
  · have hb : k.natAbs < 2 ^ 200 := Nat.lt_of_le_of_lt (show k.natAbs ≤ 10 ^ 40 by omega) (by decide)
    exact Nat.lt_of_lt_of_le (log2_lt hb (by decide)) (by decide)
  · obtain ⟨k', r, e1, e2, h3, h4⟩ := hd
    cases e1
    subst e2
    exact q r h3 h4
/-- purse = _law_purse(c) -/
theorem wE_purse (w : wD C ts y fun ds y1 => ∃ c : Int, ds = [.int c] ∧ ∀ p, Q (.lab p) ⟨y1.l, y1.m ++ [⟨p, true, .pu 8000000⟩]⟩) : wE C (tCall spPurse [] E ts) y Q := by
  intro F σ H K wd k
  refine w F σ H _ wd fun vs H1 ds y1 w1 g1 s1 r1 ⟨c, hc, q⟩ => ?_
  subst hc
  obtain ⟨v, rfl, rv⟩ := rpA1 r1
  refine ⟨c, by rw [rp_int rv]; rfl, fun p x b hn hx hb hb2 => ?_⟩
  obtain ⟨w2, g2, s2⟩ := w1.cnew (o := .lst [.int x, .int b, .int 0]) (c := .pu 8000000) (b := true) hn fun M g => ⟨x, b, 0, upd_same, hx, hb, hb2, by decide, by decide⟩
  exact k _ _ (.lab p) _ w2 (g1.trans g2) (s1.trans s2) (.lab p) (q p)
end
/-! ### bodies -/
section
variable {K : Fg} {N : List Str} {t : TS} {vs : List V} {H : Hp} {Q : VK} {E : XK} {n : Nat} {pre : List D → Prop} {post : List D → D → Prop} {cost : List D → Nat}
def l0 (N : List Str) (zs : List Z) : List (Option Z) := zs.map some ++ List.replicate (N.length - zs.length) none
theorem l0_slot {M : Addr → Prop} {zs : List Z} {i : Nat} {z : Z} (r : RwA K M H vs zs) (e : (l0 N zs)[i]? = some (some z)) : ∃ x, (start N vs)[i]? = some (some x) ∧ Rw K M H x z := by
  have e1 := getElem?_app_none e
  rw [List.getElem?_map] at e1
  cases q : zs[i]? with
  | none => rw [q] at e1; cases e1
  | some d =>
    rw [q] at e1
    cases e1
    obtain ⟨v, hv, rv⟩ := r.get q
    exact ⟨v, start_get hv, rv⟩
theorem l0_len {M : Addr → Prop} {zs : List Z} (r : RwA K M H vs zs) : (start N vs).length = (l0 N zs).length := by
  unfold L2.start l0
  rw [List.length_append, List.length_append, List.length_map, List.length_map, List.length_replicate, List.length_replicate, r.len]
theorem pure_body (h : pureSp K n pre post vs H Q E) (b : ∀ ds, ds.length = n → pre ds → ∀ e : En, (∀ y, post ds .none → e.nx y) → (∀ d y, post ds d → e.rt (.d d) y) → wS { K := K } t ⟨l0 N (ds.map Z.d), []⟩ e) :
    t { nx := fun _ G => Q .non G, rt := Q } (start N vs) H := by
  obtain ⟨M, ds, al, r, l, hp, k⟩ := h
  refine b ds l hp { nx := fun _ => post ds .none, rt := fun z _ => ∃ d, z = .d d ∧ post ds d } (fun _ q => q) (fun d _ q => ⟨d, rfl, q⟩) ⟨H, fun _ => False, M, true⟩ (start N vs) H _ rfl
    ⟨⟨fun a o _ e => e, al, al, l0_len (RwA.of r), fun i z e => ?_, fun e he => (nomatch he), List.Pairwise.nil, fun e he => (nomatch he), fun a z => z.elim, fun _ e he => (nomatch he)⟩, fun _ _ _ _ _ _ _ _ _ z => z.elim⟩
    ⟨fun σ' H' y' w g q => ?_, fun σ' v H' z y' w g rz q => ?_, fun _ _ _ _ _ q => q.elim, fun _ _ _ _ _ q => q.elim⟩
  · obtain ⟨x, h1, h2⟩ := l0_slot (RwA.of r) e
    exact ⟨x, h1, h2.go fun a o na e => ⟨fun z => z.elim na fun ⟨_, q, _⟩ => (nomatch q), e⟩⟩
  · exact k .none .non H' q (fun a o e => w.keep a o (fun z => z) e) .non
  · obtain ⟨d, rfl, q⟩ := q
    exact k d v H' q (fun a o e => w.keep a o (fun z => z) e) (Rp.go (fun a o n e => ⟨fun z => n (.inl z), e⟩) rz)
theorem pu_body (h : puSp K n pre cost post vs H Q E) (b : ∀ ds m p, ds.length = n → pre ds → cost ds ≤ m → ∀ e : En, (∀ y k o, post ds .none → (⟨p, o, .pu k⟩ : Cl) ∈ y.m → m - cost ds ≤ k → e.nx y) → (∀ d y k o, post ds d → (⟨p, o, .pu k⟩ : Cl) ∈ y.m → m - cost ds ≤ k → e.rt (.d d) y) →
      wS { K := K } t ⟨l0 N (.lab p :: ds.map Z.d), [⟨p, false, .pu m⟩]⟩ e) : t { nx := fun _ G => Q .non G, rt := Q } (start N vs) H := by
  obtain ⟨M, p, us, ds, m, rfl, mp, al, pk, r, l, hp, hc, k⟩ := h
  have rr : RwA K M H (.ref p :: us) (.lab p :: ds.map Z.d) := .cons (.lab p) (RwA.of r)
  have hM : ∀ {a : Addr}, Mv ⟨H, fun a => a = p, M, true⟩ (start N (.ref p :: us)) ⟨l0 N (.lab p :: ds.map Z.d), [⟨p, false, .pu m⟩]⟩ a → M a := fun {a} z => z.elim (fun z => z) fun ⟨e, q1, q2⟩ => by
    rw [List.mem_singleton] at q1; subst q1; exact q2 ▸ mp
  have fin : ∀ {σ' : St} {H' : Hp} {y' : S} {q : Nat} {o : Bool}, Wd { K := K } ⟨H, fun a => a = p, M, true⟩ σ' y' H' → (⟨p, o, .pu q⟩ : Cl) ∈ y'.m → m - cost ds ≤ q → PuOk H' p (m - cost ds) := fun {σ' H' y' q o} w e hq => PuOk.mono (w.cell _ e) hq
  refine b ds m p l hp hc { nx := fun y => post ds .none ∧ ∃ k o, (⟨p, o, .pu k⟩ : Cl) ∈ y.m ∧ m - cost ds ≤ k, rt := fun z y => ∃ d k o, z = .d d ∧ post ds d ∧ (⟨p, o, .pu k⟩ : Cl) ∈ y.m ∧ m - cost ds ≤ k }
    (fun y k o q1 q2 q3 => ⟨q1, k, o, q2, q3⟩) (fun d y k o q1 q2 q3 => ⟨d, k, o, rfl, q1, q2, q3⟩) ⟨H, fun a => a = p, M, true⟩ (start N (.ref p :: us)) H _ rfl
    ⟨⟨fun a o _ e => e, al, al, l0_len rr, fun i z e => ?_, fun e he => ?_, List.pairwise_singleton _ _, fun e he _ => ?_, fun a z => (show a = p from z) ▸ mp, fun _ e he ho => ?_⟩, fun _ _ _ _ _ _ _ _ _ z => z.elim⟩
    ⟨fun σ' H' y' w g q => ?_, fun σ' v H' z y' w g rz q => ?_, fun _ _ _ _ _ q => q.elim, fun _ _ _ _ _ q => q.elim⟩
  · obtain ⟨x, h1, h2⟩ := l0_slot rr e
    exact ⟨x, h1, h2.go fun a o na e => ⟨fun z => na (hM z), e⟩⟩
  · rw [List.mem_singleton] at he; subst he; exact pk
  · rw [List.mem_singleton] at he; subst he; exact .inl rfl
  · rw [List.mem_singleton] at he; subst he; cases ho
  · obtain ⟨q1, c, o, q2, q3⟩ := q
    exact k .none .non H' q1 (fun a o n e => w.keep a o n e) (fin w q2 q3) .non
  · obtain ⟨d, c, o, rfl, q1, q2, q3⟩ := q
    exact k d v H' q1 (fun a o n e => w.keep a o n e) (fin w q2 q3) (Rp.go (fun a o n e => ⟨fun z => n (.inl z), e⟩) rz)
theorem law_body (h : spLaw K vs H Q E) (b : ∀ ns : List Int, ns.length ≤ 63 → ∀ e : En, (∀ y, e.rt (.d (.bool true)) y) → wS { K := K } t ⟨l0 N [.d (.list (ns.map PyData.int))], []⟩ e) :
    t { nx := fun _ G => Q .non G, rt := Q } (start N vs) H := by
  obtain ⟨a, ns, rfl, hs, hl, k⟩ := h
  refine pure_body (K := K) (n := 1) (pre := fun ds => ds = [.list (ns.map PyData.int)]) (post := fun _ d => d = .bool true) (Q := Q) (E := fun _ _ _ => False) ⟨fun _ => False, [.list (ns.map PyData.int)], fun a z => z.elim, .cons (.lst ?_ (rpA_int ns)) .nil, rfl, rfl, fun d v H' e _ r => ?_⟩ ?_
  · rcases hs with hs | hs
    · exact .inl ⟨fun z => z, hs⟩
    · exact .inr hs
  · subst e
    rw [rp_bl r]
    exact k H'
  · rintro ds _ rfl e hn hr
    exact b ns hl e fun y => hr _ y rfl
end
/-! ### defs that read, and may raise -/
def xSp (K : Fg) (n : Nat) (pre : List Z → List D → Prop) (post : List Z → List D → Z → Prop) (xp : List Z → List D → Ex → Prop) : Sp := fun vs H Q E => ∃ (M : Addr → Prop) (m : List Cl) (zs : List Z) (ds : List D),
  (∀ a, M a → H a ≠ none) ∧ RwA K M H vs zs ∧ (∀ e ∈ m, M e.a ∧ CellOk K M H e.a e.c) ∧ (m.Pairwise fun e e' => e.a ≠ e'.a) ∧ ResA m zs ds ∧ zs.length = n ∧ pre zs ds ∧
  (∀ z v H', post zs ds z → (∀ a o, H a = some o → H' a = some o) → Rw K M H' v z → Q v H') ∧
  (∀ ex a v H', xp zs ds ex → (∀ a o, H a = some o → H' a = some o) → H a = none → H' a = some (.xd [(keyZ ex.found, v)]) → Rw K M H' v (valZ ex.found) → E ex.cls (some a) H')
section
variable {K : Fg} {N : List Str} {t : TS} {vs : List V} {H : Hp} {Q : VK} {E : XK} {n : Nat} {pre : List Z → List D → Prop} {post : List Z → List D → Z → Prop} {xp : List Z → List D → Ex → Prop}
end
section
variable {C : Ct} {y : S} {ts : TA} {te : TE} {Q : Z → S → Prop} {n : Nat} {pre : List Z → List D → Prop} {post : List Z → List D → Z → Prop} {xp : List Z → List D → Ex → Prop} {e : En}
theorem wE_x (w : wZ C ts y fun zs y1 => ∃ ds, ResA y1.m zs ds ∧ (zs.length = n ∧ pre zs ds) ∧ (∀ z, post zs ds z → Q z y1) ∧ ∀ ex, xp zs ds ex → C.ex ex y1) : wE C (tCallS (xSp C.K n pre post xp) (WE C.W) ts) y Q := by
  intro F σ H K wd k
  refine w F σ H _ wd fun vs H1 zs y1 w1 g1 s1 r1 ⟨ds, hr, ⟨hn, hp⟩, q, x⟩ => ?_
  refine ⟨Mv F σ y1, y1.m, zs, ds, fun a m e => w1.new e m, r1, fun e he => ⟨.inr ⟨e, he, rfl⟩, w1.cell e he⟩, w1.dist, hr, hn, hp, fun z v H2 hz gr rv => k v H2 z y1 (w1.grow gr) (g1.trans (go_grow gr)) s1 rv.z (q z hz), fun ex a v H2 hx gr ha ha2 rv => ?_⟩
  exact w1.xk σ y1 H2 ex ex.cls (some a) (w1.grow gr).toWd0 (go_grow gr) ⟨rfl, a, v, rfl, ha2, w1.new ha, w1.newH0 ha, rv⟩ (x ex hx)
/-- e.found in a suite -/
theorem wE_found {a dd Cc : Addr} {i : Nat} {z : Z} {cls : Value} (hc : cls = .ref Cc) (hi : y.l[i]? = some (some (.exc a dd z))) (kz : keyZ z = "found" ∧ valZ z = z) (q : Q z y) : wE C (tXf a cls (some dd) Cc "found" (tVar i)) y Q := by
  intro F σ H K wd k
  obtain ⟨x, h1, h2⟩ := wd.slot i _ hi
  cases h2 with
  | @exc _ _ v _ n c1 c2 =>
    rw [kz.1] at c1
    rw [kz.2] at c2
    exact ⟨.ref a, h1, rfl, hc, dd, _, v, rfl, c1, by simp [List.lookup], k v H z y wd GoH.refl (Sh.refl y) c2.z q⟩
/-- e.f in a suite -/
theorem wE_field {a dd Cc : Addr} {i : Nat} {z : Z} {f : Str} {cls : Value} (hc : cls = .ref Cc) (hi : y.l[i]? = some (some (.exc a dd (.nm f z)))) (q : Q z y) : wE C (tXf a cls (some dd) Cc f (tVar i)) y Q := by
  intro F σ H K wd k
  obtain ⟨x, h1, h2⟩ := wd.slot i _ hi
  cases h2 with
  | @exc _ _ v _ n c1 c2 =>
    have c1 : H dd = some (.xd [(f, v)]) := c1
    exact ⟨.ref a, h1, rfl, hc, dd, _, v, rfl, c1, by simp [List.lookup], k v H z y wd GoH.refl (Sh.refl y) (Rw.z (z := z) c2) q⟩
end
/-! ### try -/
def Hd (C : Ct) (K : Fg) (e : En) : List (Value × Option Nat × (Addr → Value → Option Addr → TS)) → Ex → S → Prop
  | [], _, _ => False
  | (c, none, ts) :: r, ex, y => ∃ b, PySem.W.exmOne K ex.cls c = some b ∧ (b = true → ∀ a dd : Addr, wS C (ts a ex.cls (some dd)) y e) ∧ (b = false → Hd C K e r ex y)
  | (c, some i, ts) :: r, ex, y => ∃ b, PySem.W.exmOne K ex.cls c = some b ∧ (b = true → ∀ a dd : Addr, wS C (ts a ex.cls (some dd)) (y.set i (some (.exc a dd ex.found)))
      { nx := fun y' => e.nx (y'.set i none), rt := e.rt, bk := fun y' => e.bk (y'.set i none), ct := fun y' => e.ct (y'.set i none) }) ∧ (b = false → Hd C K e r ex y)
end Ux

set_option maxRecDepth 100000
set_option maxHeartbeats 4000000
namespace Ux
open PySem PySem.Spec PyProof.Rows L2 Tq
open PySem.Builtin.Str (occurrences subAt)
section
variable {C : Ct} {y : S} {te : TE} {Q : Z → S → Prop} {E : XK}
theorem wE_powN {a : Int} {n : Nat} (q : Q (.d (.int (a ^ (OfNat.ofNat n : Nat)))) y) (ha : a.natAbs < 2 ^ 64 := by decide) (hn : n ≤ 1000000 := by decide) : wE C (tOp (rI CPow fun i j => .int (i ^ j.toNat)) (tC (.int a)) (tC (.int (OfNat.ofNat n)))) y Q := by
  refine wE_pow (wE_int (wE_int ⟨_, _, rfl, rfl, ⟨?_, ?_, ha⟩, q⟩))
  · show (0 : Int) ≤ (n : Nat); omega
  · show ((n : Nat) : Int) ≤ 1000000; omega
theorem wE_dispS {k : Str} {v : V} {d : D} (s : Sc v d) (h : Q (.d (.dict [(.str k, d)])) y) : wE C (tDisp [(tC (.str k), tC v)]) y Q := wE_disp1 (kk := .inr k) s h
theorem wE_dispI {k : Int} {v : V} {d : D} (s : Sc v d) (h : Q (.d (.dict [(.int k, d)])) y) : wE C (tDisp [(tC (.int k), tC v)]) y Q := wE_disp1 (kk := .inl k) s h
end
section
variable {C : Ct} {y : S} {ta tb : TE} {Q : Z → S → Prop}
theorem wE_eqS (w : wE C ta y fun z y1 => wE C tb y1 fun z' y2 => ∃ d e, z = .d d ∧ z' = .d e ∧ scalD d e = true ∧ Q (.d (.bool (eqS d e))) y2) : wE C (tOp rEq ta tb) y Q := by
  refine wE_op (res := fun d e r => scalD d e = true ∧ r = .bool (eqS d e)) ?_ (wE_mono w fun z y1 h => wE_mono h fun z' y2 ⟨d, e, e1, e2, s, q⟩ => ⟨_, _, _, e1, e2, ⟨s, rfl⟩, q⟩)
  rintro M H x u d e r Q _ rx ru ⟨s, rfl⟩ k
  obtain ⟨h1, h2⟩ := eqS_ok rx ru s
  refine ⟨h1, ?_⟩
  rw [h2]
  exact k _ H (fun _ _ e => e) (.bl _)
theorem wE_neS (w : wE C ta y fun z y1 => wE C tb y1 fun z' y2 => ∃ d e, z = .d d ∧ z' = .d e ∧ scalD d e = true ∧ Q (.d (.bool (!eqS d e))) y2) : wE C (tOp rNe ta tb) y Q := by
  refine wE_op (res := fun d e r => scalD d e = true ∧ r = .bool (!eqS d e)) ?_ (wE_mono w fun z y1 h => wE_mono h fun z' y2 ⟨d, e, e1, e2, s, q⟩ => ⟨_, _, _, e1, e2, ⟨s, rfl⟩, q⟩)
  rintro M H x u d e r Q _ rx ru ⟨s, rfl⟩ k
  obtain ⟨h1, h2⟩ := eqS_ok rx ru s
  refine ⟨h1, ?_⟩
  rw [h2]
  exact k _ H (fun _ _ e => e) (.bl _)
end
theorem wE_reprS {C : Ct} {y : S} {te : TE} {Q : Z → S → Prop} (w : wE C te y fun z y1 => ∃ d, z = .d d ∧ ShOk d ∧ Q (.d (.str d.shown)) y1) : wE C (tCB (rRepr C.K) (tCons te tNil)) y Q :=
  wE_repr (wD_cons (wE_mono w fun z y1 ⟨d, e, ⟨h1, h2, h3, h4⟩, q⟩ => ⟨d, e, wD_nil ⟨d, rfl, h1, h2, h3, h4, q⟩⟩))
theorem wE_index {C : Ct} {ta tb : TE} {y : S} {Q : Z → S → Prop} (w : wE C ta y fun z y1 => ∃ a, z = .d (.str a) ∧ wE C tb y1 fun z' y2 => ∃ b i r, z' = .d (.str b) ∧ occurrences a b 0 a.length 1 = i :: r ∧ Q (.d (.int (i : Nat))) y2) :
    wE C (tM1 rIndex ta tb) y Q := by
  intro F σ H K wd k
  refine w F σ H _ wd fun x H1 z y1 w1 g1 s1 r1 q1 => ?_
  obtain ⟨a, rfl, q1⟩ := q1
  have e := rp_str r1
  subst e
  refine ⟨⟨a, rfl⟩, q1 F σ H1 _ w1 fun x2 H2 z' y2 w2 g2 s2 r2 q2 => ?_⟩
  obtain ⟨b, i, r, rfl, ho, hq⟩ := q2
  exact ⟨a, b, i, r, rfl, by rw [rp_str r2], ho, k _ H2 (.d (.int _)) y2 w2 (g1.trans g2) (s1.trans s2) (.int _) hq⟩

/-! ### things as they are at present -/
section
variable {C : Ct} {y : S} {te ta tb : TE} {Q : Z → S → Prop} {Qi : List D → S → Prop}
theorem wE_isiR {T : String} (w : wE C te y fun z y1 => ∃ d, Res y1.m z d ∧ Q (.d (.bool (isT T d))) y1) (hT : (tyNames.all fun n => (kitB n T).isSome) = true := by decide +kernel) : wE C (tCB (rIsi C.K) (tCons te (tCons (tC (.ty T)) tNil))) y Q := by
  intro F σ H K wd k
  refine w F σ H _ wd fun x H1 z y1 w1 g1 s1 r1 q1 => ?_
  obtain ⟨d, hr, h⟩ := q1
  exact ⟨x, .ty T, _, _, isT T d, rfl, .ty T, rp_ty (hr.rp w1.toWd0 r1.w), kit_ty (kit_isT hT d), k _ H1 (.d (.bool (isT T d))) y1 w1 g1 s1 (.bl _) h⟩
theorem wE_reprR (w : wE C te y fun z y1 => ∃ d, Res y1.m z d ∧ ShOk d ∧ Q (.d (.str d.shown)) y1) : wE C (tCB (rRepr C.K) (tCons te tNil)) y Q := by
  intro F σ H K wd k
  refine w F σ H _ wd fun x H1 z y1 w1 g1 s1 r1 q1 => ?_
  obtain ⟨d, hr, ⟨h1, h2, h3, h4⟩, h⟩ := q1
  exact ⟨x, d, rfl, (hr.rp w1.toWd0 r1.w).any, h1, h2, h3, h4, k _ H1 (.d (.str d.shown)) y1 w1 g1 s1 (.str _) h⟩
def seqZ : Z → Option (List Z)
  | .d (.list ds) => some (ds.map Z.d)
  | .d (.tuple ds) => some (ds.map Z.d)
  | .lst zs => some zs
  | .tup zs => some zs
  | _ => none
theorem atI_rw {K : Fg} {M : Addr → Prop} {H : Hp} {vs : List V} {zs : List Z} {i : Int} {z : Z} (r : RwA K M H vs zs) (h : atI zs i = some z) : ∃ v, atI vs i = some v ∧ Rw K M H v z := by
  unfold atI at h ⊢
  rw [r.len]
  cases e : ixN zs.length i with
  | none => rw [e] at h; cases h
  | some j =>
    rw [e] at h
    exact r.get (i := j) h
theorem rw_seq {K : Fg} {M : Addr → Prop} {H : Hp} {v : V} {z : Z} {zs : List Z} (r : Rw K M H v z) (h : seqZ z = some zs) : ∃ a us, v = .ref a ∧ (LsA K M H a us ∨ TsA K M H a us) ∧ RwA K M H us zs := by
  cases r with
  | lab a => cases h
  | exc _ _ _ => cases h
  | ob _ _ _ _ => cases h
  | tup h1 h2 => cases h; exact ⟨_, _, rfl, .inr h1, h2⟩
  | lst h1 h2 => cases h; exact ⟨_, _, rfl, .inl h1, h2⟩
  | d r =>
    cases r with
    | lst h1 h2 => cases h; exact ⟨_, _, rfl, .inl h1, RwA.of h2⟩
    | tup h1 h2 => cases h; exact ⟨_, _, rfl, .inr h1, RwA.of h2⟩
    | _ => cases h
theorem wE_ixZ (w : wE C ta y fun z y1 => wE C tb y1 fun z' y2 => ∃ zs i u, seqZ z = some zs ∧ z' = .d (.int i) ∧ atI zs i = some u ∧ Q u y2) : wE C (tOp (rIx C.K) ta tb) y Q := by
  intro F σ H K wd k
  refine w F σ H _ wd fun x H1 z y1 w1 g1 s1 r1 q1 => ?_
  refine q1 F σ H1 _ w1 fun x2 H2 z' y2 w2 g2 s2 r2 q2 => ?_
  obtain ⟨zs, i, u, hs, rfl, hi, hq⟩ := q2
  have ey := rp_int r2
  obtain ⟨a, us, rfl, h1, h2⟩ := rw_seq (r1.w.go g2) hs
  obtain ⟨v, e, rv⟩ := atI_rw h2 hi
  rcases h1 with h1 | h1
  · exact .inl ⟨_, _, i, v, rfl, ey, h1.sq, e, k _ H2 u y2 w2 (g1.trans g2) (s1.trans s2) rv.z hq⟩
  · exact .inr (.inl ⟨_, _, i, v, rfl, ey, h1.sq, e, k _ H2 u y2 w2 (g1.trans g2) (s1.trans s2) rv.z hq⟩)
def lstZ : Z → Option (List Z)
  | .d (.list ds) => some (ds.map Z.d)
  | .lst zs => some zs
  | _ => none
theorem rw_lst {K : Fg} {M : Addr → Prop} {H : Hp} {v : V} {z : Z} {zs : List Z} (r : Rw K M H v z) (h : lstZ z = some zs) : ∃ a us, v = .ref a ∧ LsA K M H a us ∧ RwA K M H us zs := by
  cases r with
  | lab a => cases h
  | exc _ _ _ => cases h
  | ob _ _ _ _ => cases h
  | tup h1 h2 => cases h
  | lst h1 h2 => cases h; exact ⟨_, _, rfl, h1, h2⟩
  | d r =>
    cases r with
    | lst h1 h2 => cases h; exact ⟨_, _, rfl, h1, RwA.of h2⟩
    | _ => cases h
theorem wE_catZ (w : wE C ta y fun z y1 => wE C tb y1 fun z' y2 => ∃ xs zs, lstZ z = some xs ∧ lstZ z' = some zs ∧ xs.length + zs.length ≤ sizeLine ∧ Q (.lst (xs ++ zs)) y2) : wE C (tOp (rCatG C.K) ta tb) y Q := by
  intro F σ H K wd k
  refine w F σ H _ wd fun x H1 z y1 w1 g1 s1 r1 q1 => ?_
  refine q1 F σ H1 _ w1 fun x2 H2 z' y2 w2 g2 s2 r2 q2 => ?_
  obtain ⟨xs, zs, e1, e2, hl, hq⟩ := q2
  obtain ⟨a, us, rfl, h1, h2⟩ := rw_lst (r1.w.go g2) e1
  obtain ⟨b, vs, rfl, h3, h4⟩ := rw_lst r2.w e2
  refine ⟨a, b, us, vs, rfl, rfl, h1.sq, h3.sq, by rw [h2.len, h4.len]; exact hl, fun p hp => ?_⟩
  have gr := grow_upd (o := .lst (us ++ vs)) hp
  exact k _ _ (.lst (xs ++ zs)) y2 (w2.grow gr) ((g1.trans g2).trans (go_grow gr)) (s1.trans s2) (.lst (.inl ⟨w2.new hp, .inl upd_same⟩) ((h2.app h4).go (go_grow (F := F) (σ := σ) (y := y2) gr))) hq
theorem wI_any {i : Nat} {d : D} {xs : List D} (h : y.l[i]? = some (some (.d d))) (hx : dItems d = some xs) (q : Qi xs y) : wI C (iAny C.K (tVar i)) y Qi := by
  intro F σ H R wd k
  cases d with
  | list us =>
    cases hx
    exact .inl (wI_list (wE_var h ⟨_, rfl, q⟩) F σ H R wd k)
  | tuple us =>
    cases hx
    exact .inr (wI_tup (wE_var h ⟨_, rfl, q⟩) F σ H R wd k)
  | _ => cases hx
end
/-! ### less is known -/
def LsL (a b : List (Option Z)) : Prop := a.length = b.length ∧ ∀ (i : Nat) (z : Z), a[i]? = some (some z) → b[i]? = some (some z)
theorem less_mk' {a b : List (Option Z)} {m n : List Cl} (h : LsL a b) (s : m.Sublist n) : Less ⟨a, m⟩ ⟨b, n⟩ := ⟨h.1, h.2, s⟩
theorem less_nil : LsL [] [] := ⟨rfl, fun i z e => e⟩
theorem less_none {a b : List (Option Z)} {z : Option Z} (h : LsL a b) : LsL (none :: a) (z :: b) := by
  refine ⟨congrArg (· + 1) h.1, fun i u e => ?_⟩
  cases i with
  | zero => cases e
  | succ i => exact h.2 i u e
theorem less_some {a b : List (Option Z)} {z : Option Z} (h : LsL a b) : LsL (z :: a) (z :: b) := by
  refine ⟨congrArg (· + 1) h.1, fun i u e => ?_⟩
  cases i with
  | zero => exact e
  | succ i => exact h.2 i u e
theorem less_set {a b : S} {i : Nat} {z : Option Z} (h : Less a b) : Less (a.set i z) (b.set i z) := by
  refine ⟨by show (a.l.set i z).length = (b.l.set i z).length; rw [List.length_set, List.length_set, h.1], fun j u e => ?_, h.2.2⟩
  have e : (a.l.set i z)[j]? = some (some u) := e
  show (b.l.set i z)[j]? = some (some u)
  rw [List.getElem?_set] at e ⊢
  rw [← h.1]
  split at e
  · next q => rw [if_pos q]; exact e
  · next q => rw [if_neg q]; exact h.2.1 j u e
theorem Less.refl (y : S) : Less y y := ⟨rfl, fun _ _ e => e, List.Sublist.refl _⟩
/-- a loop whose turns know J alone -/
theorem forJ {C : Ct} {v : Nat} {tx : TS} {xs : List D} {y0 : S} {bk : S → Prop} {rt : Z → S → Prop} {R : S → Prop} (J : Nat → S → Prop) (h0 : ∃ y', J 0 y' ∧ Less y' y0)
    (hb : ∀ i x y', xs[i]? = some x → J i y' → wS C tx (y'.set v (some (.d x))) { nx := fun y => ∃ y', J (i + 1) y' ∧ Less y' y, ct := fun y => ∃ y', J (i + 1) y' ∧ Less y' y, bk := bk, rt := rt }) (he : ∀ y2 y', J xs.length y' → Less y' y2 → R y2) :
    ∃ I : Nat → S → Prop, I 0 y0 ∧ (∀ i x y2, xs[i]? = some x → I i y2 → wG C (gName v) (.d x) y2 fun y3 => wS C tx y3 { nx := I (i + 1), ct := I (i + 1), bk := bk, rt := rt }) ∧ (∀ y2, I xs.length y2 → R y2) :=
  ⟨fun i y => ∃ y', J i y' ∧ Less y' y, h0, fun i x y2 hx ⟨y', hj, hl⟩ => wG_name (wS_weak (hb i x y' hx hj) (less_set hl)), fun y2 ⟨y', hj, hl⟩ => he y2 y' hj hl⟩
/-- what stands between two cells of the script: it alone is known -/
def cellEnd (n : Nat) (s : D) (y : S) : Prop := y.l.length = n + 2 ∧ y.l[0]? = some (some (.d s))
/-- for _law_k in range(max(2, min(c, len(script)))): tb; return True -/
theorem law_loop {K : Fg} {tb : TS} {e : En} {ns : List Int} {c : Int} {n : Nat} (hc : 0 ≤ c ∧ c ≤ 900) (hz : ∀ y, e.rt (.d (.bool true)) y)
    (hb : ∀ k : Int, 0 ≤ k → k < 1000 → wS { K := K } tb ⟨some (.d (.list (ns.map PyData.int))) :: some (.d (.int k)) :: List.replicate n none, []⟩
      { nx := cellEnd n (.list (ns.map PyData.int)), ct := cellEnd n (.list (ns.map PyData.int)), bk := fun y1 => wS { K := K } (tRet (tC (.bl true))) y1 e, rt := e.rt }) :
    wS { K := K } (tSeq (tFor (iRng1 (tCons (tCB rMx (tCons (tC (.int 2)) (tCons (tCB rMn (tCons (tC (.int c)) (tCons (tCB (rLenD K) (tCons (tVar 0) tNil)) tNil))) tNil))) tNil)) (gName 1) tb) (tRet (tC (.bl true))))
      ⟨some (.d (.list (ns.map PyData.int))) :: none :: List.replicate n none, []⟩ e := by
  refine wS_seq (wS_for (wI_rng1 (wD_cons (wE_max2 (wD_cons (wE_int ⟨_, rfl, wD_cons (wE_min2 (wD_cons (wE_int ⟨_, rfl, wD_cons (wE_len (wD_cons (wE_var rfl ⟨_, rfl, wD_nil ⟨_, _, rfl, rfl, ?_⟩⟩))) ⟩)))⟩))))))
  refine ⟨_, rfl, wD_nil ⟨_, _, rfl, _, rfl, wD_nil ⟨_, _, rfl, _, rfl, wD_nil ⟨_, rfl, ?_⟩⟩⟩⟩
  rw [List.length_map]
  generalize hj : (if (if (ns.length : Int) < c then (ns.length : Int) else c) > 2 then (if (ns.length : Int) < c then (ns.length : Int) else c) else 2) = j
  have h1 : 2 ≤ j ∧ j ≤ 900 := by
    rw [← hj]
    constructor
    · split <;> omega
    · split
      · split <;> omega
      · omega
  refine ⟨by omega, by omega, fun _ y => cellEnd n (.list (ns.map PyData.int)) y, ⟨by simp, rfl⟩, fun i x y2 hx ⟨hy1, hy2⟩ => ?_, fun y2 _ => wS_ret (wE_bl (hz _))⟩
  obtain ⟨hi, rfl⟩ := rangeD_get hx
  refine wG_name (wS_weak (hb (0 + (i : Int)) (by omega) (by omega)) ⟨by show _ = (y2.l.set 1 _).length; rw [List.length_set, hy1]; simp, fun k z e => ?_, List.nil_sublist _⟩)
  show (y2.l.set 1 _)[k]? = some (some z)
  match k, e with
  | 0, e =>
    cases e
    rw [List.getElem?_set_ne (by decide)]
    exact hy2
  | 1, e =>
    cases e
    exact List.getElem?_set_self (by omega)
  | k + 2, e =>
    have e2 : (List.replicate n (none : Option Z))[k]? = some (some z) := e
    rw [List.getElem?_replicate] at e2
    split at e2 <;> cases e2
end Ux

set_option maxRecDepth 100000
set_option maxHeartbeats 2000000
/-! what the top has written of the exceptions' classes -/
namespace Ux
open PySem PySem.Spec PyProof.Rows L2
structure XcT (K : Fg) (mg : Str → Option Value) (x qual : Str) (st : Stmt) (C : Addr) : Prop where
  gC : mg x = some (.ref C)
  oc : OexC K C
  xf : XfC K C
  no : PySem.W.findIn K (.ref C) "found" = some none
  ini : ∃ (fI : Addr) (fd : FuncData), PySem.W.findIn K (.ref C) "__init__" = some (some (.ref fI)) ∧ PySem.W.typeIn K (.ref fI) = some (.type "function") ∧ Fun K "__init__" qual st fI fd ∧ Binds K fd ["self", "found"] []
end Ux

set_option maxRecDepth 100000
set_option maxHeartbeats 2000000
namespace Ux
open PySem PySem.Spec PyProof.Rows L2 Tq
/-! displays by the kind in which they are wanted -/
def tTupZ : TA → TE := tTup
def tLstZ : TA → TE := tLst
def tLstL : TA → TE := tLst
def tDNewL : TE := tDNewK
section
variable {X : Cx} {ts : TA} {es : List Expr} {k : Nat} {pos : Pos}
theorem pe_lstL (h : PA X es ts) : PE X (.List es pos) (tLstL ts) := pe_lst h
end
theorem Res.at {m : List Cl} {j : Nat} {a : Addr} {b : Bool} {c : Cell} {d : D} (h : m[j]? = some ⟨a, b, c⟩) (r : ResC c d) : Res m (.lab a) d := .lab (e := ⟨a, b, c⟩) (List.mem_of_getElem? h) r
end Ux
namespace Ux
open PySem PySem.Spec PyProof.Rows L2 Tq
/-- a def over things of any kind that lets nothing out -/
theorem wE_xc {C : Ct} {y : S} {ts : TA} {Q : Z → S → Prop} {E : XK} {n : Nat} {pre : List Z → List D → Prop} {post : List Z → List D → Z → Prop} {xp : List Z → List D → Ex → Prop}
    (w : wZ C ts y fun zs y1 => ∃ ds, ResA y1.m zs ds ∧ (zs.length = n ∧ pre zs ds) ∧ (∀ z, post zs ds z → Q z y1)) (hx : ∀ zs ds ex, ¬ xp zs ds ex) : wE C (tCall (xSp C.K n pre post xp) [] E ts) y Q := by
  intro F σ H K wd k
  refine w F σ H _ wd fun vs H1 zs y1 w1 g1 s1 r1 ⟨ds, hr, ⟨hn, hp⟩, q⟩ => ?_
  show xSp C.K n pre post xp (vs ++ []) H1 K E
  rw [List.append_nil]
  exact ⟨Mv F σ y1, y1.m, zs, ds, fun a m e => w1.new e m, r1, fun e he => ⟨.inr ⟨e, he, rfl⟩, w1.cell e he⟩, w1.dist, hr, hn, hp, fun z v H2 hz gr rv => k v H2 z y1 (w1.grow gr) (g1.trans (go_grow gr)) s1 rv.z (q z hz), fun ex _ _ _ h => (hx _ _ _ h).elim⟩
abbrev asSp (K : Fg) (n : Nat) (pre : List Z → List D → Prop) (post : List Z → List D → Z → Prop) : Sp := xSp K n pre post fun _ _ _ => False
theorem wE_as {C : Ct} {y : S} {ts : TA} {Q : Z → S → Prop} {E : XK} {n : Nat} {pre : List Z → List D → Prop} {post : List Z → List D → Z → Prop}
    (w : wZ C ts y fun zs y1 => ∃ ds, ResA y1.m zs ds ∧ (zs.length = n ∧ pre zs ds) ∧ (∀ z, post zs ds z → Q z y1)) : wE C (tCall (asSp C.K n pre post) [] E ts) y Q := wE_xc w fun _ _ _ h => h
/-! what a thing is, by what it is at present -/
theorem ResC.nsc {c : Cell} {d : D} (h : ResC c d) : (∃ ds, d = .list ds) ∨ ∃ kvs, d = .dict kvs := by
  induction h with
  | lst ds => exact .inl ⟨ds, rfl⟩
  | dic kvs => exact .inr ⟨_, rfl⟩
  | ro _ ih => exact ih
theorem Res.int {m : List Cl} {z : Z} {n : Int} (h : Res m z (.int n)) : z = .d (.int n) := by
  cases h with
  | d => rfl
  | lab _ hc => rcases hc.nsc with ⟨_, e⟩ | ⟨_, e⟩ <;> cases e
theorem Res.tup {m : List Cl} {z : Z} {ds : List D} (h : Res m z (.tuple ds)) : z = .d (.tuple ds) := by
  cases h with
  | d => rfl
  | lab _ hc => rcases hc.nsc with ⟨_, e⟩ | ⟨_, e⟩ <;> cases e
def rCatZ (K : Fg) : R2 := rCatG K
def rIxZ (K : Fg) : R2 := rIx K
section
variable {X : Cx} (K : Fg)
end
end Ux
namespace Ux
open PySem PySem.Spec PyProof.Rows L2 Tq
def tCallR (sp : Sp) (E : XK) (t : TA) : TE := tCall sp [] E t
def tIsiR (K : Fg) (t : TA) : TE := tCB (rIsi K) t
def tReprR (K : Fg) (t : TA) : TE := tCB (rRepr K) t
section
variable {X : Cx} {k : Nat} {x : Str} {ps : List Str} {sp : Sp} {p pos : Pos} {e : Expr} {es : List Expr} {t : TA}
end
end Ux
namespace Ux
open PySem PySem.Spec PyProof.Rows L2 Tq
section
variable {C : Ct} {y : S} {ts : TA} {te ta tb : TE} {Q : Z → S → Prop} {E : XK} {n : Nat} {pre : List D → Prop} {post : List D → D → Prop}
theorem xE_detR {G : List D → D} (w : wZ C ts y fun zs y1 => ∃ ds, ResA y1.m zs ds ∧ (ds.length = n ∧ pre ds) ∧ scD (G ds) = true ∧ Q (.d (G ds)) y1) : wE C (tCallR (detSp C.K n pre G) E ts) y Q := wE_detR w
theorem xE_pureR (w : wZ C ts y fun zs y1 => ∃ ds, ResA y1.m zs ds ∧ ds.length = n ∧ pre ds ∧ ∀ d, post ds d → scD d = true ∧ Q (.d d) y1) : wE C (tCallR (pureSp C.K n pre post) E ts) y Q := wE_pureR w
theorem xE_isiR {T : String} (w : wE C te y fun z y1 => ∃ d, Res y1.m z d ∧ Q (.d (.bool (isT T d))) y1) (hT : (tyNames.all fun n => (kitB n T).isSome) = true := by decide +kernel) : wE C (tIsiR C.K (tCons te (tCons (tC (.ty T)) tNil))) y Q := wE_isiR w hT
theorem xE_reprR (w : wE C te y fun z y1 => ∃ d, Res y1.m z d ∧ ShOk d ∧ Q (.d (.str d.shown)) y1) : wE C (tReprR C.K (tCons te tNil)) y Q := wE_reprR w
theorem xE_tupZ (w : wZ C ts y fun zs y1 => zs.length ≤ sizeLine ∧ Q (.tup zs) y1) : wE C (tTupZ ts) y Q := wE_tupZ w
theorem xE_lstZ (w : wZ C ts y fun zs y1 => zs.length ≤ sizeLine ∧ Q (.lst zs) y1) : wE C (tLstZ ts) y Q := wE_lstZ w
theorem xE_lstL (w : wZ C ts y fun zs y1 => zs.length ≤ sizeLine ∧ ∀ p, Q (.lab p) ⟨y1.l, y1.m ++ [⟨p, true, .lst zs⟩]⟩) : wE C (tLstL ts) y Q := wE_lstL w
theorem xE_dnewL (q : ∀ p, Q (.lab p) ⟨y.l, y.m ++ [⟨p, true, .dic []⟩]⟩) : wE C tDNewL y Q := wE_dnewL q
theorem xE_ixZ (w : wE C ta y fun z y1 => wE C tb y1 fun z' y2 => ∃ zs i u, seqZ z = some zs ∧ z' = .d (.int i) ∧ atI zs i = some u ∧ Q u y2) : wE C (tOp (rIxZ C.K) ta tb) y Q := wE_ixZ w
theorem xE_catZ (w : wE C ta y fun z y1 => wE C tb y1 fun z' y2 => ∃ xs zs, lstZ z = some xs ∧ lstZ z' = some zs ∧ xs.length + zs.length ≤ sizeLine ∧ Q (.lst (xs ++ zs)) y2) : wE C (tOp (rCatZ C.K) ta tb) y Q := wE_catZ w
end
end Ux

set_option maxRecDepth 100000
set_option maxHeartbeats 4000000
namespace Ux
open PySem PySem.Spec PyProof.Rows L2 Tq
/-! ### odd things that may grow -/
abbrev sev (k : Nat) : List D := List.replicate k (.int 7)
inductive OT (P : D → Bool) (k : Nat) : Z → List Cl → D → Prop
  | pl (d : D) (h1 : isT "list" d = false) (h2 : ShOk d) (h3 : P d = false) : OT P k (.d d) [] d
  | ls (a : Addr) (ds : List D) (h : ∀ j ≤ 4, ShOk (.list (ds ++ sev j))) (h3 : ∀ xs, P (.list xs) = false) (h4 : ds.length ≤ 10) : OT P k (.lab a) [⟨a, true, .lst ((ds ++ sev k).map Z.d)⟩] (.list (ds ++ sev k))
  | dc (a : Addr) (h3 : ∀ xs, P (.dict xs) = false) : OT P k (.lab a) [⟨a, true, .dic []⟩] (.dict [])
theorem OT.no {P : D → Bool} {k : Nat} {z : Z} {m : List Cl} {d : D} (h : OT P k z m d) : P d = false := by
  cases h with
  | pl h1 h2 h3 => assumption
  | ls _ _ _ h3 _ => exact h3 _
  | dc _ h3 => exact h3 _
theorem sh_dict0 : ShOk (.dict []) := ⟨by decide +kernel, by decide +kernel, by decide +kernel, by decide +kernel⟩
theorem OT.sh {P : D → Bool} {k : Nat} {z : Z} {m : List Cl} {d : D} (h : OT P k z m d) (hk : k ≤ 4) : ShOk d := by
  cases h with
  | pl h1 h2 h3 => assumption
  | ls _ _ h _ _ => exact h k hk
  | dc _ _ => exact sh_dict0
theorem OT.res {P : D → Bool} {k : Nat} {z : Z} {m n : List Cl} {d : D} (h : OT P k z m d) (hs : m ⊆ n) : Res n z d := by
  cases h with
  | pl h1 h2 h3 => exact .d _
  | ls a ds _ _ _ => exact .lab (e := ⟨a, true, .lst ((ds ++ sev k).map Z.d)⟩) (hs List.mem_cons_self) (.lst _)
  | dc a _ => exact .lab (e := ⟨a, true, .dic []⟩) (hs List.mem_cons_self) (.dic [])
end Ux
namespace Ux
open PySem PySem.Spec PyProof.Rows L2 Tq
end Ux
namespace Ux
open PySem PySem.Spec PyProof.Rows L2 Tq
end Ux

namespace Ux
end Ux
namespace Ux
end Ux
namespace Ux
open PySem PySem.Spec PyProof.Rows L2 Tq
theorem ixD_any {ds : List D} {r : Int} {R : D → Prop} (h0 : 0 ≤ r) (h1 : r < ds.length) (h : ∀ n ∈ ds, R n) : ∃ d i g, Z.d (.list ds) = Z.d d ∧ Z.d (.int r) = Z.d (.int i) ∧ dIx d i = some g ∧ R g := by
  obtain ⟨u, hu, hm⟩ := atI_mem (xs := ds) h0 h1
  exact ⟨_, _, u, rfl, rfl, hu, h u hm⟩
end Ux

set_option maxRecDepth 100000
set_option maxHeartbeats 4000000
namespace Ux
open PySem PySem.Spec PyProof.Rows L2 Tq
/-! ### isinstance(e, C) of the exception that a suite holds -/
def rIsX (K : Fg) (cls : Value) (d : Option Addr) (D a : Addr) : List V → Hp → VK → Prop := fun xs H Q => ∃ (T dd : Addr) (fs : List (Str × V)) (b : Bool), cls = .ref D ∧ d = some dd ∧ H dd = some (.xd fs) ∧ xs = [.ref a, .ref T] ∧ PySem.W.kitOne K (.ref D) (.ref T) = some b ∧ Q (.bl b) H
def tIsX (K : Fg) (cls : Value) (d : Option Addr) (D a T : Addr) (te : TE) : TE := tCB (rIsX K cls d D a) (tCons te (tCons (tC (.ref T)) tNil))
theorem wE_isX {C : Ct} {y : S} {Q : Z → S → Prop} {a dd D T : Addr} {i : Nat} {z : Z} {cls : Value} {b : Bool} (hk : PySem.W.kitOne C.K (.ref D) (.ref T) = some b) (hc : cls = .ref D) (hi : y.l[i]? = some (some (.exc a dd z))) (q : Q (.d (.bool b)) y) : wE C (tIsX C.K cls (some dd) D a T (tVar i)) y Q := by
  intro F σ H K wd k
  obtain ⟨x, h1, h2⟩ := wd.slot i _ hi
  cases h2 with
  | @exc _ _ v _ n c1 c2 => exact ⟨.ref a, h1, T, dd, _, b, hc, rfl, c1, rfl, hk, k _ H (.d (.bool b)) y wd GoH.refl (Sh.refl y) (.bl b) q⟩
/-! ### is True -/
section
variable {C : Ct} {y : S} {ta tb : TE} {Q : Z → S → Prop}
theorem wE_isB (w : wE C ta y fun z y1 => wE C tb y1 fun z' y2 => ∃ a b, z = .d (.bool a) ∧ z' = .d (.bool b) ∧ Q (.d (.bool (decide (a = b)))) y2) : wE C (tOp rIsB ta tb) y Q := by
  refine wE_op (res := fun d e r => ∃ a b, d = .bool a ∧ e = .bool b ∧ r = .bool (decide (a = b))) ?_ (wE_mono w fun z y1 h => wE_mono h fun z' y2 ⟨a, b, e1, e2, q⟩ => ⟨_, _, _, e1, e2, ⟨a, b, rfl, rfl, rfl⟩, q⟩)
  rintro M H x u d e r Q _ rx ru ⟨a, b, rfl, rfl, rfl⟩ k
  exact ⟨a, b, rp_bl rx, rp_bl ru, k _ H (fun _ _ e => e) (.bl _)⟩
theorem wE_notB (w : wE C ta y fun z y1 => wE C tb y1 fun z' y2 => ∃ a b, z = .d (.bool a) ∧ z' = .d (.bool b) ∧ Q (.d (.bool (!decide (a = b)))) y2) : wE C (tOp rNotB ta tb) y Q := by
  refine wE_op (res := fun d e r => ∃ a b, d = .bool a ∧ e = .bool b ∧ r = .bool (!decide (a = b))) ?_ (wE_mono w fun z y1 h => wE_mono h fun z' y2 ⟨a, b, e1, e2, q⟩ => ⟨_, _, _, e1, e2, ⟨a, b, rfl, rfl, rfl⟩, q⟩)
  rintro M H x u d e r Q _ rx ru ⟨a, b, rfl, rfl, rfl⟩ k
  exact ⟨a, b, rp_bl rx, rp_bl ru, k _ H (fun _ _ e => e) (.bl _)⟩
end
end Ux
namespace Ux
open PySem PySem.Spec PyProof.Rows L2 Tq
/-! ### d[k] = v -/
theorem RwK.keys {K : Fg} {M : Addr → Prop} {H : Hp} : ∀ {vs : List (Key × V)} {zs : List (Key × Z)}, RwK K M H vs zs → vs.map (·.1) = zs.map (·.1)
  | _, _, .nil => rfl
  | _, _, .cons _ b => congrArg (_ :: ·) b.keys
theorem RwK.len {K : Fg} {M : Addr → Prop} {H : Hp} : ∀ {vs : List (Key × V)} {zs : List (Key × Z)}, RwK K M H vs zs → vs.length = zs.length
  | _, _, .nil => rfl
  | _, _, .cons _ b => congrArg (· + 1) b.len
theorem RwK.snoc {K : Fg} {M : Addr → Prop} {H : Hp} {k : Key} {v : V} {z : Z} (r : Rw K M H v z) : ∀ {vs : List (Key × V)} {zs : List (Key × Z)}, RwK K M H vs zs → RwK K M H (vs ++ [(k, v)]) (zs ++ [(k, z)])
  | _, _, .nil => .cons r .nil
  | _, _, .cons a b => .cons a (b.snoc r)
end Ux
namespace Ux
open PySem PySem.Spec PyProof.Rows L2 Tq
def putZ (kvs : List (Key × Z)) (k : Key) (z : Z) : List (Key × Z) :=
  if (kvs.any fun kv => decide (kv.1 = k)) = true then kvs.map (fun kv => if kv.1 = k then (kv.1, z) else kv) else kvs ++ [(k, z)]
def putKD (kvs : List (Key × D)) (k : Key) (d : D) : List (Key × D) :=
  if (kvs.any fun kv => decide (kv.1 = k)) = true then kvs.map (fun kv => if kv.1 = k then (kv.1, d) else kv) else kvs ++ [(k, d)]
theorem rwk_map {K : Fg} {M : Addr → Prop} {H : Hp} {k : Key} {v : V} {z : Z} (r : Rw K M H v z) : ∀ {vs : List (Key × V)} {zs : List (Key × Z)}, RwK K M H vs zs → RwK K M H (vs.map fun kv => if kv.1 = k then (kv.1, v) else kv) (zs.map fun kv => if kv.1 = k then (kv.1, z) else kv)
  | _, _, .nil => .nil
  | (j, _) :: _, _, .cons a b => by
    rw [List.map_cons, List.map_cons]
    by_cases h : j = k
    · rw [if_pos (show (j, _).1 = k from h), if_pos (show (j, _).1 = k from h)]; exact .cons r (rwk_map r b)
    · rw [if_neg (show ¬ (j, _).1 = k from h), if_neg (show ¬ (j, _).1 = k from h)]; exact .cons a (rwk_map r b)
theorem rwk_any {K : Fg} {M : Addr → Prop} {H : Hp} {k : Key} : ∀ {vs : List (Key × V)} {zs : List (Key × Z)}, RwK K M H vs zs → (vs.any fun kv => decide (kv.1 = k)) = (zs.any fun kv => decide (kv.1 = k))
  | _, _, .nil => rfl
  | _, _, .cons _ b => by rw [List.any_cons, List.any_cons, rwk_any b]
theorem RwK.put {K : Fg} {M : Addr → Prop} {H : Hp} {k : Key} {v : V} {z : Z} (r : Rw K M H v z) {vs : List (Key × V)} {zs : List (Key × Z)} (h : RwK K M H vs zs) : RwK K M H (putK vs k v) (putZ zs k z) := by
  unfold putK putZ
  rw [rwk_any h]
  split
  · exact rwk_map r h
  · exact h.snoc r
/-! ### odd things, handed on as they are -/
inductive Cont where
  | pl (d : D)
  | ls (ds : List D)
  | dc (kvs : List (Key × D))
def Cont.dat : Cont → D
  | .pl d => d
  | .ls ds => .list ds
  | .dc kvs => dD kvs
def Cont.gr : Cont → Cont
  | .pl d => .pl d
  | .ls ds => .ls (ds ++ [.str "more"])
  | .dc kvs => .dc (putKD kvs (.inr "more") (.int 1))
def Cont.len : Cont → Nat
  | .pl _ => 0
  | .ls ds => ds.length
  | .dc kvs => kvs.length
def Cont.plain : Cont → Bool
  | .pl d => !isT "list" d && !isT "dict" d
  | _ => true
inductive Th : Z → List (Addr × Cell) → Cont → Prop
  | pl (d : D) : Th (.d d) [] (.pl d)
  | ls (a : Addr) (ds : List D) : Th (.lab a) [(a, .lst (ds.map Z.d))] (.ls ds)
  | dc (a : Addr) (kvs : List (Key × D)) : Th (.lab a) [(a, .dic (kvD kvs))] (.dc kvs)
def toCl (b : Bool) (nw : List (Addr × Cell)) : List Cl := nw.map fun e => ⟨e.1, b, e.2⟩
theorem Th.res {z : Z} {nw : List (Addr × Cell)} {c : Cont} {b : Bool} {m : List Cl} (h : Th z nw c) (hs : toCl b nw ⊆ m) : Res m z c.dat := by
  cases h with
  | pl d => exact .d _
  | ls a ds => exact .lab (e := ⟨a, b, .lst (ds.map Z.d)⟩) (hs List.mem_cons_self) (.lst _)
  | dc a kvs => exact .lab (e := ⟨a, b, .dic (kvD kvs)⟩) (hs List.mem_cons_self) (.dic _)
/-- a draw that hands out a thing, new where it may change -/
def oSp (K : Fg) (cost : Nat) (post : Z → List (Addr × Cell) → Prop) : Sp := fun vs H Q _ => ∃ (M : Addr → Prop) (p : Addr) (m : Nat), vs = [.ref p] ∧ M p ∧ (∀ a, M a → H a ≠ none) ∧ PuOk H p m ∧ cost ≤ m ∧
  ∀ z nw v H', post z nw → (∀ a o, a ≠ p → H a = some o → H' a = some o) → PuOk H' p (m - cost) → (∀ e ∈ nw, H e.1 = none) → (nw.Pairwise fun e e' => e.1 ≠ e'.1) →
    (∀ e ∈ nw, CellOk K (fun a => M a ∨ ∃ e ∈ nw, e.1 = a) H' e.1 e.2) → Rw K (fun a => M a ∨ ∃ e ∈ nw, e.1 = a) H' v z → Q v H'
end Ux

namespace Ux
open PySem PySem.Spec PyProof.Rows L2 Tq
theorem Th.ro {z : Z} {nw : List (Addr × Cell)} {c : Cont} (h : Th z nw c) : ∀ e ∈ nw, e.2.isRo = false := by
  cases h with
  | pl d => intro e he; cases he
  | ls a ds => intro e he; rw [List.mem_singleton] at he; subst he; rfl
  | dc a kvs => intro e he; rw [List.mem_singleton] at he; subst he; rfl
/-- the call of such a draw -/
theorem wE_odd {C : Ct} {y : S} {E : XK} {cost : Nat} {post : Z → List (Addr × Cell) → Prop} {Q : Z → S → Prop} {i j : Nat} {p : Addr} {b : Bool} {m0 : Nat} (hi : y.l[i]? = some (some (.lab p))) (hj : y.m[j]? = some ⟨p, b, .pu m0⟩) (hm : cost ≤ m0)
    (q : ∀ z nw, post z nw → Q z ⟨y.l, y.m.set j ⟨p, b, .pu (m0 - cost)⟩ ++ toCl true nw⟩) : wE C (tCall (oSp C.K cost post) [] E (tCons (tVar i) tNil)) y Q := by
  intro F σ H K wd k
  obtain ⟨x, h1, h2⟩ := wd.slot i _ hi
  cases h2
  have hmm : (⟨p, b, .pu m0⟩ : Cl) ∈ y.m := List.mem_of_getElem? hj
  refine ⟨.ref p, h1, ?_⟩
  show oSp C.K cost post ([.ref p] ++ []) H K E
  rw [List.append_nil]
  refine ⟨Mv F σ y, p, m0, rfl, .inr ⟨_, hmm, rfl⟩, fun a m e => wd.new e m, wd.cell _ hmm, hm, fun z nw v H' hp kp pk fr pw cs rv => ?_⟩
  have pd : DomW y.m p := ⟨_, hmm, rfl, rfl⟩
  have lvp : H' p ≠ none := by
    obtain ⟨x, b, c, e, _⟩ := pk
    rw [e]; simp
  have inset : ∀ e ∈ y.m.set j ⟨p, b, .pu (m0 - cost)⟩, e.a = p → e = ⟨p, b, .pu (m0 - cost)⟩ := fun e he hq => by
    obtain ⟨i', hi'⟩ := List.getElem?_of_mem he
    have pws := pw_set wd.dist hj (e' := ⟨p, b, .pu (m0 - cost)⟩) rfl
    obtain ⟨hl, _⟩ := List.getElem?_eq_some_iff.mp hj
    have hjj : (y.m.set j ⟨p, b, .pu (m0 - cost)⟩)[j]? = some ⟨p, b, .pu (m0 - cost)⟩ := List.getElem?_set_self hl
    by_cases n : i' = j
    · subst n; rw [hjj] at hi'; cases hi'; rfl
    · exfalso
      rw [List.pairwise_iff_getElem] at pws
      obtain ⟨hi1, hi2⟩ := List.getElem?_eq_some_iff.mp hi'
      obtain ⟨hj1, hj2⟩ := List.getElem?_eq_some_iff.mp hjj
      rcases Nat.lt_or_gt_of_ne n with n | n
      · have := pws i' j hi1 hj1 n; rw [hi2, hj2] at this; exact this hq
      · have := pws j i' hj1 hi1 n; rw [hi2, hj2] at this; exact this hq.symm
  have old : ∀ e ∈ y.m.set j ⟨p, b, .pu (m0 - cost)⟩, ∃ e0 ∈ y.m, e0.a = e.a ∧ (e.own = true → e0.own = true) ∧ (e.c.isRo = false → e0.c.isRo = false) := fun e he => by
    rcases mem_set_or he with he | he
    · subst he; exact ⟨_, hmm, rfl, fun z => z, fun _ => rfl⟩
    · exact ⟨e, he, rfl, fun z => z, fun z => z⟩
  have key := wd.store (m := y.m.set j ⟨p, b, .pu (m0 - cost)⟩ ++ toCl true nw) (H' := H') (fun a o n e => kp a o (fun z => n (z ▸ pd)) e)
    (fun a ⟨e, h1, h2⟩ z => by
      by_cases ha : a = p
      · exact lvp (ha ▸ z)
      · cases r : H a with
        | none => exact (wd.cell e h1).live (h2 ▸ r)
        | some o => rw [kp a o ha r] at z; cases z)
    (fun e he => by
      rcases List.mem_append.mp he with he | he
      · exact .inl (old e he)
      · obtain ⟨e', h1, rfl⟩ := List.mem_map.mp he
        exact .inr (fr e' h1))
    (by
      rw [List.pairwise_append]
      refine ⟨pw_set wd.dist hj rfl, by unfold toCl; rw [List.pairwise_map]; exact pw, fun e he e2 he2 z => ?_⟩
      obtain ⟨e', h1', rfl⟩ := List.mem_map.mp he2
      obtain ⟨e0, q1, q2, _⟩ := old e he
      exact (wd.cell e0 q1).live (by rw [q2, z]; exact fr e' h1'))
    (fun g e he => by
      rcases List.mem_append.mp he with he | he
      · by_cases hq : e.a = p
        · rw [inset e he hq]; exact pk
        · rcases mem_set_or he with he | he
          · subst he; exact absurd rfl hq
          · exact (wd.cell e he).go g fun o r => kp _ _ hq r
      · obtain ⟨e', h1', rfl⟩ := List.mem_map.mp he
        refine (cs e' h1').go (fun a o n e => ⟨fun z => n ?_, e⟩) fun _ r => r
        rcases z with z | ⟨e2, h2, h3⟩
        · exact .inl (.inl z)
        · rcases List.mem_append.mp h2 with h2 | h2
          · obtain ⟨e0, q1, q2, _⟩ := old e2 h2
            exact .inl (.inr ⟨e0, q1, q2.trans h3⟩)
          · obtain ⟨e3, h4, rfl⟩ := List.mem_map.mp h2
            exact .inr ⟨e3, h4, h3⟩)
  refine k v H' z _ key.1 key.2 ⟨rfl, toCl true nw, ?_⟩ (Rw.z (rv.go fun a o n e => ⟨fun z => n ?_, e⟩)) (q z nw hp)
  · show ao (y.m.set j ⟨p, b, .pu (m0 - cost)⟩ ++ toCl true nw) = ao y.m ++ ao (toCl true nw)
    unfold ao
    rw [List.map_append]
    congr 1
    apply List.ext_getElem?
    intro i'
    by_cases n : i' = j
    · subst n
      obtain ⟨hl, _⟩ := List.getElem?_eq_some_iff.mp hj
      rw [List.getElem?_map, List.getElem?_map, List.getElem?_set_self hl, hj]
      rfl
    · rw [List.getElem?_map, List.getElem?_map, List.getElem?_set_ne (Ne.symm n)]
  · rcases z with z | ⟨e2, h2, h3⟩
    · exact .inl (.inl z)
    · rcases List.mem_append.mp h2 with h2 | h2
      · obtain ⟨e0, q1, q2, _⟩ := old e2 h2
        exact .inl (.inr ⟨e0, q1, q2.trans h3⟩)
      · obtain ⟨e3, h4, rfl⟩ := List.mem_map.mp h2
        exact .inr ⟨e3, h4, h3⟩
end Ux
namespace Ux
open PySem PySem.Spec PyProof.Rows L2 Tq
/-! ### the very same thing: it grows, and is shown alike -/
structure VOk (c : Cont) : Prop where
  pl : c.plain = true
  ln : c.len < 1000
  sh : ShOk c.gr.dat
def vSp (K : Fg) : Sp := fun vs H Q _ => ∃ (M : Addr → Prop) (z : Z) (nw : List (Addr × Cell)) (c : Cont) (v v' : V), vs = [v, v'] ∧ (∀ a, M a → H a ≠ none) ∧ (∀ e ∈ nw, M e.1 ∧ CellOk K M H e.1 e.2) ∧ Rw K M H v z ∧ Rw K M H v' z ∧ Th z nw c ∧ VOk c ∧
  ∀ nw' H', Th z nw' c.gr → (∀ a o, (∀ e ∈ nw, e.1 ≠ a) → H a = some o → H' a = some o) → (∀ e ∈ nw', CellOk K M H' e.1 e.2) → Q (.bl true) H'
def setN (m : List Cl) (j : Nat) (b : Bool) : List (Addr × Cell) → List Cl
  | [] => m
  | (a, c) :: _ => m.set j ⟨a, b, c⟩
theorem wE_very {C : Ct} {y : S} {ts : TA} {E : XK} {Q : Z → S → Prop} (w : wZ C ts y fun zs y1 => ∃ z nw c j b, zs = [z, z] ∧ Th z nw c ∧ VOk c ∧ (∀ e ∈ nw, y1.m[j]? = some ⟨e.1, b, e.2⟩) ∧ ∀ nw', Th z nw' c.gr → Q (.d (.bool true)) ⟨y1.l, setN y1.m j b nw'⟩) :
    wE C (tCall (vSp C.K) [] E ts) y Q := by
  intro F σ H K wd k
  refine w F σ H _ wd fun vs H1 zs y1 w1 g1 s1 r1 ⟨z, nw, c, j, b, ez, th, vo, hj, q⟩ => ?_
  subst ez
  cases r1 with | @cons v _ vs _ rv r2 =>
  cases r2 with | @cons v2 _ vs2 _ rv2 r3 =>
  cases r3
  refine ⟨Mv F σ y1, z, nw, c, v, v2, rfl, fun a m e => w1.new e m, fun e he => ?_, rv, rv2, th, vo, fun nw' H' th' kp cs => ?_⟩
  · have hm := List.mem_of_getElem? (hj e he)
    exact ⟨.inr ⟨_, hm, rfl⟩, w1.cell _ hm⟩
  · cases th with
    | pl d =>
      cases th' with
      | pl _ =>
        have gr : ∀ a o, H1 a = some o → H' a = some o := fun a o e => kp a o (fun _ z => nomatch z) e
        exact k _ H' (.d (.bool true)) y1 (w1.grow gr) (g1.trans (go_grow gr)) s1 (.bl true) (q [] (.pl d))
    | ls a ds =>
      cases th' with
      | ls _ ds' =>
        have hc := cs _ List.mem_cons_self
        obtain ⟨w2, g2, s2⟩ := w1.cmut (H' := H') (c' := .lst ((ds ++ [PyData.str "more"]).map Z.d)) (hj _ List.mem_cons_self) rfl rfl (fun x o n e => kp x o (fun e' he => by rw [List.mem_singleton] at he; subst he; exact fun z => n z.symm) e)
          fun M sb g => hc.go (fun a o n e => ⟨fun z => n (sb a z), e⟩) fun _ r => r
        exact k _ H' (.d (.bool true)) _ w2 (g1.trans g2) (s1.trans s2) (.bl true) (q _ (.ls a _))
    | dc a kvs =>
      cases th' with
      | dc _ kvs' =>
        have hc := cs _ List.mem_cons_self
        obtain ⟨w2, g2, s2⟩ := w1.cmut (H' := H') (c' := .dic (kvD (putKD kvs (.inr "more") (.int 1)))) (hj _ List.mem_cons_self) rfl rfl (fun x o n e => kp x o (fun e' he => by rw [List.mem_singleton] at he; subst he; exact fun z => n z.symm) e)
          fun M sb g => hc.go (fun a o n e => ⟨fun z => n (sb a z), e⟩) fun _ r => r
        exact k _ H' (.d (.bool true)) _ w2 (g1.trans g2) (s1.trans s2) (.bl true) (q _ (.dc a _))
end Ux
namespace Ux
open PySem PySem.Spec PyProof.Rows L2 Tq
def tDispL : List (TE × TE) → TE := tDisp
section
variable {C : Ct} {y : S} {Q : Z → S → Prop}
theorem xE_dispS {k : Str} {v : V} {d : D} (s : Sc v d) (q : ∀ p, Q (.lab p) ⟨y.l, y.m ++ [⟨p, true, .dic [(.inr k, .d d)]⟩]⟩) : wE C (tDispL [(tC (.str k), tC v)]) y Q := wE_dispL (kk := .inr k) s q
theorem xE_dispI {k : Int} {v : V} {d : D} (s : Sc v d) (q : ∀ p, Q (.lab p) ⟨y.l, y.m ++ [⟨p, true, .dic [(.inl k, .d d)]⟩]⟩) : wE C (tDispL [(tC (.int k), tC v)]) y Q := wE_dispL (kk := .inl k) s q
end
end Ux
namespace Ux
open PySem PySem.Spec PyProof.Rows L2 Tq
end Ux

set_option maxRecDepth 100000
set_option maxHeartbeats 4000000
namespace Ux
open PySem PySem.Spec PyProof.Rows L2 Tq
/-! ### x == [] -/
def rEqNil (K : Fg) : R2 := fun x y H Q => ∃ a b xs, x = .ref a ∧ y = .ref b ∧ SqL K H a xs ∧ SqL K H b [] ∧ Q (.bl (decide (xs.length = 0))) H
theorem op_eqNil {X : Cx} (hu : X.A.units + 64 < cLine) : OpR X (compareOp .Eq) (rEqNil X.K) := by
  intro pins s σ H x y v u Q I rx ry h
  obtain ⟨a, b, xs, rfl, rfl, ha, hb, q⟩ := h
  cases (show v = Value.ref a from rx)
  cases (show u = Value.ref b from ry)
  obtain ⟨us, r1, p1, _⟩ := I.list ha
  obtain ⟨ws, r2, p2, _⟩ := I.list hb
  have hw : ws = [] := by cases r2; rfl
  subst hw
  have h1 : us.length = xs.length := r1.length.symm
  by_cases e : xs.length = 0
  · have hsz : us.toArray.size = ([] : List Value).toArray.size := by rw [List.size_toArray, h1, e]; rfl
    refine SeqAt.rcP_lists (e := fun _ => true) p1.isList p2.isList hsz (by omega) (fun j h1 h2 => absurd h2 (Nat.not_lt_zero j)) _ _ ?_
    rw [show ((List.range us.toArray.size).all fun _ => true) = true from List.all_eq_true.mpr fun _ _ => rfl]
    rw [decide_eq_true e] at q
    exact ⟨.bl true, H, I, rfl, q⟩
  · refine SeqAt.RcAt.lists_lengths p1.isList p2.isList ?_ (by omega) _ _ _ _ ?_
    · rw [List.size_toArray, h1]
      simpa using e
    · rw [decide_eq_false e] at q
      exact ⟨.bl false, H, I, rfl, q⟩
theorem eqNilK {X : Cx} (K : Fg) (hu : X.A.units + 64 < cLine) (h : X.K = K := by rfl) : OpR X (compareOp .Eq) (rEqNil K) := h ▸ op_eqNil hu
section
variable {C : Ct} {y : S} {ta tb te : TE} {tt : TT} {tx : TS} {e : En} {Q : Z → S → Prop}
theorem wE_eqNil (w : wE C ta y fun z y1 => wE C tb y1 fun z' y2 => ∃ xs, lstZ z = some xs ∧ z' = .d (.list []) ∧ Q (.d (.bool (decide (xs.length = 0)))) y2) : wE C (tOp (rEqNil C.K) ta tb) y Q := by
  intro F σ H K wd k
  refine w F σ H _ wd fun x H1 z y1 w1 g1 s1 r1 q1 => ?_
  refine q1 F σ H1 _ w1 fun x2 H2 z' y2 w2 g2 s2 r2 q2 => ?_
  obtain ⟨xs, e1, rfl, hq⟩ := q2
  obtain ⟨a, us, rfl, h1, h2⟩ := rw_lst (r1.w.go g2) e1
  obtain ⟨b, vs, rfl, h3, h4⟩ := rp_lst r2
  cases h4
  exact ⟨a, b, us, rfl, rfl, h1.sq, h3.sq, k _ H2 (.d (.bool _)) y2 w2 (g1.trans g2) (s1.trans s2) (.bl _) (by rw [h2.len]; exact hq)⟩
/-! ### lists with labels gone through -/
def JOkZ (C : Ct) (F : Fr) (J : It) (σ : St) (y : S) (H : Hp) (xs : List Z) : Prop := ∀ (F1 : Fr) σ1 y1 H1, Wd0 C.K F1 σ1 y1 H1 → GoH (Mv F σ y) H (Mv F1 σ1 y1) H1 → ∀ i : Nat, (i < xs.length → J.go i H1) ∧ (xs.length ≤ i → J.stop i H1) ∧
  ∀ x, xs[i]? = some x → ∀ v H2, J.yld i H1 v H2 → (∀ a o, H1 a = some o → H2 a = some o) ∧ Rw C.K (Mv F1 σ1 y1) H2 v x
def wIZ (C : Ct) (wi : TI) (y : S) (Q : List Z → S → Prop) : Prop := ∀ (F : Fr) σ H (R : It → Hp → Prop), Wd C F σ y H → (∀ J H' xs y', Wd C F σ y' H' → Go F σ y H σ y' H' → Sh y y' → JOkZ C F J σ y' H' xs → Q xs y' → R J H') → wi σ H R
variable {Qi : List Z → S → Prop} {wi : TI}
theorem wIZ_list (w : wE C te y fun z y1 => ∃ xs, lstZ z = some xs ∧ Qi xs y1) : wIZ C (iList C.K te) y Qi := by
  intro F σ H R wd k
  refine w F σ H _ wd fun v H1 z y1 w1 g1 s1 r1 q => ?_
  obtain ⟨xs, ez, q⟩ := q
  obtain ⟨a, us, rfl, h1, h2⟩ := rw_lst r1.w ez
  refine ⟨a, rfl, ⟨us, h1.sq⟩, k _ H1 xs y1 w1 g1 s1 (fun F1 σ2 y2 H2 w2 g2 i => ?_) q⟩
  have e1 := (h1.go g2).sq
  have e2 := h2.go g2
  refine ⟨fun hi => ?_, fun hi => ⟨us, e1, by rw [h2.len]; exact hi⟩, fun x hx v H3 hy => ?_⟩
  · have : i < us.length := by rw [h2.len]; exact hi
    exact ⟨us, us[i], e1, by simp [this]⟩
  · obtain ⟨rfl, hv⟩ := hy
    obtain ⟨d, hd, rd⟩ := e2.getV (hv us e1)
    rw [hx] at hd
    cases hd
    exact ⟨fun _ _ e => e, rd⟩
variable {g : TG}
end
/-! ### defs that change what they are handed -/
def mSp (K : Fg) (n : Nat) (pre : List (Addr × Cell) → List Z → Prop) (post : List (Addr × Cell) → List Z → D → List (Addr × Cell) → Prop) : Sp := fun vs H Q _ => ∃ (M : Addr → Prop) (m : List (Addr × Cell)) (zs : List Z), (∀ a, M a → H a ≠ none) ∧ RwA K M H vs zs ∧ (∀ e ∈ m, M e.1 ∧ CellOk K M H e.1 e.2 ∧ e.2.isRo = false) ∧ (m.Pairwise fun e e' => e.1 ≠ e'.1) ∧ zs.length = n ∧ pre m zs ∧
  ∀ d v m' H', post m zs d m' → scD d = true → m'.map (·.1) = m.map (·.1) → (∀ e ∈ m', e.2.isRo = false) → (∀ a o, (∀ e ∈ m, e.1 ≠ a) → H a = some o → H' a = some o) → (∀ e ∈ m', CellOk K M H' e.1 e.2) → Rp K M H' v d → Q v H'
theorem wE_m {C : Ct} {y : S} {ts : TA} {E : XK} {Q : Z → S → Prop} {n : Nat} {pre : List (Addr × Cell) → List Z → Prop} {post : List (Addr × Cell) → List Z → D → List (Addr × Cell) → Prop}
    (w : wZ C ts y fun zs y1 => ∃ A m B b, y1.m = A ++ toCl b m ++ B ∧ (∀ e ∈ m, e.2.isRo = false) ∧ zs.length = n ∧ pre m zs ∧ ∀ d m', post m zs d m' → m'.map (·.1) = m.map (·.1) → (∀ e ∈ m', e.2.isRo = false) → Q (.d d) ⟨y1.l, A ++ toCl b m' ++ B⟩) :
    wE C (tCall (mSp C.K n pre post) [] E ts) y Q := by
  intro F σ H K wd k
  refine w F σ H _ wd fun vs H1 zs y1 w1 g1 s1 r1 ⟨A, m, B, b, em, ro, hn, hp, q⟩ => ?_
  show mSp C.K n pre post (vs ++ []) H1 K E
  rw [List.append_nil]
  have mem : ∀ e ∈ m, (⟨e.1, b, e.2⟩ : Cl) ∈ y1.m := fun e he => by
    rw [em]; exact List.mem_append.mpr (.inl (List.mem_append.mpr (.inr (List.mem_map.mpr ⟨e, he, rfl⟩))))
  have dist := w1.dist
  rw [em] at dist
  have pwm : m.Pairwise fun e e' => e.1 ≠ e'.1 := by
    have := (List.pairwise_append.mp (List.pairwise_append.mp dist).1).2.1
    unfold toCl at this
    rw [List.pairwise_map] at this
    exact this
  refine ⟨Mv F σ y1, m, zs, fun a m e => w1.new e m, r1, fun e he => ⟨.inr ⟨_, mem e he, rfl⟩, w1.cell _ (mem e he), ro e he⟩, pwm, hn, hp, fun d v m' H' hq hs ha ro' kp cs rv => ?_⟩
  have aeq : (A ++ toCl b m' ++ B).map (·.a) = y1.m.map (·.a) := by
    rw [em]
    simp only [List.map_append, toCl, List.map_map]
    congr 2
  have aoeq : ao (A ++ toCl b m' ++ B) = ao y1.m := by
    rw [em]
    unfold ao
    simp only [List.map_append]
    congr 2
    unfold toCl
    rw [List.map_map, List.map_map]
    have e1 : ∀ l : List (Addr × Cell), (∀ e ∈ l, e.2.isRo = false) → l.map ((fun e : Cl => (e.a, e.own, e.c.isRo)) ∘ fun e => (⟨e.1, b, e.2⟩ : Cl)) = (l.map (·.1)).map fun a => (a, b, false) := fun l hl => by
      rw [List.map_map]
      exact List.map_congr_left fun e he => by show (e.1, b, e.2.isRo) = (e.1, b, false); rw [hl e he]
    rw [e1 m' ro', e1 m ro, ha]
  have inm : ∀ a, (∃ e ∈ m, e.1 = a) ↔ ∃ e ∈ m', e.1 = a := fun a => by
    have e1 : ∀ l : List (Addr × Cell), (∃ e ∈ l, e.1 = a) ↔ a ∈ l.map (·.1) := fun l => List.mem_map.symm
    rw [e1, e1, ha]
  have old : ∀ e ∈ A ++ toCl b m' ++ B, ∃ e0 ∈ y1.m, e0.a = e.a ∧ (e.own = true → e0.own = true) ∧ (e.c.isRo = false → e0.c.isRo = false) := fun e he => by
    obtain ⟨e', h1, h2, h3, h4⟩ := own_ao aoeq he
    exact ⟨e', h1, h2, fun z => h3.trans z, fun z => h4.trans z⟩
  have lv : ∀ a, Dom y1.m a → H' a ≠ none := fun a ⟨e, h1, h2⟩ z => by
    by_cases ha : ∃ e ∈ m, e.1 = a
    · obtain ⟨e', q1, q2⟩ := (inm a).mp ha
      exact (cs e' q1).live (q2 ▸ z)
    · cases r : H1 a with
      | none => exact (w1.cell e h1).live (h2 ▸ r)
      | some o => rw [kp a o (fun e he q => ha ⟨e, he, q⟩) r] at z; cases z
  have key := w1.store (m := A ++ toCl b m' ++ B) (H' := H') (fun a o n e => kp a o (fun e' he' z => n ⟨_, mem e' he', z, ro e' he'⟩) e) lv (fun e he => .inl (old e he))
    (by
      have p1 : ∀ l : List Cl, (l.Pairwise fun e e' => e.a ≠ e'.a) ↔ (l.map (·.a)).Pairwise (· ≠ ·) := fun l => by rw [List.pairwise_map]
      rw [p1, aeq, ← p1]
      exact w1.dist)
    (fun g e he => by
      by_cases hq : ∃ e' ∈ m', (⟨e'.1, b, e'.2⟩ : Cl) = e
      · obtain ⟨e', h1', rfl⟩ := hq
        refine (cs e' h1').go (fun a o n e => ⟨fun z => n ?_, e⟩) fun _ r => r
        rcases z with z | ⟨e2, h2, h3⟩
        · exact .inl z
        · obtain ⟨e0, q1, q2, _⟩ := old e2 h2
          exact .inr ⟨e0, q1, q2.trans h3⟩
      · have hAB : e ∈ A ∨ e ∈ B := by
          rcases List.mem_append.mp he with he | he
          · rcases List.mem_append.mp he with he | he
            · exact .inl he
            · obtain ⟨e', h1', rfl⟩ := List.mem_map.mp he
              exact absurd ⟨e', h1', rfl⟩ hq
          · exact .inr he
        have hy : e ∈ y1.m := by
          rw [em]
          rcases hAB with h | h
          · exact List.mem_append.mpr (.inl (List.mem_append.mpr (.inl h)))
          · exact List.mem_append.mpr (.inr h)
        refine (w1.cell e hy).go g fun o r => kp _ _ (fun e' he' z => ?_) r
        have m1 : (⟨e'.1, b, e'.2⟩ : Cl) ∈ toCl b m := List.mem_map.mpr ⟨e', he', rfl⟩
        rcases hAB with h | h
        · exact (List.pairwise_append.mp (List.pairwise_append.mp dist).1).2.2 e h _ m1 z.symm
        · exact (List.pairwise_append.mp dist).2.2 _ (List.mem_append.mpr (.inr m1)) e h z)
  exact k v H' (.d d) _ key.1 (g1.trans key.2) (s1.trans ⟨rfl, [], by rw [show ao ([] : List Cl) = [] from rfl, List.append_nil]; exact aoeq⟩) (sc_rp hs rv) (q d m' hq ha ro')
/-- the very thing, wherever it lies in the store -/
theorem wE_veryA {C : Ct} {y : S} {ts : TA} {E : XK} {Q : Z → S → Prop} (w : wZ C ts y fun zs y1 => ∃ z nw c A B b, zs = [z, z] ∧ Th z nw c ∧ VOk c ∧ y1.m = A ++ toCl b nw ++ B ∧ ∀ nw', Th z nw' c.gr → Q (.d (.bool true)) ⟨y1.l, A ++ toCl b nw' ++ B⟩) :
    wE C (tCall (vSp C.K) [] E ts) y Q := by
  refine wE_very (wZ_mono w fun zs y1 ⟨z, nw, c, A, B, b, e1, th, vo, em, q⟩ => ⟨z, nw, c, A.length, b, e1, th, vo, fun e he => ?_, fun nw' th' => ?_⟩)
  · cases th with
    | pl d => cases he
    | ls a ds => rw [List.mem_singleton] at he; subst he; rw [em]; simp [toCl]
    | dc a ds => rw [List.mem_singleton] at he; subst he; rw [em]; simp [toCl]
  · have h := q nw' th'
    cases th with
    | pl d =>
      cases th' with
      | pl _ => rw [show y1.m = A ++ toCl b [] ++ B from em]; exact h
    | ls a ds =>
      cases th' with
      | ls _ _ =>
        rw [em]
        show Q _ ⟨_, (A ++ [_] ++ B).set A.length _⟩
        rw [List.append_assoc, List.set_append_right _ _ (Nat.le_refl _), Nat.sub_self]
        simpa [toCl] using h
    | dc a ds =>
      cases th' with
      | dc _ _ =>
        rw [em]
        show Q _ ⟨_, (A ++ [_] ++ B).set A.length _⟩
        rw [List.append_assoc, List.set_append_right _ _ (Nat.le_refl _), Nat.sub_self]
        simpa [toCl] using h
end Ux

set_option maxRecDepth 100000
set_option maxHeartbeats 4000000
/-! x != [] -/
namespace Tq
open PySem PySem.Spec PyProof.Rows L2
def rNeNil (K : Fg) : R2 := fun x y H Q => ∃ a b xs, x = .ref a ∧ y = .ref b ∧ SqL K H a xs ∧ SqL K H b [] ∧ Q (.bl (!decide (xs.length = 0))) H
theorem op_neNil {X : Cx} (hu : X.A.units + 64 < cLine) : OpR X (compareOp .NotEq) (rNeNil X.K) := by
  intro pins s σ H x y v u Q I rx ry h
  obtain ⟨a, b, xs, rfl, rfl, ha, hb, q⟩ := h
  cases (show v = Value.ref a from rx)
  cases (show u = Value.ref b from ry)
  obtain ⟨us, r1, p1, _⟩ := I.list ha
  obtain ⟨ws, r2, p2, _⟩ := I.list hb
  have hw : ws = [] := by cases r2; rfl
  subst hw
  have h1 : us.length = xs.length := r1.length.symm
  by_cases e : xs.length = 0
  · have hsz : us.toArray.size = ([] : List Value).toArray.size := by rw [List.size_toArray, h1, e]; rfl
    refine SeqAt.RcNeAt.lists (e := fun _ => true) p1.isList p2.isList hsz (by omega) (fun j h1 h2 => absurd h2 (Nat.not_lt_zero j)) _ _ _ _ ?_
    rw [show ((List.range us.toArray.size).all fun _ => true) = true from List.all_eq_true.mpr fun _ _ => rfl]
    rw [decide_eq_true e] at q
    exact ⟨.bl false, H, I, rfl, q⟩
  · refine SeqAt.RcNeAt.lists_lengths p1.isList p2.isList ?_ (by omega) _ _ _ _ ?_
    · rw [List.size_toArray, h1]
      simpa using e
    · rw [decide_eq_false e] at q
      exact ⟨.bl true, H, I, rfl, q⟩
theorem neNilK {X : Cx} (K : Fg) (hu : X.A.units + 64 < cLine) (h : X.K = K := by rfl) : OpR X (compareOp .NotEq) (rNeNil K) := h ▸ op_neNil hu
theorem wE_neNil {C : Ct} {y : S} {ta tb : TE} {Q : Z → S → Prop} (w : wE C ta y fun z y1 => wE C tb y1 fun z' y2 => ∃ xs, z = .d (.list xs) ∧ z' = .d (.list []) ∧ Q (.d (.bool (!decide (xs.length = 0)))) y2) : wE C (tOp (rNeNil C.K) ta tb) y Q := by
  refine wE_op (res := fun d e r => ∃ xs, d = .list xs ∧ e = .list [] ∧ r = .bool (!decide (xs.length = 0))) ?_ (wE_mono w fun z y1 h => wE_mono h fun z' y2 ⟨xs, e1, e2, q⟩ => ⟨_, _, _, e1, e2, ⟨xs, rfl, rfl, rfl⟩, q⟩)
  rintro M H x y d e r Q fr rx ry ⟨xs, rfl, rfl, rfl⟩ k
  obtain ⟨a, us, rfl, h1, h2⟩ := rp_lst rx
  obtain ⟨b, vs, rfl, h3, h4⟩ := rp_lst ry
  cases h4
  exact ⟨a, b, us, rfl, rfl, h1.sq, h3.sq, k _ H (fun _ _ e => e) (by rw [h2.len]; exact .bl _)⟩
/-! x not in a tuple of tuples -/
def rNotInTD (K : Fg) : R2 := fun x y H Q => ∃ d ds, Dp K H x d ∧ Dp K H y (.tuple ds) ∧ (SeqAt.shaped d = true ∧ d.depth ≤ 60) ∧ SeqAt.shaped (.tuple ds) = true ∧ Q (.bl (!ds.any fun z => PyData.eqv z d)) H
end Tq
namespace Ux
open PySem PySem.Spec PyProof.Rows L2 Tq
theorem wE_neNil {C : Ct} {y : S} {ta tb : TE} {Q : Z → S → Prop} (w : wE C ta y fun z y1 => wE C tb y1 fun z' y2 => ∃ xs, lstZ z = some xs ∧ z' = .d (.list []) ∧ Q (.d (.bool (!decide (xs.length = 0)))) y2) : wE C (tOp (rNeNil C.K) ta tb) y Q := by
  intro F σ H K wd k
  refine w F σ H _ wd fun x H1 z y1 w1 g1 s1 r1 q1 => ?_
  refine q1 F σ H1 _ w1 fun x2 H2 z' y2 w2 g2 s2 r2 q2 => ?_
  obtain ⟨xs, e1, rfl, hq⟩ := q2
  obtain ⟨a, us, rfl, h1, h2⟩ := rw_lst (r1.w.go g2) e1
  obtain ⟨b, vs, rfl, h3, h4⟩ := rp_lst r2
  cases h4
  exact ⟨a, b, us, rfl, rfl, h1.sq, h3.sq, k _ H2 (.d (.bool _)) y2 w2 (g1.trans g2) (s1.trans s2) (.bl _) (by rw [h2.len]; exact hq)⟩
theorem wE_notInTD {C : Ct} {y : S} {ta tb : TE} {Q : Z → S → Prop} (w : wE C ta y fun z y1 => wE C tb y1 fun z' y2 => ∃ d ds, z = .d d ∧ z' = .d (.tuple ds) ∧ (SeqAt.shaped d = true ∧ d.depth ≤ 60) ∧ SeqAt.shaped (.tuple ds) = true ∧ Q (.d (.bool (!ds.any fun z => PyData.eqv z d))) y2) : wE C (tOp (rNotInTD C.K) ta tb) y Q := by
  refine wE_op (res := fun d e r => ∃ ds, e = .tuple ds ∧ (SeqAt.shaped d = true ∧ d.depth ≤ 60) ∧ SeqAt.shaped (.tuple ds) = true ∧ r = .bool (!ds.any fun z => PyData.eqv z d)) ?_ (wE_mono w fun z y1 h => wE_mono h fun z' y2 ⟨d, ds, e1, e2, s1, s2, q⟩ => ⟨_, _, _, e1, e2, ⟨ds, rfl, s1, s2, rfl⟩, q⟩)
  rintro M H x y d e r Q _ rx ry ⟨ds, rfl, s1, s2, rfl⟩ k
  exact ⟨d, ds, rx.dp (canLay_noDict s1.1), ry.dp (canLay_noDict s2), s1, s2, k _ H (fun _ _ e => e) (.bl _)⟩
end Ux

set_option maxRecDepth 100000
set_option maxHeartbeats 4000000
namespace Ux
open PySem PySem.Spec PyProof.Rows L2 Tq
/-! ### defs with one default, keywords -/
structure DfD (K : Fg) (mg : Str → Option Value) (x : Str) (st : Stmt) (ps : List Str) (dv : V) : Prop where
  ex : ∃ (f : Addr) (fd : FuncData), FunD K x x (defArgs st) (defBody st) (defScope st) [dv] [] f fd ∧ mg x = some (.ref f) ∧ Binds K fd ps [] ∧ (∃ ds, Vals [dv] ds ∧ Binds K fd ps ds) ∧
    ∀ (s : Shared) (us ws : List Value), K.In s.heap → us.length + 1 = ps.length → ws.length = 1 → BindsTo s fd ⟨us, (ps.drop us.length).zip ws⟩ (ps.zip (us ++ ws))
structure CalD (P : Program) (w : World) (K : Fg) (mg : Str → Option Value) (base : Heap) (k : Nat) (x : Str) (ps : List Str) (sp : Sp) (dv : V) : Prop where
  ex : ∃ (f : Addr) (fd : FuncData), Tq.FnG P w K mg base (L2.CX P w) k f fd ps sp ∧ mg x = some (.ref f) ∧ PySem.W.keepIn K (.ref f) = true ∧ Binds K fd ps [] ∧ (∃ ds, Vals [dv] ds ∧ Binds K fd ps ds) ∧
    ∀ (s : Shared) (us ws : List Value), K.In s.heap → us.length + 1 = ps.length → ws.length = 1 → BindsTo s fd ⟨us, (ps.drop us.length).zip ws⟩ (ps.zip (us ++ ws))
section
variable {P : Program} {w : World} {K : Fg} {mg : Str → Option Value} {base : Heap} {k : Nat} {x : Str} {ps N : List Str} {sp : Sp} {st : Stmt} {dv : V}
end
/-! ### comprehensions of things told beforehand; lists taken apart -/
section
variable {C : Ct} {y : S} {ta tb tc te : TE} {tt : TT} {wi : TI} {Q : Z → S → Prop}
variable {g : TG} {Qg : S → Prop}
theorem wG_lst {n : Nat} {gs : TGs} {ds : List D} (hn : ds.length = n) (h : wGs C gs (ds.map Z.d) y Qg) : wG C (gLst C.K n gs) (.d (.list ds)) y Qg := fun F σ H v R wd r k => by
  obtain ⟨a, us, rfl, h1, h2⟩ := rp_lst r
  exact ⟨a, us, rfl, h1.sq, by rw [h2.len]; exact hn, h F σ H us R wd (RwA.of h2) k⟩
end
theorem pgL {X : Cx} {pos : Pos} (K : Fg) {es : List Expr} {k : Nat} {t : TGs} {n : Nat} (hc : X.calm = true) (h : PGs X es t) (hK : X.K = K := by rfl)
    (hn : (assignEach es X.env).length = n := by rfl) (hst : (assignEach es X.env).findIdx? (·.1) = none := by rfl) : PG X (.Tuple es k pos) (gLst K n t) := hK ▸ pg_lst hc h hn hst
theorem Res.str {m : List Cl} {z : Z} {s : Str} (h : Res m z (.str s)) : z = .d (.str s) := by
  cases h with
  | d => rfl
  | lab _ hc => rcases hc.nsc with ⟨_, e⟩ | ⟨_, e⟩ <;> cases e
end Ux

set_option maxRecDepth 100000
set_option maxHeartbeats 4000000
namespace Ux
open PySem PySem.Spec PyProof.Rows L2 Tq
/-! ### defs that may raise and hand out things that are new -/
def xnSp (K : Fg) (n : Nat) (pre : List Z → List D → Prop) (post : List Z → List D → Z → List (Addr × Cell) → Prop) (xp : List Z → List D → Ex → Prop) : Sp := fun vs H Q E => ∃ (M : Addr → Prop) (m : List Cl) (zs : List Z) (ds : List D),
  (∀ a, M a → H a ≠ none) ∧ RwA K M H vs zs ∧ (∀ e ∈ m, M e.a ∧ CellOk K M H e.a e.c) ∧ (m.Pairwise fun e e' => e.a ≠ e'.a) ∧ ResA m zs ds ∧ zs.length = n ∧ pre zs ds ∧
  (∀ z nw v H', post zs ds z nw → (∀ a o, H a = some o → H' a = some o) → (∀ e ∈ nw, H e.1 = none) → (nw.Pairwise fun e e' => e.1 ≠ e'.1) → (∀ e ∈ nw, CellOk K (fun a => M a ∨ ∃ e ∈ nw, e.1 = a) H' e.1 e.2) → Rw K (fun a => M a ∨ ∃ e ∈ nw, e.1 = a) H' v z → Q v H') ∧
  (∀ ex a v H', xp zs ds ex → (∀ a o, H a = some o → H' a = some o) → H a = none → H' a = some (.xd [(keyZ ex.found, v)]) → Rw K M H' v (valZ ex.found) → E ex.cls (some a) H')
section
variable {K : Fg} {N : List Str} {t : TS} {vs : List V} {H : Hp} {Q : VK} {E : XK} {n : Nat} {pre : List Z → List D → Prop} {post : List Z → List D → Z → List (Addr × Cell) → Prop} {xp : List Z → List D → Ex → Prop}
end
section
variable {C : Ct} {y : S} {ts : TA} {te : TE} {Q : Z → S → Prop} {n : Nat} {pre : List Z → List D → Prop} {post : List Z → List D → Z → List (Addr × Cell) → Prop} {xp : List Z → List D → Ex → Prop} {e : En} {E : XK}
theorem xn_call {y1 : S} {F : Fr} {σ : St} {H1 H2 : Hp} {nw : List (Addr × Cell)} (w1 : Wd C F σ y1 H1) (gr : ∀ a o, H1 a = some o → H2 a = some o) (fr : ∀ e ∈ nw, H1 e.1 = none) (pw : nw.Pairwise fun e e' => e.1 ≠ e'.1)
    (cs : ∀ e ∈ nw, CellOk C.K (fun a => Mv F σ y1 a ∨ ∃ e ∈ nw, e.1 = a) H2 e.1 e.2) : Wd C F σ ⟨y1.l, y1.m ++ toCl true nw⟩ H2 ∧ Go F σ y1 H1 σ ⟨y1.l, y1.m ++ toCl true nw⟩ H2 :=
  w1.store (m := y1.m ++ toCl true nw) (H' := H2) (fun a o _ e => gr a o e)
    (fun a ⟨e, h1, h2⟩ z => by
      cases r : H1 a with
      | none => exact (w1.cell e h1).live (h2 ▸ r)
      | some o => rw [gr a o r] at z; cases z)
    (fun e he => by
      rcases List.mem_append.mp he with he | he
      · exact .inl ⟨e, he, rfl, fun z => z, fun z => z⟩
      · obtain ⟨e', h1, rfl⟩ := List.mem_map.mp he
        exact .inr (fr e' h1))
    (by
      rw [List.pairwise_append]
      refine ⟨w1.dist, by unfold toCl; rw [List.pairwise_map]; exact pw, fun e he e2 he2 z => ?_⟩
      obtain ⟨e', h1', rfl⟩ := List.mem_map.mp he2
      exact (w1.cell e he).live (by rw [z]; exact fr e' h1'))
    (fun g e he => by
      rcases List.mem_append.mp he with he | he
      · exact (w1.cell e he).go g fun o r => gr _ _ r
      · obtain ⟨e', h1', rfl⟩ := List.mem_map.mp he
        refine (cs e' h1').go (fun a o n e => ⟨fun z => n ?_, e⟩) fun _ r => r
        rcases z with z | ⟨e2, h2, h3⟩
        · exact .inl (.inl z)
        · rcases List.mem_append.mp h2 with h2 | h2
          · exact .inl (.inr ⟨e2, h2, h3⟩)
          · obtain ⟨e3, h4, rfl⟩ := List.mem_map.mp h2
            exact .inr ⟨e3, h4, h3⟩)
theorem xn_rw {y1 : S} {F : Fr} {σ : St} {H2 : Hp} {nw : List (Addr × Cell)} {v : V} {z : Z} (rv : Rw C.K (fun a => Mv F σ y1 a ∨ ∃ e ∈ nw, e.1 = a) H2 v z) : Rw C.K (Mv F σ ⟨y1.l, y1.m ++ toCl true nw⟩) H2 v z := by
  refine rv.go fun a o n e => ⟨fun z => n ?_, e⟩
  rcases z with z | ⟨e2, h2, h3⟩
  · exact .inl (.inl z)
  · rcases List.mem_append.mp h2 with h2 | h2
    · exact .inl (.inr ⟨e2, h2, h3⟩)
    · obtain ⟨e3, h4, rfl⟩ := List.mem_map.mp h2
      exact .inr ⟨e3, h4, h3⟩
theorem wE_xn (w : wZ C ts y fun zs y1 => ∃ ds, ResA y1.m zs ds ∧ (zs.length = n ∧ pre zs ds) ∧ (∀ z nw, post zs ds z nw → Q z ⟨y1.l, y1.m ++ toCl true nw⟩) ∧ ∀ ex, xp zs ds ex → C.ex ex y1) : wE C (tCallS (xnSp C.K n pre post xp) (WE C.W) ts) y Q := by
  intro F σ H K wd k
  refine w F σ H _ wd fun vs H1 zs y1 w1 g1 s1 r1 ⟨ds, hr, ⟨hn, hp⟩, q, x⟩ => ?_
  refine ⟨Mv F σ y1, y1.m, zs, ds, fun a m e => w1.new e m, r1, fun e he => ⟨.inr ⟨e, he, rfl⟩, w1.cell e he⟩, w1.dist, hr, hn, hp, fun z nw v H2 hz gr fr pw cs rv => ?_, fun ex a v H2 hx gr ha ha2 rv => ?_⟩
  · obtain ⟨w2, g2⟩ := xn_call w1 gr fr pw cs
    exact k v H2 z _ w2 (g1.trans g2) (s1.trans ⟨rfl, toCl true nw, by unfold ao; rw [List.map_append]⟩) (Rw.z (xn_rw rv)) (q z nw hz)
  · exact w1.xk σ y1 H2 ex ex.cls (some a) (w1.grow gr).toWd0 (go_grow gr) ⟨rfl, a, v, rfl, ha2, w1.new ha, w1.newH0 ha, rv⟩ (x ex hx)
abbrev anSp (K : Fg) (n : Nat) (pre : List Z → List D → Prop) (post : List Z → List D → Z → List (Addr × Cell) → Prop) : Sp := xnSp K n pre post fun _ _ _ => False
theorem wE_an (w : wZ C ts y fun zs y1 => ∃ ds, ResA y1.m zs ds ∧ (zs.length = n ∧ pre zs ds) ∧ (∀ z nw, post zs ds z nw → Q z ⟨y1.l, y1.m ++ toCl true nw⟩)) : wE C (tCall (anSp C.K n pre post) [] E ts) y Q := by
  intro F σ H K wd k
  refine w F σ H _ wd fun vs H1 zs y1 w1 g1 s1 r1 ⟨ds, hr, ⟨hn, hp⟩, q⟩ => ?_
  show anSp C.K n pre post (vs ++ []) H1 K E
  rw [List.append_nil]
  refine ⟨Mv F σ y1, y1.m, zs, ds, fun a m e => w1.new e m, r1, fun e he => ⟨.inr ⟨e, he, rfl⟩, w1.cell e he⟩, w1.dist, hr, hn, hp, fun z nw v H2 hz gr fr pw cs rv => ?_, fun ex a v H2 hx => hx.elim⟩
  obtain ⟨w2, g2⟩ := xn_call w1 gr fr pw cs
  exact k v H2 z _ w2 (g1.trans g2) (s1.trans ⟨rfl, toCl true nw, by unfold ao; rw [List.map_append]⟩) (Rw.z (xn_rw rv)) (q z nw hz)
end
/-! ### an own list is frozen -/
theorem wS_frzA {C : Ct} {t : TS} {y : S} {e : En} (i : Nat) {p : Addr} {ds : List D} {A B : List Cl} (hi : y.l[i]? = some (some (.lab p))) (hm : y.m = A ++ ⟨p, true, .lst (ds.map Z.d)⟩ :: B) (w : wS C t ⟨y.l.set i (some (.d (.list ds))), A ++ B⟩ e) : wS C t y e := by
  intro F σ H E st wd k
  obtain ⟨yl, ym⟩ := y
  have hm : ym = A ++ ⟨p, true, .lst (ds.map Z.d)⟩ :: B := hm
  subst hm
  have pm : (⟨p, true, .lst (ds.map Z.d)⟩ : Cl) ∈ A ++ ⟨p, true, .lst (ds.map Z.d)⟩ :: B := List.mem_append.mpr (.inr List.mem_cons_self)
  have hs : (A ++ B).Sublist (A ++ ⟨p, true, .lst (ds.map Z.d)⟩ :: B) := List.Sublist.append_left (List.sublist_cons_self _ _) A
  have nS : ¬ F.S0 p := wd.nb st _ pm rfl
  have h0 : F.H0 p = none := by
    rcases wd.frsh _ pm rfl with q | q
    · exact absurd q nS
    · exact q
  have nM : ¬ F.M0 p := fun z => wd.live0 p z h0
  have dist := wd.dist
  have nAB : ∀ e ∈ A ++ B, e.a ≠ p := by
    have d := List.pairwise_append.mp dist
    intro e he
    rcases List.mem_append.mp he with he | he
    · exact d.2.2 e he _ List.mem_cons_self
    · exact fun z => (List.pairwise_cons.mp d.2.1).1 e he z.symm
  have sub : ∀ {l : List (Option Z)} {a : Addr}, Mv F σ ⟨l, A ++ B⟩ a → Mv F σ ⟨yl, A ++ ⟨p, true, .lst (ds.map Z.d)⟩ :: B⟩ a := fun z => z.elim .inl fun ⟨e, h1, h2⟩ => .inr ⟨e, hs.subset h1, h2⟩
  have g : Go F σ ⟨yl, A ++ ⟨p, true, .lst (ds.map Z.d)⟩ :: B⟩ H σ ⟨yl.set i (some (.d (.list ds))), A ++ B⟩ H := fun a o n e => ⟨fun z => n (sub z), e⟩
  have np : ¬ Mv F σ ⟨yl.set i (some (.d (.list ds))), A ++ B⟩ p := fun z => z.elim nM fun ⟨e, h1, h2⟩ => nAB e h1 h2
  obtain ⟨xs, c1, c2⟩ := (wd.cell _ pm : CellOk C.K _ H p (.lst (ds.map Z.d)))
  refine w F σ H E st (wd.to ⟨wd.keep, wd.live0, wd.live, by show σ.length = (yl.set i _).length; rw [List.length_set]; exact wd.len, fun j z e => ?_, fun e he => (wd.cell e (hs.subset he)).go g fun _ q => q, dist.sublist hs, fun e he => wd.frsh e (hs.subset he), wd.sm, fun st e he => wd.nb st e (hs.subset he)⟩ g) (k.go g)
  have e' : (yl.set i (some (.d (.list ds))))[j]? = some (some z) := e
  by_cases n : j = i
  · subst n
    have hl := (List.getElem?_eq_some_iff.mp (show yl[j]? = _ from hi)).1
    rw [List.getElem?_set_self hl] at e'
    cases e'
    obtain ⟨x, h1, h2⟩ := wd.slot j _ hi
    cases h2
    exact ⟨_, h1, .d (.lst (.inl ⟨np, .inl c1⟩) (c2.go g).ds)⟩
  · rw [List.getElem?_set_ne (Ne.symm n)] at e'
    obtain ⟨x, h1, h2⟩ := wd.slot j z e'
    exact ⟨x, h1, h2.go g⟩
end Ux
namespace Ux
open PySem PySem.Spec PyProof.Rows L2 Tq
theorem wE_gd {C : Ct} {y : S} {Q : Z → S → Prop} {a : Addr} {d : D} (h : ∀ (M : Addr → Prop) (H : Hp), Rp C.K M H (.ref a) d) (q : Q (.d d) y) : wE C (tC (.ref a)) y Q := fun F σ H K w k => k (.ref a) H (.d d) y w GoH.refl (Sh.refl y) (h _ H) q
section
variable {C : Ct} {y : S} {te : TE} {Qi : List D → S → Prop}
theorem wI_anyL (w : wE C te y fun z y1 => ∃ xs, z = .d (.list xs) ∧ Qi xs y1) : wI C (iAny C.K te) y Qi := fun F σ H R wd k => .inl (wI_list w F σ H R wd k)
theorem wI_anyT (w : wE C te y fun z y1 => ∃ xs, z = .d (.tuple xs) ∧ Qi xs y1) : wI C (iAny C.K te) y Qi := fun F σ H R wd k => .inr (wI_tup w F σ H R wd k)
end
end Ux
namespace Ux
end Ux
namespace Ux
open PySem PySem.Spec PyProof.Rows L2 Tq
end Ux
namespace Ux
open PySem PySem.Spec PyProof.Rows L2 Tq
/-! ### lists of our own: made by +, list(..); read by slices, len, tuple(..), reversed -/
def rCatL (K : Fg) : R2 := rCatG K
def rSlLab (K : Fg) : V → Option Int → Option Int → Hp → VK → Prop := rSlD K
def tLenL (K : Fg) (t : TA) : TE := tCB (rLenD K) t
def tListL (K : Fg) (t : TA) : TE := tCB (rListD K) t
def tTupL (K : Fg) (t : TA) : TE := tCB (rTupD K) t
section
variable {X : Cx} (K : Fg)
end
theorem zLen {X : Cx} {e : Expr} {K : Fg} {t : TA} (h : PE X e (tCB (rLenD K) t)) : PE X e (tLenL K t) := h
theorem zTup {X : Cx} {e : Expr} {K : Fg} {t : TA} (h : PE X e (tCB (rTupD K) t)) : PE X e (tTupL K t) := h
section
variable {C : Ct} {y : S} {ta tb te : TE} {tl th : TO} {Q : Z → S → Prop}
theorem xE_catL (w : wE C ta y fun z y1 => wE C tb y1 fun z' y2 => ∃ xs zs, lstZ z = some xs ∧ lstZ z' = some zs ∧ xs.length + zs.length ≤ sizeLine ∧ ∀ p, Q (.lab p) ⟨y2.l, y2.m ++ [⟨p, true, .lst (xs ++ zs)⟩]⟩) : wE C (tOp (rCatL C.K) ta tb) y Q := by
  intro F σ H K wd k
  refine w F σ H _ wd fun x H1 z y1 w1 g1 s1 r1 q1 => ?_
  refine q1 F σ H1 _ w1 fun x2 H2 z' y2 w2 g2 s2 r2 q2 => ?_
  obtain ⟨xs, zs, e1, e2, hl, hq⟩ := q2
  obtain ⟨a, us, rfl, h1, h2⟩ := rw_lst (r1.w.go g2) e1
  obtain ⟨b, vs, rfl, h3, h4⟩ := rw_lst r2.w e2
  refine ⟨a, b, us, vs, rfl, rfl, h1.sq, h3.sq, by rw [h2.len, h4.len]; exact hl, fun p hp => ?_⟩
  obtain ⟨w3, g3, s3⟩ := w2.cnew (o := .lst (us ++ vs)) (c := .lst (xs ++ zs)) (b := true) hp fun M g => ⟨us ++ vs, upd_same, (h2.app h4).go g⟩
  exact k _ _ (.lab p) _ w3 ((g1.trans g2).trans g3) ((s1.trans s2).trans s3) (.lab p) (hq p)
/-- a list of ours, as it is at present -/
theorem lab_lst {F : Fr} {σ : St} {H : Hp} {v : V} {p : Addr} {b : Bool} {j : Nat} {zs : List Z} (wd : Wd C F σ y H) (r : Rz C F σ y H v (.lab p)) (hj : y.m[j]? = some ⟨p, b, .lst zs⟩) : v = .ref p ∧ ∃ xs, H p = some (.lst xs) ∧ RwA C.K (Mv F σ y) H xs zs := by
  cases r
  obtain ⟨xs, c1, c2⟩ := (wd.cell _ (List.mem_of_getElem? hj) : CellOk C.K (Mv F σ y) H p (.lst zs))
  exact ⟨rfl, xs, c1, c2⟩
theorem xE_lenL (w : wE C te y fun z y1 => ∃ (p : Addr) (b : Bool) (j : Nat) (zs : List Z), z = .lab p ∧ y1.m[j]? = some (⟨p, b, .lst zs⟩ : Cl) ∧ Q (.d (.int zs.length)) y1) : wE C (tLenL C.K (tCons te tNil)) y Q := by
  intro F σ H K wd k
  refine w F σ H _ wd fun x H1 z y1 w1 g1 s1 r1 q1 => ?_
  obtain ⟨p, b, j, zs, rfl, hj, hq⟩ := q1
  obtain ⟨rfl, xs, c1, c2⟩ := lab_lst w1 r1 hj
  exact ⟨_, zs.length, rfl, .inl ⟨xs, .inl (.inl c1), c2.len.symm⟩, k _ H1 (.d (.int zs.length)) y1 w1 g1 s1 (.int _) hq⟩
theorem xE_listL (w : wE C te y fun z y1 => ∃ d xs, z = .d d ∧ dItems d = some xs ∧ ∀ p, Q (.lab p) ⟨y1.l, y1.m ++ [⟨p, true, .lst (xs.map Z.d)⟩]⟩) : wE C (tListL C.K (tCons te tNil)) y Q := by
  intro F σ H K wd k
  refine w F σ H _ wd fun x H1 z y1 w1 g1 s1 r1 q1 => ?_
  obtain ⟨d, xs, rfl, hx, hq⟩ := q1
  obtain ⟨a, us, rfl, h1, h2⟩ := rp_items r1 hx
  refine ⟨a, us, rfl, h1.elim (fun z => .inl z.sq) (fun z => .inr z.sq), fun p hp => ?_⟩
  obtain ⟨w2, g2, s2⟩ := w1.cnew (o := .lst us) (c := .lst (xs.map Z.d)) (b := true) hp fun M g => ⟨us, upd_same, (RwA.of h2).go g⟩
  exact k _ _ (.lab p) _ w2 (g1.trans g2) (s1.trans s2) (.lab p) (hq p)
theorem xE_tupL (w : wE C te y fun z y1 => ∃ (p : Addr) (b : Bool) (j : Nat) (ds : List D), z = .lab p ∧ y1.m[j]? = some (⟨p, b, .lst (ds.map Z.d)⟩ : Cl) ∧ Q (.d (.tuple ds)) y1) : wE C (tTupL C.K (tCons te tNil)) y Q := by
  intro F σ H K wd k
  refine w F σ H _ wd fun x H1 z y1 w1 g1 s1 r1 q1 => ?_
  obtain ⟨p, b, j, ds, rfl, hj, hq⟩ := q1
  obtain ⟨rfl, xs, c1, c2⟩ := lab_lst w1 r1 hj
  refine ⟨p, xs, rfl, .inl ⟨.inl (.inl c1), fun l hl => ?_⟩⟩
  have gr := grow_upd (o := .tup xs) hl
  exact k _ _ (.d (.tuple ds)) y1 (w1.grow gr) (g1.trans (go_grow gr)) s1 (.tup (.inl ⟨w1.new hl, .inl upd_same⟩) (c2.ds.go (go_grow (F := F) (σ := σ) (y := y1) gr))) hq
theorem xE_slL (w : wE C te y fun z y1 => wO C tl y1 fun l y2 => wO C th y2 fun h y3 => ∃ (p : Addr) (b : Bool) (j : Nat) (ds : List D), z = .lab p ∧ y3.m[j]? = some (⟨p, b, .lst (ds.map Z.d)⟩ : Cl) ∧ Q (.d (.list (cutD ds l h))) y3) : wE C (tSl (rSlLab C.K) te tl th) y Q := by
  intro F σ H K wd k
  refine w F σ H _ wd fun x H1 z y1 w1 g1 s1 r1 q1 => ?_
  refine q1 F σ H1 _ w1 fun l H2 y2 w2 g2 s2 q2 => ?_
  refine q2 F σ H2 _ w2 fun h H3 y3 w3 g3 s3 q3 => ?_
  obtain ⟨p, b, j, ds, rfl, hj, hq⟩ := q3
  have r3 : Rz C F σ y3 H3 x (.lab p) := Rz.go (g2.trans g3) r1
  obtain ⟨rfl, xs, c1, c2⟩ := lab_lst w3 r3 hj
  refine .inl ⟨p, xs, rfl, .inl (.inl c1), fun q hp => ?_⟩
  have gr := grow_upd (o := .lst (cutV xs l h)) hp
  exact k _ _ (.d (.list (cutD ds l h))) y3 (w3.grow gr) (((g1.trans g2).trans g3).trans (go_grow gr)) ((s1.trans s2).trans s3) (.lst (.inl ⟨w3.new hp, .inl upd_same⟩) ((rpA_cut c2.ds l h).go (go_grow (F := F) (σ := σ) (y := y3) gr))) hq
end
/-! ### draws with further arguments that hand out things that are new -/
def oaSp (K : Fg) (n : Nat) (pre : List D → Prop) (cost : Nat) (post : List D → Z → List (Addr × Cell) → Prop) : Sp := fun vs H Q _ => ∃ (M : Addr → Prop) (p : Addr) (m : Nat) (us : List V) (ds : List D), vs = .ref p :: us ∧ M p ∧ (∀ a, M a → H a ≠ none) ∧ PuOk H p m ∧ cost ≤ m ∧ RpA K M H us ds ∧ ds.length = n ∧ pre ds ∧
  ∀ z nw v H', post ds z nw → (∀ a o, a ≠ p → H a = some o → H' a = some o) → PuOk H' p (m - cost) → (∀ e ∈ nw, H e.1 = none) → (nw.Pairwise fun e e' => e.1 ≠ e'.1) →
    (∀ e ∈ nw, CellOk K (fun a => M a ∨ ∃ e ∈ nw, e.1 = a) H' e.1 e.2) → Rw K (fun a => M a ∨ ∃ e ∈ nw, e.1 = a) H' v z → Q v H'
theorem oa_call {C : Ct} {F : Fr} {σ : St} {y : S} {H H' : Hp} {p : Addr} {b : Bool} {m0 k : Nat} {j : Nat} {nw : List (Addr × Cell)} (wd : Wd C F σ y H) (hj : y.m[j]? = some ⟨p, b, .pu m0⟩) (kp : ∀ a o, a ≠ p → H a = some o → H' a = some o) (pk : PuOk H' p k) (fr : ∀ e ∈ nw, H e.1 = none) (pw : nw.Pairwise fun e e' => e.1 ≠ e'.1)
    (cs : ∀ e ∈ nw, CellOk C.K (fun a => Mv F σ y a ∨ ∃ e ∈ nw, e.1 = a) H' e.1 e.2) : Wd C F σ ⟨y.l, y.m.set j ⟨p, b, .pu k⟩ ++ toCl true nw⟩ H' ∧ Go F σ y H σ ⟨y.l, y.m.set j ⟨p, b, .pu k⟩ ++ toCl true nw⟩ H' ∧ Sh y ⟨y.l, y.m.set j ⟨p, b, .pu k⟩ ++ toCl true nw⟩ ∧
      ∀ {v : V} {z : Z}, Rw C.K (fun a => Mv F σ y a ∨ ∃ e ∈ nw, e.1 = a) H' v z → Rw C.K (Mv F σ ⟨y.l, y.m.set j ⟨p, b, .pu k⟩ ++ toCl true nw⟩) H' v z := by
  have hmm : (⟨p, b, .pu m0⟩ : Cl) ∈ y.m := List.mem_of_getElem? hj
  have pd : DomW y.m p := ⟨_, hmm, rfl, rfl⟩
  have lvp : H' p ≠ none := by
    obtain ⟨x, b, c, e, _⟩ := pk
    rw [e]; simp
  have inset : ∀ e ∈ y.m.set j ⟨p, b, .pu k⟩, e.a = p → e = ⟨p, b, .pu k⟩ := fun e he hq => by
    obtain ⟨i', hi'⟩ := List.getElem?_of_mem he
    have pws := pw_set wd.dist hj (e' := ⟨p, b, .pu k⟩) rfl
    obtain ⟨hl, _⟩ := List.getElem?_eq_some_iff.mp hj
    have hjj : (y.m.set j ⟨p, b, .pu k⟩)[j]? = some ⟨p, b, .pu k⟩ := List.getElem?_set_self hl
    by_cases n : i' = j
    · subst n; rw [hjj] at hi'; cases hi'; rfl
    · exfalso
      rw [List.pairwise_iff_getElem] at pws
      obtain ⟨hi1, hi2⟩ := List.getElem?_eq_some_iff.mp hi'
      obtain ⟨hj1, hj2⟩ := List.getElem?_eq_some_iff.mp hjj
      rcases Nat.lt_or_gt_of_ne n with n | n
      · have := pws i' j hi1 hj1 n; rw [hi2, hj2] at this; exact this hq
      · have := pws j i' hj1 hi1 n; rw [hi2, hj2] at this; exact this hq.symm
  have old : ∀ e ∈ y.m.set j ⟨p, b, .pu k⟩, ∃ e0 ∈ y.m, e0.a = e.a ∧ (e.own = true → e0.own = true) ∧ (e.c.isRo = false → e0.c.isRo = false) := fun e he => by
    rcases mem_set_or he with he | he
    · subst he; exact ⟨_, hmm, rfl, fun z => z, fun _ => rfl⟩
    · exact ⟨e, he, rfl, fun z => z, fun z => z⟩
  have mvs : ∀ a, Mv F σ ⟨y.l, y.m.set j ⟨p, b, .pu k⟩ ++ toCl true nw⟩ a → Mv F σ y a ∨ ∃ e ∈ nw, e.1 = a := fun a z => by
    rcases z with z | ⟨e2, h2, h3⟩
    · exact .inl (.inl z)
    · rcases List.mem_append.mp h2 with h2 | h2
      · obtain ⟨e0, q1, q2, _⟩ := old e2 h2
        exact .inl (.inr ⟨e0, q1, q2.trans h3⟩)
      · obtain ⟨e3, h4, rfl⟩ := List.mem_map.mp h2
        exact .inr ⟨e3, h4, h3⟩
  have key := wd.store (m := y.m.set j ⟨p, b, .pu k⟩ ++ toCl true nw) (H' := H') (fun a o n e => kp a o (fun z => n (z ▸ pd)) e)
    (fun a ⟨e, h1, h2⟩ z => by
      by_cases ha : a = p
      · exact lvp (ha ▸ z)
      · cases r : H a with
        | none => exact (wd.cell e h1).live (h2 ▸ r)
        | some o => rw [kp a o ha r] at z; cases z)
    (fun e he => by
      rcases List.mem_append.mp he with he | he
      · exact .inl (old e he)
      · obtain ⟨e', h1, rfl⟩ := List.mem_map.mp he
        exact .inr (fr e' h1))
    (by
      rw [List.pairwise_append]
      refine ⟨pw_set wd.dist hj rfl, by unfold toCl; rw [List.pairwise_map]; exact pw, fun e he e2 he2 z => ?_⟩
      obtain ⟨e', h1', rfl⟩ := List.mem_map.mp he2
      obtain ⟨e0, q1, q2, _⟩ := old e he
      exact (wd.cell e0 q1).live (by rw [q2, z]; exact fr e' h1'))
    (fun g e he => by
      rcases List.mem_append.mp he with he | he
      · by_cases hq : e.a = p
        · rw [inset e he hq]; exact pk
        · rcases mem_set_or he with he | he
          · subst he; exact absurd rfl hq
          · exact (wd.cell e he).go g fun o r => kp _ _ hq r
      · obtain ⟨e', h1', rfl⟩ := List.mem_map.mp he
        exact (cs e' h1').go (fun a o n e => ⟨fun z => n (mvs a z), e⟩) fun _ r => r)
  refine ⟨key.1, key.2, ⟨rfl, toCl true nw, ?_⟩, fun rv => rv.go fun a o n e => ⟨fun z => n (mvs a z), e⟩⟩
  show ao (y.m.set j ⟨p, b, .pu k⟩ ++ toCl true nw) = ao y.m ++ ao (toCl true nw)
  unfold ao
  rw [List.map_append]
  congr 1
  apply List.ext_getElem?
  intro i'
  by_cases n : i' = j
  · subst n
    obtain ⟨hl, _⟩ := List.getElem?_eq_some_iff.mp hj
    rw [List.getElem?_map, List.getElem?_map, List.getElem?_set_self hl, hj]
    rfl
  · rw [List.getElem?_map, List.getElem?_map, List.getElem?_set_ne (Ne.symm n)]
theorem wE_oa {C : Ct} {y : S} {ts : TA} {E : XK} {Q : Z → S → Prop} {n : Nat} {pre : List D → Prop} {cost : Nat} {post : List D → Z → List (Addr × Cell) → Prop}
    (w : wZ C ts y fun zs y1 => ∃ (p : Addr) (ds : List D) (j : Nat) (b : Bool) (m0 : Nat), zs = .lab p :: ds.map Z.d ∧ y1.m[j]? = some (⟨p, b, .pu m0⟩ : Cl) ∧ cost ≤ m0 ∧ ds.length = n ∧ pre ds ∧ ∀ z nw, post ds z nw → Q z ⟨y1.l, y1.m.set j ⟨p, b, .pu (m0 - cost)⟩ ++ toCl true nw⟩) : wE C (tCall (oaSp C.K n pre cost post) [] E ts) y Q := by
  intro F σ H K wd k
  refine w F σ H _ wd fun vs H1 zs y1 w1 g1 s1 r1 ⟨p, ds, j, b, m0, e1, hj, hm, hn, hp, q⟩ => ?_
  subst e1
  cases r1 with | @cons v _ us _ ra rb =>
  cases ra
  have hmm : (⟨p, b, .pu m0⟩ : Cl) ∈ y1.m := List.mem_of_getElem? hj
  show oaSp C.K n pre cost post ((.ref p :: us) ++ []) H1 K E
  rw [List.append_nil]
  refine ⟨Mv F σ y1, p, m0, us, ds, rfl, .inr ⟨_, hmm, rfl⟩, fun a m e => w1.new e m, w1.cell _ hmm, hm, rb.ds, hn, hp, fun z nw v H' hz kp pk fr pw cs rv => ?_⟩
  obtain ⟨w2, g2, s2, rw2⟩ := oa_call w1 hj kp pk fr pw cs
  exact k v H' z _ w2 (g1.trans g2) (s1.trans s2) (Rw.z (rw2 rv)) (q z nw hz)
end Ux
namespace Ux
theorem Less.trans {a b c : S} (h : Less a b) (h' : Less b c) : Less a c := ⟨h.1.trans h'.1, fun i z e => h'.2.1 i z (h.2.1 i z e), h.2.2.trans h'.2.2⟩
end Ux

set_option maxRecDepth 100000
set_option maxHeartbeats 4000000
namespace Ux
open PySem PySem.Spec PyProof.Rows L2 Tq
/-! ### divmod -/
section
variable {C : Ct} {y : S} {ts : TA} {ta tb : TE} {Q : Z → S → Prop}
end
end Ux

set_option maxRecDepth 100000
set_option maxHeartbeats 4000000
namespace Ux
open PySem PySem.Spec PyProof.Rows L2 Tq
/-! ### a thing of the store lent as it is at present, to a test that changes nothing -/
section
variable {C : Ct} {y : S} {te : TE} {Q : Z → S → Prop}
theorem wE_rev2 (w : wE C te y fun z y1 => ∃ xs, z = .d (.list xs) ∧ Q (.d (.list xs.dropLast.reverse)) y1) : wE C (tRev2 C.K te) y Q := by
  intro F σ H K wd k
  refine w F σ H _ wd fun x H1 z y1 w1 g1 s1 r1 ⟨xs, ez, q⟩ => ?_
  subst ez
  obtain ⟨a, us, rfl, h1, h2⟩ := rp_lst r1
  refine ⟨a, us, rfl, h1.sq, fun p hp => ?_⟩
  have gr := grow_upd (o := .lst us.dropLast.reverse) hp
  have h3 : RpA C.K (Mv F σ y1) H1 us.dropLast xs.dropLast := by
    rw [List.dropLast_eq_take, List.dropLast_eq_take, h2.len]
    exact h2.take _
  exact k _ _ (.d (.list xs.dropLast.reverse)) y1 (w1.grow gr) (g1.trans (go_grow gr)) s1 (.lst (.inl ⟨w1.new hp, .inl upd_same⟩) (h3.rev.go (go_grow (F := F) (σ := σ) (y := y1) gr))) q
theorem wE_rev1 (w : wE C te y fun z y1 => ∃ xs, z = .d (.list xs) ∧ Q (.d (.list xs.reverse)) y1) : wE C (tRev1 C.K te) y Q := by
  intro F σ H K wd k
  refine w F σ H _ wd fun x H1 z y1 w1 g1 s1 r1 ⟨xs, ez, q⟩ => ?_
  subst ez
  obtain ⟨a, us, rfl, h1, h2⟩ := rp_lst r1
  refine ⟨a, us, rfl, h1.sq, fun p hp => ?_⟩
  have gr := grow_upd (o := .lst us.reverse) hp
  exact k _ _ (.d (.list xs.reverse)) y1 (w1.grow gr) (g1.trans (go_grow gr)) s1 (.lst (.inl ⟨w1.new hp, .inl upd_same⟩) (h2.rev.go (go_grow (F := F) (σ := σ) (y := y1) gr))) q
end
end Ux

set_option maxRecDepth 100000
set_option maxHeartbeats 4000000
namespace Ux
open PySem PySem.Spec PyProof.Rows L2 Tq
/-! ### [e for a, b in .. if ..], plain things alone -/
def gNms : List Nat → TGs
  | [] => gNil
  | j :: js => gCons (gName j) (gNms js)
def setV : St → List Nat → List V → St
  | σ, j :: js, v :: vs => setV (σ.set j (some v)) js vs
  | σ, _, _ => σ
def setD : S → List Nat → List D → S
  | y, j :: js, d :: ds => setD (y.set j (some (.d d))) js ds
  | y, _, _ => y
def wipeL : List (Option Z) → List Nat → List (Option Z)
  | l, [] => l
  | l, v :: vs => (wipeL l vs).set v none
def plZ : Option Z → Option Z
  | some (.d d) => some (.d d)
  | _ => none
/-- the plain slots, some of them let go -/
def plY (y : S) (js : List Nat) : S := ⟨wipeL (y.l.map plZ) js, []⟩
theorem gNms_run : ∀ (js : List Nat) (vs : List V) (σ : St) (H : Hp) (Q : St → Hp → Prop), vs.length = js.length → Q (setV σ js vs) H → gNms js vs σ H Q
  | [], [], _, _, _, _, q => ⟨rfl, q⟩
  | j :: js, v :: vs, σ, H, Q, h, q => ⟨v, vs, rfl, gNms_run js vs _ H Q (by simpa using h) q⟩
theorem wipe_get : ∀ (ks : List Nat) (σ : St) (i : Nat), (wipe σ ks)[i]? = if i ∈ ks then (if i < σ.length then some none else none) else σ[i]?
  | [], σ, i => by simp [wipe]
  | k :: ks, σ, i => by
    show ((wipe σ ks).set k none)[i]? = _
    by_cases h : k = i
    · subst h
      rw [if_pos List.mem_cons_self, List.getElem?_set, if_pos rfl, wipe_length]
    · rw [List.getElem?_set_ne h, wipe_get ks σ i]
      by_cases hm : i ∈ ks
      · rw [if_pos hm, if_pos (List.mem_cons_of_mem _ hm)]
      · rw [if_neg hm, if_neg (fun z => (List.mem_cons.mp z).elim (fun z => h z.symm) hm)]
theorem wipeL_some : ∀ (ks : List Nat) {l : List (Option Z)} {i : Nat} {z : Z}, (wipeL l ks)[i]? = some (some z) → l[i]? = some (some z) ∧ i ∉ ks
  | [], _, _, _, h => ⟨h, by simp⟩
  | k :: ks, l, i, z, h => by
    have h : ((wipeL l ks).set k none)[i]? = some (some z) := h
    by_cases e : k = i
    · subst e
      rw [List.getElem?_set, if_pos rfl] at h
      split at h <;> simp at h
    · rw [List.getElem?_set_ne e] at h
      obtain ⟨h1, h2⟩ := wipeL_some ks h
      exact ⟨h1, fun z => (List.mem_cons.mp z).elim (fun z => e z.symm) h2⟩
theorem wipeL_len : ∀ (ks : List Nat) (l : List (Option Z)), (wipeL l ks).length = l.length
  | [], _ => rfl
  | k :: ks, l => by
    show ((wipeL l ks).set k none).length = _
    rw [List.length_set, wipeL_len ks l]
theorem wipe_set {σ : St} {j : Nat} {x : Option V} {ks : List Nat} (h : j ∈ ks) : wipe (σ.set j x) ks = wipe σ ks := by
  apply List.ext_getElem?
  intro i
  rw [wipe_get, wipe_get, List.length_set]
  by_cases hi : i ∈ ks
  · rw [if_pos hi, if_pos hi]
  · rw [if_neg hi, if_neg hi, List.getElem?_set_ne (fun z => hi (by rw [← z]; exact h))]
theorem wipe_wipe {σ : St} {ks : List Nat} : wipe (wipe σ ks) ks = wipe σ ks := by
  apply List.ext_getElem?
  intro i
  rw [wipe_get, wipe_length, wipe_get]
  by_cases hi : i ∈ ks
  · rw [if_pos hi, if_pos hi]
  · rw [if_neg hi, if_neg hi]
theorem wipe_setV {ks : List Nat} : ∀ (js : List Nat) (vs : List V) (σ : St), (∀ j ∈ js, j ∈ ks) → wipe (setV σ js vs) ks = wipe σ ks
  | [], _, _, _ => rfl
  | _ :: _, [], _, _ => rfl
  | j :: js, v :: vs, σ, h => (wipe_setV js vs _ fun x hx => h x (List.mem_cons_of_mem _ hx)).trans (wipe_set (h j List.mem_cons_self))
theorem Wd0.setD {K : Fg} {F : Fr} {H : Hp} : ∀ (js : List Nat) {vs : List V} {ds : List D} {σ : St} {y : S}, Wd0 K F σ y H → RpA K (Mv F σ y) H vs ds → Wd0 K F (setV σ js vs) (setD y js ds) H
  | [], _, _, _, _, w, _ => w
  | _ :: _, [], [], _, _, w, _ => w
  | j :: js, v :: vs, d :: ds, σ, y, w, r => by
    cases r with
    | cons a b => exact Wd0.setD js (w.set_z (.d a)) b
def frL (F : Fr) (σ : St) (y : S) (H : Hp) (l : Addr) : Fr := ⟨H, fun _ => False, fun a => Mv F σ y a ∨ a = l, F.st⟩
theorem Wd0.lentL {K : Fg} {F : Fr} {σ : St} {y : S} {H H2 : Hp} {l : Addr} {ks : List Nat} (w : Wd0 K F σ y H) (hl : H l = none) (gr : ∀ a o, H a = some o → H2 a = some o) (hl2 : H2 l ≠ none) : Wd0 K (frL F σ y H2 l) (wipe σ ks) (plY y ks) H2 := by
  have lv : ∀ a, (Mv F σ y a ∨ a = l) → H2 a ≠ none := fun a m => by
    rcases m with m | rfl
    · cases e : H a with
      | none => exact absurd m (w.new e)
      | some o => rw [gr a o e]; simp
    · exact hl2
  refine ⟨fun a o _ e => e, lv, lv, ?_, fun i z e => ?_, fun e he => (by cases he), List.Pairwise.nil, fun e he => (by cases he), fun a z => z.elim, fun _ e he => (by cases he)⟩
  · show (wipe σ ks).length = (wipeL (y.l.map plZ) ks).length
    rw [wipe_length, wipeL_len, List.length_map]; exact w.len
  · obtain ⟨h1, h2⟩ := wipeL_some ks (show (wipeL (y.l.map plZ) ks)[i]? = some (some z) from e)
    rw [List.getElem?_map] at h1
    obtain ⟨u, hu, rfl⟩ : ∃ u, y.l[i]? = some (some (.d u)) ∧ z = .d u := by
      cases q : y.l[i]? with
      | none => rw [q] at h1; cases h1
      | some o =>
        rw [q] at h1
        have h1 : plZ o = some z := Option.some.inj h1
        cases o with
        | none => cases h1
        | some x =>
          cases x with
          | d d => cases h1; exact ⟨d, rfl, rfl⟩
          | _ => cases h1
    obtain ⟨x, h3, h4⟩ := w.slot i _ hu
    refine ⟨x, by rw [wipe_get, if_neg h2]; exact h3, ?_⟩
    cases h4 with
    | d h4 => exact .d (h4.go fun a o n e => ⟨fun z => z.elim (fun z => z.elim n fun z => by subst z; rw [hl] at e; cases e) fun ⟨_, h, _⟩ => (by cases h), gr a o e⟩)
theorem wE_lcT {C : Ct} {y : S} {te : TE} {tt : TT} {wi : TI} {Q : Z → S → Prop} {n : Nat} (js : List Nat) (p : List D → Bool) (f : List D → D) (hn : n = js.length)
    (w : wI C wi y fun xs y1 => ∃ dss : List (List D), xs = dss.map PyData.tuple ∧ dss.length ≤ sizeLine ∧ (∀ ds ∈ dss, ds.length = js.length ∧ wT C.q tt (setD (plY y1 js) js ds) fun b y3 => b = p ds ∧ (p ds = true → wE C.q te y3 fun z _ => z = .d (f ds))) ∧ Q (.d (.list ((dss.filter p).map f))) y1) :
    wE C (tLc wi (gTup C.K n (gNms js)) tt te js) y Q := by
  intro F σ H K wd k
  refine w F σ H _ wd fun J H1 xs y1 w1 g1 s1 hJ ⟨dss, ex, hz, hs, hq⟩ => ?_
  subst ex
  intro l hl
  refine ⟨fun i n H2 => n = dss.length - i ∧ i ≤ dss.length ∧ (∀ a o, H1 a = some o → H2 a = some o) ∧ ∃ vs, H2 l = some (.lst vs) ∧ RpA C.K (fun a => Mv F σ y1 a ∨ a = l) H2 vs (((dss.take i).filter p).map f),
    ⟨dss.length, rfl, Nat.zero_le _, grow_upd hl, [], upd_same, .nil⟩, ?_⟩
  rintro i n H2 ⟨rfl, hi, gr, vs, hl2, rv⟩
  have w2 := w1.toWd0.lentL (ks := []) hl gr (by rw [hl2]; simp)
  have go2 : GoH (Mv F σ y1) H1 (Mv (frL F σ y1 H2 l) σ (plY y1 [])) H2 := fun a o n e => ⟨fun z => z.elim (fun z => z.elim n fun z => by subst z; rw [hl] at e; cases e) fun ⟨_, h, _⟩ => (by cases h), gr a o e⟩
  obtain ⟨j1, j2, j3⟩ := hJ _ _ _ _ w2 go2 i
  rw [List.length_map] at j1 j2
  by_cases hlt : i < dss.length
  · refine .inr ⟨j1 hlt, fun H3 => (∀ a o, H1 a = some o → H3 a = some o) ∧ ∃ vs, H3 l = some (.lst vs) ∧ RpA C.K (fun a => Mv F σ y1 a ∨ a = l) H3 vs (((dss.take (i + 1)).filter p).map f),
      fun H3 h => ⟨dss.length - (i + 1), by omega, rfl, hlt, h⟩, fun v H3 hy => ?_⟩
    have ex : dss[i]? = some dss[i] := List.getElem?_eq_getElem hlt
    obtain ⟨gr3, rv3⟩ := j3 (.tuple dss[i]) (by rw [List.getElem?_map, ex]; rfl) v H3 hy
    obtain ⟨hlen, ht⟩ := hs dss[i] (List.getElem_mem hlt)
    obtain ⟨a, us, rfl, h1, h2⟩ := rp_tup rv3
    have gr13 : ∀ a o, H1 a = some o → H3 a = some o := fun a o e => gr3 a o (gr a o e)
    have hl3 : H3 l = some (.lst vs) := gr3 l _ hl2
    have w3 := w1.toWd0.lentL (ks := js) hl gr13 (by rw [hl3]; simp)
    have rA : RpA C.K (Mv (frL F σ y1 H3 l) (wipe σ js) (plY y1 js)) H3 us dss[i] := h2.go fun a o n e => ⟨fun z => n (z.elim .inl fun ⟨_, h, _⟩ => (by cases h)), e⟩
    have w4 := Wd0.setD js w3 rA
    refine ⟨a, us, rfl, h1.sq, by rw [hn, h2.len, hlen], gNms_run js us _ H3 _ (by rw [h2.len, hlen]) ⟨?_, ?_⟩⟩
    · rw [wipe_setV js us _ fun j hj => hj, wipe_wipe]
    refine ht _ _ H3 _ w4.q fun b H5 y5 w5 g5 s5 q5 => ?_
    obtain ⟨rfl, q6⟩ := q5
    have k5 : ∀ a o, H3 a = some o → H5 a = some o := fun a o e => w5.keep a o (fun z => z) e
    have sp : dss.take (i + 1) = dss.take i ++ [dss[i]] := by rw [List.take_succ, ex]; rfl
    cases hp : p dss[i] with
    | false =>
      refine ⟨fun a o e => k5 a o (gr13 a o e), vs, k5 _ _ hl3, ?_⟩
      rw [sp, List.filter_append, List.filter_cons_of_neg (by rw [hp]; simp), List.filter_nil, List.append_nil]
      exact rv.go fun a o n e => ⟨n, k5 a o (gr3 a o e)⟩
    | true =>
      refine q6 hp _ _ H5 _ w5 fun x6 H6 z6 y6 w6 g6 s6 r6 ez => ?_
      subst ez
      have k6 : ∀ a o, H3 a = some o → H6 a = some o := fun a o e => w6.keep a o (fun z => z) e
      have lv : vs.length ≤ i := by
        rw [rv.len, List.length_map]
        refine Nat.le_trans (List.length_filter_le _ _) ?_
        rw [List.length_take]; omega
      refine ⟨vs, k6 _ _ hl3, by omega, fun a o e => by rw [upd_ne (ne_of_none e hl)]; exact k6 a o (gr13 a o e), vs ++ [x6], upd_same, ?_⟩
      rw [sp, List.filter_append, List.filter_cons_of_pos hp, List.filter_nil, List.map_append]
      have r6 : Rp C.K (Mv (frL F σ y1 H3 l) (setV (wipe σ js) js us) y6) H6 x6 (f dss[i]) := r6
      exact (rv.go fun a o n e => ⟨n, by rw [upd_ne (fun z => n (.inr z))]; exact k6 a o (gr3 a o e)⟩).app (.cons (r6.go fun a o n e => ⟨fun z => n (.inl z), by rw [upd_ne (fun z => n (.inl (.inr z)))]; exact e⟩) .nil)
  · have ei : i = dss.length := by omega
    subst ei
    refine .inl ⟨j2 (Nat.le_refl _), ?_⟩
    rw [List.take_length] at rv
    exact k _ H2 (.d (.list ((dss.filter p).map f))) y1 (w1.grow gr) (g1.trans (go_grow gr)) s1 (.lst (.inl ⟨w1.new hl, .inl hl2⟩) (rv.go fun a o n e => ⟨fun z => n (.inl z), e⟩)) hq
end Ux

set_option maxRecDepth 100000
set_option maxHeartbeats 4000000
namespace Ux
open PySem PySem.Spec PyProof.Rows L2 Tq
def tReprRX (K : Fg) (t : TA) : TE := tCB (rReprX K) t
section
variable {C : Ct} {y : S} {te : TE} {Q : Z → S → Prop}
theorem wE_reprX (w : wE C te y fun z y1 => ∃ d, z = .d d ∧ ShX d ∧ Q (.d (.str d.shown)) y1) : wE C (tCB (rReprX C.K) (tCons te tNil)) y Q := by
  intro F σ H K wd k
  refine w F σ H _ wd fun x H1 z y1 w1 g1 s1 r1 q1 => ?_
  obtain ⟨d, rfl, ⟨h1, h2, h3⟩, h⟩ := q1
  exact ⟨x, d, rfl, Rp.any r1, h1, h2, h3, k _ H1 (.d (.str d.shown)) y1 w1 g1 s1 (.str _) h⟩
theorem xE_reprRX (w : wE C te y fun z y1 => ∃ d, Res y1.m z d ∧ ShX d ∧ Q (.d (.str d.shown)) y1) : wE C (tReprRX C.K (tCons te tNil)) y Q := by
  intro F σ H K wd k
  refine w F σ H _ wd fun x H1 z y1 w1 g1 s1 r1 q1 => ?_
  obtain ⟨d, hr, ⟨h1, h2, h3⟩, h⟩ := q1
  exact ⟨x, d, rfl, (hr.rp w1.toWd0 r1.w).any, h1, h2, h3, k _ H1 (.d (.str d.shown)) y1 w1 g1 s1 (.str _) h⟩
end
end Ux

set_option maxRecDepth 100000
set_option maxHeartbeats 4000000
namespace Ux
open PySem PySem.Spec PyProof.Rows L2 Tq
section
variable {K : Fg} {M : Addr → Prop} {H : Hp}
end
section
variable {C : Ct} {y : S} {e : En}
end
end Ux

set_option maxRecDepth 100000
set_option maxHeartbeats 4000000
namespace Ux
open PySem PySem.Spec PyProof.Rows L2 Tq
/-! ### a thing lent to a test, the plain slots told too -/
/-! ### x.pop() -/
theorem RwA.dropLast {K : Fg} {M : Addr → Prop} {H : Hp} : ∀ {vs : List V} {zs : List Z}, RwA K M H vs zs → RwA K M H vs.dropLast zs.dropLast
  | [], [], .nil => .nil
  | [_], [_], .cons _ .nil => .nil
  | _ :: _ :: _, _ :: _ :: _, .cons h t => .cons h (RwA.dropLast t)
/-! ### x[n].append(e) -/
/-! ### repr of a tuple, a list, with labels in it -/
inductive ResT (m : List Cl) : Z → D → Prop
  | r {z : Z} {d : D} : Res m z d → ResT m z d
  | tup {zs : List Z} {ds : List D} : ResA m zs ds → ResT m (.tup zs) (.tuple ds)
  | lst {zs : List Z} {ds : List D} : ResA m zs ds → ResT m (.lst zs) (.list ds)
theorem ResT.rp {K : Fg} {F : Fr} {σ : St} {y : S} {H : Hp} {v : V} {z : Z} {d : D} (w : Wd0 K F σ y H) (h : ResT y.m z d) (r : Rw K (Mv F σ y) H v z) : Rp K (MvX F σ y) H v d := by
  have g : GoH (Mv F σ y) H (MvX F σ y) H := fun a o n e => ⟨fun z => n z.1, e⟩
  cases h with
  | r h => exact Res.rp w h r
  | tup h =>
    cases r with
    | tup h1 h2 => exact .tup (h1.go g) (ResA.rp w h h2)
  | lst h =>
    cases r with
    | lst h1 h2 => exact .lst (h1.go g) (ResA.rp w h h2)
end Ux

set_option maxRecDepth 100000
set_option maxHeartbeats 4000000
namespace Ux
open PySem PySem.Spec PyProof.Rows L2 Tq
/-! ### tuples with labels in them handed to defs over data; tuples told by them -/
mutual
def scT : D → Bool
  | .tuple ds => scTs ds
  | .list _ | .dict _ => false
  | _ => true
def scTs : List D → Bool
  | [] => true
  | d :: ds => scT d && scTs ds
end
inductive ResTA (m : List Cl) : List Z → List D → Prop
  | nil : ResTA m [] []
  | cons {z : Z} {d : D} {zs : List Z} {ds : List D} : ResT m z d → ResTA m zs ds → ResTA m (z :: zs) (d :: ds)
theorem ResTA.rp {K : Fg} {F : Fr} {σ : St} {y : S} {H : Hp} (w : Wd0 K F σ y H) : ∀ {vs : List V} {zs : List Z} {ds : List D}, ResTA y.m zs ds → RwA K (Mv F σ y) H vs zs → RpA K (MvX F σ y) H vs ds
  | _, _, _, .nil, .nil => .nil
  | _, _, _, .cons a b, .cons c d => .cons (a.rp w c) (b.rp w d)
theorem cell_notup {K : Fg} {M : Addr → Prop} {H : Hp} {a : Addr} {c : Cell} (h : CellOk K M H a c) (xs : List V) : ¬ Rd H a (.tup xs) := by
  induction c with
  | lst zs => obtain ⟨us, h1, _⟩ := h; rintro (q | ⟨o, q⟩) <;> (rw [h1] at q; cases q)
  | dic kvs => obtain ⟨us, h1, _⟩ := h; rintro (q | ⟨o, q⟩) <;> (rw [h1] at q; cases q)
  | ins _ _ _ => obtain ⟨_, us, h1, _⟩ := h; rintro (q | ⟨o, q⟩) <;> (rw [h1] at q; cases q)
  | pu n => obtain ⟨_, _, _, h1, _⟩ := h; rintro (q | ⟨o, q⟩) <;> (rw [h1] at q; cases q)
  | ro _ ih => exact ih h
mutual
theorem sct_rp {K : Fg} {F : Fr} {σ : St} {y : S} {H : Hp} (w : Wd0 K F σ y H) : ∀ {v : V} {d : D}, scT d = true → Rp K (MvX F σ y) H v d → Rp K (Mv F σ y) H v d
  | _, _, _, .non => .non
  | _, _, _, .bl b => .bl b
  | _, _, _, .int b => .int b
  | _, _, _, .str b => .str b
  | _, _, h, .lst _ _ => by cases h
  | _, _, h, .dic _ _ _ => by cases h
  | _, _, h, .tup h1 h2 => by
    refine .tup (h1.elim (fun q => .inl ⟨fun hm => q.1 ⟨hm, fun ⟨e, he, ea⟩ => ?_⟩, q.2⟩) .inr) (sct_rpA w h h2)
    subst ea
    exact cell_notup (w.cell e he) _ q.2
theorem sct_rpA {K : Fg} {F : Fr} {σ : St} {y : S} {H : Hp} (w : Wd0 K F σ y H) : ∀ {vs : List V} {ds : List D}, scTs ds = true → RpA K (MvX F σ y) H vs ds → RpA K (Mv F σ y) H vs ds
  | _, _, _, .nil => .nil
  | _, _, h, .cons a b => by
    have h := h
    rw [scTs, Bool.and_eq_true] at h
    exact .cons (sct_rp w h.1 a) (sct_rpA w h.2 b)
end
section
variable {X : Cx} {k : Nat} {x : Str} {ps : List Str} {sp : Sp} {p pos : Pos} {e : Expr} {es : List Expr} {t : TA}
end
section
variable {C : Ct} {y : S} {ts : TA} {te ta tb : TE} {Q : Z → S → Prop} {E : XK} {n : Nat} {pre : List D → Prop} {post : List D → D → Prop}
end
/-! ### a list of our own, read by places -/
def rIxL (K : Fg) : R2 := rIx K
theorem ixLK {X : Cx} (K : Fg) (h : X.K = K := by rfl) : IxR X (rIxL K) := ixK K h
theorem wE_ixL {C : Ct} {y : S} {ta tb : TE} {Q : Z → S → Prop} (w : wE C ta y fun z y1 => wE C tb y1 fun z' y2 => ∃ (p : Addr) (b : Bool) (j : Nat) (zs : List Z) (i : Int) (u : Z), z = .lab p ∧ y2.m[j]? = some ⟨p, b, .lst zs⟩ ∧ z' = .d (.int i) ∧ atI zs i = some u ∧ Q u y2) : wE C (tOp (rIxL C.K) ta tb) y Q := by
  intro F σ H K wd k
  refine w F σ H _ wd fun x H1 z y1 w1 g1 s1 r1 q1 => ?_
  refine q1 F σ H1 _ w1 fun x2 H2 z' y2 w2 g2 s2 r2 q2 => ?_
  obtain ⟨p, b, j, zs, i, u, rfl, hj, rfl, hi, hq⟩ := q2
  have ey := rp_int r2
  cases r1.w with
  | lab a =>
    obtain ⟨us, c1, c2⟩ := (w2.cell _ (List.mem_of_getElem? hj) : CellOk C.K (Mv F σ y2) H2 p (.lst zs))
    obtain ⟨v, e, rv⟩ := atI_rw c2 hi
    exact .inl ⟨_, _, i, v, rfl, ey, .inl (.inl c1), e, k _ H2 u y2 w2 (g1.trans g2) (s1.trans s2) rv.z hq⟩
end Ux

set_option maxRecDepth 100000
set_option maxHeartbeats 4000000
namespace Ux
open PySem PySem.Spec PyProof.Rows L2 Tq
section
variable {C : Ct} {y : S} {ta tb : TE} {Q : Z → S → Prop}
end
section
variable {C : Ct} {y : S} {ta tb : TE} {Q : Z → S → Prop}
theorem wE_in {neg : Bool} (w : wE C ta y fun z y1 => wE C tb y1 fun z' y2 => ∃ d ds, z = .d d ∧ (z' = .d (.tuple ds) ∨ z' = .d (.list ds)) ∧ flatD d = true ∧ ds.all flatD = true ∧ Q (.d (.bool (if neg then !inD d ds else inD d ds))) y2) : wE C (tOp (rIn C.K neg) ta tb) y Q := by
  refine wE_op (res := fun d e r => ∃ ds, (e = .tuple ds ∨ e = .list ds) ∧ flatD d = true ∧ ds.all flatD = true ∧ r = .bool (if neg then !inD d ds else inD d ds)) ?_ (wE_mono w fun z y1 h => wE_mono h fun z' y2 ⟨d, ds, e1, e2, f1, f2, q⟩ => ?_)
  · rintro M H x y d e r Q _ rx ry ⟨ds, he, f1, f2, rfl⟩ k
    rcases he with rfl | rfl
    · obtain ⟨a, us, rfl, h1, h2⟩ := rp_tup ry
      obtain ⟨h3, h4⟩ := inD_rp rx f1 h2 f2
      refine ⟨a, us, rfl, .inr h1.sq, flat_rp rx f1, h3, ?_⟩
      rw [h4]
      exact k _ H (fun _ _ e => e) (.bl _)
    · obtain ⟨a, us, rfl, h1, h2⟩ := rp_lst ry
      obtain ⟨h3, h4⟩ := inD_rp rx f1 h2 f2
      refine ⟨a, us, rfl, .inl h1.sq, flat_rp rx f1, h3, ?_⟩
      rw [h4]
      exact k _ H (fun _ _ e => e) (.bl _)
  · rcases e2 with rfl | rfl
    · exact ⟨_, _, _, e1, rfl, ⟨ds, .inl rfl, f1, f2, rfl⟩, q⟩
    · exact ⟨_, _, _, e1, rfl, ⟨ds, .inr rfl, f1, f2, rfl⟩, q⟩
theorem wE_inT (w : wE C ta y fun z y1 => wE C tb y1 fun z' y2 => ∃ d ds, z = .d d ∧ (z' = .d (.tuple ds) ∨ z' = .d (.list ds)) ∧ flatD d = true ∧ ds.all flatD = true ∧ Q (.d (.bool (inD d ds))) y2) : wE C (tOp (rIn C.K false) ta tb) y Q := wE_in w
end
end Ux

set_option maxRecDepth 100000
set_option maxHeartbeats 4000000
namespace Ux
open PySem PySem.Spec PyProof.Rows L2 Tq
/-! ### things that may grow by a 9 -/
abbrev nin (k : Nat) : List D := List.replicate k (.int 9)
def shXB (d : D) : Bool := sw2 d && decide (d.depth ≤ 60) && decide (d.shown.length ≤ sizeLine)
theorem shXB_ok {d : D} (h : shXB d = true) : ShX d := by
  unfold shXB at h
  rw [Bool.and_eq_true, Bool.and_eq_true] at h
  exact ⟨h.1.1, of_decide_eq_true h.1.2, of_decide_eq_true h.2⟩
def sh3 (d : D) : Prop := ShX d ∧ ShX (.tuple [.str "fraction", d]) ∧ ShX (.tuple [.str "number", d])
theorem sh3_ok {d : D} (h : (shXB d && shXB (.tuple [.str "fraction", d]) && shXB (.tuple [.str "number", d])) = true) : sh3 d := by
  rw [Bool.and_eq_true, Bool.and_eq_true] at h
  exact ⟨shXB_ok h.1.1, shXB_ok h.1.2, shXB_ok h.2⟩
inductive OV (k : Nat) : Z → List Cl → D → Prop
  | pl (d : D) (h1 : isT "list" d = false) (h2 : sh3 d) : OV k (.d d) [] d
  | ls (a : Addr) (ds : List D) (h : ∀ j ≤ 1, sh3 (.list (ds ++ nin j))) (h4 : ds.length ≤ 10) : OV k (.lab a) [⟨a, true, .lst ((ds ++ nin k).map Z.d)⟩] (.list (ds ++ nin k))
  | dc (a : Addr) : OV k (.lab a) [⟨a, true, .dic []⟩] (.dict [])
theorem sh3_dict0 : sh3 (.dict []) := sh3_ok (by decide +kernel)
theorem OV.sh {k : Nat} {z : Z} {m : List Cl} {d : D} (h : OV k z m d) (hk : k ≤ 1) : sh3 d := by
  cases h with
  | pl _ h1 h2 => exact h2
  | ls _ _ h _ => exact h k hk
  | dc _ => exact sh3_dict0
theorem OV.res {k : Nat} {z : Z} {m n : List Cl} {d : D} (h : OV k z m d) (hs : m ⊆ n) : Res n z d := by
  cases h with
  | pl _ h1 h2 => exact .d _
  | ls a ds _ _ => exact .lab (e := ⟨a, true, .lst ((ds ++ nin k).map Z.d)⟩) (hs List.mem_cons_self) (.lst _)
  | dc a => exact .lab (e := ⟨a, true, .dic []⟩) (hs List.mem_cons_self) (.dic [])
/-! ### x != y, labels in both -/
end Ux
namespace Ux
open PySem PySem.Spec PyProof.Rows L2 Tq
theorem cutD_takeN {α : Type} (xs : List α) (j : Nat) : Tq.cutD xs none (some (j : Int)) = xs.take j := by
  unfold Tq.cutD
  have h1 : HT.sIx xs.length 0 none = 0 := rfl
  rw [h1, HT.sIx_nat, List.drop_zero, Nat.sub_zero]
  by_cases h : j ≤ xs.length
  · rw [Nat.min_eq_left h]
  · rw [Nat.min_eq_right (by omega), List.take_length, List.take_of_length_le (by omega)]
end Ux

set_option maxRecDepth 100000
set_option maxHeartbeats 4000000
/-! own objects without fields, or that never change: made, their methods called -/
namespace Ux
open PySem PySem.Spec PyProof.Rows L2 Tq
/-- what a class without __init__ must have to be made -/
structure Mk0 (K : Fg) (C : Addr) : Prop where
  makes : PySem.W.makesIn K C = true
  init : PySem.W.findIn K (.ref C) "__init__" = some (some (.builtin "object.__init__"))
  po : PySem.W.plainOver K C = true
  kp : PySem.W.keepIn K (.ref C) = true
def tMk0 (C : Addr) : TE := fun σ H Q => ∀ x dx, H x = none → H dx = none → dx ≠ x → Q (.ref x) (upd (upd H dx (.own x)) x (.ins C dx []))
/-! ### methods, by the class that an object has -/
structure VMeth (P : Program) (w : World) (K : Fg) (mg : Str → Option Value) (base : Heap) (CX : CXT) (k : Nat) (m : Str) (C : Addr) (sp : Sp) : Prop where
  cls : Cls K C
  ex : ∃ (f : Addr) (fd : FuncData) (ps : List Str), Meth K C m f ∧ FnG P w K mg base CX k f fd ps sp ∧ Binds K fd ps []
def VTab (P : Program) (w : World) (K : Fg) (mg : Str → Option Value) (base : Heap) (CX : CXT) (k : Nat) (m : Str) (tab : List (Addr × Sp)) : Prop := ∀ e ∈ tab, VMeth P w K mg base CX k m e.1 e.2
theorem VTab.nil {P : Program} {w : World} {K : Fg} {mg : Str → Option Value} {base : Heap} {CX : CXT} {k : Nat} {m : Str} : VTab P w K mg base CX k m [] := fun _ h => nomatch h
theorem VTab.cons {P : Program} {w : World} {K : Fg} {mg : Str → Option Value} {base : Heap} {CX : CXT} {k : Nat} {m : Str} {C : Addr} {sp : Sp} {tab : List (Addr × Sp)} (a : VMeth P w K mg base CX k m C sp) (b : VTab P w K mg base CX k m tab) : VTab P w K mg base CX k m ((C, sp) :: tab) := fun e h => by
  rcases List.mem_cons.mp h with rfl | h
  · exact a
  · exact b e h
/-- a def of a class, as the top has it -/
structure MFn (K : Fg) (x qual : Str) (st : Stmt) (ps : List Str) (f : Addr) : Prop where
  ex : ∃ fd : FuncData, Fun K x qual st f fd ∧ Binds K fd ps []
structure MCal (P : Program) (w : World) (K : Fg) (mg : Str → Option Value) (base : Heap) (CX : CXT) (k : Nat) (ps : List Str) (sp : Sp) (f : Addr) : Prop where
  ex : ∃ fd : FuncData, FnG P w K mg base CX k f fd ps sp ∧ Binds K fd ps []
section
variable {P : Program} {w : World} {K : Fg} {mg : Str → Option Value} {base : Heap} {CX : CXT} {j k : Nat} {x qual : Str} {ps N : List Str} {sp : Sp} {st : Stmt} {C f : Addr}
theorem VMeth.of (c : Cls K C) (m : Meth K C x f) (F : MCal P w K mg base CX j ps sp f) (h : j ≤ k) : VMeth P w K mg base CX k x C sp :=
  let ⟨fd, h1, h2⟩ := F.ex
  ⟨c, f, fd, ps, m, h1.mono h, h2⟩
theorem MFn.ok (d : MFn K x qual st ps f) (Sc : FnScope N ps (defScope st)) (len : ∀ vs H Q E, sp vs H Q E → vs.length = ps.length)
    (hbody : ∀ (cdv : Value) (A : Around) (outer : List Env) (s : Shared) (H : Hp) (vs : List V) (Q : VK) (E : XK), Room k (A.deeper (envOfC qual (defScope st) s.heap.objs.size f cdv)) →
      (A.deeper (envOfC qual (defScope st) s.heap.objs.size f cdv)).guards = some [] → sp vs H Q E →
      ∃ t, PSs (cxOf CX0 P w K mg base N qual (defScope st) f cdv A outer s H E).nox (defBody st) t ∧ t { nx := fun _ G => Q .non G, rt := Q } (start N vs) H) : MCal P w K mg base CX0 (k + 1) ps sp f := by
  obtain ⟨fd, F, hb⟩ := d.ex
  exact ⟨fd, okG F Sc len hbody, hb⟩
end
def tMethU (tab : List (Addr × Sp)) (m : Str) (E : XK) (ta : TE) (t : TA) : TE := fun σ H Q => ta σ H fun x H1 => ∃ a C dx fs sp, x = .ref a ∧ H1 a = some (.ins C dx fs) ∧ fs.lookup m = none ∧ (C, sp) ∈ tab ∧ t σ H1 fun vs H2 => sp (x :: vs) H2 Q E
section
variable {X : Cx} {o e : Expr} {es : List Expr} {ta : TE} {t : TA} {k : Nat} {m : Str} {tab : List (Addr × Sp)} {p pos apos : Pos}
end
/-! ### objects as values -/
section
variable {C : Ct} {y : S} {te : TE} {ts : TA} {Q : Z → S → Prop}
theorem wE_mk0 {D : Addr} (q : Q (.ob D [] []) y) : wE C (tMk0 D) y Q := by
  intro F σ H K wd k x dx hx hdx ne
  have gr : ∀ a u, H a = some u → upd (upd H dx (.own x)) x (.ins D dx []) a = some u := fun a u e => by
    rw [upd_ne (ne_of_none e hx), upd_ne (ne_of_none e hdx)]; exact e
  exact k _ _ (.ob D [] []) y (wd.grow gr) (go_grow gr) (Sh.refl y) (.ob (xs := []) (wd.new hx) upd_same rfl .nil) q
end
/-- a def of an object without fields and of data: reads alone, raises nothing -/
def obSp {ι : Type} (K : Fg) (cl : ι → Addr) (n : Nat) (pre : ι → List D → Prop) (post : ι → List D → D → Prop) : Sp := fun vs H Q _ => ∃ (i : ι) (M : Addr → Prop) (v : V) (us : List V) (ds : List D), vs = v :: us ∧ (∀ a, M a → H a ≠ none) ∧ Rw K M H v (.ob (cl i) [] []) ∧ RpA K M H us ds ∧ ds.length = n ∧ pre i ds ∧
  ∀ d v' H', post i ds d → (∀ a o, H a = some o → H' a = some o) → Rp K M H' v' d → Q v' H'
abbrev odSp {ι : Type} (K : Fg) (cl : ι → Addr) (n : Nat) (pre : ι → List D → Prop) (f : ι → List D → D) : Sp := obSp K cl n pre fun i ds d => d = f i ds
section
variable {ι : Type} {cl : ι → Addr} {C : Ct} {y : S} {te : TE} {ts : TA} {E : XK} {Q : Z → S → Prop} {n : Nat} {pre : ι → List D → Prop} {post : ι → List D → D → Prop}
theorem ob_call {F : Fr} {σ : St} {y1 : S} {H1 : Hp} {K : VK} {v : V} {us : List V} {zs : List Z} {ds : List D} {i : ι} (wd : Wd C F σ y1 H1) (rv : Rw C.K (Mv F σ y1) H1 v (.ob (cl i) [] [])) (r : RwA C.K (Mv F σ y1) H1 us zs) (hr : ResTA y1.m zs ds) (hn : ds.length = n) (hp : pre i ds)
    (q : ∀ d v' H2, post i ds d → (∀ a o, H1 a = some o → H2 a = some o) → Rp C.K (MvX F σ y1) H2 v' d → K v' H2) : obSp C.K cl n pre post (v :: us) H1 K E :=
  ⟨i, MvX F σ y1, v, us, ds, rfl, fun a m e => wd.new e m.1, rv.go fun a o n e => ⟨fun z => n z.1, e⟩, hr.rp wd.toWd0 r, hn, hp, q⟩
/-- f(an object, ..) -/
theorem wE_ob (w : wZ C ts y fun zs y1 => ∃ i zs' ds, zs = .ob (cl i) [] [] :: zs' ∧ ResTA y1.m zs' ds ∧ (ds.length = n ∧ pre i ds) ∧ ∀ d, post i ds d → scT d = true ∧ Q (.d d) y1) : wE C (tCall (obSp C.K cl n pre post) [] E ts) y Q := by
  intro F σ H K wd k
  refine w F σ H _ wd fun vs H1 zs y1 w1 g1 s1 r1 ⟨i, zs', ds, ez, hr, ⟨hn, hp⟩, q⟩ => ?_
  subst ez
  cases r1 with | @cons v _ us _ rv r2 =>
  show obSp C.K cl n pre post ((v :: us) ++ []) H1 K E
  rw [List.append_nil]
  refine ob_call w1 rv r2 hr hn hp fun d v' H2 hd gr rv' => ?_
  have w2 := w1.grow gr
  exact k v' H2 (.d d) y1 w2 (g1.trans (go_grow gr)) s1 (sct_rp w2.toWd0 (q d hd).1 rv') (q d hd).2
theorem wE_od {f : ι → List D → D} (w : wZ C ts y fun zs y1 => ∃ i zs' ds, zs = .ob (cl i) [] [] :: zs' ∧ ResTA y1.m zs' ds ∧ (ds.length = n ∧ pre i ds) ∧ scT (f i ds) = true ∧ Q (.d (f i ds)) y1) : wE C (tCall (odSp C.K cl n pre f) [] E ts) y Q :=
  wE_ob (wZ_mono w fun zs y1 ⟨i, zs', ds, e, hr, hp, h1, h2⟩ => ⟨i, zs', ds, e, hr, hp, fun d hd => by subst hd; exact ⟨h1, h2⟩⟩)
end
section
variable {C : Ct} {y : S} {te : TE} {ts : TA} {E : XK} {Q : Z → S → Prop}
/-- a def of a class without fields, of data -/
abbrev omSp (K : Fg) (n : Nat) (pre : List D → Prop) (f : List D → D) : Sp := odSp (ι := Addr) K id n (fun _ => pre) fun _ => f
/-- o.m(..) -/
theorem wE_meth {tab : List (Addr × Sp)} {m : Str} (w : wE C te y fun z y1 => ∃ D0 n pre f, z = .ob D0 [] [] ∧ (D0, omSp C.K n pre f) ∈ tab ∧ wZ C ts y1 fun zs y2 => ∃ ds, ResTA y2.m zs ds ∧ (ds.length = n ∧ pre ds) ∧ scT (f ds) = true ∧ Q (.d (f ds)) y2) : wE C (tMethU tab m E te ts) y Q := by
  intro F σ H K wd k
  refine w F σ H _ wd fun x H1 z y1 w1 g1 s1 r1 ⟨D0, n, pre, f, ez, hm, q1⟩ => ?_
  subst ez
  have r1w := r1.w
  cases r1w with | @ob a dx _ _ xs _ na ea hl rx =>
  refine ⟨a, D0, dx, _, _, rfl, ea, rfl, hm, ?_⟩
  refine q1 F σ H1 _ w1 fun vs H2 zs y2 w2 g2 s2 r2 ⟨ds, hr, ⟨hn, hp⟩, hs, q⟩ => ?_
  refine ob_call (ι := Addr) (cl := id) (i := D0) w2 (r1.w.go g2) r2 hr hn hp fun d v' H3 hd gr rv' => ?_
  subst hd
  have w3 := w2.grow gr
  exact k v' H3 (.d _) y2 w3 ((g1.trans g2).trans (go_grow gr)) (s1.trans s2) (sct_rp w3.toWd0 hs rv') q
end
/-! ### defs of objects and of things of any kind, that may raise -/
inductive ResO (m : List Cl) : Z → D → Prop
  | r {z : Z} {d : D} : Res m z d → ResO m z d
  | ob (C : Addr) : ResO m (.ob C [] []) .none
inductive ResOA (m : List Cl) : List Z → List D → Prop
  | nil : ResOA m [] []
  | cons {z : Z} {d : D} {zs : List Z} {ds : List D} : ResO m z d → ResOA m zs ds → ResOA m (z :: zs) (d :: ds)
def bxSp {ι : Type} (K : Fg) (n : Nat) (pre : ι → List Z → List D → Prop) (post : ι → List Z → List D → Z → Prop) (xp : ι → List Z → List D → Ex → Prop) : Sp := fun vs H Q E => ∃ (i : ι) (M : Addr → Prop) (m : List Cl) (zs : List Z) (ds : List D),
  (∀ a, M a → H a ≠ none) ∧ RwA K M H vs zs ∧ (∀ e ∈ m, M e.a ∧ CellOk K M H e.a e.c) ∧ (m.Pairwise fun e e' => e.a ≠ e'.a) ∧ ResOA m zs ds ∧ zs.length = n ∧ pre i zs ds ∧
  (∀ z v H', post i zs ds z → (∀ a o, H a = some o → H' a = some o) → Rw K M H' v z → Q v H') ∧
  (∀ ex a v H', xp i zs ds ex → (∀ a o, H a = some o → H' a = some o) → H a = none → H' a = some (.xd [(keyZ ex.found, v)]) → Rw K M H' v (valZ ex.found) → E ex.cls (some a) H')
section
variable {K : Fg} {N : List Str} {t : TS} {vs : List V} {H : Hp} {Q : VK} {E : XK} {n : Nat} {ι : Type} {pre : ι → List Z → List D → Prop} {post : ι → List Z → List D → Z → Prop} {xp : ι → List Z → List D → Ex → Prop}
end
theorem wE_bx {C : Ct} {y : S} {ts : TA} {Q : Z → S → Prop} {n : Nat} {ι : Type} {pre : ι → List Z → List D → Prop} {post : ι → List Z → List D → Z → Prop} {xp : ι → List Z → List D → Ex → Prop} (w : wZ C ts y fun zs y1 => ∃ i ds, ResOA y1.m zs ds ∧ (zs.length = n ∧ pre i zs ds) ∧ (∀ z, post i zs ds z → Q z y1) ∧ ∀ ex, xp i zs ds ex → C.ex ex y1) : wE C (tCallS (bxSp C.K n pre post xp) (WE C.W) ts) y Q := by
  intro F σ H K wd k
  refine w F σ H _ wd fun vs H1 zs y1 w1 g1 s1 r1 ⟨i, ds, hr, ⟨hn, hp⟩, q, x⟩ => ?_
  refine ⟨i, Mv F σ y1, y1.m, zs, ds, fun a m e => w1.new e m, r1, fun e he => ⟨.inr ⟨e, he, rfl⟩, w1.cell e he⟩, w1.dist, hr, hn, hp, fun z v H2 hz gr rv => k v H2 z y1 (w1.grow gr) (g1.trans (go_grow gr)) s1 rv.z (q z hz), fun ex a v H2 hx gr ha ha2 rv => ?_⟩
  exact w1.xk σ y1 H2 ex ex.cls (some a) (w1.grow gr).toWd0 (go_grow gr) ⟨rfl, a, v, rfl, ha2, w1.new ha, w1.newH0 ha, rv⟩ (x ex hx)
def NoOb (z : Z) : Prop := ∀ C ks us, z ≠ .ob C ks us
theorem ResO.res {m : List Cl} {z : Z} {d : D} (h : ResO m z d) (n : NoOb z) : Res m z d := by
  cases h with
  | r h => exact h
  | ob c => exact absurd rfl (n c [] [])
/-! ### defs that change what they are handed, by an index -/
def miSp {ι : Type} (K : Fg) (n : Nat) (pre : ι → List (Addr × Cell) → List Z → Prop) (post : ι → List (Addr × Cell) → List Z → D → List (Addr × Cell) → Prop) : Sp := fun vs H Q E => ∃ i, mSp K n (pre i) (post i) vs H Q E
theorem wE_mi {ι : Type} {C : Ct} {y : S} {ts : TA} {E : XK} {Q : Z → S → Prop} {n : Nat} {pre : ι → List (Addr × Cell) → List Z → Prop} {post : ι → List (Addr × Cell) → List Z → D → List (Addr × Cell) → Prop}
    (w : wZ C ts y fun zs y1 => ∃ i A m B b, y1.m = A ++ toCl b m ++ B ∧ (∀ e ∈ m, e.2.isRo = false) ∧ zs.length = n ∧ pre i m zs ∧ ∀ d m', post i m zs d m' → m'.map (·.1) = m.map (·.1) → (∀ e ∈ m', e.2.isRo = false) → Q (.d d) ⟨y1.l, A ++ toCl b m' ++ B⟩) :
    wE C (tCall (miSp C.K n pre post) [] E ts) y Q := by
  intro F σ H K wd k
  refine w F σ H _ wd fun vs H1 zs y1 w1 g1 s1 r1 ⟨i, A, m, B, b, em, ro, hn, hp, q⟩ => ?_
  refine ⟨i, ?_⟩
  show mSp C.K n (pre i) (post i) (vs ++ []) H1 K E
  rw [List.append_nil]
  have mem : ∀ e ∈ m, (⟨e.1, b, e.2⟩ : Cl) ∈ y1.m := fun e he => by
    rw [em]; exact List.mem_append.mpr (.inl (List.mem_append.mpr (.inr (List.mem_map.mpr ⟨e, he, rfl⟩))))
  have dist := w1.dist
  rw [em] at dist
  have pwm : m.Pairwise fun e e' => e.1 ≠ e'.1 := by
    have := (List.pairwise_append.mp (List.pairwise_append.mp dist).1).2.1
    unfold toCl at this
    rw [List.pairwise_map] at this
    exact this
  refine ⟨Mv F σ y1, m, zs, fun a m e => w1.new e m, r1, fun e he => ⟨.inr ⟨_, mem e he, rfl⟩, w1.cell _ (mem e he), ro e he⟩, pwm, hn, hp, fun d v m' H' hq hs ha ro' kp cs rv => ?_⟩
  have aeq : (A ++ toCl b m' ++ B).map (·.a) = y1.m.map (·.a) := by
    rw [em]
    simp only [List.map_append, toCl, List.map_map]
    congr 2
  have aoeq : ao (A ++ toCl b m' ++ B) = ao y1.m := by
    rw [em]
    unfold ao
    simp only [List.map_append]
    congr 2
    unfold toCl
    rw [List.map_map, List.map_map]
    have e1 : ∀ l : List (Addr × Cell), (∀ e ∈ l, e.2.isRo = false) → l.map ((fun e : Cl => (e.a, e.own, e.c.isRo)) ∘ fun e => (⟨e.1, b, e.2⟩ : Cl)) = (l.map (·.1)).map fun a => (a, b, false) := fun l hl => by
      rw [List.map_map]
      exact List.map_congr_left fun e he => by show (e.1, b, e.2.isRo) = (e.1, b, false); rw [hl e he]
    rw [e1 m' ro', e1 m ro, ha]
  have inm : ∀ a, (∃ e ∈ m, e.1 = a) ↔ ∃ e ∈ m', e.1 = a := fun a => by
    have e1 : ∀ l : List (Addr × Cell), (∃ e ∈ l, e.1 = a) ↔ a ∈ l.map (·.1) := fun l => List.mem_map.symm
    rw [e1, e1, ha]
  have old : ∀ e ∈ A ++ toCl b m' ++ B, ∃ e0 ∈ y1.m, e0.a = e.a ∧ (e.own = true → e0.own = true) ∧ (e.c.isRo = false → e0.c.isRo = false) := fun e he => by
    obtain ⟨e', h1, h2, h3, h4⟩ := own_ao aoeq he
    exact ⟨e', h1, h2, fun z => h3.trans z, fun z => h4.trans z⟩
  have lv : ∀ a, Dom y1.m a → H' a ≠ none := fun a ⟨e, h1, h2⟩ z => by
    by_cases ha : ∃ e ∈ m, e.1 = a
    · obtain ⟨e', q1, q2⟩ := (inm a).mp ha
      exact (cs e' q1).live (q2 ▸ z)
    · cases r : H1 a with
      | none => exact (w1.cell e h1).live (h2 ▸ r)
      | some o => rw [kp a o (fun e he q => ha ⟨e, he, q⟩) r] at z; cases z
  have key := w1.store (m := A ++ toCl b m' ++ B) (H' := H') (fun a o n e => kp a o (fun e' he' z => n ⟨_, mem e' he', z, ro e' he'⟩) e) lv (fun e he => .inl (old e he))
    (by
      have p1 : ∀ l : List Cl, (l.Pairwise fun e e' => e.a ≠ e'.a) ↔ (l.map (·.a)).Pairwise (· ≠ ·) := fun l => by rw [List.pairwise_map]
      rw [p1, aeq, ← p1]
      exact w1.dist)
    (fun g e he => by
      by_cases hq : ∃ e' ∈ m', (⟨e'.1, b, e'.2⟩ : Cl) = e
      · obtain ⟨e', h1', rfl⟩ := hq
        refine (cs e' h1').go (fun a o n e => ⟨fun z => n ?_, e⟩) fun _ r => r
        rcases z with z | ⟨e2, h2, h3⟩
        · exact .inl z
        · obtain ⟨e0, q1, q2, _⟩ := old e2 h2
          exact .inr ⟨e0, q1, q2.trans h3⟩
      · have hAB : e ∈ A ∨ e ∈ B := by
          rcases List.mem_append.mp he with he | he
          · rcases List.mem_append.mp he with he | he
            · exact .inl he
            · obtain ⟨e', h1', rfl⟩ := List.mem_map.mp he
              exact absurd ⟨e', h1', rfl⟩ hq
          · exact .inr he
        have hy : e ∈ y1.m := by
          rw [em]
          rcases hAB with h | h
          · exact List.mem_append.mpr (.inl (List.mem_append.mpr (.inl h)))
          · exact List.mem_append.mpr (.inr h)
        refine (w1.cell e hy).go g fun o r => kp _ _ (fun e' he' z => ?_) r
        have m1 : (⟨e'.1, b, e'.2⟩ : Cl) ∈ toCl b m := List.mem_map.mpr ⟨e', he', rfl⟩
        rcases hAB with h | h
        · exact (List.pairwise_append.mp (List.pairwise_append.mp dist).1).2.2 e h _ m1 z.symm
        · exact (List.pairwise_append.mp dist).2.2 _ (List.mem_append.mpr (.inr m1)) e h z)
  exact k v H' (.d d) _ key.1 (g1.trans key.2) (s1.trans ⟨rfl, [], by rw [show ao ([] : List Cl) = [] from rfl, List.append_nil]; exact aoeq⟩) (sc_rp hs rv) (q d m' hq ha ro')
/-! ### the store in another order -/
/-! ### a slice of a list of ours, as a new list of ours -/
def rSlNew (K : Fg) : V → Option Int → Option Int → Hp → VK → Prop := rSlD K
theorem xE_slN {C : Ct} {y : S} {te : TE} {tl th : TO} {Q : Z → S → Prop} (w : wE C te y fun z y1 => wO C tl y1 fun l y2 => wO C th y2 fun h y3 => ∃ (p : Addr) (b : Bool) (j : Nat) (ds : List D), z = .lab p ∧ y3.m[j]? = some (⟨p, b, .lst (ds.map Z.d)⟩ : Cl) ∧ ∀ q, Q (.lab q) ⟨y3.l, y3.m ++ [⟨q, true, .lst ((cutD ds l h).map Z.d)⟩]⟩) : wE C (tSl (rSlNew C.K) te tl th) y Q := by
  intro F σ H K wd k
  refine w F σ H _ wd fun x H1 z y1 w1 g1 s1 r1 q1 => ?_
  refine q1 F σ H1 _ w1 fun l H2 y2 w2 g2 s2 q2 => ?_
  refine q2 F σ H2 _ w2 fun h H3 y3 w3 g3 s3 q3 => ?_
  obtain ⟨p, b, j, ds, rfl, hj, hq⟩ := q3
  have r3 : Rz C F σ y3 H3 x (.lab p) := Rz.go (g2.trans g3) r1
  obtain ⟨rfl, xs, c1, c2⟩ := lab_lst w3 r3 hj
  refine .inl ⟨p, xs, rfl, .inl (.inl c1), fun q hp => ?_⟩
  obtain ⟨w4, g4, s4⟩ := w3.cnew (o := .lst (cutV xs l h)) (c := .lst ((cutD ds l h).map Z.d)) (b := true) hp fun M g => ⟨cutV xs l h, upd_same, RwA.of ((rpA_cut c2.ds l h).go g)⟩
  exact k _ _ (.lab q) _ w4 (((g1.trans g2).trans g3).trans g4) (((s1.trans s2).trans s3).trans s4) (.lab q) (hq q)
/-! ### three parameters, the last one by its default -/
section
variable {P : Program} {w : World} {K : Fg} {mg : Str → Option Value} {base : Heap} {k : Nat} {x : Str} {ps N : List Str} {sp : Sp} {st : Stmt} {dv : V}
end
/-! ### list(x) of a thing, as data -/
def tListD (K : Fg) (t : TA) : TE := tCB (rListD K) t
theorem xE_listD {C : Ct} {y : S} {te : TE} {Q : Z → S → Prop} (w : wE C te y fun z y1 => ∃ d xs, Res y1.m z d ∧ dItems d = some xs ∧ Q (.d (.list xs)) y1) : wE C (tListD C.K (tCons te tNil)) y Q := by
  intro F σ H K wd k
  refine w F σ H _ wd fun x H1 z y1 w1 g1 s1 r1 ⟨d, xs, hr, hx, hq⟩ => ?_
  have key : ∃ a us, x = .ref a ∧ (SqL C.K H1 a us ∨ SqT C.K H1 a us) ∧ RpA C.K (Mv F σ y1) H1 us xs := by
    cases hr with
    | d d =>
      obtain ⟨a, us, rfl, h1, h2⟩ := rp_items r1 hx
      exact ⟨a, us, rfl, h1.elim (fun z => .inl z.sq) (fun z => .inr z.sq), h2⟩
    | @lab e d he hc =>
      have r1w := r1.w
      cases r1w
      have ok := w1.cell e he
      generalize e.c = c at hc ok
      induction hc with
      | lst ds =>
        cases hx
        obtain ⟨us, h1, h2⟩ := ok
        exact ⟨_, us, rfl, .inl (SqL.of h1), h2.ds⟩
      | dic kvs => cases hx
      | ro _ ih => exact ih hx ok
  obtain ⟨a, us, rfl, h1, h2⟩ := key
  refine ⟨a, us, rfl, h1, fun p hp => ?_⟩
  have gr := grow_upd (o := .lst us) hp
  exact k _ _ (.d (.list xs)) y1 (w1.grow gr) (g1.trans (go_grow gr)) s1 (.lst (.inl ⟨w1.new hp, .inl upd_same⟩) (h2.go (go_grow (F := F) (σ := σ) (y := y1) gr))) hq
end Ux

set_option maxRecDepth 100000
set_option maxHeartbeats 4000000
/-! exceptions whose field has another name; keywords for the third parameter -/
namespace Ux
open PySem PySem.Spec PyProof.Rows L2 Tq
/-! ### an own class with __init__(self, found): T.__init__(self, 'text'); self.found = found -/
def spInitN (f : Str) (K : Fg) (C : Addr) : Sp := fun vs H Q _ => ∃ (a : Addr) (v : V), vs = [.ref a, v] ∧ OexC K C ∧ PySem.W.findIn K (.ref C) f = some none ∧ H a = some (exo a C none) ∧ ∀ dx, H dx = none → dx ≠ a → Q .non (upd (upd H dx (exd dx [(f, v)])) a (exo a C (some dx)))
/-- the class x, at C: its instances hold what was found -/
structure XcN (P : Program) (w : World) (K : Fg) (mg : Str → Option Value) (base : Heap) (f x : Str) (C : Addr) : Prop where
  gC : mg x = some (.ref C)
  oc : OexC K C
  xf : XfC K C
  no : PySem.W.findIn K (.ref C) f = some none
  ini : ∃ (fI : Addr) (fd : FuncData), PySem.W.findIn K (.ref C) "__init__" = some (some (.ref fI)) ∧ PySem.W.typeIn K (.ref fI) = some (.type "function") ∧ FnOk P w K mg base CX0 1 fI fd ["self", f] (spInitN f K C) ∧ Binds K fd ["self", f] []
section
variable {X : Cx} {f x : Str} {C : Addr} {a : Expr} {ta : TA} {p pos pos2 : Pos}
end
structure XcTN (K : Fg) (mg : Str → Option Value) (f x qual : Str) (st : Stmt) (C : Addr) : Prop where
  gC : mg x = some (.ref C)
  oc : OexC K C
  xf : XfC K C
  no : PySem.W.findIn K (.ref C) f = some none
  ini : ∃ (fI : Addr) (fd : FuncData), PySem.W.findIn K (.ref C) "__init__" = some (some (.ref fI)) ∧ PySem.W.typeIn K (.ref fI) = some (.type "function") ∧ Fun K "__init__" qual st fI fd ∧ Binds K fd ["self", f] []
section
variable {C : Ct} {y : S} {ts : TA} {e : En}
end
theorem Res.kz {m : List Cl} {z : Z} {d : D} (r : Res m z d) : keyZ z = "found" ∧ valZ z = z := by cases r <;> exact ⟨rfl, rfl⟩
section
variable {P : Program} {w : World} {K : Fg} {mg : Str → Option Value} {base : Heap} {k : Nat} {x : Str} {ps N : List Str} {sp : Sp} {st : Stmt} {dv : V}
end

/-! ### new lists that nobody changes: plain data at once -/
/-! ### methods of one class, that call others of it -/
/-! ### a list of ours, many times -/
end Ux

set_option maxRecDepth 100000
set_option maxHeartbeats 4000000
/-! objects with fields that change: defs that read and change what they are handed, hand out new things, may raise -/
namespace Ux
open PySem PySem.Spec PyProof.Rows L2 Tq
abbrev AC := List (Addr × Cell)
section
variable {ι : Type} {K : Fg} {n : Nat} {pre : ι → AC → List Cl → List Z → Prop} {post : ι → AC → List Cl → List Z → Z → AC → AC → Prop} {xp : ι → AC → List Cl → List Z → Ex → AC → AC → Prop}
end
section
variable {C : Ct} {y : S} {ts : TA} {te : TE} {Q : Z → S → Prop} {ι : Type} {n : Nat} {pre : ι → AC → List Cl → List Z → Prop} {post : ι → AC → List Cl → List Z → Z → AC → AC → Prop} {xp : ι → AC → List Cl → List Z → Ex → AC → AC → Prop}
end
/-! ### fields -/
/-- a class whose instances are plain, and have these fields alone by their dict -/
structure AtC (K : Fg) (D : Addr) (fs : List Str) : Prop where
  cls : Cls K D
  no : ∀ f ∈ fs, NoAttr K D f
theorem AtC.get {K : Fg} {D : Addr} {fs : List Str} {f : Str} (h : AtC K D fs) (hf : f ∈ fs) : Cls K D ∧ NoAttr K D f := ⟨h.cls, h.no f hf⟩
section
variable {C : Ct} {y : S} {te tv : TE} {Q : Z → S → Prop} {f : Str}
end
end Ux

set_option maxRecDepth 100000
set_option maxHeartbeats 4000000
/-! defs with several truths as defaults, called in any way: by places, by names in any order, left out -/
namespace Ux
open PySem PySem.Spec PyProof.Rows L2 Tq
/-- what a parameter is handed: the thing told at a place, a default -/
inductive Sl
  | at (i : Nat)
  | df (j : Nat) (b : Bool)
def Sl.ok (n : Nat) (dbs : List Bool) : Sl → Bool
  | .at i => decide (i < n)
  | .df j b => decide (dbs[j]? = some b)
def permU (sel : List Sl) (us its : List Value) : List Value := sel.map fun
  | .at i => us.getD i .none
  | .df j _ => its.getD j .none
structure Shp where
  m : Nat
  ks : List Str
  sel : List Sl
def dfU (dbs : List Bool) : List Value := dbs.map Value.bool
structure DfM (K : Fg) (mg : Str → Option Value) (x : Str) (st : Stmt) (ps : List Str) (dbs : List Bool) (shs : List Shp) : Prop where
  ex : ∃ (f : Addr) (fd : FuncData), FunD K x x (defArgs st) (defBody st) (defScope st) (dbs.map V.bl) [] f fd ∧ mg x = some (.ref f) ∧
    ∀ sh ∈ shs, sh.sel.all (Sl.ok (sh.m + sh.ks.length) dbs) = true ∧ ∀ (s : Shared) (us ws : List Value), K.In s.heap → us.length = sh.m → ws.length = sh.ks.length → BindsTo s fd ⟨us, sh.ks.zip ws⟩ (ps.zip (permU sh.sel (us ++ ws) (dfU dbs)))
structure CalM (P : Program) (w : World) (K : Fg) (mg : Str → Option Value) (base : Heap) (k : Nat) (x : Str) (ps : List Str) (sp : Sp) (dbs : List Bool) (shs : List Shp) : Prop where
  ex : ∃ (f : Addr) (fd : FuncData), Tq.FnG P w K mg base (L2.CX P w) k f fd ps sp ∧ mg x = some (.ref f) ∧ PySem.W.keepIn K (.ref f) = true ∧
    ∀ sh ∈ shs, sh.sel.all (Sl.ok (sh.m + sh.ks.length) dbs) = true ∧ ∀ (s : Shared) (us ws : List Value), K.In s.heap → us.length = sh.m → ws.length = sh.ks.length → BindsTo s fd ⟨us, sh.ks.zip ws⟩ (ps.zip (permU sh.sel (us ++ ws) (dfU dbs)))
section
variable {P : Program} {w : World} {K : Fg} {mg : Str → Option Value} {base : Heap} {k : Nat} {x : Str} {ps N : List Str} {sp : Sp} {st : Stmt} {dbs : List Bool} {shs : List Shp}
end
section
variable {C : Ct} {y : S} {te tk : TA} {Q : Z → S → Prop} {n : Nat} {pre : List Z → List D → Prop} {post : List Z → List D → Z → Prop} {xp : List Z → List D → Ex → Prop} {sh : Shp}
def Sl.lt (n : Nat) : Sl → Bool
  | .at i => decide (i < n)
  | .df _ _ => true
end
end Ux

set_option maxRecDepth 100000
set_option maxHeartbeats 4000000
/-! calls of defs of classes: C(..), C.m(..), o.m(..) that may raise; defaults of any plain kind, in any shape of call -/
namespace Ux
open PySem PySem.Spec PyProof.Rows L2 Tq
inductive Dv where
  | n
  | b (x : Bool)
  | i (x : Int)
  | s (x : Str)
def Dv.v : Dv → V
  | .n => .non
  | .b x => .bl x
  | .i x => .int x
  | .s x => .str x
def Dv.d : Dv → D
  | .n => .none
  | .b x => .bool x
  | .i x => .int x
  | .s x => .str x
theorem Dv.rp {K : Fg} {M : Addr → Prop} {H : Hp} (x : Dv) : Rp K M H x.v x.d := by cases x <;> constructor
/-- what a parameter is handed: the thing told at a place, a default -/
inductive Sq
  | at (i : Nat)
  | df (j : Nat)
def Sq.ok (n q : Nat) : Sq → Bool
  | .at i => decide (i < n)
  | .df j => decide (j < q)
def qermU (sel : List Sq) (us its : List Value) : List Value := sel.map fun
  | .at i => us.getD i .none
  | .df j => its.getD j .none
/-- m things by place (the object itself, too), the names of the others -/
structure Shq where
  m : Nat
  ks : List Str
  sel : List Sq
def BnQ (K : Fg) (fd : FuncData) (ps : List Str) (dvs : List Dv) (sh : Shq) : Prop := sh.sel.all (Sq.ok (sh.m + sh.ks.length) dvs.length) = true ∧ ∃ its : List Value, Vals (dvs.map Dv.v) its ∧
  ∀ (s : Shared) (us ws : List Value), K.In s.heap → us.length = sh.m → ws.length = sh.ks.length → BindsTo s fd ⟨us, sh.ks.zip ws⟩ (ps.zip (qermU sh.sel (us ++ ws) its))
/-- a def of a class with defaults, as the top has it -/
structure DfQ (K : Fg) (x qual : Str) (st : Stmt) (ps : List Str) (dvs : List Dv) (shs : List Shq) (f : Addr) : Prop where
  ex : ∃ fd : FuncData, FunD K x qual (defArgs st) (defBody st) (defScope st) (dvs.map Dv.v) [] f fd ∧ ∀ sh ∈ shs, BnQ K fd ps dvs sh
structure CalQ (P : Program) (w : World) (K : Fg) (mg : Str → Option Value) (base : Heap) (CX : CXT) (k : Nat) (ps : List Str) (sp : Sp) (dvs : List Dv) (shs : List Shq) (f : Addr) : Prop where
  ex : ∃ fd : FuncData, FnG P w K mg base CX k f fd ps sp ∧ PySem.W.keepIn K (.ref f) = true ∧ ∀ sh ∈ shs, BnQ K fd ps dvs sh
section
variable {P : Program} {w : World} {K : Fg} {mg : Str → Option Value} {base : Heap} {j k : Nat} {x qual : Str} {ps N : List Str} {sp : Sp} {st : Stmt} {dvs : List Dv} {shs : List Shq} {C f : Addr}
theorem DfQ.ok (d : DfQ K x qual st ps dvs shs f) (Sc : FnScope N ps (defScope st)) (len : ∀ vs H Q E, sp vs H Q E → vs.length = ps.length)
    (hbody : ∀ (cdv : Value) (A : Around) (outer : List Env) (s : Shared) (H : Hp) (vs : List V) (Q : VK) (E : XK), Room k (A.deeper (envOfC qual (defScope st) s.heap.objs.size f cdv)) →
      (A.deeper (envOfC qual (defScope st) s.heap.objs.size f cdv)).guards = some [] → sp vs H Q E →
      ∃ t, PSs (cxOf (L2.CX P w) P w K mg base N qual (defScope st) f cdv A outer s H E) (defBody st) t ∧ t { nx := fun _ G => Q .non G, rt := Q } (start N vs) H) : CalQ P w K mg base (L2.CX P w) (k + 1) ps sp dvs shs f := by
  obtain ⟨fd, F, hb⟩ := d.ex
  have kp := F.kp
  obtain ⟨oc, od, dV, kV, doc, pm, an, cdv, ct, osl, rfl, lk, hcd, _, _⟩ := F.ex
  exact ⟨_, Tq.fn_ofG lk hcd Sc len fun A outer s H vs Q E hr hgu hsp => hbody cdv A outer s H vs Q E hr hgu hsp, kp, hb⟩
end
/-! ### C(es, kws) -/
section
variable {X : Cx} {k : Nat} {f D : Addr} {ps : List Str} {dvs : List Dv} {shs : List Shq} {sp : Sp} {x m : Str} {p p1 p2 pos : Pos} {e : Expr} {es : List Expr} {kws : List Keyword} {te tk2 : TA} {W : WX}
/-! ### C.m(e, ..), the def read off the class -/
structure ClF (K : Fg) (mg : Str → Option Value) (x m : Str) (f : Addr) : Prop where
  ex : ∃ T : Addr, mg x = some (.ref T) ∧ PySem.W.readsIn K T (.type "type") = true ∧ PySem.W.specialIn K (.ref T) "__getattribute__" = some (some (.builtin "type.__getattribute__")) ∧
    PySem.W.findCls K (.ref T) (.type "type") m = some (.val (.ref f)) ∧ PySem.W.keepIn K (.ref f) = true
/-! ### o.m(e, ..), may raise -/
variable {o : Expr} {apos : Pos} {tab : List (Addr × Sp)} {ta : TE}
end
/-! ### the rules -/
section
variable {C : Ct} {y : S} {te : TE} {ts tk : TA} {Q : Z → S → Prop} {m : Str}
/-! ### isinstance(o, T), o an own object -/
structure IsiC (K : Fg) (D : Addr) : Prop where
  cl : Cls K D
  ha : PySem.W.findIn K (.ref D) "__class__" = some (some (.builtin "object.__class__"))
  hn : PySem.W.specialIn K (.builtin "object.__class__") "__get__" = some (some (.builtin "getset_descriptor.__get__"))
  htk : PySem.W.takesIn K (.builtin "object.__class__") = some true
  hm : PySem.W.mroIn K D (.type "object") = some true
/-! ### list(x) of a thing, a new list of ours -/
/-! ### a thing of a tuple, a list of ours read -/
end
end Ux

set_option maxRecDepth 100000
set_option maxHeartbeats 4000000
/-! x[i] = e of a list; a written dict asked at once -/
namespace Ux
open PySem PySem.Spec PyProof.Rows L2 Tq
theorem wS_setL {C : Ct} {y : S} {te ti : TE} {e : En} {i j : Nat} {a : Addr} {b : Bool} (hi : y.l[i]? = some (some (.lab a)))
    (w : wE C te y fun z y1 => y1.l[i]? = some (some (.lab a)) ∧ wE C ti y1 fun zi y2 => ∃ zs k jj, y2.m[j]? = some ⟨a, b, .lst zs⟩ ∧ zi = .d (.int k) ∧ ixN zs.length k = some jj ∧ e.nx ⟨y2.l, y2.m.set j ⟨a, b, .lst (zs.set jj z)⟩⟩) :
    wS C (tAsg te (gSub (tVar i) ti rSetL)) y e := by
  intro F σ H E st wd k
  refine w F σ H _ wd fun v H1 z y1 w1 g1 s1 r1 ⟨hi1, w'⟩ => ?_
  obtain ⟨x, h1, h2⟩ := w1.slot i _ hi1
  cases h2
  refine ⟨.ref a, h1, ?_⟩
  refine w' F σ H1 _ w1 fun v2 H2 zi y2 w2 g2 s2 r2 ⟨zs, kk, jj, hj, ez, hn, q⟩ => ?_
  subst ez
  obtain rfl := rp_int r2
  obtain ⟨us, e2, e3⟩ := (w2.cell _ (List.mem_of_getElem? hj) : CellOk C.K (Mv F σ y2) H2 a (.lst zs))
  refine ⟨a, us, kk, jj, rfl, rfl, e2, by rw [e3.len]; exact hn, ?_⟩
  obtain ⟨w3, g3, s3⟩ := w2.cmut (H' := upd H2 a (.lst (us.set jj v))) (c' := .lst (zs.set jj z)) hj rfl rfl (fun b o n e => by rw [upd_ne n]; exact e) fun M _ g => ⟨us.set jj v, upd_same, (e3.go g).set jj ((r1.go g2).w.go g)⟩
  exact k.nx _ _ _ w3 ((g1.trans g2).trans g3) q
end Ux

set_option maxRecDepth 100000
set_option maxHeartbeats 4000000
/-! lists read through the store, also where they are for reading alone: len, x[i], x[a:b] -/
namespace Ux
open PySem PySem.Spec PyProof.Rows L2 Tq
section
variable {C : Ct} {y : S} {te ta tb : TE} {tl th : TO} {Q : Z → S → Prop}
end
end Ux

set_option maxRecDepth 100000
set_option maxHeartbeats 4000000
namespace Ux
open PySem PySem.Spec PyProof.Rows L2 Tq
/-! ### x.extend(list) -/
/-! ### [t + "..", .., t.replace("x", "y"), ..] -/
end Ux

set_option maxRecDepth 100000
set_option maxHeartbeats 4000000
namespace Ux
open PySem PySem.Spec PyProof.Rows L2 Tq
end Ux
namespace Ux
open PySem PySem.Spec PyProof.Rows L2 Tq
end Ux
namespace Ux
open PySem PySem.Spec PyProof.Rows L2 Tq
end Ux
namespace Ux
open PySem PySem.Spec PyProof.Rows L2 Tq
end Ux

set_option maxRecDepth 100000
set_option maxHeartbeats 4000000
/-! comprehensions that hand out new labels -/
namespace Ux
open PySem PySem.Spec PyProof.Rows L2 Tq
section
variable {K : Fg} {F : Fr} {σ : St} {y y' u : S} {H H' : Hp} {l : Addr}
end
section
variable {C : Ct} {y : S} {te : TE} {tt : TT} {wi : TI} {Q : Z → S → Prop}
end
end Ux

set_option maxRecDepth 100000
set_option maxHeartbeats 4000000
namespace Tq
open PySem PySem.Spec PyProof.Rows L2
/-! ### where two legal rows part, and which of their values is less -/
end Tq

set_option maxRecDepth 100000
set_option maxHeartbeats 4000000
namespace Tq
open PySem PySem.Spec PyProof.Rows L2
/-! ### floors of a fraction, one after the other -/
end Tq

set_option maxRecDepth 100000
set_option maxHeartbeats 4000000
namespace Tq
open PySem PySem.Spec PyProof.Rows L2
/-! ### bounds told of every beginning and every rest of a row -/
structure TM (ts : List Int) : Prop where
  len : ts.length ≤ 220
  bd : ∀ t ∈ ts, Bd 40 t
  tk : ∀ n, MB 1600 (turnL (ts.take n))
  dr : ∀ n, MB 1600 (turnL (ts.drop n))
theorem TB.tm {ts : List Int} (h : TB ts) : TM ts :=
  ⟨by have := h.1; omega, fun t ht => (h.2 t ht).mono (by decide), fun n => (h.take n).turn, fun n => TB.turn ⟨by rw [List.length_drop]; have := h.1; omega, fun t ht => h.2 t (List.mem_of_mem_drop ht)⟩⟩
end Tq

set_option maxRecDepth 100000
set_option maxHeartbeats 4000000
/-! rows of fractions in the three manners, over plain data -/
namespace Tq
open PySem PySem.Spec PyProof.Rows L2
end Tq

set_option maxRecDepth 100000
set_option maxHeartbeats 4000000
/-! legal rows in the three manners: each is the row of its worth, and rows of fractions are legal -/
namespace Tq
open PySem PySem.Spec PyProof.Rows L2
/-! ### the worth, with a bottom above nought -/
def woN (k : Mn) : List Int → Int × Int
  | [] => (1, 0)
  | t :: r => if (woN k r).1 < 0 then (-(t * (woN k r).1 + k.turned * (woN k r).2), -(woN k r).1) else (t * (woN k r).1 + k.turned * (woN k r).2, (woN k r).1)
/-- one step further: a term ahead of a rest of worth p / q -/
def stN (k : Mn) (t : Int) (pq : Int × Int) : Int × Int := if pq.1 < 0 then (-(t * pq.1 + k.turned * pq.2), -pq.1) else (t * pq.1 + k.turned * pq.2, pq.1)
/-! ### rows of fractions are legal -/
end Tq

set_option maxRecDepth 100000
set_option maxHeartbeats 4000000
/-! cones: what can stand behind a beginning -/
namespace Tq
open PySem PySem.Spec PyProof.Rows L2
/-- the term ahead of what stands behind a beginning: none where it is the first one -/
def ahd (ts : List Int) : Option Int := if ts.length = 1 then none else some (ts.getLastD 0)
/-! the two sides of a cone -/
structure Cn where
  u0 : Int
  u1 : Int
  ui : Bool
  v0 : Int
  v1 : Int
  vi : Bool
def Cn.d (c : Cn) : D := .tuple [.tuple [.tuple [.int c.u0, .int c.u1], .bool c.ui], .tuple [.tuple [.int c.v0, .int c.v1], .bool c.vi]]
def cnA : Mn → Option Int → Cn
  | .fl, a => ⟨1, 1, false, 1, 0, decide (a ≠ some 1)⟩
  | .ce, _ => ⟨1, 1, false, 1, 0, true⟩
  | .ne, a => if a = some 2 then ⟨2, 1, false, 1, 0, false⟩ else if a = some (-2) then ⟨1, 0, true, 2, -1, true⟩ else ⟨2, 1, false, 2, -1, true⟩
/-! a rest solved for its two numbers -/
end Tq

set_option maxRecDepth 100000
set_option maxHeartbeats 4000000
/-! ranges of rests: two ends, and what lies between -/
namespace Tq
open PySem PySem.Spec PyProof.Rows L2
end Tq

set_option maxRecDepth 100000
set_option maxHeartbeats 4000000
namespace Tq
open PySem PySem.Spec PyProof.Rows L2
def Mx.T (m : Mx) : Mx := ⟨m.a, m.c, m.b, m.d⟩
end Tq

set_option maxRecDepth 100000
set_option maxHeartbeats 4000000
/-! the range behind a legal beginning -/
namespace Tq
open PySem PySem.Spec PyProof.Rows L2
/-! a fraction in lowest terms, as a function -/
end Tq

set_option maxRecDepth 100000
set_option maxHeartbeats 4000000
/-! streams as they stand: rows, rules, fed ones, tails; what they tell -/
namespace Ux
open PySem PySem.Spec PyProof.Rows L2 Tq
section
variable {C : Ct} {y : S} {ts : TA} {Q : Z → S → Prop} {n : Nat} {pre : List Z → List D → Prop} {post : List Z → List D → Z → Prop} {xp : List Z → List D → Ex → Prop}
end
section
variable {C : Ct} {y : S} {ta tb : TE} {Q : Z → S → Prop}
theorem wE_catA (w : wE C ta y fun z y1 => wE C tb y1 fun z' y2 => ∃ xs ys, z = .d (.tuple xs) ∧ z' = .d (.tuple ys) ∧ xs.length + ys.length ≤ sizeLine ∧ Q (.d (.tuple (xs ++ ys))) y2) : wE C (tOp (rCatA C.K) ta tb) y Q := by
  refine wE_op (res := fun d e r => ∃ xs ys, d = .tuple xs ∧ e = .tuple ys ∧ xs.length + ys.length ≤ sizeLine ∧ r = .tuple (xs ++ ys)) ?_ (wE_mono w fun z y1 h => wE_mono h fun z' y2 ⟨xs, ys, e1, e2, c, q⟩ => ⟨_, _, _, e1, e2, ⟨xs, ys, rfl, rfl, c, rfl⟩, q⟩)
  rintro M H x y d e r Q fr rx ry ⟨xs, ys, rfl, rfl, c, rfl⟩ k
  obtain ⟨a, us, rfl, h1, h2⟩ := rp_tup rx
  obtain ⟨b, vs, rfl, h3, h4⟩ := rp_tup ry
  refine ⟨a, b, us, vs, rfl, rfl, h1.sq, h3.sq, by rw [h2.len, h4.len]; exact c, fun e => k _ _ (fun _ _ q => q) ?_, fun _ e => k _ _ (fun _ _ q => q) ?_, fun _ _ p hp => k _ _ (grow_upd hp) ?_⟩
  · have l := h2.len
    rw [e] at l
    rw [List.eq_nil_of_length_eq_zero l.symm]
    exact .tup h3 h4
  · have l := h4.len
    rw [e] at l
    rw [List.eq_nil_of_length_eq_zero l.symm, List.append_nil]
    exact .tup h1 h2
  · have g : GoH M H M (upd H p (.tup (us ++ vs))) := fun a o n e => ⟨n, grow_upd hp a o e⟩
    exact .tup (.inl ⟨fr p hp, .inl upd_same⟩) ((h2.go g).app (h4.go g))
end
/-! a list of the store, asked whether it is empty -/
section
variable {C : Ct} {y : S} {ta tb : TE} {Q : Z → S → Prop}
end
/-! two lists gone through side by side; a list of the store taken apart; a list of the store and another one -/
def intsZ (ts : List Int) : List Z := (ts.map PyData.int).map Z.d
theorem ixN_last (n : Nat) : ixN (n + 1) (-1) = some n := by
  unfold ixN
  rw [if_neg (by decide)]
  simp
  omega
theorem take_succ {ts : List Int} {n : Nat} (h : n < ts.length) : intsZ (ts.take n) ++ [Z.d (.int ts[n])] = intsZ (ts.take (n + 1)) := by
  unfold intsZ
  rw [List.take_succ_eq_append_getElem h, List.map_append, List.map_append]
  rfl
/-! ### what is told at a place -/
inductive An where
  | tm (t : Int)
  | en
  | no
  | op
def An.isT : An → Bool
  | .tm _ => true
  | _ => false
def An.t : An → Int
  | .tm t => t
  | _ => 0
/-- how many terms stand ahead, of the first p -/
def lead (f : Nat → An) : Nat → Nat
  | 0 => 0
  | p + 1 => if lead f p = p ∧ (f p).isT = true then p + 1 else lead f p
def tkA (f : Nat → An) (n : Nat) : List Int := (List.range n).map fun i => (f i).t
def tell (f : Nat → An) (p : Nat) : An := f (min (lead f (p + 1)) p)
structure Bs where
  a : Addr
  k : Addr
  how : Mn
  ts : List Int
  cl : Option Bool
abbrev Bs.n (b : Bs) : Nat := b.ts.length
def clO : Option Bool → D
  | none => .none
  | some true => .str "end"
  | some false => .str "nought"
def clA : An → Option Bool
  | .en => some true
  | .no => some false
  | _ => none
def Bs.go (f : Nat → An) (p : Nat) (b : Bs) : Bs := if b.cl.isSome ∨ p < b.n then b else { b with ts := tkA f (lead f (p + 1)), cl := if lead f (p + 1) = p + 1 then none else clA (f (lead f (p + 1))) }
/-- what stands of a stream is what it tells -/
structure Bs.Ok (f : Nat → An) (b : Bs) : Prop where
  tk : b.ts = tkA f b.n
  ld : lead f b.n = b.n
  c1 : b.cl = some true → f b.n = .en
  c2 : b.cl = some false → f b.n = .no
inductive SS where
  | row (b : Bs) (w : Addr) (ws : List Int)
  | ruled (b : Bs) (p q r : Addr) (ps qs rs : List Int)
  | fed (b : Bs) (f : Addr) (fs : List Int) (sh : Bool)
  | tail (b : Bs) (s : SS) (st : Nat)
structure KdD where
  row : Addr
  ruled : Addr
  fed : Addr
  tail : Addr
def ruT (ps qs rs : List Int) (n : Nat) : Int := if n < ps.length then ps.getD n 0 else qs.getD ((n - ps.length) % qs.length) 0 + ((n - ps.length) / qs.length : Nat) * rs.getD ((n - ps.length) % qs.length) 0
namespace SS
def b : SS → Bs
  | .row b _ _ => b
  | .ruled b _ _ _ _ _ _ => b
  | .fed b _ _ _ => b
  | .tail b _ _ => b
def D (K : KdD) : SS → Addr
  | .row _ _ _ => K.row
  | .ruled _ _ _ _ _ _ _ => K.ruled
  | .fed _ _ _ _ => K.fed
  | .tail _ _ _ => K.tail
def fs : SS → List Str
  | .row _ _ _ => ["whole_row"]
  | .ruled _ _ _ _ _ _ _ => ["ahead", "coming", "grown"]
  | .fed _ _ _ _ => ["fed", "shut"]
  | .tail _ _ _ => ["source", "start"]
def fz : SS → List Z
  | .row _ w _ => [.lab w]
  | .ruled _ p q r _ _ _ => [.lab p, .lab q, .lab r]
  | .fed _ f _ sh => [.lab f, .d (.bool sh)]
  | .tail _ s st => [.lab s.b.a, .d (.int st)]
end SS
def bM (D : Addr) (b : Bs) (fs : List Str) (fz : List Z) (X : AC) : AC := (b.a, .ins D ("how" :: "kept" :: "closing" :: fs) (.d (.str b.how.word) :: .lab b.k :: .d (clO b.cl) :: fz)) :: (b.k, .lst (intsZ b.ts)) :: X
namespace SS
mutual
def m (K : KdD) : SS → AC
  | .row b w ws => bM K.row b ["whole_row"] [.lab w] [(w, .lst (intsZ ws))]
  | .ruled b p q r ps qs rs => bM K.ruled b ["ahead", "coming", "grown"] [.lab p, .lab q, .lab r] [(p, .lst (intsZ ps)), (q, .lst (intsZ qs)), (r, .lst (intsZ rs))]
  | .fed b f fs sh => bM K.fed b ["fed", "shut"] [.lab f, .d (.bool sh)] [(f, .lst (intsZ fs))]
  | .tail b s st => bM K.tail b ["source", "start"] [.lab s.b.a, .d (.int st)] (m K s)
end
def src : SS → Nat → An
  | .row _ _ ws, n => match ws[n]? with
    | some t => .tm t
    | none => .en
  | .ruled _ _ _ _ ps qs rs, n => .tm (ruT ps qs rs n)
  | .fed _ _ fs sh, n => match fs[n]? with
    | some t => .tm t
    | none => if sh then .en else .op
  | .tail _ s st, n => match tell (src s) (st + n) with
    | .en => if n = 0 then .no else .en
    | a => a
/-- what an ask makes -/
def go : SS → Nat → SS
  | .row b w ws, p => .row (b.go (SS.row b w ws).src p) w ws
  | .ruled b u q r ps qs rs, p => .ruled (b.go (SS.ruled b u q r ps qs rs).src p) u q r ps qs rs
  | .fed b f fs sh, p => .fed (b.go (SS.fed b f fs sh).src p) f fs sh
  | .tail b s st, p => if b.cl.isSome ∨ p < b.n then .tail b s st else .tail (b.go (SS.tail b s st).src p) (go s (st + min (lead (SS.tail b s st).src (p + 1)) p)) st
def Ok : SS → Prop
  | .row b w ws => b.Ok (SS.row b w ws).src
  | .ruled b u q r ps qs rs => b.Ok (SS.ruled b u q r ps qs rs).src ∧ qs ≠ [] ∧ rs.length = qs.length ∧ qs.length ≤ 20 ∧ ∀ x ∈ rs, x.natAbs ≤ 10 ^ 13
  | .fed b f fs sh => b.Ok (SS.fed b f fs sh).src
  | .tail b s st => b.Ok (SS.tail b s st).src ∧ Ok s ∧ b.how = s.b.how
theorem Ok.b {s : SS} (h : s.Ok) : s.b.Ok s.src := by
  cases s with
  | row => exact h
  | ruled => exact h.1
  | fed => exact h
  | tail => exact h.1
/-! one step of an ask -/
end SS
/-! bounds -/
/-- bounds may be told -/
structure Lg (b : Bs) : Prop where
  bg : bgL b.how b.ts = true
  en : b.cl = some true → enL b.how b.ts = true
  ln : b.ts.length ≤ 110
  bd : ∀ t ∈ b.ts, t.natAbs + 1 ≤ 10 ^ 13
structure Kn where
  row : Bool
  ruled : Bool
  fed : Bool
  tail : Bool
namespace SS
def dp : SS → Nat
  | .tail _ s _ => dp s + 1
  | _ => 0
/-- bounds may be told where they are -/
def LgAt : SS → Nat → Prop
  | .tail b s st, p => (tell (SS.tail b s st).src p = .op → Lg ((SS.tail b s st).go p).b) ∧ ∀ i, i ≤ p → LgAt s (st + i)
  | s, p => tell s.src p = .op → Lg (s.go p).b
theorem LgAt.at {s : SS} {p : Nat} (h : s.LgAt p) : tell s.src p = .op → Lg (s.go p).b := by
  cases s with
  | tail => exact h.1
  | row => exact h
  | ruled => exact h
  | fed => exact h
/-! what is open -/
end SS
theorem AtC.base {K : Fg} {D : Addr} {X : List Str} (h : AtC K D ("how" :: "kept" :: "closing" :: X)) : AtC K D ["how", "kept", "closing"] := ⟨h.cls, fun f hf => h.no f (by
  simp only [List.mem_cons, List.not_mem_nil, or_false] at hf
  rcases hf with rfl | rfl | rfl <;> simp)⟩
end Ux

set_option maxRecDepth 100000
set_option maxHeartbeats 4000000
/-! the range behind a beginning: its rows, its cone, their bottoms -/
namespace Tq
open PySem PySem.Spec PyProof.Rows L2
end Tq

set_option maxRecDepth 100000
set_option maxHeartbeats 4000000
/-! the number of a row that goes on with a rest; ranges that narrow -/
namespace Tq
open PySem PySem.Spec PyProof.Rows L2
/-- a row that goes on with a rest, in lowest terms -/
def woR (k : Mn) : List Int → Int × Int → Int × Int
  | [], v => v
  | t :: r, v => stN k t (woR k r v)
/-- the two ends of the range, in lowest terms -/
def eU (k : Mn) (ts : List Int) : Int × Int := woR k ts ((cnA k (ahd ts)).u0, (cnA k (ahd ts)).u1)
def eV (k : Mn) (ts : List Int) : Int × Int := woR k ts ((cnA k (ahd ts)).v0, (cnA k (ahd ts)).v1)
/-- what the ends bound -/
def ltE (a b : Int × Int) : Prop := a.1 * b.2 < b.1 * a.2
instance (a b : Int × Int) : Decidable (ltE a b) := by unfold ltE; infer_instance
def hiE (k : Mn) (ts : List Int) : Int × Int := if ltE (eU k ts) (eV k ts) then eV k ts else eU k ts
end Tq

set_option maxRecDepth 100000
set_option maxHeartbeats 4000000
/-! two plain lists side by side; bounds by their ends -/
namespace Ux
open PySem PySem.Spec PySem.W PyProof.Rows L2 Tq
/-! a list of ours, many times: a thing of our own -/
def hi2 (k : Mn) (ts : List Int) (e : Bool) : Int × Int := if e = true then woN k ts else hiE k ts
end Ux

set_option maxRecDepth 100000
set_option maxHeartbeats 4000000
/-! a list and a tuple side by side, in any mix -/
namespace Ux
open PySem PySem.Spec PySem.W PyProof.Rows L2 Tq
/-- a list (true) or a tuple, its iterator -/
def SqX (K : Fg) (f : Bool) (H : Hp) (a : Addr) (xs : List V) : Prop := match f with | true => SqL K H a xs | false => SqT K H a xs
def itX (f : Bool) (h : Heap) (it l : Addr) (i : Nat) : Prop := match f with | true => h.IsListIter it l i | false => h.IsTupleIter it l i
def sqX (f : Bool) (h : Heap) (l : Addr) (xs : Array Value) : Prop := match f with | true => h.IsList l xs | false => h.IsTuple l xs
def itO (f : Bool) (l : Addr) : Obj := match f with | true => { cls := .type "list_iterator", data := .fields #[.ref l, .int 0 0] } | false => { cls := .type "tuple_iterator", data := .fields #[.ref l, .int 0 0] }
theorem drX {prog : Program} {w : World} {A : Around} (hh : A.handled = none) (f : Bool) (it l : Addr) (hne : l ≠ it) (xs : Array Value) : Draws prog w A it [it, l] xs.size (fun i v => xs[i]? = some v) (fun i h => itX f h it l i ∧ sqX f h l xs) := by
  cases f with
  | true => exact Draws.list hh it l hne xs
  | false => exact Draws.tuple hh it l hne xs
theorem bgX (f : Bool) (l : Addr) (xs : Array Value) : Begins (.ref l) (itO f l) (fun h => sqX f h l xs) := by
  cases f with
  | true => exact begins_list l xs
  | false => exact begins_tuple l xs
theorem itX_new {f : Bool} {h : Heap} {it l : Addr} (e : h.get? it = some (itO f l)) : itX f h it l 0 := by
  cases f with
  | true => exact ⟨_, e, rfl, rfl⟩
  | false => exact ⟨_, e, rfl, rfl⟩
theorem itX_at {f : Bool} {h h' : Heap} {it l : Addr} {i : Nat} (x : itX f h it l i) (k : ∀ o, h.get? it = some o → h'.get? it = some o) : itX f h' it l i := by
  cases f with
  | true => exact Heap.IsListIter.at x k
  | false => exact Heap.IsTupleIter.at x k
theorem itX_ob {f : Bool} {h : Heap} {it l : Addr} {i : Nat} (x : itX f h it l i) : ∃ o, h.get? it = some o ∧ ∀ v, o.data ≠ .cell v := by
  cases f with
  | true => obtain ⟨o, e, _, d⟩ := x; exact ⟨o, e, fun v q => by rw [d] at q; cases q⟩
  | false => obtain ⟨o, e, _, d⟩ := x; exact ⟨o, e, fun v q => by rw [d] at q; cases q⟩
section
variable {X : Cx} {pins : List (Addr × Obj)} {σ : L2.St} {H : Hp} {s : Shared}
theorem sqX_get (I : Inv X pins σ H s) {f : Bool} {a : Addr} {xs : List V} (h : SqX X.K f H a xs) : ∃ its : List Value, Vals xs its ∧ sqX f s.heap a its.toArray ∧ a < s.heap.objs.size := by
  cases f with
  | true =>
    obtain ⟨its, rv, p, _⟩ := I.list h
    exact ⟨its, rv, p.isList, p.lt⟩
  | false =>
    obtain ⟨its, rv, p, _⟩ := I.tuple h
    obtain ⟨o, ho, _⟩ := id p
    exact ⟨its, rv, p, Heap.lt_size ho⟩
theorem sqX_inj (I : Inv X pins σ H s) {f : Bool} {a : Addr} {xs ys : List V} (h : SqX X.K f H a xs) (h' : SqX X.K f H a ys) : xs = ys := by
  cases f with
  | true => exact I.list_inj h h'
  | false => exact I.tuple_inj h h'
end
def ItzX (K : Fg) (f g : Bool) (a b : Addr) (n : Nat) : It :=
  ⟨fun i H => ∃ (xs ys : List V) (x y : V), SqX K f H a xs ∧ SqX K g H b ys ∧ i < n ∧ xs[i]? = some x ∧ ys[i]? = some y,
    fun i H v H' => ∃ T x y, v = .ref T ∧ H T = none ∧ H' = upd H T (.tup [x, y]) ∧ (∀ xs, SqX K f H a xs → xs[i]? = some x) ∧ ∀ ys, SqX K g H b ys → ys[i]? = some y,
    fun i H => ∃ xs ys : List V, SqX K f H a xs ∧ SqX K g H b ys ∧ n = min xs.length ys.length ∧ n ≤ i⟩
theorem turn_zipX {P : Program} {w : World} {K : Fg} {elts : List Expr} {kk n : Nat} {tpos : Pos} {f g : Bool} {a b z TI TO i1 i2 : Addr} (S : ZipSep2 z TI TO i1 i2 [i1, a] [i2, b]) (n1 : a ≠ i1) (n2 : b ≠ i2) :
    Turn P w K (.Tuple elts kk tpos) (ItzX K f g a b n) [z, TI, TO, i1, i2] z (fun i h => IsZip h z TI TO .none ∧ IsTupOf2 h TI (.ref i1) (.ref i2) ∧ (∃ x y, IsTupOf2 h TO x y) ∧ itX f h i1 a (min i n) ∧ itX g h i2 b (min i n)) := by
  have five : ∀ c, c ∈ [z, TI, TO, i1, i2] → c = z ∨ c = TI ∨ c = TO ∨ c = i1 ∨ c = i2 := fun c hc => by simpa using hc
  have four : ∀ c, c ∉ [z, TI, TO, i1, i2] → c ∉ [z, TO, i1, i2] := fun c hc q => hc (by simp at q ⊢; rcases q with q | q | q | q <;> simp [q])
  refine ⟨by simp, fun i h st c hc => ?_, fun i h h' st k => ?_, ?_, ?_, fun A i s Q E st h => wpAny_pyIter_zip st.1 h⟩
  · obtain ⟨hz, hTI, ⟨x, y, hTO⟩, h1, h2⟩ := st
    rcases five c hc with rfl | rfl | rfl | rfl | rfl
    · exact ⟨_, hz, fun v q => nomatch q⟩
    · exact ⟨_, hTI, fun v q => nomatch q⟩
    · exact ⟨_, hTO, fun v q => nomatch q⟩
    · exact itX_ob h1
    · exact itX_ob h2
  · obtain ⟨hz, hTI, ⟨x, y, hTO⟩, h1, h2⟩ := st
    exact ⟨k z (by simp) _ hz, k TI (by simp) _ hTI, ⟨x, y, k TO (by simp) _ hTO⟩, itX_at h1 fun o q => k i1 (by simp) o q, itX_at h2 fun o q => k i2 (by simp) o q⟩
  · intro X hP hw hK hc i pins s σ H E I hf st hg
    subst hP hw hK
    obtain ⟨hz, hTI, hTO, h1, h2⟩ := st
    obtain ⟨xs, ys, x, y, hqx, hqy, hin, hx, hy⟩ := hg
    rw [Nat.min_eq_left (Nat.le_of_lt hin)] at h1 h2
    obtain ⟨us, r1, s1, l1⟩ := sqX_get I hqx
    obtain ⟨ws, r2, s2, l2⟩ := sqX_get I hqy
    have hh : X.A.in1.handled = none := I.ok.hd hc
    have i1l : i < us.toArray.size := by
      have := (List.getElem?_eq_some_iff.mp hx).1
      rw [List.size_toArray, ← r1.length]; exact this
    have i2l : i < ws.toArray.size := by
      have := (List.getElem?_eq_some_iff.mp hy).1
      rw [List.size_toArray, ← r2.length]; exact this
    have W := WalksT.zipD2 S (drX (prog := X.prog) (w := X.w) hh f i1 a n1 us.toArray) (drX (prog := X.prog) (w := X.w) hh g i2 b n2 ws.toArray)
    refine W.item i s _ _ (by rw [Nat.lt_min]; exact ⟨i1l, i2l⟩) ⟨hz, hTI, hTO, ⟨h1, s1⟩, ⟨h2, s2⟩⟩ fun T vals h' tk hv hT hTu hM hk => ?_
    obtain ⟨u1, u2, hu1, hu2, rfl⟩ := hv
    refine ⟨_, rfl, W.go elts kk tpos i T { s with heap := h', toks := tk } _ _ hM fun h'' st'' hk2 => ?_⟩
    have hTn := W.apart i T h' hM
    have rx : RelV x u1 := by
      obtain ⟨v, hv, rv⟩ := r1.get hx
      have e : us.toArray[i]? = some v := by simpa using hv
      rw [e] at hu1; cases hu1; exact rv
    have ry : RelV y u2 := by
      obtain ⟨v, hv, rv⟩ := r2.get hy
      have e : ws.toArray[i]? = some v := by simpa using hv
      rw [e] at hu2; cases hu2; exact rv
    have hTu2 : h''.IsTuple T #[u1, u2] := hTu.at fun o e => hk2 T o hTn e
    have new : ObjOk X.prog X.w (upd H T (.tup [x, y])) h'' T (.tup [x, y]) := ⟨by show 2 ≤ sizeLine; decide, [u1, u2], .cons rx (.cons ry .nil), hTu2⟩
    have I1 : Inv X pins σ (upd H T (.tup [x, y])) { s with heap := h'', toks := tk } :=
      I.turnedNew (t' := tk) (ch := [z, TI, TO, i1, i2]) (fun c o hb q => hk2 c o (four c hb) (hk c o (four c hb) q)) hf hT new
    obtain ⟨q1, q2, q3, ⟨q4, _⟩, ⟨q5, _⟩⟩ := st''
    refine ⟨.ref T, _, I1, rfl, ⟨T, x, y, rfl, I.hok.fresh hT, rfl, fun l hl => by rw [sqX_inj I hl hqx]; exact hx, fun l hl => by rw [sqX_inj I hl hqy]; exact hy⟩, ⟨q1, q2, q3, by rw [Nat.min_eq_left hin]; exact q4, by rw [Nat.min_eq_left hin]; exact q5⟩, fun c hcm => ?_⟩
    have hlt : c < s.heap.objs.size := by
      rcases five c hcm with rfl | rfl | rfl | rfl | rfl
      · exact Heap.lt_size hz
      · exact Heap.lt_size hTI
      · obtain ⟨_, _, e⟩ := hTO; exact Heap.lt_size e
      · obtain ⟨_, e, _⟩ := itX_ob h1; exact Heap.lt_size e
      · obtain ⟨_, e, _⟩ := itX_ob h2; exact Heap.lt_size e
    rw [upd_ne (Nat.ne_of_lt (Nat.lt_of_lt_of_le hlt hT))]
    exact (hf c hcm).1
  · intro X hP hw hK hc i pins s σ H E I hf st hg
    subst hP hw hK
    obtain ⟨hz, hTI, hTO, h1, h2⟩ := st
    obtain ⟨xs, ys, hqx, hqy, hn, hend⟩ := hg
    obtain ⟨us, r1, s1, l1⟩ := sqX_get I hqx
    obtain ⟨ws, r2, s2, l2⟩ := sqX_get I hqy
    have hh : X.A.in1.handled = none := I.ok.hd hc
    have W := WalksT.zipD2 S (drX (prog := X.prog) (w := X.w) hh f i1 a n1 us.toArray) (drX (prog := X.prog) (w := X.w) hh g i2 b n2 ws.toArray)
    have e : min i n = min us.toArray.size ws.toArray.size := by
      rw [List.size_toArray, List.size_toArray, ← r1.length, ← r2.length]; omega
    rw [e] at h1 h2
    refine W.done s _ _ ⟨hz, hTI, hTO, ⟨h1, s1⟩, ⟨h2, s2⟩⟩ fun h' tk hk => ⟨rfl, ?_⟩
    exact I.turnedL (t' := tk) (ch := [z, TI, TO, i1, i2]) (fun c o hb q => hk c o (four c hb) q) hf
/-- zip of a list or a tuple and a list or a tuple -/
def iZipX (K : Fg) (ta : TA) : TI := fun σ H R => ta σ H fun vs H1 => ∃ f g a b xs ys, vs = [.ref a, .ref b] ∧ SqX K f H1 a xs ∧ SqX K g H1 b ys ∧ R (ItzX K f g a b (min xs.length ys.length)) H1
theorem pi_zipX {X : Cx} {e e2 : Expr} {ta : TA} {p pos tpos : Pos} {elts : List Expr} {kk : Nat} (hg : Gl X "zip") (hm : X.mg "zip" = none) (ha : PA X [e, e2] ta)
    (hs : starEach [e, e2] X.env = (false, eval e X.env) :: starEach [e2] X.env := by rfl) (hpl : (backTo pos (starEach [e2] X.env)).any (·.1) = false := by rfl) :
    PI X (.Tuple elts kk tpos) (.Call (.Name "zip" p) [e, e2] [] pos) (iZipX X.K ta) := by
  constructor
  intro pins s σ H R I h
  refine Call_ (ld_blt I hg hm PyProof.Rows.boot_zip (PyProof.Rows.callWith_type1 (thn (ha.run pos pins s σ H _ I h) fun us s1 ⟨vs, H1, I1, r1, q1⟩ => ?_) hs hpl))
  obtain ⟨f, g, a, b, xs, ys, ex, hqx, hqy, q⟩ := q1
  subst ex
  cases r1 with | cons r rr =>
  cases rr with | cons r' rr =>
  cases rr; cases r; cases r'
  obtain ⟨us, ra, sa, la⟩ := sqX_get I1 hqx
  obtain ⟨ws, rb, sb, lb⟩ := sqX_get I1 hqy
  refine zip_begins2 (bgX f a us.toArray) (bgX g b ws.toArray) sa sb fun h' hz hTI hTO h1 h2 hsz hk => wpAny_pyIter_zip hz ?_
  have I2 : Inv X pins σ H1 { s1 with heap := h' } := I1.kept (t' := s1.toks) hk
  have N := s1.heap.objs.size
  refine ⟨s1.heap.objs.size + 4, [s1.heap.objs.size + 4, s1.heap.objs.size + 2, s1.heap.objs.size + 3, s1.heap.objs.size, s1.heap.objs.size + 1], _, _, H1, rfl, I2,
    turn_zipX (zip_sep2 (fp1 := [a]) (fp2 := [b]) (fun c hc => by rw [List.mem_singleton.mp hc]; exact la) (fun c hc => by rw [List.mem_singleton.mp hc]; exact lb)) (Nat.ne_of_lt la) (Nat.ne_of_lt (Nat.lt_succ_of_lt lb)),
    ⟨hz, hTI, ⟨_, _, hTO⟩, by rw [Nat.zero_min]; exact itX_new h1, by rw [Nat.zero_min]; exact itX_new h2⟩, fun c hcm => ?_, q⟩
  have hle : s1.heap.objs.size ≤ c := by
    simp only [List.mem_cons, List.not_mem_nil, or_false] at hcm
    rcases hcm with z | z | z | z | z
    · exact z ▸ Nat.le_add_right _ 4
    · exact z ▸ Nat.le_add_right _ 2
    · exact z ▸ Nat.le_add_right _ 3
    · exact z ▸ Nat.le_refl _
    · exact z ▸ Nat.le_add_right _ 1
  exact I1.fpOk hle (I1.hok.fresh hle)
section
variable {X : Cx} (K : Fg)
theorem piZX {e e2 : Expr} {ta : TA} {p pos tpos : Pos} {elts : List Expr} {kk : Nat} (hg : Gl X "zip") (hm : X.mg "zip" = none) (ha : PA X [e, e2] ta) (h : X.K = K := by rfl)
    (hs : starEach [e, e2] X.env = (false, eval e X.env) :: starEach [e2] X.env := by rfl) (hpl : (backTo pos (starEach [e2] X.env)).any (·.1) = false := by rfl) :
    PI X (.Tuple elts kk tpos) (.Call (.Name "zip" p) [e, e2] [] pos) (iZipX K ta) := h ▸ pi_zipX hg hm ha hs hpl
end
def LsX (K : Fg) (M : Addr → Prop) (f : Bool) (H : Hp) (a : Addr) (xs : List V) : Prop := match f with | true => LsA K M H a xs | false => TsA K M H a xs
theorem rp_lt {K : Fg} {M : Addr → Prop} {H : Hp} {v : V} {d : D} {xs : List D} (r : Rp K M H v d) (h : dItems d = some xs) : ∃ f a us, v = .ref a ∧ LsX K M f H a us ∧ RpA K M H us xs := by
  cases d with
  | list ds =>
    cases h
    obtain ⟨a, us, rfl, h1, h2⟩ := rp_lst r
    exact ⟨true, a, us, rfl, h1, h2⟩
  | tuple ds =>
    cases h
    obtain ⟨a, us, rfl, h1, h2⟩ := rp_tup r
    exact ⟨false, a, us, rfl, h1, h2⟩
  | _ => cases h
theorem LsX.sq {K : Fg} {M : Addr → Prop} {f : Bool} {H : Hp} {a : Addr} {xs : List V} (h : LsX K M f H a xs) : SqX K f H a xs := by
  cases f with
  | true => exact LsA.sq h
  | false => exact TsA.sq h
theorem LsX.go {K : Fg} {M M' : Addr → Prop} {f : Bool} {H H' : Hp} {a : Addr} {xs : List V} (h : LsX K M f H a xs) (g : GoH M H M' H') : LsX K M' f H' a xs := by
  cases f with
  | true => exact (show LsA K M H a xs from h).go g
  | false => exact (show TsA K M H a xs from h).go g
theorem wI_zipX {C : Ct} {y : S} {ts : TA} {Qi : List D → S → Prop} (w : wD C ts y fun ds y1 => ∃ d1 d2 xs ys, ds = [d1, d2] ∧ dItems d1 = some xs ∧ dItems d2 = some ys ∧ Qi (List.zipWith (fun a b => PyData.tuple [a, b]) xs ys) y1) : wI C (iZipX C.K ts) y Qi := by
  intro F σ H R wd k
  refine w F σ H _ wd fun vs H1 zs y1 w1 g1 s1 r1 q => ?_
  obtain ⟨e1, e2, xs, ys, rfl, i1, i2, q⟩ := q
  cases r1 with | @cons v1 _ vs1 _ ra r1 =>
  cases r1 with | @cons v2 _ vs2 _ rb r1 =>
  cases r1
  obtain ⟨f, a, us, rfl, h1, h2⟩ := rp_lt ra i1
  obtain ⟨g, b, ws, rfl, h3, h4⟩ := rp_lt rb i2
  refine ⟨f, g, a, b, us, ws, rfl, h1.sq, h3.sq, k _ H1 _ y1 w1 g1 s1 (fun F1 σ2 y2 H2 w2 g2 i => ?_) q⟩
  have d1 := (h1.go g2).sq
  have d2 := (h3.go g2).sq
  have m1 := h2.go g2
  have m2 := h4.go g2
  rw [List.length_zipWith]
  have l1 := h2.len
  have l2 := h4.len
  refine ⟨fun hi => ?_, fun hi => ⟨us, ws, d1, d2, rfl, by rw [l1, l2]; exact hi⟩, fun x hx v H3 hy => ?_⟩
  · have j1 : i < us.length := by omega
    have j2 : i < ws.length := by omega
    exact ⟨us, ws, us[i], ws[i], d1, d2, by omega, by simp [j1], by simp [j2]⟩
  · obtain ⟨T, x1, x2, rfl, hT, rfl, hx1, hx2⟩ := hy
    obtain ⟨u1, hu1, ru1⟩ := m1.getV (hx1 us d1)
    obtain ⟨u2, hu2, ru2⟩ := m2.getV (hx2 ws d2)
    rw [List.getElem?_zipWith, hu1, hu2] at hx
    cases hx
    have gr := grow_upd (o := .tup [x1, x2]) hT
    have gg : GoH (Mv F1 σ2 y2) H2 (Mv F1 σ2 y2) (upd H2 T (.tup [x1, x2])) := fun a o n e => ⟨n, gr a o e⟩
    exact ⟨gr, .tup (.inl ⟨w2.new hT, .inl upd_same⟩) (.cons (ru1.go gg) (.cons (ru2.go gg) .nil))⟩
end Ux

set_option maxRecDepth 100000
set_option maxHeartbeats 4000000
/-! dicts of the text's top with text keys: their values data, or defs; a local name that holds a def -/
namespace Ux
open PySem PySem.Spec PyProof.Rows L2 Tq
inductive KEr {α : Type} (R : Value → α → Prop) (P : Params) : List DictEntry → List (Str × α) → Prop
  | nil : KEr R P [] []
  | cons {e : DictEntry} {k : Str} {d : α} {es : List DictEntry} {kds : List (Str × α)} : (∃ t, e.key = .str k t) → e.hash = PyData.keyHash P k → R e.val d → KEr R P es kds → KEr R P (e :: es) ((k, d) :: kds)
theorem KEr.lit {α : Type} {R : Value → α → Prop} {P : Params} : ∀ {es : List DictEntry} {kds : List (Str × α)}, KEr R P es kds → PySem.W.KeysLit P es
  | _, _, .nil => trivial
  | _, _, .cons ⟨t, h1⟩ h2 _ h => ⟨⟨_, t, h1, h2⟩, h.lit⟩
theorem KEr.noref {α : Type} {R : Value → α → Prop} {P : Params} : ∀ {es : List DictEntry} {kds : List (Str × α)}, KEr R P es kds → es.any (·.refKey) = false
  | _, _, .nil => rfl
  | _, _, .cons (e := e) ⟨t, h1⟩ h2 _ h => by
    rw [List.any_cons, h.noref, Bool.or_false]
    unfold DictEntry.refKey
    rw [h1]
def getT {α : Type} (s : Str) : List (Str × α) → Option α
  | [] => none
  | (k, d) :: r => if k = s then some d else getT s r
theorem KEr.find {α : Type} {R : Value → α → Prop} {P : Params} (s : Str) : ∀ {es : List DictEntry} {kds : List (Str × α)}, KEr R P es kds →
    (getT s kds = none ∧ es.find? (·.key.isStr s) = none) ∨ ∃ e d, getT s kds = some d ∧ es.find? (·.key.isStr s) = some e ∧ R e.val d
  | _, _, .nil => .inl ⟨rfl, rfl⟩
  | _, _, .cons (e := e) (k := k) (d := d) ⟨t, h1⟩ h2 hr h => by
    have he : e.key.isStr s = decide (k = s) := by
      rw [h1]
      show (k == s) = decide (k = s)
      by_cases q : k = s
      · rw [q, decide_eq_true rfl]; exact beq_self_eq_true s
      · rw [decide_eq_false q]; exact beq_eq_false_iff_ne.mpr q
    unfold getT
    by_cases q : k = s
    · refine .inr ⟨e, d, by rw [if_pos q], ?_, hr⟩
      rw [List.find?_cons_of_pos (by rw [he, decide_eq_true q])]
    · rw [if_neg q, List.find?_cons_of_neg (by rw [he, decide_eq_false q]; simp)]
      exact h.find s
/-- the name x is a written dict of data -/
structure GT {α : Type} (R : Value → α → Prop) (K : Fg) (w : World) (mg : Str → Option Value) (x : Str) (a : Addr) (kds : List (Str × α)) : Prop where
  m : mg x = some (.ref a)
  d : ∃ es n, KDict K w a es n ∧ KEr R w.params es.toList kds
theorem GT.ns {α : Type} {R : Value → α → Prop} {K : Fg} {w : World} {mg : Str → Option Value} {x : Str} {a : Addr} {kds : List (Str × α)} (g : GT R K w mg x a kds) (s : Str) :
    (getT s kds = none ∧ PySem.W.nsIn K a s = some none) ∨ ∃ u d, getT s kds = some d ∧ PySem.W.nsIn K a s = some (some u) ∧ R u d := by
  obtain ⟨es, n, hd, hk⟩ := g.d
  unfold PySem.W.nsIn
  rw [hd.at_]
  dsimp only
  rcases hk.find s with ⟨h1, h2⟩ | ⟨e, d, h1, h2, h3⟩
  · left
    rw [h2]
    dsimp only
    rw [hk.noref]
    exact ⟨h1, rfl⟩
  · right
    rw [h2]
    exact ⟨e.val, d, h1, rfl, h3⟩
theorem gt_mk {α : Type} {R : Value → α → Prop} {K : Fg} {w : World} {h : Heap} {mg : Str → Option Value} {x : Str} {a : Addr} {kds : List (Str × α)} {es : Array DictEntry} {n : Nat} (X : K.In h) (G : h.Ns mainGlobals mg) (aC : PySem.W.nsIn K mainGlobals x = some (some (.ref a)))
    (l : K.lookup a = some ⟨.type "dict", none, .dict es n, #[]⟩) (low : (a == sysModules) = false) (ke : KEr R w.params es.toList kds) : GT R K w mg x a kds :=
  ⟨PySem.W.mg_of X G aC, es, n, ⟨l, ke.lit, low⟩, ke⟩
/-- the values read as data; are defs of the text -/
def RDat (K : Fg) : Value → D → Prop := fun u d => ∃ v, KV1 K u v d
def RFn (mg : Str → Option Value) : Value → Str → Prop := fun u nm => ∃ f, u = .ref f ∧ mg nm = some (.ref f)
abbrev GTd (K : Fg) := GT (RDat K) K
abbrev GTf (K : Fg) (w : World) (mg : Str → Option Value) := GT (RFn mg) K w mg
theorem _root_.Tq.KV1.rel {K : Fg} {u : Value} {v : V} {d : D} (h : KV1 K u v d) : RelV v u := by
  cases h with
  | int i t => exact ⟨t, rfl⟩
  | str s t => exact ⟨t, rfl⟩
  | tup _ _ _ => exact rfl
theorem _root_.Tq.KV1.rp {K : Fg} {M : Addr → Prop} {H : Hp} {u : Value} {v : V} {d : D} (h : KV1 K u v d) : Rp K M H v d := by
  have := KVs.rp (M := M) (H := H) (.cons h .nil)
  cases this with | cons a _ => exact a
def rGIn {α : Type} (neg : Bool) (a : Addr) (kds : List (Str × α)) : R2 := fun x y H Q => ∃ z : Str, x = .str z ∧ y = .ref a ∧ Q (.bl (if neg then !(getT z kds).isSome else (getT z kds).isSome)) H
def rGIx {α : Type} (R : Value → α → Prop) (a : Addr) (kds : List (Str × α)) : R2 := fun x y H Q => ∃ (z : Str) (d : α), x = .ref a ∧ y = .str z ∧ getT z kds = some d ∧ ∀ u v, R u d → RelV v u → Q v H
section
variable {α : Type} {R : Value → α → Prop} {X : Cx} {a : Addr} {x : Str} {kds : List (Str × α)}
theorem op_gnin (g : GT R X.K X.w X.mg x a kds) : OpR X (compareOp .NotIn) (rGIn true a kds) := by
  intro pins s σ H x y v u Q I rx ry ⟨z, e1, e2, q⟩
  obtain ⟨es, n, hd, _⟩ := g.d
  have q : Q (.bl (!(getT z kds).isSome)) H := q
  rcases g.ns z with ⟨h1, h2⟩ | ⟨u0, d, h1, h2, _⟩
  · rw [h1] at q
    exact op_notIn_kd hd pins s σ H x y v u Q I rx ry ⟨z, _, e1, e2, h2, q⟩
  · rw [h1] at q
    exact op_notIn_kd hd pins s σ H x y v u Q I rx ry ⟨z, _, e1, e2, h2, q⟩
theorem ix_gt (g : GT R X.K X.w X.mg x a kds) (hv : ∀ u d, R u d → ∃ v, RelV v u) : IxR X (rGIx R a kds) := by
  intro value slice pins s σ H x y v u Q I rx ry ⟨z, d, e1, e2, hz, q⟩
  obtain ⟨es, n, hd, hk⟩ := g.d
  rcases g.ns z with ⟨h1, h2⟩ | ⟨u0, d0, h1, h2, h3⟩
  · rw [hz] at h1; cases h1
  · rw [hz] at h1; cases h1
    obtain ⟨v0, hv0⟩ := hv _ _ h3
    exact ix_kdict value slice pins s σ H x y v u Q I rx ry ⟨a, z, v0, e1, e2, ⟨es, n, u0, hd.at_, hd.lit, h2, hv0⟩, q _ _ h3 hv0⟩
theorem ix_gtd {kds : List (Str × D)} (g : GTd X.K X.w X.mg x a kds) : IxR X (rGIx (RDat X.K) a kds) := ix_gt g fun u d h => h.elim fun v k => ⟨v, k.rel⟩
theorem ix_gtf {kds : List (Str × Str)} (g : GTf X.K X.w X.mg x a kds) : IxR X (rGIx (RFn X.mg) a kds) := ix_gt g fun u d ⟨f, h, _⟩ => ⟨.ref f, by rw [h]; exact rfl⟩
end
theorem relv_inj {v v' : V} {u : Value} (h : L2.RelV v u) (h' : L2.RelV v' u) : v = v' := by
  cases v <;> cases v' <;> (first | rfl | skip) <;> (cases u <;> simp_all [L2.RelV])
section
variable {C : Ct} {y : S} {ta tb : TE} {Q : Z → S → Prop}
theorem wE_gin {α : Type} {neg : Bool} {a : Addr} {kds : List (Str × α)} (w : wE C ta y fun z y1 => ∃ s, z = .d (.str s) ∧ Q (.d (.bool (if neg then !(getT s kds).isSome else (getT s kds).isSome))) y1) : wE C (tOp (rGIn neg a kds) ta (tC (.ref a))) y Q := by
  intro F σ H K wd k
  refine w F σ H _ wd fun v H1 z y1 w1 g1 s1 r1 ⟨s, e, q⟩ => ?_
  subst e
  obtain rfl := rp_str r1
  exact ⟨s, rfl, rfl, k _ H1 (.d (.bool _)) y1 w1 g1 s1 (.bl _) q⟩
theorem wE_gixD {a : Addr} {kds : List (Str × D)} (w : wE C tb y fun z y1 => ∃ s d, z = .d (.str s) ∧ getT s kds = some d ∧ Q (.d d) y1) : wE C (tOp (rGIx (RDat C.K) a kds) (tC (.ref a)) tb) y Q := by
  intro F σ H K wd k
  refine w F σ H _ wd fun v H1 z y1 w1 g1 s1 r1 ⟨s, d, e, hs, q⟩ => ?_
  subst e
  obtain rfl := rp_str r1
  refine ⟨s, d, rfl, rfl, hs, fun u v ⟨v0, kv⟩ rv => ?_⟩
  obtain rfl := relv_inj rv kv.rel
  exact k _ H1 (.d d) y1 w1 g1 s1 kv.rp q
theorem wE_gixF {a : Addr} {mg : Str → Option Value} {kds : List (Str × Str)} (w : wE C tb y fun z y1 => ∃ s nm, z = .d (.str s) ∧ getT s kds = some nm ∧ ∀ f, mg nm = some (.ref f) → Q (.lab f) y1) : wE C (tOp (rGIx (RFn mg) a kds) (tC (.ref a)) tb) y Q := by
  intro F σ H K wd k
  refine w F σ H _ wd fun v H1 z y1 w1 g1 s1 r1 ⟨s, nm, e, hs, q⟩ => ?_
  subst e
  obtain rfl := rp_str r1
  refine ⟨s, nm, rfl, rfl, hs, fun u v ⟨f, ef, hf⟩ rv => ?_⟩
  subst ef
  obtain rfl : v = .ref f := relv_inj rv (show RelV (.ref f) (.ref f) from rfl)
  exact k _ H1 (.lab f) y1 w1 g1 s1 (.lab f) (q f hf)
end
/-! a local name that holds a def of the text -/
def tCallH (i : Nat) (mg : Str → Option Value) (tbl : List (Str × Sp)) (t : TA) : TE := fun σ H Q => ∃ nm sp f, σ[i]? = some (some (.ref f)) ∧ mg nm = some (.ref f) ∧ (nm, sp) ∈ tbl ∧ t σ H fun vs H1 => sp vs H1 Q E0
theorem fa_nil {α : Type} {p : α → Prop} : ∀ x ∈ ([] : List α), p x := fun _ h => absurd h (by simp)
theorem fa_cons {α : Type} {p : α → Prop} {a : α} {l : List α} (h : p a) (t : ∀ x ∈ l, p x) : ∀ x ∈ a :: l, p x := List.forall_mem_cons.mpr ⟨h, t⟩
theorem pe_callH {X : Cx} {k i : Nat} {x : Str} {p pos : Pos} {e : Expr} {es : List Expr} {t : TA} {tbl : List (Str × Sp)} (A : ∀ q ∈ tbl, ∃ ps, Cal X.prog X.w X.K X.mg X.base k q.1 ps q.2) (hr : Room k X.A) (hgu : X.A.guards = some []) (hN : X.N[i]? = some x) (hv : Vis X.env.scope x) (ha : PA X (e :: es) t)
    (hdb : (x == ("__debug__" : Str)) = false := by decide) (hcd : (x == ("__classdict__" : Str)) = false := by decide)
    (he : starEach (e :: es) X.env = (false, eval e X.env) :: starEach es X.env := by rfl) (hpl : (backTo pos (starEach es X.env)).any (·.1) = false := by rfl) : PE X (.Call (.Name x p) (e :: es) [] pos) (tCallH i X.mg tbl t) := by
  refine ⟨fun pins s σ H Q I h => ?_⟩
  obtain ⟨nm, sp, f, hs, hm, hin, ht⟩ := h
  obtain ⟨ps, c⟩ := A _ hin
  obtain ⟨f', fd, F, hm', hk, hb⟩ := c.ex
  have ef : f' = f := by
    rw [hm] at hm'
    cases hm'; rfl
  subst ef
  refine wpAny_Call_Name_kw (thn ((pe_var (pos := p) hN hv hdb hcd).run pins s σ H (fun v H1 => v = .ref f' ∧ H1 = H) I ⟨.ref f', hs, rfl, rfl⟩) fun u s1 ⟨v, H1, I1, r1, q1⟩ => ?_)
  obtain ⟨rfl, rfl⟩ := q1
  cases r1
  refine PySem.W.callWith_K (h₀ := X.base) I.ok.mod.kin hk (thn (ha.run pos pins s1 σ _ _ I1 ht) fun us s2 ⟨vs, H2, I2, r, q⟩ => ⟨I2.kIn, ?_⟩) he hpl
  exact run_fnG (dvs := []) F hr hgu hb .nil pass0 I2 r (by rw [List.append_nil]; exact q)
theorem wE_callH {C : Ct} {y : S} {i : Nat} {mg : Str → Option Value} {tbl : List (Str × Sp)} {ts : TA} {Q : Z → S → Prop} {n : Nat} {pre : List D → Prop} {G : List D → D} {f : Addr} (nm : Str) (hi : y.l[i]? = some (some (.lab f))) (hm : mg nm = some (.ref f)) (ht : (nm, detSp C.K n pre G) ∈ tbl)
    (w : wD C ts y fun ds y1 => (ds.length = n ∧ pre ds) ∧ Q (.d (G ds)) y1) : wE C (tCallH i mg tbl ts) y Q := by
  intro F σ H K wd k
  obtain ⟨x, h1, h2⟩ := wd.slot i _ hi
  cases h2
  refine ⟨nm, _, f, h1, hm, ht, ?_⟩
  have := wE_det (E := E0) w F σ H K wd k
  have e0 : (fun (vs : List V) (H1 : Hp) => detSp C.K n pre G (vs ++ []) H1 K E0) = fun vs H1 => detSp C.K n pre G vs H1 K E0 := by
    funext vs H1
    rw [List.append_nil]
  have this : ts σ H (fun vs H1 => detSp C.K n pre G (vs ++ []) H1 K E0) := this
  rw [e0] at this
  exact this
end Ux

set_option maxRecDepth 100000
set_option maxHeartbeats 4000000
/-! plans by form -/
namespace Tq
open PySem PySem.Spec PyProof.Rows L2
/-! text * number, tuple(range(a, b)), == of an empty tuple, of an empty list -/
def repS (x : Str) (n : Int) : Str := ⟨(List.replicate n.toNat x.cps).foldl (· ++ ·) #[]⟩
theorem rep_size (c : Array Nat) : ∀ (m : Nat) (a : Array Nat), ((List.replicate m c).foldl (· ++ ·) a).size = a.size + m * c.size
  | 0, a => by rw [Nat.zero_mul]; rfl
  | m + 1, a => by
    rw [List.replicate_succ, List.foldl_cons, rep_size c m, Array.size_append, Nat.succ_mul]; omega
theorem repS_len (x : Str) (n : Int) : (repS x n).length = n.toNat * x.length := by
  show ((List.replicate n.toNat x.cps).foldl (· ++ ·) #[]).size = _
  rw [rep_size]
  show 0 + _ = _
  rw [Nat.zero_add]; rfl
theorem rep_list (c : Array Nat) : ∀ (m : Nat) (a : Array Nat), ((List.replicate m c).foldl (· ++ ·) a).toList = a.toList ++ (List.replicate m c.toList).flatten
  | 0, a => by simp
  | m + 1, a => by
    rw [List.replicate_succ, List.foldl_cons, rep_list c m, List.replicate_succ, List.flatten_cons, Array.toList_append, List.append_assoc]
theorem repS_list (x : Str) (n : Int) : (repS x n).cps.toList = (List.replicate n.toNat x.cps.toList).flatten := by
  show ((List.replicate n.toNat x.cps).foldl (· ++ ·) #[]).toList = _
  rw [rep_list]; rfl
def rRepS : R2 := fun x y H Q => ∃ s n, x = .str s ∧ y = .int n ∧ 0 ≤ n ∧ n ≤ 1000 ∧ s.length ≤ 1000 ∧ Q (.str (repS s n)) H
theorem op_repS {X : Cx} : OpR X (binaryOp .Mult) rRepS := by
  intro pins s σ H x y v u Q I rx ry h
  obtain ⟨z, n, rfl, rfl, n0, n1, hz, q⟩ := h
  obtain ⟨t, rfl⟩ := rx
  obtain ⟨t', rfl⟩ := ry
  refine P.mul_str (by rw [decide_eq_false (by omega), decide_eq_false (by omega)]; rfl) (fun h1 h2 => ?_) (fun h1 h2 => ?_) ?_
  · have h3 : (1000 : Int) ≤ (2 ^ 63 - 1) / n := by
      refine (Int.le_ediv_iff_mul_le (by omega)).mpr ?_
      have : 1000 * n ≤ 1000 * 1000 := by omega
      exact Int.le_trans this (by decide)
    omega
  · have h3 : z.length * n.toNat ≤ 1000 * 1000 := Nat.mul_le_mul hz (by omega)
    have h4 : z.length * n.toNat ≤ sizeLine := Nat.le_trans h3 (by decide)
    show decide (z.length * n.toNat > sizeLine) = false
    exact decide_eq_false (by omega)
  · split
    · have e : n = 0 := by omega
      subst e
      exact ⟨by decide, .str (repS z 0), H, I.tok _, ⟨_, rfl⟩, q⟩
    · split
      · next h1 h2 =>
        rw [Bool.or_eq_true] at h2
        have e : repS z n = z := by
          rcases h2 with h2 | h2
          · have : n = 1 := by simpa using h2
            subst this
            show (⟨(#[] : Array Nat) ++ z.cps⟩ : Str) = z
            rw [Array.empty_append]
          · have h0 : z.cps = #[] := by
              have : z.cps.size = 0 := by simpa [Str.length] using h2
              exact Array.eq_empty_of_size_eq_zero this
            unfold repS
            rw [h0]
            have : ∀ m : Nat, (List.replicate m (#[] : Array Nat)).foldl (· ++ ·) #[] = #[] := fun m => by
              induction m with
              | zero => rfl
              | succ m ih => rw [List.replicate_succ, List.foldl_cons]; exact ih
            rw [this]
            obtain ⟨c⟩ := z
            exact congrArg Str.mk h0.symm
        rw [e] at q
        exact ⟨.str z, H, I, ⟨_, rfl⟩, q⟩
      · refine ⟨?_, .str (repS z n), H, I.tok _, ⟨_, rfl⟩, q⟩
        have h4 := repS_len z n
        unfold repS at h4
        rw [h4]
        exact Nat.le_trans (Nat.mul_le_mul (show n.toNat ≤ 1000 by omega) hz) (by decide)

section
variable {C : Ct} {y : S} {ta tb : TE} {Q : Z → S → Prop}
theorem wE_repS (w : wE C ta y fun z y1 => wE C tb y1 fun z' y2 => ∃ s n, z = .d (.str s) ∧ z' = .d (.int n) ∧ (0 ≤ n ∧ n ≤ 1000 ∧ s.length ≤ 1000) ∧ Q (.d (.str (repS s n))) y2) : wE C (tOp rRepS ta tb) y Q := by
  refine wE_op (res := fun d e r => ∃ s n, d = .str s ∧ e = .int n ∧ (0 ≤ n ∧ n ≤ 1000 ∧ s.length ≤ 1000) ∧ r = .str (repS s n)) ?_ (wE_mono w fun z y1 h => wE_mono h fun z' y2 ⟨s, n, e1, e2, c, q⟩ => ⟨_, _, _, e1, e2, ⟨s, n, rfl, rfl, c, rfl⟩, q⟩)
  rintro M H x y d e r Q _ rx ry ⟨s, n, rfl, rfl, ⟨c1, c2, c3⟩, rfl⟩ k
  cases rp_str rx
  cases rp_int ry
  exact ⟨s, n, rfl, rfl, c1, c2, c3, k _ H (fun _ _ e => e) (.str _)⟩
theorem wE_notInSign (w : wE C ta y fun z y1 => wE C tb y1 fun z' y2 => ∃ (c : Nat) (j : Str), z = .d (.str ⟨#[c]⟩) ∧ z' = .d (.str j) ∧ Q (.d (.bool (!decide (c ∈ j.cps.toList)))) y2) :
    wE C (tOp (fun x y H Q => ∃ (c : Nat) (z : Str), x = .str ⟨#[c]⟩ ∧ y = .str z ∧ Q (.bl (!decide (c ∈ z.cps.toList))) H) ta tb) y Q := by
  refine wE_op (res := fun d e r => ∃ (c : Nat) (j : Str), d = .str ⟨#[c]⟩ ∧ e = .str j ∧ r = .bool (!decide (c ∈ j.cps.toList))) ?_ (wE_mono w fun z y1 h => wE_mono h fun z' y2 ⟨i, j, e1, e2, q⟩ => ⟨_, _, _, e1, e2, ⟨i, j, rfl, rfl, rfl⟩, q⟩)
  rintro M H x y d e r Q _ rx ry ⟨s, n, rfl, rfl, rfl⟩ k
  cases rp_str rx
  cases rp_str ry
  exact ⟨s, n, rfl, rfl, k _ H (fun _ _ e => e) (.bl _)⟩
end
def rgD (i j : Int) : D := .tuple ((List.range (j - i).toNat).map fun k => .int (i + (k : Nat)))
end Tq
namespace Ux
open PySem PySem.Spec PyProof.Rows L2 Tq
section
variable {C : Ct} {y : S} {ta tb : TE} {Q : Z → S → Prop}
theorem wE_repS (w : wE C ta y fun z y1 => wE C tb y1 fun z' y2 => ∃ s n, z = .d (.str s) ∧ z' = .d (.int n) ∧ (0 ≤ n ∧ n ≤ 1000 ∧ s.length ≤ 1000) ∧ Q (.d (.str (repS s n))) y2) : wE C (tOp rRepS ta tb) y Q := by
  refine wE_op (res := fun d e r => ∃ s n, d = .str s ∧ e = .int n ∧ (0 ≤ n ∧ n ≤ 1000 ∧ s.length ≤ 1000) ∧ r = .str (repS s n)) ?_ (wE_mono w fun z y1 h => wE_mono h fun z' y2 ⟨s, n, e1, e2, c, q⟩ => ⟨_, _, _, e1, e2, ⟨s, n, rfl, rfl, c, rfl⟩, q⟩)
  rintro M H x y d e r Q _ rx ry ⟨s, n, rfl, rfl, ⟨c1, c2, c3⟩, rfl⟩ k
  cases rp_str rx
  cases rp_int ry
  exact ⟨s, n, rfl, rfl, c1, c2, c3, k _ H (fun _ _ e => e) (.str _)⟩
theorem wE_notInSign (w : wE C ta y fun z y1 => wE C tb y1 fun z' y2 => ∃ (c : Nat) (j : Str), z = .d (.str ⟨#[c]⟩) ∧ z' = .d (.str j) ∧ Q (.d (.bool (!decide (c ∈ j.cps.toList)))) y2) :
    wE C (tOp (fun x y H Q => ∃ (c : Nat) (z : Str), x = .str ⟨#[c]⟩ ∧ y = .str z ∧ Q (.bl (!decide (c ∈ z.cps.toList))) H) ta tb) y Q := by
  refine wE_op (res := fun d e r => ∃ (c : Nat) (j : Str), d = .str ⟨#[c]⟩ ∧ e = .str j ∧ r = .bool (!decide (c ∈ j.cps.toList))) ?_ (wE_mono w fun z y1 h => wE_mono h fun z' y2 ⟨i, j, e1, e2, q⟩ => ⟨_, _, _, e1, e2, ⟨i, j, rfl, rfl, rfl⟩, q⟩)
  rintro M H x y d e r Q _ rx ry ⟨s, n, rfl, rfl, rfl⟩ k
  cases rp_str rx
  cases rp_str ry
  exact ⟨s, n, rfl, rfl, k _ H (fun _ _ e => e) (.bl _)⟩
theorem wE_tupRg (w : wE C ta y fun z y1 => wE C tb y1 fun z' y2 => ∃ i j, z = .d (.int i) ∧ z' = .d (.int j) ∧ RgOk i j ∧ Q (.d (rgD i j)) y2) : wE C (tTupRg (tRg2 ta tb)) y Q := by
  intro F σ H K wd k
  refine w F σ H _ wd fun v H1 z y1 w1 g1 s1 r1 h1 => ?_
  refine h1 F σ H1 _ w1 fun v2 H2 z' y2 w2 g2 s2 r2 h2 => ?_
  obtain ⟨i, j, rfl, rfl, ok, q⟩ := h2
  obtain rfl := rp_int (show Rp C.K _ _ v (.int i) from r1)
  obtain rfl := rp_int (show Rp C.K _ _ v2 (.int j) from r2)
  refine ⟨i, j, rfl, rfl, ok, fun p hp => ?_⟩
  have gr := grow_upd (o := .tup (rgV i j)) hp
  refine k _ _ (.d (rgD i j)) y2 (w2.grow gr) ((g1.trans g2).trans (go_grow gr)) (s1.trans s2) ?_ q
  refine .tup (.inl ⟨w2.new hp, .inl upd_same⟩) ?_
  have := rpA_int (K := C.K) (M := Mv F σ y2) (H := upd H2 p (.tup (rgV i j))) ((List.range (j - i).toNat).map fun k => i + (k : Nat))
  rw [List.map_map, List.map_map] at this
  exact this
end
end Ux
namespace Tq
open PySem PySem.Spec PyProof.Rows L2
theorem op_tupRg2 {X : Cx} {p q1 q2 pos : Pos} {a b : Expr} {ta tb : TE} (hc : X.calm = true) (hg : Gl X "tuple") (hm : X.mg "tuple" = none) (hg2 : Gl X "range") (hm2 : X.mg "range" = none) (ha : PE X a ta) (hb : PE X b tb)
    (na : starEach [a, b] X.env = (false, eval a X.env) :: starEach [b] X.env := by rfl)
    (nb : starEach [b] X.env = (false, eval b X.env) :: starEach [] X.env := by rfl) (hp : (backTo q2 (starEach [b] X.env)).any (·.1) = false := by rfl) : PE X (.Call (.Name "tuple" p) [.Call (.Name "range" q1) [a, b] [] q2] [] pos) (tTupRg (tRg2 ta tb)) :=
  pe_tupRg hc hg hm (prg_2 hg2 hm2 ha hb na nb hp)
/-! ### what a plan is -/
def shortB (d : D) : Bool := wholeB d (-999999999999999999999999999999) 999999999999999999999999999999
def mostB (d : D) : Bool := wholeB d 1 64
def numsB (lo hi : Int) : D → Bool
  | .tuple xs => decide (lo ≤ xs.length) && decide ((xs.length : Int) ≤ hi) && xs.all shortB
  | _ => false
def stepsB : D → Bool
  | .none => true
  | d => numsB 1 20 d
def twoB (n : Int) : D → Bool
  | .tuple xs => decide (xs.length = 2) && xs.all (numsB n n)
  | _ => false
def mannerB (d : D) : Bool := (mnOf d).isSome
open Ux (getT)
def kindT : List (Str × (D → Bool)) := [("name", nameB), ("manner", mannerB), ("number", shortB), ("most", mostB), ("terms", numsB 1 100), ("round", numsB 1 20), ("steps", stepsB), ("four", twoB 2), ("eight", twoB 4)]
def kindB (k : Str) (d : D) : Bool := match getT k kindT with
  | some f => f d
  | none => false
def shapesT : List (Str × List Str) := [("row", ["name", "manner", "terms"]), ("ruled", ["name", "manner", "terms", "round", "steps"]), ("fed", ["name", "manner"]), ("surd", ["name", "number", "number", "number"]), ("one", ["name", "name", "manner", "most", "four"]), ("two", ["name", "name", "name", "manner", "most", "eight"]), ("root", ["name", "name", "most"])]
def rowB : D → Bool
  | .tuple (.str w :: xs) => match getT w shapesT with
    | some ks => decide (xs.length = ks.length) && (List.zipWith kindB ks xs).all id
    | none => false
  | _ => false
def planB (d : D) : Bool := match dItems d with
  | some xs => decide (xs.length ≤ 12) && xs.all rowB
  | none => false
/-- small data -/
def smD : D → Bool
  | .str s => decide (s.length ≤ 900) && s.cps.toList.all (fun c => decide (c < 1114112))
  | .list xs => decide (xs.length ≤ 900) && smA xs
  | .tuple xs => decide (xs.length ≤ 900) && smA xs
  | .dict kvs => kvs.isEmpty
  | .int i => decide (i.natAbs < 10 ^ 40)
  | _ => true
where
  smA : List D → Bool
  | [] => true
  | x :: r => smD x && smA r
theorem smA_all : ∀ {xs : List D}, smD.smA xs = xs.all smD
  | [] => rfl
  | x :: r => by rw [List.all_cons, ← smA_all]; rfl
theorem sm_list {xs : List D} (h : smD (.list xs) = true) : xs.length ≤ 900 ∧ ∀ x ∈ xs, smD x = true := by
  have h : (decide (xs.length ≤ 900) && smD.smA xs) = true := by rw [← h]; unfold smD; rfl
  rw [Bool.and_eq_true, smA_all, List.all_eq_true] at h
  exact ⟨of_decide_eq_true h.1, h.2⟩
theorem sm_tup {xs : List D} (h : smD (.tuple xs) = true) : xs.length ≤ 900 ∧ ∀ x ∈ xs, smD x = true := by
  have h : (decide (xs.length ≤ 900) && smD.smA xs) = true := by rw [← h]; unfold smD; rfl
  rw [Bool.and_eq_true, smA_all, List.all_eq_true] at h
  exact ⟨of_decide_eq_true h.1, h.2⟩
theorem sm_list' {xs : List D} (h1 : xs.length ≤ 900) (h2 : ∀ x ∈ xs, smD x = true) : smD (.list xs) = true := by
  unfold smD
  rw [smA_all, List.all_eq_true.mpr h2, decide_eq_true h1]; rfl
theorem sm_tup' {xs : List D} (h1 : xs.length ≤ 900) (h2 : ∀ x ∈ xs, smD x = true) : smD (.tuple xs) = true := by
  unfold smD
  rw [smA_all, List.all_eq_true.mpr h2, decide_eq_true h1]; rfl
theorem sm_items {d : D} {xs : List D} (h : smD d = true) (e : dItems d = some xs) : xs.length ≤ 900 ∧ ∀ x ∈ xs, smD x = true := by
  cases d with
  | list ys => cases e; exact sm_list h
  | tuple ys => cases e; exact sm_tup h
  | _ => cases e
theorem sm_str {s : Str} (h : smD (.str s) = true) : s.length ≤ 900 ∧ okT s := by
  have h : (decide (s.length ≤ 900) && s.cps.toList.all (fun c => decide (c < 1114112))) = true := by rw [← h]; unfold smD; rfl
  rw [Bool.and_eq_true, List.all_eq_true] at h
  exact ⟨of_decide_eq_true h.1, fun c hc => of_decide_eq_true (h.2 c hc)⟩
theorem sm_okS {d : D} (h : smD d = true) : okS d := by
  cases d with
  | str s => exact ⟨Nat.le_trans (sm_str h).1 (by decide), (sm_str h).2⟩
  | _ => trivial
end Tq

set_option maxRecDepth 100000
set_option maxHeartbeats 4000000
/-! plans as they are drawn: small things, good rows -/
namespace Tq
open PySem PySem.Spec PyProof.Rows L2
open Ux (getT)
theorem shx_txt {t : Str} (h : t.length ≤ 40) (ho : okT t) : Shx 410 0 (.str t) := by
  refine ⟨rfl, Nat.le_refl _, ?_⟩
  have := PySem.StrLaws.reprText_len t (fun c hc => Nat.lt_of_lt_of_le (ho c hc) (by decide))
  show (reprText t).length ≤ 410
  omega
def NmL (s : Str) : Prop := 1 ≤ s.length ∧ s.length ≤ 6 ∧ onlyB s letters = true
theorem NmL.b {s : Str} (h : NmL s) : nameB (.str s) = true := by
  show (decide (1 ≤ s.length) && decide (s.length ≤ 6) && onlyB s letters) = true
  rw [decide_eq_true h.1, decide_eq_true h.2.1, h.2.2]; rfl
theorem NmL.of {s : Str} (h : nameB (.str s) = true) : NmL s := by
  have h : (decide (1 ≤ s.length) && decide (s.length ≤ 6) && onlyB s letters) = true := h
  rw [Bool.and_eq_true, Bool.and_eq_true] at h
  exact ⟨of_decide_eq_true h.1.1, of_decide_eq_true h.1.2, h.2⟩
theorem letters_ok : ∀ c ∈ letters.cps.toList, c < 1114112 := fun c hc => by
  have := (letter_iff c).mp hc
  omega
theorem only_okT {s : Str} (h : onlyB s letters = true) : okT s := fun c hc => by
  unfold onlyB at h
  rw [List.all_eq_true] at h
  exact letters_ok c (of_decide_eq_true (h c hc))
/-- a thing in a row -/
def ElS (x : D) : Prop := smD x = true ∧ Shx 4000 2 x
theorem sm_strI {s : Str} (h : s.length ≤ 900) (ho : okT s) : smD (.str s) = true := by
  unfold smD
  rw [decide_eq_true h, List.all_eq_true.mpr (fun c hc => decide_eq_true (ho c hc))]; rfl
theorem el_str {s : Str} (h : s.length ≤ 40) (ho : okT s) : ElS (.str s) := ⟨sm_strI (by omega) ho, (shx_txt h ho).mono (by decide) (by decide)⟩
theorem NmL.el {s : Str} (h : NmL s) : ElS (.str s) := el_str (by have := h.2.1; omega) (only_okT h.2.2)
theorem sm_int {i : Int} (h : i.natAbs < 10 ^ 40) : smD (.int i) = true := by unfold smD; exact decide_eq_true h
theorem el_int {i : Int} (h : i.natAbs < 10 ^ 40) : ElS (.int i) := ⟨sm_int h, (rx_int h).mono (by decide) (by decide)⟩
theorem el_none : ElS .none := ⟨rfl, ⟨rfl, by decide, by decide⟩⟩
theorem el_bl (b : Bool) : ElS (.bool b) := ⟨rfl, ⟨rfl, by cases b <;> decide, by cases b <;> decide⟩⟩
theorem el_dic : ElS (.dict []) := ⟨rfl, ⟨rfl, by decide, by decide⟩⟩
theorem el_ints {ts : List Int} (h : ts.length ≤ 90) (h2 : ∀ t ∈ ts, t.natAbs < 10 ^ 40) : ElS (.tuple (ts.map .int)) := by
  refine ⟨sm_tup' (by rw [List.length_map]; omega) fun x hx => ?_, ?_⟩
  · obtain ⟨t, ht, rfl⟩ := List.mem_map.mp hx
    exact sm_int (h2 t ht)
  · refine (rx_tup (b := 41) (k := 0) fun x hx => ?_).mono ?_ (by decide)
    · obtain ⟨t, ht, rfl⟩ := List.mem_map.mp hx
      exact rx_int (h2 t ht)
    · rw [List.length_map]; omega
theorem el_tup2 {x y : D} (hx : smD x = true) (sx : Shx 400 1 x) (hy : smD y = true) (sy : Shx 400 1 y) : ElS (.tuple [x, y]) := by
  refine ⟨sm_tup' (by show 2 ≤ 900; decide) fun z hz => ?_, ?_⟩
  · simp only [List.mem_cons, List.not_mem_nil, or_false] at hz
    rcases hz with rfl | rfl <;> assumption
  · refine (rx_tup (b := 400) (k := 1) fun z hz => ?_).mono (by show 2 * 402 + 3 ≤ 4000; decide) (by decide)
    simp only [List.mem_cons, List.not_mem_nil, or_false] at hz
    rcases hz with rfl | rfl <;> assumption
/-- a row, or what stands for one -/
def RowS (n : Nat) (d : D) : Prop := smD d = true ∧ Shx 40100 3 d ∧ ∀ xs, d = .tuple xs → xs.length ≤ n ∧ ∀ x ∈ xs, ElS x
theorem RowS.mono {n n' : Nat} {d : D} (h : RowS n d) (hn : n ≤ n') : RowS n' d := ⟨h.1, h.2.1, fun xs e => ⟨Nat.le_trans (h.2.2 xs e).1 hn, (h.2.2 xs e).2⟩⟩
theorem rowS_tup {n : Nat} {xs : List D} (h : xs.length ≤ n) (hn : n ≤ 10) (he : ∀ x ∈ xs, ElS x) : RowS n (.tuple xs) := by
  refine ⟨sm_tup' (by omega) fun x hx => (he x hx).1, (rx_tup (b := 4000) (k := 2) fun x hx => (he x hx).2).mono ?_ (by decide), fun ys e => by cases e; exact ⟨h, he⟩⟩
  have : xs.length * (4000 + 2) ≤ 10 * 4002 := Nat.mul_le_mul_right _ (by omega)
  omega
theorem rowS_lst {n m : Nat} {xs : List D} (h : xs.length ≤ m) (hn : m ≤ 10) (he : ∀ x ∈ xs, ElS x) : RowS n (.list xs) := by
  refine ⟨sm_list' (by omega) fun x hx => (he x hx).1, (rx_list (b := 4000) (k := 2) fun x hx => (he x hx).2).mono ?_ (by decide), fun ys e => by cases e⟩
  have : xs.length * (4000 + 2) ≤ 10 * 4002 := Nat.mul_le_mul_right _ (by omega)
  omega
theorem rowS_el {n : Nat} {d : D} (h : ElS d) (hd : ∀ xs, d = .tuple xs → xs.length ≤ n ∧ ∀ x ∈ xs, ElS x) : RowS n d := ⟨h.1, h.2.mono (by decide) (by decide), hd⟩
def spB : D → Bool
  | .tuple (_ :: _) => true
  | _ => false
def maySp : D → Bool
  | .list rows => rows.all spB
  | _ => false
/-- a plan, or what stands for one -/
def PlS (n : Nat) (d : D) : Prop := smD d = true ∧ Shx 1000000 4 d ∧ ∀ rows, d = .list rows → rows.length ≤ n + 5 ∧ ∀ r ∈ rows, RowS n r
theorem plS_lst {n : Nat} {rows : List D} (h : rows.length ≤ n + 5) (hn : n ≤ 10) (he : ∀ x ∈ rows, RowS n x) : PlS n (.list rows) := by
  refine ⟨sm_list' (by omega) fun x hx => (he x hx).1, (rx_list (b := 40100) (k := 3) fun x hx => (he x hx).2.1).mono ?_ (by decide), fun ys e => by cases e; exact ⟨h, he⟩⟩
  have : rows.length * (40100 + 2) ≤ 15 * 40102 := Nat.mul_le_mul_right _ (by omega)
  omega
theorem PlS.mono {n n' : Nat} {d : D} (h : PlS n d) (hn : n ≤ n') : PlS n' d := ⟨h.1, h.2.1, fun xs e => ⟨Nat.le_trans (h.2.2 xs e).1 (by omega), fun r hr => ((h.2.2 xs e).2 r hr).mono hn⟩⟩
theorem plS_row {n m : Nat} {d : D} (h : RowS m d) (hd : ∀ rows, d = .list rows → rows.length ≤ n + 5 ∧ ∀ r ∈ rows, RowS n r) : PlS n d := ⟨h.1, h.2.1.mono (by decide) (by decide), hd⟩
theorem PlS.shX {n : Nat} {d : D} (h : PlS n d) : ShX d := h.2.1.ok
/-! rows by their words -/
theorem rowB_eq {w : Str} {ks : List Str} {xs : List D} (h : getT w shapesT = some ks) : rowB (.tuple (.str w :: xs)) = (decide (xs.length = ks.length) && (List.zipWith kindB ks xs).all id) := by
  show (match getT w shapesT with | some ks => decide (xs.length = ks.length) && (List.zipWith kindB ks xs).all id | none => false) = _
  rw [h]
theorem kindB_eq (k : Str) (f : D → Bool) (d : D) (h : getT k kindT = some f) : kindB k d = f d := by unfold kindB; rw [h]
theorem rb_row {s : Str} {k : Mn} {ts : List Int} (hs : NmL s) (h1 : 1 ≤ ts.length) (h2 : ts.length ≤ 90) (h3 : ∀ t ∈ ts, t.natAbs < 10 ^ 29) : rowB (.tuple [.str "row", .str s, .str k.word, .tuple (ts.map .int)]) = true := by
  rw [rowB_eq (ks := ["name", "manner", "terms"]) rfl]
  show (kindB "name" _ && (kindB "manner" _ && (kindB "terms" _ && true))) = true
  rw [kindB_eq "name" nameB _ rfl, kindB_eq "manner" mannerB _ rfl, kindB_eq "terms" (numsB 1 100) _ rfl, hs.b]
  have hm : mannerB (.str k.word) = true := by unfold mannerB; rw [mnOf_word]; rfl
  have ht : numsB 1 100 (.tuple (ts.map .int)) = true := by
    show (decide ((1 : Int) ≤ ((ts.map PyData.int).length : Nat)) && decide ((((ts.map PyData.int).length : Nat) : Int) ≤ 100) && (ts.map PyData.int).all shortB) = true
    rw [List.length_map, decide_eq_true (by omega), decide_eq_true (by omega), List.all_map, List.all_eq_true.mpr (fun t ht => ?_)]; rfl
    have := h3 t ht
    show (decide (-999999999999999999999999999999 ≤ t) && decide (t ≤ 999999999999999999999999999999)) = true
    rw [decide_eq_true (by omega), decide_eq_true (by omega)]; rfl
  rw [hm, ht]; rfl
theorem shortB_int {t : Int} (h : t.natAbs < 10 ^ 29) : shortB (.int t) = true := by
  show (decide (-999999999999999999999999999999 ≤ t) && decide (t ≤ 999999999999999999999999999999)) = true
  rw [decide_eq_true (by omega), decide_eq_true (by omega)]; rfl
theorem numsB_ints {lo hi : Int} {ts : List Int} (h1 : lo ≤ ts.length) (h2 : (ts.length : Int) ≤ hi) (h3 : ∀ t ∈ ts, t.natAbs < 10 ^ 29) : numsB lo hi (.tuple (ts.map .int)) = true := by
  show (decide (lo ≤ ((ts.map PyData.int).length : Nat)) && decide ((((ts.map PyData.int).length : Nat) : Int) ≤ hi) && (ts.map PyData.int).all shortB) = true
  rw [List.length_map, decide_eq_true h1, decide_eq_true h2, List.all_map, show ts.all (shortB ∘ PyData.int) = true from List.all_eq_true.mpr (fun t ht => shortB_int (h3 t ht))]; rfl
theorem mannerB_word (k : Mn) : mannerB (.str k.word) = true := by unfold mannerB; rw [mnOf_word]; rfl
theorem rb_ruled {s : Str} {k : Mn} {a : Int} {ts : List Int} {st : D} (hs : NmL s) (ha : a.natAbs < 10 ^ 29) (h1 : 1 ≤ ts.length) (h2 : ts.length ≤ 20) (h3 : ∀ t ∈ ts, t.natAbs < 10 ^ 29) (h4 : stepsB st = true) : rowB (.tuple [.str "ruled", .str s, .str k.word, .tuple [.int a], .tuple (ts.map .int), st]) = true := by
  rw [rowB_eq (ks := ["name", "manner", "terms", "round", "steps"]) rfl]
  show (kindB "name" _ && (kindB "manner" _ && (kindB "terms" _ && (kindB "round" _ && (kindB "steps" _ && true))))) = true
  rw [kindB_eq "name" nameB _ rfl, kindB_eq "manner" mannerB _ rfl, kindB_eq "terms" (numsB 1 100) _ rfl, kindB_eq "round" (numsB 1 20) _ rfl, kindB_eq "steps" stepsB _ rfl, hs.b, mannerB_word, h4, numsB_ints (by omega) (by omega) h3]
  have := numsB_ints (lo := 1) (hi := 100) (ts := [a]) (by show (1 : Int) ≤ 1; decide) (by show (1 : Int) ≤ 100; decide) (fun t ht => by rw [List.mem_singleton.mp ht]; exact ha)
  rw [show numsB 1 100 (.tuple [.int a]) = true from this]; rfl
theorem rb_fed {s : Str} {k : Mn} (hs : NmL s) : rowB (.tuple [.str "fed", .str s, .str k.word]) = true := by
  rw [rowB_eq (ks := ["name", "manner"]) rfl]
  show (kindB "name" _ && (kindB "manner" _ && true)) = true
  rw [kindB_eq "name" nameB _ rfl, kindB_eq "manner" mannerB _ rfl, hs.b, mannerB_word]; rfl
theorem rb_surd {s : Str} {a b c : Int} (hs : NmL s) (ha : a.natAbs < 10 ^ 29) (hb : b.natAbs < 10 ^ 29) (hc : c.natAbs < 10 ^ 29) : rowB (.tuple [.str "surd", .str s, .int a, .int b, .int c]) = true := by
  rw [rowB_eq (ks := ["name", "number", "number", "number"]) rfl]
  show (kindB "name" _ && (kindB "number" _ && (kindB "number" _ && (kindB "number" _ && true)))) = true
  rw [kindB_eq "name" nameB _ rfl, kindB_eq "number" shortB _ rfl, kindB_eq "number" shortB _ rfl, kindB_eq "number" shortB _ rfl, hs.b, shortB_int ha, shortB_int hb, shortB_int hc]; rfl
theorem mostB_int {t : Int} (h1 : 1 ≤ t) (h2 : t ≤ 64) : mostB (.int t) = true := by
  show (decide (1 ≤ t) && decide (t ≤ 64)) = true
  rw [decide_eq_true h1, decide_eq_true h2]; rfl
theorem rb_one {s u : Str} {k : Mn} {m : Int} {f : D} (hs : NmL s) (hu : NmL u) (h1 : 1 ≤ m) (h2 : m ≤ 64) (hf : twoB 2 f = true) : rowB (.tuple [.str "one", .str s, .str u, .str k.word, .int m, f]) = true := by
  rw [rowB_eq (ks := ["name", "name", "manner", "most", "four"]) rfl]
  show (kindB "name" _ && (kindB "name" _ && (kindB "manner" _ && (kindB "most" _ && (kindB "four" _ && true))))) = true
  rw [kindB_eq "name" nameB _ rfl, kindB_eq "name" nameB _ rfl, kindB_eq "manner" mannerB _ rfl, kindB_eq "most" mostB _ rfl, kindB_eq "four" (twoB 2) _ rfl, hs.b, hu.b, mannerB_word, mostB_int h1 h2, hf]; rfl
theorem rb_two {s u v : Str} {k : Mn} {m : Int} {f : D} (hs : NmL s) (hu : NmL u) (hv : NmL v) (h1 : 1 ≤ m) (h2 : m ≤ 64) (hf : twoB 4 f = true) : rowB (.tuple [.str "two", .str s, .str u, .str v, .str k.word, .int m, f]) = true := by
  rw [rowB_eq (ks := ["name", "name", "name", "manner", "most", "eight"]) rfl]
  show (kindB "name" _ && (kindB "name" _ && (kindB "name" _ && (kindB "manner" _ && (kindB "most" _ && (kindB "eight" _ && true)))))) = true
  rw [kindB_eq "name" nameB _ rfl, kindB_eq "name" nameB _ rfl, kindB_eq "name" nameB _ rfl, kindB_eq "manner" mannerB _ rfl, kindB_eq "most" mostB _ rfl, kindB_eq "eight" (twoB 4) _ rfl, hs.b, hu.b, hv.b, mannerB_word, mostB_int h1 h2, hf]; rfl
theorem rb_root {s u : Str} {m : Int} (hs : NmL s) (hu : NmL u) (h1 : 1 ≤ m) (h2 : m ≤ 64) : rowB (.tuple [.str "root", .str s, .str u, .int m]) = true := by
  rw [rowB_eq (ks := ["name", "name", "most"]) rfl]
  show (kindB "name" _ && (kindB "name" _ && (kindB "most" _ && true))) = true
  rw [kindB_eq "name" nameB _ rfl, kindB_eq "name" nameB _ rfl, kindB_eq "most" mostB _ rfl, hs.b, hu.b, mostB_int h1 h2]; rfl
theorem el_word (k : Mn) : ElS (.str k.word) := by
  refine el_str (by cases k <;> decide) ?_
  have : (k.word.cps.toList.all fun c => decide (c < 1114112)) = true := by cases k <;> decide +kernel
  rw [List.all_eq_true] at this
  exact fun c hc => of_decide_eq_true (this c hc)
end Tq
namespace Tq
open PySem PySem.Spec PyProof.Rows L2
/-! ### names put together out of letters -/
def chS (c : Nat) : Str := ⟨#[c]⟩
theorem cutD_dropN {α : Type} (xs : List α) (j : Nat) (h : j ≤ xs.length) : Tq.cutD xs (some (j : Int)) none = xs.drop j := by
  unfold Tq.cutD
  have h1 : HT.sIx xs.length xs.length none = xs.length := rfl
  rw [h1, HT.sIx_nat, Nat.min_eq_left h]
  exact List.take_of_length_le (by rw [List.length_drop]; exact Nat.le_refl _)
theorem join_nil : ∀ ps : List Str, (Str.join "" ps).cps.toList = (ps.map fun p => p.cps.toList).flatten
  | [] => rfl
  | [a] => by simp [Str.join]
  | a :: b :: r => by
    have e : Str.join "" (a :: b :: r) = a ++ "" ++ Str.join "" (b :: r) := rfl
    rw [e, app_list, app_list, join_nil (b :: r)]
    have : ("" : Str).cps.toList = [] := rfl
    rw [this, List.append_nil]; rfl
theorem join_chs (cs : List Nat) : (Txt.join "" (cs.map chS)).cps.toList = cs := by
  rw [TL.join_eq, join_nil, List.map_map]
  induction cs with
  | nil => rfl
  | cons c r ih => rw [List.map_cons, List.flatten_cons, ih]; rfl
theorem only_iff {s : Str} : onlyB s letters = true ↔ ∀ c ∈ s.cps.toList, c ∈ letters.cps.toList := by
  unfold onlyB
  rw [List.all_eq_true]
  exact ⟨fun h c hc => of_decide_eq_true (h c hc), fun h c hc => decide_eq_true (h c hc)⟩
/-- letters alone, so many at most -/
def LtL (n : Nat) (s : Str) : Prop := s.length ≤ n ∧ onlyB s letters = true
theorem ltL_chs {cs : List Nat} {n : Nat} (h : cs.length ≤ n) (hc : ∀ c ∈ cs, c ∈ letters.cps.toList) : LtL n (Txt.join "" (cs.map chS)) := by
  have e := join_chs cs
  refine ⟨?_, only_iff.mpr (by rw [e]; exact hc)⟩
  rw [← str_lenL, e]; exact h
theorem ltL_app {m n : Nat} {a b : Str} (ha : LtL m a) (hb : LtL n b) : LtL (m + n) (a ++ b) := by
  refine ⟨by rw [strLen_append]; have := ha.1; have := hb.1; omega, only_iff.mpr fun c hc => ?_⟩
  rw [app_list] at hc
  rcases List.mem_append.mp hc with h | h
  · exact only_iff.mp ha.2 c h
  · exact only_iff.mp hb.2 c h
theorem ltL_ch {c : Nat} (h : c ∈ letters.cps.toList) : LtL 1 (chS c) := ⟨Nat.le_refl _, only_iff.mpr fun d hd => by
  have : d ∈ [c] := hd
  rw [List.mem_singleton.mp this]; exact h⟩
theorem ltL_rep {s : Str} {n : Int} {m : Nat} (h : LtL m s) (hn : n.toNat ≤ 1) : LtL m (repS s n) := by
  refine ⟨?_, only_iff.mpr fun c hc => ?_⟩
  · rw [repS_len]
    have := h.1
    have h2 : n.toNat * s.length ≤ 1 * s.length := Nat.mul_le_mul_right _ hn
    omega
  · rw [repS_list, List.mem_flatten] at hc
    obtain ⟨l, hl, hc⟩ := hc
    rw [List.mem_replicate] at hl
    rw [hl.2] at hc
    exact only_iff.mp h.2 c hc
end Tq

set_option maxRecDepth 100000
set_option maxHeartbeats 4000000
/-! dicts of texts to whole numbers as plain data; a written dict of lists asked at once -/
namespace Ux
open PySem PySem.Spec PyProof.Rows L2 Tq
def siD (es : List (Str × Int)) : D := .dict (es.map fun p => (.str p.1, .int p.2))
def siK (es : List (Str × Int)) : List (Key × V) := es.map fun p => (Sum.inr p.1, V.int p.2)
theorem tPairs_si : ∀ (es : List (Str × Int)) (σ : St) (H : Hp) (Q : List (V × V) → Hp → Prop), Q ((siK es).map fun kv => (kV kv.1, kv.2)) H → tPairs (es.map fun p => (tC (.str p.1), tC (.int p.2))) σ H Q
  | [], _, _, _, q => q
  | (s, i) :: r, σ, H, Q, q => tPairs_si r σ H _ q
theorem rpK_si {K : Fg} {M : Addr → Prop} {H : Hp} : ∀ (es : List (Str × Int)), RpK K M H (siK es) (es.map fun p => (PyData.str p.1, PyData.int p.2))
  | [] => .nil
  | (s, i) :: r => .cons (k := Sum.inr s) (.int i) (rpK_si r)
theorem rpK_si' {K : Fg} {M : Addr → Prop} {H : Hp} : ∀ {es : List (Str × Int)} {kvs : List (Key × V)} {ds : List (D × D)}, RpK K M H kvs ds → ds = es.map (fun p => (PyData.str p.1, PyData.int p.2)) → kvs = siK es
  | [], _, _, .nil, _ => rfl
  | [], _, _, .cons _ _, e => by cases e
  | _ :: _, _, _, .nil, e => by cases e
  | (s, i) :: r, _, _, .cons (k := k) a b, e => by
    rw [List.map_cons] at e
    obtain ⟨e1, e2⟩ := List.cons.inj e
    obtain ⟨e3, e4⟩ := Prod.mk.inj e1
    subst e4
    obtain rfl := rp_int a
    rw [rpK_si' b e2]
    cases k with
    | inl j => cases e3
    | inr z => cases e3; rfl
theorem valV_si (s : Str) : ∀ es : List (Str × Int), valV (siK es) (Sum.inr s) = (getT s es).map V.int
  | [] => rfl
  | (k, i) :: r => by
    show valV ((Sum.inr k, V.int i) :: siK r) (Sum.inr s) = (if k = s then some i else getT s r).map V.int
    by_cases h : k = s
    · rw [if_pos h, valV_pos (p := (Sum.inr k, V.int i)) (by rw [h])]; rfl
    · rw [if_neg h, valV_neg (p := (Sum.inr k, V.int i)) (fun z => h (by cases z; rfl)), valV_si s r]
section
variable {C : Ct} {y : S} {ta tb : TE} {Q : Z → S → Prop}
theorem wE_dispSI (es : List (Str × Int)) (hm : mergeK [] (siK es) = siK es) (hl : es.length ≤ 15) (q : Q (.d (siD es)) y) : wE C (tDisp (es.map fun p => (tC (.str p.1), tC (.int p.2)))) y Q := by
  intro F σ H K wd k p hp
  refine tPairs_si es σ _ _ ⟨upd_same, siK es, rfl, by unfold siK; rw [List.length_map]; exact hl, ?_⟩
  rw [hm]
  have gr : ∀ a u, H a = some u → upd (upd H p (.dK [])) p (.dK (siK es)) a = some u := fun a u e => by rw [upd_upd]; exact grow_upd hp a u e
  refine k _ _ (.d (siD es)) y (wd.grow gr) (go_grow gr) (Sh.refl y) (.dic (wd.new hp) (kvs := siK es) ?_ (rpK_si es)) q
  rw [upd_same]
theorem rp_dicT {K : Fg} {M : Addr → Prop} {H : Hp} {v : V} {es : List (Str × Int)} (r : Rp K M H v (siD es)) : ∃ a, v = .ref a ∧ H a = some (.dK (siK es)) := by
  unfold siD at r
  generalize hd : es.map (fun p => (PyData.str p.1, PyData.int p.2)) = ds at r
  cases r with
  | dic _ h1 h2 =>
    rw [rpK_si' h2 hd.symm] at h1
    exact ⟨_, rfl, h1⟩
theorem wE_dnotin {es : List (Str × Int)} (w : wE C ta y fun z y1 => wE C tb y1 fun z' y2 => ∃ s, z = .d (.str s) ∧ z' = .d (siD es) ∧ Q (.d (.bool (!(getT s es).isSome))) y2) : wE C (tDNotIn ta tb) y Q := by
  intro F σ H K wd k
  refine w F σ H _ wd fun v H1 z y1 w1 g1 s1 r1 h1 => ?_
  refine h1 F σ H1 _ w1 fun v2 H2 z' y2 w2 g2 s2 r2 ⟨s, e1, e2, q⟩ => ?_
  subst e1 e2
  obtain rfl := rp_str (show Rp C.K _ _ v (.str s) from r1)
  obtain ⟨a, rfl, ha⟩ := rp_dicT (show Rp C.K _ _ v2 (siD es) from r2)
  refine ⟨a, _, rfl, DGet.k (k := Sum.inr s) ha, ?_⟩
  rw [valV_si]
  have e : ((getT s es).map V.int).isSome = (getT s es).isSome := by cases getT s es <;> rfl
  rw [e]
  exact k _ H2 (.d (.bool _)) y2 w2 (g1.trans g2) (s1.trans s2) (.bl _) q
theorem wE_dgetSI {es : List (Str × Int)} (w : wE C tb y fun z y1 => wE C ta y1 fun z' y2 => ∃ s n, z = .d (siD es) ∧ z' = .d (.str s) ∧ getT s es = some n ∧ Q (.d (.int n)) y2) : wE C (tDGet tb ta) y Q := by
  intro F σ H K wd k
  refine w F σ H _ wd fun v H1 z y1 w1 g1 s1 r1 h1 => ?_
  refine h1 F σ H1 _ w1 fun v2 H2 z' y2 w2 g2 s2 r2 ⟨s, n, e1, e2, hs, q⟩ => ?_
  subst e1 e2
  obtain rfl := rp_str (show Rp C.K _ _ v2 (.str s) from r2)
  obtain ⟨a, rfl, ha⟩ := rp_dicT (Rp.go g2 (show Rp C.K _ _ v (siD es) from r1))
  refine ⟨a, .int n, rfl, ?_, k _ H2 (.d (.int n)) y2 w2 (g1.trans g2) (s1.trans s2) (.int _) q⟩
  have := DGet.k (k := Sum.inr s) ha
  rw [valV_si, hs] at this
  exact this
end
/-! {"a": [1, 2], ..}[x] -/
def tInts : List Int → TA
  | [] => tNil
  | i :: r => tCons (tC (.int i)) (tInts r)
theorem tInts_run : ∀ (ls : List Int) (σ : St) (H : Hp) (Q : List V → Hp → Prop), Q (ls.map V.int) H → tInts ls σ H Q
  | [], _, _, _, q => q
  | i :: r, σ, H, Q, q => tInts_run r σ H (fun vs H1 => Q (V.int i :: vs) H1) q
inductive LsAt (H : Hp) : List (Str × List Int) → List (Key × V) → Prop
  | nil : LsAt H [] []
  | cons {s : Str} {l : List Int} {p : Addr} {r : List (Str × List Int)} {kvs : List (Key × V)} : H p = some (.lst (l.map V.int)) → LsAt H r kvs → LsAt H ((s, l) :: r) ((Sum.inr s, .ref p) :: kvs)
theorem LsAt.go {H H' : Hp} : ∀ {ls : List (Str × List Int)} {kvs : List (Key × V)}, LsAt H ls kvs → (∀ a u, H a = some u → H' a = some u) → LsAt H' ls kvs
  | _, _, .nil, _ => .nil
  | _, _, .cons h r, g => .cons (g _ _ h) (r.go g)
theorem LsAt.len {H : Hp} : ∀ {ls : List (Str × List Int)} {kvs : List (Key × V)}, LsAt H ls kvs → kvs.length = ls.length
  | _, _, .nil => rfl
  | _, _, .cons h r => by rw [List.length_cons, List.length_cons, r.len]
theorem LsAt.keys {H : Hp} : ∀ {ls : List (Str × List Int)} {kvs : List (Key × V)}, LsAt H ls kvs → kvs.map (·.1) = ls.map fun p => Sum.inr p.1
  | _, _, .nil => rfl
  | _, _, .cons h r => by rw [List.map_cons, List.map_cons, r.keys]
theorem LsAt.get {H : Hp} {s : Str} {l : List Int} : ∀ {ls : List (Str × List Int)} {kvs : List (Key × V)}, LsAt H ls kvs → getT s ls = some l → ∃ p, valV kvs (Sum.inr s) = some (.ref p) ∧ H p = some (.lst (l.map V.int))
  | _, _, .nil, e => by cases e
  | _, _, .cons (s := k) (l := l0) (p := p) (r := r) h t, e => by
    have e : (if k = s then some l0 else getT s r) = some l := e
    by_cases q : k = s
    · rw [if_pos q] at e; cases e
      exact ⟨p, valV_pos (by rw [q]), h⟩
    · rw [if_neg q] at e
      obtain ⟨p2, h1, h2⟩ := t.get e
      exact ⟨p2, by rw [valV_neg (fun z => q (by cases z; rfl))]; exact h1, h2⟩
theorem tPairs_ls : ∀ (ls : List (Str × List Int)) (σ : St) (H : Hp) (Q : List (V × V) → Hp → Prop), (∀ l ∈ ls, l.2.length ≤ sizeLine) → (∀ H' kvs, (∀ a u, H a = some u → H' a = some u) → (∀ k p, (k, V.ref p) ∈ kvs → H p = none) → LsAt H' ls kvs → Q (kvs.map fun kv => (kV kv.1, kv.2)) H') →
    tPairs (ls.map fun p => (tC (.str p.1), tLst (tInts p.2))) σ H Q
  | [], _, H, _, _, q => q H [] (fun _ _ e => e) (fun _ _ h => absurd h (by simp)) .nil
  | (s, l) :: r, σ, H, Q, hz, q => by
    refine tInts_run l σ H _ ⟨by rw [List.length_map]; exact hz _ List.mem_cons_self, fun p hp => ?_⟩
    refine tPairs_ls r σ _ _ (fun l hl => hz l (List.mem_cons_of_mem _ hl)) fun H' kvs gr hf h => ?_
    refine q H' ((Sum.inr s, .ref p) :: kvs) (fun a u e => gr a u (grow_upd hp a u e)) (fun k p2 h2 => ?_) (.cons (gr p _ upd_same) h)
    rcases List.mem_cons.mp h2 with h2 | h2
    · cases h2; exact hp
    · have := hf k p2 h2
      by_cases e : p2 = p
      · rw [e]; exact hp
      · rwa [upd_ne e] at this
theorem merge_nd (kvs : List (Key × V)) (h : (kvs.map (·.1)).Nodup) : mergeK [] kvs = kvs := by
  have key : ∀ (more acc : List (Key × V)), ((acc ++ more).map (·.1)).Nodup → mergeK acc more = acc ++ more := by
    intro more
    induction more with
    | nil => intro acc _; rw [List.append_nil]; rfl
    | cons kv r ih =>
      intro acc hn
      have hnot : valV acc kv.1 = none := by
        unfold valV
        rw [Option.map_eq_none_iff, List.find?_eq_none]
        intro x hx hk
        have hk : x.1 = kv.1 := of_decide_eq_true hk
        rw [List.map_append, List.nodup_append] at hn
        exact hn.2.2 x.1 (List.mem_map.mpr ⟨x, hx, rfl⟩) kv.1 (by simp) hk
      show mergeK (putK acc kv.1 kv.2) r = _
      rw [putK_new _ hnot, ih _ (by rw [List.append_assoc]; exact hn), List.append_assoc]
      rfl
  exact key kvs [] h
theorem wE_dgl {C : Ct} {y : S} {Q : Z → S → Prop} (ls : List (Str × List Int)) {s : Str} {l : List Int} {i : Nat} (hi : y.l[i]? = some (some (.d (.str s)))) (hn : (ls.map fun p => p.1).Nodup) (h15 : ls.length ≤ 15) (hz : ∀ l ∈ ls, l.2.length ≤ sizeLine) (hv : getT s ls = some l) (q : Q (.d (.list (l.map PyData.int))) y) :
    wE C (tDGet (tDisp (ls.map fun p => (tC (.str p.1), tLst (tInts p.2)))) (tVar i)) y Q := by
  intro F σ H K wd k
  obtain ⟨x, h1, h2⟩ := wd.slot i _ hi
  cases h2 with
  | d h2 =>
    obtain rfl := rp_str h2
    intro p hp
    refine tPairs_ls ls σ _ _ hz fun H' kvs gr hf h => ?_
    have hm : mergeK [] kvs = kvs := merge_nd kvs (by
      rw [h.keys]
      have : (ls.map fun p => (Sum.inr p.1 : Key)) = (ls.map fun p => p.1).map Sum.inr := by rw [List.map_map]; rfl
      rw [this]
      unfold List.Nodup at hn ⊢
      rw [List.pairwise_map]
      exact hn.imp fun h z => h (by cases z; rfl))
    have hpp : H' p = some (.dK []) := gr p _ upd_same
    refine ⟨hpp, kvs, rfl, by rw [h.len]; exact h15, ?_⟩
    rw [hm]
    obtain ⟨a, ha1, ha2⟩ := h.get hv
    have hap : a ≠ p := fun z => by rw [z, hpp] at ha2; cases ha2
    have gr2 : ∀ e o, H e = some o → upd H' p (.dK kvs) e = some o := fun e o he => by
      rw [upd_ne (ne_of_none he hp)]; exact gr e o (grow_upd hp e o he)
    refine ⟨.str s, h1, p, .ref a, rfl, ?_, ?_⟩
    · rw [← ha1]
      exact DGet.k (k := Sum.inr s) upd_same
    · refine k _ _ (.d (.list (l.map PyData.int))) y (wd.grow gr2) (go_grow gr2) (Sh.refl y) (.lst (.inl ⟨?_, .inl (by rw [upd_ne hap]; exact ha2)⟩) (rpA_int l)) q
      have hm2 : (Sum.inr s, V.ref a) ∈ kvs := by
        unfold valV at ha1
        rw [Option.map_eq_some_iff] at ha1
        obtain ⟨kv, h3, h4⟩ := ha1
        have h5 := List.find?_some h3
        have h5 : kv.1 = Sum.inr s := of_decide_eq_true h5
        have h6 := List.mem_of_find?_eq_some h3
        rw [← h5, ← h4]; exact h6
      have hfa := hf _ _ hm2
      rw [upd_ne hap] at hfa
      exact wd.new hfa
/-! x == () -/
def rEqNilT (K : Fg) : R2 := fun x y H Q => ∃ a b xs, x = .ref a ∧ y = .ref b ∧ SqT K H a xs ∧ SqT K H b [] ∧ Q (.bl (decide (xs.length = 0))) H
theorem op_eqNilT {X : Cx} (hu : X.A.units + 64 < cLine) : OpR X (compareOp .Eq) (rEqNilT X.K) := by
  intro pins s σ H x y v u Q I rx ry h
  obtain ⟨a, b, xs, rfl, rfl, ha, hb, q⟩ := h
  cases (show v = Value.ref a from rx)
  cases (show u = Value.ref b from ry)
  obtain ⟨us, r1, p1, _⟩ := I.tuple ha
  obtain ⟨ws, r2, p2, _⟩ := I.tuple hb
  have hw : ws = [] := by cases r2; rfl
  subst hw
  have h1 : us.length = xs.length := r1.length.symm
  refine SeqAt.RcAt.tuples (e := fun _ => true) p1 p2 (by omega) (fun j h1 h2 => absurd h2 (Nat.not_lt_zero j)) _ _ _ _ ?_
  have e2 : ((List.range (min us.toArray.size ([] : List Value).toArray.size)).all (fun _ => true) && us.toArray.size == ([] : List Value).toArray.size) = decide (xs.length = 0) := by
    rw [show ((List.range (min us.toArray.size ([] : List Value).toArray.size)).all fun _ => true) = true from List.all_eq_true.mpr fun _ _ => rfl, List.size_toArray, h1, Bool.true_and]
    show (xs.length == 0) = _
    by_cases e : xs.length = 0
    · rw [e]; rfl
    · rw [decide_eq_false e]; simpa using e
  rw [e2]
  exact ⟨.bl _, H, I, rfl, q⟩
theorem eqNilTK {X : Cx} (K : Fg) (hu : X.A.units + 64 < cLine) (h : X.K = K := by rfl) : OpR X (compareOp .Eq) (rEqNilT K) := h ▸ op_eqNilT hu
theorem wE_eqNilT {C : Ct} {y : S} {ta tb : TE} {Q : Z → S → Prop} (w : wE C ta y fun z y1 => wE C tb y1 fun z' y2 => ∃ xs, z = .d (.tuple xs) ∧ z' = .d (.tuple []) ∧ Q (.d (.bool (decide (xs.length = 0)))) y2) : wE C (tOp (rEqNilT C.K) ta tb) y Q := by
  refine wE_op (res := fun d e r => ∃ xs, d = .tuple xs ∧ e = .tuple [] ∧ r = .bool (decide (xs.length = 0))) ?_ (wE_mono w fun z y1 h => wE_mono h fun z' y2 ⟨xs, e1, e2, q⟩ => ⟨_, _, _, e1, e2, ⟨xs, rfl, rfl, rfl⟩, q⟩)
  rintro M H x y d e r Q fr rx ry ⟨xs, rfl, rfl, rfl⟩ k
  obtain ⟨a, us, rfl, h1, h2⟩ := rp_tup rx
  obtain ⟨b, vs, rfl, h3, h4⟩ := rp_tup ry
  cases h4
  exact ⟨a, b, us, rfl, rfl, h1.sq, h3.sq, k _ H (fun _ _ e => e) (by rw [h2.len]; exact .bl _)⟩
end Ux

set_option maxRecDepth 100000
set_option maxHeartbeats 4000000
/-! [e for x in l if t], l a list of the store that holds plain things -/
namespace Ux
open PySem PySem.Spec PyProof.Rows L2 Tq
theorem wE_lcLab {C : Ct} {y : S} {te : TE} {tt : TT} {Q : Z → S → Prop} {i j : Nat} (jj : Nat) {p : Addr} {b : Bool} {ds : List D} (q : D → Bool) (f : D → D) (hi : y.l[i]? = some (some (.lab p))) (hm : y.m[jj]? = some ⟨p, b, .lst (ds.map Z.d)⟩) (hz : ds.length ≤ sizeLine)
    (hs : ∀ d ∈ ds, wT C.q tt (setD (plY y [j]) [j] [d]) fun b y3 => b = q d ∧ (q d = true → wE C.q te y3 fun z _ => z = .d (f d)))
    (hq : Q (.d (.list ((ds.filter q).map f))) y) : wE C (tLc (iList C.K (tVar i)) (gName j) tt te [j]) y Q := by
  intro F σ H K wd k
  obtain ⟨x, hx, rx⟩ := wd.slot i _ hi
  cases rx
  obtain ⟨us, hH, ru⟩ := (wd.cell _ (List.mem_of_getElem? hm) : CellOk C.K (Mv F σ y) H p (.lst (ds.map Z.d)))
  have ru := ru.ds
  refine ⟨.ref p, hx, p, rfl, ⟨us, .inl (.inl hH)⟩, ?_⟩
  intro l hl
  refine ⟨fun i n H2 => n = ds.length - i ∧ i ≤ ds.length ∧ (∀ a o, H a = some o → H2 a = some o) ∧ ∃ vs, H2 l = some (.lst vs) ∧ RpA C.K (fun a => Mv F σ y a ∨ a = l) H2 vs (((ds.take i).filter q).map f),
    ⟨ds.length, rfl, Nat.zero_le _, grow_upd hl, [], upd_same, .nil⟩, ?_⟩
  rintro i n H2 ⟨rfl, hi, gr, vs, hl2, rv⟩
  have hp2 : H2 p = some (.lst us) := gr p _ hH
  by_cases hlt : i < ds.length
  · have hlu : i < us.length := by rw [ru.len]; exact hlt
    refine .inr ⟨⟨us, us[i], .inl (.inl hp2), by simp [hlu]⟩, fun H3 => (∀ a o, H a = some o → H3 a = some o) ∧ ∃ vs, H3 l = some (.lst vs) ∧ RpA C.K (fun a => Mv F σ y a ∨ a = l) H3 vs (((ds.take (i + 1)).filter q).map f),
      fun H3 h => ⟨ds.length - (i + 1), by omega, rfl, hlt, h⟩, fun v H3 hy => ?_⟩
    obtain ⟨rfl, hv⟩ := hy
    have ex : ds[i]? = some ds[i] := List.getElem?_eq_getElem hlt
    obtain ⟨d, hd, rd⟩ := ru.getV (hv us (.inl (.inl hp2)))
    rw [ex] at hd
    cases hd
    have ht := hs ds[i] (List.getElem_mem hlt)
    have w3 := wd.toWd0.lentL (ks := [j]) hl gr (by rw [hl2]; simp)
    have rA : RpA C.K (Mv (frL F σ y H3 l) (wipe σ [j]) (plY y [j])) H3 [v] [ds[i]] := .cons (rd.go fun a o n e => ⟨fun z => z.elim (fun z => z.elim n fun z => by subst z; rw [hl] at e; cases e) fun ⟨_, h, _⟩ => (by cases h), gr a o e⟩) .nil
    have w4 := Wd0.setD [j] w3 rA
    show wipe ((wipe σ [j]).set j (some v)) [j] = wipe σ [j] ∧ _
    refine ⟨?_, ?_⟩
    · exact (wipe_setV (ks := [j]) [j] [v] (wipe σ [j]) fun j hj => hj).trans wipe_wipe
    refine ht _ _ H3 _ w4.q fun b H5 y5 w5 g5 s5 q5 => ?_
    obtain ⟨rfl, q6⟩ := q5
    have k5 : ∀ a o, H3 a = some o → H5 a = some o := fun a o e => w5.keep a o (fun z => z) e
    have sp : ds.take (i + 1) = ds.take i ++ [ds[i]] := by rw [List.take_succ, ex]; rfl
    cases hp : q ds[i] with
    | false =>
      refine ⟨fun a o e => k5 a o (gr a o e), vs, k5 _ _ hl2, ?_⟩
      rw [sp, List.filter_append, List.filter_cons_of_neg (by rw [hp]; simp), List.filter_nil, List.append_nil]
      exact rv.go fun a o n e => ⟨n, k5 a o e⟩
    | true =>
      refine q6 hp _ _ H5 _ w5 fun x6 H6 z6 y6 w6 g6 s6 r6 ez => ?_
      subst ez
      have k6 : ∀ a o, H3 a = some o → H6 a = some o := fun a o e => w6.keep a o (fun z => z) e
      have lv : vs.length ≤ i := by
        rw [rv.len, List.length_map]
        refine Nat.le_trans (List.length_filter_le _ _) ?_
        rw [List.length_take]; omega
      refine ⟨vs, k6 _ _ hl2, by omega, fun a o e => by rw [upd_ne (ne_of_none e hl)]; exact k6 a o (gr a o e), vs ++ [x6], upd_same, ?_⟩
      rw [sp, List.filter_append, List.filter_cons_of_pos hp, List.filter_nil, List.map_append]
      have r6 : Rp C.K (Mv (frL F σ y H3 l) (setV (wipe σ [j]) [j] [v]) y6) H6 x6 (f ds[i]) := r6
      exact (rv.go fun a o n e => ⟨n, by rw [upd_ne (fun z => n (.inr z))]; exact k6 a o e⟩).app (.cons (r6.go fun a o n e => ⟨fun z => n (.inl z), by rw [upd_ne (fun z => n (.inl (.inr z)))]; exact e⟩) .nil)
  · have ei : i = ds.length := by omega
    subst ei
    refine .inl ⟨⟨us, .inl (.inl hp2), by rw [ru.len]; exact Nat.le_refl _⟩, ?_⟩
    rw [List.take_length] at rv
    exact k _ H2 (.d (.list ((ds.filter q).map f))) y (wd.grow gr) (go_grow gr) (Sh.refl y) (.lst (.inl ⟨wd.new hl, .inl hl2⟩) (rv.go fun a o n e => ⟨fun z => n (.inl z), e⟩)) hq
end Ux

set_option maxRecDepth 100000
set_option maxHeartbeats 4000000
namespace Tq
open PySem PySem.Spec PyProof.Rows L2
open PySem.NumText (digitsVal AllDigits)
def topS (i : Nat) : Stmt := PySem.Challenge.pw_termstream_k74_plans_by_form.main.body.getD i (.Pass ⟨0, 0, 0, 0⟩)
local macro_rules | `(tactic| walk_at "less") => `(tactic| (repeat' (first | exact less_nil | refine less_none ?_ | refine less_some ?_)))
local macro_rules | `(tactic| walk_at "bd") => `(tactic| (repeat' (first | assumption | with_reducible apply Bd.mul | with_reducible apply Bd.add | with_reducible apply Bd.sub | with_reducible apply Bd.neg | (with_reducible apply Bd.div; rotate_left; omega) | exact Bd.lit (k := 40) (by first | decide | omega))))
local macro_rules | `(tactic| walk_at "dqStSeq") => `(tactic| (first
  | (with_reducible show wS _ (tSeq (tAsg (tLst _) (gName _)) (tSeq (tDrop (tBM _ _ rAppend _ _)) _)) _ _; refine wS_seq (wS_own ?_))
  | (with_reducible show wS _ (tSeq (tDrop (tBM _ _ rAppend (tVar _) _)) _) _ _; refine wS_seq (wS_app rfl ?_))
  | (with_reducible show wS _ (tSeq (tAsg (tCall spPurse _ _ _) _) _) _ _; refine wS_seq (wS_purse ?_))
  | (with_reducible show wS _ (tSeq (tAsg _ (gName _)) _) _ _; refine wS_seqA ?_)
  | (with_reducible show wS _ (tSeq (tPar _ _ _) _) _ _; refine wS_seqP ?_)
  | (with_reducible show wS _ (tSeq (tIfS _ _ tNext) _) _ _; refine wS_seqI ?_)
  | (with_reducible show wS _ (tSeq _ _) _ _; refine wS_seq ?_)
  | fail))
local macro_rules | `(tactic| walk_at "dqS") => `(tactic| (first
  | (with_reducible show wS _ _ (List.set _ _ _) _; refine wS_norm (by simp only [List.set]; first | done | exact rfl) ?_)
  | (with_reducible show wS _ (tSeq _ _) _ _; walk_at "dqStSeq")
  | (with_reducible show wS _ (tDrop (tCall _ _ _ _)) _ _; refine wS_drop ?_)
  | (with_reducible show wS _ (tAsg _ (gName _)) _ _; refine wS_asg ?_)
  | (with_reducible show wS _ (tAsg _ _) _ _; refine wS_asgG ?_)
  | (with_reducible show wS _ (tPar _ _ _) _ _; refine wS_par ?_)
  | (with_reducible show wS _ (tIfS _ _ tNext) _ _; refine wS_ifN ?_)
  | (with_reducible show wS _ (tIfS _ _ _) _ _; refine wS_if ?_)
  | (with_reducible show wS _ (tRet _) _ _; refine wS_ret ?_)
  | (with_reducible show wS _ tRetN _ _; refine wS_retN ?_)
  | (with_reducible show wS _ tNext _ _; refine wS_next ?_)
  | (with_reducible show wS _ (tAug _ _ _) _ _; refine wS_aug rfl ?_)
  | fail))
local macro_rules | `(tactic| walk_at "dqEtC") => `(tactic| (first
  | (with_reducible show wE _ (tC (.int _)) _ _; refine wE_int ?_)
  | (with_reducible show wE _ (tC (.str _)) _ _; refine wE_str ?_)
  | (with_reducible show wE _ (tC (.bl _)) _ _; refine wE_bl ?_)
  | (with_reducible show wE _ (tC .non) _ _; refine wE_non ?_)
  | fail))
local macro_rules | `(tactic| walk_at "dqEtOp") => `(tactic| (first
  | (with_reducible show wE _ (tOp (rI0 _) _ _) _ _; first | with_reducible refine wE_add ?_ | with_reducible refine wE_sub ?_ | with_reducible refine wE_lt ?_ | with_reducible refine wE_le ?_ | with_reducible refine wE_gt ?_ | with_reducible refine wE_ge ?_)
  | (with_reducible show wE _ (tOp (rI CPow _) (tC _) (tC _)) _ _; refine wE_powN ?_)
  | (with_reducible show wE _ (tOp (rI _ _) _ _) _ _; first | with_reducible refine wE_mod ?_ | with_reducible refine wE_fdivW ?_ | with_reducible refine wE_mulW ?_ | with_reducible refine wE_pow ?_ | with_reducible refine wE_fdivZ ?_ | with_reducible refine wE_modN ?_ | with_reducible refine wE_mul ?_)
  | (with_reducible show wE _ (tOp (rIx _) _ _) _ _; refine wE_ix ?_)
  | (with_reducible show wE _ (tOp (rCatG _) _ _) _ _; refine wE_catG ?_)
  | (with_reducible show wE _ (tOp rEq _ _) _ _; refine wE_eqS ?_)
  | (with_reducible show wE _ (tOp rNe _ _) _ _; refine wE_neS ?_)
  | (with_reducible show wE _ (tOp (rEqD _) _ _) _ _; refine wE_eqD ?_)
  | (with_reducible show wE _ (tOp (rNeD _) _ _) _ _; refine wE_neD ?_)
  | (with_reducible show wE _ (tOp _ _ _) _ _; first | with_reducible refine wE_addS ?_ | with_reducible refine wE_isN ?_ | with_reducible refine wE_notN ?_ | with_reducible refine wE_inSign ?_ | with_reducible refine wE_ltS ?_ | with_reducible refine wE_leS ?_)
  | fail))
local macro_rules | `(tactic| walk_at "dqEtCall") => `(tactic| (first
  | (with_reducible show wE _ (tCall (spTake _) _ _ _) _ _; refine wE_take rfl ?_)
  | (with_reducible show wE _ (tCall (detSp _ _ _ _) _ _ _) _ _; refine wE_det ?_)
  | (with_reducible show wE _ (tCall (pureSp _ _ _ _) _ _ _) _ _; refine wE_pure ?_)
  | (with_reducible show wE _ (tCall (puSp _ _ _ _ _) _ _ _) _ _; refine wE_pu rfl ?_)
  | fail))
local macro_rules | `(tactic| walk_at "dqEtCB") => `(tactic| (first
  | (with_reducible show wE _ (tCB (rIsi _) _) _ _; refine wE_isi ?_)
  | (with_reducible show wE _ (tCB (rIsiT _) _) _ _; refine wE_isi2 ?_)
  | (with_reducible show wE _ (tCB (rAll _) _) _ _; refine wE_all ?_)
  | (with_reducible show wE _ (tCB (rAny _) _) _ _; refine wE_any ?_)
  | (with_reducible show wE _ (tCB (rSum _) _) _ _; refine wE_sum ?_)
  | (with_reducible show wE _ (tCB (rReprX _) _) _ _; refine wE_reprX ?_)
  | (with_reducible show wE _ (tCB (rRepr _) _) _ _; refine wE_reprS ?_)
  | (with_reducible show wE _ (tCB _ _) _ _; first | refine wE_len ?_ | with_reducible refine wE_abs ?_ | with_reducible refine wE_max2 ?_ | with_reducible refine wE_min2 ?_ | with_reducible refine wE_strI ?_ | with_reducible refine wE_intS ?_ | with_reducible refine wE_int1 ?_ | refine wE_listOf ?_ | refine wE_tupOf ?_)
  | fail))
local macro_rules | `(tactic| walk_at "dqE") => `(tactic| (first
  | (with_reducible show wE _ (tVar _) _ _; first | refine wE_var rfl ?_ | refine wE_ptr rfl ?_)
  | (with_reducible show wE _ (tC _) _ _; walk_at "dqEtC")
  | (with_reducible show wE _ (tOp _ _ _) _ _; walk_at "dqEtOp")
  | (with_reducible show wE _ (tDisp _) _ _; first | refine wE_dispS (by constructor) ?_ | refine wE_dispI (by constructor) ?_)
  | (with_reducible show wE _ (tCall _ _ _ _) _ _; walk_at "dqEtCall")
  | (with_reducible show wE _ (tUn _ _) _ _; refine wE_neg ?_)
  | (with_reducible show wE _ (tLst _) _ _; refine wE_lst ?_)
  | (with_reducible show wE _ (tTup _) _ _; refine wE_tup ?_)
  | (with_reducible show wE _ tDNewK _ _; refine wE_dnew ?_)
  | (with_reducible show wE _ (tCB _ _) _ _; walk_at "dqEtCB")
  | (with_reducible show wE _ (tRev2 _ _) _ _; refine wE_rev2 ?_)
  | (with_reducible show wE _ (tRev1 _ _) _ _; refine wE_rev1 ?_)
  | (with_reducible show wE _ (tSl _ _ _ _) _ _; refine wE_sl ?_)
  | (with_reducible show wE _ (tChain _ _ _ _ _) _ _; first | with_reducible refine wE_chainI ?_ | with_reducible refine wE_chainS ?_)
  | (with_reducible show wE _ (tAndV _ _) _ _; refine wE_andV ?_)
  | (with_reducible show wE _ (tOrV _ _) _ _; refine wE_orV ?_)
  | (with_reducible show wE _ (tNotV _) _ _; refine wE_notV ?_)
  | (with_reducible show wE _ (tIf _ _ _) _ _; refine wE_if ?_)
  | (with_reducible show wE _ (tM1 _ _ _) _ _; first | with_reducible refine wE_starts ?_ | with_reducible refine wE_index ?_ | refine wE_join ?_)
  | fail))
local macro_rules | `(tactic| walk_at "dqT") => `(tactic| (first
  | (with_reducible show wT _ (tTest _) _ _; refine wT_test ?_)
  | (with_reducible show wT _ (tB _) _ _; refine wT_B ?_)
  | (with_reducible show wT _ (tAnd _ _) _ _; refine wT_and ?_)
  | (with_reducible show wT _ (tOr _ _) _ _; refine wT_or ?_)
  | (with_reducible show wT _ (tNot _) _ _; refine wT_not ?_)
  | (with_reducible show wT _ tYes _ _; refine wT_yes ?_)
  | fail))
local macro_rules | `(tactic| walk_at "dqI") => `(tactic| (first
  | (with_reducible show wI _ (iList _ _) _ _; refine wI_list ?_)
  | (with_reducible show wI _ (iTup _ _) _ _; refine wI_tup ?_)
  | (with_reducible show wI _ (iAny _ _) _ _; refine wI_any rfl rfl ?_)
  | (with_reducible show wI _ (iStr _) _ _; refine wI_str ?_)
  | (with_reducible show wI _ (iRng1 _) _ _; refine wI_rng1 ?_)
  | (with_reducible show wI _ (iRng2 _) _ _; refine wI_rng2 ?_)
  | fail))
local macro_rules | `(tactic| walk_at "dq") => `(tactic| (first
  | (with_reducible show wS _ _ _ _; walk_at "dqS")
  | (with_reducible show wE _ _ _ _; walk_at "dqE")
  | (with_reducible show wD _ (tCons _ _) _ _; refine wD_cons ?_)
  | (with_reducible show wD _ tNil _ _; refine wD_nil ?_)
  | (with_reducible show wO _ tNoPart _ _; refine wO_no ?_)
  | (with_reducible show wO _ (tPart _) _ _; refine wO_part ?_)
  | (with_reducible show wT _ _ _ _; walk_at "dqT")
  | (with_reducible show wI _ _ _ _; walk_at "dqI")
  | (with_reducible show wG _ (gName _) _ _ _; refine wG_name ?_)
  | (with_reducible show wG _ (gTup _ _ _) _ _ _; refine wG_tup rfl ?_)
  | (with_reducible show wGs _ (gCons _ _) _ _ _; refine wGs_cons ?_)
  | (with_reducible show wGs _ gNil _ _ _; refine wGs_nil ?_)
  | (with_reducible show ite _ _ _; first | refine itb_t rfl ?_ | refine itb_f rfl ?_)
  | (with_reducible show @Exists _ _; first | refine ⟨_, _, rfl, rfl, by omega, fun r h0 h1 => ?_⟩ | refine ⟨_, rfl, ?_⟩ | refine ⟨_, _, rfl, dLen_str (by first | omega | decide), ?_⟩ | refine ⟨_, _, rfl, dCut_str (by first | omega | decide) _ _, ?_⟩ | refine ⟨_, _, rfl, rfl, sz_small (by first | omega | (simp only [strLen_append]; omega)), ?_⟩ | refine ⟨_, _, rfl, rfl, ?_⟩ | refine ⟨_, _, rfl, ?_⟩ | refine ⟨_, _, _, rfl, rfl, rfl, ?_⟩ | refine ⟨_, _, _, rfl, rfl, ?_⟩)
  | (with_reducible show CMulW _ _ ∧ _; refine ⟨Bd.mulW (by walk_at "bd") (by walk_at "bd"), ?_⟩)
  | (with_reducible show CDivW _ _ ∧ _; refine ⟨Bd.divW (by walk_at "bd") (by omega), ?_⟩)
  | (with_reducible show _ ∧ _; first | (refine ⟨sz_small ?_, ?_⟩; focus first | (simp; done) | (simp only [List.length_map, List.length_append, List.length_take, List.length_drop, List.length_cons, List.length_nil]; omega)) | (refine ⟨sz_lt1 ?_, ?_⟩; focus first | (simp; done) | (simp only [List.length_map, List.length_append, List.length_take, List.length_drop, List.length_cons, List.length_nil]; omega)) | refine and_sw ?_ ⟨rfl, trivial⟩ | refine and_sw ?_ ⟨rfl, ⟨_, rfl⟩⟩ | refine and_sw ?_ ⟨rfl, ⟨_, _, rfl⟩⟩ | refine and_sw ?_ ⟨rfl, ⟨_, _, _, rfl⟩⟩ | refine and_sw ?_ ⟨rfl, ⟨_, rfl, ?_⟩⟩ | refine and_sw ?_ ⟨rfl, ⟨_, _, rfl, ?_⟩⟩ | refine ⟨rfl, ?_⟩ | refine ⟨trivial, ?_⟩ | refine ⟨by omega, ?_⟩)
  | (with_reducible show _ ≤ sizeLine; exact sz_small (by omega))
  | fail))

open Ux (getT GTd GTf)
abbrev shapesD : List (Str × D) := [("row", .tuple [.str "name", .str "manner", .str "terms"]), ("ruled", .tuple [.str "name", .str "manner", .str "terms", .str "round", .str "steps"]), ("fed", .tuple [.str "name", .str "manner"]), ("surd", .tuple [.str "name", .str "number", .str "number", .str "number"]), ("one", .tuple [.str "name", .str "name", .str "manner", .str "most", .str "four"]), ("two", .tuple [.str "name", .str "name", .str "name", .str "manner", .str "most", .str "eight"]), ("root", .tuple [.str "name", .str "name", .str "most"])]
abbrev fitsN : List (Str × Str) := [("name", "is_name"), ("manner", "is_manner"), ("number", "is_short"), ("most", "is_most"), ("terms", "are_terms"), ("round", "is_round"), ("steps", "are_steps"), ("four", "are_four"), ("eight", "are_eight")]
abbrev sp_is_manner (K : Fg) : Sp := detSp K 1 (fun _ => True) (fun ds => .bool (mannerB (a0 ds)))
abbrev sp_is_short (K : Fg) : Sp := detSp K 1 (fun _ => True) (fun ds => .bool (shortB (a0 ds)))
abbrev sp_is_most (K : Fg) : Sp := detSp K 1 (fun _ => True) (fun ds => .bool (mostB (a0 ds)))
abbrev sp_are_so_many (K : Fg) : Sp := detSp K 3 (fun ds => ∃ x lo hi, ds = [x, .int lo, .int hi] ∧ smD x = true) (fun ds => .bool (numsB (toI (a1 ds)) (toI (a2 ds)) (a0 ds)))
abbrev sp_are_terms (K : Fg) : Sp := detSp K 1 (fun ds => smD (a0 ds) = true) (fun ds => .bool (numsB 1 100 (a0 ds)))
abbrev sp_is_round (K : Fg) : Sp := detSp K 1 (fun ds => smD (a0 ds) = true) (fun ds => .bool (numsB 1 20 (a0 ds)))
abbrev sp_are_steps (K : Fg) : Sp := detSp K 1 (fun ds => smD (a0 ds) = true) (fun ds => .bool (stepsB (a0 ds)))
abbrev sp_are_two (K : Fg) : Sp := detSp K 2 (fun ds => ∃ x n, ds = [x, .int n] ∧ smD x = true) (fun ds => .bool (twoB (toI (a1 ds)) (a0 ds)))
abbrev sp_are_four (K : Fg) : Sp := detSp K 1 (fun ds => smD (a0 ds) = true) (fun ds => .bool (twoB 2 (a0 ds)))
abbrev sp_are_eight (K : Fg) : Sp := detSp K 1 (fun ds => smD (a0 ds) = true) (fun ds => .bool (twoB 4 (a0 ds)))
def toS : D → Str
  | .str s => s
  | _ => ""
abbrev sp_fits (K : Fg) : Sp := detSp K 2 (fun ds => ∃ k x, ds = [.str k, x] ∧ (getT k kindT).isSome = true ∧ smD x = true) (fun ds => .bool (kindB (toS (a0 ds)) (a1 ds)))
abbrev sp_is_plan_row (K : Fg) : Sp := detSp K 1 (fun ds => smD (a0 ds) = true) (fun ds => .bool (rowB (a0 ds)))
abbrev sp_are_rows (K : Fg) : Sp := detSp K 1 (fun ds => True) (fun ds => .bool (match dItems (a0 ds) with | some xs => decide (xs.length ≤ 12) | none => false))
abbrev sp_is_plan (K : Fg) : Sp := detSp K 1 (fun ds => smD (a0 ds) = true) (fun ds => .bool (planB (a0 ds)))
abbrev fitsS (K : Fg) : List (Str × Sp) := [("is_name", sp_is_name K), ("is_manner", sp_is_manner K), ("is_short", sp_is_short K), ("is_most", sp_is_most K), ("are_terms", sp_are_terms K), ("is_round", sp_is_round K), ("are_steps", sp_are_steps K), ("are_four", sp_are_four K), ("are_eight", sp_are_eight K)]
theorem mem_zipW {α β γ : Type} {f : α → β → γ} {z : γ} : ∀ {xs : List α} {ys : List β}, z ∈ List.zipWith f xs ys → ∃ a, a ∈ xs ∧ ∃ b, b ∈ ys ∧ z = f a b
  | [], _, h => by simp at h
  | _ :: _, [], h => by simp at h
  | x :: xs, y :: ys, h => by
    rw [List.zipWith_cons_cons] at h
    rcases List.mem_cons.mp h with h | h
    · exact ⟨x, List.mem_cons_self, y, List.mem_cons_self, h⟩
    · obtain ⟨a, h1, b, h2, h3⟩ := mem_zipW h
      exact ⟨a, List.mem_cons_of_mem _ h1, b, List.mem_cons_of_mem _ h2, h3⟩
theorem getT_map {α β : Type} (f : α → β) (s : Str) : ∀ l : List (Str × α), getT s (l.map fun p => (p.1, f p.2)) = (getT s l).map f
  | [] => rfl
  | (k, d) :: r => by
    rw [List.map_cons]
    show (if k = s then some (f d) else getT s (r.map fun p => (p.1, f p.2))) = (if k = s then some d else getT s r).map f
    split
    · rfl
    · exact getT_map f s r
theorem getT_mem {α : Type} {s : Str} : ∀ {l : List (Str × α)} {x : α}, getT s l = some x → (s, x) ∈ l
  | (k, d) :: r, x, h => by
    have h : (if k = s then some d else getT s r) = some x := h
    split at h
    · next q => cases h; rw [← q]; exact List.mem_cons_self
    · exact List.mem_cons_of_mem _ (getT_mem h)
theorem shapes_eq (s : Str) : getT s shapesD = (getT s shapesT).map fun ks => PyData.tuple (ks.map PyData.str) := getT_map (fun ks : List Str => PyData.tuple (ks.map PyData.str)) s shapesT
theorem shapes_ok {s : Str} {ks : List Str} (h : getT s shapesT = some ks) : ks.length ≤ 6 ∧ ∀ k ∈ ks, (getT k kindT).isSome = true := by
  have := getT_mem h
  simp only [shapesT, List.mem_cons, List.not_mem_nil, or_false, Prod.mk.injEq] at this
  rcases this with ⟨_, rfl⟩ | ⟨_, rfl⟩ | ⟨_, rfl⟩ | ⟨_, rfl⟩ | ⟨_, rfl⟩ | ⟨_, rfl⟩ | ⟨_, rfl⟩ <;> exact ⟨by decide, by decide +kernel⟩
theorem inD_mn3 (s : Str) : inD (.str s) [.str "floor", .str "ceil", .str "near"] = mannerB (.str s) := by
  have er : ∀ a b : Str, eqF (.str a) (.str b) = decide (b = a) := fun a b => by
    show (a == b) = decide (b = a)
    by_cases h : a = b
    · rw [h, decide_eq_true rfl]; exact beq_self_eq_true b
    · rw [decide_eq_false (fun z => h z.symm)]; exact beq_eq_false_iff_ne.mpr h
  show ((eqF (.str "floor") (.str s)) || ((eqF (.str "ceil") (.str s)) || ((eqF (.str "near") (.str s)) || false))) = _
  rw [er, er, er]
  unfold mannerB mnOf
  dsimp only
  by_cases h1 : s = "floor"
  · rw [if_pos h1, decide_eq_true h1]; rfl
  · rw [if_neg h1, decide_eq_false h1]
    by_cases h2 : s = "ceil"
    · rw [if_pos h2, decide_eq_true h2]; rfl
    · rw [if_neg h2, decide_eq_false h2]
      by_cases h3 : s = "near"
      · rw [if_pos h3, decide_eq_true h3]; rfl
      · rw [if_neg h3, decide_eq_false h3]; rfl

abbrev sp_law_short (K : Fg) : Sp := detSp K 1 (fun _ => True) (fun ds => .bool (shortB (a0 ds)))
abbrev sp_law_called (K : Fg) : Sp := detSp K 1 (fun ds => smD (a0 ds) = true) (fun ds => .bool (nameB (a0 ds)))
abbrev sp_law_numbers (K : Fg) : Sp := detSp K 3 (fun ds => ∃ x lo hi, ds = [x, .int lo, .int hi] ∧ smD x = true) (fun ds => .bool (numsB (toI (a1 ds)) (toI (a2 ds)) (a0 ds)))
abbrev sp_law_word (K : Fg) : Sp := detSp K 1 (fun _ => True) (fun ds => .bool (mannerB (a0 ds)))
abbrev sp_law_most (K : Fg) : Sp := detSp K 1 (fun _ => True) (fun ds => .bool (mostB (a0 ds)))
abbrev sp_law_two_rows (K : Fg) : Sp := detSp K 2 (fun ds => ∃ x n, ds = [x, .int n] ∧ smD x = true) (fun ds => .bool (twoB (toI (a1 ds)) (a0 ds)))
abbrev sp_law_row_good (K : Fg) : Sp := detSp K 1 (fun ds => smD (a0 ds) = true) (fun ds => .bool (rowB (a0 ds)))
abbrev sp_law_plan_good (K : Fg) : Sp := detSp K 1 (fun ds => smD (a0 ds) = true) (fun ds => .bool (planB (a0 ds)))
theorem itn2 {b : Bool} {A B : Prop} (h1 : b = false → A) (h2 : b = true → B) : if (!b) = true then A else B := by cases b <;> first | exact h1 rfl | exact h2 rfl
abbrev sizesL : List (Str × Int) := [("row", 4), ("ruled", 6), ("fed", 3), ("surd", 5), ("one", 6), ("two", 7), ("root", 4)]
theorem sizes_eq (s : Str) : getT s sizesL = (getT s shapesT).map fun ks => ((ks.length + 1 : Nat) : Int) := getT_map (fun ks : List Str => ((ks.length + 1 : Nat) : Int)) s shapesT
theorem len0_empty {α : Type} (l : List α) : decide (l.length = 0) = l.isEmpty := by cases l <;> simp
theorem only_filter2 (t : Str) (p : D → Bool) (hp : ∀ c : Nat, p (.str ⟨#[c]⟩) = !decide (c ∈ letters.cps.toList)) : decide (((signs t).filter p).length = 0) = onlyB t letters := by
  rw [len0_empty]
  refine only_filter t p fun c => ?_
  rw [hp]
  congr 1
  by_cases h : c ∈ letters.cps.toList
  · have := (letter_iff c).mp h
    rw [decide_eq_true h, decide_eq_true this.1, decide_eq_true this.2]; rfl
  · rw [decide_eq_false h]
    by_cases h1 : 97 ≤ c
    · have : ¬ c ≤ 122 := fun z => h ((letter_iff c).mpr ⟨h1, z⟩)
      rw [decide_eq_false this, Bool.and_false]
    · rw [decide_eq_false h1]; rfl
theorem filter_nil_all {α : Type} (p : α → Bool) (xs : List α) : decide ((xs.filter fun x => !p x).length = 0) = xs.all p := by
  induction xs with
  | nil => rfl
  | cons x r ih =>
    rw [List.all_cons]
    cases h : p x with
    | true => rw [List.filter_cons_of_neg (by rw [h]; simp), ih]; rfl
    | false => rw [List.filter_cons_of_pos (by rw [h]; rfl)]; rfl

abbrev sp_law_size (K : Fg) : Sp := puSp K 0 (fun _ => True) (fun _ => 3) (fun _ d => ∃ n : Nat, d = .int n ∧ n ≤ 12)
abbrev sp_law_four (K : Fg) : Sp := puSp K 0 (fun _ => True) (fun _ => 4) (fun _ d => ∃ a b c e : Int, d = .tuple [.tuple [.int a, .int b], .tuple [.int c, .int e]] ∧ a.natAbs ≤ 10 ∧ b.natAbs ≤ 10 ∧ c.natAbs ≤ 10 ∧ e.natAbs ≤ 10)
def eights : List D := [.tuple [.tuple [.int 0, .int 1, .int 1, .int 0], .tuple [.int 0, .int 0, .int 0, .int 1]], .tuple [.tuple [.int 0, .int 1, .int (-1), .int 0], .tuple [.int 0, .int 0, .int 0, .int 1]], .tuple [.tuple [.int 1, .int 0, .int 0, .int 0], .tuple [.int 0, .int 0, .int 0, .int 1]],
  .tuple [.tuple [.int 0, .int 1, .int 0, .int 0], .tuple [.int 0, .int 0, .int 1, .int 0]], .tuple [.tuple [.int 2, .int 1, .int 0, .int 3], .tuple [.int 1, .int 0, .int 0, .int 2]], .tuple [.tuple [.int 1, .int 2, .int 3, .int 4], .tuple [.int 0, .int 1, .int 1, .int 1]]]
abbrev sp_law_eight (K : Fg) : Sp := puSp K 0 (fun _ => True) (fun _ => 1) (fun _ d => d ∈ eights)

def poolOf : Mn → List Int
  | .fl => [1, 1, 2, 3, 40]
  | .ce => [2, 2, 3, 4, 50]
  | .ne => [3, 3, 4, 5, 60]
theorem pool_le (k : Mn) : ∀ g ∈ poolOf k, g.natAbs ≤ 60 := by cases k <;> decide
abbrev poolL : List (Str × List Int) := [("floor", [1, 1, 2, 3, 40]), ("ceil", [2, 2, 3, 4, 50]), ("near", [3, 3, 4, 5, 60])]
theorem dIx_pick {α : Type} {f : α → D} {ns : List α} {r : Int} (r0 : 0 ≤ r) (r1 : r < (ns.map f).length) : ∃ p, p ∈ ns ∧ dIx (.list (ns.map f)) r = some (f p) := by
  rw [List.length_map] at r1
  obtain ⟨j, rfl⟩ : ∃ j : Nat, r = (j : Int) := ⟨r.toNat, (Int.toNat_of_nonneg r0).symm⟩
  have hj : j < ns.length := by omega
  refine ⟨ns[j], List.getElem_mem hj, dIx_at (xs := ns.map f) rfl ?_⟩
  rw [List.getElem?_map, List.getElem?_eq_getElem hj]; rfl
theorem eights_ok {d : D} (h : d ∈ eights) : twoB 4 d = true ∧ ElS d := by
  have e4 : ∀ a b c e : Int, a.natAbs ≤ 9 → b.natAbs ≤ 9 → c.natAbs ≤ 9 → e.natAbs ≤ 9 → numsB 4 4 (.tuple [.int a, .int b, .int c, .int e]) = true ∧ smD (.tuple [.int a, .int b, .int c, .int e]) = true ∧ Shx 400 1 (.tuple [.int a, .int b, .int c, .int e]) := fun a b c e ha hb hc he => by
    have hh : ∀ t ∈ [a, b, c, e], t.natAbs < 10 ^ 29 := fun t ht => by
      simp only [List.mem_cons, List.not_mem_nil, or_false] at ht
      rcases ht with rfl | rfl | rfl | rfl <;> omega
    have := el_ints (ts := [a, b, c, e]) (by show 4 ≤ 90; decide) (fun t ht => by have := hh t ht; omega)
    refine ⟨numsB_ints (ts := [a, b, c, e]) (by show (4 : Int) ≤ 4; decide) (by show (4 : Int) ≤ 4; decide) hh, this.1, (rx_tup (b := 30) (k := 0) (xs := [.int a, .int b, .int c, .int e]) fun x hx => ?_).mono (by show 4 * 32 + 3 ≤ 400; decide) (by decide)⟩
    simp only [List.mem_cons, List.not_mem_nil, or_false] at hx
    rcases hx with rfl | rfl | rfl | rfl <;> exact rx_int (k := 29) (by omega)
  have key : ∀ x y : D, (numsB 4 4 x = true ∧ smD x = true ∧ Shx 400 1 x) → (numsB 4 4 y = true ∧ smD y = true ∧ Shx 400 1 y) → twoB 4 (.tuple [x, y]) = true ∧ ElS (.tuple [x, y]) := fun x y hx hy => by
    refine ⟨?_, el_tup2 hx.2.1 hx.2.2 hy.2.1 hy.2.2⟩
    show (decide ([x, y].length = 2) && (numsB 4 4 x && (numsB 4 4 y && true))) = true
    rw [hx.1, hy.1]; rfl
  simp only [eights, List.mem_cons, List.not_mem_nil, or_false] at h
  rcases h with rfl | rfl | rfl | rfl | rfl | rfl <;> exact key _ _ (e4 _ _ _ _ (by decide) (by decide) (by decide) (by decide)) (e4 _ _ _ _ (by decide) (by decide) (by decide) (by decide))
theorem four_ok {a b c e : Int} (ha : a.natAbs ≤ 10) (hb : b.natAbs ≤ 10) (hc : c.natAbs ≤ 10) (he : e.natAbs ≤ 10) : twoB 2 (.tuple [.tuple [.int a, .int b], .tuple [.int c, .int e]]) = true ∧ ElS (.tuple [.tuple [.int a, .int b], .tuple [.int c, .int e]]) := by
  have e2 : ∀ a b : Int, a.natAbs ≤ 10 → b.natAbs ≤ 10 → numsB 2 2 (.tuple [.int a, .int b]) = true ∧ smD (.tuple [.int a, .int b]) = true ∧ Shx 400 1 (.tuple [.int a, .int b]) := fun a b ha hb => by
    have hh : ∀ t ∈ [a, b], t.natAbs < 10 ^ 29 := fun t ht => by
      simp only [List.mem_cons, List.not_mem_nil, or_false] at ht
      rcases ht with rfl | rfl <;> omega
    have := el_ints (ts := [a, b]) (by show 2 ≤ 90; decide) (fun t ht => by have := hh t ht; omega)
    refine ⟨numsB_ints (ts := [a, b]) (by show (2 : Int) ≤ 2; decide) (by show (2 : Int) ≤ 2; decide) hh, this.1, (rx_tup (b := 30) (k := 0) (xs := [.int a, .int b]) fun x hx => ?_).mono (by show 2 * 32 + 3 ≤ 400; decide) (by decide)⟩
    simp only [List.mem_cons, List.not_mem_nil, or_false] at hx
    rcases hx with rfl | rfl <;> exact rx_int (k := 29) (by omega)
  obtain ⟨h1, h2, h3⟩ := e2 a b ha hb
  obtain ⟨h4, h5, h6⟩ := e2 c e hc he
  refine ⟨?_, el_tup2 h2 h3 h5 h6⟩
  show (decide (2 = 2) && (numsB 2 2 _ && (numsB 2 2 _ && true))) = true
  rw [h1, h4]; rfl
abbrev sp_law_legalP (K : Fg) : Sp := puSp K 1 (fun ds => ∃ k : Mn, ds = [.str k.word]) (fun _ => 70) (fun _ d => ∃ ts : List Int, d = .tuple (ts.map .int) ∧ 1 ≤ ts.length ∧ ts.length ≤ 31 ∧ ∀ t ∈ ts, t.natAbs ≤ 60)
abbrev sp_law_machine (K : Fg) : Sp := puSp K 2 (fun ds => ∃ (s : Str) (ns : List (Str × Nat)), ds = [.str s, .list (ns.map fun p => .tuple [.str p.1, .int p.2])] ∧ NmL s ∧ ns ≠ [] ∧ ns.length ≤ 12 ∧ ∀ p ∈ ns, NmL p.1 ∧ p.2 ≤ 3) (fun _ => 12)
  (fun _ d => ∃ (row : D) (n : Nat), d = .tuple [row, .int n] ∧ rowB row = true ∧ RowS 7 row ∧ n ≤ 4)

abbrev sp_law_source (K : Fg) : Sp := puSp K 1 (fun ds => ∃ s, ds = [.str s] ∧ NmL s) (fun _ => 80) (fun _ d => rowB d = true ∧ RowS 7 d)

abbrev sp_law_names (K : Fg) : Sp := puSp K 1 (fun ds => ∃ n : Nat, ds = [.int n] ∧ n ≤ 12) (fun _ => 12) (fun ds d => ∃ (n : Nat) (ns : List Str), ds = [.int n] ∧ d = .list (ns.map .str) ∧ ns.length = n ∧ ∀ s ∈ ns, NmL s)
abbrev wordsL : List Str := ["row", "ruled", "fed", "surd", "one", "two", "root", "floor", "none", "ask", "load", "plan"]
theorem words_nm : ∀ s ∈ wordsL, NmL s := by
  have : wordsL.all (fun s => nameB (.str s)) = true := by decide +kernel
  rw [List.all_eq_true] at this
  exact fun s hs => NmL.of (this s hs)

abbrev sp_law_plan (K : Fg) : Sp := puSp K 1 (fun ds => ∃ n : Nat, ds = [.int n] ∧ n ≤ 12) (fun _ => 1200) (fun ds d => ∃ (n : Nat) (rows : List D), ds = [.int n] ∧ d = .list rows ∧ rows.length = n ∧ ∀ r ∈ rows, rowB r = true ∧ RowS 7 r)
def prD (p : Str × Nat) : D := .tuple [.str p.1, .int (p.2 : Nat)]
def lt4 : D → Bool
  | .tuple [_, .int i] => decide (i < 4)
  | _ => false
theorem filt_pr (ds : List (Str × Nat)) : (ds.map prD).filter lt4 = (ds.filter fun p => decide (p.2 < 4)).map prD := by
  rw [List.filter_map]
  congr 1
  apply List.filter_congr
  intro p _
  show decide ((p.2 : Int) < 4) = decide (p.2 < 4)
  exact decide_eq_decide.mpr (by omega)

abbrev sp_law_may_spoil (K : Fg) : Sp := detSp K 1 (fun ds => smD (a0 ds) = true) (fun ds => .bool (maySp (a0 ds)))
abbrev sp_law_spoilt_row (K : Fg) : Sp := puSp K 1 (fun ds => ∃ n xs, ds = [.tuple xs] ∧ xs ≠ [] ∧ xs.length ≤ n ∧ n ≤ 8 ∧ ∀ x ∈ xs, ElS x) (fun _ => 3) (fun ds d => ∀ n xs, ds = [.tuple xs] → xs.length ≤ n → n ≤ 8 → (∀ x ∈ xs, ElS x) → RowS (n + 1) d)
abbrev sp_law_spoilt (K : Fg) : Sp := puSp K 1 (fun ds => ∃ n rows, ds = [.list rows] ∧ rows.length ≤ n + 5 ∧ n ≤ 8 ∧ (∀ r ∈ rows, RowS n r) ∧ rows.all spB = true) (fun _ => 6) (fun ds d => ∀ n rows, ds = [.list rows] → rows.length ≤ n + 5 → n ≤ 8 → (∀ r ∈ rows, RowS n r) → PlS (n + 1) d)
def odds74 : List D := [.none, .bool true, .int 7, .str "", .str "Floor", .str "none", .tuple [], .tuple [.int 1], .list [.int 1, .int 2], .int 0, .int 65, .int (10 ^ 30 - 1), .dict [], .str "sevenyz"] ++ [.tuple [.bool true], .tuple [.int 1, .none], .tuple [.str "1"], .tuple [.tuple [.int 1, .int 2], .tuple [.int 3, .int 4]], .tuple [.tuple [.int 1, .int 2], .tuple [.int 3]], rgD 1 22, .str "near", .str "x"]
theorem el_tupS {xs : List D} (h : xs.length ≤ 4) (he : ∀ x ∈ xs, smD x = true ∧ Shx 900 1 x) : ElS (.tuple xs) := by
  refine ⟨sm_tup' (by omega) fun x hx => (he x hx).1, (rx_tup (b := 900) (k := 1) fun x hx => (he x hx).2).mono ?_ (by decide)⟩
  have : xs.length * (900 + 2) ≤ 4 * 902 := Nat.mul_le_mul_right _ h
  omega
theorem el_lstS {xs : List D} (h : xs.length ≤ 4) (he : ∀ x ∈ xs, smD x = true ∧ Shx 900 1 x) : ElS (.list xs) := by
  refine ⟨sm_list' (by omega) fun x hx => (he x hx).1, (rx_list (b := 900) (k := 1) fun x hx => (he x hx).2).mono ?_ (by decide)⟩
  have : xs.length * (900 + 2) ≤ 4 * 902 := Nat.mul_le_mul_right _ h
  omega
theorem e1_int {i : Int} (h : i.natAbs < 10 ^ 40) : smD (.int i) = true ∧ Shx 900 1 (.int i) := ⟨sm_int h, (rx_int h).mono (by decide) (by decide)⟩
theorem e1_str {s : Str} (h : s.length ≤ 40) (ho : okT s) : smD (.str s) = true ∧ Shx 900 1 (.str s) := ⟨sm_strI (by omega) ho, (shx_txt h ho).mono (by decide) (by decide)⟩
theorem e1_none : smD .none = true ∧ Shx 900 1 .none := ⟨rfl, ⟨rfl, by decide, by decide⟩⟩
theorem e1_bl (b : Bool) : smD (.bool b) = true ∧ Shx 900 1 (.bool b) := ⟨rfl, ⟨rfl, by cases b <;> decide, by cases b <;> decide⟩⟩
theorem e1_ints {ts : List Int} (h : ts.length ≤ 4) (h2 : ∀ t ∈ ts, t.natAbs < 10 ^ 40) : smD (.tuple (ts.map .int)) = true ∧ Shx 900 1 (.tuple (ts.map .int)) := by
  refine ⟨(el_ints (by omega) h2).1, (rx_tup (b := 41) (k := 0) fun x hx => ?_).mono ?_ (by decide)⟩
  · obtain ⟨t, ht, rfl⟩ := List.mem_map.mp hx
    exact rx_int (h2 t ht)
  · rw [List.length_map]; omega
theorem cutD_one (xs : List D) (a : Nat) (h : a + 1 ≤ xs.length) : Tq.cutD xs (some (a : Int)) (some ((a : Int) + 1)) = (xs.drop a).take 1 := by
  have e : ((a : Int) + 1) = ((a + 1 : Nat) : Int) := by omega
  unfold Tq.cutD
  rw [e, HT.sIx_nat, HT.sIx_nat, Nat.min_eq_left h, Nat.min_eq_left (show a ≤ xs.length by omega), show a + 1 - a = 1 by omega]
theorem cut_one_len (xs : List D) (a : Nat) : (Tq.cutD xs (some (a : Int)) (some ((a : Int) + 1))).length ≤ 1 := by
  have e : ((a : Int) + 1) = ((a + 1 : Nat) : Int) := by omega
  unfold Tq.cutD
  rw [e, HT.sIx_nat, HT.sIx_nat, List.length_take, List.length_drop]
  omega
def odds74b : List D := [.none, .int 7, .str "", .str "row a floor 1", .dict [], .tuple [.str "row", .str "a", .str "floor", .tuple [.int 1]], .bool true, .list [.list []]]
theorem odds74b_pl {n : Nat} (hn : n ≤ 9) : ∀ d ∈ odds74b, PlS n d := by
  intro d hd
  have l0 : ∀ {p : D → Prop}, ∀ x ∈ ([] : List D), p x := fun x h => absurd h (by simp)
  have lc : ∀ {p : D → Prop} {a : D} {l : List D}, p a → (∀ x ∈ l, p x) → ∀ x ∈ a :: l, p x := fun h1 h2 => List.forall_mem_cons.mpr ⟨h1, h2⟩
  simp only [odds74b, List.mem_cons, List.not_mem_nil, or_false] at hd
  rcases hd with rfl | rfl | rfl | rfl | rfl | rfl | rfl | rfl
  · exact plS_row (m := 0) (rowS_el el_none (fun _ z => by cases z)) (fun _ z => by cases z)
  · exact plS_row (m := 0) (rowS_el (el_int (by decide)) (fun _ z => by cases z)) (fun _ z => by cases z)
  · exact plS_row (m := 0) (rowS_el (el_str (by decide) (okT_ofS _)) (fun _ z => by cases z)) (fun _ z => by cases z)
  · exact plS_row (m := 0) (rowS_el (el_str (by decide) (okT_ofS _)) (fun _ z => by cases z)) (fun _ z => by cases z)
  · exact plS_row (m := 0) (rowS_el el_dic (fun _ z => by cases z)) (fun _ z => by cases z)
  · exact plS_row (m := 4) (rowS_tup (n := 4) (by decide) (by decide) (lc (el_str (by decide) (okT_ofS _)) (lc (el_str (by decide) (okT_ofS _)) (lc (el_str (by decide) (okT_ofS _)) (lc (el_ints (ts := [1]) (by decide) (by decide)) l0))))) (fun _ z => by cases z)
  · exact plS_row (m := 0) (rowS_el (el_bl true) (fun _ z => by cases z)) (fun _ z => by cases z)
  · exact plS_lst (by show 1 ≤ n + 5; omega) (by omega) (lc (rowS_lst (m := 0) (by decide) (by decide) l0) l0)
theorem odds74_el : ∀ d ∈ odds74, ElS d := by
  intro d hd
  have l0 : ∀ {p : D → Prop}, ∀ x ∈ ([] : List D), p x := fun x h => absurd h (by simp)
  have lc : ∀ {p : D → Prop} {a : D} {l : List D}, p a → (∀ x ∈ l, p x) → ∀ x ∈ a :: l, p x := fun h1 h2 => List.forall_mem_cons.mpr ⟨h1, h2⟩
  unfold odds74 at hd
  simp only [List.cons_append, List.nil_append, List.mem_cons, List.not_mem_nil, or_false] at hd
  rcases hd with rfl | rfl | rfl | rfl | rfl | rfl | rfl | rfl | rfl | rfl | rfl | rfl | rfl | rfl | rfl | rfl | rfl | rfl | rfl | rfl | rfl | rfl
  · exact el_none
  · exact el_bl _
  · exact el_int (by decide)
  · exact el_str (by decide) (okT_ofS _)
  · exact el_str (by decide) (okT_ofS _)
  · exact el_str (by decide) (okT_ofS _)
  · exact el_tupS (by decide) l0
  · exact el_tupS (by decide) (lc (e1_int (by decide)) l0)
  · exact el_lstS (by decide) (lc (e1_int (by decide)) (lc (e1_int (by decide)) l0))
  · exact el_int (by decide)
  · exact el_int (by decide)
  · exact el_int (by decide)
  · exact el_dic
  · exact el_str (by decide) (okT_ofS _)
  · exact el_tupS (by decide) (lc (e1_bl true) l0)
  · exact el_tupS (by decide) (lc (e1_int (by decide)) (lc e1_none l0))
  · exact el_tupS (by decide) (lc (e1_str (by decide) (okT_ofS _)) l0)
  · exact el_tupS (by decide) (lc (e1_ints (ts := [1, 2]) (by decide) (by decide)) (lc (e1_ints (ts := [3, 4]) (by decide) (by decide)) l0))
  · exact el_tupS (by decide) (lc (e1_ints (ts := [1, 2]) (by decide) (by decide)) (lc (e1_ints (ts := [3]) (by decide) (by decide)) l0))
  · exact el_ints (ts := [1, 2, 3, 4, 5, 6, 7, 8, 9, 10, 11, 12, 13, 14, 15, 16, 17, 18, 19, 20, 21]) (by decide) (by decide)
  · exact el_str (by decide) (okT_ofS _)
  · exact el_str (by decide) (okT_ofS _)

section
variable {P : Program} {w : World} {K : Fg} {mg : Str → Option Value} {base : Heap}
abbrev s_has_only : Stmt := topS 5
abbrev N_has_only : List Str := ["text", "signs", "sign"]
theorem sc_has_only : FnScope N_has_only ["text", "signs"] (defScope s_has_only) := ⟨rfl, rfl, rfl, by decide +kernel, rfl, by decide +kernel, by decide +kernel⟩
theorem ok_has_only (d : Df K mg "has_only" s_has_only ["text", "signs"]) (b_all : mg "all" = none) : Cal P w K mg base 1 "has_only" ["text", "signs"] (sp_has_only K) := by
  refine d.ok sc_has_only (pureSp_len rfl) (fun f cdv A outer s H vs Q E hr hgu h => ?_)
  refine ⟨_, (pss_one (ps_ret (pe_callB (allK K rfl) (by rfl) b_all (by decide +kernel) (pa_cons (pe_lc (own := [("sign", 2)]) (g := gName 2) rfl sc_has_only.nd (pi_str (pv 0)) (blkOk_by (own := [("sign", 2)]) (N := N_has_only) (sc := defScope s_has_only) (by decide +kernel)) (fun _ _ _ _ _ => (pg_name (i := 2) sc_has_only.nd rfl (Or.inl rfl))) (fun _ _ _ _ _ => pts_nil) (fun _ _ _ _ _ => (pe_cmpR op_in_sign (pv 2) (pv 1) (by rfl)))) pa_nil)))), ?_⟩
  try dsimp only [cxOf]
  refine pure_body h (fun ds hl hp e hn hz => ?_)
  obtain ⟨t, s, rfl, ht⟩ := hp
  show wS _ _ [some (.d (.str t)), some (.d (.str s)), none] _
  repeat' walk_at "dq"
  refine wE_lcF (y' := [some (.d (.str t)), some (.d (.str s)), none]) (fun _ => true) (fun d => .bool (match d with | .str ⟨#[c]⟩ => decide (c ∈ s.cps.toList) | _ => false)) rfl ?_
  repeat' walk_at "dq"
  refine ⟨by rw [signs_len]; exact ht, fun x hx => ?_, ?_⟩
  · obtain ⟨c, hc, rfl⟩ := List.mem_map.mp hx
    repeat' walk_at "dq"
    intro _
    repeat' (first | walk_at "dq" | rfl)
  · refine ⟨_, rfl, wD_nil ⟨t.cps.toList.map (fun c => decide (c ∈ s.cps.toList)), ?_, hz _ _ ?_⟩⟩
    · rw [List.filter_eq_self.mpr (fun _ _ => rfl)]
      unfold signs
      rw [List.map_map, List.map_map]
      rfl
    · show PyData.bool _ = .bool (onlyB t s)
      unfold onlyB
      rw [List.all_map]
      rfl
abbrev s_is_name : Stmt := topS 6
abbrev N_is_name : List Str := ["thing"]
theorem sc_is_name : FnScope N_is_name ["thing"] (defScope s_is_name) := ⟨rfl, rfl, rfl, by decide +kernel, rfl, by decide +kernel, by decide +kernel⟩
theorem ok_is_name (d : Df K mg "is_name" s_is_name ["thing"]) (c_has_only : Cal P w K mg base 1 "has_only" ["text", "signs"] (sp_has_only K)) (b_isinstance : mg "isinstance" = none) (b_len : mg "len" = none) (b_str : mg "str" = none) {t_LETTERS : Tok} (m_LETTERS : mg "LETTERS" = some (.str "abcdefghijklmnopqrstuvwxyz" t_LETTERS)) {t_LONGEST : Tok} (m_LONGEST : mg "LONGEST" = some (.int 6 t_LONGEST)) : Cal P w K mg base 2 "is_name" ["thing"] (sp_is_name K) := by
  refine d.ok sc_is_name (pureSp_len rfl) (fun f cdv A outer s H vs Q E hr hgu h => ?_)
  refine ⟨_, (pss_one (ps_ret (pe_and (pe_callB (isiK K) (by rfl) b_isinstance (by decide +kernel) (pa_cons (pv 0) (pa_cons (pe_bltn (v := .ty "str") (by rfl) b_str (by decide +kernel) rfl) pa_nil))) (pe_and (pe_chain op_le op_le pe_int (pe_callB (lenK K) (by rfl) b_len (by decide +kernel) (pa_cons (pv 0) pa_nil)) (pe_glob (v := .int 6) (by rfl) m_LONGEST ⟨_, rfl⟩)) (pe_one (pe_cal c_has_only (hr.mono (by decide)) hgu (by rfl) (pa_cons (pv 0) (pa_cons (pe_glob (v := .str "abcdefghijklmnopqrstuvwxyz") (by rfl) m_LETTERS ⟨_, rfl⟩) pa_nil)))))))), ?_⟩
  try dsimp only [cxOf]
  refine pure_body h (fun ds hl hp e hn hz => ?_)
  obtain ⟨x, rfl, hx⟩ := hp
  show wS _ _ [some (.d x)] _
  repeat' walk_at "dq"
  refine ite2 (fun b => ?_) (fun b => ?_)
  · obtain ⟨t, rfl⟩ : ∃ t, x = .str t := by
      rw [isT_str] at b
      cases x <;> first | exact ⟨_, rfl⟩ | cases b
    have hx : t.length ≤ sizeLine := hx.1
    have hL : dLen (.str t) = some t.length := if_pos hx
    repeat' walk_at "dq"
    refine ⟨_, _, rfl, hL, _, _, rfl, rfl, ?_⟩
    refine ite2 (fun e1 => ?_) (fun e1 => ?_)
    · repeat' walk_at "dq"
      refine ite2 (fun e2 => ?_) (fun e2 => ?_)
      · repeat' walk_at "dq"
        · refine hz _ _ ?_
          show PyData.bool (onlyB t letters) = .bool (decide (1 ≤ t.length) && decide (t.length ≤ 6) && onlyB t letters)
          rw [decide_eq_true (show 1 ≤ t.length by have := of_decide_eq_true e1; omega), decide_eq_true (show t.length ≤ 6 by have := of_decide_eq_true e2; omega)]; rfl
        · exact hx
      · refine hz _ _ ?_
        show PyData.bool false = .bool (decide (1 ≤ t.length) && decide (t.length ≤ 6) && onlyB t letters)
        rw [decide_eq_false (show ¬ t.length ≤ 6 by intro z; exact e2 (decide_eq_true (by omega))), Bool.and_false]; rfl
    · repeat' walk_at "dq"
      refine hz _ _ ?_
      show PyData.bool false = .bool (decide (1 ≤ t.length) && decide (t.length ≤ 6) && onlyB t letters)
      rw [decide_eq_false (show ¬ 1 ≤ t.length by intro z; exact e1 (decide_eq_true (by omega)))]; rfl
  · refine hz _ _ ?_
    show PyData.bool false = .bool (nameB x)
    rw [isT_str] at b
    cases x <;> first | rfl | exact absurd rfl b
abbrev s_is_manner : Stmt := topS 12
abbrev N_is_manner : List Str := ["thing"]
theorem sc_is_manner : FnScope N_is_manner ["thing"] (defScope s_is_manner) := ⟨rfl, rfl, rfl, by decide +kernel, rfl, by decide +kernel, by decide +kernel⟩
theorem ok_is_manner (d : Df K mg "is_manner" s_is_manner ["thing"]) (b_isinstance : mg "isinstance" = none) (b_str : mg "str" = none) {a_MANNERS : Addr} (m_MANNERS : Tq.GD K mg "MANNERS" a_MANNERS (PyData.tuple [(.str "floor"), (.str "ceil"), (.str "near")])) : Cal P w K mg base 1 "is_manner" ["thing"] (sp_is_manner K) := by
  refine d.ok sc_is_manner (pureSp_len rfl) (fun f cdv A outer s H vs Q E hr hgu h => ?_)
  refine ⟨_, (pss_one (ps_ret (pe_and (pe_callB (isiK K) (by rfl) b_isinstance (by decide +kernel) (pa_cons (pv 0) (pa_cons (pe_bltn (v := .ty "str") (by rfl) b_str (by decide +kernel) rfl) pa_nil))) (pe_one (pe_cmpR (inK K) (pv 0) (pe_glob (v := .ref a_MANNERS) (by rfl) m_MANNERS.m rfl) (by rfl)))))), ?_⟩
  try dsimp only [cxOf]
  refine pure_body h (fun ds hl hp e hn hz => ?_)
  obtain ⟨x, rfl⟩ : ∃ x, ds = [x] := len1 hl
  show wS _ _ [some (.d x)] _
  repeat' walk_at "dq"
  rw [isT_str]
  cases x with
  | str s =>
    repeat' walk_at "dq"
    refine wE_inT (wE_var rfl (wE_gd m_MANNERS.r ⟨_, _, rfl, .inl rfl, rfl, rfl, ?_⟩))
    refine hz _ _ ?_
    show PyData.bool (inD (.str s) [.str "floor", .str "ceil", .str "near"]) = .bool (mannerB (.str s))
    rw [inD_mn3]
  | _ => exact hz _ _ rfl
abbrev s_is_number : Stmt := topS 3
abbrev N_is_number : List Str := ["thing"]
theorem sc_is_number : FnScope N_is_number ["thing"] (defScope s_is_number) := ⟨rfl, rfl, rfl, by decide +kernel, rfl, by decide +kernel, by decide +kernel⟩
theorem ok_is_number (d : Df K mg "is_number" s_is_number ["thing"]) (b_bool : mg "bool" = none) (b_int : mg "int" = none) (b_isinstance : mg "isinstance" = none) : Cal P w K mg base 1 "is_number" ["thing"] (sp_is_number K) := by
  refine d.ok sc_is_number (pureSp_len rfl) (fun f cdv A outer s H vs Q E hr hgu h => ?_)
  refine ⟨_, (pss_one (ps_ret (pe_and (pe_callB (isiK K) (by rfl) b_isinstance (by decide +kernel) (pa_cons (pv 0) (pa_cons (pe_bltn (v := .ty "int") (by rfl) b_int (by decide +kernel) rfl) pa_nil))) (pe_one (pe_not (pe_callB (isiK K) (by rfl) b_isinstance (by decide +kernel) (pa_cons (pv 0) (pa_cons (pe_bltn (v := .ty "bool") (by rfl) b_bool (by decide +kernel) rfl) pa_nil)))))))), ?_⟩
  try dsimp only [cxOf]
  refine pure_body h (fun ds hl hp e hn hz => ?_)
  obtain ⟨x, rfl⟩ : ∃ x, ds = [x] := len1 hl
  show wS _ _ [some (.d x)] _
  repeat' walk_at "dq"
  refine ite2 (fun b => ?_) (fun b => ?_)
  · repeat' walk_at "dq"
    refine hz _ _ ?_
    show PyData.bool (!isT "bool" x) = .bool (isNum x)
    rw [isNum_eq, b]; rfl
  · refine hz _ _ ?_
    show PyData.bool false = .bool (isNum x)
    rw [isNum_eq, Bool.eq_false_iff.mpr b]; rfl
abbrev s_is_whole : Stmt := topS 4
abbrev N_is_whole : List Str := ["thing", "low", "high"]
theorem sc_is_whole : FnScope N_is_whole ["thing", "low", "high"] (defScope s_is_whole) := ⟨rfl, rfl, rfl, by decide +kernel, rfl, by decide +kernel, by decide +kernel⟩
theorem ok_is_whole (d : Df K mg "is_whole" s_is_whole ["thing", "low", "high"]) (c_is_number : Cal P w K mg base 1 "is_number" ["thing"] (sp_is_number K)) : Cal P w K mg base 2 "is_whole" ["thing", "low", "high"] (sp_is_whole K) := by
  refine d.ok sc_is_whole (pureSp_len rfl) (fun f cdv A outer s H vs Q E hr hgu h => ?_)
  refine ⟨_, (pss_one (ps_ret (pe_and (pe_cal c_is_number (hr.mono (by decide)) hgu (by rfl) (pa_cons (pv 0) pa_nil)) (pe_one (pe_chain op_le op_le (pv 1) (pv 0) (pv 2)))))), ?_⟩
  try dsimp only [cxOf]
  refine pure_body h (fun ds hl hp e hn hz => ?_)
  obtain ⟨x, lo, hi, rfl⟩ := hp
  show wS _ _ [some (.d x), some (.d (.int lo)), some (.d (.int hi))] _
  repeat' walk_at "dq"
  refine ite2 (fun b => ?_) (fun b => ?_)
  · obtain ⟨i, rfl⟩ : ∃ i, x = .int i := by cases x <;> first | exact ⟨_, rfl⟩ | cases b
    repeat' walk_at "dq"
    refine ite2 (fun b1 => ?_) (fun b1 => ?_)
    · repeat' walk_at "dq"
      refine hz _ _ ?_
      show PyData.bool (decide (i ≤ hi)) = .bool (decide (lo ≤ i) && decide (i ≤ hi))
      rw [b1]; rfl
    · refine hz _ _ ?_
      show PyData.bool false = .bool (decide (lo ≤ i) && decide (i ≤ hi))
      rw [Bool.eq_false_iff.mpr b1]; rfl
  · refine hz _ _ ?_
    show PyData.bool false = .bool (wholeB x lo hi)
    cases x <;> first | rfl | exact absurd rfl b
abbrev s_is_short : Stmt := topS 20
abbrev N_is_short : List Str := ["thing"]
theorem sc_is_short : FnScope N_is_short ["thing"] (defScope s_is_short) := ⟨rfl, rfl, rfl, by decide +kernel, rfl, by decide +kernel, by decide +kernel⟩
theorem ok_is_short (d : Df K mg "is_short" s_is_short ["thing"]) (c_is_whole : Cal P w K mg base 2 "is_whole" ["thing", "low", "high"] (sp_is_whole K)) {t_GREATEST : Tok} (m_GREATEST : mg "GREATEST" = some (.int 999999999999999999999999999999 t_GREATEST)) : Cal P w K mg base 3 "is_short" ["thing"] (sp_is_short K) := by
  refine d.ok sc_is_short (pureSp_len rfl) (fun f cdv A outer s H vs Q E hr hgu h => ?_)
  refine ⟨_, (pss_one (ps_ret (pe_cal c_is_whole (hr.mono (by decide)) hgu (by rfl) (pa_cons (pv 0) (pa_cons (pe_op op_sub pe_int (pe_glob (v := .int 999999999999999999999999999999) (by rfl) m_GREATEST ⟨_, rfl⟩)) (pa_cons (pe_glob (v := .int 999999999999999999999999999999) (by rfl) m_GREATEST ⟨_, rfl⟩) pa_nil)))))), ?_⟩
  try dsimp only [cxOf]
  refine pure_body h (fun ds hl hp e hn hz => ?_)
  obtain ⟨x, rfl⟩ : ∃ x, ds = [x] := len1 hl
  show wS _ _ [some (.d x)] _
  repeat' walk_at "dq"
  exact hz _ _ rfl
abbrev s_is_most : Stmt := topS 21
abbrev N_is_most : List Str := ["thing"]
theorem sc_is_most : FnScope N_is_most ["thing"] (defScope s_is_most) := ⟨rfl, rfl, rfl, by decide +kernel, rfl, by decide +kernel, by decide +kernel⟩
theorem ok_is_most (d : Df K mg "is_most" s_is_most ["thing"]) (c_is_whole : Cal P w K mg base 2 "is_whole" ["thing", "low", "high"] (sp_is_whole K)) {t_MOST_MOST : Tok} (m_MOST_MOST : mg "MOST_MOST" = some (.int 64 t_MOST_MOST)) : Cal P w K mg base 3 "is_most" ["thing"] (sp_is_most K) := by
  refine d.ok sc_is_most (pureSp_len rfl) (fun f cdv A outer s H vs Q E hr hgu h => ?_)
  refine ⟨_, (pss_one (ps_ret (pe_cal c_is_whole (hr.mono (by decide)) hgu (by rfl) (pa_cons (pv 0) (pa_cons pe_int (pa_cons (pe_glob (v := .int 64) (by rfl) m_MOST_MOST ⟨_, rfl⟩) pa_nil)))))), ?_⟩
  try dsimp only [cxOf]
  refine pure_body h (fun ds hl hp e hn hz => ?_)
  obtain ⟨x, rfl⟩ : ∃ x, ds = [x] := len1 hl
  show wS _ _ [some (.d x)] _
  repeat' walk_at "dq"
  exact hz _ _ rfl
abbrev s_are_so_many : Stmt := topS 22
abbrev N_are_so_many : List Str := ["thing", "low", "high", "one"]
theorem sc_are_so_many : FnScope N_are_so_many ["thing", "low", "high"] (defScope s_are_so_many) := ⟨rfl, rfl, rfl, by decide +kernel, rfl, by decide +kernel, by decide +kernel⟩
theorem ok_are_so_many (d : Df K mg "are_so_many" s_are_so_many ["thing", "low", "high"]) (c_is_short : Cal P w K mg base 3 "is_short" ["thing"] (sp_is_short K)) (b_all : mg "all" = none) (b_isinstance : mg "isinstance" = none) (b_len : mg "len" = none) (b_tuple : mg "tuple" = none) : Cal P w K mg base 4 "are_so_many" ["thing", "low", "high"] (sp_are_so_many K) := by
  refine d.ok sc_are_so_many (pureSp_len rfl) (fun f cdv A outer s H vs Q E hr hgu h => ?_)
  refine ⟨_, (pss_one (ps_ret (pe_and (pe_callB (isiK K) (by rfl) b_isinstance (by decide +kernel) (pa_cons (pv 0) (pa_cons (pe_bltn (v := .ty "tuple") (by rfl) b_tuple (by decide +kernel) rfl) pa_nil))) (pe_and (pe_chain op_le op_le (pv 1) (pe_callB (lenK K) (by rfl) b_len (by decide +kernel) (pa_cons (pv 0) pa_nil)) (pv 2)) (pe_one (pe_callB (allK K rfl) (by rfl) b_all (by decide +kernel) (pa_cons (pe_lc (own := [("one", 3)]) (g := gName 3) rfl sc_are_so_many.nd (piA K (pv 0)) (blkOk_by (own := [("one", 3)]) (N := N_are_so_many) (sc := defScope s_are_so_many) (by decide +kernel)) (fun _ _ _ _ _ => (pg_name (i := 3) sc_are_so_many.nd rfl (Or.inl rfl))) (fun _ _ _ _ _ => pts_nil) (fun _ _ _ _ _ => (pe_cal c_is_short (hr.mono (by decide)) hgu (by rfl) (pa_cons (pv 3) pa_nil)))) pa_nil))))))), ?_⟩
  try dsimp only [cxOf]
  refine pure_body h (fun ds hl hp e hn hz => ?_)
  obtain ⟨x, lo, hi, rfl, hx⟩ := hp
  show wS _ _ [some (.d x), some (.d (.int lo)), some (.d (.int hi)), none] _
  repeat' walk_at "dq"
  rw [isT_tuple]
  cases x with
  | tuple xs =>
    obtain ⟨xl, _⟩ := sm_tup hx
    repeat' walk_at "dq"
    refine ite2 (fun c1 => ?_) (fun c1 => ?_)
    · repeat' walk_at "dq"
      refine ite2 (fun c2 => ?_) (fun c2 => ?_)
      · repeat' walk_at "dq"
        refine wE_lcF (y' := [some (.d (.tuple xs)), some (.d (.int lo)), some (.d (.int hi)), none]) (fun _ => true) (fun d => .bool (shortB d)) rfl ?_
        repeat' walk_at "dq"
        refine ⟨sz_small (by omega), fun x hx => ?_, ?_⟩
        · repeat' walk_at "dq"
          intro _
          repeat' (first | walk_at "dq" | exact ⟨rfl, rfl⟩ | rfl)
        · refine ⟨_, rfl, wD_nil ⟨xs.map shortB, by rw [List.filter_eq_self.mpr (fun _ _ => rfl), List.map_map]; rfl, ?_⟩⟩
          refine hz _ _ ?_
          show PyData.bool ((xs.map shortB).all id) = .bool (decide (lo ≤ xs.length) && decide ((xs.length : Int) ≤ hi) && xs.all shortB)
          rw [c1, c2, List.all_map]; rfl
      · repeat' walk_at "dq"
        refine hz _ _ ?_
        show PyData.bool false = .bool (decide (lo ≤ xs.length) && decide ((xs.length : Int) ≤ hi) && xs.all shortB)
        rw [Bool.eq_false_iff.mpr c2, Bool.and_false]; rfl
    · repeat' walk_at "dq"
      refine hz _ _ ?_
      show PyData.bool false = .bool (decide (lo ≤ xs.length) && decide ((xs.length : Int) ≤ hi) && xs.all shortB)
      rw [Bool.eq_false_iff.mpr c1]; rfl
  | _ => repeat' (first | walk_at "dq" | (exact hz _ _ rfl))
abbrev s_are_terms : Stmt := topS 23
abbrev N_are_terms : List Str := ["thing"]
theorem sc_are_terms : FnScope N_are_terms ["thing"] (defScope s_are_terms) := ⟨rfl, rfl, rfl, by decide +kernel, rfl, by decide +kernel, by decide +kernel⟩
theorem ok_are_terms (d : Df K mg "are_terms" s_are_terms ["thing"]) (c_are_so_many : Cal P w K mg base 4 "are_so_many" ["thing", "low", "high"] (sp_are_so_many K)) {t_MOST_TERMS : Tok} (m_MOST_TERMS : mg "MOST_TERMS" = some (.int 100 t_MOST_TERMS)) : Cal P w K mg base 5 "are_terms" ["thing"] (sp_are_terms K) := by
  refine d.ok sc_are_terms (pureSp_len rfl) (fun f cdv A outer s H vs Q E hr hgu h => ?_)
  refine ⟨_, (pss_one (ps_ret (pe_cal c_are_so_many (hr.mono (by decide)) hgu (by rfl) (pa_cons (pv 0) (pa_cons pe_int (pa_cons (pe_glob (v := .int 100) (by rfl) m_MOST_TERMS ⟨_, rfl⟩) pa_nil)))))), ?_⟩
  try dsimp only [cxOf]
  refine pure_body h (fun ds hl hp e hn hz => ?_)
  obtain ⟨x, rfl⟩ : ∃ x, ds = [x] := len1 hl
  show wS _ _ [some (.d x)] _
  repeat' walk_at "dq"
  exact ⟨⟨rfl, _, _, _, rfl, hp⟩, hz _ _ rfl⟩
abbrev s_is_round : Stmt := topS 24
abbrev N_is_round : List Str := ["thing"]
theorem sc_is_round : FnScope N_is_round ["thing"] (defScope s_is_round) := ⟨rfl, rfl, rfl, by decide +kernel, rfl, by decide +kernel, by decide +kernel⟩
theorem ok_is_round (d : Df K mg "is_round" s_is_round ["thing"]) (c_are_so_many : Cal P w K mg base 4 "are_so_many" ["thing", "low", "high"] (sp_are_so_many K)) {t_MOST_ROUND : Tok} (m_MOST_ROUND : mg "MOST_ROUND" = some (.int 20 t_MOST_ROUND)) : Cal P w K mg base 5 "is_round" ["thing"] (sp_is_round K) := by
  refine d.ok sc_is_round (pureSp_len rfl) (fun f cdv A outer s H vs Q E hr hgu h => ?_)
  refine ⟨_, (pss_one (ps_ret (pe_cal c_are_so_many (hr.mono (by decide)) hgu (by rfl) (pa_cons (pv 0) (pa_cons pe_int (pa_cons (pe_glob (v := .int 20) (by rfl) m_MOST_ROUND ⟨_, rfl⟩) pa_nil)))))), ?_⟩
  try dsimp only [cxOf]
  refine pure_body h (fun ds hl hp e hn hz => ?_)
  obtain ⟨x, rfl⟩ : ∃ x, ds = [x] := len1 hl
  show wS _ _ [some (.d x)] _
  repeat' walk_at "dq"
  exact ⟨⟨rfl, _, _, _, rfl, hp⟩, hz _ _ rfl⟩
abbrev s_are_steps : Stmt := topS 25
abbrev N_are_steps : List Str := ["thing"]
theorem sc_are_steps : FnScope N_are_steps ["thing"] (defScope s_are_steps) := ⟨rfl, rfl, rfl, by decide +kernel, rfl, by decide +kernel, by decide +kernel⟩
theorem ok_are_steps (d : Df K mg "are_steps" s_are_steps ["thing"]) (c_is_round : Cal P w K mg base 5 "is_round" ["thing"] (sp_is_round K)) : Cal P w K mg base 6 "are_steps" ["thing"] (sp_are_steps K) := by
  refine d.ok sc_are_steps (pureSp_len rfl) (fun f cdv A outer s H vs Q E hr hgu h => ?_)
  refine ⟨_, (pss_one (ps_ret (pe_or (pe_cmpR op_isN (pv 0) pe_non (nomark _)) (pe_one (pe_cal c_is_round (hr.mono (by decide)) hgu (by rfl) (pa_cons (pv 0) pa_nil)))))), ?_⟩
  try dsimp only [cxOf]
  refine pure_body h (fun ds hl hp e hn hz => ?_)
  obtain ⟨x, rfl⟩ : ∃ x, ds = [x] := len1 hl
  show wS _ _ [some (.d x)] _
  repeat' walk_at "dq"
  cases x with
  | none => repeat' (first | walk_at "dq" | (exact hz _ _ rfl))
  | _ => repeat' (first | walk_at "dq" | exact ⟨⟨rfl, hp⟩, hz _ _ rfl⟩ | (exact hz _ _ rfl))
abbrev s_are_two : Stmt := topS 26
abbrev N_are_two : List Str := ["thing", "many", "one"]
theorem sc_are_two : FnScope N_are_two ["thing", "many"] (defScope s_are_two) := ⟨rfl, rfl, rfl, by decide +kernel, rfl, by decide +kernel, by decide +kernel⟩
theorem ok_are_two (d : Df K mg "are_two" s_are_two ["thing", "many"]) (c_are_so_many : Cal P w K mg base 4 "are_so_many" ["thing", "low", "high"] (sp_are_so_many K)) (b_all : mg "all" = none) (b_isinstance : mg "isinstance" = none) (b_len : mg "len" = none) (b_tuple : mg "tuple" = none) : Cal P w K mg base 5 "are_two" ["thing", "many"] (sp_are_two K) := by
  refine d.ok sc_are_two (pureSp_len rfl) (fun f cdv A outer s H vs Q E hr hgu h => ?_)
  refine ⟨_, (pss_one (ps_ret (pe_and (pe_callB (isiK K) (by rfl) b_isinstance (by decide +kernel) (pa_cons (pv 0) (pa_cons (pe_bltn (v := .ty "tuple") (by rfl) b_tuple (by decide +kernel) rfl) pa_nil))) (pe_and (pe_cmpR op_eq (pe_callB (lenK K) (by rfl) b_len (by decide +kernel) (pa_cons (pv 0) pa_nil)) pe_int (nomark _)) (pe_one (pe_callB (allK K rfl) (by rfl) b_all (by decide +kernel) (pa_cons (pe_lc (own := [("one", 2)]) (g := gName 2) rfl sc_are_two.nd (piA K (pv 0)) (blkOk_by (own := [("one", 2)]) (N := N_are_two) (sc := defScope s_are_two) (by decide +kernel)) (fun _ _ _ _ _ => (pg_name (i := 2) sc_are_two.nd rfl (Or.inl rfl))) (fun _ _ _ _ _ => pts_nil) (fun _ _ _ _ _ => (pe_cal c_are_so_many (hr.mono (by decide)) hgu (by rfl) (pa_cons (pv 2) (pa_cons (pv 1) (pa_cons (pv 1) pa_nil)))))) pa_nil))))))), ?_⟩
  try dsimp only [cxOf]
  refine pure_body h (fun ds hl hp e hn hz => ?_)
  obtain ⟨x, n, rfl, hx⟩ := hp
  show wS _ _ [some (.d x), some (.d (.int n)), none] _
  repeat' walk_at "dq"
  rw [isT_tuple]
  cases x with
  | tuple xs =>
    obtain ⟨xl, xe⟩ := sm_tup hx
    repeat' walk_at "dq"
    refine ite2 (fun c1 => ?_) (fun c1 => ?_)
    · repeat' walk_at "dq"
      refine wE_lcF (y' := [some (.d (.tuple xs)), some (.d (.int n)), none]) (fun _ => true) (fun d => .bool (numsB n n d)) rfl ?_
      repeat' walk_at "dq"
      refine ⟨sz_small (by omega), fun x hx => ?_, ?_⟩
      · repeat' walk_at "dq"
        intro _
        repeat' (first | walk_at "dq" | exact ⟨⟨rfl, _, _, _, rfl, xe x hx⟩, rfl, rfl⟩ | exact ⟨rfl, rfl⟩ | rfl)
      · refine ⟨_, rfl, wD_nil ⟨xs.map (numsB n n), by rw [List.filter_eq_self.mpr (fun _ _ => rfl), List.map_map]; rfl, ?_⟩⟩
        refine hz _ _ ?_
        have c1 := of_decide_eq_true c1
        show PyData.bool ((xs.map (numsB n n)).all id) = .bool (decide (xs.length = 2) && xs.all (numsB n n))
        rw [decide_eq_true (show xs.length = 2 by omega), List.all_map]; rfl
    · have c1 := of_decide_eq_false (Bool.eq_false_iff.mpr c1)
      refine hz _ _ ?_
      show PyData.bool false = .bool (decide (xs.length = 2) && xs.all (numsB n n))
      rw [decide_eq_false (show ¬ xs.length = 2 by omega)]; rfl
  | _ => repeat' (first | walk_at "dq" | (exact hz _ _ rfl))
abbrev s_are_four : Stmt := topS 27
abbrev N_are_four : List Str := ["thing"]
theorem sc_are_four : FnScope N_are_four ["thing"] (defScope s_are_four) := ⟨rfl, rfl, rfl, by decide +kernel, rfl, by decide +kernel, by decide +kernel⟩
theorem ok_are_four (d : Df K mg "are_four" s_are_four ["thing"]) (c_are_two : Cal P w K mg base 5 "are_two" ["thing", "many"] (sp_are_two K)) : Cal P w K mg base 6 "are_four" ["thing"] (sp_are_four K) := by
  refine d.ok sc_are_four (pureSp_len rfl) (fun f cdv A outer s H vs Q E hr hgu h => ?_)
  refine ⟨_, (pss_one (ps_ret (pe_cal c_are_two (hr.mono (by decide)) hgu (by rfl) (pa_cons (pv 0) (pa_cons pe_int pa_nil))))), ?_⟩
  try dsimp only [cxOf]
  refine pure_body h (fun ds hl hp e hn hz => ?_)
  obtain ⟨x, rfl⟩ : ∃ x, ds = [x] := len1 hl
  show wS _ _ [some (.d x)] _
  repeat' walk_at "dq"
  all_goals (first | exact hp | exact hz _ _ rfl)
abbrev s_are_eight : Stmt := topS 28
abbrev N_are_eight : List Str := ["thing"]
theorem sc_are_eight : FnScope N_are_eight ["thing"] (defScope s_are_eight) := ⟨rfl, rfl, rfl, by decide +kernel, rfl, by decide +kernel, by decide +kernel⟩
theorem ok_are_eight (d : Df K mg "are_eight" s_are_eight ["thing"]) (c_are_two : Cal P w K mg base 5 "are_two" ["thing", "many"] (sp_are_two K)) : Cal P w K mg base 6 "are_eight" ["thing"] (sp_are_eight K) := by
  refine d.ok sc_are_eight (pureSp_len rfl) (fun f cdv A outer s H vs Q E hr hgu h => ?_)
  refine ⟨_, (pss_one (ps_ret (pe_cal c_are_two (hr.mono (by decide)) hgu (by rfl) (pa_cons (pv 0) (pa_cons pe_int pa_nil))))), ?_⟩
  try dsimp only [cxOf]
  refine pure_body h (fun ds hl hp e hn hz => ?_)
  obtain ⟨x, rfl⟩ : ∃ x, ds = [x] := len1 hl
  show wS _ _ [some (.d x)] _
  repeat' walk_at "dq"
  all_goals (first | exact hp | exact hz _ _ rfl)
abbrev s_are_rows : Stmt := topS 32
abbrev N_are_rows : List Str := ["thing"]
theorem sc_are_rows : FnScope N_are_rows ["thing"] (defScope s_are_rows) := ⟨rfl, rfl, rfl, by decide +kernel, rfl, by decide +kernel, by decide +kernel⟩
theorem ok_are_rows (d : Df K mg "are_rows" s_are_rows ["thing"]) (b_isinstance : mg "isinstance" = none) (b_len : mg "len" = none) (b_list : mg "list" = none) (b_tuple : mg "tuple" = none) {t_MOST_ROWS : Tok} (m_MOST_ROWS : mg "MOST_ROWS" = some (.int 12 t_MOST_ROWS)) : Cal P w K mg base 1 "are_rows" ["thing"] (sp_are_rows K) := by
  refine d.ok sc_are_rows (pureSp_len rfl) (fun f cdv A outer s H vs Q E hr hgu h => ?_)
  refine ⟨_, (pss_one (ps_ret (pe_and (pe_callB (isiTK K) (by rfl) b_isinstance (by decide +kernel) (pa_cons (pv 0) (pa_cons (pe_tup (pa_cons (pe_bltn (v := .ty "list") (by rfl) b_list (by decide +kernel) rfl) (pa_cons (pe_bltn (v := .ty "tuple") (by rfl) b_tuple (by decide +kernel) rfl) pa_nil))) pa_nil))) (pe_one (pe_cmpR op_le (pe_callB (lenK K) (by rfl) b_len (by decide +kernel) (pa_cons (pv 0) pa_nil)) (pe_glob (v := .int 12) (by rfl) m_MOST_ROWS ⟨_, rfl⟩) (nomark _)))))), ?_⟩
  try dsimp only [cxOf]
  refine pure_body h (fun ds hl hp e hn hz => ?_)
  obtain ⟨x, rfl⟩ : ∃ x, ds = [x] := len1 hl
  show wS _ _ [some (.d x)] _
  repeat' walk_at "dq"
  rw [isT_list, isT_tuple]
  cases x with
  | list xs => repeat' (first | walk_at "dq" | (exact hz _ _ (congrArg PyData.bool (decide_eq_decide.mpr (by show ((xs.length : Nat) : Int) ≤ 12 ↔ xs.length ≤ 12; omega)))))
  | tuple xs => repeat' (first | walk_at "dq" | (exact hz _ _ (congrArg PyData.bool (decide_eq_decide.mpr (by show ((xs.length : Nat) : Int) ≤ 12 ↔ xs.length ≤ 12; omega)))))
  | _ => repeat' (first | walk_at "dq" | (exact hz _ _ rfl))
abbrev s_law_cell : Stmt := topS 35
abbrev N_law_cell : List Str := ["_law_script", "_law_k"]
theorem sc_law_cell : FnScope N_law_cell ["_law_script", "_law_k"] (defScope s_law_cell) := ⟨rfl, rfl, rfl, by decide +kernel, rfl, by decide +kernel, by decide +kernel⟩
theorem ok_law_cell (d : Df K mg "_law_cell" s_law_cell ["_law_script", "_law_k"]) (b_len : mg "len" = none) : Cal P w K mg base 1 "_law_cell" ["_law_script", "_law_k"] (sp_law_cell K) := by
  refine d.ok sc_law_cell (pureSp_len rfl) (fun f cdv A outer s H vs Q E hr hgu h => ?_)
  refine ⟨_, (pss_cons (ps_if (pt_cmpR op_lt (pv 1) (pe_callB (lenK K) (by rfl) b_len (by decide +kernel) (pa_cons (pv 0) pa_nil)) (nomark _)) (pss_one (ps_ret (pe_ix (ixK K) (pv 0) (pv 1) (fun _ _ => rfl)))) pss_nil)
    (pss_one (ps_ret (pe_op op_add (pe_op op_mulW pe_int (pv 1)) pe_int)))), ?_⟩
  try dsimp only [cxOf]
  refine pure_body h (fun ds hl hp e hn hz => ?_)
  obtain ⟨ns, k, rfl, k0, k1⟩ := hp
  show wS _ _ [some (.d (.list (ns.map PyData.int))), some (.d (.int k))] _
  repeat' walk_at "dq"
  refine ite2 (fun b => ?_) (fun b => ?_)
  · repeat' walk_at "dq"
    obtain ⟨x, hx, hm⟩ := atI_mem (xs := ns.map PyData.int) k0 (of_decide_eq_true b)
    refine ⟨_, _, x, rfl, rfl, hx, hz _ _ ?_⟩
    obtain ⟨n, _, rfl⟩ := List.mem_map.mp hm
    exact ⟨n, rfl⟩
  · repeat' walk_at "dq"
    exact hz _ _ ⟨_, rfl⟩
abbrev s_law_purse : Stmt := topS 36
abbrev N_law_purse : List Str := ["_law_cell_here"]
theorem sc_law_purse : FnScope N_law_purse ["_law_cell_here"] (defScope s_law_purse) := ⟨rfl, rfl, rfl, by decide +kernel, rfl, by decide +kernel, by decide +kernel⟩
theorem ok_law_purse (d : Df K mg "_law_purse" s_law_purse ["_law_cell_here"]) (b_max : mg "max" = none) : Cal P w K mg base 1 "_law_purse" ["_law_cell_here"] (sp_law_purse K) := by
  refine d.ok sc_law_purse (fun vs H Q E z => by obtain ⟨c, rfl, _⟩ := z; rfl) (fun f cdv A outer s H vs Q E hr hgu h => ?_)
  exact ⟨t_purse3, (pss_one (ps_ret (pe_lst (pa_cons (pe_callB (call_max2 rfl) (by rfl) b_max (by decide +kernel) (pa_cons pe_int (pa_cons (pe_op op_sub (pv 0) (pe_op op_pow pe_int pe_int)) pa_nil))) (pa_cons (pe_op op_mod (pv 0) pe_int) (pa_cons pe_int pa_nil)))))), purse3_read rfl h⟩
abbrev s_law_take : Stmt := topS 37
abbrev N_law_take : List Str := ["_law_purse_here", "_law_below", "_law_digit", "_law_left", "_law_right"]
theorem sc_law_take : FnScope N_law_take ["_law_purse_here", "_law_below"] (defScope s_law_take) := ⟨rfl, rfl, rfl, by decide +kernel, rfl, by decide +kernel, by decide +kernel⟩
theorem ok_law_take (d : Df K mg "_law_take" s_law_take ["_law_purse_here", "_law_below"])  : Cal P w K mg base 1 "_law_take" ["_law_purse_here", "_law_below"] (sp_law_take K) := by
  refine d.ok sc_law_take (puSp_len rfl) (fun f cdv A outer s H vs Q E hr hgu h => ?_)
  exact ⟨t_take3 K _ _ _, (pss_cons (ps_if (pt_cmpR op_gt (pe_ix (ixK K) (pv 0) pe_int (fun _ _ => rfl)) pe_int (nomark _)) (pss_cons (ps_set (i := 2) sc_law_take.nd rfl (Or.inl rfl) (pe_op op_mod (pe_ix (ixK K) (pv 0) pe_int (fun _ _ => rfl)) (pv 1)))
    (pss_cons (ps_asg (pe_op op_fdivW (pe_ix (ixK K) (pv 0) pe_int (fun _ _ => rfl)) (pv 1)) (pg_sub (pv 0) pe_int set_list))
    (pss_one (ps_ret (pv 2))))) pss_nil)
    (pss_cons (ps_asg (pe_op op_add (pe_ix (ixK K) (pv 0) pe_int (fun _ _ => rfl)) pe_int) (pg_sub (pv 0) pe_int set_list))
    (pss_cons (ps_set (i := 3) sc_law_take.nd rfl (Or.inl rfl) (pe_op op_mod (pe_op op_pow (pe_op op_add (pe_op op_add (pe_ix (ixK K) (pv 0) pe_int (fun _ _ => rfl)) (pe_op op_mul pe_int (pe_ix (ixK K) (pv 0) pe_int (fun _ _ => rfl)))) pe_int) pe_int) pe_int))
    (pss_cons (ps_set (i := 4) sc_law_take.nd rfl (Or.inl rfl) (pe_op op_mod (pe_op op_pow (pe_op op_add (pe_op op_mul (pe_ix (ixK K) (pv 0) pe_int (fun _ _ => rfl)) (pe_ix (ixK K) (pv 0) pe_int (fun _ _ => rfl))) pe_int) pe_int) pe_int))
    (pss_one (ps_ret (pe_op op_mod (pe_op op_fdivW (pe_op op_add (pv 3) (pe_op op_mul pe_int (pv 4))) pe_int) (pv 1)))))))), take3_read (by decide) (by decide) (by decide) rfl h⟩
end
end Tq
namespace Ux
open PySem PySem.Spec PyProof.Rows L2 Tq
open PySem.NumText (digitsVal AllDigits)
local macro_rules | `(tactic| walk_at "lessu") => `(tactic| (refine less_mk' ?_ ?_; (repeat' (first | exact less_nil | refine less_none ?_ | refine less_some ?_)); (first | exact List.nil_sublist _ | exact List.Sublist.refl _ | decide)))
local macro_rules | `(tactic| walk_at "bd") => `(tactic| (repeat' (first | assumption | with_reducible apply Bd.mul | with_reducible apply Bd.add | with_reducible apply Bd.sub | with_reducible apply Bd.neg | (with_reducible apply Bd.div; rotate_left; omega) | exact Bd.lit (k := 40) (by first | decide | omega))))
local macro_rules | `(tactic| walk_at "uyEtCall") => `(tactic| (first
  | (with_reducible show wE _ (tCall (odSp _ _ _ _ _) _ _ _) _ _; refine wE_od ?_)
  | (with_reducible show wE _ (tCall (miSp _ _ _ _) _ _ _) _ _; refine wE_mi ?_)
  | (with_reducible show wE _ (tCall (mSp _ _ _ _) _ _ _) _ _; refine wE_m ?_)
  | (with_reducible show wE _ (tCall (vSp _) _ _ _) _ _; refine wE_veryA ?_)
  | (with_reducible show wE _ (tCall (oSp _ _ _) _ _ _) _ _; first | refine wE_odd (j := 0) rfl rfl (by omega) ?_ | refine wE_odd (j := 1) rfl rfl (by omega) ?_ | refine wE_odd (j := 2) rfl rfl (by omega) ?_)
  | (with_reducible show wE _ (tCall (oaSp _ _ _ _ _) _ _ _) _ _; refine wE_oa ?_)
  | (with_reducible show wE _ (tCall (anSp _ _ _ _) _ _ _) _ _; refine wE_an ?_)
  | (with_reducible show wE _ (tCall (spTake _) _ _ _) _ _; first | refine wE_take (j := 0) rfl rfl ?_ | refine wE_take (j := 1) rfl rfl ?_ | refine wE_take (j := 2) rfl rfl ?_ | refine wE_take (j := 3) rfl rfl ?_)
  | (with_reducible show wE _ (tCall (asSp _ _ _ _) _ _ _) _ _; refine wE_as ?_)
  | (with_reducible show wE _ (tCall (detSp _ _ _ _) _ _ _) _ _; refine wE_det ?_)
  | (with_reducible show wE _ (tCall (pureSp _ _ _ _) _ _ _) _ _; refine wE_pure ?_)
  | (with_reducible show wE _ (tCall (puSp _ _ _ _ _) _ _ _) _ _; first | refine wE_pu (j := 0) rfl rfl ?_ | refine wE_pu (j := 1) rfl rfl ?_ | refine wE_pu (j := 2) rfl rfl ?_ | refine wE_pu (j := 3) rfl rfl ?_)
  | (with_reducible show wE _ (tCall spPurse _ _ _) _ _; refine wE_purse ?_)
  | fail))
local macro_rules | `(tactic| walk_at "uyEtCallS") => `(tactic| (first
  | (with_reducible show wE _ (tCallS (bxSp _ _ _ _ _) _ _) _ _; refine wE_bx ?_)
  | (with_reducible show wE _ (tCallS (xnSp _ _ _ _ _) _ _) _ _; refine wE_xn ?_)
  | (with_reducible show wE _ (tCallS _ _ _) _ _; refine wE_x ?_)
  | fail))
local macro_rules | `(tactic| walk_at "uyEtOp") => `(tactic| (first
  | (with_reducible show wE _ (tOp (rNotInTD _) _ _) _ _; refine wE_notInTD ?_)
  | (with_reducible show wE _ (tOp (rNeNil _) _ _) _ _; refine wE_neNil ?_)
  | (with_reducible show wE _ (tOp (rIxL _) _ _) _ _; refine wE_ixL ?_)
  | (with_reducible show wE _ (tOp (rGIn _ _ _) _ _) _ _; refine wE_gin ?_)
  | (with_reducible show wE _ (tOp (rGIx (RDat _) _ _) _ _) _ _; refine wE_gixD ?_)
  | (with_reducible show wE _ (tOp (rGIx (RFn _) _ _) _ _) _ _; refine wE_gixF ?_)
  | (with_reducible show wE _ (tOp rRepS _ _) _ _; refine wE_repS ?_)
  | (with_reducible show wE _ (tOp (rEqNilT _) _ _) _ _; refine wE_eqNilT ?_)
  | (with_reducible show wE _ (tOp (rCatA _) _ _) _ _; refine wE_catA ?_)
  | (with_reducible show wE _ (tOp (fun _ _ _ _ => ∃ _ _, _) _ _) _ _; with_reducible refine wE_notInSign ?_)
  | (with_reducible show wE _ (tOp (rEqNil _) _ _) _ _; refine wE_eqNil ?_)
  | (with_reducible show wE _ (tOp rIsB _ _) _ _; refine wE_isB ?_)
  | (with_reducible show wE _ (tOp rNotB _ _) _ _; refine wE_notB ?_)
  | (with_reducible show wE _ (tOp (rCatL _) _ _) _ _; refine xE_catL ?_)
  | (with_reducible show wE _ (tOp (rI0 _) _ _) _ _; first | with_reducible refine wE_add ?_ | with_reducible refine wE_sub ?_ | with_reducible refine wE_lt ?_ | with_reducible refine wE_le ?_ | with_reducible refine wE_gt ?_ | with_reducible refine wE_ge ?_)
  | (with_reducible show wE _ (tOp (rI CPow _) (tC _) (tC _)) _ _; refine wE_powN ?_)
  | (with_reducible show wE _ (tOp (rI _ _) _ _) _ _; first | with_reducible refine wE_mod ?_ | with_reducible refine wE_fdivW ?_ | with_reducible refine wE_mulW ?_ | with_reducible refine wE_pow ?_ | with_reducible refine wE_fdivZ ?_ | with_reducible refine wE_modN ?_ | with_reducible refine wE_mul ?_)
  | (with_reducible show wE _ (tOp (rIxZ _) _ _) _ _; refine xE_ixZ ?_)
  | (with_reducible show wE _ (tOp (rCatZ _) _ _) _ _; refine xE_catZ ?_)
  | (with_reducible show wE _ (tOp (rIx _) _ _) _ _; refine wE_ix ?_)
  | (with_reducible show wE _ (tOp (rCatG _) _ _) _ _; refine wE_catG ?_)
  | (with_reducible show wE _ (tOp rEq _ _) _ _; refine wE_eqS ?_)
  | (with_reducible show wE _ (tOp rNe _ _) _ _; refine wE_neS ?_)
  | (with_reducible show wE _ (tOp (rEqD _) _ _) _ _; refine wE_eqD ?_)
  | (with_reducible show wE _ (tOp (rNeD _) _ _) _ _; refine wE_neD ?_)
  | (with_reducible show wE _ (tOp _ _ _) _ _; first | with_reducible refine wE_addS ?_ | with_reducible refine wE_isN ?_ | with_reducible refine wE_notN ?_ | with_reducible refine wE_inSign ?_ | with_reducible refine wE_ltS ?_ | with_reducible refine wE_leS ?_)
  | fail))
local macro_rules | `(tactic| walk_at "uyEtSl") => `(tactic| (first
  | (with_reducible show wE _ (tSl (rSlNew _) _ _ _) _ _; refine xE_slN ?_)
  | (with_reducible show wE _ (tSl (rSlLab _) _ _ _) _ _; refine xE_slL ?_)
  | (with_reducible show wE _ (tSl _ _ _ _) _ _; refine wE_sl ?_)
  | fail))
local macro_rules | `(tactic| walk_at "uyEtC") => `(tactic| (first
  | (with_reducible show wE _ (tC (.int _)) _ _; refine wE_int ?_)
  | (with_reducible show wE _ (tC (.str _)) _ _; refine wE_str ?_)
  | (with_reducible show wE _ (tC (.bl _)) _ _; refine wE_bl ?_)
  | (with_reducible show wE _ (tC .non) _ _; refine wE_non ?_)
  | fail))
local macro_rules | `(tactic| walk_at "uyEtCB") => `(tactic| (first
  | (with_reducible show wE _ (tCB (rReprX _) _) _ _; refine wE_reprX ?_)
  | (with_reducible show wE _ (tCB (rIsi _) _) _ _; refine wE_isi ?_)
  | (with_reducible show wE _ (tCB (rIsiT _) _) _ _; refine wE_isi2 ?_)
  | (with_reducible show wE _ (tCB (rAll _) _) _ _; refine wE_all ?_)
  | (with_reducible show wE _ (tCB (rAny _) _) _ _; refine wE_any ?_)
  | (with_reducible show wE _ (tCB (rSum _) _) _ _; refine wE_sum ?_)
  | (with_reducible show wE _ (tCB (rRepr _) _) _ _; refine wE_reprS ?_)
  | (with_reducible show wE _ (tCB _ _) _ _; first | refine wE_len ?_ | with_reducible refine wE_abs ?_ | with_reducible refine wE_max2 ?_ | with_reducible refine wE_min2 ?_ | with_reducible refine wE_strI ?_ | with_reducible refine wE_intS ?_ | with_reducible refine wE_int1 ?_ | refine wE_listOf ?_ | refine wE_tupOf ?_)
  | fail))
local macro_rules | `(tactic| walk_at "uyE") => `(tactic| (first
  | (with_reducible show wE _ (tMk0 _) _ _; refine wE_mk0 ?_)
  | (with_reducible show wE _ (tMethU _ _ _ _ _) _ _; refine wE_meth ?_)
  | (with_reducible show wE _ (tCall _ _ _ _) _ _; walk_at "uyEtCall")
  | (with_reducible show wE _ (tCallS _ _ _) _ _; walk_at "uyEtCallS")
  | (with_reducible show wE _ (tOp _ _ _) _ _; walk_at "uyEtOp")
  | (with_reducible show wE _ (tListD _ _) _ _; refine xE_listD ?_)
  | (with_reducible show wE _ (tSl _ _ _ _) _ _; walk_at "uyEtSl")
  | (with_reducible show wE _ (tTupRg _) _ _; refine wE_tupRg ?_)
  | (with_reducible show wE _ (tVar _) _ _; refine wE_var rfl ?_)
  | (with_reducible show wE _ (tC _) _ _; walk_at "uyEtC")
  | (with_reducible show wE _ (tTupZ _) _ _; refine xE_tupZ ?_)
  | (with_reducible show wE _ (tLstZ _) _ _; refine xE_lstZ ?_)
  | (with_reducible show wE _ (tLstL _) _ _; refine xE_lstL ?_)
  | (with_reducible show wE _ tDNewL _ _; refine xE_dnewL ?_)
  | (with_reducible show wE _ (tDispL _) _ _; first | refine xE_dispS (by constructor) ?_ | refine xE_dispI (by constructor) ?_)
  | (with_reducible show wE _ (tIsX _ _ _ _ _ _ (tVar _)) _ _; refine wE_isX (by assumption) rfl rfl ?_)
  | (with_reducible show wE _ (tXf _ _ _ _ _ (tVar _)) _ _; first | refine wE_field rfl rfl ?_ | refine wE_found rfl rfl ⟨rfl, rfl⟩ ?_ | refine wE_found rfl rfl (Res.kz (by assumption)) ?_ | refine wE_found rfl rfl ?_ ?_)
  | (with_reducible show wE _ (tLenL _ _) _ _; refine xE_lenL ?_)
  | (with_reducible show wE _ (tListL _ _) _ _; refine xE_listL ?_)
  | (with_reducible show wE _ (tTupL _ _) _ _; refine xE_tupL ?_)
  | (with_reducible show wE _ (tCB _ _) _ _; walk_at "uyEtCB")
  | (with_reducible show wE _ (tReprRX _ _) _ _; refine xE_reprRX ?_)
  | (with_reducible show wE _ (tDisp _) _ _; first | refine wE_dispS (by constructor) ?_ | refine wE_dispI (by constructor) ?_)
  | (with_reducible show wE _ (tCallR (detSp _ _ _ _) _ _) _ _; refine xE_detR ?_)
  | (with_reducible show wE _ (tCallR (pureSp _ _ _ _) _ _) _ _; refine xE_pureR ?_)
  | (with_reducible show wE _ (tIsiR _ _) _ _; refine xE_isiR ?_)
  | (with_reducible show wE _ (tReprR _ _) _ _; refine xE_reprR ?_)
  | (with_reducible show wE _ (tUn _ _) _ _; refine wE_neg ?_)
  | (with_reducible show wE _ (tLst _) _ _; refine wE_lst ?_)
  | (with_reducible show wE _ (tTup _) _ _; refine wE_tup ?_)
  | (with_reducible show wE _ tDNewK _ _; refine wE_dnew ?_)
  | (with_reducible show wE _ (tChain _ _ _ _ _) _ _; first | with_reducible refine wE_chainI ?_ | with_reducible refine wE_chainS ?_)
  | (with_reducible show wE _ (tAndV _ _) _ _; refine wE_andV ?_)
  | (with_reducible show wE _ (tOrV _ _) _ _; refine wE_orV ?_)
  | (with_reducible show wE _ (tNotV _) _ _; refine wE_notV ?_)
  | (with_reducible show wE _ (tIf _ _ _) _ _; refine wE_if ?_)
  | (with_reducible show wE _ (tM1 _ _ _) _ _; first | with_reducible refine wE_starts ?_ | with_reducible refine wE_index ?_ | refine wE_join ?_)
  | fail))
local macro_rules | `(tactic| walk_at "uyStSeq") => `(tactic| (first
  | (with_reducible show wS _ (tSeq (tDrop (tBM _ _ rAppend (tVar _) _)) _) _ _; first | refine wS_seq (wS_app (j := 0) rfl rfl ?_) | refine wS_seq (wS_app (j := 1) rfl rfl ?_) | refine wS_seq (wS_app (j := 2) rfl rfl ?_) | refine wS_seq (wS_app (j := 3) rfl rfl ?_))
  | (with_reducible show wS _ (tSeq (tAsg _ (gName _)) _) _ _; refine wS_seqA ?_)
  | (with_reducible show wS _ (tSeq (tPar _ _ _) _) _ _; refine wS_seqP ?_)
  | (with_reducible show wS _ (tSeq (tIfS _ _ tNext) _) _ _; refine wS_seqI ?_)
  | (with_reducible show wS _ (tSeq _ _) _ _; refine wS_seq ?_)
  | fail))
local macro_rules | `(tactic| walk_at "uyS") => `(tactic| (first
  | (with_reducible show wS _ _ (S.set _ _ _) _; refine wS_norm (by simp only [S.set, List.set]; first | done | exact rfl) ?_)
  | (with_reducible show wS _ (tSeq _ _) _ _; walk_at "uyStSeq")
  | (with_reducible show wS _ (tDrop (tCall _ _ _ _)) _ _; refine wS_drop ?_)
  | (with_reducible show wS _ (tDrop (tCallS _ _ _)) _ _; refine wS_drop ?_)
  | (with_reducible show wS _ (tAsg _ (gName _)) _ _; refine wS_asg ?_)
  | (with_reducible show wS _ (tAsg _ _) _ _; refine wS_asgG ?_)
  | (with_reducible show wS _ (tPar _ _ _) _ _; refine wS_par ?_)
  | (with_reducible show wS _ (tIfS _ _ tNext) _ _; refine wS_ifN ?_)
  | (with_reducible show wS _ (tIfS _ _ _) _ _; refine wS_if ?_)
  | (with_reducible show wS _ (tRet _) _ _; refine wS_ret ?_)
  | (with_reducible show wS _ tRetN _ _; refine wS_retN ?_)
  | (with_reducible show wS _ tNext _ _; refine wS_next ?_)
  | (with_reducible show wS _ (tAug _ _ _) _ _; refine wS_aug rfl ?_)
  | fail))
local macro_rules | `(tactic| walk_at "uyT") => `(tactic| (first
  | (with_reducible show wT _ (tTest _) _ _; refine wT_test ?_)
  | (with_reducible show wT _ (tB _) _ _; refine wT_B ?_)
  | (with_reducible show wT _ (tAnd _ _) _ _; refine wT_and ?_)
  | (with_reducible show wT _ (tOr _ _) _ _; refine wT_or ?_)
  | (with_reducible show wT _ (tNot _) _ _; refine wT_not ?_)
  | (with_reducible show wT _ tYes _ _; refine wT_yes ?_)
  | fail))
local macro_rules | `(tactic| walk_at "uyI") => `(tactic| (first
  | (with_reducible show wI _ (iList _ _) _ _; refine wI_list ?_)
  | (with_reducible show wI _ (iTup _ _) _ _; refine wI_tup ?_)
  | (with_reducible show wI _ (iAny _ _) _ _; refine wI_any rfl rfl ?_)
  | (with_reducible show wI _ (iStr _) _ _; refine wI_str ?_)
  | (with_reducible show wI _ (iRng1 _) _ _; refine wI_rng1 ?_)
  | (with_reducible show wI _ (iRng2 _) _ _; refine wI_rng2 ?_)
  | fail))
local macro_rules | `(tactic| walk_at "uy") => `(tactic| (first
  | (with_reducible show wE _ _ _ _; walk_at "uyE")
  | (with_reducible show wS _ _ _ _; walk_at "uyS")
  | (with_reducible show wD _ (tCons _ _) _ _; refine wD_cons ?_)
  | (with_reducible show wD _ tNil _ _; refine wD_nil ?_)
  | (with_reducible show wZ _ (tCons _ _) _ _; refine wZ_cons ?_)
  | (with_reducible show wZ _ tNil _ _; refine wZ_nil ?_)
  | (with_reducible show wIZ _ (iList _ _) _ _; refine wIZ_list ?_)
  | (with_reducible show wO _ tNoPart _ _; refine wO_no ?_)
  | (with_reducible show wO _ (tPart _) _ _; refine wO_part ?_)
  | (with_reducible show wT _ _ _ _; walk_at "uyT")
  | (with_reducible show wI _ _ _ _; walk_at "uyI")
  | (with_reducible show wG _ (gName _) _ _ _; refine wG_name ?_)
  | (with_reducible show wG _ (gTup _ _ _) _ _ _; first | (refine wG_tup rfl ?_; dsimp only [List.map]) | refine wG_tupZ rfl ?_)
  | (with_reducible show wGs _ (gCons _ _) _ _ _; refine wGs_cons ?_)
  | (with_reducible show wGs _ gNil _ _ _; refine wGs_nil ?_)
  | (with_reducible show ∀ (_ : Addr), _; intro _; try dsimp only [List.cons_append, List.nil_append])
  | (with_reducible show @Exists _ _; first | refine ⟨_, _, rfl, rfl, by omega, fun r h0 h1 => ?_⟩ | refine ⟨_, rfl, ?_⟩ | refine ⟨_, _, rfl, dLen_str (by first | omega | decide), ?_⟩ | refine ⟨_, _, rfl, dCut_str (by first | omega | decide) _ _, ?_⟩ | refine ⟨_, _, rfl, rfl, sz_small (by first | omega | (simp only [strLen_append]; omega)), ?_⟩ | refine ⟨_, _, rfl, rfl, ?_⟩ | refine ⟨_, _, rfl, ?_⟩ | refine ⟨_, _, _, rfl, rfl, rfl, ?_⟩ | refine ⟨_, _, _, rfl, rfl, ?_⟩)
  | (with_reducible show CMulW _ _ ∧ _; refine ⟨Bd.mulW (by walk_at "bd") (by walk_at "bd"), ?_⟩)
  | (with_reducible show CDivW _ _ ∧ _; refine ⟨Bd.divW (by walk_at "bd") (by omega), ?_⟩)
  | (with_reducible show ShOk _ ∧ _; refine ⟨by assumption, ?_⟩)
  | (with_reducible show _ ∧ _; first | (refine ⟨sz_small ?_, ?_⟩; focus first | (simp; done) | (simp only [List.length_map, List.length_append, List.length_take, List.length_drop, List.length_cons, List.length_nil]; omega)) | (refine ⟨sz_lt1 ?_, ?_⟩; focus first | (simp; done) | (simp only [List.length_map, List.length_append, List.length_take, List.length_drop, List.length_cons, List.length_nil]; omega)) | refine and_sw ?_ ⟨rfl, trivial⟩ | refine and_sw ?_ ⟨rfl, ⟨_, rfl⟩⟩ | refine and_sw ?_ ⟨rfl, ⟨_, _, rfl⟩⟩ | refine and_sw ?_ ⟨rfl, ⟨_, _, _, rfl⟩⟩ | refine and_sw ?_ ⟨rfl, ⟨_, rfl, ?_⟩⟩ | refine and_sw ?_ ⟨rfl, ⟨_, _, rfl, ?_⟩⟩ | refine ⟨rfl, ?_⟩ | refine ⟨trivial, ?_⟩ | refine ⟨by omega, ?_⟩)
  | (with_reducible show _ ≤ sizeLine; exact sz_small (by omega))
  | fail))
local macro_rules | `(tactic| walk_at "ux") => `(tactic| (first | walk_at "uy"| (with_reducible show ite _ _ _; first | refine itb_t rfl ?_ | refine itb_f rfl ?_)))

section
variable {P : Program} {w : World} {K : Fg} {mg : Str → Option Value} {base : Heap}

abbrev s_fits : Stmt := topS 30
abbrev N_fits : List Str := ["kind", "thing", "look"]
theorem sc_fits : FnScope N_fits ["kind", "thing"] (defScope s_fits) := ⟨rfl, rfl, rfl, by decide +kernel, rfl, by decide +kernel, by decide +kernel⟩
theorem ok_fits (d : Df K mg "fits" s_fits ["kind", "thing"]) (c_is_name : Cal P w K mg base 2 "is_name" ["thing"] (sp_is_name K)) (c_is_manner : Cal P w K mg base 1 "is_manner" ["thing"] (sp_is_manner K)) (c_is_short : Cal P w K mg base 3 "is_short" ["thing"] (sp_is_short K)) (c_is_most : Cal P w K mg base 3 "is_most" ["thing"] (sp_is_most K)) (c_are_terms : Cal P w K mg base 5 "are_terms" ["thing"] (sp_are_terms K)) (c_is_round : Cal P w K mg base 5 "is_round" ["thing"] (sp_is_round K)) (c_are_steps : Cal P w K mg base 6 "are_steps" ["thing"] (sp_are_steps K)) (c_are_four : Cal P w K mg base 6 "are_four" ["thing"] (sp_are_four K)) (c_are_eight : Cal P w K mg base 6 "are_eight" ["thing"] (sp_are_eight K)) {a_FITS : Addr} (m_FITS : Ux.GTf K w mg "FITS" a_FITS fitsN) : Cal P w K mg base 7 "fits" ["kind", "thing"] (sp_fits K) := by
  refine d.ok sc_fits (pureSp_len rfl) (fun f cdv A outer s H vs Q E hr hgu h => ?_)
  refine ⟨_, (pss_cons (ps_set (i := 2) sc_fits.nd rfl (Or.inl rfl) (pe_ix (ix_gtf m_FITS) (pe_glob (v := .ref a_FITS) (by rfl) m_FITS.m rfl) (pv 0) (fun _ _ => rfl)))
    (pss_one (ps_ret (pe_callH (k := 6) (tbl := fitsS K) (fa_cons ⟨_, c_is_name.mono (by decide)⟩ (fa_cons ⟨_, c_is_manner.mono (by decide)⟩ (fa_cons ⟨_, c_is_short.mono (by decide)⟩ (fa_cons ⟨_, c_is_most.mono (by decide)⟩ (fa_cons ⟨_, c_are_terms.mono (by decide)⟩ (fa_cons ⟨_, c_is_round.mono (by decide)⟩ (fa_cons ⟨_, c_are_steps.mono (by decide)⟩ (fa_cons ⟨_, c_are_four.mono (by decide)⟩ (fa_cons ⟨_, c_are_eight.mono (by decide)⟩ fa_nil))))))))) hr hgu (i := 2) rfl (by first | exact Or.inl rfl | exact Or.inr (Or.inl rfl) | exact Or.inr (Or.inr rfl)) (pa_cons (pv 1) pa_nil))))), ?_⟩
  try dsimp only [cxOf]
  refine pure_body h (fun ds hl hp e hn hz => ?_)
  obtain ⟨k, x, rfl, hk, hx⟩ := hp
  show wS _ _ ⟨[some (.d (.str k)), some (.d x), none], _⟩ _
  repeat' walk_at "ux"
  have main : ∀ (nm : Str) (pre : List D → Prop) (G : D → Bool), getT k fitsN = some nm → (nm, detSp K 1 pre (fun ds => .bool (G (a0 ds)))) ∈ fitsS K → pre [x] → kindB k x = G x → ∃ s nm, Z.d (PyData.str k) = Z.d (PyData.str s) ∧ getT s fitsN = some nm ∧ ∀ (f : Addr), mg nm = some (Value.ref f) →
      wS { K := K } (tRet (tCallH 2 mg (fitsS K) (tCons (tVar 1) tNil))) (S.set ⟨[some (Z.d (PyData.str k)), some (Z.d x), none], []⟩ 2 (some (Z.lab f))) e := fun nm pre G h1 h2 h3 h4 => by
    refine ⟨k, nm, rfl, h1, fun f hf => ?_⟩
    repeat' walk_at "ux"
    refine wE_callH nm rfl hf h2 ?_
    repeat' walk_at "ux"
    exact ⟨⟨rfl, h3⟩, hz _ _ (by show PyData.bool (G x) = .bool (kindB k x); rw [h4])⟩
  have ek : ∀ f, getT k kindT = some f → kindB k x = f x := fun f h => by unfold kindB; rw [h]
  unfold kindT at hk ek
  unfold getT at hk ek
  by_cases q : ("name" : Str) = k
  · subst q; exact main _ _ nameB rfl (.head _) ⟨x, rfl, sm_okS hx⟩ (ek _ rfl)
  rw [if_neg q] at hk; clear q
  unfold getT at hk
  by_cases q : ("manner" : Str) = k
  · subst q; exact main _ _ mannerB rfl (.tail _ (.head _)) trivial (ek _ rfl)
  rw [if_neg q] at hk; clear q
  unfold getT at hk
  by_cases q : ("number" : Str) = k
  · subst q; exact main _ _ shortB rfl (.tail _ (.tail _ (.head _))) trivial (ek _ rfl)
  rw [if_neg q] at hk; clear q
  unfold getT at hk
  by_cases q : ("most" : Str) = k
  · subst q; exact main _ _ mostB rfl (.tail _ (.tail _ (.tail _ (.head _)))) trivial (ek _ rfl)
  rw [if_neg q] at hk; clear q
  unfold getT at hk
  by_cases q : ("terms" : Str) = k
  · subst q; exact main _ _ (numsB 1 100) rfl (.tail _ (.tail _ (.tail _ (.tail _ (.head _))))) hx (ek _ rfl)
  rw [if_neg q] at hk; clear q
  unfold getT at hk
  by_cases q : ("round" : Str) = k
  · subst q; exact main _ _ (numsB 1 20) rfl (.tail _ (.tail _ (.tail _ (.tail _ (.tail _ (.head _)))))) hx (ek _ rfl)
  rw [if_neg q] at hk; clear q
  unfold getT at hk
  by_cases q : ("steps" : Str) = k
  · subst q; exact main _ _ stepsB rfl (.tail _ (.tail _ (.tail _ (.tail _ (.tail _ (.tail _ (.head _))))))) hx (ek _ rfl)
  rw [if_neg q] at hk; clear q
  unfold getT at hk
  by_cases q : ("four" : Str) = k
  · subst q; exact main _ _ (twoB 2) rfl (.tail _ (.tail _ (.tail _ (.tail _ (.tail _ (.tail _ (.tail _ (.head _)))))))) hx (ek _ rfl)
  rw [if_neg q] at hk; clear q
  unfold getT at hk
  by_cases q : ("eight" : Str) = k
  · subst q; exact main _ _ (twoB 4) rfl (.tail _ (.tail _ (.tail _ (.tail _ (.tail _ (.tail _ (.tail _ (.tail _ (.head _))))))))) hx (ek _ rfl)
  rw [if_neg q] at hk; cases hk
abbrev s_is_plan_row : Stmt := topS 31
abbrev N_is_plan_row : List Str := ["thing", "shape", "kind", "one"]
theorem sc_is_plan_row : FnScope N_is_plan_row ["thing"] (defScope s_is_plan_row) := ⟨rfl, rfl, rfl, by decide +kernel, rfl, by decide +kernel, by decide +kernel⟩
theorem ok_is_plan_row (d : Df K mg "is_plan_row" s_is_plan_row ["thing"]) (c_fits : Cal P w K mg base 7 "fits" ["kind", "thing"] (sp_fits K)) (b_all : mg "all" = none) (b_isinstance : mg "isinstance" = none) (b_len : mg "len" = none) (b_str : mg "str" = none) (b_tuple : mg "tuple" = none) (b_zip : mg "zip" = none) {a_SHAPES : Addr} (m_SHAPES : Ux.GTd K w mg "SHAPES" a_SHAPES shapesD) : Cal P w K mg base 8 "is_plan_row" ["thing"] (sp_is_plan_row K) := by
  refine d.ok sc_is_plan_row (pureSp_len rfl) (fun f cdv A outer s H vs Q E hr hgu h => ?_)
  refine ⟨_, (pss_cons (ps_if (PW.pt (pw_or (pt_not (pt_val (pe_callB (isiK K) (by rfl) b_isinstance (by decide +kernel) (pa_cons (pv 0) (pa_cons (pe_bltn (v := .ty "tuple") (by rfl) b_tuple (by decide +kernel) rfl) pa_nil))))) (pw_or (pt_cmpR op_eq (pe_callB (lenK K) (by rfl) b_len (by decide +kernel) (pa_cons (pv 0) pa_nil)) pe_int (nomark _)) (pw_or (pt_not (pt_val (pe_callB (isiK K) (by rfl) b_isinstance (by decide +kernel) (pa_cons (pe_ix (ixK K) (pv 0) pe_int (fun _ _ => rfl)) (pa_cons (pe_bltn (v := .ty "str") (by rfl) b_str (by decide +kernel) rfl) pa_nil))))) (pw_or1 (pt_cmpR (op_gnin m_SHAPES) (pe_ix (ixK K) (pv 0) pe_int (fun _ _ => rfl)) (pe_glob (v := .ref a_SHAPES) (by rfl) m_SHAPES.m rfl) (by rfl))))))) (pss_one (ps_ret pe_bl)) pss_nil)
    (pss_cons (ps_set (i := 1) sc_is_plan_row.nd rfl (Or.inl rfl) (pe_ix (ix_gtd m_SHAPES) (pe_glob (v := .ref a_SHAPES) (by rfl) m_SHAPES.m rfl) (pe_ix (ixK K) (pv 0) pe_int (fun _ _ => rfl)) (fun _ _ => rfl)))
    (pss_one (ps_ret (pe_and (pe_cmpR op_eq (pe_callB (lenK K) (by rfl) b_len (by decide +kernel) (pa_cons (pv 0) pa_nil)) (pe_op op_add (pe_callB (lenK K) (by rfl) b_len (by decide +kernel) (pa_cons (pv 1) pa_nil)) pe_int) (nomark _)) (pe_one (pe_callB (allK K rfl) (by rfl) b_all (by decide +kernel) (pa_cons (pe_lc (own := [("kind", 2), ("one", 3)]) (g := gTup K 2 (gCons (gName 2) (gCons (gName 3) (gNil)))) rfl sc_is_plan_row.nd (piZX K (by rfl) b_zip (pa_cons (pv 1) (pa_cons (pe_slice (slK K) (pv 0) (po_some pe_int) po_none) pa_nil))) (blkOk_by (own := [("kind", 2), ("one", 3)]) (N := N_is_plan_row) (sc := defScope s_is_plan_row) (by decide +kernel)) (fun _ _ _ _ _ => (pgT (n := 2) K rfl (pgs_cons (pg_name (i := 2) sc_is_plan_row.nd rfl (Or.inl rfl)) (pgs_cons (pg_name (i := 3) sc_is_plan_row.nd rfl (Or.inl rfl)) pgs_nil)))) (fun _ _ _ _ _ => pts_nil) (fun _ _ _ _ _ => (pe_cal c_fits (hr.mono (by decide)) hgu (by rfl) (pa_cons (pv 2) (pa_cons (pv 3) pa_nil))))) pa_nil)))))))), ?_⟩
  try dsimp only [cxOf]
  refine pure_body h (fun ds hl hp e hn hz => ?_)
  obtain ⟨x, rfl⟩ : ∃ x, ds = [x] := len1 hl
  have hx : smD x = true := hp
  show wS _ _ ⟨[some (.d x), none, none, none], _⟩ _
  repeat' walk_at "ux"
  rw [isT_tuple]
  cases x with
  | tuple xs =>
    obtain ⟨xl, xe⟩ := sm_tup hx
    cases xs with
    | nil => repeat' (first | walk_at "ux" | (exact hz _ _ rfl))
    | cons w r =>
      have rl : r.length ≤ 899 := by rw [List.length_cons] at xl; omega
      repeat' walk_at "ux"
      have hix : dIx (.tuple (w :: r)) 0 = some w := dIx_at (i := 0) rfl rfl
      refine ⟨_, _, _, rfl, rfl, hix, ?_⟩
      repeat' walk_at "ux"
      rw [isT_str]
      cases w with
      | str s =>
        repeat' walk_at "ux"
        refine ⟨_, _, _, rfl, rfl, hix, ?_⟩
        repeat' walk_at "ux"
        rw [shapes_eq]
        cases hs : getT s shapesT with
        | none =>
          have fin : rowB (.tuple (.str s :: r)) = false := by show (match getT s shapesT with | some ks => decide (r.length = ks.length) && (List.zipWith kindB ks r).all id | none => false) = _; rw [hs]
          repeat' walk_at "ux"
          exact hz _ _ (by show PyData.bool false = .bool (rowB (.tuple (.str s :: r))); rw [fin])
        | some ks =>
          obtain ⟨kl, ke⟩ := shapes_ok hs
          have fin : rowB (.tuple (.str s :: r)) = (decide (r.length = ks.length) && (List.zipWith kindB ks r).all id) := by show (match getT s shapesT with | some ks => decide (r.length = ks.length) && (List.zipWith kindB ks r).all id | none => false) = _; rw [hs]
          repeat' walk_at "ux"
          refine ⟨_, _, _, rfl, rfl, hix, ?_⟩
          repeat' walk_at "ux"
          refine ⟨s, _, rfl, by rw [shapes_eq, hs]; rfl, ?_⟩
          repeat' walk_at "ux"
          have el : eqS (PyData.int ((PyData.str s :: r).length : Nat)) (PyData.int (((List.map PyData.str ks).length : Nat) + 1)) = decide (r.length = ks.length) := by
            rw [List.length_cons, List.length_map]
            by_cases q : r.length = ks.length
            · rw [decide_eq_true q, q]; simp [eqS]
            · rw [decide_eq_false q]; simp [eqS]; omega
          rw [el]
          refine ite2 (fun c => ?_) (fun c => ?_)
          · have c' := of_decide_eq_true c
            repeat' walk_at "ux"
            refine wE_lcT [2, 3] (fun _ => true) (fun ds => .bool (kindB (toS (a0 ds)) (a1 ds))) rfl ?_
            refine wI_zipX ?_
            repeat' walk_at "ux"
            rw [show Tq.cutD (PyData.str s :: r) (some 1) none = r by rw [cutD1]; rfl]
            refine ⟨_, _, _, _, rfl, rfl, rfl, List.zipWith (fun a b => [a, b]) (ks.map PyData.str) r, by rw [List.map_zipWith], sz_small (by rw [List.length_zipWith]; omega), fun ds hd => ?_, ?_⟩
            · obtain ⟨a, ha, b, hb, rfl⟩ := mem_zipW hd
              obtain ⟨k, hk, rfl⟩ := List.mem_map.mp ha
              refine ⟨rfl, ?_⟩
              show wT _ _ ⟨[some (.d (.tuple (.str s :: r))), some (.d (.tuple (ks.map .str))), some (.d (.str k)), some (.d b)], _⟩ _
              repeat' walk_at "ux"
              intro _
              repeat' walk_at "ux"
              all_goals (first | rfl | exact ⟨⟨rfl, k, b, rfl, ke k hk, xe b (List.mem_cons_of_mem _ hb)⟩, rfl⟩ | exact ⟨ke k hk, xe b (List.mem_cons_of_mem _ hb)⟩)
            · refine ⟨_, rfl, wD_nil ⟨List.zipWith kindB ks r, ?_, ?_⟩⟩
              · rw [List.filter_eq_self.mpr (fun _ _ => rfl), List.map_zipWith, List.zipWith_map_left, List.map_zipWith]
                rfl
              · refine hz _ _ ?_
                show PyData.bool ((List.zipWith kindB ks r).all id) = .bool (rowB (.tuple (.str s :: r)))
                rw [fin, c]; rfl
          · refine hz _ _ ?_
            show PyData.bool false = .bool (rowB (.tuple (.str s :: r)))
            rw [fin, Bool.eq_false_iff.mpr c]; rfl
      | _ => repeat' (first | walk_at "ux" | (exact hz _ _ rfl))
  | _ => repeat' (first | walk_at "ux" | (exact hz _ _ rfl))
abbrev s_is_plan : Stmt := topS 33
abbrev N_is_plan : List Str := ["thing", "row"]
theorem sc_is_plan : FnScope N_is_plan ["thing"] (defScope s_is_plan) := ⟨rfl, rfl, rfl, by decide +kernel, rfl, by decide +kernel, by decide +kernel⟩
theorem ok_is_plan (d : Df K mg "is_plan" s_is_plan ["thing"]) (c_is_plan_row : Cal P w K mg base 8 "is_plan_row" ["thing"] (sp_is_plan_row K)) (c_are_rows : Cal P w K mg base 1 "are_rows" ["thing"] (sp_are_rows K)) (b_all : mg "all" = none) : Cal P w K mg base 9 "is_plan" ["thing"] (sp_is_plan K) := by
  refine d.ok sc_is_plan (pureSp_len rfl) (fun f cdv A outer s H vs Q E hr hgu h => ?_)
  refine ⟨_, (pss_one (ps_ret (pe_and (pe_cal c_are_rows (hr.mono (by decide)) hgu (by rfl) (pa_cons (pv 0) pa_nil)) (pe_one (pe_callB (allK K rfl) (by rfl) b_all (by decide +kernel) (pa_cons (pe_lc (own := [("row", 1)]) (g := gName 1) rfl sc_is_plan.nd (piA K (pv 0)) (blkOk_by (own := [("row", 1)]) (N := N_is_plan) (sc := defScope s_is_plan) (by decide +kernel)) (fun _ _ _ _ _ => (pg_name (i := 1) sc_is_plan.nd rfl (Or.inl rfl))) (fun _ _ _ _ _ => pts_nil) (fun _ _ _ _ _ => (pe_cal c_is_plan_row (hr.mono (by decide)) hgu (by rfl) (pa_cons (pv 1) pa_nil)))) pa_nil)))))), ?_⟩
  try dsimp only [cxOf]
  refine pure_body h (fun ds hl hp e hn hz => ?_)
  obtain ⟨x, rfl⟩ : ∃ x, ds = [x] := len1 hl
  have hx : smD x = true := hp
  show wS _ _ ⟨[some (.d x), none], _⟩ _
  repeat' walk_at "ux"
  cases hi : dItems x with
  | none =>
    rw [show dItems (a0 [x]) = none from hi]
    repeat' walk_at "ux"
    exact hz _ _ (by show PyData.bool false = .bool (planB x); unfold planB; rw [hi])
  | some xs =>
    rw [show dItems (a0 [x]) = some xs from hi]
    obtain ⟨xl, xe⟩ := sm_items hx hi
    have fin : planB x = (decide (xs.length ≤ 12) && xs.all rowB) := by unfold planB; rw [hi]
    dsimp only
    refine ite2 (fun c => ?_) (fun c => ?_)
    · repeat' walk_at "ux"
      refine wE_lcF (y' := ⟨[some (.d x), none], []⟩) (fun _ => true) (fun d => .bool (rowB d)) ?_
      refine wI_any (i := 0) rfl hi ?_
      refine ⟨rfl, sz_small (by omega), fun r hr => ?_, ?_⟩
      · repeat' walk_at "ux"
        intro _
        repeat' walk_at "ux"
        all_goals (first | rfl | exact xe r hr | exact ⟨⟨rfl, xe r hr⟩, rfl, rfl⟩)
      · refine ⟨_, rfl, wD_nil ⟨xs.map rowB, by rw [List.filter_eq_self.mpr (fun _ _ => rfl), List.map_map]; rfl, ?_⟩⟩
        refine hz _ _ ?_
        show PyData.bool ((xs.map rowB).all id) = .bool (planB x)
        rw [fin, c, List.all_map]; rfl
    · exact hz _ _ (by show PyData.bool false = .bool (planB x); rw [fin, Bool.eq_false_iff.mpr c]; rfl)
abbrev s_law_names : Stmt := topS 38
abbrev N_law_names : List Str := ["_law_purse_here", "_law_size_here", "_law_letters", "_law_way", "_law_first", "_law_step", "_law_words", "_law_stem", "_law_at", "_law_head", "_law_tail", "_law_found", "_law_k", "_law_name"]
theorem sc_law_names : FnScope N_law_names ["_law_purse_here", "_law_size_here"] (defScope s_law_names) := ⟨rfl, rfl, rfl, by decide +kernel, rfl, by decide +kernel, by decide +kernel⟩
theorem ok_law_names (d : Df K mg "_law_names" s_law_names ["_law_purse_here", "_law_size_here"]) (c_law_take : Cal P w K mg base 1 "_law_take" ["_law_purse_here", "_law_below"] (sp_law_take K)) (b_len : mg "len" = none) (b_range : mg "range" = none) : Cal P w K mg base 2 "_law_names" ["_law_purse_here", "_law_size_here"] (sp_law_names K) := by
  refine d.ok sc_law_names (puSp_len rfl) (fun f cdv A outer s H vs Q E hr hgu h => ?_)
  refine ⟨_, (pss_cons (ps_set (i := 2) sc_law_names.nd rfl (Or.inr rfl) pe_str)
    (pss_cons (ps_set (i := 3) sc_law_names.nd rfl (Or.inl rfl) (pe_cal c_law_take (hr.mono (by decide)) hgu (by rfl) (pa_cons (pv 0) (pa_cons pe_int pa_nil))))
    (pss_cons (ps_set (i := 4) sc_law_names.nd rfl (Or.inr rfl) (pe_cal c_law_take (hr.mono (by decide)) hgu (by rfl) (pa_cons (pv 0) (pa_cons pe_int pa_nil))))
    (pss_cons (ps_set (i := 5) sc_law_names.nd rfl (Or.inr rfl) (pe_ix (ixK K) (pe_lst (pa_cons pe_int (pa_cons pe_int (pa_cons pe_int (pa_cons pe_int pa_nil))))) (pe_cal c_law_take (hr.mono (by decide)) hgu (by rfl) (pa_cons (pv 0) (pa_cons pe_int pa_nil))) (fun _ _ => rfl)))
    (pss_cons (ps_if (pt_cmpR op_eq (pv 3) pe_int (nomark _)) (pss_cons (ps_set (i := 6) sc_law_names.nd rfl (Or.inr rfl) (pe_lst (pa_cons pe_str (pa_cons pe_str (pa_cons pe_str (pa_cons pe_str (pa_cons pe_str (pa_cons pe_str (pa_cons pe_str (pa_cons pe_str (pa_cons pe_str (pa_cons pe_str (pa_cons pe_str (pa_cons pe_str pa_nil))))))))))))))
    (pss_one (ps_ret (pe_lc (own := [("_law_k", 12)]) (g := gName 12) rfl sc_law_names.nd (pi_range1 (by rfl) b_range (pa_cons (pv 1) pa_nil)) (blkOk_by (own := [("_law_k", 12)]) (N := N_law_names) (sc := defScope s_law_names) (by decide +kernel)) (fun _ _ _ _ _ => (pg_name (i := 12) sc_law_names.nd rfl (Or.inl rfl))) (fun _ _ _ _ _ => pts_nil) (fun _ _ _ _ _ => (pe_ix (ixK K) (pv 6) (pe_op op_mod (pe_op op_add (pv 4) (pe_op op_mulW (pv 5) (pv 12))) pe_int) (fun _ _ => rfl))))))) pss_nil)
    (pss_cons (ps_setLc (i := 7) (own := [("_law_k", 12)]) (g := gName 12) rfl sc_law_names.nd rfl rfl (sw_true rfl rfl rfl (by decide +kernel)) (pi_range1 (by rfl) b_range (pa_cons (pe_cal c_law_take (hr.mono (by decide)) hgu (by rfl) (pa_cons (pv 0) (pa_cons pe_int pa_nil))) pa_nil)) (blkOk_by (own := [("_law_k", 12)]) (N := N_law_names) (sc := defScope s_law_names) (by decide +kernel)) (fun _ _ _ _ _ => (pg_name (i := 12) sc_law_names.nd rfl (Or.inl rfl))) (fun _ _ _ _ _ => pts_nil) (fun _ _ _ _ _ => (pe_ix (ixK K) (pv 2) (pe_cal c_law_take (hr.mono (by decide)) hgu (by rfl) (pa_cons (pv 0) (pa_cons pe_int pa_nil))) (fun _ _ => rfl))))
    (pss_cons (ps_set (i := 8) sc_law_names.nd rfl (Or.inl rfl) (pe_cal c_law_take (hr.mono (by decide)) hgu (by rfl) (pa_cons (pv 0) (pa_cons (pe_op op_add (pe_callB (lenK K) (by rfl) b_len (by decide +kernel) (pa_cons (pv 7) pa_nil)) pe_int) pa_nil))))
    (pss_cons (ps_par (i := 9) (j := 10) (by rfl) sc_law_names.nd rfl rfl (by decide) rfl rfl (pa_cons (joinK K pe_str (pe_slice (slK K) (pv 7) po_none (po_some (pv 8)))) (pa_cons (joinK K pe_str (pe_slice (slK K) (pv 7) (po_some (pv 8)) po_none)) pa_nil)) (by rfl))
    (pss_cons (ps_set (i := 11) sc_law_names.nd rfl (Or.inl rfl) (pe_lstL pa_nil))
    (pss_cons (ps_for PassesOwn.never rfl (pi_range1 (by rfl) b_range (pa_cons (pv 1) pa_nil)) (pg_name (i := 12) sc_law_names.nd rfl (Or.inl rfl)) (pss_cons (ps_set (i := 13) sc_law_names.nd rfl (Or.inl rfl) (pe_op op_add_str (pe_op op_add_str (pv 9) (pe_ix (ixK K) (pv 2) (pe_op op_mod (pe_op op_add (pv 4) (pe_op op_mulW (pv 5) (pv 12))) pe_int) (fun _ _ => rfl))) (pv 10)))
    (pss_one (ps_expr (pe_bm PySem.F.plainAttrs_list PySem.F.slot_list_append PySem.F.type_list_append mt_append (pv 11) (pa_cons (pe_ifExp (pt_cmpR op_eq (pv 3) pe_int (nomark _)) (pe_op op_add_str (pv 13) (pe_op op_repS (pe_ix (ixK K) (pv 2) (pv 4) (fun _ _ => rfl)) (pe_op op_mod (pv 12) pe_int))) (pv 13)) pa_nil))))))
    (pss_one (ps_ret (pv 11))))))))))))), ?_⟩
  try dsimp only [cxOf]
  refine pu_body h (fun ds m pp hl hp hc e hn hz => ?_)
  obtain ⟨n, rfl, hn12⟩ := hp
  have hc : 12 ≤ m := hc
  show wS _ _ ⟨[some ((.lab pp)), some (.d (.int (n : Nat))), none, none, none, none, none, none, none, none, none, none, none, none], [⟨pp, false, .pu m⟩]⟩ _
  repeat' walk_at "ux"
  rename_i wy wy0 wy1 fr fr0 fr1 q q0 q1
  refine ixD_any q0 q1 (fun g hg => ?_)
  obtain ⟨st, rfl, st1, st2⟩ : ∃ st : Int, g = .int st ∧ 1 ≤ st ∧ st ≤ 11 := by
    simp only [List.mem_cons, List.not_mem_nil, or_false] at hg
    rcases hg with rfl | rfl | rfl | rfl <;> exact ⟨_, rfl, by decide, by decide⟩
  clear hg q0 q1 q
  have bst : Bd 2 st := by unfold Bd; omega
  have fin : ∀ (ns : List Str) y kk, ns.length = n → (∀ s ∈ ns, NmL s) → (⟨pp, false, .pu kk⟩ : Cl) ∈ y.m → m - 12 ≤ kk → e.rt (.d (.list (ns.map .str))) y := fun ns y kk h1 h2 h3 h4 => hz _ _ _ _ ⟨n, ns, rfl, rfl, h1, h2⟩ h3 h4
  repeat' walk_at "ux"
  refine ite2 (fun c => ?_) (fun c => ?_)
  · repeat' walk_at "ux"
    refine wE_lc ?_
    repeat' walk_at "ux"
    dsimp only [List.set, S.set]
    refine ⟨fun i acc mm => ∃ ns : List Str, acc = ns.map PyData.str ∧ ns.length = i ∧ (∀ s ∈ ns, NmL s) ∧ mm = [⟨pp, false, .pu (m - 1 - 1 - 1)⟩], ?_, ?_, ?_, ?_, ?_⟩
    · rw [rangeD_len]; exact sz_small (by omega)
    · rintro i acc mm ⟨_, _, _, _, rfl⟩; rfl
    · exact ⟨[], rfl, rfl, by simp, rfl⟩
    · rintro i x acc mm hx ⟨ns, rfl, hcl, hc1, rfl⟩
      obtain ⟨hi2, rfl⟩ := rangeD_get hx
      have bi : Bd 3 (0 + (i : Int)) := by unfold Bd; omega
      repeat' walk_at "ux"
      have e0 := Int.emod_nonneg (fr + st * (0 + (i : Int))) (show (12 : Int) ≠ 0 by decide)
      have e1 := Int.emod_lt_of_pos (fr + st * (0 + (i : Int))) (show (0 : Int) < 12 by decide)
      obtain ⟨w, hw, ew⟩ := dIx_pick (f := PyData.str) (ns := wordsL) e0 e1
      refine ⟨_, _, _, rfl, rfl, ew, _, rfl, ?_⟩
      refine ⟨ns ++ [w], by rw [List.map_append]; rfl, by rw [List.length_append, hcl]; rfl, fun s hs => ?_, rfl⟩
      rcases List.mem_append.mp hs with h | h
      · exact hc1 s h
      · rw [List.mem_singleton.mp h]; exact words_nm w hw
    · rintro acc mm ⟨ns, rfl, hcl, hc1, rfl⟩ _
      rw [rangeD_len] at hcl
      exact fin ns _ _ (by omega) hc1 (.head _) (by omega)
  · repeat' walk_at "ux"
    refine wE_lc ?_
    repeat' walk_at "ux"
    rename_i w w0 w1
    dsimp only [List.set, S.set]
    refine ⟨fun i acc mm => ∃ cs : List Nat, acc = (cs.map chS).map PyData.str ∧ cs.length = i ∧ (∀ c ∈ cs, c ∈ letters.cps.toList) ∧ i ≤ 4 ∧ mm = [⟨pp, false, .pu (m - 4 - i)⟩], ?_, ?_, ?_, ?_, ?_⟩
    · rw [rangeD_len]; exact sz_small (by omega)
    · rintro i acc mm ⟨_, _, _, _, _, rfl⟩; rfl
    · exact ⟨[], rfl, rfl, by simp, by decide, by simp only [Nat.sub_sub]⟩
    · rintro i x acc mm hx ⟨cs, rfl, hcl, hc1, hi4, rfl⟩
      obtain ⟨hi2, rfl⟩ := rangeD_get hx
      repeat' walk_at "ux"
      rename_i r r0 r1
      obtain ⟨ch, ech, hch⟩ := dIx_str (t := letters) (by decide) r0 r1
      refine ⟨_, _, _, rfl, rfl, ech, _, rfl, ?_⟩
      refine ⟨cs ++ [ch], by rw [List.map_append, List.map_append]; rfl, by rw [List.length_append, hcl]; rfl, fun s hs => ?_, by omega, rfl⟩
      rcases List.mem_append.mp hs with h | h
      · exact hc1 s h
      · rw [List.mem_singleton.mp h]; exact hch
    · rintro acc mm ⟨cs, rfl, hcl, hc1, hi4, rfl⟩ _
      rw [rangeD_len] at hcl hi4 ⊢
      have hcl4 : cs.length ≤ 4 := by omega
      have hln : ((cs.map chS).map PyData.str).length = cs.length := by rw [List.length_map, List.length_map]
      generalize w.toNat = wn at *
      repeat' walk_at "ux"
      rename_i at' at0 at1
      obtain ⟨a, rfl⟩ : ∃ a : Nat, at' = (a : Int) := ⟨at'.toNat, (Int.toNat_of_nonneg at0).symm⟩
      have ha : a ≤ cs.length := by omega
      have hsum : ∀ l : List Nat, ((l.map chS).map (·.length)).sum = l.length := fun l => by
        induction l with
        | nil => rfl
        | cons x r ih => rw [List.map_cons, List.map_cons, List.sum_cons, ih, List.length_cons]; show 1 + _ = _; omega
      rw [cutD_takeN, ← List.map_take, ← List.map_take]
      refine ⟨_, (cs.take a).map chS, rfl, rfl, by rw [hsum, List.length_map, List.length_take]; show min a cs.length + min a cs.length * 0 ≤ 16777216; omega, ?_⟩
      repeat' walk_at "ux"
      rw [cutD_dropN _ _ (by rw [hln]; exact ha), ← List.map_drop, ← List.map_drop]
      refine ⟨_, (cs.drop a).map chS, rfl, rfl, by rw [hsum, List.length_map, List.length_drop]; show cs.length - a + (cs.length - a) * 0 ≤ 16777216; omega, ?_⟩
      have l1 : LtL a (Txt.join "" ((cs.take a).map chS)) := ltL_chs (by rw [List.length_take]; omega) fun c hc => hc1 c (List.mem_of_mem_take hc)
      have l2 : LtL (4 - a) (Txt.join "" ((cs.drop a).map chS)) := ltL_chs (by rw [List.length_drop]; omega) fun c hc => hc1 c (List.mem_of_mem_drop hc)
      generalize Txt.join "" ((cs.take a).map chS) = hd at l1 ⊢
      generalize Txt.join "" ((cs.drop a).map chS) = tl at l2 ⊢
      repeat' walk_at "ux"
      rename_i pf
      refine wS_seq (wS_for ?_)
      repeat' walk_at "ux"
      dsimp only [List.cons_append, List.nil_append, List.set, S.set]
      refine forJ (fun j y => ∃ (ns : List Str), y = ⟨[some (.lab pp), some (.d (.int (n : Nat))), some (.d (.str "abcdefghijklmnopqrstuvwxyz")), some (.d (.int wy)), some (.d (.int fr)), some (.d (.int st)), none, none, none, some (.d (.str hd)), some (.d (.str tl)), some (.lab pf), none, none], [⟨pp, false, .pu (m - 4 - wn - 1)⟩, ⟨pf, true, .lst ((ns.map PyData.str).map Z.d)⟩]⟩ ∧ ns.length = j ∧ (∀ s ∈ ns, NmL s)) ⟨_, ⟨[], rfl, rfl, by simp⟩, by walk_at "lessu"⟩ (fun j x y' hx ⟨ns, ey, hns, hnm⟩ => ?_) (fun y2 y' ⟨ns, ey, hns, hnm⟩ hl => ?_)
      · subst ey
        obtain ⟨hj, rfl⟩ := rangeD_get hx
        have hj : j < n := by omega
        have bj : Bd 3 (0 + (j : Int)) := by unfold Bd; omega
        repeat' walk_at "ux"
        have e0 := Int.emod_nonneg (fr + st * (0 + (j : Int))) (show (26 : Int) ≠ 0 by decide)
        have e1 := Int.emod_lt_of_pos (fr + st * (0 + (j : Int))) (show (0 : Int) < 26 by decide)
        obtain ⟨c1, ec1, hc1'⟩ := dIx_str (t := letters) (by decide) e0 e1
        have lc := ltL_ch hc1'
        have ln := ltL_app (ltL_app l1 lc) l2
        have hl1 := l1.1
        have hl2 := l2.1
        have h1 : (chS c1).length = 1 := rfl
        have hnl : 1 ≤ (hd ++ chS c1 ++ tl).length := by rw [strLen_append, strLen_append, h1]; omega
        refine ⟨_, _, _, rfl, rfl, ec1, _, _, rfl, rfl, sz_small (by show hd.length + 1 ≤ _; omega), ?_⟩
        repeat' walk_at "ux"
        refine ⟨sz_small (by show (hd ++ chS c1).length + _ ≤ _; rw [strLen_append, h1]; omega), ?_⟩
        show wS _ _ (S.set _ 13 (some (.d (.str (hd ++ chS c1 ++ tl))))) _
        dsimp only [List.set, S.set]
        have hln2 : (hd ++ chS c1 ++ tl).length ≤ 5 := by rw [strLen_append, strLen_append, h1]; omega
        have hok := ln.2
        generalize hd ++ chS c1 ++ tl = nm at hok hnl hln2 ⊢
        have es : ∀ v : Str, (ns.map PyData.str).map Z.d ++ [Z.d (.str v)] = ((ns ++ [v]).map PyData.str).map Z.d := fun v => by rw [List.map_append, List.map_append]; rfl
        have hsz : ((ns.map PyData.str).map Z.d).length < sizeLine := by rw [List.length_map, List.length_map, hns]; exact Nat.lt_of_lt_of_le (show j < 1000 by omega) (by decide)
        have app : ∀ v : Str, NmL v → ∀ s ∈ ns ++ [v], NmL s := fun v hv s hs => by
          rcases List.mem_append.mp hs with h | h
          · exact hnm s h
          · rw [List.mem_singleton.mp h]; exact hv
        refine wS_app (j := 1) rfl rfl ?_
        repeat' walk_at "ux"
        cases hw : eqS (PyData.int wy) (PyData.int 1) with
        | true =>
          repeat' walk_at "ux"
          obtain ⟨c2, ec2, hc2⟩ := dIx_str (t := letters) (by decide) fr0 fr1
          refine ⟨_, _, _, rfl, rfl, ec2, ?_⟩
          have m0 := Int.emod_nonneg (0 + (j : Int)) (show (2 : Int) ≠ 0 by decide)
          have m1 := Int.emod_lt_of_pos (0 + (j : Int)) (show (0 : Int) < 2 by decide)
          repeat' walk_at "ux"
          have lr := ltL_rep (ltL_ch hc2) (n := (0 + (j : Int)) % 2) (by omega)
          have hrl := lr.1
          refine ⟨⟨m0, by omega, by show 1 ≤ 1000; decide⟩, ?_⟩
          refine ⟨_, _, rfl, rfl, sz_small (by show nm.length + (repS (chS c2) _).length ≤ _; omega), _, rfl, hsz, ?_⟩
          dsimp only [List.set, S.set]
          rw [es]
          have lnm : LtL 5 nm := ⟨hln2, hok⟩
          have l6 := ltL_app lnm lr
          exact ⟨_, ⟨_, rfl, by rw [List.length_append, hns]; rfl, app _ ⟨by show 1 ≤ (nm ++ repS (chS c2) _).length; rw [strLen_append]; omega, l6.1, l6.2⟩⟩, by walk_at "lessu"⟩
        | false =>
          repeat' walk_at "ux"
          dsimp only [List.set, S.set]
          rw [es]
          exact ⟨_, ⟨_, rfl, by rw [List.length_append, hns]; rfl, app _ ⟨hnl, by omega, hok⟩⟩, by walk_at "lessu"⟩
      · subst ey
        rw [rangeD_len] at hns
        refine wS_next ?_
        show wS _ (tRet _) _ _
        refine wS_weak ?_ hl
        refine wS_frzA 11 (A := [⟨pp, false, .pu (m - 4 - wn - 1)⟩]) (B := []) rfl rfl ?_
        repeat' walk_at "ux"
        exact fin ns _ _ (by omega) hnm (.head _) (by omega)
abbrev s_law_legal : Stmt := topS 40
abbrev N_law_legal : List Str := ["_law_purse_here", "_law_manner", "_law_pool", "_law_found", "_law_k", "_law_term"]
theorem sc_law_legal : FnScope N_law_legal ["_law_purse_here", "_law_manner"] (defScope s_law_legal) := ⟨rfl, rfl, rfl, by decide +kernel, rfl, by decide +kernel, by decide +kernel⟩
theorem ok_law_legal (d : Df K mg "_law_legal" s_law_legal ["_law_purse_here", "_law_manner"]) (c_law_take : Cal P w K mg base 1 "_law_take" ["_law_purse_here", "_law_below"] (sp_law_take K)) (b_int : mg "int" = none) (b_len : mg "len" = none) (b_range : mg "range" = none) (b_tuple : mg "tuple" = none) : Cal P w K mg base 2 "_law_legal" ["_law_purse_here", "_law_manner"] (Tq.sp_law_legalP K) := by
  refine d.ok sc_law_legal (puSp_len rfl) (fun f cdv A outer s H vs Q E hr hgu h => ?_)
  refine ⟨_, (pss_cons (ps_set (i := 2) sc_law_legal.nd rfl (Or.inl rfl) (pe_dget (hu_of hr) ((pe_disp (pps_cons pe_str (pe_lst (pa_cons pe_int (pa_cons pe_int (pa_cons pe_int (pa_cons pe_int (pa_cons pe_int pa_nil)))))) (pps_cons pe_str (pe_lst (pa_cons pe_int (pa_cons pe_int (pa_cons pe_int (pa_cons pe_int (pa_cons pe_int pa_nil)))))) (pps_cons pe_str (pe_lst (pa_cons pe_int (pa_cons pe_int (pa_cons pe_int (pa_cons pe_int (pa_cons pe_int pa_nil)))))) pps_nil))) (by rfl) (by rfl) (fun z => by cases z) (by decide))) (pv 1) (fun _ _ => rfl)))
    (pss_cons (ps_set (i := 3) sc_law_legal.nd rfl (Or.inl rfl) (pe_lstL (pa_cons (pe_op op_sub (pe_cal c_law_take (hr.mono (by decide)) hgu (by rfl) (pa_cons (pv 0) (pa_cons pe_int pa_nil))) pe_int) pa_nil)))
    (pss_cons (ps_for PassesOwn.never rfl (pi_range1 (by rfl) b_range (pa_cons (pe_cal c_law_take (hr.mono (by decide)) hgu (by rfl) (pa_cons (pv 0) (pa_cons (pe_ix (ixK K) (pe_lst (pa_cons pe_int (pa_cons pe_int pa_nil))) (pe_callTy call_int1 (by rfl) b_int (by decide +kernel) (pa_cons (pe_cmpR op_eq (pe_cal c_law_take (hr.mono (by decide)) hgu (by rfl) (pa_cons (pv 0) (pa_cons pe_int pa_nil))) pe_int (nomark _)) pa_nil)) (fun _ _ => rfl)) pa_nil))) pa_nil)) (pg_name (i := 4) sc_law_legal.nd rfl (Or.inl rfl)) (pss_cons (ps_set (i := 5) sc_law_legal.nd rfl (Or.inl rfl) (pe_ix (ixK K) (pv 2) (pe_cal c_law_take (hr.mono (by decide)) hgu (by rfl) (pa_cons (pv 0) (pa_cons pe_int pa_nil))) (fun _ _ => rfl)))
    (pss_one (ps_expr (pe_bm PySem.F.plainAttrs_list PySem.F.slot_list_append PySem.F.type_list_append mt_append (pv 3) (pa_cons (pe_op op_mulW (pv 5) (pe_op op_sub pe_int (pe_op op_mulW pe_int (pe_callTy call_int1 (by rfl) b_int (by decide +kernel) (pa_cons (pe_and (pe_cmpR op_eq (pv 1) pe_str (nomark _)) (pe_one (pe_cmpR op_eq (pe_cal c_law_take (hr.mono (by decide)) hgu (by rfl) (pa_cons (pv 0) (pa_cons pe_int pa_nil))) pe_int (nomark _)))) pa_nil))))) pa_nil))))))
    (pss_cons (ps_if (PW.pt (pw_and (pt_cmpR op_gt (zLen (pe_callB (lenK K) (by rfl) b_len (by decide +kernel) (pa_cons (pv 3) pa_nil))) pe_int (nomark _)) (pw_and1 (pt_cmpR op_eq (pe_ix (ixLK K) (pv 3) (pe_un un_neg pe_int) (fun _ _ => rfl)) pe_int (nomark _))))) (pss_one (ps_asg pe_int (pg_sub (pv 3) (pe_un un_neg pe_int) set_list))) pss_nil)
    (pss_one (ps_ret (zTup (pe_callTy (tupK K) (by rfl) b_tuple (by decide +kernel) (pa_cons (pv 3) pa_nil))))))))), ?_⟩
  try dsimp only [cxOf]
  refine pu_body h (fun ds m pp hl hp hc e hn hz => ?_)
  obtain ⟨k, rfl⟩ := hp
  have hc : 70 ≤ m := hc
  show wS _ _ ⟨[some ((.lab pp)), some (.d (.str k.word)), none, none, none, none], [⟨pp, false, .pu m⟩]⟩ _
  repeat' walk_at "ux"
  refine wE_dgl poolL (s := k.word) (l := poolOf k) rfl (by decide +kernel) (by decide) (by decide) (by cases k <;> rfl) ?_
  repeat' walk_at "ux"
  rename_i r r0 r1 pf
  refine wS_seq (wS_for ?_)
  repeat' walk_at "ux"
  rename_i r4 r40 r41
  refine .inr ⟨_, rfl, ?_⟩
  obtain ⟨wd, hw, w1, w2⟩ : ∃ wd : Int, dIx (.list [.int 4, .int 30]) (if eqS (PyData.int r4) (PyData.int 0) = true then 1 else 0) = some (.int wd) ∧ 4 ≤ wd ∧ wd ≤ 30 := by
    cases eqS (PyData.int r4) (PyData.int 0) with
    | true => exact ⟨30, dIx_at (i := 1) rfl rfl, by decide, by decide⟩
    | false => exact ⟨4, dIx_at (i := 0) rfl rfl, by decide, by decide⟩
  refine ⟨_, _, _, rfl, rfl, hw, wd, _, rfl, rfl, ⟨by omega, by omega, by omega⟩, fun n n0 n1 => ?_⟩
  dsimp only [List.cons_append, List.nil_append, List.set, S.set]
  repeat' walk_at "ux"
  refine forJ (fun j y => ∃ (ts : List Int) (kk : Nat), y = ⟨[some (.lab pp), some (.d (.str k.word)), some (.d (.list ((poolOf k).map PyData.int))), some (.lab pf), none, none], [⟨pp, false, .pu kk⟩, ⟨pf, true, .lst ((ts.map PyData.int).map Z.d)⟩]⟩ ∧ ts.length = j + 1 ∧ (∀ t ∈ ts, t.natAbs ≤ 60) ∧ m - 3 - 2 * j ≤ kk) ⟨_, ⟨[r - 2], m - 1 - 1 - 1, rfl, rfl, fun t ht => (by rw [List.mem_singleton.mp ht]; omega), by omega⟩, by walk_at "lessu"⟩ (fun j x y' hx ⟨ts, kk, ey, hts, htb, hk⟩ => ?_) (fun y2 y' ⟨ts, kk, ey, hts, htb, hk⟩ hl => ?_)
  · subst ey
    obtain ⟨hj, rfl⟩ := rangeD_get hx
    repeat' walk_at "ux"
    rename_i r5 r50 r51
    have hpl : (poolOf k).length = 5 := by cases k <;> rfl
    obtain ⟨g, hg, eg⟩ := dIx_pick (f := PyData.int) (ns := poolOf k) r50 (by rw [List.length_map, hpl]; exact r51)
    have gb : g.natAbs ≤ 60 := pool_le k g hg
    refine ⟨_, _, _, rfl, rfl, eg, ?_⟩
    have bg : Bd 2 g := by unfold Bd; omega
    dsimp only [List.set, S.set]
    repeat' walk_at "ux"
    have hjl : j < 30 := by omega
    refine wS_app (j := 1) rfl rfl ?_
    repeat' walk_at "ux"
    have es : ∀ v : Int, (ts.map PyData.int).map Z.d ++ [Z.d (.int v)] = ((ts ++ [v]).map PyData.int).map Z.d := fun v => by rw [List.map_append, List.map_append]; rfl
    have bi : ∀ b : Bool, Bd 1 (if b = true then (1 : Int) else 0) := fun b => by cases b <;> exact Bd.lit (by decide)
    have hsz : ((ts.map PyData.int).map Z.d).length < sizeLine := by rw [List.length_map, List.length_map, hts]; exact Nat.lt_of_lt_of_le (show j + 1 < 1000 by omega) (by decide)
    have vb : ∀ b : Bool, (g * (1 - 2 * (if b = true then (1 : Int) else 0))).natAbs ≤ 60 := fun b => by cases b <;> (simp; omega)
    have bw : ∀ b : Bool, CMulW 2 (if b = true then (1 : Int) else 0) ∧ CMulW g (1 - 2 * (if b = true then (1 : Int) else 0)) := fun b => ⟨Bd.mulW (Bd.lit (k := 1) (by decide)) (bi b), Bd.mulW bg (show Bd 1 _ by cases b <;> exact Bd.lit (by decide))⟩
    have vmem : ∀ (b : Bool) (t : Int), t ∈ ts ++ [g * (1 - 2 * (if b = true then (1 : Int) else 0))] → t.natAbs ≤ 60 := fun b t ht => by
      rcases List.mem_append.mp ht with h | h
      · exact htb t h
      · rw [List.mem_singleton.mp h]; exact vb b
    cases hb : eqS (PyData.str k.word) (PyData.str "near") with
    | true =>
      repeat' walk_at "ux"
      rename_i r6 r60 r61
      refine .inr ⟨_, rfl, _, _, rfl, rfl, (bw _).1, _, _, rfl, rfl, _, _, rfl, rfl, (bw _).2, _, rfl, hsz, ?_⟩
      dsimp only [List.set, S.set]
      rw [es]
      exact ⟨_, ⟨_, kk - 1 - 1, rfl, by rw [List.length_append, hts]; rfl, vmem _, by omega⟩, by walk_at "lessu"⟩
    | false =>
      repeat' walk_at "ux"
      refine .inr ⟨_, rfl, _, _, rfl, rfl, (bw _).1, _, _, rfl, rfl, _, _, rfl, rfl, (bw _).2, _, rfl, hsz, ?_⟩
      dsimp only [List.set, S.set]
      rw [es]
      exact ⟨_, ⟨_, kk - 1, rfl, by rw [List.length_append, hts]; rfl, vmem false, by omega⟩, by walk_at "lessu"⟩
  · subst ey
    rw [rangeD_len] at hts hk
    refine wS_next ?_
    show wS _ (tSeq _ _) _ _
    refine wS_weak ?_ hl
    repeat' walk_at "ux"
    have htl : ts.length ≤ 31 := by omega
    have fin : ∀ (l : List (Option Z)) (us : List Int), 1 ≤ us.length → us.length ≤ 31 → (∀ t ∈ us, t.natAbs ≤ 60) → e.rt (.d (.tuple (us.map .int))) ⟨l, [⟨pp, false, .pu kk⟩, ⟨pf, true, .lst ((us.map PyData.int).map Z.d)⟩]⟩ := fun l us h1 h2 h3 => hz _ _ _ _ ⟨us, rfl, h1, h2, h3⟩ (.head _) (by omega)
    have fro : ∀ us : List Int, us ≠ [] → us = us.dropLast ++ [us.getLastD 0] := fun us h => by
      rw [List.getLastD_eq_getLast?, List.getLast?_eq_some_getLast h]
      exact (List.dropLast_concat_getLast h).symm
    have hne : ts ≠ [] := fun z => by rw [z] at hts; simp at hts
    have hlast := fro ts hne
    generalize ts.dropLast = us at hlast
    generalize ts.getLastD 0 = l at hlast
    subst hlast
    have ret : ∀ us : List Int, 1 ≤ us.length → us.length ≤ 31 → (∀ t ∈ us, t.natAbs ≤ 60) → wS { K := K } (tRet (tTupL K (tCons (tVar 3) tNil))) ⟨[some (.lab pp), some (.d (.str k.word)), some (.d (.list ((poolOf k).map PyData.int))), some (.lab pf), none, none], [⟨pp, false, .pu kk⟩, ⟨pf, true, .lst ((us.map PyData.int).map Z.d)⟩]⟩ e := fun us h1 h2 h3 => by
      repeat' walk_at "ux"
      exact ⟨pf, true, 1, _, rfl, rfl, fin _ us h1 h2 h3⟩
    have hlz : ((us ++ [l]).map PyData.int).map Z.d = (us.map PyData.int).map Z.d ++ [Z.d (.int l)] := by rw [List.map_append, List.map_append]; rfl
    have hul : ((us.map PyData.int).map Z.d).length = us.length := by rw [List.length_map, List.length_map]
    refine ⟨pf, true, 1, _, rfl, rfl, ?_⟩
    repeat' walk_at "ux"
    refine ite2 (fun c => ?_) (fun c => ?_)
    · repeat' walk_at "ux"
      refine ⟨pf, true, 1, _, _, _, rfl, rfl, rfl, by rw [hlz, atI_last (by simp), List.getLast?_concat], ?_⟩
      repeat' walk_at "ux"
      cases c2 : eqS (PyData.int l) (PyData.int 1) with
      | true =>
        first | refine ⟨_, rfl, ?_⟩ | skip
        refine itb_t rfl ?_
        refine wS_setL (i := 3) (j := 1) (a := pf) (b := true) rfl ?_
        repeat' walk_at "ux"
        refine ⟨_, (-1 : Int), us.length, rfl, rfl, by rw [hlz, List.length_append, hul]; exact ixN_last us.length, ?_⟩
        dsimp only [List.set, S.set]
        rw [hlz, show us.length = ((us.map PyData.int).map Z.d).length from hul.symm, List.set_append_right _ _ (Nat.le_refl _), Nat.sub_self]
        rw [show ([Z.d (PyData.int l)].set 0 (Z.d (PyData.int 2))) = [Z.d (.int 2)] from rfl, show (us.map PyData.int).map Z.d ++ [Z.d (.int 2)] = ((us ++ [2]).map PyData.int).map Z.d by rw [List.map_append, List.map_append]; rfl]
        refine ret _ (by rw [List.length_append]; simp) (by rw [List.length_append] at htl ⊢; simpa using htl) fun t ht => ?_
        rcases List.mem_append.mp ht with h | h
        · exact htb t (List.mem_append.mpr (.inl h))
        · rw [List.mem_singleton.mp h]; decide
      | false =>
        refine itb_f rfl ?_
        exact ret _ (by omega) htl htb
    · refine itb_f rfl ?_
      exact ret _ (by omega) htl htb
abbrev s_law_source : Stmt := topS 41
abbrev N_law_source : List Str := ["_law_purse_here", "_law_name", "_law_manner", "_law_way", "_law_again", "_law_steps", "_law_k", "_law_term"]
theorem sc_law_source : FnScope N_law_source ["_law_purse_here", "_law_name"] (defScope s_law_source) := ⟨rfl, rfl, rfl, by decide +kernel, rfl, by decide +kernel, by decide +kernel⟩
theorem ok_law_source (d : Df K mg "_law_source" s_law_source ["_law_purse_here", "_law_name"]) (c_law_take : Cal P w K mg base 1 "_law_take" ["_law_purse_here", "_law_below"] (sp_law_take K)) (c_law_legal : Cal P w K mg base 2 "_law_legal" ["_law_purse_here", "_law_manner"] (Tq.sp_law_legalP K)) (b_range : mg "range" = none) (b_tuple : mg "tuple" = none) : Cal P w K mg base 3 "_law_source" ["_law_purse_here", "_law_name"] (sp_law_source K) := by
  refine d.ok sc_law_source (puSp_len rfl) (fun f cdv A outer s H vs Q E hr hgu h => ?_)
  refine ⟨_, (pss_cons (ps_set (i := 2) sc_law_source.nd rfl (Or.inl rfl) (pe_ix (ixK K) (pe_lst (pa_cons pe_str (pa_cons pe_str (pa_cons pe_str (pa_cons pe_str pa_nil))))) (pe_cal c_law_take (hr.mono (by decide)) hgu (by rfl) (pa_cons (pv 0) (pa_cons pe_int pa_nil))) (fun _ _ => rfl)))
    (pss_cons (ps_set (i := 3) sc_law_source.nd rfl (Or.inl rfl) (pe_cal c_law_take (hr.mono (by decide)) hgu (by rfl) (pa_cons (pv 0) (pa_cons pe_int pa_nil))))
    (pss_cons (ps_if (pt_cmpR op_lt (pv 3) pe_int (nomark _)) (pss_one (ps_ret (pe_tup (pa_cons pe_str (pa_cons (pv 1) (pa_cons (pv 2) (pa_cons (pe_cal c_law_legal (hr.mono (by decide)) hgu (by rfl) (pa_cons (pv 0) (pa_cons (pv 2) pa_nil))) pa_nil))))))) pss_nil)
    (pss_cons (ps_if (pt_cmpR op_eq (pv 3) pe_int (nomark _)) (pss_cons (ps_set (i := 4) sc_law_source.nd rfl (Or.inl rfl) (pe_callTy (tupK K) (by rfl) b_tuple (by decide +kernel) (pa_cons (pe_lc (own := [("_law_k", 6)]) (g := gName 6) rfl sc_law_source.nd (pi_range1 (by rfl) b_range (pa_cons (pe_op op_add pe_int (pe_cal c_law_take (hr.mono (by decide)) hgu (by rfl) (pa_cons (pv 0) (pa_cons pe_int pa_nil)))) pa_nil)) (blkOk_by (own := [("_law_k", 6)]) (N := N_law_source) (sc := defScope s_law_source) (by decide +kernel)) (fun _ _ _ _ _ => (pg_name (i := 6) sc_law_source.nd rfl (Or.inl rfl))) (fun _ _ _ _ _ => pts_nil) (fun _ _ _ _ _ => (pe_op op_add pe_int (pe_cal c_law_take (hr.mono (by decide)) hgu (by rfl) (pa_cons (pv 0) (pa_cons pe_int pa_nil)))))) pa_nil)))
    (pss_cons (ps_set (i := 5) sc_law_source.nd rfl (Or.inl rfl) (pe_callTy (tupK K) (by rfl) b_tuple (by decide +kernel) (pa_cons (pe_lc (own := [("_law_term", 7)]) (g := gName 7) rfl sc_law_source.nd (piT K (pv 4)) (blkOk_by (own := [("_law_term", 7)]) (N := N_law_source) (sc := defScope s_law_source) (by decide +kernel)) (fun _ _ _ _ _ => (pg_name (i := 7) sc_law_source.nd rfl (Or.inl rfl))) (fun _ _ _ _ _ => pts_nil) (fun _ _ _ _ _ => (pe_cal c_law_take (hr.mono (by decide)) hgu (by rfl) (pa_cons (pv 0) (pa_cons pe_int pa_nil))))) pa_nil)))
    (pss_one (ps_ret (pe_tup (pa_cons pe_str (pa_cons (pv 1) (pa_cons (pv 2) (pa_cons (pe_tup (pa_cons (pe_op op_sub (pe_cal c_law_take (hr.mono (by decide)) hgu (by rfl) (pa_cons (pv 0) (pa_cons pe_int pa_nil))) pe_int) pa_nil)) (pa_cons (pv 4) (pa_cons (pe_ix (ixK K) (pe_lst (pa_cons pe_non (pa_cons (pv 5) pa_nil))) (pe_cal c_law_take (hr.mono (by decide)) hgu (by rfl) (pa_cons (pv 0) (pa_cons pe_int pa_nil))) (fun _ _ => rfl)) pa_nil))))))))))) pss_nil)
    (pss_cons (ps_if (pt_cmpR op_eq (pv 3) pe_int (nomark _)) (pss_one (ps_ret (pe_tup (pa_cons pe_str (pa_cons (pv 1) (pa_cons (pv 2) pa_nil)))))) pss_nil)
    (pss_one (ps_ret (pe_tup (pa_cons pe_str (pa_cons (pv 1) (pa_cons (pe_op op_sub (pe_cal c_law_take (hr.mono (by decide)) hgu (by rfl) (pa_cons (pv 0) (pa_cons pe_int pa_nil))) pe_int) (pa_cons (pe_cal c_law_take (hr.mono (by decide)) hgu (by rfl) (pa_cons (pv 0) (pa_cons pe_int pa_nil))) (pa_cons (pe_ix (ixK K) (pe_lst (pa_cons pe_int (pa_cons pe_int (pa_cons (pe_op op_sub pe_int pe_int) (pa_cons pe_int pa_nil))))) (pe_cal c_law_take (hr.mono (by decide)) hgu (by rfl) (pa_cons (pv 0) (pa_cons pe_int pa_nil))) (fun _ _ => rfl)) pa_nil))))))))))))), ?_⟩
  try dsimp only [cxOf]
  refine pu_body h (fun ds m pp hl hp hc e hn hz => ?_)
  obtain ⟨s, rfl, hs⟩ := hp
  have hc : 80 ≤ m := hc
  show wS _ _ ⟨[some ((.lab pp)), some (.d (.str s)), none, none, none, none, none, none], [⟨pp, false, .pu m⟩]⟩ _
  repeat' walk_at "ux"
  rename_i q q0 q1
  refine ixD_any q0 q1 (fun g hg => ?_)
  obtain ⟨k, rfl⟩ : ∃ k : Mn, g = .str k.word := by
    simp only [List.mem_cons, List.not_mem_nil, or_false] at hg
    rcases hg with rfl | rfl | rfl | rfl
    · exact ⟨.fl, rfl⟩
    · exact ⟨.fl, rfl⟩
    · exact ⟨.ce, rfl⟩
    · exact ⟨.ne, rfl⟩
  clear hg q0 q1 q
  have fin : ∀ d y kk, rowB d = true → RowS 7 d → (⟨pp, false, .pu kk⟩ : Cl) ∈ y.m → m - 80 ≤ kk → e.rt (.d d) y := fun d y kk h1 h2 h3 h4 => hz _ _ _ _ ⟨h1, h2⟩ h3 h4
  repeat' walk_at "ux"
  refine ite2 (fun c => ?_) (fun c => ?_)
  · repeat' walk_at "ux"
    refine ⟨⟨k, rfl⟩, by omega, ?_⟩
    rintro _ ⟨ts, rfl, h1, h2, h3⟩
    repeat' walk_at "ux"
    refine fin _ _ _ (rb_row hs h1 (by omega) (fun t ht => by have := h3 t ht; omega)) (rowS_tup (n := 7) (by show 4 ≤ 7; decide) (by decide) fun x hx => ?_) (.head _) (by omega)
    simp only [List.mem_cons, List.not_mem_nil, or_false] at hx
    rcases hx with rfl | rfl | rfl | rfl
    · exact el_str (by decide) (okT_ofS _)
    · exact hs.el
    · exact el_word k
    · exact el_ints (by omega) (fun t ht => by have := h3 t ht; omega)
  · repeat' walk_at "ux"
    refine ite2 (fun c => ?_) (fun c => ?_)
    · repeat' walk_at "ux"
      refine wE_lc ?_
      repeat' walk_at "ux"
      rename_i w w0 w1
      dsimp only [List.set, S.set]
      refine ⟨fun i acc mm => ∃ rs : List Int, acc = rs.map PyData.int ∧ rs.length = i ∧ (∀ t ∈ rs, t.natAbs ≤ 10) ∧ i ≤ 3 ∧ mm = [⟨pp, false, .pu (m - 3 - i)⟩], ?_, ?_, ?_, ?_, ?_⟩
      · rw [rangeD_len]; exact sz_small (by omega)
      · rintro i acc mm ⟨_, _, _, _, _, rfl⟩; rfl
      · exact ⟨[], rfl, rfl, by simp, by decide, by simp only [Nat.sub_sub]⟩
      · rintro i x acc mm hx ⟨rs, rfl, hcl, hc1, hi, rfl⟩
        obtain ⟨hi2, rfl⟩ := rangeD_get hx
        repeat' walk_at "ux"
        rename_i r r0 r1
        refine ⟨rs ++ [3 + r], by rw [List.map_append]; rfl, by rw [List.length_append, hcl]; rfl, fun t ht => ?_, by omega, rfl⟩
        rcases List.mem_append.mp ht with h | h
        · exact hc1 t h
        · rw [List.mem_singleton.mp h]; omega
      · rintro acc mm ⟨rs, rfl, hcl, hc1, hi, rfl⟩ _
        rw [rangeD_len] at hcl hi ⊢
        have hrl : 1 ≤ rs.length := by omega
        have hrl3 : rs.length ≤ 3 := by omega
        generalize (1 + w).toNat = n at *
        repeat' walk_at "ux"
        refine wE_lc ?_
        repeat' walk_at "ux"
        dsimp only [List.set, S.set]
        refine ⟨fun i acc mm => ∃ us : List Int, acc = us.map PyData.int ∧ us.length = i ∧ (∀ t ∈ us, t.natAbs ≤ 10) ∧ mm = [⟨pp, false, .pu (m - 3 - n - i)⟩], ?_, ?_, ?_, ?_, ?_⟩
        · rw [List.length_map]; exact sz_small (by omega)
        · rintro i acc mm ⟨_, _, _, _, rfl⟩; rfl
        · exact ⟨[], rfl, rfl, by simp, rfl⟩
        · rintro i x acc mm hx ⟨us, rfl, ucl, uc1, rfl⟩
          have hi2 : i < rs.length := by have := (List.getElem?_eq_some_iff.mp hx).1; rwa [List.length_map] at this
          repeat' walk_at "ux"
          rename_i r r0 r1
          refine ⟨us ++ [r], by rw [List.map_append]; rfl, by rw [List.length_append, ucl]; rfl, fun t ht => ?_, rfl⟩
          rcases List.mem_append.mp ht with h | h
          · exact uc1 t h
          · rw [List.mem_singleton.mp h]; omega
        · rintro acc mm ⟨us, rfl, ucl, uc1, rfl⟩ _
          rw [List.length_map] at ucl ⊢
          repeat' walk_at "ux"
          rename_i q3 q30 q31 q4 q40 q41
          refine ixD_any q40 q41 (fun g hg => ?_)
          have hg2 : stepsB g = true ∧ ElS g := by
            simp only [List.mem_cons, List.not_mem_nil, or_false] at hg
            rcases hg with rfl | rfl
            · exact ⟨rfl, el_none⟩
            · exact ⟨numsB_ints (by omega) (by omega) (fun t ht => by have := uc1 t ht; omega), el_ints (by omega) (fun t ht => by have := uc1 t ht; omega)⟩
          repeat' walk_at "ux"
          refine fin _ _ _ (rb_ruled hs (by omega) hrl (by omega) (fun t ht => by have := hc1 t ht; omega) hg2.1) (rowS_tup (n := 7) (by show 6 ≤ 7; decide) (by decide) fun x hx => ?_) (.head _) (by omega)
          simp only [List.mem_cons, List.not_mem_nil, or_false] at hx
          rcases hx with rfl | rfl | rfl | rfl | rfl | rfl
          · exact el_str (by decide) (okT_ofS _)
          · exact hs.el
          · exact el_word k
          · exact el_ints (ts := [q3 - 1]) (by show 1 ≤ 90; decide) (fun t ht => by rw [List.mem_singleton.mp ht]; omega)
          · exact el_ints (by omega) (fun t ht => by have := hc1 t ht; omega)
          · exact hg2.2
    · repeat' walk_at "ux"
      refine ite2 (fun c => ?_) (fun c => ?_)
      · repeat' walk_at "ux"
        refine fin _ _ _ (rb_fed hs) (rowS_tup (n := 7) (by show 3 ≤ 7; decide) (by decide) fun x hx => ?_) (.head _) (by omega)
        simp only [List.mem_cons, List.not_mem_nil, or_false] at hx
        rcases hx with rfl | rfl | rfl
        · exact el_str (by decide) (okT_ofS _)
        · exact hs.el
        · exact el_word k
      · repeat' walk_at "ux"
        rename_i q1 q10 q11 q2 q20 q21 q3 q30 q31
        refine ixD_any q30 q31 (fun g hg => ?_)
        obtain ⟨t, rfl, t1⟩ : ∃ t : Int, g = .int t ∧ t.natAbs ≤ 7 := by
          simp only [List.mem_cons, List.not_mem_nil, or_false] at hg
          rcases hg with rfl | rfl | rfl | rfl <;> exact ⟨_, rfl, by decide⟩
        repeat' walk_at "ux"
        refine fin _ _ _ (rb_surd hs (by omega) (by omega) (by omega)) (rowS_tup (n := 7) (by show 5 ≤ 7; decide) (by decide) fun x hx => ?_) (.head _) (by omega)
        simp only [List.mem_cons, List.not_mem_nil, or_false] at hx
        rcases hx with rfl | rfl | rfl | rfl | rfl
        · exact el_str (by decide) (okT_ofS _)
        · exact hs.el
        · exact el_int (by omega)
        · exact el_int (by omega)
        · exact el_int (by omega)
abbrev s_law_four : Stmt := topS 42
abbrev N_law_four : List Str := ["_law_purse_here", "_law_a", "_law_b", "_law_c", "_law_d", "_law_k"]
theorem sc_law_four : FnScope N_law_four ["_law_purse_here"] (defScope s_law_four) := ⟨rfl, rfl, rfl, by decide +kernel, rfl, by decide +kernel, by decide +kernel⟩
theorem ok_law_four (d : Df K mg "_law_four" s_law_four ["_law_purse_here"]) (c_law_take : Cal P w K mg base 1 "_law_take" ["_law_purse_here", "_law_below"] (sp_law_take K)) (b_range : mg "range" = none) : Cal P w K mg base 2 "_law_four" ["_law_purse_here"] (sp_law_four K) := by
  refine d.ok sc_law_four (puSp_len rfl) (fun f cdv A outer s H vs Q E hr hgu h => ?_)
  refine ⟨_, (pss_cons (ps_asg (pe_lc (own := [("_law_k", 5)]) (g := gName 5) rfl sc_law_four.nd (pi_range1 (by rfl) b_range (pa_cons pe_int pa_nil)) (blkOk_by (own := [("_law_k", 5)]) (N := N_law_four) (sc := defScope s_law_four) (by decide +kernel)) (fun _ _ _ _ _ => (pg_name (i := 5) sc_law_four.nd rfl (Or.inl rfl))) (fun _ _ _ _ _ => pts_nil) (fun _ _ _ _ _ => (pe_op op_sub (pe_cal c_law_take (hr.mono (by decide)) hgu (by rfl) (pa_cons (pv 0) (pa_cons pe_int pa_nil))) pe_int))) (pgL K rfl (pgs_cons (pg_name (i := 1) sc_law_four.nd rfl (Or.inl rfl)) (pgs_cons (pg_name (i := 2) sc_law_four.nd rfl (Or.inl rfl)) (pgs_cons (pg_name (i := 3) sc_law_four.nd rfl (Or.inl rfl)) (pgs_cons (pg_name (i := 4) sc_law_four.nd rfl (Or.inl rfl)) pgs_nil))))))
    (pss_one (ps_ret (pe_ifExp (pt_cmpR op_ne (pe_op op_mulW (pv 1) (pv 4)) (pe_op op_mulW (pv 2) (pv 3)) (nomark _)) (pe_tup (pa_cons (pe_tup (pa_cons (pv 1) (pa_cons (pv 2) pa_nil))) (pa_cons (pe_tup (pa_cons (pv 3) (pa_cons (pv 4) pa_nil))) pa_nil))) (pe_tup (pa_cons (pe_tup (pa_cons pe_int (pa_cons pe_int pa_nil))) (pa_cons (pe_tup (pa_cons pe_int (pa_cons pe_int pa_nil))) pa_nil))))))), ?_⟩
  try dsimp only [cxOf]
  refine pu_body h (fun ds m pp hl hp hc e hn hz => ?_)
  obtain rfl := len0 hl
  have hc : 4 ≤ m := hc
  show wS _ _ ⟨[some ((.lab pp)), none, none, none, none, none], [⟨pp, false, .pu m⟩]⟩ _
  repeat' walk_at "ux"
  refine wE_lc ?_
  repeat' walk_at "ux"
  refine ⟨fun i acc mm => ∃ rs : List Int, acc = rs.map PyData.int ∧ rs.length = i ∧ (∀ t ∈ rs, t.natAbs ≤ 10) ∧ i ≤ 4 ∧ mm = [⟨pp, false, .pu (m - i)⟩], ?_, ?_, ?_, ?_, ?_⟩
  · rw [rangeD_len]; exact sz_small (by decide)
  · rintro i acc mm ⟨_, _, _, _, _, rfl⟩; rfl
  · exact ⟨[], rfl, rfl, by simp, by decide, rfl⟩
  · rintro i x acc mm hx ⟨rs, rfl, hcl, hc1, hi, rfl⟩
    obtain ⟨hi2, rfl⟩ := rangeD_get hx
    repeat' walk_at "ux"
    rename_i r r0 r1
    refine ⟨rs ++ [r - 2], by rw [List.map_append]; rfl, by rw [List.length_append, hcl]; rfl, fun t ht => ?_, by have : i < 4 := hi2; omega, rfl⟩
    rcases List.mem_append.mp ht with h | h
    · exact hc1 t h
    · rw [List.mem_singleton.mp h]; omega
  · rintro acc mm ⟨rs, rfl, hcl, hc1, hi, rfl⟩ _
    rw [rangeD_len] at hcl
    obtain ⟨a, b, c, d, rfl⟩ : ∃ a b c d, rs = [a, b, c, d] := by
      match rs, hcl with
      | [a, b, c, d], _ => exact ⟨a, b, c, d, rfl⟩
    have ha := hc1 a (by simp)
    have hb := hc1 b (by simp)
    have hcc := hc1 c (by simp)
    have hd := hc1 d (by simp)
    refine wG_lst rfl ?_
    dsimp only [List.map]
    repeat' walk_at "ux"
    have b1 : Bd 2 a := by unfold Bd; omega
    have b2 : Bd 2 b := by unfold Bd; omega
    have b3 : Bd 2 c := by unfold Bd; omega
    have b4 : Bd 2 d := by unfold Bd; omega
    repeat' walk_at "ux"
    refine itn2 (fun c => ?_) (fun c => ?_)
    · repeat' walk_at "ux"
      exact hz _ _ _ _ ⟨_, _, _, _, rfl, ha, hb, hcc, hd⟩ (.head _) (by show m - 4 ≤ _; omega)
    · repeat' walk_at "ux"
      exact hz _ _ _ _ ⟨1, 0, 0, 1, rfl, by decide, by decide, by decide, by decide⟩ (.head _) (by show m - 4 ≤ _; omega)
abbrev s_law_eight : Stmt := topS 43
abbrev N_law_eight : List Str := ["_law_purse_here", "_law_pool"]
theorem sc_law_eight : FnScope N_law_eight ["_law_purse_here"] (defScope s_law_eight) := ⟨rfl, rfl, rfl, by decide +kernel, rfl, by decide +kernel, by decide +kernel⟩
theorem ok_law_eight (d : Df K mg "_law_eight" s_law_eight ["_law_purse_here"]) (c_law_take : Cal P w K mg base 1 "_law_take" ["_law_purse_here", "_law_below"] (sp_law_take K)) : Cal P w K mg base 2 "_law_eight" ["_law_purse_here"] (sp_law_eight K) := by
  refine d.ok sc_law_eight (puSp_len rfl) (fun f cdv A outer s H vs Q E hr hgu h => ?_)
  refine ⟨_, (pss_cons (ps_set (i := 1) sc_law_eight.nd rfl (Or.inl rfl) (pe_lst (pa_cons (pe_tup (pa_cons (pe_tup (pa_cons pe_int (pa_cons pe_int (pa_cons pe_int (pa_cons pe_int pa_nil))))) (pa_cons (pe_tup (pa_cons pe_int (pa_cons pe_int (pa_cons pe_int (pa_cons pe_int pa_nil))))) pa_nil))) (pa_cons (pe_tup (pa_cons (pe_tup (pa_cons pe_int (pa_cons pe_int (pa_cons (pe_op op_sub pe_int pe_int) (pa_cons pe_int pa_nil))))) (pa_cons (pe_tup (pa_cons pe_int (pa_cons pe_int (pa_cons pe_int (pa_cons pe_int pa_nil))))) pa_nil))) (pa_cons (pe_tup (pa_cons (pe_tup (pa_cons pe_int (pa_cons pe_int (pa_cons pe_int (pa_cons pe_int pa_nil))))) (pa_cons (pe_tup (pa_cons pe_int (pa_cons pe_int (pa_cons pe_int (pa_cons pe_int pa_nil))))) pa_nil))) pa_nil)))))
    (pss_cons (ps_set (i := 1) sc_law_eight.nd rfl (Or.inl rfl) (pe_op (catK K) (pv 1) (pe_lst (pa_cons (pe_tup (pa_cons (pe_tup (pa_cons pe_int (pa_cons pe_int (pa_cons pe_int (pa_cons pe_int pa_nil))))) (pa_cons (pe_tup (pa_cons pe_int (pa_cons pe_int (pa_cons pe_int (pa_cons pe_int pa_nil))))) pa_nil))) (pa_cons (pe_tup (pa_cons (pe_tup (pa_cons pe_int (pa_cons pe_int (pa_cons pe_int (pa_cons pe_int pa_nil))))) (pa_cons (pe_tup (pa_cons pe_int (pa_cons pe_int (pa_cons pe_int (pa_cons pe_int pa_nil))))) pa_nil))) (pa_cons (pe_tup (pa_cons (pe_tup (pa_cons pe_int (pa_cons pe_int (pa_cons pe_int (pa_cons pe_int pa_nil))))) (pa_cons (pe_tup (pa_cons pe_int (pa_cons pe_int (pa_cons pe_int (pa_cons pe_int pa_nil))))) pa_nil))) pa_nil))))))
    (pss_one (ps_ret (pe_ix (ixK K) (pv 1) (pe_cal c_law_take (hr.mono (by decide)) hgu (by rfl) (pa_cons (pv 0) (pa_cons pe_int pa_nil))) (fun _ _ => rfl)))))), ?_⟩
  try dsimp only [cxOf]
  refine pu_body h (fun ds m pp hl hp hc e hn hz => ?_)
  obtain rfl := len0 hl
  have hc : 1 ≤ m := hc
  show wS _ _ ⟨[some ((.lab pp)), none], [⟨pp, false, .pu m⟩]⟩ _
  repeat' walk_at "ux"
  rename_i q1 q10 q11
  refine ixD_any q10 q11 (fun g hg => ?_)
  exact hz _ _ _ _ hg (.head _) (Nat.le_refl _)
abbrev s_law_machine : Stmt := topS 44
abbrev N_law_machine : List Str := ["_law_purse_here", "_law_name", "_law_ahead", "_law_one", "_law_other", "_law_manner", "_law_most_here", "_law_way"]
theorem sc_law_machine : FnScope N_law_machine ["_law_purse_here", "_law_name", "_law_ahead"] (defScope s_law_machine) := ⟨rfl, rfl, rfl, by decide +kernel, rfl, by decide +kernel, by decide +kernel⟩
theorem ok_law_machine (d : Df K mg "_law_machine" s_law_machine ["_law_purse_here", "_law_name", "_law_ahead"]) (c_law_take : Cal P w K mg base 1 "_law_take" ["_law_purse_here", "_law_below"] (sp_law_take K)) (c_law_four : Cal P w K mg base 2 "_law_four" ["_law_purse_here"] (sp_law_four K)) (c_law_eight : Cal P w K mg base 2 "_law_eight" ["_law_purse_here"] (sp_law_eight K)) (b_len : mg "len" = none) (b_max : mg "max" = none) : Cal P w K mg base 3 "_law_machine" ["_law_purse_here", "_law_name", "_law_ahead"] (sp_law_machine K) := by
  refine d.ok sc_law_machine (puSp_len rfl) (fun f cdv A outer s H vs Q E hr hgu h => ?_)
  refine ⟨_, (pss_cons (ps_set (i := 3) sc_law_machine.nd rfl (Or.inl rfl) (pe_ix (ixK K) (pv 2) (pe_cal c_law_take (hr.mono (by decide)) hgu (by rfl) (pa_cons (pv 0) (pa_cons (pe_callB (lenK K) (by rfl) b_len (by decide +kernel) (pa_cons (pv 2) pa_nil)) pa_nil))) (fun _ _ => rfl)))
    (pss_cons (ps_set (i := 4) sc_law_machine.nd rfl (Or.inl rfl) (pe_ix (ixK K) (pv 2) (pe_cal c_law_take (hr.mono (by decide)) hgu (by rfl) (pa_cons (pv 0) (pa_cons (pe_callB (lenK K) (by rfl) b_len (by decide +kernel) (pa_cons (pv 2) pa_nil)) pa_nil))) (fun _ _ => rfl)))
    (pss_cons (ps_set (i := 5) sc_law_machine.nd rfl (Or.inl rfl) (pe_ix (ixK K) (pe_lst (pa_cons pe_str (pa_cons pe_str (pa_cons pe_str (pa_cons pe_str pa_nil))))) (pe_cal c_law_take (hr.mono (by decide)) hgu (by rfl) (pa_cons (pv 0) (pa_cons pe_int pa_nil))) (fun _ _ => rfl)))
    (pss_cons (ps_set (i := 6) sc_law_machine.nd rfl (Or.inl rfl) (pe_ix (ixK K) (pe_lst (pa_cons pe_int (pa_cons pe_int (pa_cons pe_int (pa_cons (pe_op op_add pe_int (pe_cal c_law_take (hr.mono (by decide)) hgu (by rfl) (pa_cons (pv 0) (pa_cons pe_int pa_nil)))) pa_nil))))) (pe_cal c_law_take (hr.mono (by decide)) hgu (by rfl) (pa_cons (pv 0) (pa_cons pe_int pa_nil))) (fun _ _ => rfl)))
    (pss_cons (ps_set (i := 7) sc_law_machine.nd rfl (Or.inl rfl) (pe_cal c_law_take (hr.mono (by decide)) hgu (by rfl) (pa_cons (pv 0) (pa_cons pe_int pa_nil))))
    (pss_cons (ps_if (pt_cmpR op_eq (pv 7) pe_int (nomark _)) (pss_one (ps_ret (pe_tup (pa_cons (pe_tup (pa_cons pe_str (pa_cons (pv 1) (pa_cons (pe_ix (ixK K) (pv 3) pe_int (fun _ _ => rfl)) (pa_cons (pv 6) pa_nil))))) (pa_cons (pe_op op_add (pe_ix (ixK K) (pv 3) pe_int (fun _ _ => rfl)) pe_int) pa_nil))))) pss_nil)
    (pss_cons (ps_if (pt_cmpR op_eq (pv 7) pe_int (nomark _)) (pss_one (ps_ret (pe_tup (pa_cons (pe_tup (pa_cons pe_str (pa_cons (pv 1) (pa_cons (pe_ix (ixK K) (pv 3) pe_int (fun _ _ => rfl)) (pa_cons (pe_ix (ixK K) (pv 4) pe_int (fun _ _ => rfl)) (pa_cons (pv 5) (pa_cons (pv 6) (pa_cons (pe_cal c_law_eight (hr.mono (by decide)) hgu (by rfl) (pa_cons (pv 0) pa_nil)) pa_nil)))))))) (pa_cons (pe_op op_add (pe_callB (call_max2 rfl) (by rfl) b_max (by decide +kernel) (pa_cons (pe_ix (ixK K) (pv 3) pe_int (fun _ _ => rfl)) (pa_cons (pe_ix (ixK K) (pv 4) pe_int (fun _ _ => rfl)) pa_nil))) pe_int) pa_nil))))) pss_nil)
    (pss_one (ps_ret (pe_tup (pa_cons (pe_tup (pa_cons pe_str (pa_cons (pv 1) (pa_cons (pe_ix (ixK K) (pv 3) pe_int (fun _ _ => rfl)) (pa_cons (pv 5) (pa_cons (pv 6) (pa_cons (pe_cal c_law_four (hr.mono (by decide)) hgu (by rfl) (pa_cons (pv 0) pa_nil)) pa_nil))))))) (pa_cons (pe_op op_add (pe_ix (ixK K) (pv 3) pe_int (fun _ _ => rfl)) pe_int) pa_nil)))))))))))), ?_⟩
  try dsimp only [cxOf]
  refine pu_body h (fun ds m pp hl hp hc e hn hz => ?_)
  obtain ⟨s, ns, rfl, hs, hne, hnl, hns⟩ := hp
  have hc : 12 ≤ m := hc
  show wS _ _ ⟨[some ((.lab pp)), some (.d (.str s)), some (.d (.list (ns.map fun p => PyData.tuple [.str p.1, .int (p.2 : Nat)]))), none, none, none, none, none], [⟨pp, false, .pu m⟩]⟩ _
  repeat' walk_at "ux"
  have hll : 0 < ns.length := List.length_pos_iff.mpr hne
  refine ⟨⟨by rw [List.length_map]; omega, by rw [List.length_map]; omega, by omega⟩, fun r1 r10 r11 => ?_⟩
  obtain ⟨⟨u, du⟩, hp1, e1⟩ := dIx_pick r10 r11
  refine ⟨_, _, _, rfl, rfl, e1, ?_⟩
  repeat' walk_at "ux"
  refine ⟨⟨by rw [List.length_map]; omega, by rw [List.length_map]; omega, by omega⟩, fun r2 r20 r21 => ?_⟩
  obtain ⟨⟨v, dv⟩, hp2, e2⟩ := dIx_pick r20 r21
  refine ⟨_, _, _, rfl, rfl, e2, ?_⟩
  obtain ⟨hu, du3⟩ := hns _ hp1
  obtain ⟨hv, dv3⟩ := hns _ hp2
  dsimp only at hu hv du3 dv3
  repeat' walk_at "ux"
  rename_i q q0 q1
  refine ixD_any q0 q1 (fun g hg => ?_)
  obtain ⟨k, rfl⟩ : ∃ k : Mn, g = .str k.word := by
    simp only [List.mem_cons, List.not_mem_nil, or_false] at hg
    rcases hg with rfl | rfl | rfl | rfl
    · exact ⟨.fl, rfl⟩
    · exact ⟨.fl, rfl⟩
    · exact ⟨.ce, rfl⟩
    · exact ⟨.ne, rfl⟩
  clear hg q0 q1 q
  repeat' walk_at "ux"
  rename_i q3 q30 q31 q q0 q1
  refine ixD_any q0 q1 (fun g hg => ?_)
  obtain ⟨t, rfl, t1, t2⟩ : ∃ t : Int, g = .int t ∧ 1 ≤ t ∧ t ≤ 64 := by
    simp only [List.mem_cons, List.not_mem_nil, or_false] at hg
    rcases hg with rfl | rfl | rfl | rfl <;> exact ⟨_, rfl, by omega, by omega⟩
  clear hg q0 q1 q q30 q31 q3
  repeat' walk_at "ux"
  have fin : ∀ (row : D) (n : Nat) (j : Int) y kk, j = (n : Int) → rowB row = true → RowS 7 row → n ≤ 4 → (⟨pp, false, .pu kk⟩ : Cl) ∈ y.m → m - 12 ≤ kk → e.rt (.d (.tuple [row, .int j])) y := fun row n j y kk ej h1 h2 h3 h4 h5 => by
    subst ej
    exact hz _ _ _ _ ⟨row, n, rfl, h1, h2, h3⟩ h4 h5
  refine ite2 (fun c => ?_) (fun c => ?_)
  · repeat' walk_at "ux"
    refine fin _ (du + 1) _ _ _ (by omega) (rb_root hs hu t1 t2) (rowS_tup (n := 7) (by show 4 ≤ 7; decide) (by decide) fun x hx => ?_) (by omega) (.head _) (by omega)
    simp only [List.mem_cons, List.not_mem_nil, or_false] at hx
    rcases hx with rfl | rfl | rfl | rfl
    · exact el_str (by decide) (okT_ofS _)
    · exact hs.el
    · exact hu.el
    · exact el_int (by omega)
  · repeat' walk_at "ux"
    refine ite2 (fun c => ?_) (fun c => ?_)
    · repeat' walk_at "ux"
      intro d hd
      obtain ⟨h4, h5⟩ := eights_ok hd
      repeat' walk_at "ux"
      refine fin _ ((if (dv : Int) > (du : Int) then dv else du) + 1) _ _ _ (by split <;> omega) (rb_two hs hu hv t1 t2 h4) (rowS_tup (n := 7) (by show 7 ≤ 7; decide) (by decide) fun x hx => ?_) (by split <;> omega) (.head _) (by omega)
      simp only [List.mem_cons, List.not_mem_nil, or_false] at hx
      rcases hx with rfl | rfl | rfl | rfl | rfl | rfl | rfl
      · exact el_str (by decide) (okT_ofS _)
      · exact hs.el
      · exact hu.el
      · exact hv.el
      · exact el_word k
      · exact el_int (by omega)
      · exact h5
    · repeat' walk_at "ux"
      rintro _ ⟨a, b, c', e', rfl, ha, hb, hcc, he⟩
      obtain ⟨h4, h5⟩ := four_ok ha hb hcc he
      repeat' walk_at "ux"
      refine fin _ (du + 1) _ _ _ (by omega) (rb_one hs hu t1 t2 h4) (rowS_tup (n := 7) (by show 6 ≤ 7; decide) (by decide) fun x hx => ?_) (by omega) (.head _) (by omega)
      simp only [List.mem_cons, List.not_mem_nil, or_false] at hx
      rcases hx with rfl | rfl | rfl | rfl | rfl | rfl
      · exact el_str (by decide) (okT_ofS _)
      · exact hs.el
      · exact hu.el
      · exact el_word k
      · exact el_int (by omega)
      · exact h5
abbrev s_law_plan : Stmt := topS 45
abbrev N_law_plan : List Str := ["_law_purse_here", "_law_size_here", "_law_found", "_law_depths", "_law_name", "_law_ahead", "_law_row", "_law_depth", "_law_pair"]
theorem sc_law_plan : FnScope N_law_plan ["_law_purse_here", "_law_size_here"] (defScope s_law_plan) := ⟨rfl, rfl, rfl, by decide +kernel, rfl, by decide +kernel, by decide +kernel⟩
theorem ok_law_plan (d : Df K mg "_law_plan" s_law_plan ["_law_purse_here", "_law_size_here"]) (c_law_take : Cal P w K mg base 1 "_law_take" ["_law_purse_here", "_law_below"] (sp_law_take K)) (c_law_names : Cal P w K mg base 2 "_law_names" ["_law_purse_here", "_law_size_here"] (sp_law_names K)) (c_law_source : Cal P w K mg base 3 "_law_source" ["_law_purse_here", "_law_name"] (sp_law_source K)) (c_law_machine : Cal P w K mg base 3 "_law_machine" ["_law_purse_here", "_law_name", "_law_ahead"] (sp_law_machine K)) : Cal P w K mg base 4 "_law_plan" ["_law_purse_here", "_law_size_here"] (sp_law_plan K) := by
  refine d.ok sc_law_plan (puSp_len rfl) (fun f cdv A outer s H vs Q E hr hgu h => ?_)
  refine ⟨_, (pss_cons (ps_par (i := 2) (j := 3) (by rfl) sc_law_plan.nd rfl rfl (by decide) rfl rfl (pa_cons (pe_lstL pa_nil) (pa_cons (pe_lstL pa_nil) pa_nil)) (by rfl))
    (pss_cons (ps_for PassesOwn.never rfl (piA K (pe_cal c_law_names (hr.mono (by decide)) hgu (by rfl) (pa_cons (pv 0) (pa_cons (pv 1) pa_nil)))) (pg_name (i := 4) sc_law_plan.nd rfl (Or.inl rfl)) (pss_cons (ps_setLc (i := 5) (own := [("_law_pair", 8)]) (g := gName 8) rfl sc_law_plan.nd rfl rfl (sw_true rfl rfl rfl (by decide +kernel)) (piL K (pv 3)) (blkOk_by (own := [("_law_pair", 8)]) (N := N_law_plan) (sc := defScope s_law_plan) (by decide +kernel)) (fun _ _ _ _ _ => (pg_name (i := 8) sc_law_plan.nd rfl (Or.inl rfl))) (fun _ _ _ _ _ => (pts_one (pt_cmpR op_lt (pe_ix (ixK K) (pv 8) pe_int (fun _ _ => rfl)) pe_int (nomark _)))) (fun _ _ _ _ _ => (pv 8)))
    (pss_one (ps_if (PW.pt (pw_or (pt_cmpR (eqNilK K hr.units) (pv 5) (pe_lst pa_nil) (nomark _)) (pw_or1 (pt_cmpR op_eq (pe_cal c_law_take (hr.mono (by decide)) hgu (by rfl) (pa_cons (pv 0) (pa_cons pe_int pa_nil))) pe_int (nomark _))))) (pss_cons (ps_expr (pe_bm PySem.F.plainAttrs_list PySem.F.slot_list_append PySem.F.type_list_append mt_append (pv 2) (pa_cons (pe_cal c_law_source (hr.mono (by decide)) hgu (by rfl) (pa_cons (pv 0) (pa_cons (pv 4) pa_nil))) pa_nil)))
    (pss_one (ps_expr (pe_bm PySem.F.plainAttrs_list PySem.F.slot_list_append PySem.F.type_list_append mt_append (pv 3) (pa_cons (pe_tup (pa_cons (pv 4) (pa_cons pe_int pa_nil))) pa_nil))))) (pss_cons (ps_asg (pe_cal c_law_machine (hr.mono (by decide)) hgu (by rfl) (pa_cons (pv 0) (pa_cons (pv 4) (pa_cons (pv 5) pa_nil)))) (pgT K rfl (pgs_cons (pg_name (i := 6) sc_law_plan.nd rfl (Or.inl rfl)) (pgs_cons (pg_name (i := 7) sc_law_plan.nd rfl (Or.inl rfl)) pgs_nil))))
    (pss_cons (ps_expr (pe_bm PySem.F.plainAttrs_list PySem.F.slot_list_append PySem.F.type_list_append mt_append (pv 2) (pa_cons (pv 6) pa_nil)))
    (pss_one (ps_expr (pe_bm PySem.F.plainAttrs_list PySem.F.slot_list_append PySem.F.type_list_append mt_append (pv 3) (pa_cons (pe_tup (pa_cons (pv 4) (pa_cons (pv 7) pa_nil))) pa_nil))))))))))
    (pss_one (ps_ret (pv 2))))), ?_⟩
  try dsimp only [cxOf]
  refine pu_body h (fun ds m pp hl hp hc e hn hz => ?_)
  obtain ⟨n, rfl, hn12⟩ := hp
  have hc : 1200 ≤ m := hc
  show wS _ _ ⟨[some ((.lab pp)), some (.d (.int (n : Nat))), none, none, none, none, none, none, none], [⟨pp, false, .pu m⟩]⟩ _
  repeat' walk_at "ux"
  rename_i pf pd
  refine wS_seq (wS_for ?_)
  refine wI_anyL ?_
  repeat' walk_at "ux"
  refine ⟨⟨n, rfl, hn12⟩, by omega, ?_⟩
  rintro _ ⟨n', ns, en, rfl, hnl, hns⟩
  obtain rfl : n = n' := by cases en; rfl
  refine ⟨_, rfl, ?_⟩
  dsimp only [List.set, S.set]
  refine forJ (fun j y => ∃ (rows : List D) (ds : List (Str × Nat)) (kk : Nat), y = ⟨[some (.lab pp), some (.d (.int (n : Nat))), some (.lab pf), some (.lab pd), none, none, none, none, none], [⟨pp, false, .pu kk⟩, ⟨pf, true, .lst (rows.map Z.d)⟩, ⟨pd, true, .lst ((ds.map prD).map Z.d)⟩]⟩ ∧ rows.length = j ∧ (∀ r ∈ rows, rowB r = true ∧ RowS 7 r) ∧ ds.length = j ∧ (∀ p ∈ ds, NmL p.1) ∧ m - 12 - 90 * j ≤ kk) ⟨_, ⟨[], [], m - 12, rfl, rfl, by simp, rfl, by simp, by omega⟩, by walk_at "lessu"⟩ (fun j x y' hx ⟨rows, ds, kk, ey, hrl, hr, hdl, hd, hk⟩ => ?_) (fun y2 y' ⟨rows, ds, kk, ey, hrl, hr, hdl, hd, hk⟩ hl => ?_)
  · subst ey
    rw [List.getElem?_map] at hx
    obtain ⟨s, hs, rfl⟩ := Option.map_eq_some_iff.mp hx
    have hsm : NmL s := hns s (List.mem_of_getElem? hs)
    have hj : j < 12 := by have := (List.getElem?_eq_some_iff.mp hs).1; omega
    have hsz1 : (rows.map Z.d).length < sizeLine := by rw [List.length_map, hrl]; exact Nat.lt_of_lt_of_le (show j < 1000 by omega) (by decide)
    have hsz2 : ((ds.map prD).map Z.d).length < sizeLine := by rw [List.length_map, List.length_map, hdl]; exact Nat.lt_of_lt_of_le (show j < 1000 by omega) (by decide)
    repeat' walk_at "ux"
    refine wE_lcLab 2 lt4 id rfl rfl (by rw [List.length_map]; exact sz_small (by omega)) (fun d hdm => ?_) ?_
    · obtain ⟨p, hp, rfl⟩ := List.mem_map.mp hdm
      show wT _ _ ⟨[none, some (.d (.int (n : Nat))), none, none, some (.d (.str s)), none, none, none, some (.d (prD p))], _⟩ _
      repeat' walk_at "ux"
      intro _
      repeat' (first | walk_at "ux" | rfl)
    · rw [List.map_id, filt_pr]
      have hah : ∀ p ∈ ds.filter (fun p => decide (p.2 < 4)), NmL p.1 ∧ p.2 ≤ 3 := fun p hp => by
        obtain ⟨h1, h2⟩ := List.mem_filter.mp hp
        exact ⟨hd p h1, by have := of_decide_eq_true h2; omega⟩
      have hal : (ds.filter fun p => decide (p.2 < 4)).length ≤ 12 := Nat.le_trans (List.length_filter_le _ _) (by omega)
      generalize (ds.filter fun p => decide (p.2 < 4)) = ah at hah hal ⊢
      repeat' walk_at "ux"
      rw [List.length_map, List.length_map]
      have esr : ∀ r : D, rows.map Z.d ++ [Z.d r] = (rows ++ [r]).map Z.d := fun r => by rw [List.map_append]; rfl
      have esd : ∀ q : Str × Nat, (ds.map prD).map Z.d ++ [Z.d (prD q)] = ((ds ++ [q]).map prD).map Z.d := fun q => by rw [List.map_append, List.map_append]; rfl
      have nxr : ∀ (r : D), rowB r = true ∧ RowS 7 r → ∀ x ∈ rows ++ [r], rowB x = true ∧ RowS 7 x := fun r h x hx => by
        rcases List.mem_append.mp hx with q | q
        · exact hr x q
        · rw [List.mem_singleton.mp q]; exact h
      have nxd : ∀ (q : Str × Nat), NmL q.1 → ∀ x ∈ ds ++ [q], NmL x.1 := fun r h x hx => by
        rcases List.mem_append.mp hx with q | q
        · exact hd x q
        · rw [List.mem_singleton.mp q]; exact h
      refine ite2 (fun c => ?_) (fun c => ?_)
      · repeat' walk_at "ux"
        refine ⟨⟨s, rfl, hsm⟩, by omega, ?_⟩
        rintro r hrr
        refine ⟨_, rfl, hsz1, ?_⟩
        dsimp only [List.set, S.set]
        repeat' walk_at "ux"
        refine wS_app (j := 2) rfl rfl ?_
        repeat' walk_at "ux"
        dsimp only [List.set, S.set]
        rw [esr, show Z.d (PyData.tuple [.str s, .int 0]) = Z.d (prD (s, 0)) from rfl, esd]
        exact ⟨_, ⟨rows ++ [r], ds ++ [(s, 0)], kk - 80, rfl, by rw [List.length_append, hrl]; rfl, nxr _ hrr, by rw [List.length_append, hdl]; rfl, nxd (s, 0) hsm, by omega⟩, by walk_at "lessu"⟩
      · have c := of_decide_eq_false (Bool.eq_false_iff.mpr c)
        repeat' walk_at "ux"
        rename_i q q0 q1
        cases hq : eqS (PyData.int q) (PyData.int 0) with
        | true =>
          first | refine ⟨_, rfl, ?_⟩ | skip
          refine itb_t rfl ?_
          dsimp only [List.set, S.set]
          repeat' walk_at "ux"
          refine ⟨⟨s, rfl, hsm⟩, by omega, ?_⟩
          rintro r hrr
          refine ⟨_, rfl, hsz1, ?_⟩
          dsimp only [List.set, S.set]
          repeat' walk_at "ux"
          refine wS_app (j := 2) rfl rfl ?_
          repeat' walk_at "ux"
          dsimp only [List.set, S.set]
          rw [esr, show Z.d (PyData.tuple [.str s, .int 0]) = Z.d (prD (s, 0)) from rfl, esd]
          exact ⟨_, ⟨rows ++ [r], ds ++ [(s, 0)], kk - 1 - 80, rfl, by rw [List.length_append, hrl]; rfl, nxr _ hrr, by rw [List.length_append, hdl]; rfl, nxd (s, 0) hsm, by omega⟩, by walk_at "lessu"⟩
        | false =>
          repeat' walk_at "ux"
          refine ⟨⟨s, ah, rfl, hsm, fun z => c (by rw [z]; rfl), hal, hah⟩, by omega, ?_⟩
          rintro _ ⟨row, dp, rfl, h1, h2, h3⟩
          dsimp only [List.set, S.set]
          repeat' walk_at "ux"
          show wS _ (tDrop _) _ _
          dsimp only [List.set, S.set]
          refine wS_app (j := 2) rfl rfl ?_
          repeat' walk_at "ux"
          dsimp only [List.set, S.set]
          rw [esr, show Z.d (PyData.tuple [.str s, .int (dp : Nat)]) = Z.d (prD (s, dp)) from rfl, esd]
          exact ⟨_, ⟨rows ++ [row], ds ++ [(s, dp)], kk - 1 - 12, rfl, by rw [List.length_append, hrl]; rfl, nxr _ ⟨h1, h2⟩, by rw [List.length_append, hdl]; rfl, nxd (s, dp) hsm, by omega⟩, by walk_at "lessu"⟩
  · subst ey
    rw [List.length_map] at hrl hk
    refine wS_next ?_
    show wS _ (tRet _) _ _
    refine wS_weak ?_ hl
    refine wS_frzA 2 (A := [⟨pp, false, .pu kk⟩]) (B := [⟨pd, true, .lst ((ds.map prD).map Z.d)⟩]) rfl rfl ?_
    repeat' walk_at "ux"
    exact hz _ _ _ _ ⟨n, rows, rfl, rfl, by omega, hr⟩ (.head _) (by omega)
abbrev s_law_size : Stmt := topS 46
abbrev N_law_size : List Str := ["_law_purse_here"]
theorem sc_law_size : FnScope N_law_size ["_law_purse_here"] (defScope s_law_size) := ⟨rfl, rfl, rfl, by decide +kernel, rfl, by decide +kernel, by decide +kernel⟩
theorem ok_law_size (d : Df K mg "_law_size" s_law_size ["_law_purse_here"]) (c_law_take : Cal P w K mg base 1 "_law_take" ["_law_purse_here", "_law_below"] (sp_law_take K)) : Cal P w K mg base 2 "_law_size" ["_law_purse_here"] (sp_law_size K) := by
  refine d.ok sc_law_size (puSp_len rfl) (fun f cdv A outer s H vs Q E hr hgu h => ?_)
  refine ⟨_, (pss_one (ps_ret (pe_ix (ixK K) (pe_lst (pa_cons pe_int (pa_cons pe_int (pa_cons pe_int (pa_cons (pe_op op_add pe_int (pe_cal c_law_take (hr.mono (by decide)) hgu (by rfl) (pa_cons (pv 0) (pa_cons pe_int pa_nil)))) (pa_cons (pe_cal c_law_take (hr.mono (by decide)) hgu (by rfl) (pa_cons (pv 0) (pa_cons pe_int pa_nil))) pa_nil)))))) (pe_cal c_law_take (hr.mono (by decide)) hgu (by rfl) (pa_cons (pv 0) (pa_cons pe_int pa_nil))) (fun _ _ => rfl)))), ?_⟩
  try dsimp only [cxOf]
  refine pu_body h (fun ds m pp hl hp hc e hn hz => ?_)
  obtain rfl := len0 hl
  have hc : 3 ≤ m := hc
  show wS _ _ ⟨[some ((.lab pp))], [⟨pp, false, .pu m⟩]⟩ _
  repeat' walk_at "ux"
  rename_i q1 q10 q11 q2 q20 q21 q3 q30 q31
  refine ixD_any q30 q31 (fun g hg => ?_)
  simp only [List.mem_cons, List.not_mem_nil, or_false] at hg
  have fin : ∀ n : Int, 0 ≤ n → n ≤ 12 → ∃ k : Nat, PyData.int n = .int k ∧ k ≤ 12 := fun n h1 h2 => ⟨n.toNat, by rw [Int.toNat_of_nonneg h1], by omega⟩
  rcases hg with rfl | rfl | rfl | rfl | rfl <;> exact hz _ _ _ _ (fin _ (by omega) (by omega)) (.head _) (by show m - 3 ≤ _; omega)
abbrev s_law_called : Stmt := topS 48
abbrev N_law_called : List Str := ["_law_thing", "_law_sign"]
theorem sc_law_called : FnScope N_law_called ["_law_thing"] (defScope s_law_called) := ⟨rfl, rfl, rfl, by decide +kernel, rfl, by decide +kernel, by decide +kernel⟩
theorem ok_law_called (d : Df K mg "_law_called" s_law_called ["_law_thing"]) (b_isinstance : mg "isinstance" = none) (b_len : mg "len" = none) (b_str : mg "str" = none) : Cal P w K mg base 1 "_law_called" ["_law_thing"] (sp_law_called K) := by
  refine d.ok sc_law_called (pureSp_len rfl) (fun f cdv A outer s H vs Q E hr hgu h => ?_)
  refine ⟨_, (pss_cons (ps_if (PW.pt (pw_or (pt_not (pt_val (pe_callB (isiK K) (by rfl) b_isinstance (by decide +kernel) (pa_cons (pv 0) (pa_cons (pe_bltn (v := .ty "str") (by rfl) b_str (by decide +kernel) rfl) pa_nil))))) (pw_or1 (pt_not (pt_chain op_le op_le pe_int (pe_callB (lenK K) (by rfl) b_len (by decide +kernel) (pa_cons (pv 0) pa_nil)) pe_int))))) (pss_one (ps_ret pe_bl)) pss_nil)
    (pss_one (ps_ret (pe_cmpR (eqNilK K hr.units) (pe_lc (own := [("_law_sign", 1)]) (g := gName 1) rfl sc_law_called.nd (pi_str (pv 0)) (blkOk_by (own := [("_law_sign", 1)]) (N := N_law_called) (sc := defScope s_law_called) (by decide +kernel)) (fun _ _ _ _ _ => (pg_name (i := 1) sc_law_called.nd rfl (Or.inl rfl))) (fun _ _ _ _ _ => (pts_one (pt_cmpR op_notIn_sign (pv 1) pe_str (by rfl)))) (fun _ _ _ _ _ => (pv 1))) (pe_lst pa_nil) (nomark _))))), ?_⟩
  try dsimp only [cxOf]
  refine pure_body h (fun ds hl hp e hn hz => ?_)
  obtain ⟨x, rfl⟩ : ∃ x, ds = [x] := len1 hl
  have hx : smD x = true := hp
  show wS _ _ ⟨[some (.d x), none], _⟩ _
  repeat' walk_at "ux"
  rw [isT_str]
  cases x with
  | str t =>
    obtain ⟨h1, h2⟩ := sm_str hx
    have hL : dLen (.str t) = some t.length := if_pos (Nat.le_trans h1 (by decide))
    have fin : ∀ (b : Bool) y, b = (decide (1 ≤ t.length) && decide (t.length ≤ 6) && onlyB t letters) → e.rt (.d (.bool b)) y := fun b y hb => hz _ _ (by rw [hb]; rfl)
    repeat' walk_at "ux"
    refine ite2 (fun e1 => ?_) (fun e1 => ?_)
    · have e1 := of_decide_eq_true e1
      repeat' walk_at "ux"
      refine ite2 (fun e2 => ?_) (fun e2 => ?_)
      · repeat' walk_at "ux"
        have e2 : ¬ ((t.length : Int) ≤ 6) := fun z => by rw [decide_eq_true z] at e2; cases e2
        exact fin _ _ (by rw [decide_eq_false (show ¬ t.length ≤ 6 by omega), Bool.and_false]; rfl)
      · have e2 : (t.length : Int) ≤ 6 := by
          by_cases z : (t.length : Int) ≤ 6
          · exact z
          · exact absurd (by rw [decide_eq_false z]; rfl) e2
        repeat' walk_at "ux"
        refine wE_lcF (y' := ⟨[some (.d (.str t)), none], []⟩) (fun d => match d with | .str ⟨#[c]⟩ => !decide (c ∈ letters.cps.toList) | _ => false) id ?_
        repeat' walk_at "ux"
        refine ⟨by rw [signs_len]; exact Nat.le_trans h1 (by decide), fun x hx => ?_, ?_⟩
        · obtain ⟨c, hc, rfl⟩ := List.mem_map.mp hx
          repeat' walk_at "ux"
          intro _
          repeat' (first | walk_at "ux" | exact ⟨rfl, rfl⟩ | rfl)
        · repeat' walk_at "ux"
          refine fin _ _ ?_
          rw [List.length_map, List.map_id, only_filter2 t _ (fun _ => rfl), decide_eq_true (show 1 ≤ t.length by omega), decide_eq_true (show t.length ≤ 6 by omega)]; rfl
    · repeat' walk_at "ux"
      exact fin _ _ (by rw [decide_eq_false (show ¬ 1 ≤ t.length by intro z; exact e1 (decide_eq_true (by omega)))]; rfl)
  | _ => repeat' (first | walk_at "ux" | (exact hz _ _ rfl))
abbrev s_law_short : Stmt := topS 47
abbrev N_law_short : List Str := ["_law_thing"]
theorem sc_law_short : FnScope N_law_short ["_law_thing"] (defScope s_law_short) := ⟨rfl, rfl, rfl, by decide +kernel, rfl, by decide +kernel, by decide +kernel⟩
theorem ok_law_short (d : Df K mg "_law_short" s_law_short ["_law_thing"]) (b_bool : mg "bool" = none) (b_int : mg "int" = none) (b_isinstance : mg "isinstance" = none) : Cal P w K mg base 1 "_law_short" ["_law_thing"] (sp_law_short K) := by
  refine d.ok sc_law_short (pureSp_len rfl) (fun f cdv A outer s H vs Q E hr hgu h => ?_)
  refine ⟨_, (pss_one (ps_ret (pe_and (pe_callB (isiK K) (by rfl) b_isinstance (by decide +kernel) (pa_cons (pv 0) (pa_cons (pe_bltn (v := .ty "int") (by rfl) b_int (by decide +kernel) rfl) pa_nil))) (pe_and (pe_not (pe_callB (isiK K) (by rfl) b_isinstance (by decide +kernel) (pa_cons (pv 0) (pa_cons (pe_bltn (v := .ty "bool") (by rfl) b_bool (by decide +kernel) rfl) pa_nil)))) (pe_one (pe_chain op_lt op_lt (pe_op op_sub pe_int (pe_op op_pow pe_int pe_int)) (pv 0) (pe_op op_pow pe_int pe_int))))))), ?_⟩
  try dsimp only [cxOf]
  refine pure_body h (fun ds hl hp e hn hz => ?_)
  obtain ⟨x, rfl⟩ : ∃ x, ds = [x] := len1 hl
  show wS _ _ ⟨[some (.d x)], _⟩ _
  repeat' walk_at "ux"
  rw [isT_int]
  cases x with
  | int i =>
    repeat' walk_at "ux"
    have fin : ∀ (b : Bool) y, b = (decide ((0 : Int) - 10 ^ 30 < i) && decide (i < 10 ^ 30)) → e.rt (.d (.bool b)) y := fun b y hb => hz _ _ (by
      show PyData.bool b = .bool (decide (-999999999999999999999999999999 ≤ i) && decide (i ≤ 999999999999999999999999999999))
      rw [hb]
      congr 1
      congr 1 <;> exact decide_eq_decide.mpr (by omega))
    refine ite2 (fun c => ?_) (fun c => ?_)
    · repeat' walk_at "ux"
      exact fin _ _ (by rw [c]; rfl)
    · repeat' walk_at "ux"
      exact fin _ _ (by rw [Bool.eq_false_iff.mpr c]; rfl)
  | _ => repeat' (first | walk_at "ux" | (exact hz _ _ rfl))
abbrev s_law_numbers : Stmt := topS 49
abbrev N_law_numbers : List Str := ["_law_thing", "_law_low", "_law_high", "_law_one"]
theorem sc_law_numbers : FnScope N_law_numbers ["_law_thing", "_law_low", "_law_high"] (defScope s_law_numbers) := ⟨rfl, rfl, rfl, by decide +kernel, rfl, by decide +kernel, by decide +kernel⟩
theorem ok_law_numbers (d : Df K mg "_law_numbers" s_law_numbers ["_law_thing", "_law_low", "_law_high"]) (c_law_short : Cal P w K mg base 1 "_law_short" ["_law_thing"] (sp_law_short K)) (b_isinstance : mg "isinstance" = none) (b_len : mg "len" = none) (b_tuple : mg "tuple" = none) : Cal P w K mg base 2 "_law_numbers" ["_law_thing", "_law_low", "_law_high"] (sp_law_numbers K) := by
  refine d.ok sc_law_numbers (pureSp_len rfl) (fun f cdv A outer s H vs Q E hr hgu h => ?_)
  refine ⟨_, (pss_cons (ps_if (PW.pt (pw_or (pt_not (pt_val (pe_callB (isiK K) (by rfl) b_isinstance (by decide +kernel) (pa_cons (pv 0) (pa_cons (pe_bltn (v := .ty "tuple") (by rfl) b_tuple (by decide +kernel) rfl) pa_nil))))) (pw_or1 (pt_not (pt_chain op_le op_le (pv 1) (pe_callB (lenK K) (by rfl) b_len (by decide +kernel) (pa_cons (pv 0) pa_nil)) (pv 2)))))) (pss_one (ps_ret pe_bl)) pss_nil)
    (pss_one (ps_ret (pe_cmpR (eqNilK K hr.units) (pe_lc (own := [("_law_one", 3)]) (g := gName 3) rfl sc_law_numbers.nd (piA K (pv 0)) (blkOk_by (own := [("_law_one", 3)]) (N := N_law_numbers) (sc := defScope s_law_numbers) (by decide +kernel)) (fun _ _ _ _ _ => (pg_name (i := 3) sc_law_numbers.nd rfl (Or.inl rfl))) (fun _ _ _ _ _ => (pts_one (pt_not (pt_val (pe_cal c_law_short (hr.mono (by decide)) hgu (by rfl) (pa_cons (pv 3) pa_nil)))))) (fun _ _ _ _ _ => (pv 3))) (pe_lst pa_nil) (nomark _))))), ?_⟩
  try dsimp only [cxOf]
  refine pure_body h (fun ds hl hp e hn hz => ?_)
  obtain ⟨x, lo, hi, rfl, hx⟩ := hp
  show wS _ _ ⟨[some (.d x), some (.d (.int lo)), some (.d (.int hi)), none], _⟩ _
  repeat' walk_at "ux"
  rw [isT_tuple]
  cases x with
  | tuple xs =>
    obtain ⟨xl, _⟩ := sm_tup hx
    have fin : ∀ (b : Bool) y, b = (decide (lo ≤ xs.length) && decide ((xs.length : Int) ≤ hi) && xs.all shortB) → e.rt (.d (.bool b)) y := fun b y hb => hz _ _ (by rw [hb]; rfl)
    repeat' walk_at "ux"
    refine ite2 (fun c1 => ?_) (fun c1 => ?_)
    · repeat' walk_at "ux"
      cases c2 : decide ((xs.length : Int) ≤ hi) with
      | true =>
        repeat' walk_at "ux"
        refine wE_lcF (y' := ⟨[some (.d (.tuple xs)), some (.d (.int lo)), some (.d (.int hi)), none], []⟩) (fun d => !shortB d) id ?_
        refine wI_any (i := 0) rfl rfl ?_
        refine ⟨rfl, sz_small (by omega), fun r hr => ?_, ?_⟩
        · repeat' walk_at "ux"
          intro _
          repeat' (first | walk_at "ux" | exact ⟨rfl, rfl⟩ | rfl)
        · repeat' walk_at "ux"
          refine fin _ _ ?_
          rw [List.length_map, List.map_id, filter_nil_all, c1, c2]; rfl
      | false =>
        repeat' walk_at "ux"
        refine fin _ _ ?_
        rw [c2, Bool.and_false]; rfl
    · repeat' walk_at "ux"
      exact fin _ _ (by rw [Bool.eq_false_iff.mpr c1]; rfl)
  | _ => repeat' (first | walk_at "ux" | (exact hz _ _ rfl))
abbrev s_law_word : Stmt := topS 50
abbrev N_law_word : List Str := ["_law_thing"]
theorem sc_law_word : FnScope N_law_word ["_law_thing"] (defScope s_law_word) := ⟨rfl, rfl, rfl, by decide +kernel, rfl, by decide +kernel, by decide +kernel⟩
theorem ok_law_word (d : Df K mg "_law_word" s_law_word ["_law_thing"]) (b_isinstance : mg "isinstance" = none) (b_str : mg "str" = none) : Cal P w K mg base 1 "_law_word" ["_law_thing"] (sp_law_word K) := by
  refine d.ok sc_law_word (pureSp_len rfl) (fun f cdv A outer s H vs Q E hr hgu h => ?_)
  refine ⟨_, (pss_one (ps_ret (pe_and (pe_callB (isiK K) (by rfl) b_isinstance (by decide +kernel) (pa_cons (pv 0) (pa_cons (pe_bltn (v := .ty "str") (by rfl) b_str (by decide +kernel) rfl) pa_nil))) (pe_one (pe_cmpR (inK K) (pv 0) (pe_tup (pa_cons pe_str (pa_cons pe_str (pa_cons pe_str pa_nil)))) (by rfl)))))), ?_⟩
  try dsimp only [cxOf]
  refine pure_body h (fun ds hl hp e hn hz => ?_)
  obtain ⟨x, rfl⟩ : ∃ x, ds = [x] := len1 hl
  show wS _ _ ⟨[some (.d x)], _⟩ _
  repeat' walk_at "ux"
  rw [isT_str]
  cases x with
  | str s =>
    repeat' walk_at "ux"
    refine wE_inT ?_
    repeat' walk_at "ux"
    refine ⟨_, _, rfl, .inl rfl, rfl, rfl, ?_⟩
    refine hz _ _ ?_
    show PyData.bool (inD (.str s) [.str "floor", .str "ceil", .str "near"]) = .bool (mannerB (.str s))
    rw [inD_mn3]
  | _ => repeat' (first | walk_at "ux" | (exact hz _ _ rfl))
abbrev s_law_most : Stmt := topS 51
abbrev N_law_most : List Str := ["_law_thing"]
theorem sc_law_most : FnScope N_law_most ["_law_thing"] (defScope s_law_most) := ⟨rfl, rfl, rfl, by decide +kernel, rfl, by decide +kernel, by decide +kernel⟩
theorem ok_law_most (d : Df K mg "_law_most" s_law_most ["_law_thing"]) (c_law_short : Cal P w K mg base 1 "_law_short" ["_law_thing"] (sp_law_short K)) : Cal P w K mg base 2 "_law_most" ["_law_thing"] (sp_law_most K) := by
  refine d.ok sc_law_most (pureSp_len rfl) (fun f cdv A outer s H vs Q E hr hgu h => ?_)
  refine ⟨_, (pss_one (ps_ret (pe_and (pe_cal c_law_short (hr.mono (by decide)) hgu (by rfl) (pa_cons (pv 0) pa_nil)) (pe_one (pe_chain op_le op_le pe_int (pv 0) pe_int))))), ?_⟩
  try dsimp only [cxOf]
  refine pure_body h (fun ds hl hp e hn hz => ?_)
  obtain ⟨x, rfl⟩ : ∃ x, ds = [x] := len1 hl
  show wS _ _ ⟨[some (.d x)], _⟩ _
  repeat' walk_at "ux"
  cases hs : shortB x with
  | true =>
    rw [show shortB (a0 [x]) = true from hs]
    obtain ⟨i, rfl⟩ : ∃ i, x = .int i := by cases x <;> first | exact ⟨_, rfl⟩ | cases hs
    repeat' walk_at "ux"
    refine ite2 (fun c => ?_) (fun c => ?_)
    · repeat' walk_at "ux"
      exact hz _ _ (by show PyData.bool _ = .bool (decide (1 ≤ i) && decide (i ≤ 64)); rw [c]; rfl)
    · repeat' walk_at "ux"
      exact hz _ _ (by show PyData.bool _ = .bool (decide (1 ≤ i) && decide (i ≤ 64)); rw [Bool.eq_false_iff.mpr c]; rfl)
  | false =>
    rw [show shortB (a0 [x]) = false from hs]
    repeat' walk_at "ux"
    refine hz _ _ ?_
    show PyData.bool false = .bool (mostB x)
    cases x with
    | int i =>
      have hs : (decide (-999999999999999999999999999999 ≤ i) && decide (i ≤ 999999999999999999999999999999)) = false := hs
      show PyData.bool false = .bool (decide (1 ≤ i) && decide (i ≤ 64))
      congr 1
      symm
      rw [Bool.eq_false_iff] at hs ⊢
      intro z
      apply hs
      rw [Bool.and_eq_true] at z ⊢
      have z1 := of_decide_eq_true z.1
      have z2 := of_decide_eq_true z.2
      exact ⟨decide_eq_true (by omega), decide_eq_true (by omega)⟩
    | _ => rfl
abbrev s_law_two_rows : Stmt := topS 52
abbrev N_law_two_rows : List Str := ["_law_thing", "_law_many"]
theorem sc_law_two_rows : FnScope N_law_two_rows ["_law_thing", "_law_many"] (defScope s_law_two_rows) := ⟨rfl, rfl, rfl, by decide +kernel, rfl, by decide +kernel, by decide +kernel⟩
theorem ok_law_two_rows (d : Df K mg "_law_two_rows" s_law_two_rows ["_law_thing", "_law_many"]) (c_law_numbers : Cal P w K mg base 2 "_law_numbers" ["_law_thing", "_law_low", "_law_high"] (sp_law_numbers K)) (b_isinstance : mg "isinstance" = none) (b_len : mg "len" = none) (b_tuple : mg "tuple" = none) : Cal P w K mg base 3 "_law_two_rows" ["_law_thing", "_law_many"] (sp_law_two_rows K) := by
  refine d.ok sc_law_two_rows (pureSp_len rfl) (fun f cdv A outer s H vs Q E hr hgu h => ?_)
  refine ⟨_, (pss_cons (ps_if (PW.pt (pw_or (pt_not (pt_val (pe_callB (isiK K) (by rfl) b_isinstance (by decide +kernel) (pa_cons (pv 0) (pa_cons (pe_bltn (v := .ty "tuple") (by rfl) b_tuple (by decide +kernel) rfl) pa_nil))))) (pw_or1 (pt_cmpR op_ne (pe_callB (lenK K) (by rfl) b_len (by decide +kernel) (pa_cons (pv 0) pa_nil)) pe_int (nomark _))))) (pss_one (ps_ret pe_bl)) pss_nil)
    (pss_one (ps_ret (pe_and (pe_cal c_law_numbers (hr.mono (by decide)) hgu (by rfl) (pa_cons (pe_ix (ixK K) (pv 0) pe_int (fun _ _ => rfl)) (pa_cons (pv 1) (pa_cons (pv 1) pa_nil)))) (pe_one (pe_cal c_law_numbers (hr.mono (by decide)) hgu (by rfl) (pa_cons (pe_ix (ixK K) (pv 0) pe_int (fun _ _ => rfl)) (pa_cons (pv 1) (pa_cons (pv 1) pa_nil))))))))), ?_⟩
  try dsimp only [cxOf]
  refine pure_body h (fun ds hl hp e hn hz => ?_)
  obtain ⟨x, n, rfl, hx⟩ := hp
  show wS _ _ ⟨[some (.d x), some (.d (.int n))], _⟩ _
  repeat' walk_at "ux"
  rw [isT_tuple]
  cases x with
  | tuple xs =>
    obtain ⟨xl, xe⟩ := sm_tup hx
    match xs, xe with
    | [], _ => repeat' (first | walk_at "ux" | (exact hz _ _ rfl))
    | [u], _ => repeat' (first | walk_at "ux" | (exact hz _ _ rfl))
    | u :: v :: w :: r, _ =>
      repeat' (first | walk_at "ux" | (exact hz _ _ rfl))
    | [u, v], xe =>
      have hu := xe u (.head _)
      have hv := xe v (.tail _ (.head _))
      have fin : ∀ (b : Bool) y, b = (numsB n n u && numsB n n v) → e.rt (.d (.bool b)) y := fun b y hb => hz _ _ (by
        rw [hb]
        show PyData.bool _ = .bool (decide ([u, v].length = 2) && (numsB n n u && (numsB n n v && true)))
        rw [Bool.and_true]; rfl)
      repeat' walk_at "ux"
      refine ⟨⟨rfl, _, _, _, rfl, hu⟩, ?_⟩
      show ∃ b, Z.d (PyData.bool (numsB n n u)) = _ ∧ _
      cases hb : numsB n n u with
      | true =>
        repeat' walk_at "ux"
        refine ⟨⟨rfl, _, _, _, rfl, hv⟩, ?_⟩
        exact fin _ _ (by rw [hb]; rfl)
      | false =>
        repeat' walk_at "ux"
        exact fin _ _ (by rw [hb]; rfl)
  | _ => repeat' (first | walk_at "ux" | (exact hz _ _ rfl))
abbrev s_law_row_good : Stmt := topS 53
abbrev N_law_row_good : List Str := ["_law_row", "_law_sizes", "_law_many", "_law_more", "_law_name"]
theorem sc_law_row_good : FnScope N_law_row_good ["_law_row"] (defScope s_law_row_good) := ⟨rfl, rfl, rfl, by decide +kernel, rfl, by decide +kernel, by decide +kernel⟩
theorem ok_law_row_good (d : Df K mg "_law_row_good" s_law_row_good ["_law_row"]) (c_law_called : Cal P w K mg base 1 "_law_called" ["_law_thing"] (sp_law_called K)) (c_law_numbers : Cal P w K mg base 2 "_law_numbers" ["_law_thing", "_law_low", "_law_high"] (sp_law_numbers K)) (c_law_word : Cal P w K mg base 1 "_law_word" ["_law_thing"] (sp_law_word K)) (c_law_most : Cal P w K mg base 2 "_law_most" ["_law_thing"] (sp_law_most K)) (c_law_two_rows : Cal P w K mg base 3 "_law_two_rows" ["_law_thing", "_law_many"] (sp_law_two_rows K)) (b_int : mg "int" = none) (b_isinstance : mg "isinstance" = none) (b_len : mg "len" = none) (b_str : mg "str" = none) (b_tuple : mg "tuple" = none) : Cal P w K mg base 4 "_law_row_good" ["_law_row"] (sp_law_row_good K) := by
  refine d.ok sc_law_row_good (pureSp_len rfl) (fun f cdv A outer s H vs Q E hr hgu h => ?_)
  refine ⟨_, (pss_cons (ps_if (PW.pt (pw_or (pt_not (pt_val (pe_callB (isiK K) (by rfl) b_isinstance (by decide +kernel) (pa_cons (pv 0) (pa_cons (pe_bltn (v := .ty "tuple") (by rfl) b_tuple (by decide +kernel) rfl) pa_nil))))) (pw_or (pt_cmpR op_eq (pe_callB (lenK K) (by rfl) b_len (by decide +kernel) (pa_cons (pv 0) pa_nil)) pe_int (nomark _)) (pw_or1 (pt_not (pt_val (pe_callB (isiK K) (by rfl) b_isinstance (by decide +kernel) (pa_cons (pe_ix (ixK K) (pv 0) pe_int (fun _ _ => rfl)) (pa_cons (pe_bltn (v := .ty "str") (by rfl) b_str (by decide +kernel) rfl) pa_nil))))))))) (pss_one (ps_ret pe_bl)) pss_nil)
    (pss_cons (ps_set (i := 1) sc_law_row_good.nd rfl (Or.inl rfl) (pe_disp (pps_cons pe_str pe_int (pps_cons pe_str pe_int (pps_cons pe_str pe_int (pps_cons pe_str pe_int (pps_cons pe_str pe_int (pps_cons pe_str pe_int (pps_cons pe_str pe_int pps_nil))))))) (by rfl) (by rfl) (fun z => by cases z) (by decide)))
    (pss_cons (ps_if (PW.pt (pw_or (pt_cmp (pc_dnotin (hu_of hr) (pe_ix (ixK K) (pv 0) pe_int (fun _ _ => rfl)) (pv 1))) (pw_or (pt_cmpR (neK K hr.units) (pe_callB (lenK K) (by rfl) b_len (by decide +kernel) (pa_cons (pv 0) pa_nil)) (pe_dget (hu_of hr) (pv 1) (pe_ix (ixK K) (pv 0) pe_int (fun _ _ => rfl)) (fun _ _ => rfl)) (nomark _)) (pw_or1 (pt_not (pt_val (pe_cal c_law_called (hr.mono (by decide)) hgu (by rfl) (pa_cons (pe_ix (ixK K) (pv 0) pe_int (fun _ _ => rfl)) pa_nil)))))))) (pss_one (ps_ret pe_bl)) pss_nil)
    (pss_cons (ps_if (pt_cmpR (eqK K hr.units) (pe_ix (ixK K) (pv 0) pe_int (fun _ _ => rfl)) pe_str (nomark _)) (pss_one (ps_ret (pe_cal c_law_numbers (hr.mono (by decide)) hgu (by rfl) (pa_cons (pe_slice (slK K) (pv 0) (po_some pe_int) po_none) (pa_cons pe_int (pa_cons pe_int pa_nil)))))) pss_nil)
    (pss_cons (ps_if (PW.pt (pw_and (pt_cmpR (inK K) (pe_ix (ixK K) (pv 0) pe_int (fun _ _ => rfl)) (pe_tup (pa_cons pe_str (pa_cons pe_str (pa_cons pe_str pa_nil)))) (by rfl)) (pw_and1 (pt_not (pt_val (pe_cal c_law_word (hr.mono (by decide)) hgu (by rfl) (pa_cons (pe_ix (ixK K) (pv 0) pe_int (fun _ _ => rfl)) pa_nil))))))) (pss_one (ps_ret pe_bl)) pss_nil)
    (pss_cons (ps_if (pt_cmpR (eqK K hr.units) (pe_ix (ixK K) (pv 0) pe_int (fun _ _ => rfl)) pe_str (nomark _)) (pss_one (ps_ret pe_bl)) pss_nil)
    (pss_cons (ps_if (PW.pt (pw_and (pt_cmpR (inK K) (pe_ix (ixK K) (pv 0) pe_int (fun _ _ => rfl)) (pe_tup (pa_cons pe_str (pa_cons pe_str pa_nil))) (by rfl)) (pw_and1 (pt_not (pt_val (pe_cal c_law_numbers (hr.mono (by decide)) hgu (by rfl) (pa_cons (pe_ix (ixK K) (pv 0) pe_int (fun _ _ => rfl)) (pa_cons pe_int (pa_cons pe_int pa_nil))))))))) (pss_one (ps_ret pe_bl)) pss_nil)
    (pss_cons (ps_if (pt_cmpR (eqK K hr.units) (pe_ix (ixK K) (pv 0) pe_int (fun _ _ => rfl)) pe_str (nomark _)) (pss_one (ps_ret (pe_and (pe_cal c_law_numbers (hr.mono (by decide)) hgu (by rfl) (pa_cons (pe_ix (ixK K) (pv 0) pe_int (fun _ _ => rfl)) (pa_cons pe_int (pa_cons pe_int pa_nil)))) (pe_one (pe_or (pe_cmpR op_isN (pe_ix (ixK K) (pv 0) pe_int (fun _ _ => rfl)) pe_non (nomark _)) (pe_one (pe_cal c_law_numbers (hr.mono (by decide)) hgu (by rfl) (pa_cons (pe_ix (ixK K) (pv 0) pe_int (fun _ _ => rfl)) (pa_cons pe_int (pa_cons pe_int pa_nil)))))))))) pss_nil)
    (pss_cons (ps_if (pt_cmpR (eqK K hr.units) (pe_ix (ixK K) (pv 0) pe_int (fun _ _ => rfl)) pe_str (nomark _)) (pss_one (ps_ret pe_bl)) pss_nil)
    (pss_cons (ps_if (pt_cmpR (eqK K hr.units) (pe_ix (ixK K) (pv 0) pe_int (fun _ _ => rfl)) pe_str (nomark _)) (pss_one (ps_ret (pe_and (pe_cal c_law_called (hr.mono (by decide)) hgu (by rfl) (pa_cons (pe_ix (ixK K) (pv 0) pe_int (fun _ _ => rfl)) pa_nil)) (pe_one (pe_cal c_law_most (hr.mono (by decide)) hgu (by rfl) (pa_cons (pe_ix (ixK K) (pv 0) pe_int (fun _ _ => rfl)) pa_nil)))))) pss_nil)
    (pss_cons (ps_set (i := 2) sc_law_row_good.nd rfl (Or.inl rfl) (pe_op op_add pe_int (pe_callTy call_int1 (by rfl) b_int (by decide +kernel) (pa_cons (pe_cmpR (eqK K hr.units) (pe_ix (ixK K) (pv 0) pe_int (fun _ _ => rfl)) pe_str (nomark _)) pa_nil))))
    (pss_cons (ps_if (pt_cmpR (neNilK K hr.units) (pe_lc (own := [("_law_name", 4)]) (g := gName 4) rfl sc_law_row_good.nd (piA K (pe_slice (slK K) (pv 0) (po_some pe_int) (po_some (pe_op op_add pe_int (pv 2))))) (blkOk_by (own := [("_law_name", 4)]) (N := N_law_row_good) (sc := defScope s_law_row_good) (by decide +kernel)) (fun _ _ _ _ _ => (pg_name (i := 4) sc_law_row_good.nd rfl (Or.inl rfl))) (fun _ _ _ _ _ => (pts_one (pt_not (pt_val (pe_cal c_law_called (hr.mono (by decide)) hgu (by rfl) (pa_cons (pv 4) pa_nil)))))) (fun _ _ _ _ _ => (pv 4))) (pe_lst pa_nil) (nomark _)) (pss_one (ps_ret pe_bl)) pss_nil)
    (pss_cons (ps_set (i := 3) sc_law_row_good.nd rfl (Or.inl rfl) (pe_slice (slK K) (pv 0) (po_some (pe_op op_add pe_int (pv 2))) po_none))
    (pss_one (ps_ret (pe_and (pe_cal c_law_word (hr.mono (by decide)) hgu (by rfl) (pa_cons (pe_ix (ixK K) (pv 3) pe_int (fun _ _ => rfl)) pa_nil)) (pe_and (pe_cal c_law_most (hr.mono (by decide)) hgu (by rfl) (pa_cons (pe_ix (ixK K) (pv 3) pe_int (fun _ _ => rfl)) pa_nil)) (pe_one (pe_cal c_law_two_rows (hr.mono (by decide)) hgu (by rfl) (pa_cons (pe_ix (ixK K) (pv 3) pe_int (fun _ _ => rfl)) (pa_cons (pe_op op_sub (pe_op op_mulW pe_int (pv 2)) pe_int) pa_nil))))))))))))))))))))), ?_⟩
  try dsimp only [cxOf]
  refine pure_body h (fun ds hl hp e hn hz => ?_)
  obtain ⟨x, rfl⟩ : ∃ x, ds = [x] := len1 hl
  have hx : smD x = true := hp
  show wS _ _ ⟨[some (.d x), none, none, none, none], _⟩ _
  repeat' walk_at "ux"
  rw [isT_tuple]
  cases x with
  | tuple xs =>
    obtain ⟨xl, xe⟩ := sm_tup hx
    cases xs with
    | nil => repeat' (first | walk_at "ux" | (exact hz _ _ rfl))
    | cons w r =>
      have rl : r.length ≤ 899 := by rw [List.length_cons] at xl; omega
      have hix : dIx (.tuple (w :: r)) 0 = some w := dIx_at (i := 0) rfl rfl
      repeat' walk_at "ux"
      refine ⟨_, _, _, rfl, rfl, hix, ?_⟩
      repeat' walk_at "ux"
      rw [isT_str]
      cases w with
      | str s =>
        repeat' walk_at "ux"
        refine wE_dispSI sizesL (by decide +kernel) (by decide) ?_
        repeat' walk_at "ux"
        refine wE_dnotin (es := sizesL) ?_
        repeat' walk_at "ux"
        refine ⟨_, _, _, rfl, rfl, hix, ?_⟩
        repeat' walk_at "ux"
        rw [sizes_eq]
        cases hs : getT s shapesT with
        | none =>
          have fin : rowB (.tuple (.str s :: r)) = false := by show (match getT s shapesT with | some ks => decide (r.length = ks.length) && (List.zipWith kindB ks r).all id | none => false) = _; rw [hs]
          repeat' walk_at "ux"
          exact hz _ _ (by show PyData.bool false = .bool (rowB (.tuple (.str s :: r))); rw [fin])
        | some ks =>
          have fin : rowB (.tuple (.str s :: r)) = (decide (r.length = ks.length) && (List.zipWith kindB ks r).all id) := by show (match getT s shapesT with | some ks => decide (r.length = ks.length) && (List.zipWith kindB ks r).all id | none => false) = _; rw [hs]
          repeat' walk_at "ux"
          refine wE_dgetSI (es := sizesL) ?_
          repeat' walk_at "ux"
          refine ⟨_, _, _, rfl, rfl, hix, ?_⟩
          refine ⟨s, _, rfl, rfl, by rw [sizes_eq, hs]; rfl, ?_⟩
          have el : (!(PyData.int ((PyData.str s :: r).length : Nat)).eqv (PyData.int ((ks.length + 1 : Nat) : Int))) = !decide (r.length = ks.length) := by
            rw [eqv_int, List.length_cons]
            congr 1
            exact decide_eq_decide.mpr (by omega)
          repeat' walk_at "ux"
          dsimp only
          rw [el]
          refine itn2 (fun c => ?_) (fun c => ?_)
          · repeat' walk_at "ux"
            exact hz _ _ (by show PyData.bool false = .bool (rowB (.tuple (.str s :: r))); rw [fin, c]; rfl)
          rw [c, Bool.true_and] at fin
          have c := of_decide_eq_true c
          replace fin : ∀ (b : Bool) y, b = (List.zipWith kindB ks r).all id → e.rt (.d (.bool b)) y := fun b y hb => hz _ _ (by show PyData.bool b = .bool (rowB (.tuple (.str s :: r))); rw [fin, hb])
          have hm := getT_mem hs
          simp only [shapesT, List.mem_cons, List.not_mem_nil, or_false, Prod.mk.injEq] at hm
          have kb := @kindB_eq
          rcases hm with ⟨rfl, rfl⟩ | ⟨rfl, rfl⟩ | ⟨rfl, rfl⟩ | ⟨rfl, rfl⟩ | ⟨rfl, rfl⟩ | ⟨rfl, rfl⟩ | ⟨rfl, rfl⟩
          · obtain ⟨x1, x2, x3, rfl⟩ : ∃ x1 x2 x3, r = [x1, x2, x3] := by
              match r, c with
              | [yx1, yx2, yx3], _ => exact ⟨yx1, yx2, yx3, rfl⟩
            have h1 := xe x1 (.tail _ (.head _))
            have h2 := xe x2 (.tail _ (.tail _ (.head _)))
            have h3 := xe x3 (.tail _ (.tail _ (.tail _ (.head _))))
            replace fin : ∀ (b : Bool) y, b = (nameB x1 && (mannerB x2 && ((numsB 1 100) x3))) → e.rt (.d (.bool b)) y := fun b y hb => fin b y (by
              rw [hb]
              show _ = (kindB "name" x1 && (kindB "manner" x2 && (kindB "terms" x3 && true)))
              rw [kb "name" nameB x1 rfl, kb "manner" mannerB x2 rfl, kb "terms" (numsB 1 100) x3 rfl, Bool.and_true])
            repeat' walk_at "ux"
            refine ⟨⟨rfl, h1⟩, ?_⟩
            show ∃ b, Z.d (.bool (nameB x1)) = _ ∧ _
            cases b1 : nameB x1 with
            | false =>
              repeat' walk_at "ux"
              exact fin _ _ (by rw [b1] <;> rfl)
            | true =>
            rw [b1, Bool.true_and] at fin
            repeat' walk_at "ux"
            refine ⟨by decide +kernel, by decide +kernel, false, congrArg (fun b => Z.d (PyData.bool b)) ((eqv_str _ _).trans (by decide +kernel)), ?_⟩
            repeat' walk_at "ux"
            refine wE_inT ?_
            repeat' walk_at "ux"
            refine ⟨_, _, rfl, .inl rfl, by decide +kernel, by decide +kernel, ?_⟩
            rw [show inD (PyData.str "row") [PyData.str "row", PyData.str "ruled", PyData.str "fed"] = true by decide +kernel]
            repeat' walk_at "ux"
            rw [show mannerB (a0 [x2]) = mannerB x2 from rfl]
            cases b2 : mannerB x2 with
            | false =>
              repeat' walk_at "ux"
              exact fin _ _ (by rw [b2] <;> rfl)
            | true =>
            rw [b2, Bool.true_and] at fin
            repeat' walk_at "ux"
            refine ⟨by decide +kernel, by decide +kernel, false, congrArg (fun b => Z.d (PyData.bool b)) ((eqv_str _ _).trans (by decide +kernel)), ?_⟩
            repeat' walk_at "ux"
            refine wE_inT ?_
            repeat' walk_at "ux"
            refine ⟨_, _, rfl, .inl rfl, by decide +kernel, by decide +kernel, ?_⟩
            rw [show inD (PyData.str "row") [PyData.str "row", PyData.str "ruled"] = true by decide +kernel]
            repeat' walk_at "ux"
            refine ⟨⟨rfl, _, _, _, rfl, h3⟩, ?_⟩
            show ∃ b, Z.d (.bool ((numsB 1 100) x3)) = _ ∧ _
            cases b3 : (numsB 1 100) x3 with
            | false =>
              repeat' walk_at "ux"
              exact fin _ _ (by rw [b3] <;> rfl)
            | true =>
            rw [b3] at fin
            repeat' walk_at "ux"
            refine ⟨by decide +kernel, by decide +kernel, false, congrArg (fun b => Z.d (PyData.bool b)) ((eqv_str _ _).trans (by decide +kernel)), ?_⟩
            repeat' walk_at "ux"
            refine ⟨by decide +kernel, by decide +kernel, true, congrArg (fun b => Z.d (PyData.bool b)) ((eqv_str _ _).trans (by decide +kernel)), ?_⟩
            repeat' walk_at "ux"
            exact fin _ _ rfl
          · obtain ⟨x1, x2, x3, x4, x5, rfl⟩ : ∃ x1 x2 x3 x4 x5, r = [x1, x2, x3, x4, x5] := by
              match r, c with
              | [yx1, yx2, yx3, yx4, yx5], _ => exact ⟨yx1, yx2, yx3, yx4, yx5, rfl⟩
            have h1 := xe x1 (.tail _ (.head _))
            have h2 := xe x2 (.tail _ (.tail _ (.head _)))
            have h3 := xe x3 (.tail _ (.tail _ (.tail _ (.head _))))
            have h4 := xe x4 (.tail _ (.tail _ (.tail _ (.tail _ (.head _)))))
            have h5 := xe x5 (.tail _ (.tail _ (.tail _ (.tail _ (.tail _ (.head _))))))
            replace fin : ∀ (b : Bool) y, b = (nameB x1 && (mannerB x2 && ((numsB 1 100) x3 && ((numsB 1 20) x4 && (stepsB x5))))) → e.rt (.d (.bool b)) y := fun b y hb => fin b y (by
              rw [hb]
              show _ = (kindB "name" x1 && (kindB "manner" x2 && (kindB "terms" x3 && (kindB "round" x4 && (kindB "steps" x5 && true)))))
              rw [kb "name" nameB x1 rfl, kb "manner" mannerB x2 rfl, kb "terms" (numsB 1 100) x3 rfl, kb "round" (numsB 1 20) x4 rfl, kb "steps" stepsB x5 rfl, Bool.and_true])
            repeat' walk_at "ux"
            refine ⟨⟨rfl, h1⟩, ?_⟩
            show ∃ b, Z.d (.bool (nameB x1)) = _ ∧ _
            cases b1 : nameB x1 with
            | false =>
              repeat' walk_at "ux"
              exact fin _ _ (by rw [b1] <;> rfl)
            | true =>
            rw [b1, Bool.true_and] at fin
            repeat' walk_at "ux"
            refine ⟨by decide +kernel, by decide +kernel, false, congrArg (fun b => Z.d (PyData.bool b)) ((eqv_str _ _).trans (by decide +kernel)), ?_⟩
            repeat' walk_at "ux"
            refine wE_inT ?_
            repeat' walk_at "ux"
            refine ⟨_, _, rfl, .inl rfl, by decide +kernel, by decide +kernel, ?_⟩
            rw [show inD (PyData.str "ruled") [PyData.str "row", PyData.str "ruled", PyData.str "fed"] = true by decide +kernel]
            repeat' walk_at "ux"
            rw [show mannerB (a0 [x2]) = mannerB x2 from rfl]
            cases b2 : mannerB x2 with
            | false =>
              repeat' walk_at "ux"
              exact fin _ _ (by rw [b2] <;> rfl)
            | true =>
            rw [b2, Bool.true_and] at fin
            repeat' walk_at "ux"
            refine ⟨by decide +kernel, by decide +kernel, false, congrArg (fun b => Z.d (PyData.bool b)) ((eqv_str _ _).trans (by decide +kernel)), ?_⟩
            repeat' walk_at "ux"
            refine wE_inT ?_
            repeat' walk_at "ux"
            refine ⟨_, _, rfl, .inl rfl, by decide +kernel, by decide +kernel, ?_⟩
            rw [show inD (PyData.str "ruled") [PyData.str "row", PyData.str "ruled"] = true by decide +kernel]
            repeat' walk_at "ux"
            refine ⟨⟨rfl, _, _, _, rfl, h3⟩, ?_⟩
            show ∃ b, Z.d (.bool ((numsB 1 100) x3)) = _ ∧ _
            cases b3 : (numsB 1 100) x3 with
            | false =>
              repeat' walk_at "ux"
              exact fin _ _ (by rw [b3] <;> rfl)
            | true =>
            rw [b3, Bool.true_and] at fin
            repeat' walk_at "ux"
            refine ⟨by decide +kernel, by decide +kernel, true, congrArg (fun b => Z.d (PyData.bool b)) ((eqv_str _ _).trans (by decide +kernel)), ?_⟩
            repeat' walk_at "ux"
            refine ⟨⟨rfl, _, _, _, rfl, h4⟩, ?_⟩
            show ∃ b, Z.d (.bool ((numsB 1 20) x4)) = _ ∧ _
            cases b4 : (numsB 1 20) x4 with
            | false =>
              repeat' walk_at "ux"
              exact fin _ _ (by rw [b4] <;> rfl)
            | true =>
            rw [b4, Bool.true_and] at fin
            repeat' walk_at "ux"
            cases x5 with
            | none =>
              repeat' walk_at "ux"
              exact fin _ _ rfl
            | _ =>
              repeat' walk_at "ux"
              exact ⟨⟨rfl, _, _, _, rfl, h5⟩, fin _ _ rfl⟩
          · obtain ⟨x1, x2, rfl⟩ : ∃ x1 x2, r = [x1, x2] := by
              match r, c with
              | [yx1, yx2], _ => exact ⟨yx1, yx2, rfl⟩
            have h1 := xe x1 (.tail _ (.head _))
            have h2 := xe x2 (.tail _ (.tail _ (.head _)))
            replace fin : ∀ (b : Bool) y, b = (nameB x1 && (mannerB x2)) → e.rt (.d (.bool b)) y := fun b y hb => fin b y (by
              rw [hb]
              show _ = (kindB "name" x1 && (kindB "manner" x2 && true))
              rw [kb "name" nameB x1 rfl, kb "manner" mannerB x2 rfl, Bool.and_true])
            repeat' walk_at "ux"
            refine ⟨⟨rfl, h1⟩, ?_⟩
            show ∃ b, Z.d (.bool (nameB x1)) = _ ∧ _
            cases b1 : nameB x1 with
            | false =>
              repeat' walk_at "ux"
              exact fin _ _ (by rw [b1] <;> rfl)
            | true =>
            rw [b1, Bool.true_and] at fin
            repeat' walk_at "ux"
            refine ⟨by decide +kernel, by decide +kernel, false, congrArg (fun b => Z.d (PyData.bool b)) ((eqv_str _ _).trans (by decide +kernel)), ?_⟩
            repeat' walk_at "ux"
            refine wE_inT ?_
            repeat' walk_at "ux"
            refine ⟨_, _, rfl, .inl rfl, by decide +kernel, by decide +kernel, ?_⟩
            rw [show inD (PyData.str "fed") [PyData.str "row", PyData.str "ruled", PyData.str "fed"] = true by decide +kernel]
            repeat' walk_at "ux"
            rw [show mannerB (a0 [x2]) = mannerB x2 from rfl]
            cases b2 : mannerB x2 with
            | false =>
              repeat' walk_at "ux"
              exact fin _ _ (by rw [b2] <;> rfl)
            | true =>
            rw [b2] at fin
            repeat' walk_at "ux"
            refine ⟨by decide +kernel, by decide +kernel, true, congrArg (fun b => Z.d (PyData.bool b)) ((eqv_str _ _).trans (by decide +kernel)), ?_⟩
            repeat' walk_at "ux"
            exact fin _ _ rfl
          · obtain ⟨x1, x2, x3, x4, rfl⟩ : ∃ x1 x2 x3 x4, r = [x1, x2, x3, x4] := by
              match r, c with
              | [yx1, yx2, yx3, yx4], _ => exact ⟨yx1, yx2, yx3, yx4, rfl⟩
            have h1 := xe x1 (.tail _ (.head _))
            have h2 := xe x2 (.tail _ (.tail _ (.head _)))
            have h3 := xe x3 (.tail _ (.tail _ (.tail _ (.head _))))
            have h4 := xe x4 (.tail _ (.tail _ (.tail _ (.tail _ (.head _)))))
            replace fin : ∀ (b : Bool) y, b = (nameB x1 && (shortB x2 && (shortB x3 && (shortB x4)))) → e.rt (.d (.bool b)) y := fun b y hb => fin b y (by
              rw [hb]
              show _ = (kindB "name" x1 && (kindB "number" x2 && (kindB "number" x3 && (kindB "number" x4 && true))))
              rw [kb "name" nameB x1 rfl, kb "number" shortB x2 rfl, kb "number" shortB x3 rfl, kb "number" shortB x4 rfl, Bool.and_true])
            repeat' walk_at "ux"
            refine ⟨⟨rfl, h1⟩, ?_⟩
            show ∃ b, Z.d (.bool (nameB x1)) = _ ∧ _
            cases b1 : nameB x1 with
            | false =>
              repeat' walk_at "ux"
              exact fin _ _ (by rw [b1] <;> rfl)
            | true =>
            rw [b1, Bool.true_and] at fin
            repeat' walk_at "ux"
            refine ⟨by decide +kernel, by decide +kernel, true, congrArg (fun b => Z.d (PyData.bool b)) ((eqv_str _ _).trans (by decide +kernel)), ?_⟩
            repeat' walk_at "ux"
            rw [show Tq.cutD [PyData.str "surd", x1, x2, x3, x4] (some 2) none = [x2, x3, x4] from rfl]
            refine ⟨⟨rfl, _, _, _, rfl, sm_tup' (by show 3 ≤ 900; decide) (fun x hx => ?_)⟩, ?_⟩
            · simp only [List.mem_cons, List.not_mem_nil, or_false] at hx
              rcases hx with rfl | rfl | rfl <;> assumption
            · exact fin _ _ (by show (decide ((3 : Int) ≤ ((3 : Nat) : Int)) && decide (((3 : Nat) : Int) ≤ 3) && (shortB x2 && (shortB x3 && (shortB x4 && true)))) = _; rw [Bool.and_true]; rfl)
          · obtain ⟨x1, x2, x3, x4, x5, rfl⟩ : ∃ x1 x2 x3 x4 x5, r = [x1, x2, x3, x4, x5] := by
              match r, c with
              | [yx1, yx2, yx3, yx4, yx5], _ => exact ⟨yx1, yx2, yx3, yx4, yx5, rfl⟩
            have h1 := xe x1 (.tail _ (.head _))
            have h2 := xe x2 (.tail _ (.tail _ (.head _)))
            have h3 := xe x3 (.tail _ (.tail _ (.tail _ (.head _))))
            have h4 := xe x4 (.tail _ (.tail _ (.tail _ (.tail _ (.head _)))))
            have h5 := xe x5 (.tail _ (.tail _ (.tail _ (.tail _ (.tail _ (.head _))))))
            replace fin : ∀ (b : Bool) y, b = (nameB x1 && (nameB x2 && (mannerB x3 && (mostB x4 && ((twoB 2) x5))))) → e.rt (.d (.bool b)) y := fun b y hb => fin b y (by
              rw [hb]
              show _ = (kindB "name" x1 && (kindB "name" x2 && (kindB "manner" x3 && (kindB "most" x4 && (kindB "four" x5 && true)))))
              rw [kb "name" nameB x1 rfl, kb "name" nameB x2 rfl, kb "manner" mannerB x3 rfl, kb "most" mostB x4 rfl, kb "four" (twoB 2) x5 rfl, Bool.and_true])
            repeat' walk_at "ux"
            refine ⟨⟨rfl, h1⟩, ?_⟩
            show ∃ b, Z.d (.bool (nameB x1)) = _ ∧ _
            cases b1 : nameB x1 with
            | false =>
              repeat' walk_at "ux"
              exact fin _ _ (by rw [b1] <;> rfl)
            | true =>
            rw [b1, Bool.true_and] at fin
            repeat' walk_at "ux"
            refine ⟨by decide +kernel, by decide +kernel, false, congrArg (fun b => Z.d (PyData.bool b)) ((eqv_str _ _).trans (by decide +kernel)), ?_⟩
            repeat' walk_at "ux"
            refine wE_inT ?_
            repeat' walk_at "ux"
            refine ⟨_, _, rfl, .inl rfl, by decide +kernel, by decide +kernel, ?_⟩
            rw [show inD (PyData.str "one") [PyData.str "row", PyData.str "ruled", PyData.str "fed"] = false by decide +kernel]
            repeat' walk_at "ux"
            refine ⟨by decide +kernel, by decide +kernel, false, congrArg (fun b => Z.d (PyData.bool b)) ((eqv_str _ _).trans (by decide +kernel)), ?_⟩
            repeat' walk_at "ux"
            refine wE_inT ?_
            repeat' walk_at "ux"
            refine ⟨_, _, rfl, .inl rfl, by decide +kernel, by decide +kernel, ?_⟩
            rw [show inD (PyData.str "one") [PyData.str "row", PyData.str "ruled"] = false by decide +kernel]
            repeat' walk_at "ux"
            refine ⟨by decide +kernel, by decide +kernel, false, congrArg (fun b => Z.d (PyData.bool b)) ((eqv_str _ _).trans (by decide +kernel)), ?_⟩
            repeat' walk_at "ux"
            refine ⟨by decide +kernel, by decide +kernel, false, congrArg (fun b => Z.d (PyData.bool b)) ((eqv_str _ _).trans (by decide +kernel)), ?_⟩
            repeat' walk_at "ux"
            refine ⟨by decide +kernel, by decide +kernel, false, congrArg (fun b => Z.d (PyData.bool b)) ((eqv_str _ _).trans (by decide +kernel)), ?_⟩
            repeat' walk_at "ux"
            refine ⟨by decide +kernel, by decide +kernel, _, rfl, wD_nil (.inr ⟨_, rfl, ?_⟩)⟩
            rw [show (PyData.str "one").eqv (PyData.str "two") = false from (eqv_str _ _).trans (by decide +kernel)]
            repeat' walk_at "ux"
            first | rw [show (2 + if false = true then (1 : Int) else 0) = 2 from rfl] | rw [show (2 + if True then (1 : Int) else 0) = 2 from rfl]
            refine wE_lcF (y' := ⟨[some (.d (.tuple [.str "one", x1, x2, x3, x4, x5])), some (.d (siD sizesL)), some (.d (.int 2)), none, none], []⟩) (fun d => !nameB d) id ?_
            refine wI_anyT ?_
            repeat' walk_at "ux"
            rw [show Tq.cutD [PyData.str "one", x1, x2, x3, x4, x5] (some 2) (some (1 + 2)) = [x2] from rfl]
            refine ⟨fun x hx => ?_, ?_⟩
            · have hx : smD x = true := by
                simp only [List.mem_cons, List.not_mem_nil, or_false] at hx
                rcases hx with rfl <;> assumption
              repeat' walk_at "ux"
              refine ⟨⟨rfl, hx⟩, nameB x, rfl, rfl, rfl, fun _ => ?_⟩
              repeat' (first | walk_at "ux" | exact ⟨rfl, rfl⟩ | rfl)
            repeat' walk_at "ux"
            rw [List.length_map, List.map_id, filter_nil_all]
            replace fin : ∀ (b : Bool) y, b = ([x2].all nameB && (mannerB x3 && (mostB x4 && ((twoB 2) x5)))) → e.rt (.d (.bool b)) y := fun b y hb => fin b y (by
              rw [hb]
              show (nameB x2 && true && _) = _
              simp only [Bool.and_true, Bool.and_assoc])
            cases bn : [x2].all nameB with
            | false =>
              repeat' walk_at "ux"
              exact fin _ _ (by rw [bn] <;> rfl)
            | true =>
            rw [bn, Bool.true_and] at fin
            repeat' walk_at "ux"
            rw [show mannerB (a0 [x3]) = mannerB x3 from rfl]
            cases b3 : mannerB x3 with
            | false =>
              repeat' walk_at "ux"
              exact fin _ _ (by rw [b3] <;> rfl)
            | true =>
            rw [b3, Bool.true_and] at fin
            repeat' walk_at "ux"
            rw [show mostB (a0 [x4]) = mostB x4 from rfl]
            cases b4 : mostB x4 with
            | false =>
              repeat' walk_at "ux"
              exact fin _ _ (by rw [b4] <;> rfl)
            | true =>
            rw [b4, Bool.true_and] at fin
            repeat' walk_at "ux"
            all_goals (first | exact h5 | exact fin _ _ rfl)
          · obtain ⟨x1, x2, x3, x4, x5, x6, rfl⟩ : ∃ x1 x2 x3 x4 x5 x6, r = [x1, x2, x3, x4, x5, x6] := by
              match r, c with
              | [yx1, yx2, yx3, yx4, yx5, yx6], _ => exact ⟨yx1, yx2, yx3, yx4, yx5, yx6, rfl⟩
            have h1 := xe x1 (.tail _ (.head _))
            have h2 := xe x2 (.tail _ (.tail _ (.head _)))
            have h3 := xe x3 (.tail _ (.tail _ (.tail _ (.head _))))
            have h4 := xe x4 (.tail _ (.tail _ (.tail _ (.tail _ (.head _)))))
            have h5 := xe x5 (.tail _ (.tail _ (.tail _ (.tail _ (.tail _ (.head _))))))
            have h6 := xe x6 (.tail _ (.tail _ (.tail _ (.tail _ (.tail _ (.tail _ (.head _)))))))
            replace fin : ∀ (b : Bool) y, b = (nameB x1 && (nameB x2 && (nameB x3 && (mannerB x4 && (mostB x5 && ((twoB 4) x6)))))) → e.rt (.d (.bool b)) y := fun b y hb => fin b y (by
              rw [hb]
              show _ = (kindB "name" x1 && (kindB "name" x2 && (kindB "name" x3 && (kindB "manner" x4 && (kindB "most" x5 && (kindB "eight" x6 && true))))))
              rw [kb "name" nameB x1 rfl, kb "name" nameB x2 rfl, kb "name" nameB x3 rfl, kb "manner" mannerB x4 rfl, kb "most" mostB x5 rfl, kb "eight" (twoB 4) x6 rfl, Bool.and_true])
            repeat' walk_at "ux"
            refine ⟨⟨rfl, h1⟩, ?_⟩
            show ∃ b, Z.d (.bool (nameB x1)) = _ ∧ _
            cases b1 : nameB x1 with
            | false =>
              repeat' walk_at "ux"
              exact fin _ _ (by rw [b1] <;> rfl)
            | true =>
            rw [b1, Bool.true_and] at fin
            repeat' walk_at "ux"
            refine ⟨by decide +kernel, by decide +kernel, false, congrArg (fun b => Z.d (PyData.bool b)) ((eqv_str _ _).trans (by decide +kernel)), ?_⟩
            repeat' walk_at "ux"
            refine wE_inT ?_
            repeat' walk_at "ux"
            refine ⟨_, _, rfl, .inl rfl, by decide +kernel, by decide +kernel, ?_⟩
            rw [show inD (PyData.str "two") [PyData.str "row", PyData.str "ruled", PyData.str "fed"] = false by decide +kernel]
            repeat' walk_at "ux"
            refine ⟨by decide +kernel, by decide +kernel, false, congrArg (fun b => Z.d (PyData.bool b)) ((eqv_str _ _).trans (by decide +kernel)), ?_⟩
            repeat' walk_at "ux"
            refine wE_inT ?_
            repeat' walk_at "ux"
            refine ⟨_, _, rfl, .inl rfl, by decide +kernel, by decide +kernel, ?_⟩
            rw [show inD (PyData.str "two") [PyData.str "row", PyData.str "ruled"] = false by decide +kernel]
            repeat' walk_at "ux"
            refine ⟨by decide +kernel, by decide +kernel, false, congrArg (fun b => Z.d (PyData.bool b)) ((eqv_str _ _).trans (by decide +kernel)), ?_⟩
            repeat' walk_at "ux"
            refine ⟨by decide +kernel, by decide +kernel, false, congrArg (fun b => Z.d (PyData.bool b)) ((eqv_str _ _).trans (by decide +kernel)), ?_⟩
            repeat' walk_at "ux"
            refine ⟨by decide +kernel, by decide +kernel, false, congrArg (fun b => Z.d (PyData.bool b)) ((eqv_str _ _).trans (by decide +kernel)), ?_⟩
            repeat' walk_at "ux"
            refine ⟨by decide +kernel, by decide +kernel, _, rfl, wD_nil (.inr ⟨_, rfl, ?_⟩)⟩
            rw [show (PyData.str "two").eqv (PyData.str "two") = true from (eqv_str _ _).trans (by decide +kernel)]
            repeat' walk_at "ux"
            first | rw [show (2 + if true = true then (1 : Int) else 0) = 3 from rfl] | rw [show (2 + if True then (1 : Int) else 0) = 3 from rfl]
            refine wE_lcF (y' := ⟨[some (.d (.tuple [.str "two", x1, x2, x3, x4, x5, x6])), some (.d (siD sizesL)), some (.d (.int 3)), none, none], []⟩) (fun d => !nameB d) id ?_
            refine wI_anyT ?_
            repeat' walk_at "ux"
            rw [show Tq.cutD [PyData.str "two", x1, x2, x3, x4, x5, x6] (some 2) (some (1 + 3)) = [x2, x3] from rfl]
            refine ⟨fun x hx => ?_, ?_⟩
            · have hx : smD x = true := by
                simp only [List.mem_cons, List.not_mem_nil, or_false] at hx
                rcases hx with rfl | rfl <;> assumption
              repeat' walk_at "ux"
              refine ⟨⟨rfl, hx⟩, nameB x, rfl, rfl, rfl, fun _ => ?_⟩
              repeat' (first | walk_at "ux" | exact ⟨rfl, rfl⟩ | rfl)
            repeat' walk_at "ux"
            rw [List.length_map, List.map_id, filter_nil_all]
            replace fin : ∀ (b : Bool) y, b = ([x2, x3].all nameB && (mannerB x4 && (mostB x5 && ((twoB 4) x6)))) → e.rt (.d (.bool b)) y := fun b y hb => fin b y (by
              rw [hb]
              show (nameB x2 && (nameB x3 && true) && _) = _
              simp only [Bool.and_true, Bool.and_assoc])
            cases bn : [x2, x3].all nameB with
            | false =>
              repeat' walk_at "ux"
              exact fin _ _ (by rw [bn] <;> rfl)
            | true =>
            rw [bn, Bool.true_and] at fin
            repeat' walk_at "ux"
            rw [show mannerB (a0 [x4]) = mannerB x4 from rfl]
            cases b4 : mannerB x4 with
            | false =>
              repeat' walk_at "ux"
              exact fin _ _ (by rw [b4] <;> rfl)
            | true =>
            rw [b4, Bool.true_and] at fin
            repeat' walk_at "ux"
            rw [show mostB (a0 [x5]) = mostB x5 from rfl]
            cases b5 : mostB x5 with
            | false =>
              repeat' walk_at "ux"
              exact fin _ _ (by rw [b5] <;> rfl)
            | true =>
            rw [b5, Bool.true_and] at fin
            repeat' walk_at "ux"
            all_goals (first | exact h6 | exact fin _ _ rfl)
          · obtain ⟨x1, x2, x3, rfl⟩ : ∃ x1 x2 x3, r = [x1, x2, x3] := by
              match r, c with
              | [yx1, yx2, yx3], _ => exact ⟨yx1, yx2, yx3, rfl⟩
            have h1 := xe x1 (.tail _ (.head _))
            have h2 := xe x2 (.tail _ (.tail _ (.head _)))
            have h3 := xe x3 (.tail _ (.tail _ (.tail _ (.head _))))
            replace fin : ∀ (b : Bool) y, b = (nameB x1 && (nameB x2 && (mostB x3))) → e.rt (.d (.bool b)) y := fun b y hb => fin b y (by
              rw [hb]
              show _ = (kindB "name" x1 && (kindB "name" x2 && (kindB "most" x3 && true)))
              rw [kb "name" nameB x1 rfl, kb "name" nameB x2 rfl, kb "most" mostB x3 rfl, Bool.and_true])
            repeat' walk_at "ux"
            refine ⟨⟨rfl, h1⟩, ?_⟩
            show ∃ b, Z.d (.bool (nameB x1)) = _ ∧ _
            cases b1 : nameB x1 with
            | false =>
              repeat' walk_at "ux"
              exact fin _ _ (by rw [b1] <;> rfl)
            | true =>
            rw [b1, Bool.true_and] at fin
            repeat' walk_at "ux"
            refine ⟨by decide +kernel, by decide +kernel, false, congrArg (fun b => Z.d (PyData.bool b)) ((eqv_str _ _).trans (by decide +kernel)), ?_⟩
            repeat' walk_at "ux"
            refine wE_inT ?_
            repeat' walk_at "ux"
            refine ⟨_, _, rfl, .inl rfl, by decide +kernel, by decide +kernel, ?_⟩
            rw [show inD (PyData.str "root") [PyData.str "row", PyData.str "ruled", PyData.str "fed"] = false by decide +kernel]
            repeat' walk_at "ux"
            refine ⟨by decide +kernel, by decide +kernel, false, congrArg (fun b => Z.d (PyData.bool b)) ((eqv_str _ _).trans (by decide +kernel)), ?_⟩
            repeat' walk_at "ux"
            refine wE_inT ?_
            repeat' walk_at "ux"
            refine ⟨_, _, rfl, .inl rfl, by decide +kernel, by decide +kernel, ?_⟩
            rw [show inD (PyData.str "root") [PyData.str "row", PyData.str "ruled"] = false by decide +kernel]
            repeat' walk_at "ux"
            refine ⟨by decide +kernel, by decide +kernel, false, congrArg (fun b => Z.d (PyData.bool b)) ((eqv_str _ _).trans (by decide +kernel)), ?_⟩
            repeat' walk_at "ux"
            refine ⟨by decide +kernel, by decide +kernel, false, congrArg (fun b => Z.d (PyData.bool b)) ((eqv_str _ _).trans (by decide +kernel)), ?_⟩
            repeat' walk_at "ux"
            refine ⟨by decide +kernel, by decide +kernel, true, congrArg (fun b => Z.d (PyData.bool b)) ((eqv_str _ _).trans (by decide +kernel)), ?_⟩
            repeat' walk_at "ux"
            refine ⟨⟨rfl, h2⟩, ?_⟩
            show ∃ b, Z.d (.bool (nameB x2)) = _ ∧ _
            cases b2 : nameB x2 with
            | false =>
              repeat' walk_at "ux"
              exact fin _ _ (by rw [b2] <;> rfl)
            | true =>
            rw [b2, Bool.true_and] at fin
            repeat' walk_at "ux"
            exact fin _ _ rfl
      | _ => repeat' (first | walk_at "ux" | (exact hz _ _ rfl))
  | _ => repeat' (first | walk_at "ux" | (exact hz _ _ rfl))
abbrev s_law_plan_good : Stmt := topS 54
abbrev N_law_plan_good : List Str := ["_law_thing", "_law_row"]
theorem sc_law_plan_good : FnScope N_law_plan_good ["_law_thing"] (defScope s_law_plan_good) := ⟨rfl, rfl, rfl, by decide +kernel, rfl, by decide +kernel, by decide +kernel⟩
theorem ok_law_plan_good (d : Df K mg "_law_plan_good" s_law_plan_good ["_law_thing"]) (c_law_row_good : Cal P w K mg base 4 "_law_row_good" ["_law_row"] (sp_law_row_good K)) (b_isinstance : mg "isinstance" = none) (b_len : mg "len" = none) (b_list : mg "list" = none) (b_tuple : mg "tuple" = none) : Cal P w K mg base 5 "_law_plan_good" ["_law_thing"] (sp_law_plan_good K) := by
  refine d.ok sc_law_plan_good (pureSp_len rfl) (fun f cdv A outer s H vs Q E hr hgu h => ?_)
  refine ⟨_, (pss_cons (ps_if (PW.pt (pw_or (pt_not (pt_val (pe_callB (isiTK K) (by rfl) b_isinstance (by decide +kernel) (pa_cons (pv 0) (pa_cons (pe_tup (pa_cons (pe_bltn (v := .ty "list") (by rfl) b_list (by decide +kernel) rfl) (pa_cons (pe_bltn (v := .ty "tuple") (by rfl) b_tuple (by decide +kernel) rfl) pa_nil))) pa_nil))))) (pw_or1 (pt_cmpR op_gt (pe_callB (lenK K) (by rfl) b_len (by decide +kernel) (pa_cons (pv 0) pa_nil)) pe_int (nomark _))))) (pss_one (ps_ret pe_bl)) pss_nil)
    (pss_one (ps_ret (pe_cmpR (eqNilK K hr.units) (pe_lc (own := [("_law_row", 1)]) (g := gName 1) rfl sc_law_plan_good.nd (piA K (pv 0)) (blkOk_by (own := [("_law_row", 1)]) (N := N_law_plan_good) (sc := defScope s_law_plan_good) (by decide +kernel)) (fun _ _ _ _ _ => (pg_name (i := 1) sc_law_plan_good.nd rfl (Or.inl rfl))) (fun _ _ _ _ _ => (pts_one (pt_not (pt_val (pe_cal c_law_row_good (hr.mono (by decide)) hgu (by rfl) (pa_cons (pv 1) pa_nil)))))) (fun _ _ _ _ _ => (pv 1))) (pe_lst pa_nil) (nomark _))))), ?_⟩
  try dsimp only [cxOf]
  refine pure_body h (fun ds hl hp e hn hz => ?_)
  obtain ⟨x, rfl⟩ : ∃ x, ds = [x] := len1 hl
  have hx : smD x = true := hp
  show wS _ _ ⟨[some (.d x), none], _⟩ _
  repeat' walk_at "ux"
  rw [isT_list, isT_tuple]
  cases x with
  | list xs =>
    obtain ⟨xl, xe⟩ := sm_items (d := .list xs) hx rfl
    have fin : ∀ (b : Bool) y, b = (decide (xs.length ≤ 12) && xs.all rowB) → e.rt (.d (.bool b)) y := fun b y hb => hz _ _ (by rw [hb]; rfl)
    repeat' walk_at "ux"
    refine ite2 (fun c => ?_) (fun c => ?_)
    · have c := of_decide_eq_true c
      repeat' walk_at "ux"
      exact fin _ _ (by rw [decide_eq_false (show ¬ xs.length ≤ 12 by omega)]; rfl)
    · have c := of_decide_eq_false (Bool.eq_false_iff.mpr c)
      rw [decide_eq_true (show xs.length ≤ 12 by omega), Bool.true_and] at fin
      repeat' walk_at "ux"
      refine wE_lcF (y' := ⟨[some (.d (.list xs)), none], []⟩) (fun d => !rowB d) id ?_
      refine wI_any (d := .list xs) (i := 0) rfl rfl ?_
      refine ⟨rfl, sz_small (by omega), fun r hr => ?_, ?_⟩
      · repeat' walk_at "ux"
        refine ⟨⟨rfl, xe r hr⟩, rowB r, rfl, rfl, rfl, fun _ => ?_⟩
        repeat' (first | walk_at "ux" | exact ⟨rfl, rfl⟩ | rfl)
      · repeat' walk_at "ux"
        exact fin _ _ (by rw [List.length_map, List.map_id, filter_nil_all])
  | tuple xs =>
    obtain ⟨xl, xe⟩ := sm_items (d := .tuple xs) hx rfl
    have fin : ∀ (b : Bool) y, b = (decide (xs.length ≤ 12) && xs.all rowB) → e.rt (.d (.bool b)) y := fun b y hb => hz _ _ (by rw [hb]; rfl)
    repeat' walk_at "ux"
    refine ite2 (fun c => ?_) (fun c => ?_)
    · have c := of_decide_eq_true c
      repeat' walk_at "ux"
      exact fin _ _ (by rw [decide_eq_false (show ¬ xs.length ≤ 12 by omega)]; rfl)
    · have c := of_decide_eq_false (Bool.eq_false_iff.mpr c)
      rw [decide_eq_true (show xs.length ≤ 12 by omega), Bool.true_and] at fin
      repeat' walk_at "ux"
      refine wE_lcF (y' := ⟨[some (.d (.tuple xs)), none], []⟩) (fun d => !rowB d) id ?_
      refine wI_any (d := .tuple xs) (i := 0) rfl rfl ?_
      refine ⟨rfl, sz_small (by omega), fun r hr => ?_, ?_⟩
      · repeat' walk_at "ux"
        refine ⟨⟨rfl, xe r hr⟩, rowB r, rfl, rfl, rfl, fun _ => ?_⟩
        repeat' (first | walk_at "ux" | exact ⟨rfl, rfl⟩ | rfl)
      · repeat' walk_at "ux"
        exact fin _ _ (by rw [List.length_map, List.map_id, filter_nil_all])
  | _ => repeat' (first | walk_at "ux" | (exact hz _ _ rfl))
abbrev s_law_may_spoil : Stmt := topS 56
abbrev N_law_may_spoil : List Str := ["_law_thing", "_law_row"]
theorem sc_law_may_spoil : FnScope N_law_may_spoil ["_law_thing"] (defScope s_law_may_spoil) := ⟨rfl, rfl, rfl, by decide +kernel, rfl, by decide +kernel, by decide +kernel⟩
theorem ok_law_may_spoil (d : Df K mg "_law_may_spoil" s_law_may_spoil ["_law_thing"]) (b_isinstance : mg "isinstance" = none) (b_list : mg "list" = none) (b_tuple : mg "tuple" = none) : Cal P w K mg base 1 "_law_may_spoil" ["_law_thing"] (sp_law_may_spoil K) := by
  refine d.ok sc_law_may_spoil (pureSp_len rfl) (fun f cdv A outer s H vs Q E hr hgu h => ?_)
  refine ⟨_, (pss_cons (ps_if (pt_not (pt_val (pe_callB (isiK K) (by rfl) b_isinstance (by decide +kernel) (pa_cons (pv 0) (pa_cons (pe_bltn (v := .ty "list") (by rfl) b_list (by decide +kernel) rfl) pa_nil))))) (pss_one (ps_ret pe_bl)) pss_nil)
    (pss_one (ps_ret (pe_cmpR (eqNilK K hr.units) (pe_lc (own := [("_law_row", 1)]) (g := gName 1) rfl sc_law_may_spoil.nd (piA K (pv 0)) (blkOk_by (own := [("_law_row", 1)]) (N := N_law_may_spoil) (sc := defScope s_law_may_spoil) (by decide +kernel)) (fun _ _ _ _ _ => (pg_name (i := 1) sc_law_may_spoil.nd rfl (Or.inl rfl))) (fun _ _ _ _ _ => (pts_one (PW.pt (pw_or (pt_not (pt_val (pe_callB (isiK K) (by rfl) b_isinstance (by decide +kernel) (pa_cons (pv 1) (pa_cons (pe_bltn (v := .ty "tuple") (by rfl) b_tuple (by decide +kernel) rfl) pa_nil))))) (pw_or1 (pt_cmpR (eqNilTK K hr.units) (pv 1) (pe_tup pa_nil) (nomark _))))))) (fun _ _ _ _ _ => (pv 1))) (pe_lst pa_nil) (nomark _))))), ?_⟩
  try dsimp only [cxOf]
  refine pure_body h (fun ds hl hp e hn hz => ?_)
  obtain ⟨x, rfl⟩ : ∃ x, ds = [x] := len1 hl
  have hx : smD x = true := hp
  show wS _ _ ⟨[some (.d x), none], _⟩ _
  repeat' walk_at "ux"
  rw [isT_list]
  cases x with
  | list xs =>
    obtain ⟨xl, xe⟩ := sm_list hx
    repeat' walk_at "ux"
    refine wE_lcF (y' := ⟨[some (.d (.list xs)), none], []⟩) (fun d => !spB d) id ?_
    refine wI_any (d := .list xs) (i := 0) rfl rfl ?_
    refine ⟨rfl, sz_small (by omega), fun r hr => ?_, ?_⟩
    · repeat' walk_at "ux"
      rw [isT_tuple]
      cases r with
      | tuple ys =>
        cases ys with
        | nil => repeat' (first | walk_at "ux" | exact ⟨rfl, rfl⟩ | rfl | intro _)
        | cons z zs => repeat' (first | walk_at "ux" | exact ⟨rfl, rfl⟩ | rfl | intro _)
      | _ => repeat' (first | walk_at "ux" | exact ⟨rfl, rfl⟩ | rfl | intro _)
    · repeat' walk_at "ux"
      exact hz _ _ (by rw [List.length_map, List.map_id, filter_nil_all]; rfl)
  | _ => repeat' (first | walk_at "ux" | (exact hz _ _ rfl))
abbrev s_law_spoilt_row : Stmt := topS 55
abbrev N_law_spoilt_row : List Str := ["_law_purse_here", "_law_row", "_law_way", "_law_at", "_law_odd", "_law_words"]
theorem sc_law_spoilt_row : FnScope N_law_spoilt_row ["_law_purse_here", "_law_row"] (defScope s_law_spoilt_row) := ⟨rfl, rfl, rfl, by decide +kernel, rfl, by decide +kernel, by decide +kernel⟩
theorem ok_law_spoilt_row (d : Df K mg "_law_spoilt_row" s_law_spoilt_row ["_law_purse_here", "_law_row"]) (c_law_take : Cal P w K mg base 1 "_law_take" ["_law_purse_here", "_law_below"] (sp_law_take K)) (b_len : mg "len" = none) (b_list : mg "list" = none) (b_range : mg "range" = none) (b_tuple : mg "tuple" = none) : Cal P w K mg base 2 "_law_spoilt_row" ["_law_purse_here", "_law_row"] (sp_law_spoilt_row K) := by
  refine d.ok sc_law_spoilt_row (puSp_len rfl) (fun f cdv A outer s H vs Q E hr hgu h => ?_)
  refine ⟨_, (pss_cons (ps_set (i := 2) sc_law_spoilt_row.nd rfl (Or.inl rfl) (pe_cal c_law_take (hr.mono (by decide)) hgu (by rfl) (pa_cons (pv 0) (pa_cons pe_int pa_nil))))
    (pss_cons (ps_set (i := 3) sc_law_spoilt_row.nd rfl (Or.inl rfl) (pe_cal c_law_take (hr.mono (by decide)) hgu (by rfl) (pa_cons (pv 0) (pa_cons (pe_callB (lenK K) (by rfl) b_len (by decide +kernel) (pa_cons (pv 1) pa_nil)) pa_nil))))
    (pss_cons (ps_if (pt_cmpR op_lt (pv 2) pe_int (nomark _)) (pss_cons (ps_set (i := 4) sc_law_spoilt_row.nd rfl (Or.inl rfl) (pe_lst (pa_cons pe_non (pa_cons pe_bl (pa_cons pe_int (pa_cons pe_str (pa_cons pe_str (pa_cons pe_str (pa_cons (pe_tup pa_nil) (pa_cons (pe_tup (pa_cons pe_int pa_nil)) (pa_cons (pe_lst (pa_cons pe_int (pa_cons pe_int pa_nil))) (pa_cons pe_int (pa_cons pe_int (pa_cons (pe_op op_sub (pe_op op_pow pe_int pe_int) pe_int) (pa_cons pe_dnewK (pa_cons pe_str pa_nil))))))))))))))))
    (pss_cons (ps_set (i := 4) sc_law_spoilt_row.nd rfl (Or.inl rfl) (pe_op (catK K) (pv 4) (pe_lst (pa_cons (pe_tup (pa_cons pe_bl pa_nil)) (pa_cons (pe_tup (pa_cons pe_int (pa_cons pe_non pa_nil))) (pa_cons (pe_tup (pa_cons pe_str pa_nil)) (pa_cons (pe_tup (pa_cons (pe_tup (pa_cons pe_int (pa_cons pe_int pa_nil))) (pa_cons (pe_tup (pa_cons pe_int (pa_cons pe_int pa_nil))) pa_nil))) (pa_cons (pe_tup (pa_cons (pe_tup (pa_cons pe_int (pa_cons pe_int pa_nil))) (pa_cons (pe_tup (pa_cons pe_int pa_nil)) pa_nil))) (pa_cons (op_tupRg2 rfl (by rfl) b_tuple (by rfl) b_range pe_int pe_int) (pa_cons pe_str (pa_cons pe_str pa_nil)))))))))))
    (pss_one (ps_ret (pe_op (catTK K) (pe_op (catTK K) (pe_slice (slK K) (pv 1) po_none (po_some (pv 3))) (pe_tup (pa_cons (pe_ix (ixK K) (pv 4) (pe_cal c_law_take (hr.mono (by decide)) hgu (by rfl) (pa_cons (pv 0) (pa_cons pe_int pa_nil))) (fun _ _ => rfl)) pa_nil))) (pe_slice (slK K) (pv 1) (po_some (pe_op op_add (pv 3) pe_int)) po_none)))))) pss_nil)
    (pss_cons (ps_if (pt_cmpR op_eq (pv 2) pe_int (nomark _)) (pss_one (ps_ret (pe_op (catTK K) (pe_slice (slK K) (pv 1) po_none (po_some (pv 3))) (pe_slice (slK K) (pv 1) (po_some (pe_op op_add (pv 3) pe_int)) po_none)))) pss_nil)
    (pss_cons (ps_if (pt_cmpR op_eq (pv 2) pe_int (nomark _)) (pss_one (ps_ret (pe_op (catTK K) (pe_op (catTK K) (pe_slice (slK K) (pv 1) po_none (po_some (pv 3))) (pe_slice (slK K) (pv 1) (po_some (pv 3)) (po_some (pe_op op_add (pv 3) pe_int)))) (pe_slice (slK K) (pv 1) (po_some (pv 3)) po_none)))) pss_nil)
    (pss_cons (ps_if (pt_cmpR op_eq (pv 2) pe_int (nomark _)) (pss_one (ps_ret (pe_callTy (listK K) (by rfl) b_list (by decide +kernel) (pa_cons (pv 1) pa_nil)))) pss_nil)
    (pss_cons (ps_if (pt_cmpR op_eq (pv 2) pe_int (nomark _)) (pss_one (ps_ret (pe_ix (ixK K) (pe_lst (pa_cons pe_non (pa_cons pe_int (pa_cons pe_str (pa_cons (pe_tup pa_nil) (pa_cons (pe_lst pa_nil) (pa_cons pe_dnewK (pa_cons (pe_tup (pa_cons pe_str pa_nil)) pa_nil)))))))) (pe_cal c_law_take (hr.mono (by decide)) hgu (by rfl) (pa_cons (pv 0) (pa_cons pe_int pa_nil))) (fun _ _ => rfl)))) pss_nil)
    (pss_cons (ps_if (pt_cmpR op_eq (pv 2) pe_int (nomark _)) (pss_cons (ps_set (i := 5) sc_law_spoilt_row.nd rfl (Or.inl rfl) (pe_lst (pa_cons pe_str (pa_cons pe_str (pa_cons pe_str (pa_cons pe_str (pa_cons pe_str (pa_cons pe_str (pa_cons pe_str (pa_cons pe_str (pa_cons pe_str (pa_cons pe_str pa_nil))))))))))))
    (pss_one (ps_ret (pe_op (catTK K) (pe_tup (pa_cons (pe_ix (ixK K) (pv 5) (pe_cal c_law_take (hr.mono (by decide)) hgu (by rfl) (pa_cons (pv 0) (pa_cons pe_int pa_nil))) (fun _ _ => rfl)) pa_nil)) (pe_slice (slK K) (pv 1) (po_some pe_int) po_none))))) pss_nil)
    (pss_one (ps_ret (pv 1))))))))))), ?_⟩
  try dsimp only [cxOf]
  refine pu_body h (fun ds m pp hl hp hc e hn hz => ?_)
  obtain ⟨n, xs, rfl, hne, hxl, hn, hel⟩ := hp
  have hc : 3 ≤ m := hc
  show wS _ _ ⟨[some ((.lab pp)), some (.d (.tuple xs)), none, none, none, none], [⟨pp, false, .pu m⟩]⟩ _
  repeat' walk_at "ux"
  rename_i wy wy0 wy1
  have hpos := List.length_pos_iff.mpr hne
  refine ⟨⟨by omega, by omega, by omega⟩, fun a' a0 a1 => ?_⟩
  obtain ⟨a, rfl⟩ : ∃ a : Nat, a' = (a : Int) := ⟨a'.toNat, (Int.toNat_of_nonneg a0).symm⟩
  have ha : a < xs.length := by omega
  dsimp only [List.set, S.set]
  have fin : ∀ d y kk, (∀ n, xs.length ≤ n → n ≤ 8 → RowS (n + 1) d) → (⟨pp, false, .pu kk⟩ : Cl) ∈ y.m → m - 3 ≤ kk → e.rt (.d d) y := fun d y kk h1 h2 h3 => hz _ _ _ _ (fun n' xs' e' h4 h5 _ => by
    have e'' : xs = xs' := by cases e'; rfl
    subst e''
    exact h1 n' h4 h5) h2 h3
  have tk : ∀ j, ∀ x ∈ xs.take j, ElS x := fun j x hx => hel x (List.mem_of_mem_take hx)
  have dr : ∀ j, ∀ x ∈ xs.drop j, ElS x := fun j x hx => hel x (List.mem_of_mem_drop hx)
  have ap : ∀ us vs : List D, (∀ x ∈ us, ElS x) → (∀ x ∈ vs, ElS x) → ∀ x ∈ us ++ vs, ElS x := fun us vs h1 h2 x hx => (List.mem_append.mp hx).elim (h1 x) (h2 x)
  have c1 : Tq.cutD xs none (some (a : Int)) = xs.take a := cutD_takeN xs a
  have c2 : Tq.cutD xs (some ((a : Int) + 1)) none = xs.drop (a + 1) := cutD_dropN xs (a + 1) (by omega)
  have c3 : Tq.cutD xs (some (a : Int)) none = xs.drop a := cutD_dropN xs a (by omega)
  have c4 : Tq.cutD xs (some 1) none = xs.drop 1 := cutD1 xs
  have c5 : Tq.cutD xs (some (a : Int)) (some ((a : Int) + 1)) = (xs.drop a).take 1 := cutD_one xs a (by omega)
  have cl : ∀ us vs : List D, us.length + vs.length ≤ 20 → us.length + vs.length ≤ sizeLine := fun us vs h => Nat.le_trans h (by decide)
  repeat' walk_at "ux"
  refine ite2 (fun c => ?_) (fun c => ?_)
  · repeat' walk_at "ux"
    refine ⟨RgOk.of_le (by decide) (by decide) (by decide) (by decide), _, rfl, ?_⟩
    repeat' walk_at "ux"
    rename_i q q0 q1
    refine ixD_any (ds := odds74) q0 (by exact q1) (fun g hg => ?_)
    have hge := odds74_el g hg
    repeat' walk_at "ux"
    rw [c1]
    refine ⟨cl _ [g] (by rw [List.length_take]; show min a xs.length + 1 ≤ 20; omega), ?_⟩
    repeat' walk_at "ux"
    rw [c2]
    refine ⟨cl _ _ (by rw [List.length_append, List.length_take, List.length_drop]; show min a xs.length + 1 + _ ≤ 20; omega), ?_⟩
    repeat' walk_at "ux"
    exact fin _ _ _ (fun n h1 h2 => rowS_tup (by rw [List.length_append, List.length_append, List.length_take, List.length_drop]; show min a xs.length + 1 + _ ≤ n + 1; omega) (by omega) (ap _ _ (ap _ _ (tk a) (fun x hx => by rw [List.mem_singleton.mp hx]; exact hge)) (dr (a + 1)))) (.head _) (by omega)
  · repeat' walk_at "ux"
    cases c3' : eqS (PyData.int wy) (PyData.int 3) with
    | true =>
      first | refine itb_t rfl ?_ | skip
      repeat' walk_at "ux"
      rw [c1, c2]
      refine ⟨cl _ _ (by rw [List.length_take, List.length_drop]; omega), ?_⟩
      exact fin _ _ _ (fun n h1 h2 => rowS_tup (by rw [List.length_append, List.length_take, List.length_drop]; omega) (by omega) (ap _ _ (tk a) (dr (a + 1)))) (.head _) (by omega)
    | false =>
    refine itb_f rfl ?_
    repeat' walk_at "ux"
    cases c4' : eqS (PyData.int wy) (PyData.int 4) with
    | true =>
      first | refine itb_t rfl ?_ | skip
      repeat' walk_at "ux"
      rw [c1, c5]
      refine ⟨cl _ _ (by rw [List.length_take, List.length_take, List.length_drop]; omega), ?_⟩
      repeat' walk_at "ux"
      rw [c3]
      refine ⟨cl _ _ (by rw [List.length_append, List.length_take, List.length_take, List.length_drop]; omega), ?_⟩
      exact fin _ _ _ (fun n h1 h2 => rowS_tup (by rw [List.length_append, List.length_append, List.length_take, List.length_take, List.length_drop]; omega) (by omega) (ap _ _ (ap _ _ (tk a) (fun x hx => dr a x (List.mem_of_mem_take hx))) (dr a))) (.head _) (by omega)
    | false =>
    refine itb_f rfl ?_
    repeat' walk_at "ux"
    cases c5' : eqS (PyData.int wy) (PyData.int 5) with
    | true =>
      first | refine itb_t rfl ?_ | skip
      repeat' walk_at "ux"
      exact fin _ _ _ (fun n h1 h2 => rowS_lst (m := 8) (by omega) (by decide) hel) (.head _) (by omega)
    | false =>
    refine itb_f rfl ?_
    repeat' walk_at "ux"
    cases c6' : eqS (PyData.int wy) (PyData.int 6) with
    | true =>
      first | refine itb_t rfl ?_ | skip
      repeat' walk_at "ux"
      rename_i q q0 q1
      refine ixD_any q0 q1 (fun g hg => ?_)
      refine fin _ _ _ (fun n h1 h2 => ?_) (.head _) (by omega)
      have l0 : ∀ {p : D → Prop}, ∀ x ∈ ([] : List D), p x := fun x h => absurd h (by simp)
      simp only [List.mem_cons, List.not_mem_nil, or_false] at hg
      rcases hg with rfl | rfl | rfl | rfl | rfl | rfl | rfl
      · exact rowS_el el_none (fun _ z => by cases z)
      · exact rowS_el (el_int (by decide)) (fun _ z => by cases z)
      · exact rowS_el (el_str (by decide) (okT_ofS _)) (fun _ z => by cases z)
      · exact rowS_tup (Nat.zero_le _) (by omega) l0
      · exact rowS_lst (m := 0) (by decide) (by decide) l0
      · exact rowS_el el_dic (fun _ z => by cases z)
      · exact rowS_tup (by show 1 ≤ n + 1; omega) (by omega) (fun x hx => by rw [List.mem_singleton.mp hx]; exact el_str (by decide) (okT_ofS _))
    | false =>
    refine itb_f rfl ?_
    repeat' walk_at "ux"
    cases c7' : eqS (PyData.int wy) (PyData.int 7) with
    | true =>
      first | refine itb_t rfl ?_ | skip
      repeat' walk_at "ux"
      rename_i q q0 q1
      refine ixD_any q0 q1 (fun g hg => ?_)
      have hge : ElS g := by
        simp only [List.mem_cons, List.not_mem_nil, or_false] at hg
        rcases hg with rfl | rfl | rfl | rfl | rfl | rfl | rfl | rfl | rfl | rfl <;> exact el_str (by decide) (okT_ofS _)
      repeat' walk_at "ux"
      rw [c4]
      refine ⟨cl [g] _ (by rw [List.length_drop]; show 1 + _ ≤ 20; omega), ?_⟩
      exact fin _ _ _ (fun n h1 h2 => rowS_tup (by rw [List.length_append, List.length_drop]; show 1 + _ ≤ n + 1; omega) (by omega) (ap _ _ (fun x hx => by rw [List.mem_singleton.mp hx]; exact hge) (dr 1))) (.head _) (by omega)
    | false =>
    refine itb_f rfl ?_
    repeat' walk_at "ux"
    exact fin _ _ _ (fun n h1 h2 => rowS_tup (by omega) (by omega) hel) (.head _) (by omega)
abbrev s_law_spoilt : Stmt := topS 57
abbrev N_law_spoilt : List Str := ["_law_purse_here", "_law_plan_here", "_law_way", "_law_at"]
theorem sc_law_spoilt : FnScope N_law_spoilt ["_law_purse_here", "_law_plan_here"] (defScope s_law_spoilt) := ⟨rfl, rfl, rfl, by decide +kernel, rfl, by decide +kernel, by decide +kernel⟩
theorem ok_law_spoilt (d : Df K mg "_law_spoilt" s_law_spoilt ["_law_purse_here", "_law_plan_here"]) (c_law_take : Cal P w K mg base 1 "_law_take" ["_law_purse_here", "_law_below"] (sp_law_take K)) (c_law_spoilt_row : Cal P w K mg base 2 "_law_spoilt_row" ["_law_purse_here", "_law_row"] (sp_law_spoilt_row K)) (b_len : mg "len" = none) (b_max : mg "max" = none) : Cal P w K mg base 3 "_law_spoilt" ["_law_purse_here", "_law_plan_here"] (sp_law_spoilt K) := by
  refine d.ok sc_law_spoilt (puSp_len rfl) (fun f cdv A outer s H vs Q E hr hgu h => ?_)
  refine ⟨_, (pss_cons (ps_set (i := 2) sc_law_spoilt.nd rfl (Or.inl rfl) (pe_cal c_law_take (hr.mono (by decide)) hgu (by rfl) (pa_cons (pv 0) (pa_cons pe_int pa_nil))))
    (pss_cons (ps_set (i := 3) sc_law_spoilt.nd rfl (Or.inl rfl) (pe_cal c_law_take (hr.mono (by decide)) hgu (by rfl) (pa_cons (pv 0) (pa_cons (pe_callB (call_max2 rfl) (by rfl) b_max (by decide +kernel) (pa_cons pe_int (pa_cons (pe_callB (lenK K) (by rfl) b_len (by decide +kernel) (pa_cons (pv 1) pa_nil)) pa_nil))) pa_nil))))
    (pss_cons (ps_if (PW.pt (pw_and (pt_cmpR op_lt (pv 2) pe_int (nomark _)) (pw_and1 (pt_cmpR (neNilK K hr.units) (pv 1) (pe_lst pa_nil) (nomark _))))) (pss_one (ps_ret (pe_op (catK K) (pe_op (catK K) (pe_slice (slK K) (pv 1) po_none (po_some (pv 3))) (pe_lst (pa_cons (pe_cal c_law_spoilt_row (hr.mono (by decide)) hgu (by rfl) (pa_cons (pv 0) (pa_cons (pe_ix (ixK K) (pv 1) (pv 3) (fun _ _ => rfl)) pa_nil))) pa_nil))) (pe_slice (slK K) (pv 1) (po_some (pe_op op_add (pv 3) pe_int)) po_none)))) pss_nil)
    (pss_cons (ps_if (pt_cmpR op_eq (pv 2) pe_int (nomark _)) (pss_one (ps_ret (pe_op (catK K) (pv 1) (pe_slice (slK K) (pv 1) (po_some (pv 3)) (po_some (pe_op op_add (pv 3) pe_int)))))) pss_nil)
    (pss_cons (ps_if (pt_cmpR op_eq (pv 2) pe_int (nomark _)) (pss_one (ps_ret (pe_ix (ixK K) (pe_lst (pa_cons pe_non (pa_cons pe_int (pa_cons pe_str (pa_cons pe_str (pa_cons pe_dnewK (pa_cons (pe_tup (pa_cons pe_str (pa_cons pe_str (pa_cons pe_str (pa_cons (pe_tup (pa_cons pe_int pa_nil)) pa_nil))))) (pa_cons pe_bl (pa_cons (pe_lst (pa_cons (pe_lst pa_nil) pa_nil)) pa_nil))))))))) (pe_cal c_law_take (hr.mono (by decide)) hgu (by rfl) (pa_cons (pv 0) (pa_cons pe_int pa_nil))) (fun _ _ => rfl)))) pss_nil)
    (pss_cons (ps_if (pt_cmpR op_eq (pv 2) pe_int (nomark _)) (pss_one (ps_ret (pe_rev1 K (pv 1)))) pss_nil)
    (pss_one (ps_ret (pv 1))))))))), ?_⟩
  try dsimp only [cxOf]
  refine pu_body h (fun ds m pp hl hp hc e hn hz => ?_)
  obtain ⟨n, rows, rfl, hrl, hn, hel, hsp⟩ := hp
  have hc : 6 ≤ m := hc
  show wS _ _ ⟨[some ((.lab pp)), some (.d (.list rows)), none, none], [⟨pp, false, .pu m⟩]⟩ _
  repeat' walk_at "ux"
  rename_i wy wy0 wy1 a' a0 a1
  obtain ⟨a, rfl⟩ : ∃ a : Nat, a' = (a : Int) := ⟨a'.toNat, (Int.toNat_of_nonneg a0).symm⟩
  have ha : rows.length ≠ 0 → a < rows.length := fun h => by split at a1 <;> omega
  have ha0 : a ≤ rows.length ∨ rows.length = 0 := by by_cases h : rows.length = 0; exact .inr h; exact .inl (by have := ha h; omega)
  try dsimp only [List.set, S.set]
  have fin : ∀ d y kk, (∀ n, rows.length ≤ n + 5 → n ≤ 8 → (∀ r ∈ rows, RowS n r) → PlS (n + 1) d) → (⟨pp, false, .pu kk⟩ : Cl) ∈ y.m → m - 6 ≤ kk → e.rt (.d d) y := fun d y kk h1 h2 h3 => hz _ _ _ _ (fun n' xs' e' h4 h5 h6 => by
    have e'' : rows = xs' := by cases e'; rfl
    subst e''
    exact h1 n' h4 h5 h6) h2 h3
  have c1 : Tq.cutD rows none (some (a : Int)) = rows.take a := cutD_takeN rows a
  have cl : ∀ us vs : List D, us.length + vs.length ≤ 40 → us.length + vs.length ≤ sizeLine := fun us vs h => Nat.le_trans h (by decide)
  have cm : ∀ lo hi, ∀ x ∈ Tq.cutD rows lo hi, x ∈ rows := fun lo hi x hx => List.mem_of_mem_drop (List.mem_of_mem_take hx)
  have c5l : ∀ hi, (Tq.cutD rows (some (a : Int)) hi).length ≤ rows.length := fun hi => by unfold Tq.cutD; rw [List.length_take, List.length_drop]; omega
  repeat' walk_at "ux"
  refine ite2 (fun c => ?_) (fun c => ?_)
  · repeat' walk_at "ux"
    rw [List.length_map]
    refine itn2 (fun c0 => ?_) (fun c0 => ?_)
    · have c0 := of_decide_eq_false c0
      have ha1 := ha c0
      have c2 : Tq.cutD rows (some ((a : Int) + 1)) none = rows.drop (a + 1) := cutD_dropN rows (a + 1) (by omega)
      have hix : dIx (.list rows) (a : Int) = some rows[a] := dIx_at rfl (List.getElem?_eq_getElem ha1)
      have hra := List.getElem_mem ha1
      have hrs := List.all_eq_true.mp hsp _ hra
      obtain ⟨zs, ezs, hzn⟩ : ∃ zs, rows[a] = .tuple zs ∧ zs ≠ [] := by
        cases hq : rows[a] with
        | tuple ys => rw [hq] at hrs; cases ys with | nil => cases hrs | cons z r => exact ⟨_, rfl, by simp⟩
        | _ => rw [hq] at hrs; cases hrs
      repeat' walk_at "ux"
      refine ⟨_, _, _, rfl, rfl, hix, ?_⟩
      repeat' walk_at "ux"
      have hrw := hel _ hra
      rw [ezs] at hrw ⊢
      obtain ⟨hz1, hz2⟩ := hrw.2.2 zs rfl
      refine ⟨⟨n, zs, rfl, hzn, hz1, hn, hz2⟩, by omega, fun r hr => ?_⟩
      repeat' walk_at "ux"
      rw [c1]
      refine ⟨cl _ [r] (by rw [List.length_take]; show min a rows.length + 1 ≤ 40; omega), ?_⟩
      repeat' walk_at "ux"
      rw [c2]
      refine ⟨cl _ _ (by rw [List.length_append, List.length_take, List.length_drop]; show min a rows.length + 1 + _ ≤ 40; omega), ?_⟩
      refine fin _ _ _ (fun n h1 h2 h3 => plS_lst (by rw [List.length_append, List.length_append, List.length_take, List.length_drop]; show min a rows.length + 1 + _ ≤ n + 1 + 5; omega) (by omega) fun x hx => ?_) (.head _) (by omega)
      rcases List.mem_append.mp hx with hx | hx
      · rcases List.mem_append.mp hx with hx | hx
        · exact (h3 x (List.mem_of_mem_take hx)).mono (by omega)
        · rw [List.mem_singleton.mp hx]
          obtain ⟨hz1', hz2'⟩ := (show RowS n (.tuple zs) by have := h3 _ hra; rwa [ezs] at this).2.2 zs rfl
          exact hr n zs rfl hz1' h2 hz2'
      · exact (h3 x (List.mem_of_mem_drop hx)).mono (by omega)
    · repeat' walk_at "ux"
      cases c4' : eqS (PyData.int wy) (PyData.int 4) with
      | true =>
        first | refine itb_t rfl ?_ | skip
        repeat' walk_at "ux"
        refine ⟨cl _ _ (by have := cut_one_len rows a; omega), ?_⟩
        refine fin _ _ _ (fun n h1 h2 h3 => plS_lst (by rw [List.length_append]; have := cut_one_len rows a; omega) (by omega) fun x hx => ?_) (.head _) (by omega)
        rcases List.mem_append.mp hx with hx | hx
        · exact (h3 x hx).mono (by omega)
        · exact (h3 x (cm _ _ x hx)).mono (by omega)
      | false =>
      refine itb_f rfl ?_
      repeat' walk_at "ux"
      cases c5' : eqS (PyData.int wy) (PyData.int 5) with
      | true =>
        first | refine itb_t rfl ?_ | skip
        repeat' walk_at "ux"
        rename_i q q0 q1
        refine ixD_any (ds := odds74b) q0 (by exact q1) (fun g hg => ?_)
        exact fin _ _ _ (fun n h1 h2 h3 => odds74b_pl (by omega) g hg) (.head _) (by omega)
      | false =>
      refine itb_f rfl ?_
      repeat' walk_at "ux"
      cases c6' : eqS (PyData.int wy) (PyData.int 6) with
      | true =>
        first | refine itb_t rfl ?_ | skip
        repeat' walk_at "ux"
        refine wE_rev1 ?_
        repeat' walk_at "ux"
        exact fin _ _ _ (fun n h1 h2 h3 => (plS_lst (n := n) (by rw [List.length_reverse]; exact h1) (by omega) (fun x hx => h3 x (List.mem_reverse.mp hx))).mono (by omega)) (.head _) (by omega)
      | false =>
      refine itb_f rfl ?_
      repeat' walk_at "ux"
      exact fin _ _ _ (fun n h1 h2 h3 => (plS_lst (n := n) h1 (by omega) h3).mono (by omega)) (.head _) (by omega)
  · repeat' walk_at "ux"
    cases c4' : eqS (PyData.int wy) (PyData.int 4) with
    | true =>
      first | refine itb_t rfl ?_ | skip
      repeat' walk_at "ux"
      refine ⟨cl _ _ (by have := cut_one_len rows a; omega), ?_⟩
      refine fin _ _ _ (fun n h1 h2 h3 => plS_lst (by rw [List.length_append]; have := cut_one_len rows a; omega) (by omega) fun x hx => ?_) (.head _) (by omega)
      rcases List.mem_append.mp hx with hx | hx
      · exact (h3 x hx).mono (by omega)
      · exact (h3 x (cm _ _ x hx)).mono (by omega)
    | false =>
    refine itb_f rfl ?_
    repeat' walk_at "ux"
    cases c5' : eqS (PyData.int wy) (PyData.int 5) with
    | true =>
      first | refine itb_t rfl ?_ | skip
      repeat' walk_at "ux"
      rename_i q q0 q1
      refine ixD_any (ds := odds74b) q0 (by exact q1) (fun g hg => ?_)
      exact fin _ _ _ (fun n h1 h2 h3 => odds74b_pl (by omega) g hg) (.head _) (by omega)
    | false =>
    refine itb_f rfl ?_
    repeat' walk_at "ux"
    cases c6' : eqS (PyData.int wy) (PyData.int 6) with
    | true =>
      first | refine itb_t rfl ?_ | skip
      repeat' walk_at "ux"
      refine wE_rev1 ?_
      repeat' walk_at "ux"
      exact fin _ _ _ (fun n h1 h2 h3 => (plS_lst (n := n) (by rw [List.length_reverse]; exact h1) (by omega) (fun x hx => h3 x (List.mem_reverse.mp hx))).mono (by omega)) (.head _) (by omega)
    | false =>
    refine itb_f rfl ?_
    repeat' walk_at "ux"
    exact fin _ _ _ (fun n h1 h2 h3 => (plS_lst (n := n) h1 (by omega) h3).mono (by omega)) (.head _) (by omega)
abbrev s_law : Stmt := topS 58
abbrev N_law : List Str := ["_law_script", "_law_k", "_law_purse_here", "_law_plan_here", "_law_step", "_law_thing", "_law_turn", "_law_kept", "_law_due"]
theorem sc_law : FnScope N_law ["_law_script"] (defScope s_law) := ⟨rfl, rfl, rfl, by decide +kernel, rfl, by decide +kernel, by decide +kernel⟩
theorem ok_law {f : Addr} {fd : FuncData} (F : Fun K "law" "law" s_law f fd) (dg : base.NoDigits) (c_is_plan : Cal P w K mg base 9 "is_plan" ["thing"] (sp_is_plan K)) (c_law_cell : Cal P w K mg base 1 "_law_cell" ["_law_script", "_law_k"] (sp_law_cell K)) (c_law_purse : Cal P w K mg base 1 "_law_purse" ["_law_cell_here"] (sp_law_purse K)) (c_law_take : Cal P w K mg base 1 "_law_take" ["_law_purse_here", "_law_below"] (sp_law_take K)) (c_law_plan : Cal P w K mg base 4 "_law_plan" ["_law_purse_here", "_law_size_here"] (sp_law_plan K)) (c_law_size : Cal P w K mg base 2 "_law_size" ["_law_purse_here"] (sp_law_size K)) (c_law_plan_good : Cal P w K mg base 5 "_law_plan_good" ["_law_thing"] (sp_law_plan_good K)) (c_law_may_spoil : Cal P w K mg base 1 "_law_may_spoil" ["_law_thing"] (sp_law_may_spoil K)) (c_law_spoilt : Cal P w K mg base 3 "_law_spoilt" ["_law_purse_here", "_law_plan_here"] (sp_law_spoilt K)) (b_isinstance : mg "isinstance" = none) (b_len : mg "len" = none) (b_list : mg "list" = none) (b_max : mg "max" = none) (b_min : mg "min" = none) (b_range : mg "range" = none) (b_repr : mg "repr" = none) (b_tuple : mg "tuple" = none) : FnG P w K mg base CX0 10 f fd ["_law_script"] (sp_law K) := by
  refine okG F sc_law spLaw_len (fun cdv A outer s H vs Q E hr hgu h => ?_)
  refine ⟨_, (pss_cons (ps_for PassesOwn.never rfl (pi_range1 (by rfl) b_range (pa_cons (pe_callB (call_max2 rfl) (by rfl) b_max (by decide +kernel) (pa_cons pe_int (pa_cons (pe_callB (call_min2 rfl) (by rfl) b_min (by decide +kernel) (pa_cons pe_int (pa_cons (pe_callB (lenK K) (by rfl) b_len (by decide +kernel) (pa_cons (pv 0) pa_nil)) pa_nil))) pa_nil))) pa_nil)) (pg_name (i := 1) sc_law.nd rfl (Or.inl rfl)) (pss_cons (ps_set (i := 2) sc_law.nd rfl (Or.inl rfl) (pe_cal c_law_purse (hr.mono (by decide)) hgu (by rfl) (pa_cons (pe_cal c_law_cell (hr.mono (by decide)) hgu (by rfl) (pa_cons (pv 0) (pa_cons (pv 1) pa_nil))) pa_nil)))
    (pss_cons (ps_set (i := 3) sc_law.nd rfl (Or.inl rfl) (pe_cal c_law_plan (hr.mono (by decide)) hgu (by rfl) (pa_cons (pv 2) (pa_cons (pe_cal c_law_size (hr.mono (by decide)) hgu (by rfl) (pa_cons (pv 2) pa_nil)) pa_nil))))
    (pss_cons (ps_if (pt_cmpR op_notBl (pe_cal c_is_plan (hr.mono (by decide)) hgu (by rfl) (pa_cons (pv 3) pa_nil)) pe_bl (nomark _)) (pss_one (ps_ret pe_bl)) pss_nil)
    (pss_cons (ps_for PassesOwn.never rfl (pi_range1 (by rfl) b_range (pa_cons pe_int pa_nil)) (pg_name (i := 4) sc_law.nd rfl (Or.inl rfl)) (pss_cons (ps_set (i := 5) sc_law.nd rfl (Or.inl rfl) (pv 3))
    (pss_cons (ps_for PassesOwn.never rfl (pi_range1 (by rfl) b_range (pa_cons (pe_op op_add pe_int (pe_cal c_law_take (hr.mono (by decide)) hgu (by rfl) (pa_cons (pv 2) (pa_cons pe_int pa_nil)))) pa_nil)) (pg_name (i := 6) sc_law.nd rfl (Or.inl rfl)) (pss_one (ps_if (pt_val (pe_cal c_law_may_spoil (hr.mono (by decide)) hgu (by rfl) (pa_cons (pv 5) pa_nil))) (pss_one (ps_set (i := 5) sc_law.nd rfl (Or.inl rfl) (pe_cal c_law_spoilt (hr.mono (by decide)) hgu (by rfl) (pa_cons (pv 2) (pa_cons (pv 5) pa_nil))))) pss_nil)))
    (pss_cons (ps_set (i := 7) sc_law.nd rfl (Or.inl rfl) (pe_callB (reprXK K hgu hr.units dg) (by rfl) b_repr (by decide +kernel) (pa_cons (pv 5) pa_nil)))
    (pss_cons (ps_set (i := 8) sc_law.nd rfl (Or.inl rfl) (pe_callB (reprXK K hgu hr.units dg) (by rfl) b_repr (by decide +kernel) (pa_cons (pe_cal c_law_plan_good (hr.mono (by decide)) hgu (by rfl) (pa_cons (pv 5) pa_nil)) pa_nil)))
    (pss_cons (ps_if (PW.pt (pw_or (pt_cmpR op_ne (pe_callB (reprXK K hgu hr.units dg) (by rfl) b_repr (by decide +kernel) (pa_cons (pe_cal c_is_plan (hr.mono (by decide)) hgu (by rfl) (pa_cons (pv 5) pa_nil)) pa_nil)) (pv 8) (nomark _)) (pw_or (pt_cmpR op_ne (pe_callB (reprXK K hgu hr.units dg) (by rfl) b_repr (by decide +kernel) (pa_cons (pe_cal c_is_plan (hr.mono (by decide)) hgu (by rfl) (pa_cons (pv 5) pa_nil)) pa_nil)) (pv 8) (nomark _)) (pw_or1 (pt_cmpR op_ne (pe_callB (reprXK K hgu hr.units dg) (by rfl) b_repr (by decide +kernel) (pa_cons (pv 5) pa_nil)) (pv 7) (nomark _)))))) (pss_one (ps_ret pe_bl)) pss_nil)
    (pss_one (ps_if (PW.pt (pw_and (pt_val (pe_callB (isiK K) (by rfl) b_isinstance (by decide +kernel) (pa_cons (pv 5) (pa_cons (pe_bltn (v := .ty "list") (by rfl) b_list (by decide +kernel) rfl) pa_nil)))) (pw_and1 (pt_cmpR op_ne (pe_callB (reprXK K hgu hr.units dg) (by rfl) b_repr (by decide +kernel) (pa_cons (pe_cal c_is_plan (hr.mono (by decide)) hgu (by rfl) (pa_cons (pe_callTy (tupK K) (by rfl) b_tuple (by decide +kernel) (pa_cons (pv 5) pa_nil)) pa_nil)) pa_nil)) (pv 8) (nomark _))))) (pss_one (ps_ret pe_bl)) pss_nil))))))))
    (pss_one (ps_if (pt_cmpR op_notBl (pe_cal c_is_plan (hr.mono (by decide)) hgu (by rfl) (pa_cons (pv 3) pa_nil)) pe_bl (nomark _)) (pss_one (ps_ret pe_bl)) pss_nil)))))))
    (pss_one (ps_ret pe_bl))), ?_⟩
  try dsimp only [cxOf]
  refine law_body h (fun ns hl e hz => ?_)
  refine law_loop (n := 7) (by decide) hz (fun k k0 k1 => ?_)
  show wS _ _ ⟨[some (.d (.list (ns.map PyData.int))), some (.d (.int k)), none, none, none, none, none, none, none], _⟩ _
  repeat' walk_at "ux"
  refine ⟨⟨ns, k, rfl, k0, k1⟩, ?_⟩
  rintro _ ⟨c, rfl⟩
  repeat' walk_at "ux"
  rename_i pp
  rintro _ ⟨n0, rfl, hn0⟩
  repeat' walk_at "ux"
  refine ⟨⟨n0, rfl, hn0⟩, by omega, ?_⟩
  rintro _ ⟨n0', rows, en, rfl, hrl, hrr⟩
  obtain rfl : n0 = n0' := by cases en; rfl
  have hpl : PlS 7 (.list rows) := plS_lst (by omega) (by decide) (fun r hr => (hrr r hr).2)
  have hpb : planB (.list rows) = true := by
    show (decide (rows.length ≤ 12) && rows.all rowB) = true
    rw [decide_eq_true (by omega), List.all_eq_true.mpr (fun r hr => (hrr r hr).1)]; rfl
  try dsimp only [List.set, S.set]
  repeat' walk_at "ux"
  refine ⟨⟨rfl, hpl.1⟩, ?_⟩
  rw [show planB (a0 [PyData.list rows]) = true from hpb]
  repeat' walk_at "ux"
  refine wS_seq (wS_for ?_)
  repeat' walk_at "ux"
  refine forJ (fun j y => ∃ (kk : Nat), y = ⟨[some (.d (.list (ns.map PyData.int))), some (.d (.int k)), some (.lab pp), some (.d (.list rows)), none, none, none, none, none], [⟨pp, true, .pu kk⟩]⟩ ∧ 7000000 - 100 * j ≤ kk) ⟨_, ⟨8000000 - 3 - 1200, rfl, by omega⟩, by walk_at "lessu"⟩ (fun j x y' hx ⟨kk, ey, hk⟩ => ?_) (fun y2 y' ⟨kk, ey, hk⟩ hl => ?_)
  · subst ey
    obtain ⟨hj, rfl⟩ := rangeD_get hx
    have hj : j < 3 := hj
    repeat' walk_at "ux"
    refine wS_seq (wS_for ?_)
    repeat' walk_at "ux"
    rename_i tn tn0 tn1
    dsimp only [List.set, S.set]
    refine forJ (fun t y => ∃ (kk2 : Nat) (th : D), y = ⟨[some (.d (.list (ns.map PyData.int))), some (.d (.int k)), some (.lab pp), some (.d (.list rows)), none, some (.d th), none, none, none], [⟨pp, true, .pu kk2⟩]⟩ ∧ PlS (7 + t) th ∧ kk - 1 - 6 * t ≤ kk2) ⟨_, ⟨kk - 1, _, rfl, hpl, by omega⟩, by walk_at "lessu"⟩ (fun t x y' hx ⟨kk2, th, ey, hth, hk2⟩ => ?_) (fun y2 y' ⟨kk2, th, ey, hth, hk2⟩ hl => ?_)
    · subst ey
      obtain ⟨ht, rfl⟩ := rangeD_get hx
      have ht : t < 2 := by omega
      repeat' walk_at "ux"
      refine ⟨⟨rfl, hth.1⟩, ?_⟩
      rw [show maySp (a0 [th]) = maySp th from rfl]
      cases hms : maySp th with
      | true =>
        obtain ⟨rs, rfl⟩ : ∃ rs, th = .list rs := by cases th <;> first | exact ⟨_, rfl⟩ | cases hms
        obtain ⟨h1, h2⟩ := hth.2.2 rs rfl
        repeat' walk_at "ux"
        refine ⟨⟨7 + t, rs, rfl, h1, by omega, h2, hms⟩, by omega, fun d hd => ?_⟩
        repeat' walk_at "ux"
        have := hd (7 + t) rs rfl h1 (by omega) h2
        exact ⟨_, ⟨kk2 - 6, d, rfl, this, by omega⟩, by walk_at "lessu"⟩
      | false =>
        repeat' walk_at "ux"
        exact ⟨_, ⟨kk2, th, rfl, hth.mono (by omega), by omega⟩, by walk_at "lessu"⟩
    · subst ey
      rw [rangeD_len] at hth hk2
      refine wS_next ?_
      show wS _ (tSeq _ _) _ _
      refine wS_weak ?_ hl
      have hth : PlS 9 th := hth.mono (by omega)
      have hsx := hth.shX
      have hbx : ∀ b : Bool, ShX (.bool b) := fun b => (e1_bl b).2.ok
      repeat' walk_at "ux"
      refine ⟨⟨rfl, hth.1⟩, ?_⟩
      rw [show planB (a0 [th]) = planB th from rfl]
      have hb2 := hbx (planB th)
      have eqs : ∀ x : Str, eqS (.str x) (.str x) = true := fun x => by simp [eqS]
      repeat' walk_at "ux"
      refine ⟨⟨rfl, hth.1⟩, ?_⟩
      rw [show planB (a0 [th]) = planB th from rfl]
      repeat' walk_at "ux"
      rw [eqs]
      repeat' walk_at "ux"
      refine ⟨⟨rfl, hth.1⟩, ?_⟩
      rw [show planB (a0 [th]) = planB th from rfl]
      repeat' walk_at "ux"
      rw [eqs]
      repeat' walk_at "ux"
      rw [eqs]
      repeat' walk_at "ux"
      rw [isT_list]
      cases th with
      | list rs =>
        repeat' walk_at "ux"
        obtain ⟨hsl, hse⟩ := sm_list hth.1
        refine ⟨⟨rfl, sm_tup' hsl hse⟩, ?_⟩
        rw [show planB (a0 [PyData.tuple rs]) = planB (.list rs) from rfl]
        repeat' walk_at "ux"
        rw [eqs]
        repeat' walk_at "ux"
        exact ⟨_, ⟨kk2, rfl, by omega⟩, by walk_at "lessu"⟩
      | _ =>
        repeat' walk_at "ux"
        exact ⟨_, ⟨kk2, rfl, by omega⟩, by walk_at "lessu"⟩
  · subst ey
    refine wS_next ?_
    show wS _ (tIfS _ _ _) _ _
    refine wS_weak ?_ hl
    repeat' walk_at "ux"
    refine ⟨⟨rfl, hpl.1⟩, ?_⟩
    rw [show planB (a0 [PyData.list rows]) = true from hpb]
    repeat' walk_at "ux"
    exact ⟨rfl, rfl⟩
theorem row_ok (d_has_only : Df K mg "has_only" s_has_only ["text", "signs"])
    (d_is_name : Df K mg "is_name" s_is_name ["thing"])
    (d_is_manner : Df K mg "is_manner" s_is_manner ["thing"])
    (d_is_number : Df K mg "is_number" s_is_number ["thing"])
    (d_is_whole : Df K mg "is_whole" s_is_whole ["thing", "low", "high"])
    (d_is_short : Df K mg "is_short" s_is_short ["thing"])
    (d_is_most : Df K mg "is_most" s_is_most ["thing"])
    (d_are_so_many : Df K mg "are_so_many" s_are_so_many ["thing", "low", "high"])
    (d_are_terms : Df K mg "are_terms" s_are_terms ["thing"])
    (d_is_round : Df K mg "is_round" s_is_round ["thing"])
    (d_are_steps : Df K mg "are_steps" s_are_steps ["thing"])
    (d_are_two : Df K mg "are_two" s_are_two ["thing", "many"])
    (d_are_four : Df K mg "are_four" s_are_four ["thing"])
    (d_are_eight : Df K mg "are_eight" s_are_eight ["thing"])
    (d_fits : Df K mg "fits" s_fits ["kind", "thing"])
    (d_is_plan_row : Df K mg "is_plan_row" s_is_plan_row ["thing"])
    (d_are_rows : Df K mg "are_rows" s_are_rows ["thing"])
    (d_is_plan : Df K mg "is_plan" s_is_plan ["thing"])
    (d_law_cell : Df K mg "_law_cell" s_law_cell ["_law_script", "_law_k"])
    (d_law_purse : Df K mg "_law_purse" s_law_purse ["_law_cell_here"])
    (d_law_take : Df K mg "_law_take" s_law_take ["_law_purse_here", "_law_below"])
    (d_law_names : Df K mg "_law_names" s_law_names ["_law_purse_here", "_law_size_here"])
    (d_law_legal : Df K mg "_law_legal" s_law_legal ["_law_purse_here", "_law_manner"])
    (d_law_source : Df K mg "_law_source" s_law_source ["_law_purse_here", "_law_name"])
    (d_law_four : Df K mg "_law_four" s_law_four ["_law_purse_here"])
    (d_law_eight : Df K mg "_law_eight" s_law_eight ["_law_purse_here"])
    (d_law_machine : Df K mg "_law_machine" s_law_machine ["_law_purse_here", "_law_name", "_law_ahead"])
    (d_law_plan : Df K mg "_law_plan" s_law_plan ["_law_purse_here", "_law_size_here"])
    (d_law_size : Df K mg "_law_size" s_law_size ["_law_purse_here"])
    (d_law_called : Df K mg "_law_called" s_law_called ["_law_thing"])
    (d_law_short : Df K mg "_law_short" s_law_short ["_law_thing"])
    (d_law_numbers : Df K mg "_law_numbers" s_law_numbers ["_law_thing", "_law_low", "_law_high"])
    (d_law_word : Df K mg "_law_word" s_law_word ["_law_thing"])
    (d_law_most : Df K mg "_law_most" s_law_most ["_law_thing"])
    (d_law_two_rows : Df K mg "_law_two_rows" s_law_two_rows ["_law_thing", "_law_many"])
    (d_law_row_good : Df K mg "_law_row_good" s_law_row_good ["_law_row"])
    (d_law_plan_good : Df K mg "_law_plan_good" s_law_plan_good ["_law_thing"])
    (d_law_may_spoil : Df K mg "_law_may_spoil" s_law_may_spoil ["_law_thing"])
    (d_law_spoilt_row : Df K mg "_law_spoilt_row" s_law_spoilt_row ["_law_purse_here", "_law_row"])
    (d_law_spoilt : Df K mg "_law_spoilt" s_law_spoilt ["_law_purse_here", "_law_plan_here"])
    (b_all : mg "all" = none)
    (b_bool : mg "bool" = none)
    (b_int : mg "int" = none)
    (b_isinstance : mg "isinstance" = none)
    (b_len : mg "len" = none)
    (b_list : mg "list" = none)
    (b_max : mg "max" = none)
    (b_min : mg "min" = none)
    (b_range : mg "range" = none)
    (b_repr : mg "repr" = none)
    (b_str : mg "str" = none)
    (b_tuple : mg "tuple" = none)
    (b_zip : mg "zip" = none)
    {a_FITS : Addr} (m_FITS : Ux.GTf K w mg "FITS" a_FITS fitsN)
    {t_GREATEST : Tok} (m_GREATEST : mg "GREATEST" = some (.int 999999999999999999999999999999 t_GREATEST))
    {t_LETTERS : Tok} (m_LETTERS : mg "LETTERS" = some (.str "abcdefghijklmnopqrstuvwxyz" t_LETTERS))
    {t_LONGEST : Tok} (m_LONGEST : mg "LONGEST" = some (.int 6 t_LONGEST))
    {a_MANNERS : Addr} (m_MANNERS : Tq.GD K mg "MANNERS" a_MANNERS (PyData.tuple [(.str "floor"), (.str "ceil"), (.str "near")]))
    {t_MOST_MOST : Tok} (m_MOST_MOST : mg "MOST_MOST" = some (.int 64 t_MOST_MOST))
    {t_MOST_ROUND : Tok} (m_MOST_ROUND : mg "MOST_ROUND" = some (.int 20 t_MOST_ROUND))
    {t_MOST_ROWS : Tok} (m_MOST_ROWS : mg "MOST_ROWS" = some (.int 12 t_MOST_ROWS))
    {t_MOST_TERMS : Tok} (m_MOST_TERMS : mg "MOST_TERMS" = some (.int 100 t_MOST_TERMS))
    {a_SHAPES : Addr} (m_SHAPES : Ux.GTd K w mg "SHAPES" a_SHAPES shapesD) :
    ∀ (base : Heap) (f : Addr) (fd : FuncData), base.NoDigits → Fun K "law" "law" s_law f fd → FnG P w K mg base CX0 10 f fd ["_law_script"] (sp_law K) := by
  intro base f fd dg F
  have c_has_only : Cal P w K mg base 1 "has_only" ["text", "signs"] (sp_has_only K) := ok_has_only d_has_only b_all
  have c_is_name : Cal P w K mg base 2 "is_name" ["thing"] (sp_is_name K) := ok_is_name d_is_name c_has_only b_isinstance b_len b_str m_LETTERS m_LONGEST
  have c_is_manner : Cal P w K mg base 1 "is_manner" ["thing"] (sp_is_manner K) := ok_is_manner d_is_manner b_isinstance b_str m_MANNERS
  have c_is_number : Cal P w K mg base 1 "is_number" ["thing"] (sp_is_number K) := ok_is_number d_is_number b_bool b_int b_isinstance
  have c_is_whole : Cal P w K mg base 2 "is_whole" ["thing", "low", "high"] (sp_is_whole K) := ok_is_whole d_is_whole c_is_number
  have c_is_short : Cal P w K mg base 3 "is_short" ["thing"] (sp_is_short K) := ok_is_short d_is_short c_is_whole m_GREATEST
  have c_is_most : Cal P w K mg base 3 "is_most" ["thing"] (sp_is_most K) := ok_is_most d_is_most c_is_whole m_MOST_MOST
  have c_are_so_many : Cal P w K mg base 4 "are_so_many" ["thing", "low", "high"] (sp_are_so_many K) := ok_are_so_many d_are_so_many c_is_short b_all b_isinstance b_len b_tuple
  have c_are_terms : Cal P w K mg base 5 "are_terms" ["thing"] (sp_are_terms K) := ok_are_terms d_are_terms c_are_so_many m_MOST_TERMS
  have c_is_round : Cal P w K mg base 5 "is_round" ["thing"] (sp_is_round K) := ok_is_round d_is_round c_are_so_many m_MOST_ROUND
  have c_are_steps : Cal P w K mg base 6 "are_steps" ["thing"] (sp_are_steps K) := ok_are_steps d_are_steps c_is_round
  have c_are_two : Cal P w K mg base 5 "are_two" ["thing", "many"] (sp_are_two K) := ok_are_two d_are_two c_are_so_many b_all b_isinstance b_len b_tuple
  have c_are_four : Cal P w K mg base 6 "are_four" ["thing"] (sp_are_four K) := ok_are_four d_are_four c_are_two
  have c_are_eight : Cal P w K mg base 6 "are_eight" ["thing"] (sp_are_eight K) := ok_are_eight d_are_eight c_are_two
  have c_fits : Cal P w K mg base 7 "fits" ["kind", "thing"] (sp_fits K) := ok_fits d_fits c_is_name c_is_manner c_is_short c_is_most c_are_terms c_is_round c_are_steps c_are_four c_are_eight m_FITS
  have c_is_plan_row : Cal P w K mg base 8 "is_plan_row" ["thing"] (sp_is_plan_row K) := ok_is_plan_row d_is_plan_row c_fits b_all b_isinstance b_len b_str b_tuple b_zip m_SHAPES
  have c_are_rows : Cal P w K mg base 1 "are_rows" ["thing"] (sp_are_rows K) := ok_are_rows d_are_rows b_isinstance b_len b_list b_tuple m_MOST_ROWS
  have c_is_plan : Cal P w K mg base 9 "is_plan" ["thing"] (sp_is_plan K) := ok_is_plan d_is_plan c_is_plan_row c_are_rows b_all
  have c_law_cell : Cal P w K mg base 1 "_law_cell" ["_law_script", "_law_k"] (sp_law_cell K) := ok_law_cell d_law_cell b_len
  have c_law_purse : Cal P w K mg base 1 "_law_purse" ["_law_cell_here"] (sp_law_purse K) := ok_law_purse d_law_purse b_max
  have c_law_take : Cal P w K mg base 1 "_law_take" ["_law_purse_here", "_law_below"] (sp_law_take K) := ok_law_take d_law_take 
  have c_law_names : Cal P w K mg base 2 "_law_names" ["_law_purse_here", "_law_size_here"] (sp_law_names K) := ok_law_names d_law_names c_law_take b_len b_range
  have c_law_legal : Cal P w K mg base 2 "_law_legal" ["_law_purse_here", "_law_manner"] (Tq.sp_law_legalP K) := ok_law_legal d_law_legal c_law_take b_int b_len b_range b_tuple
  have c_law_source : Cal P w K mg base 3 "_law_source" ["_law_purse_here", "_law_name"] (sp_law_source K) := ok_law_source d_law_source c_law_take c_law_legal b_range b_tuple
  have c_law_four : Cal P w K mg base 2 "_law_four" ["_law_purse_here"] (sp_law_four K) := ok_law_four d_law_four c_law_take b_range
  have c_law_eight : Cal P w K mg base 2 "_law_eight" ["_law_purse_here"] (sp_law_eight K) := ok_law_eight d_law_eight c_law_take
  have c_law_machine : Cal P w K mg base 3 "_law_machine" ["_law_purse_here", "_law_name", "_law_ahead"] (sp_law_machine K) := ok_law_machine d_law_machine c_law_take c_law_four c_law_eight b_len b_max
  have c_law_plan : Cal P w K mg base 4 "_law_plan" ["_law_purse_here", "_law_size_here"] (sp_law_plan K) := ok_law_plan d_law_plan c_law_take c_law_names c_law_source c_law_machine
  have c_law_size : Cal P w K mg base 2 "_law_size" ["_law_purse_here"] (sp_law_size K) := ok_law_size d_law_size c_law_take
  have c_law_called : Cal P w K mg base 1 "_law_called" ["_law_thing"] (sp_law_called K) := ok_law_called d_law_called b_isinstance b_len b_str
  have c_law_short : Cal P w K mg base 1 "_law_short" ["_law_thing"] (sp_law_short K) := ok_law_short d_law_short b_bool b_int b_isinstance
  have c_law_numbers : Cal P w K mg base 2 "_law_numbers" ["_law_thing", "_law_low", "_law_high"] (sp_law_numbers K) := ok_law_numbers d_law_numbers c_law_short b_isinstance b_len b_tuple
  have c_law_word : Cal P w K mg base 1 "_law_word" ["_law_thing"] (sp_law_word K) := ok_law_word d_law_word b_isinstance b_str
  have c_law_most : Cal P w K mg base 2 "_law_most" ["_law_thing"] (sp_law_most K) := ok_law_most d_law_most c_law_short
  have c_law_two_rows : Cal P w K mg base 3 "_law_two_rows" ["_law_thing", "_law_many"] (sp_law_two_rows K) := ok_law_two_rows d_law_two_rows c_law_numbers b_isinstance b_len b_tuple
  have c_law_row_good : Cal P w K mg base 4 "_law_row_good" ["_law_row"] (sp_law_row_good K) := ok_law_row_good d_law_row_good c_law_called c_law_numbers c_law_word c_law_most c_law_two_rows b_int b_isinstance b_len b_str b_tuple
  have c_law_plan_good : Cal P w K mg base 5 "_law_plan_good" ["_law_thing"] (sp_law_plan_good K) := ok_law_plan_good d_law_plan_good c_law_row_good b_isinstance b_len b_list b_tuple
  have c_law_may_spoil : Cal P w K mg base 1 "_law_may_spoil" ["_law_thing"] (sp_law_may_spoil K) := ok_law_may_spoil d_law_may_spoil b_isinstance b_list b_tuple
  have c_law_spoilt_row : Cal P w K mg base 2 "_law_spoilt_row" ["_law_purse_here", "_law_row"] (sp_law_spoilt_row K) := ok_law_spoilt_row d_law_spoilt_row c_law_take b_len b_list b_range b_tuple
  have c_law_spoilt : Cal P w K mg base 3 "_law_spoilt" ["_law_purse_here", "_law_plan_here"] (sp_law_spoilt K) := ok_law_spoilt d_law_spoilt c_law_take c_law_spoilt_row b_len b_max
  exact ok_law F dg c_is_plan c_law_cell c_law_purse c_law_take c_law_plan c_law_size c_law_plan_good c_law_may_spoil c_law_spoilt b_isinstance b_len b_list b_max b_min b_range b_repr b_tuple
end
end Ux
open PySem PySem.W PyProof.Rows
set_option maxHeartbeats 0 in
theorem PySem.Challenge.cw_termstream_k74_plans_by_form_holds : PySem.Challenge.rw_termstream_k74_plans_by_form.Holds :=
  Hd.hd_k74 (by
  k_fill
  refine Tq.walk_ofD (l := PySem.Challenge.rw_termstream_k74_plans_by_form) (n := 63) (k := 10) (x := "_law_script") (sp := Tq.sp_law) rfl (by decide) rfl ⟨rfl, by decide, by decide⟩ (fun w h Y => PySem.W.kIn_of Y) ?F (fun K H a ns hl _ hS => ⟨a, ns, rfl, hS, hl, fun _ => rfl⟩)
  case F =>
    intro w mg fa h KX G hmg
    refine' Tq.law_mkD (st := Ux.s_law) KX G hmg (Ux.row_ok
      (Tq.df_mk KX G (fun _ _ _ _ _ _ us hl => match us, hl with | [_, _], _ => rfl) ?a0 ?l0 ?c0 ?k0)
      (Tq.df_mk KX G (fun _ _ _ _ _ _ us hl => match us, hl with | [_], _ => rfl) ?a1 ?l1 ?c1 ?k1)
      (Tq.df_mk KX G (fun _ _ _ _ _ _ us hl => match us, hl with | [_], _ => rfl) ?a2 ?l2 ?c2 ?k2)
      (Tq.df_mk KX G (fun _ _ _ _ _ _ us hl => match us, hl with | [_], _ => rfl) ?a3 ?l3 ?c3 ?k3)
      (Tq.df_mk KX G (fun _ _ _ _ _ _ us hl => match us, hl with | [_, _, _], _ => rfl) ?a4 ?l4 ?c4 ?k4)
      (Tq.df_mk KX G (fun _ _ _ _ _ _ us hl => match us, hl with | [_], _ => rfl) ?a5 ?l5 ?c5 ?k5)
      (Tq.df_mk KX G (fun _ _ _ _ _ _ us hl => match us, hl with | [_], _ => rfl) ?a6 ?l6 ?c6 ?k6)
      (Tq.df_mk KX G (fun _ _ _ _ _ _ us hl => match us, hl with | [_, _, _], _ => rfl) ?a7 ?l7 ?c7 ?k7)
      (Tq.df_mk KX G (fun _ _ _ _ _ _ us hl => match us, hl with | [_], _ => rfl) ?a8 ?l8 ?c8 ?k8)
      (Tq.df_mk KX G (fun _ _ _ _ _ _ us hl => match us, hl with | [_], _ => rfl) ?a9 ?l9 ?c9 ?k9)
      (Tq.df_mk KX G (fun _ _ _ _ _ _ us hl => match us, hl with | [_], _ => rfl) ?a10 ?l10 ?c10 ?k10)
      (Tq.df_mk KX G (fun _ _ _ _ _ _ us hl => match us, hl with | [_, _], _ => rfl) ?a11 ?l11 ?c11 ?k11)
      (Tq.df_mk KX G (fun _ _ _ _ _ _ us hl => match us, hl with | [_], _ => rfl) ?a12 ?l12 ?c12 ?k12)
      (Tq.df_mk KX G (fun _ _ _ _ _ _ us hl => match us, hl with | [_], _ => rfl) ?a13 ?l13 ?c13 ?k13)
      (Tq.df_mk KX G (fun _ _ _ _ _ _ us hl => match us, hl with | [_, _], _ => rfl) ?a14 ?l14 ?c14 ?k14)
      (Tq.df_mk KX G (fun _ _ _ _ _ _ us hl => match us, hl with | [_], _ => rfl) ?a15 ?l15 ?c15 ?k15)
      (Tq.df_mk KX G (fun _ _ _ _ _ _ us hl => match us, hl with | [_], _ => rfl) ?a16 ?l16 ?c16 ?k16)
      (Tq.df_mk KX G (fun _ _ _ _ _ _ us hl => match us, hl with | [_], _ => rfl) ?a17 ?l17 ?c17 ?k17)
      (Tq.df_mk KX G (fun _ _ _ _ _ _ us hl => match us, hl with | [_, _], _ => rfl) ?a18 ?l18 ?c18 ?k18)
      (Tq.df_mk KX G (fun _ _ _ _ _ _ us hl => match us, hl with | [_], _ => rfl) ?a19 ?l19 ?c19 ?k19)
      (Tq.df_mk KX G (fun _ _ _ _ _ _ us hl => match us, hl with | [_, _], _ => rfl) ?a20 ?l20 ?c20 ?k20)
      (Tq.df_mk KX G (fun _ _ _ _ _ _ us hl => match us, hl with | [_, _], _ => rfl) ?a21 ?l21 ?c21 ?k21)
      (Tq.df_mk KX G (fun _ _ _ _ _ _ us hl => match us, hl with | [_, _], _ => rfl) ?a22 ?l22 ?c22 ?k22)
      (Tq.df_mk KX G (fun _ _ _ _ _ _ us hl => match us, hl with | [_, _], _ => rfl) ?a23 ?l23 ?c23 ?k23)
      (Tq.df_mk KX G (fun _ _ _ _ _ _ us hl => match us, hl with | [_], _ => rfl) ?a24 ?l24 ?c24 ?k24)
      (Tq.df_mk KX G (fun _ _ _ _ _ _ us hl => match us, hl with | [_], _ => rfl) ?a25 ?l25 ?c25 ?k25)
      (Tq.df_mk KX G (fun _ _ _ _ _ _ us hl => match us, hl with | [_, _, _], _ => rfl) ?a26 ?l26 ?c26 ?k26)
      (Tq.df_mk KX G (fun _ _ _ _ _ _ us hl => match us, hl with | [_, _], _ => rfl) ?a27 ?l27 ?c27 ?k27)
      (Tq.df_mk KX G (fun _ _ _ _ _ _ us hl => match us, hl with | [_], _ => rfl) ?a28 ?l28 ?c28 ?k28)
      (Tq.df_mk KX G (fun _ _ _ _ _ _ us hl => match us, hl with | [_], _ => rfl) ?a29 ?l29 ?c29 ?k29)
      (Tq.df_mk KX G (fun _ _ _ _ _ _ us hl => match us, hl with | [_], _ => rfl) ?a30 ?l30 ?c30 ?k30)
      (Tq.df_mk KX G (fun _ _ _ _ _ _ us hl => match us, hl with | [_, _, _], _ => rfl) ?a31 ?l31 ?c31 ?k31)
      (Tq.df_mk KX G (fun _ _ _ _ _ _ us hl => match us, hl with | [_], _ => rfl) ?a32 ?l32 ?c32 ?k32)
      (Tq.df_mk KX G (fun _ _ _ _ _ _ us hl => match us, hl with | [_], _ => rfl) ?a33 ?l33 ?c33 ?k33)
      (Tq.df_mk KX G (fun _ _ _ _ _ _ us hl => match us, hl with | [_, _], _ => rfl) ?a34 ?l34 ?c34 ?k34)
      (Tq.df_mk KX G (fun _ _ _ _ _ _ us hl => match us, hl with | [_], _ => rfl) ?a35 ?l35 ?c35 ?k35)
      (Tq.df_mk KX G (fun _ _ _ _ _ _ us hl => match us, hl with | [_], _ => rfl) ?a36 ?l36 ?c36 ?k36)
      (Tq.df_mk KX G (fun _ _ _ _ _ _ us hl => match us, hl with | [_], _ => rfl) ?a37 ?l37 ?c37 ?k37)
      (Tq.df_mk KX G (fun _ _ _ _ _ _ us hl => match us, hl with | [_, _], _ => rfl) ?a38 ?l38 ?c38 ?k38)
      (Tq.df_mk KX G (fun _ _ _ _ _ _ us hl => match us, hl with | [_, _], _ => rfl) ?a39 ?l39 ?c39 ?k39)
      (PySem.W.mg_none_of KX G ?z0)
      (PySem.W.mg_none_of KX G ?z1)
      (PySem.W.mg_none_of KX G ?z2)
      (PySem.W.mg_none_of KX G ?z3)
      (PySem.W.mg_none_of KX G ?z4)
      (PySem.W.mg_none_of KX G ?z5)
      (PySem.W.mg_none_of KX G ?z6)
      (PySem.W.mg_none_of KX G ?z7)
      (PySem.W.mg_none_of KX G ?z8)
      (PySem.W.mg_none_of KX G ?z9)
      (PySem.W.mg_none_of KX G ?z10)
      (PySem.W.mg_none_of KX G ?z11)
      (PySem.W.mg_none_of KX G ?z12)
      (Ux.gt_mk KX G ?y0 ?yl0 ?yw0 ?ye0)
      (PySem.W.mg_of KX G ?y1)
      (PySem.W.mg_of KX G ?y2)
      (PySem.W.mg_of KX G ?y3)
      (Tq.gd_tup KX G (.cons (.str "floor" _) (.cons (.str "ceil" _) (.cons (.str "near" _) .nil))) (by show 3 ≤ sizeLine; decide) ?y4 ?yl4)
      (PySem.W.mg_of KX G ?y5)
      (PySem.W.mg_of KX G ?y6)
      (PySem.W.mg_of KX G ?y7)
      (PySem.W.mg_of KX G ?y8)
      (Ux.gt_mk KX G ?y9 ?yl9 ?yw9 ?ye9)) (fun _ _ _ _ _ _ _ _ => .of_eq rfl) ?a ?l ?c ?k
    (case a0 => first | k_is | decide +kernel | rfl | exact ⟨[_], rfl⟩); (case l0 => first | k_is | decide +kernel | rfl | exact ⟨[_], rfl⟩); (case c0 => first | k_is | decide +kernel | rfl | exact ⟨[_], rfl⟩); (case k0 => first | k_is | decide +kernel | rfl | exact ⟨[_], rfl⟩); (case a1 => first | k_is | decide +kernel | rfl | exact ⟨[_], rfl⟩); (case l1 => first | k_is | decide +kernel | rfl | exact ⟨[_], rfl⟩); (case c1 => first | k_is | decide +kernel | rfl | exact ⟨[_], rfl⟩); (case k1 => first | k_is | decide +kernel | rfl | exact ⟨[_], rfl⟩)
    (case a2 => first | k_is | decide +kernel | rfl | exact ⟨[_], rfl⟩); (case l2 => first | k_is | decide +kernel | rfl | exact ⟨[_], rfl⟩); (case c2 => first | k_is | decide +kernel | rfl | exact ⟨[_], rfl⟩); (case k2 => first | k_is | decide +kernel | rfl | exact ⟨[_], rfl⟩); (case a3 => first | k_is | decide +kernel | rfl | exact ⟨[_], rfl⟩); (case l3 => first | k_is | decide +kernel | rfl | exact ⟨[_], rfl⟩); (case c3 => first | k_is | decide +kernel | rfl | exact ⟨[_], rfl⟩); (case k3 => first | k_is | decide +kernel | rfl | exact ⟨[_], rfl⟩)
    (case a4 => first | k_is | decide +kernel | rfl | exact ⟨[_], rfl⟩); (case l4 => first | k_is | decide +kernel | rfl | exact ⟨[_], rfl⟩); (case c4 => first | k_is | decide +kernel | rfl | exact ⟨[_], rfl⟩); (case k4 => first | k_is | decide +kernel | rfl | exact ⟨[_], rfl⟩); (case a5 => first | k_is | decide +kernel | rfl | exact ⟨[_], rfl⟩); (case l5 => first | k_is | decide +kernel | rfl | exact ⟨[_], rfl⟩); (case c5 => first | k_is | decide +kernel | rfl | exact ⟨[_], rfl⟩); (case k5 => first | k_is | decide +kernel | rfl | exact ⟨[_], rfl⟩)
    (case a6 => first | k_is | decide +kernel | rfl | exact ⟨[_], rfl⟩); (case l6 => first | k_is | decide +kernel | rfl | exact ⟨[_], rfl⟩); (case c6 => first | k_is | decide +kernel | rfl | exact ⟨[_], rfl⟩); (case k6 => first | k_is | decide +kernel | rfl | exact ⟨[_], rfl⟩); (case a7 => first | k_is | decide +kernel | rfl | exact ⟨[_], rfl⟩); (case l7 => first | k_is | decide +kernel | rfl | exact ⟨[_], rfl⟩); (case c7 => first | k_is | decide +kernel | rfl | exact ⟨[_], rfl⟩); (case k7 => first | k_is | decide +kernel | rfl | exact ⟨[_], rfl⟩)
    (case a8 => first | k_is | decide +kernel | rfl | exact ⟨[_], rfl⟩); (case l8 => first | k_is | decide +kernel | rfl | exact ⟨[_], rfl⟩); (case c8 => first | k_is | decide +kernel | rfl | exact ⟨[_], rfl⟩); (case k8 => first | k_is | decide +kernel | rfl | exact ⟨[_], rfl⟩); (case a9 => first | k_is | decide +kernel | rfl | exact ⟨[_], rfl⟩); (case l9 => first | k_is | decide +kernel | rfl | exact ⟨[_], rfl⟩); (case c9 => first | k_is | decide +kernel | rfl | exact ⟨[_], rfl⟩); (case k9 => first | k_is | decide +kernel | rfl | exact ⟨[_], rfl⟩)
    (case a10 => first | k_is | decide +kernel | rfl | exact ⟨[_], rfl⟩); (case l10 => first | k_is | decide +kernel | rfl | exact ⟨[_], rfl⟩); (case c10 => first | k_is | decide +kernel | rfl | exact ⟨[_], rfl⟩); (case k10 => first | k_is | decide +kernel | rfl | exact ⟨[_], rfl⟩); (case a11 => first | k_is | decide +kernel | rfl | exact ⟨[_], rfl⟩); (case l11 => first | k_is | decide +kernel | rfl | exact ⟨[_], rfl⟩); (case c11 => first | k_is | decide +kernel | rfl | exact ⟨[_], rfl⟩); (case k11 => first | k_is | decide +kernel | rfl | exact ⟨[_], rfl⟩)
    (case a12 => first | k_is | decide +kernel | rfl | exact ⟨[_], rfl⟩); (case l12 => first | k_is | decide +kernel | rfl | exact ⟨[_], rfl⟩); (case c12 => first | k_is | decide +kernel | rfl | exact ⟨[_], rfl⟩); (case k12 => first | k_is | decide +kernel | rfl | exact ⟨[_], rfl⟩); (case a13 => first | k_is | decide +kernel | rfl | exact ⟨[_], rfl⟩); (case l13 => first | k_is | decide +kernel | rfl | exact ⟨[_], rfl⟩); (case c13 => first | k_is | decide +kernel | rfl | exact ⟨[_], rfl⟩); (case k13 => first | k_is | decide +kernel | rfl | exact ⟨[_], rfl⟩)
    (case a14 => first | k_is | decide +kernel | rfl | exact ⟨[_], rfl⟩); (case l14 => first | k_is | decide +kernel | rfl | exact ⟨[_], rfl⟩); (case c14 => first | k_is | decide +kernel | rfl | exact ⟨[_], rfl⟩); (case k14 => first | k_is | decide +kernel | rfl | exact ⟨[_], rfl⟩); (case a15 => first | k_is | decide +kernel | rfl | exact ⟨[_], rfl⟩); (case l15 => first | k_is | decide +kernel | rfl | exact ⟨[_], rfl⟩); (case c15 => first | k_is | decide +kernel | rfl | exact ⟨[_], rfl⟩); (case k15 => first | k_is | decide +kernel | rfl | exact ⟨[_], rfl⟩)
    (case a16 => first | k_is | decide +kernel | rfl | exact ⟨[_], rfl⟩); (case l16 => first | k_is | decide +kernel | rfl | exact ⟨[_], rfl⟩); (case c16 => first | k_is | decide +kernel | rfl | exact ⟨[_], rfl⟩); (case k16 => first | k_is | decide +kernel | rfl | exact ⟨[_], rfl⟩); (case a17 => first | k_is | decide +kernel | rfl | exact ⟨[_], rfl⟩); (case l17 => first | k_is | decide +kernel | rfl | exact ⟨[_], rfl⟩); (case c17 => first | k_is | decide +kernel | rfl | exact ⟨[_], rfl⟩); (case k17 => first | k_is | decide +kernel | rfl | exact ⟨[_], rfl⟩)
    (case a18 => first | k_is | decide +kernel | rfl | exact ⟨[_], rfl⟩); (case l18 => first | k_is | decide +kernel | rfl | exact ⟨[_], rfl⟩); (case c18 => first | k_is | decide +kernel | rfl | exact ⟨[_], rfl⟩); (case k18 => first | k_is | decide +kernel | rfl | exact ⟨[_], rfl⟩); (case a19 => first | k_is | decide +kernel | rfl | exact ⟨[_], rfl⟩); (case l19 => first | k_is | decide +kernel | rfl | exact ⟨[_], rfl⟩); (case c19 => first | k_is | decide +kernel | rfl | exact ⟨[_], rfl⟩); (case k19 => first | k_is | decide +kernel | rfl | exact ⟨[_], rfl⟩)
    (case a20 => first | k_is | decide +kernel | rfl | exact ⟨[_], rfl⟩); (case l20 => first | k_is | decide +kernel | rfl | exact ⟨[_], rfl⟩); (case c20 => first | k_is | decide +kernel | rfl | exact ⟨[_], rfl⟩); (case k20 => first | k_is | decide +kernel | rfl | exact ⟨[_], rfl⟩); (case a21 => first | k_is | decide +kernel | rfl | exact ⟨[_], rfl⟩); (case l21 => first | k_is | decide +kernel | rfl | exact ⟨[_], rfl⟩); (case c21 => first | k_is | decide +kernel | rfl | exact ⟨[_], rfl⟩); (case k21 => first | k_is | decide +kernel | rfl | exact ⟨[_], rfl⟩)
    (case a22 => first | k_is | decide +kernel | rfl | exact ⟨[_], rfl⟩); (case l22 => first | k_is | decide +kernel | rfl | exact ⟨[_], rfl⟩); (case c22 => first | k_is | decide +kernel | rfl | exact ⟨[_], rfl⟩); (case k22 => first | k_is | decide +kernel | rfl | exact ⟨[_], rfl⟩); (case a23 => first | k_is | decide +kernel | rfl | exact ⟨[_], rfl⟩); (case l23 => first | k_is | decide +kernel | rfl | exact ⟨[_], rfl⟩); (case c23 => first | k_is | decide +kernel | rfl | exact ⟨[_], rfl⟩); (case k23 => first | k_is | decide +kernel | rfl | exact ⟨[_], rfl⟩)
    (case a24 => first | k_is | decide +kernel | rfl | exact ⟨[_], rfl⟩); (case l24 => first | k_is | decide +kernel | rfl | exact ⟨[_], rfl⟩); (case c24 => first | k_is | decide +kernel | rfl | exact ⟨[_], rfl⟩); (case k24 => first | k_is | decide +kernel | rfl | exact ⟨[_], rfl⟩); (case a25 => first | k_is | decide +kernel | rfl | exact ⟨[_], rfl⟩); (case l25 => first | k_is | decide +kernel | rfl | exact ⟨[_], rfl⟩); (case c25 => first | k_is | decide +kernel | rfl | exact ⟨[_], rfl⟩); (case k25 => first | k_is | decide +kernel | rfl | exact ⟨[_], rfl⟩)
    (case a26 => first | k_is | decide +kernel | rfl | exact ⟨[_], rfl⟩); (case l26 => first | k_is | decide +kernel | rfl | exact ⟨[_], rfl⟩); (case c26 => first | k_is | decide +kernel | rfl | exact ⟨[_], rfl⟩); (case k26 => first | k_is | decide +kernel | rfl | exact ⟨[_], rfl⟩); (case a27 => first | k_is | decide +kernel | rfl | exact ⟨[_], rfl⟩); (case l27 => first | k_is | decide +kernel | rfl | exact ⟨[_], rfl⟩); (case c27 => first | k_is | decide +kernel | rfl | exact ⟨[_], rfl⟩); (case k27 => first | k_is | decide +kernel | rfl | exact ⟨[_], rfl⟩)
    (case a28 => first | k_is | decide +kernel | rfl | exact ⟨[_], rfl⟩); (case l28 => first | k_is | decide +kernel | rfl | exact ⟨[_], rfl⟩); (case c28 => first | k_is | decide +kernel | rfl | exact ⟨[_], rfl⟩); (case k28 => first | k_is | decide +kernel | rfl | exact ⟨[_], rfl⟩); (case a29 => first | k_is | decide +kernel | rfl | exact ⟨[_], rfl⟩); (case l29 => first | k_is | decide +kernel | rfl | exact ⟨[_], rfl⟩); (case c29 => first | k_is | decide +kernel | rfl | exact ⟨[_], rfl⟩); (case k29 => first | k_is | decide +kernel | rfl | exact ⟨[_], rfl⟩)
    (case a30 => first | k_is | decide +kernel | rfl | exact ⟨[_], rfl⟩); (case l30 => first | k_is | decide +kernel | rfl | exact ⟨[_], rfl⟩); (case c30 => first | k_is | decide +kernel | rfl | exact ⟨[_], rfl⟩); (case k30 => first | k_is | decide +kernel | rfl | exact ⟨[_], rfl⟩); (case a31 => first | k_is | decide +kernel | rfl | exact ⟨[_], rfl⟩); (case l31 => first | k_is | decide +kernel | rfl | exact ⟨[_], rfl⟩); (case c31 => first | k_is | decide +kernel | rfl | exact ⟨[_], rfl⟩); (case k31 => first | k_is | decide +kernel | rfl | exact ⟨[_], rfl⟩)
    (case a32 => first | k_is | decide +kernel | rfl | exact ⟨[_], rfl⟩); (case l32 => first | k_is | decide +kernel | rfl | exact ⟨[_], rfl⟩); (case c32 => first | k_is | decide +kernel | rfl | exact ⟨[_], rfl⟩); (case k32 => first | k_is | decide +kernel | rfl | exact ⟨[_], rfl⟩); (case a33 => first | k_is | decide +kernel | rfl | exact ⟨[_], rfl⟩); (case l33 => first | k_is | decide +kernel | rfl | exact ⟨[_], rfl⟩); (case c33 => first | k_is | decide +kernel | rfl | exact ⟨[_], rfl⟩); (case k33 => first | k_is | decide +kernel | rfl | exact ⟨[_], rfl⟩)
    (case a34 => first | k_is | decide +kernel | rfl | exact ⟨[_], rfl⟩); (case l34 => first | k_is | decide +kernel | rfl | exact ⟨[_], rfl⟩); (case c34 => first | k_is | decide +kernel | rfl | exact ⟨[_], rfl⟩); (case k34 => first | k_is | decide +kernel | rfl | exact ⟨[_], rfl⟩); (case a35 => first | k_is | decide +kernel | rfl | exact ⟨[_], rfl⟩); (case l35 => first | k_is | decide +kernel | rfl | exact ⟨[_], rfl⟩); (case c35 => first | k_is | decide +kernel | rfl | exact ⟨[_], rfl⟩); (case k35 => first | k_is | decide +kernel | rfl | exact ⟨[_], rfl⟩)
    (case a36 => first | k_is | decide +kernel | rfl | exact ⟨[_], rfl⟩); (case l36 => first | k_is | decide +kernel | rfl | exact ⟨[_], rfl⟩); (case c36 => first | k_is | decide +kernel | rfl | exact ⟨[_], rfl⟩); (case k36 => first | k_is | decide +kernel | rfl | exact ⟨[_], rfl⟩); (case a37 => first | k_is | decide +kernel | rfl | exact ⟨[_], rfl⟩); (case l37 => first | k_is | decide +kernel | rfl | exact ⟨[_], rfl⟩); (case c37 => first | k_is | decide +kernel | rfl | exact ⟨[_], rfl⟩); (case k37 => first | k_is | decide +kernel | rfl | exact ⟨[_], rfl⟩)
    (case a38 => first | k_is | decide +kernel | rfl | exact ⟨[_], rfl⟩); (case l38 => first | k_is | decide +kernel | rfl | exact ⟨[_], rfl⟩); (case c38 => first | k_is | decide +kernel | rfl | exact ⟨[_], rfl⟩); (case k38 => first | k_is | decide +kernel | rfl | exact ⟨[_], rfl⟩); (case a39 => first | k_is | decide +kernel | rfl | exact ⟨[_], rfl⟩); (case l39 => first | k_is | decide +kernel | rfl | exact ⟨[_], rfl⟩); (case c39 => first | k_is | decide +kernel | rfl | exact ⟨[_], rfl⟩); (case k39 => first | k_is | decide +kernel | rfl | exact ⟨[_], rfl⟩)
    (case z0 => first | k_is | decide +kernel | rfl | exact ⟨[_], rfl⟩); (case z1 => first | k_is | decide +kernel | rfl | exact ⟨[_], rfl⟩); (case z2 => first | k_is | decide +kernel | rfl | exact ⟨[_], rfl⟩); (case z3 => first | k_is | decide +kernel | rfl | exact ⟨[_], rfl⟩); (case z4 => first | k_is | decide +kernel | rfl | exact ⟨[_], rfl⟩); (case z5 => first | k_is | decide +kernel | rfl | exact ⟨[_], rfl⟩); (case z6 => first | k_is | decide +kernel | rfl | exact ⟨[_], rfl⟩); (case z7 => first | k_is | decide +kernel | rfl | exact ⟨[_], rfl⟩)
    (case z8 => first | k_is | decide +kernel | rfl | exact ⟨[_], rfl⟩); (case z9 => first | k_is | decide +kernel | rfl | exact ⟨[_], rfl⟩); (case z10 => first | k_is | decide +kernel | rfl | exact ⟨[_], rfl⟩); (case z11 => first | k_is | decide +kernel | rfl | exact ⟨[_], rfl⟩); (case z12 => first | k_is | decide +kernel | rfl | exact ⟨[_], rfl⟩); (case y0 => first | k_is | decide +kernel | rfl | exact ⟨[_], rfl⟩); (case yl0 => first | k_is | decide +kernel | rfl | exact ⟨[_], rfl⟩); (case yw0 => first | k_is | decide +kernel | rfl | exact ⟨[_], rfl⟩)
    (case y1 => first | k_is | decide +kernel | rfl | exact ⟨[_], rfl⟩); (case y2 => first | k_is | decide +kernel | rfl | exact ⟨[_], rfl⟩); (case y3 => first | k_is | decide +kernel | rfl | exact ⟨[_], rfl⟩); (case y4 => first | k_is | decide +kernel | rfl | exact ⟨[_], rfl⟩); (case yl4 => first | k_is | decide +kernel | rfl | exact ⟨[_], rfl⟩); (case y5 => first | k_is | decide +kernel | rfl | exact ⟨[_], rfl⟩); (case y6 => first | k_is | decide +kernel | rfl | exact ⟨[_], rfl⟩); (case y7 => first | k_is | decide +kernel | rfl | exact ⟨[_], rfl⟩)
    (case y8 => first | k_is | decide +kernel | rfl | exact ⟨[_], rfl⟩); (case y9 => first | k_is | decide +kernel | rfl | exact ⟨[_], rfl⟩); (case yl9 => first | k_is | decide +kernel | rfl | exact ⟨[_], rfl⟩); (case yw9 => first | k_is | decide +kernel | rfl | exact ⟨[_], rfl⟩); (case a => first | k_is | decide +kernel | rfl | exact ⟨[_], rfl⟩); (case l => first | k_is | decide +kernel | rfl | exact ⟨[_], rfl⟩); (case c => first | k_is | decide +kernel | rfl | exact ⟨[_], rfl⟩); (case k => first | k_is | decide +kernel | rfl | exact ⟨[_], rfl⟩)
    (case ye0 => exact (.cons ⟨_, rfl⟩ rfl ⟨_, rfl, PySem.W.mg_of KX G (by first | k_is | rfl)⟩ (.cons ⟨_, rfl⟩ rfl ⟨_, rfl, PySem.W.mg_of KX G (by first | k_is | rfl)⟩ (.cons ⟨_, rfl⟩ rfl ⟨_, rfl, PySem.W.mg_of KX G (by first | k_is | rfl)⟩ (.cons ⟨_, rfl⟩ rfl ⟨_, rfl, PySem.W.mg_of KX G (by first | k_is | rfl)⟩ (.cons ⟨_, rfl⟩ rfl ⟨_, rfl, PySem.W.mg_of KX G (by first | k_is | rfl)⟩ (.cons ⟨_, rfl⟩ rfl ⟨_, rfl, PySem.W.mg_of KX G (by first | k_is | rfl)⟩ (.cons ⟨_, rfl⟩ rfl ⟨_, rfl, PySem.W.mg_of KX G (by first | k_is | rfl)⟩ (.cons ⟨_, rfl⟩ rfl ⟨_, rfl, PySem.W.mg_of KX G (by first | k_is | rfl)⟩ (.cons ⟨_, rfl⟩ rfl ⟨_, rfl, PySem.W.mg_of KX G (by first | k_is | rfl)⟩ .nil))))))))))
    (case ye9 => exact (.cons ⟨_, rfl⟩ rfl ⟨_, .tup (by show 3 ≤ sizeLine; decide) (by first | rfl | k_is) (.cons (.str _ _) (.cons (.str _ _) (.cons (.str _ _) .nil)))⟩ (.cons ⟨_, rfl⟩ rfl ⟨_, .tup (by show 5 ≤ sizeLine; decide) (by first | rfl | k_is) (.cons (.str _ _) (.cons (.str _ _) (.cons (.str _ _) (.cons (.str _ _) (.cons (.str _ _) .nil)))))⟩ (.cons ⟨_, rfl⟩ rfl ⟨_, .tup (by show 2 ≤ sizeLine; decide) (by first | rfl | k_is) (.cons (.str _ _) (.cons (.str _ _) .nil))⟩ (.cons ⟨_, rfl⟩ rfl ⟨_, .tup (by show 4 ≤ sizeLine; decide) (by first | rfl | k_is) (.cons (.str _ _) (.cons (.str _ _) (.cons (.str _ _) (.cons (.str _ _) .nil))))⟩ (.cons ⟨_, rfl⟩ rfl ⟨_, .tup (by show 5 ≤ sizeLine; decide) (by first | rfl | k_is) (.cons (.str _ _) (.cons (.str _ _) (.cons (.str _ _) (.cons (.str _ _) (.cons (.str _ _) .nil)))))⟩ (.cons ⟨_, rfl⟩ rfl ⟨_, .tup (by show 6 ≤ sizeLine; decide) (by first | rfl | k_is) (.cons (.str _ _) (.cons (.str _ _) (.cons (.str _ _) (.cons (.str _ _) (.cons (.str _ _) (.cons (.str _ _) .nil))))))⟩ (.cons ⟨_, rfl⟩ rfl ⟨_, .tup (by show 3 ≤ sizeLine; decide) (by first | rfl | k_is) (.cons (.str _ _) (.cons (.str _ _) (.cons (.str _ _) .nil)))⟩ .nil)))))))))


