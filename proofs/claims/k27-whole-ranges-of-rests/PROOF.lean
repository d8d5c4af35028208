import PyProof.Rows.All
import Wide.All
import OpenK.AllK
import Wide.FinOn
import HandS.ForMost
import HandS.IsInst
import HandS.Wide
import HandS.Flow
import HandS.RaiseMore
import HandS.EndBits
import PyProof.ReprRoads
import HandS.TupAny
import HandS.Exc
import HandS.WordsExc
import KE.IntTextLaws
import PyProof.ReprLen
import PyProof.Rows.ReprOcc
import HandS.TryOnly
import PyProof.Rows.Digits
import PyProof.StrReplace2
import HandS.Style
import KE.KRevSl
import HandS.ExcInit
import HandS.ExcOwn
import HandS.ExcField
import HandS.ExcIs
import HandS.ClsMeth
import HandS.Small
import KE.KExcIs
import HandS.DeepEq
import HandS.Defaults
import HandS.ReplaceLit
import HandS.ReplaceList
import PyProof.AutoSeq1
import PyProof.SliceList
import PyProof.NeKinds
import PyProof.NeData
import KE.KEqDict
import HandS.HotCalls
import PySem.Challenge.RW_termstream_k27_whole_ranges_of_rests
set_option Elab.async false
set_option linter.all false
set_option maxRecDepth 100000
set_option maxHeartbeats 2000000
/-! Data over the heap (Rp), frames, slots, and the wp over data -/
namespace Tq
open PySem PySem.Spec PyProof.Rows L2
abbrev D := PyData
abbrev Fg := PySem.W.Frag
abbrev St := L2.St
def kD : Key → D
  | .inl i => .int i
  | .inr x => .str x
/-- a list of the written part -/
def KL (K : Fg) (a : Addr) (xs : List V) : Prop := ∃ (o : Obj) (its : Array Value) (n : Nat), K.lookup a = some o ∧ o.cls = .type "list" ∧ o.dict = none ∧ o.data = .seq its n ∧ its.size ≤ sizeLine ∧ Vals xs its.toList
def KT (K : Fg) (a : Addr) (xs : List V) : Prop := ∃ (o : Obj) (its : Array Value) (n : Nat), K.lookup a = some o ∧ o.cls = .type "tuple" ∧ o.data = .seq its n ∧ its.size ≤ sizeLine ∧ Vals xs its.toList
/-- a list, a tuple, apart from what may change -/
def LsA (K : Fg) (M : Addr → Prop) (H : Hp) (a : Addr) (xs : List V) : Prop := (¬ M a ∧ Rd H a (.lst xs)) ∨ KL K a xs
def TsA (K : Fg) (M : Addr → Prop) (H : Hp) (a : Addr) (xs : List V) : Prop := (¬ M a ∧ Rd H a (.tup xs)) ∨ KT K a xs
theorem LsA.sq {K : Fg} {M : Addr → Prop} {H : Hp} {a : Addr} {xs : List V} (h : LsA K M H a xs) : SqL K H a xs := h.elim (fun z => .inl z.2) .inr
theorem TsA.sq {K : Fg} {M : Addr → Prop} {H : Hp} {a : Addr} {xs : List V} (h : TsA K M H a xs) : SqT K H a xs := h.elim (fun z => .inl z.2) .inr
mutual
inductive Rp (K : Fg) (M : Addr → Prop) (H : Hp) : V → D → Prop
  | non : Rp K M H .non .none
  | bl (b : Bool) : Rp K M H (.bl b) (.bool b)
  | int (i : Int) : Rp K M H (.int i) (.int i)
  | str (x : Str) : Rp K M H (.str x) (.str x)
  | lst {a : Addr} {xs : List V} {ds : List D} : LsA K M H a xs → RpA K M H xs ds → Rp K M H (.ref a) (.list ds)
  | tup {a : Addr} {xs : List V} {ds : List D} : TsA K M H a xs → RpA K M H xs ds → Rp K M H (.ref a) (.tuple ds)
  | dic {a : Addr} {kvs : List (Key × V)} {ds : List (D × D)} : ¬ M a → H a = some (.dK kvs) → RpK K M H kvs ds → Rp K M H (.ref a) (.dict ds)
inductive RpA (K : Fg) (M : Addr → Prop) (H : Hp) : List V → List D → Prop
  | nil : RpA K M H [] []
  | cons {v : V} {d : D} {vs : List V} {ds : List D} : Rp K M H v d → RpA K M H vs ds → RpA K M H (v :: vs) (d :: ds)
inductive RpK (K : Fg) (M : Addr → Prop) (H : Hp) : List (Key × V) → List (D × D) → Prop
  | nil : RpK K M H [] []
  | cons {k : Key} {v : V} {d : D} {vs : List (Key × V)} {ds : List (D × D)} : Rp K M H v d → RpK K M H vs ds → RpK K M H ((k, v) :: vs) ((kD k, d) :: ds)
end
/-- what stood apart stands, and apart -/
def GoH (M : Addr → Prop) (H : Hp) (M' : Addr → Prop) (H' : Hp) : Prop := ∀ a o, ¬ M a → H a = some o → ¬ M' a ∧ H' a = some o
theorem GoH.refl {M : Addr → Prop} {H : Hp} : GoH M H M H := fun _ _ h e => ⟨h, e⟩
theorem GoH.trans {M M1 M2 : Addr → Prop} {H H1 H2 : Hp} (g : GoH M H M1 H1) (g' : GoH M1 H1 M2 H2) : GoH M H M2 H2 := fun a o h e => g' a o (g a o h e).1 (g a o h e).2
section
variable {K : Fg} {M M' : Addr → Prop} {H H' : Hp}
theorem Rd.go {a : Addr} {u : HO} (g : GoH M H M' H') (n : ¬ M a) (r : Rd H a u) : ¬ M' a ∧ Rd H' a u := by
  rcases r with r | ⟨o, r⟩
  · exact ⟨(g a _ n r).1, .inl (g a _ n r).2⟩
  · exact ⟨(g a _ n r).1, .inr ⟨o, (g a _ n r).2⟩⟩
theorem LsA.go {a : Addr} {xs : List V} (g : GoH M H M' H') (h : LsA K M H a xs) : LsA K M' H' a xs := h.elim (fun z => .inl (Rd.go g z.1 z.2)) .inr
theorem TsA.go {a : Addr} {xs : List V} (g : GoH M H M' H') (h : TsA K M H a xs) : TsA K M' H' a xs := h.elim (fun z => .inl (Rd.go g z.1 z.2)) .inr
theorem Rp.go (g : GoH M H M' H') {v : V} {d : D} (r : Rp K M H v d) : Rp K M' H' v d :=
  Rp.rec (motive_1 := fun v d _ => Rp K M' H' v d) (motive_2 := fun vs ds _ => RpA K M' H' vs ds) (motive_3 := fun vs ds _ => RpK K M' H' vs ds)
    .non .bl .int .str (fun h _ i => .lst (h.go g) i) (fun h _ i => .tup (h.go g) i) (fun n h _ i => .dic (g _ _ n h).1 (g _ _ n h).2 i)
    .nil (fun _ _ a b => .cons a b) .nil (fun _ _ a b => .cons a b) r
theorem RpA.go (g : GoH M H M' H') : ∀ {vs : List V} {ds : List D}, RpA K M H vs ds → RpA K M' H' vs ds
  | _, _, .nil => .nil
  | _, _, .cons a b => .cons (a.go g) (b.go g)
theorem RpK.go (g : GoH M H M' H') : ∀ {vs : List (Key × V)} {ds : List (D × D)}, RpK K M H vs ds → RpK K M' H' vs ds
  | _, _, .nil => .nil
  | _, _, .cons a b => .cons (a.go g) (b.go g)
theorem RpA.len : ∀ {vs : List V} {ds : List D}, RpA K M H vs ds → vs.length = ds.length
  | _, _, .nil => rfl
  | _, _, .cons _ b => congrArg (· + 1) b.len
theorem RpA.get : ∀ {vs : List V} {ds : List D} {i : Nat} {d : D}, RpA K M H vs ds → ds[i]? = some d → ∃ v, vs[i]? = some v ∧ Rp K M H v d
  | _, _, _, _, .nil, e => by simp at e
  | _, _, 0, _, .cons a _, e => by simp at e; subst e; exact ⟨_, rfl, a⟩
  | _, _, i + 1, d, .cons _ b, e => by
    obtain ⟨u, h1, h2⟩ := b.get (i := i) (d := d) (by simpa using e)
    exact ⟨u, by simpa using h1, h2⟩
theorem RpA.getV : ∀ {vs : List V} {ds : List D} {i : Nat} {v : V}, RpA K M H vs ds → vs[i]? = some v → ∃ d, ds[i]? = some d ∧ Rp K M H v d
  | _, _, _, _, .nil, e => by simp at e
  | _, _, 0, _, .cons a _, e => by simp at e; subst e; exact ⟨_, rfl, a⟩
  | _, _, i + 1, d, .cons _ b, e => by
    obtain ⟨u, h1, h2⟩ := b.getV (i := i) (v := d) (by simpa using e)
    exact ⟨u, by simpa using h1, h2⟩
theorem RpA.app : ∀ {vs us : List V} {ds es : List D}, RpA K M H vs ds → RpA K M H us es → RpA K M H (vs ++ us) (ds ++ es)
  | _, _, _, _, .nil, h => h
  | _, _, _, _, .cons a b, h => .cons a (b.app h)
theorem RpA.take : ∀ (n : Nat) {vs : List V} {ds : List D}, RpA K M H vs ds → RpA K M H (vs.take n) (ds.take n)
  | 0, _, _, _ => .nil
  | _ + 1, _, _, .nil => .nil
  | n + 1, _, _, .cons a b => .cons a (b.take n)
theorem RpA.drop : ∀ (n : Nat) {vs : List V} {ds : List D}, RpA K M H vs ds → RpA K M H (vs.drop n) (ds.drop n)
  | 0, _, _, h => h
  | _ + 1, _, _, .nil => .nil
  | n + 1, _, _, .cons _ b => b.drop n
theorem RpA.rev : ∀ {vs : List V} {ds : List D}, RpA K M H vs ds → RpA K M H vs.reverse ds.reverse
  | _, _, .nil => .nil
  | _, _, .cons a b => by
    rw [List.reverse_cons, List.reverse_cons]
    exact b.rev.app (.cons a .nil)
theorem rp_int {v : V} {i : Int} (r : Rp K M H v (.int i)) : v = .int i := by cases r; rfl
theorem rp_bl {v : V} {i : Bool} (r : Rp K M H v (.bool i)) : v = .bl i := by cases r; rfl
theorem rp_str {v : V} {i : Str} (r : Rp K M H v (.str i)) : v = .str i := by cases r; rfl
theorem rp_non {v : V} (r : Rp K M H v .none) : v = .non := by cases r; rfl
theorem rp_lst {v : V} {ds : List D} (r : Rp K M H v (.list ds)) : ∃ a xs, v = .ref a ∧ LsA K M H a xs ∧ RpA K M H xs ds := by
  cases r with | lst h1 h2 => exact ⟨_, _, rfl, h1, h2⟩
theorem rp_tup {v : V} {ds : List D} (r : Rp K M H v (.tuple ds)) : ∃ a xs, v = .ref a ∧ TsA K M H a xs ∧ RpA K M H xs ds := by
  cases r with | tup h1 h2 => exact ⟨_, _, rfl, h1, h2⟩
theorem rpA_ints : ∀ {vs : List V} {ns : List Int}, RpA K M H vs (ns.map PyData.int) → vs = ns.map V.int
  | [], [], _ => rfl
  | [], _ :: _, h => by cases h
  | _ :: _, [], h => by cases h
  | v :: vs, n :: ns, h => by
    cases h with | cons a b =>
    rw [rp_int a, rpA_ints b] <;> rfl
theorem rpA_strs : ∀ {vs : List V} {ns : List Str}, RpA K M H vs (ns.map PyData.str) → vs = ns.map V.str
  | [], [], _ => rfl
  | [], _ :: _, h => by cases h
  | _ :: _, [], h => by cases h
  | v :: vs, n :: ns, h => by
    cases h with | cons a b =>
    rw [rp_str a, rpA_strs b] <;> rfl
theorem rpA_bls : ∀ {vs : List V} {ns : List Bool}, RpA K M H vs (ns.map PyData.bool) → vs = ns.map V.bl
  | [], [], _ => rfl
  | [], _ :: _, h => by cases h
  | _ :: _, [], h => by cases h
  | v :: vs, n :: ns, h => by
    cases h with | cons a b =>
    rw [rp_bl a, rpA_bls b] <;> rfl
theorem rpA_int : ∀ (ns : List Int), RpA K M H (ns.map V.int) (ns.map PyData.int)
  | [] => .nil
  | n :: ns => .cons (.int n) (rpA_int ns)
end
/-- scalars -/
inductive Sc : V → D → Prop
  | non : Sc .non .none
  | bl (b : Bool) : Sc (.bl b) (.bool b)
  | int (i : Int) : Sc (.int i) (.int i)
  | str (x : Str) : Sc (.str x) (.str x)
theorem Sc.rp {K : Fg} {M : Addr → Prop} {H : Hp} {v : V} {d : D} (s : Sc v d) : Rp K M H v d := by
  cases s
  · exact .non
  · exact .bl _
  · exact .int _
  · exact .str _

/-! ### frames and slots -/
/-- a purse with room for n more draws -/
def PuOk (H : Hp) (a : Addr) (n : Nat) : Prop := ∃ x b c : Int, H a = some (.lst [.int x, .int b, .int c]) ∧ 0 ≤ x ∧ 0 ≤ b ∧ b < 2147483629 ∧ 0 ≤ c ∧ c + n ≤ 8000000
structure Ct where
  K : Fg
  pp : Bool
structure Fr where
  H0 : Hp
  S0 : Addr → Prop
  M0 : Addr → Prop
  p : Addr
  st : Bool
inductive Y where
  | d (d : D)
  | pu (n : Nat)
  | own (ds : List D)
def Y.o : Y → Bool
  | .d _ => false
  | _ => true
abbrev S := List (Option Y)
inductive Z where
  | d (d : D)
  | ptr (i : Nat)
def isO (y : S) (i : Nat) : Bool := match y[i]? with
  | some (some z) => z.o
  | _ => false
def Own (σ : St) (y : S) (a : Addr) : Prop := ∃ i, isO y i = true ∧ σ[i]? = some (some (.ref a))
def Mv (F : Fr) (σ : St) (y : S) (a : Addr) : Prop := F.M0 a ∨ Own σ y a
def SlotOk (K : Fg) (M : Addr → Prop) (H : Hp) (v : Option (Option V)) : Y → Prop
  | .d d => ∃ x, v = some (some x) ∧ Rp K M H x d
  | .pu n => ∃ a, v = some (some (.ref a)) ∧ PuOk H a n
  | .own ds => ∃ a xs, v = some (some (.ref a)) ∧ H a = some (.lst xs) ∧ RpA K M H xs ds
structure Wd (C : Ct) (F : Fr) (σ : St) (y : S) (H : Hp) : Prop where
  keep : ∀ a o, ¬ F.S0 a → F.H0 a = some o → H a = some o
  live0 : ∀ a, F.M0 a → F.H0 a ≠ none
  live : ∀ a, F.M0 a → H a ≠ none
  len : σ.length = y.length
  slot : ∀ (i : Nat) (z : Y), y[i]? = some (some z) → SlotOk C.K (Mv F σ y) H σ[i]? z
  dist : ∀ (i j : Nat) (a : Addr), isO y i = true → isO y j = true → σ[i]? = some (some (.ref a)) → σ[j]? = some (some (.ref a)) → i = j
  frsh : ∀ a, Own σ y a → F.S0 a ∨ F.H0 a = none
  pin : C.pp = true → σ[0]? = some (some (.ref F.p))
  sm : ∀ a, F.S0 a → F.M0 a
  nb : F.st = true → ∀ (i : Nat) (a : Addr), isO y i = true → σ[i]? = some (some (.ref a)) → F.S0 a → i = 0 ∧ C.pp = true
abbrev Go (F : Fr) (σ : St) (y : S) (H : Hp) (σ' : St) (y' : S) (H' : Hp) : Prop := GoH (Mv F σ y) H (Mv F σ' y') H'
def Sh (y y' : S) : Prop := ∀ i, isO y' i = isO y i
theorem Sh.refl (y : S) : Sh y y := fun _ => rfl
theorem Sh.trans {y y1 y2 : S} (a : Sh y y1) (b : Sh y1 y2) : Sh y y2 := fun i => (b i).trans (a i)
def Rz (C : Ct) (F : Fr) (σ : St) (y : S) (H : Hp) (v : V) : Z → Prop
  | .d d => Rp C.K (Mv F σ y) H v d
  | .ptr i => isO y i = true ∧ σ[i]? = some (some v)
inductive RzA (C : Ct) (F : Fr) (σ : St) (y : S) (H : Hp) : List V → List Z → Prop
  | nil : RzA C F σ y H [] []
  | cons {v : V} {z : Z} {vs : List V} {zs : List Z} : Rz C F σ y H v z → RzA C F σ y H vs zs → RzA C F σ y H (v :: vs) (z :: zs)
section
variable {C : Ct} {F : Fr} {σ : St} {y y' : S} {H H' : Hp}
theorem Rz.go {v : V} {z : Z} (g : Go F σ y H σ y' H') (s : Sh y y') (r : Rz C F σ y H v z) : Rz C F σ y' H' v z := by
  cases z with
  | d d => exact Rp.go g r
  | ptr i => exact ⟨(s i).trans r.1, r.2⟩
theorem RzA.go (g : Go F σ y H σ y' H') (s : Sh y y') : ∀ {vs : List V} {zs : List Z}, RzA C F σ y H vs zs → RzA C F σ y' H' vs zs
  | _, _, .nil => .nil
  | _, _, .cons a b => .cons (Rz.go g s a) (b.go g s)
theorem RzA.ds : ∀ {vs : List V} {ds : List D}, RzA C F σ y H vs (ds.map Z.d) → RpA C.K (Mv F σ y) H vs ds
  | [], [], _ => .nil
  | [], _ :: _, h => by cases h
  | _ :: _, [], h => by cases h
  | v :: vs, n :: ns, h => by
    cases h with | cons a b => exact .cons a b.ds
/-- a fresh address is apart -/
theorem Wd.new (w : Wd C F σ y H) {p : Addr} (h : H p = none) : ¬ Mv F σ y p := by
  rintro (z | ⟨i, hi, e⟩)
  · exact w.live p z h
  · cases q : y[i]? with
    | none => unfold isO at hi; rw [q] at hi; cases hi
    | some o =>
      cases o with
      | none => unfold isO at hi; rw [q] at hi; cases hi
      | some z =>
        have s := w.slot i z q
        cases z with
        | d d => unfold isO at hi; rw [q] at hi; cases hi
        | pu n =>
          obtain ⟨a, ea, x, b, c, ha, _⟩ := s
          rw [e] at ea; cases ea
          rw [h] at ha; cases ha
        | own ds =>
          obtain ⟨a, xs, ea, ha, _⟩ := s
          rw [e] at ea; cases ea
          rw [h] at ha; cases ha
/-- the heap grows, apart from what may change; what may change stays as it is -/
theorem Wd.grow (w : Wd C F σ y H) (g : ∀ a o, H a = some o → H' a = some o) : Wd C F σ y H' := by
  refine ⟨fun a o n e => g _ _ (w.keep a o n e), w.live0, fun a m e => ?_, w.len, fun i z e => ?_, w.dist, w.frsh, w.pin, w.sm, w.nb⟩
  · cases q : H a with
    | none => exact w.live a m q
    | some o => rw [g a o q] at e; cases e
  · have s := w.slot i z e
    have gg : GoH (Mv F σ y) H (Mv F σ y) H' := fun a o n e => ⟨n, g a o e⟩
    cases z with
    | d d => obtain ⟨x, h1, h2⟩ := s; exact ⟨x, h1, h2.go gg⟩
    | pu n => obtain ⟨a, h1, x, b, c, h2, h3⟩ := s; exact ⟨a, h1, x, b, c, g _ _ h2, h3⟩
    | own ds => obtain ⟨a, xs, h1, h2, h3⟩ := s; exact ⟨a, xs, h1, g _ _ h2, h3.go gg⟩
theorem go_grow (g : ∀ a o, H a = some o → H' a = some o) : Go F σ y H σ y H' := fun a o n e => ⟨n, g a o e⟩
theorem grow_upd {p : Addr} {o : HO} (h : H p = none) : ∀ a u, H a = some u → upd H p o a = some u := fun a u e => by
  rw [upd_ne (ne_of_none e h)]; exact e
end

/-! ### the wp over data -/
section
variable (C : Ct)
def wE (te : TE) (y : S) (Q : Z → S → Prop) : Prop := ∀ (F : Fr) σ H (K : VK), Wd C F σ y H → (∀ v H' z y', Wd C F σ y' H' → Go F σ y H σ y' H' → Sh y y' → Rz C F σ y' H' v z → Q z y' → K v H') → te σ H K
def wT (tt : TT) (y : S) (Q : Bool → S → Prop) : Prop := ∀ (F : Fr) σ H (K : Bool → Hp → Prop), Wd C F σ y H → (∀ b H' y', Wd C F σ y' H' → Go F σ y H σ y' H' → Sh y y' → Q b y' → K b H') → tt σ H K
def wO (to : TO) (y : S) (Q : Option Int → S → Prop) : Prop := ∀ (F : Fr) σ H (K : Option Int → Hp → Prop), Wd C F σ y H → (∀ b H' y', Wd C F σ y' H' → Go F σ y H σ y' H' → Sh y y' → Q b y' → K b H') → to σ H K
structure En where
  nx : S → Prop
  rt : Z → S → Prop
  bk : S → Prop := fun _ => False
  ct : S → Prop := fun _ => False
structure EnOk (F : Fr) (σ : St) (y : S) (H : Hp) (e : En) (E : Ends) : Prop where
  nx : ∀ σ' H' y', Wd C F σ' y' H' → Go F σ y H σ' y' H' → e.nx y' → E.nx σ' H'
  rt : ∀ σ' v H' z y', Wd C F σ' y' H' → Go F σ y H σ' y' H' → Rz C F σ' y' H' v z → e.rt z y' → E.rt v H'
  bk : ∀ σ' H' y', Wd C F σ' y' H' → Go F σ y H σ' y' H' → e.bk y' → E.bk σ' H'
  ct : ∀ σ' H' y', Wd C F σ' y' H' → Go F σ y H σ' y' H' → e.ct y' → E.ct σ' H'
def wS (ts : TS) (y : S) (e : En) : Prop := ∀ (F : Fr) σ H (E : Ends), F.st = true → Wd C F σ y H → EnOk C F σ y H e E → ts E σ H
end
end Tq

set_option maxRecDepth 100000
set_option maxHeartbeats 2000000
namespace Tq
open PySem PySem.Spec PyProof.Rows L2
/-! ### storing in a slot -/
section
variable {C : Ct} {F : Fr} {σ : St} {y y' : S} {H H' : Hp}
theorem isO_set {i j : Nat} {u : Option Y} (h : isO (y.set i u) j = true) : (j = i ∧ i < y.length ∧ ∃ z, u = some z ∧ z.o = true) ∨ (j ≠ i ∧ isO y j = true) ∨ (j = i ∧ y.length ≤ i) := by
  by_cases e : j = i
  · by_cases hl : i < y.length
    · refine .inl ⟨e, hl, ?_⟩
      subst e
      unfold isO at h
      rw [List.getElem?_set_self hl] at h
      cases u with
      | none => cases h
      | some z => exact ⟨z, rfl, h⟩
    · exact .inr (.inr ⟨e, by omega⟩)
  · refine .inr (.inl ⟨e, ?_⟩)
    unfold isO at h ⊢
    rw [List.getElem?_set_ne (Ne.symm e)] at h
    exact h
theorem isO_lt {i : Nat} (h : isO y i = true) : i < y.length := by
  unfold isO at h
  cases q : y[i]? with
  | none => rw [q] at h; cases h
  | some o => exact (List.getElem?_eq_some_iff.mp q).1
theorem isO_set_d {i j : Nat} {d : D} (h : isO (y.set i (some (.d d))) j = true) : j ≠ i ∧ isO y j = true := by
  rcases isO_set h with ⟨_, _, z, e, o⟩ | h | ⟨e, l⟩
  · cases e; cases o
  · exact h
  · have := isO_lt h; rw [List.length_set] at this; omega
theorem Mv_set_d {i : Nat} {v : Option V} {d : D} {a : Addr} (h : Mv F (σ.set i v) (y.set i (some (.d d))) a) : Mv F σ y a := by
  rcases h with h | ⟨j, hj, e⟩
  · exact .inl h
  · obtain ⟨n, o⟩ := isO_set_d hj
    rw [List.getElem?_set_ne (Ne.symm n)] at e
    exact .inr ⟨j, o, e⟩
theorem go_set_d {i : Nat} {v : Option V} {d : D} : Go F σ y H (σ.set i v) (y.set i (some (.d d))) H := fun a o n e => ⟨fun z => n (Mv_set_d z), e⟩
theorem Wd.set_d (w : Wd C F σ y H) {i : Nat} {v : V} {d : D} (hp : i ≠ 0 ∨ C.pp = false) (r : Rp C.K (Mv F σ y) H v d) : Wd C F (σ.set i (some v)) (y.set i (some (.d d))) H := by
  have g : Go F σ y H (σ.set i (some v)) (y.set i (some (.d d))) H := go_set_d
  refine ⟨w.keep, w.live0, w.live, by rw [List.length_set, List.length_set]; exact w.len, fun j z e => ?_, fun j k a h1 h2 e1 e2 => ?_, fun a h => ?_, fun e => ?_, w.sm, fun st j a h e s => ?_⟩
  · by_cases n : j = i
    · subst n
      have hl : j < y.length := by
        have := (List.getElem?_eq_some_iff.mp e).1
        rw [List.length_set] at this; exact this
      rw [List.getElem?_set_self hl] at e
      cases e
      refine ⟨v, ?_, r.go g⟩
      rw [List.getElem?_set_self (by rw [w.len]; exact hl)]
    · rw [List.getElem?_set_ne (Ne.symm n)] at e ⊢
      have s := w.slot j z e
      cases z with
      | d d => obtain ⟨x, h1, h2⟩ := s; exact ⟨x, h1, h2.go g⟩
      | pu n => exact s
      | own ds => obtain ⟨a, xs, h1, h2, h3⟩ := s; exact ⟨a, xs, h1, h2, h3.go g⟩
  · obtain ⟨n1, o1⟩ := isO_set_d h1
    obtain ⟨n2, o2⟩ := isO_set_d h2
    rw [List.getElem?_set_ne (Ne.symm n1)] at e1
    rw [List.getElem?_set_ne (Ne.symm n2)] at e2
    exact w.dist j k a o1 o2 e1 e2
  · obtain ⟨j, hj, e⟩ := h
    obtain ⟨n1, o1⟩ := isO_set_d hj
    rw [List.getElem?_set_ne (Ne.symm n1)] at e
    exact w.frsh a ⟨j, o1, e⟩
  · rcases hp with hp | hp
    · rw [List.getElem?_set_ne hp]; exact w.pin e
    · rw [hp] at e; cases e
  · obtain ⟨n1, o1⟩ := isO_set_d h
    rw [List.getElem?_set_ne (Ne.symm n1)] at e
    exact w.nb st j a o1 e s
end

/-! ### expressions -/
section
variable {C : Ct} {y : S} {ta tb tc te : TE} {Q : Z → S → Prop}
theorem wE_var {i : Nat} {d : D} (h : y[i]? = some (some (.d d))) (q : Q (.d d) y) : wE C (tVar i) y Q := fun F σ H K w k => by
  obtain ⟨x, h1, h2⟩ := w.slot i _ h
  exact ⟨x, h1, k x H (.d d) y w GoH.refl (Sh.refl y) h2 q⟩
theorem wE_ptr {i : Nat} (h : isO y i = true) (q : Q (.ptr i) y) : wE C (tVar i) y Q := fun F σ H K w k => by
  unfold isO at h
  cases e : y[i]? with
  | none => rw [e] at h; cases h
  | some o =>
    cases o with
    | none => rw [e] at h; cases h
    | some z =>
      have hO : isO y i = true := by unfold isO; rw [e]; rw [e] at h; exact h
      have s := w.slot i z e
      cases z with
      | d d => rw [e] at h; cases h
      | pu n => obtain ⟨a, h1, _⟩ := s; exact ⟨_, h1, k _ H (.ptr i) y w GoH.refl (Sh.refl y) ⟨hO, h1⟩ q⟩
      | own ds => obtain ⟨a, xs, h1, _⟩ := s; exact ⟨_, h1, k _ H (.ptr i) y w GoH.refl (Sh.refl y) ⟨hO, h1⟩ q⟩
theorem wE_sc {v : V} {d : D} (s : Sc v d) (q : Q (.d d) y) : wE C (tC v) y Q := fun F σ H K w k => k v H (.d d) y w GoH.refl (Sh.refl y) s.rp q
theorem wE_int {i : Int} (q : Q (.d (.int i)) y) : wE C (tC (.int i)) y Q := wE_sc (.int i) q
theorem wE_str {i : Str} (q : Q (.d (.str i)) y) : wE C (tC (.str i)) y Q := wE_sc (.str i) q
theorem wE_bl {i : Bool} (q : Q (.d (.bool i)) y) : wE C (tC (.bl i)) y Q := wE_sc (.bl i) q
theorem wE_non (q : Q (.d .none) y) : wE C (tC .non) y Q := wE_sc .non q
theorem wE_mono {R : Z → S → Prop} (h : wE C te y Q) (q : ∀ z y', Q z y' → R z y') : wE C te y R := fun F σ H K w k => h F σ H K w fun v H' z y' a b c d e => k v H' z y' a b c d (q z y' e)
/-- a fact over the data, a new heap that only grows -/
def OpD (K : Fg) (r : R2) (res : D → D → D → Prop) : Prop := ∀ (M : Addr → Prop) (H : Hp) (x y : V) (d e g : D) (Q : VK), (∀ a, H a = none → ¬ M a) → Rp K M H x d → Rp K M H y e → res d e g →
  (∀ v H', (∀ a o, H a = some o → H' a = some o) → Rp K M H' v g → Q v H') → r x y H Q
theorem wE_op {r : R2} {res : D → D → D → Prop} (h : OpD C.K r res) (w : wE C ta y fun z y1 => wE C tb y1 fun z' y2 => ∃ d e g, z = .d d ∧ z' = .d e ∧ res d e g ∧ Q (.d g) y2) : wE C (tOp r ta tb) y Q := by
  intro F σ H K wd k
  refine w F σ H _ wd fun x H1 z y1 w1 g1 s1 r1 q1 => ?_
  refine q1 F σ H1 _ w1 fun x2 H2 z' y2 w2 g2 s2 r2 q2 => ?_
  obtain ⟨d, e, g, rfl, rfl, hres, hq⟩ := q2
  refine h (Mv F σ y2) H2 x x2 d e g K (fun a => w2.new) (Rp.go g2 r1) r2 hres fun v H3 gr rv => ?_
  exact k v H3 (.d g) y2 (w2.grow gr) ((g1.trans g2).trans (go_grow gr)) (s1.trans s2) rv hq
theorem opD_I {C : Int → Int → Prop} {g : Int → Int → V} {gd : Int → Int → D} (hg : ∀ i j, Sc (g i j) (gd i j)) {K : Fg} : OpD K (rI C g) (fun d e r => ∃ i j, d = .int i ∧ e = .int j ∧ C i j ∧ r = gd i j) := by
  rintro M H x y d e r Q _ rx ry ⟨i, j, rfl, rfl, c, rfl⟩ k
  exact ⟨i, j, rp_int rx, rp_int ry, c, k _ H (fun _ _ e => e) (hg i j).rp⟩
theorem opD_I0 {g : Int → Int → V} {gd : Int → Int → D} (hg : ∀ i j, Sc (g i j) (gd i j)) {K : Fg} : OpD K (rI0 g) (fun d e r => ∃ i j, d = .int i ∧ e = .int j ∧ r = gd i j) := by
  rintro M H x y d e r Q _ rx ry ⟨i, j, rfl, rfl, rfl⟩ k
  exact ⟨i, j, rp_int rx, rp_int ry, k _ H (fun _ _ e => e) (hg i j).rp⟩
theorem wE_I {P : Int → Int → Prop} {g : Int → Int → V} (gd : Int → Int → D) (hg : ∀ i j, Sc (g i j) (gd i j)) (w : wE C ta y fun z y1 => wE C tb y1 fun z' y2 => ∃ i j, z = .d (.int i) ∧ z' = .d (.int j) ∧ P i j ∧ Q (.d (gd i j)) y2) : wE C (tOp (rI P g) ta tb) y Q :=
  wE_op (opD_I hg) (wE_mono w fun z y1 h => wE_mono h fun z' y2 ⟨i, j, e1, e2, c, q⟩ => ⟨_, _, _, e1, e2, ⟨i, j, rfl, rfl, c, rfl⟩, q⟩)
theorem wE_I0 {g : Int → Int → V} (gd : Int → Int → D) (hg : ∀ i j, Sc (g i j) (gd i j)) (w : wE C ta y fun z y1 => wE C tb y1 fun z' y2 => ∃ i j, z = .d (.int i) ∧ z' = .d (.int j) ∧ Q (.d (gd i j)) y2) : wE C (tOp (rI0 g) ta tb) y Q :=
  wE_op (opD_I0 hg) (wE_mono w fun z y1 h => wE_mono h fun z' y2 ⟨i, j, e1, e2, q⟩ => ⟨_, _, _, e1, e2, ⟨i, j, rfl, rfl, rfl⟩, q⟩)
theorem wE_add (w : wE C ta y fun z y1 => wE C tb y1 fun z' y2 => ∃ i j, z = .d (.int i) ∧ z' = .d (.int j) ∧ Q (.d (.int (i + j))) y2) : wE C (tOp (rI0 fun i j => .int (i + j)) ta tb) y Q := wE_I0 _ (fun _ _ => .int _) w
theorem wE_sub (w : wE C ta y fun z y1 => wE C tb y1 fun z' y2 => ∃ i j, z = .d (.int i) ∧ z' = .d (.int j) ∧ Q (.d (.int (i - j))) y2) : wE C (tOp (rI0 fun i j => .int (i - j)) ta tb) y Q := wE_I0 _ (fun _ _ => .int _) w
theorem wE_lt (w : wE C ta y fun z y1 => wE C tb y1 fun z' y2 => ∃ i j, z = .d (.int i) ∧ z' = .d (.int j) ∧ Q (.d (.bool (decide (i < j)))) y2) : wE C (tOp (rI0 fun i j => .bl (decide (i < j))) ta tb) y Q := wE_I0 (fun i j => .bool (decide (i < j))) (fun _ _ => .bl _) w
theorem wE_le (w : wE C ta y fun z y1 => wE C tb y1 fun z' y2 => ∃ i j, z = .d (.int i) ∧ z' = .d (.int j) ∧ Q (.d (.bool (decide (i ≤ j)))) y2) : wE C (tOp (rI0 fun i j => .bl (decide (i ≤ j))) ta tb) y Q := wE_I0 (fun i j => .bool (decide (i ≤ j))) (fun _ _ => .bl _) w
theorem wE_gt (w : wE C ta y fun z y1 => wE C tb y1 fun z' y2 => ∃ i j, z = .d (.int i) ∧ z' = .d (.int j) ∧ Q (.d (.bool (decide (j < i)))) y2) : wE C (tOp (rI0 fun i j => .bl (decide (j < i))) ta tb) y Q := wE_I0 (fun i j => .bool (decide (j < i))) (fun _ _ => .bl _) w
theorem wE_ge (w : wE C ta y fun z y1 => wE C tb y1 fun z' y2 => ∃ i j, z = .d (.int i) ∧ z' = .d (.int j) ∧ Q (.d (.bool (decide (j ≤ i)))) y2) : wE C (tOp (rI0 fun i j => .bl (decide (j ≤ i))) ta tb) y Q := wE_I0 (fun i j => .bool (decide (j ≤ i))) (fun _ _ => .bl _) w
theorem wE_mulW (w : wE C ta y fun z y1 => wE C tb y1 fun z' y2 => ∃ i j, z = .d (.int i) ∧ z' = .d (.int j) ∧ CMulW i j ∧ Q (.d (.int (i * j))) y2) : wE C (tOp (rI CMulW fun i j => .int (i * j)) ta tb) y Q := wE_I _ (fun _ _ => .int _) w
theorem wE_mul (w : wE C ta y fun z y1 => wE C tb y1 fun z' y2 => ∃ i j, z = .d (.int i) ∧ z' = .d (.int j) ∧ CMul i j ∧ Q (.d (.int (i * j))) y2) : wE C (tOp (rI CMul fun i j => .int (i * j)) ta tb) y Q := wE_I _ (fun _ _ => .int _) w
theorem wE_mod (w : wE C ta y fun z y1 => wE C tb y1 fun z' y2 => ∃ i j, z = .d (.int i) ∧ z' = .d (.int j) ∧ 0 < j ∧ Q (.d (.int (i % j))) y2) : wE C (tOp (rI (fun _ j => 0 < j) fun i j => .int (i % j)) ta tb) y Q := wE_I _ (fun _ _ => .int _) w
theorem wE_pow (w : wE C ta y fun z y1 => wE C tb y1 fun z' y2 => ∃ i j, z = .d (.int i) ∧ z' = .d (.int j) ∧ CPow i j ∧ Q (.d (.int (i ^ j.toNat))) y2) : wE C (tOp (rI CPow fun i j => .int (i ^ j.toNat)) ta tb) y Q := wE_I _ (fun _ _ => .int _) w
theorem wE_fdivW (w : wE C ta y fun z y1 => wE C tb y1 fun z' y2 => ∃ i j, z = .d (.int i) ∧ z' = .d (.int j) ∧ CDivW i j ∧ Q (.d (.int (i / j))) y2) : wE C (tOp (rI CDivW fun i j => .int (i / j)) ta tb) y Q := wE_I _ (fun _ _ => .int _) w
theorem wE_neg (w : wE C ta y fun z y1 => ∃ i, z = .d (.int i) ∧ Q (.d (.int (-i))) y1) : wE C (tUn (rU fun i => .int (-i)) ta) y Q := by
  intro F σ H K wd k
  refine w F σ H _ wd fun x H1 z y1 w1 g1 s1 r1 q1 => ?_
  obtain ⟨i, rfl, q⟩ := q1
  exact ⟨i, rp_int r1, k _ H1 (.d (.int (-i))) y1 w1 g1 s1 (.int _) q⟩
theorem wE_S0 {α : Type} {g : Str → Str → V} (gd : Str → Str → D) (hg : ∀ i j, Sc (g i j) (gd i j)) (w : wE C ta y fun z y1 => wE C tb y1 fun z' y2 => ∃ i j, z = .d (.str i) ∧ z' = .d (.str j) ∧ Q (.d (gd i j)) y2) : wE C (tOp (fun x y H Q => ∃ i j, x = .str i ∧ y = .str j ∧ Q (g i j) H) ta tb) y Q := by
  refine wE_op (res := fun d e r => ∃ i j, d = .str i ∧ e = .str j ∧ r = gd i j) ?_ (wE_mono w fun z y1 h => wE_mono h fun z' y2 ⟨i, j, e1, e2, q⟩ => ⟨_, _, _, e1, e2, ⟨i, j, rfl, rfl, rfl⟩, q⟩)
  rintro M H x y d e r Q _ rx ry ⟨i, j, rfl, rfl, rfl⟩ k
  exact ⟨i, j, rp_str rx, rp_str ry, k _ H (fun _ _ e => e) (hg i j).rp⟩
theorem wE_ltS (w : wE C ta y fun z y1 => wE C tb y1 fun z' y2 => ∃ i j, z = .d (.str i) ∧ z' = .d (.str j) ∧ Q (.d (.bool (decide (i.cps.toList < j.cps.toList)))) y2) :
    wE C (tOp (fun x y H Q => ∃ i j, x = .str i ∧ y = .str j ∧ Q (.bl (decide (i.cps.toList < j.cps.toList))) H) ta tb) y Q := wE_S0 (α := Unit) (fun i j => .bool (decide (i.cps.toList < j.cps.toList))) (fun _ _ => .bl _) w
theorem wE_leS (w : wE C ta y fun z y1 => wE C tb y1 fun z' y2 => ∃ i j, z = .d (.str i) ∧ z' = .d (.str j) ∧ Q (.d (.bool (!decide (j.cps.toList < i.cps.toList)))) y2) :
    wE C (tOp (fun x y H Q => ∃ i j, x = .str i ∧ y = .str j ∧ Q (.bl (!decide (j.cps.toList < i.cps.toList))) H) ta tb) y Q := wE_S0 (α := Unit) (fun i j => .bool (!decide (j.cps.toList < i.cps.toList))) (fun _ _ => .bl _) w
theorem wE_addS (w : wE C ta y fun z y1 => wE C tb y1 fun z' y2 => ∃ i j, z = .d (.str i) ∧ z' = .d (.str j) ∧ i.length + j.length ≤ sizeLine ∧ Q (.d (.str (i ++ j))) y2) :
    wE C (tOp (fun x y H Q => ∃ i j, x = .str i ∧ y = .str j ∧ i.length + j.length ≤ sizeLine ∧ Q (.str (i ++ j)) H) ta tb) y Q := by
  refine wE_op (res := fun d e r => ∃ i j, d = .str i ∧ e = .str j ∧ i.length + j.length ≤ sizeLine ∧ r = .str (i ++ j)) ?_ (wE_mono w fun z y1 h => wE_mono h fun z' y2 ⟨i, j, e1, e2, c, q⟩ => ⟨_, _, _, e1, e2, ⟨i, j, rfl, rfl, c, rfl⟩, q⟩)
  rintro M H x y d e r Q _ rx ry ⟨i, j, rfl, rfl, c, rfl⟩ k
  exact ⟨i, j, rp_str rx, rp_str ry, c, k _ H (fun _ _ e => e) (.str _)⟩
theorem wE_inSign (w : wE C ta y fun z y1 => wE C tb y1 fun z' y2 => ∃ (c : Nat) (j : Str), z = .d (.str ⟨#[c]⟩) ∧ z' = .d (.str j) ∧ Q (.d (.bool (decide (c ∈ j.cps.toList)))) y2) :
    wE C (tOp (fun x y H Q => ∃ (c : Nat) (z : Str), x = .str ⟨#[c]⟩ ∧ y = .str z ∧ Q (.bl (decide (c ∈ z.cps.toList))) H) ta tb) y Q := by
  refine wE_op (res := fun d e r => ∃ (c : Nat) (j : Str), d = .str ⟨#[c]⟩ ∧ e = .str j ∧ r = .bool (decide (c ∈ j.cps.toList))) ?_ (wE_mono w fun z y1 h => wE_mono h fun z' y2 ⟨i, j, e1, e2, q⟩ => ⟨_, _, _, e1, e2, ⟨i, j, rfl, rfl, rfl⟩, q⟩)
  rintro M H x y d e r Q _ rx ry ⟨i, j, rfl, rfl, rfl⟩ k
  exact ⟨i, j, rp_str rx, rp_str ry, k _ H (fun _ _ e => e) (.bl _)⟩
/-- data without dicts, for == -/
theorem Rp.dp {K : Fg} {M : Addr → Prop} {H : Hp} {v : V} {d : D} (r : Rp K M H v d) : d.hasDict = false → Dp K H v d :=
  Rp.rec (motive_1 := fun v d _ => d.hasDict = false → Dp K H v d) (motive_2 := fun vs ds _ => PyData.hasDictAll ds = false → DpAll K H vs ds) (motive_3 := fun _ _ _ => True)
    (fun _ => .non) (fun b _ => .bl b) (fun b _ => .int b) (fun b _ => .str b)
    (fun h _ i e => .lst h.sq (i (by simpa only [PyData.hasDict] using e))) (fun h _ i e => .tup h.sq (i (by simpa only [PyData.hasDict] using e)))
    (fun _ _ _ _ e => by simp [PyData.hasDict] at e)
    (fun _ => .nil) (fun _ _ a b e => by
      simp only [PyData.hasDictAll, Bool.or_eq_false_iff] at e
      exact .cons (a e.1) (b e.2)) trivial (fun _ _ _ _ => trivial) r
theorem canLay_noDict {d : D} (h : SeqAt.shaped d = true) : d.hasDict = false := PyData.hasDict_of_canLay d (SeqAt.canLay_of_shaped h)
theorem wE_eqD (w : wE C ta y fun z y1 => wE C tb y1 fun z' y2 => ∃ d e, z = .d d ∧ z' = .d e ∧ SeqAt.shaped d = true ∧ SeqAt.shaped e = true ∧ Q (.d (.bool (PyData.eqv d e))) y2) : wE C (tOp (rEqD C.K) ta tb) y Q := by
  refine wE_op (res := fun d e r => SeqAt.shaped d = true ∧ SeqAt.shaped e = true ∧ r = .bool (PyData.eqv d e)) ?_ (wE_mono w fun z y1 h => wE_mono h fun z' y2 ⟨d, e, e1, e2, s1, s2, q⟩ => ⟨_, _, _, e1, e2, ⟨s1, s2, rfl⟩, q⟩)
  rintro M H x y d e r Q _ rx ry ⟨s1, s2, rfl⟩ k
  exact ⟨d, e, rx.dp (canLay_noDict s1), ry.dp (canLay_noDict s2), s1, s2, k _ H (fun _ _ e => e) (.bl _)⟩
theorem wE_neD (w : wE C ta y fun z y1 => wE C tb y1 fun z' y2 => ∃ d e, z = .d d ∧ z' = .d e ∧ SeqAt.shaped d = true ∧ SeqAt.shaped e = true ∧ Q (.d (.bool (!PyData.eqv d e))) y2) : wE C (tOp (rNeD C.K) ta tb) y Q := by
  refine wE_op (res := fun d e r => SeqAt.shaped d = true ∧ SeqAt.shaped e = true ∧ r = .bool (!PyData.eqv d e)) ?_ (wE_mono w fun z y1 h => wE_mono h fun z' y2 ⟨d, e, e1, e2, s1, s2, q⟩ => ⟨_, _, _, e1, e2, ⟨s1, s2, rfl⟩, q⟩)
  rintro M H x y d e r Q _ rx ry ⟨s1, s2, rfl⟩ k
  exact ⟨d, e, rx.dp (canLay_noDict s1), ry.dp (canLay_noDict s2), s1, s2, k _ H (fun _ _ e => e) (.bl _)⟩
theorem wE_isN (w : wE C ta y fun z y1 => wE C tb y1 fun z' y2 => ∃ d, z = .d d ∧ z' = .d .none ∧ Q (.d (.bool (match d with | .none => true | _ => false))) y2) :
    wE C (tOp (fun x y H Q => y = .non ∧ Q (.bl (decide (x = .non))) H) ta tb) y Q := by
  refine wE_op (res := fun d e r => e = .none ∧ r = .bool (match d with | .none => true | _ => false)) ?_ (wE_mono w fun z y1 h => wE_mono h fun z' y2 ⟨d, e1, e2, q⟩ => ⟨_, _, _, e1, e2, ⟨rfl, rfl⟩, q⟩)
  rintro M H x y d e r Q _ rx ry ⟨rfl, rfl⟩ k
  refine ⟨rp_non ry, k _ H (fun _ _ e => e) ?_⟩
  cases rx <;> exact .bl _
theorem wE_notN (w : wE C ta y fun z y1 => wE C tb y1 fun z' y2 => ∃ d, z = .d d ∧ z' = .d .none ∧ Q (.d (.bool (match d with | .none => false | _ => true))) y2) :
    wE C (tOp (fun x y H Q => y = .non ∧ Q (.bl (!decide (x = .non))) H) ta tb) y Q := by
  refine wE_op (res := fun d e r => e = .none ∧ r = .bool (match d with | .none => false | _ => true)) ?_ (wE_mono w fun z y1 h => wE_mono h fun z' y2 ⟨d, e1, e2, q⟩ => ⟨_, _, _, e1, e2, ⟨rfl, rfl⟩, q⟩)
  rintro M H x y d e r Q _ rx ry ⟨rfl, rfl⟩ k
  refine ⟨rp_non ry, k _ H (fun _ _ e => e) ?_⟩
  cases rx <;> exact .bl _
/-! items -/
def dIx (d : D) (i : Int) : Option D := match d with
  | .list xs => atI xs i
  | .tuple xs => atI xs i
  | .str z => if z.length ≤ sizeLine then (atI z.cps.toList i).map fun c => .str ⟨#[c]⟩ else none
  | _ => none
theorem atI_rp {K : Fg} {M : Addr → Prop} {H : Hp} {vs : List V} {ds : List D} {i : Int} {d : D} (r : RpA K M H vs ds) (h : atI ds i = some d) : ∃ v, atI vs i = some v ∧ Rp K M H v d := by
  unfold atI at h ⊢
  rw [r.len]
  cases e : ixN ds.length i with
  | none => rw [e] at h; cases h
  | some j =>
    rw [e] at h
    exact r.get (i := j) h
theorem wE_ix (w : wE C ta y fun z y1 => wE C tb y1 fun z' y2 => ∃ d i g, z = .d d ∧ z' = .d (.int i) ∧ dIx d i = some g ∧ Q (.d g) y2) : wE C (tOp (rIx C.K) ta tb) y Q := by
  refine wE_op (res := fun d e r => ∃ i, e = .int i ∧ dIx d i = some r) ?_ (wE_mono w fun z y1 h => wE_mono h fun z' y2 ⟨d, i, g, e1, e2, s, q⟩ => ⟨_, _, _, e1, e2, ⟨i, rfl, s⟩, q⟩)
  rintro M H x y d e r Q _ rx ry ⟨i, rfl, h⟩ k
  have ey := rp_int ry
  cases rx with
  | non => cases h
  | bl b => cases h
  | int b => cases h
  | dic _ _ _ => cases h
  | str z =>
    simp only [dIx] at h
    by_cases hz : z.length ≤ sizeLine
    · rw [if_pos hz] at h
      cases q : atI z.cps.toList i with
      | none => rw [q] at h; cases h
      | some c =>
        rw [q] at h; cases h
        exact .inr (.inr ⟨z, i, c, rfl, ey, hz, q, k _ H (fun _ _ e => e) (.str _)⟩)
    · rw [if_neg hz] at h; cases h
  | lst h1 h2 =>
    obtain ⟨v, e, rv⟩ := atI_rp h2 h
    exact .inl ⟨_, _, i, v, rfl, ey, h1.sq, e, k _ H (fun _ _ e => e) rv⟩
  | tup h1 h2 =>
    obtain ⟨v, e, rv⟩ := atI_rp h2 h
    exact .inr (.inl ⟨_, _, i, v, rfl, ey, h1.sq, e, k _ H (fun _ _ e => e) rv⟩)
end
end Tq

set_option maxRecDepth 100000
set_option maxHeartbeats 2000000
namespace Tq
open PySem PySem.Spec PyProof.Rows L2
/-! ### further operators over HandS -/
section
variable {X : Cx}
/-- list + list, whatever the lists are -/
def rCatG (K : Fg) : R2 := fun x y H Q => ∃ l b xs zs, x = .ref l ∧ y = .ref b ∧ SqL K H l xs ∧ SqL K H b zs ∧ xs.length + zs.length ≤ sizeLine ∧ ∀ p, H p = none → Q (.ref p) (upd H p (.lst (xs ++ zs)))
theorem op_catG : OpR X (binaryOp .Add) (rCatG X.K) := by
  intro pins s σ H x y v u Q I rx ry h
  obtain ⟨l, b, xs, zs, rfl, rfl, hl, hb, hz, q⟩ := h
  cases rx
  cases ry
  obtain ⟨i1, r1, p1, z1⟩ := I.list hl
  obtain ⟨i2, r2, p2, z2⟩ := I.list hb
  obtain ⟨⟨c1, d1, t1, s1⟩, ho1, hc1, n1, hd1⟩ := p1.isList
  obtain ⟨⟨c2, d2, t2, s2⟩, ho2, hc2, n2, hd2⟩ := p2.isList
  simp only at hc1 hd1 hc2 hd2
  subst hc1 hd1 hc2 hd2
  have l1 := r1.length
  have l2 := r2.length
  refine concat_meets ⟨_, ho1, rfl⟩ ⟨_, ho2, rfl⟩ noFill_list_add seq_list_add PySem.F.slot_list_add PySem.F.entry_list_add (PySem.F.args_list_add_2 _ _)
    (list_addW l b i1.toArray i2.toArray n1 n2 d1 d2 s1 s2 (by rw [List.size_toArray, List.size_toArray]; omega)) ⟨ho1, ho2, ?_⟩
  have ea : i1.toArray ++ i2.toArray = (i1 ++ i2).toArray := by simp
  rw [ea]
  exact ⟨.ref _, _, I.lnew (t' := s.toks) (r1.append r2) (by rw [List.length_append]; omega), rfl, q _ I.fresh⟩
/-- // by any number but nought, below 2 ^ 9000 in size -/
def CDivZ (_ j : Int) : Prop := j ≠ 0 ∧ j.natAbs.log2 < 9000
theorem op_fdivZ : OpR X (binaryOp .FloorDiv) (rI CDivZ fun i j => .int (i.fdiv j)) := opI fun i j _ _ _ _ _ hc q => floordiv_int hc.1 q (.inl (PyProof.noPylong_of_log2 hc.2))
end
/-! ### repr -/
def scD : D → Bool
  | .none | .bool _ | .int _ | .str _ => true
  | _ => false
/-- no dict but at the top, and there with plain values -/
def dsm (d : D) : Bool := match d with
  | .dict kvs => kvs.all fun kv => scD kv.2
  | d => !d.hasDict
abbrev M0 : Addr → Prop := fun _ => False
theorem Rp.any {K : Fg} {M : Addr → Prop} {H : Hp} {v : V} {d : D} (r : Rp K M H v d) : Rp K M0 H v d := r.go fun a o _ e => ⟨fun z => z, e⟩
section
variable {X : Cx} {pins : List (Addr × Obj)} {σ : St} {H : Hp} {s : Shared}
theorem rpk_reads : ∀ {kvs : List (Key × V)} {ds : List (D × D)} {vs : List (Key × Value)} {es : List DictEntry}, RpK X.K M0 H kvs ds → ds.all (fun kv => scD kv.2) = true → KV kvs vs → Pairs (mixKind X.prog X.w) es vs →
    ReadsAll s.heap (es.map (·.key)) (ds.map (·.1)) [] ∧ ReadsAll s.heap (es.map (·.val)) (ds.map (·.2)) []
  | _, _, _, _, .nil, _, kv, pr => by
    cases kv
    cases pr
    exact ⟨.nil, .nil⟩
  | _, _, _, _, @RpK.cons _ _ _ k v d _ _ a b, hs, kv, pr => by
    cases kv with
    | @cons _ kw _ _ r1 r2 =>
      cases pr with
      | @cons e _ es _ p1 p2 p3 =>
        rw [List.all_cons, Bool.and_eq_true] at hs
        obtain ⟨q1, q2⟩ := rpk_reads b hs.2 r2 p3
        have e1 : k = kw.1 := r1.1
        have rv : RelV v kw.2 := r1.2
        constructor
        · have rk : Reads s.heap e.key (kD k) [] := by
            rw [← e1, mixKind_is] at p1
            rcases keyIs_shape p1 with ⟨i, t, z1, z2⟩ | ⟨x, t, z1, z2⟩
            · rw [z1, z2]; exact .int i t
            · rw [z1, z2]; exact .str x t
          exact ReadsAll.cons (as := []) (bs := []) rk q1
        · have rw' : Reads s.heap e.val d [] := by
            rw [p2]
            cases a with
            | non => rw [show kw.2 = Value.none from rv]; exact .none
            | bl b => rw [show kw.2 = Value.bool b from rv]; exact .bool b
            | int b => obtain ⟨t, z⟩ := (show ∃ t, kw.2 = Value.int b t from rv); rw [z]; exact .int b t
            | str b => obtain ⟨t, z⟩ := (show ∃ t, kw.2 = Value.str b t from rv); rw [z]; exact .str b t
            | lst _ _ => cases hs.1
            | tup _ _ => cases hs.1
            | dic _ _ _ => cases hs.1
          exact ReadsAll.cons (as := []) (bs := []) rw' q2
theorem Rp.reads (I : Inv X pins σ H s) {v : V} {u : Value} {d : D} (r : Rp X.K M0 H v d) (rv : RelV v u) (hs : dsm d = true) : ∃ as, Reads s.heap u d as ∧ (d.hasDict = true → sysModules ∉ as) := by
  by_cases hd : d.hasDict = false
  · obtain ⟨as, q⟩ := Dp.reads I d v u (r.dp hd) rv
    exact ⟨as, q, fun z => by rw [hd] at z; cases z⟩
  · cases r with
    | non => exact absurd rfl hd
    | bl _ => exact absurd rfl hd
    | int _ => exact absurd rfl hd
    | str _ => exact absurd rfl hd
    | lst _ _ => simp only [dsm, Bool.not_eq_true'] at hs; exact absurd hs hd
    | tup _ _ => simp only [dsm, Bool.not_eq_true'] at hs; exact absurd hs hd
    | @dic a kvs ds _ h k =>
      cases (show u = Value.ref a from rv)
      obtain ⟨_, nsm, vs, kv, o, es, ep, ho, ex, hdt, _, pr, _⟩ := (show ObjOk X.prog X.w H s.heap a (.dK kvs) from I.hok a _ h)
      obtain ⟨q1, q2⟩ := rpk_reads (X := X) (s := s) k hs kv pr
      refine ⟨_, Reads.dict (as := []) (bs := []) ho ex.1 hdt q1 q2, fun _ z => ?_⟩
      have z' : sysModules = a := by simpa using z
      rw [z'] at nsm
      simp at nsm
def rRepr (K : Fg) : List V → Hp → VK → Prop := fun xs H Q => ∃ x d, xs = [x] ∧ Rp K M0 H x d ∧ dsm d = true ∧ d.showable = true ∧ d.depth ≤ 60 ∧ d.shown.length ≤ sizeLine ∧ Q (.str d.shown) H
theorem call_reprD (hg : X.A.guards = some []) (hu : X.A.units + 64 < cLine) : CallR X (.builtin "repr") (rRepr X.K) := by
  intro pins s σ H xs us Q I r h
  obtain ⟨x, d, rfl, rx, hm, hs, hd, hz, q⟩ := h
  obtain ⟨u, rfl, rv⟩ := vals1 r
  obtain ⟨as, rd, hsm⟩ := rx.reads I rv hm
  have fin : ∀ tk t h', (∀ b o, s.heap.get? b = some o → h'.get? b = some o) → EP X pins σ Q (.str d.shown t) { s with heap := h', toks := tk } := fun tk t h' k => ⟨.str d.shown, H, I.kept (t' := tk) k, ⟨t, rfl⟩, q⟩
  cases rx with
  | non =>
    cases (show u = Value.none from rv)
    exact PySem.P.repr_of_none (by have := fin (s.toks + 1) s.toks s.heap (fun _ _ e => e); simpa only [PyData.shown] using this)
  | bl b =>
    cases (show u = Value.bool b from rv)
    exact PySem.P.repr_of_bool (by have := fin (s.toks + 1) s.toks s.heap (fun _ _ e => e); simpa only [PyData.shown] using this)
  | int b =>
    obtain ⟨t, e⟩ := (show ∃ t, u = Value.int b t from rv)
    cases e
    exact PySem.P.repr_of_int (by simpa only [PyData.showable, decide_eq_true_eq] using hs) (by have := fin (s.toks + 1) s.toks s.heap (fun _ _ e => e); simpa only [PyData.shown] using this)
  | str b =>
    obtain ⟨t, e⟩ := (show ∃ t, u = Value.str b t from rv)
    cases e
    exact PySem.P.repr_of_str (by have := fin (s.toks + 1) s.toks s.heap (fun _ _ e => e); simpa only [PyData.shown] using this) (by simpa only [PyData.shown] using hz)
  | @lst a _ _ _ _ =>
    cases (show u = Value.ref a from rv)
    exact repr_of_reads' rd hs hsm hg (by omega) (fun _ _ e => e) (fun h' t tk k => fin tk t h' k) hz
  | @tup a _ _ _ _ =>
    cases (show u = Value.ref a from rv)
    exact repr_of_reads' rd hs hsm hg (by omega) (fun _ _ e => e) (fun h' t tk k => fin tk t h' k) hz
  | @dic a _ _ _ _ _ =>
    cases (show u = Value.ref a from rv)
    exact repr_of_reads' rd hs hsm hg (by omega) (fun _ _ e => e) (fun h' t tk k => fin tk t h' k) hz
end
/-! ### promises where nothing is being shown: as FnOk, with the guards told -/
structure FnG (P : Program) (w : World) (K : Fg) (mg : Str → Option Value) (base : Heap) (CX : CXT) (k : Nat) (f : Addr) (fd : FuncData) (ps : List Str) (sp : Sp) : Prop where
  len : ∀ vs H Q E, sp vs H Q E → vs.length = ps.length
  run : ∀ (A : Around) (outer : List Env) (s : Shared) (H : Hp) (args : Args) (us : List Value) (vs : List V) (Q : VK) (E : XK), Room k A → A.guards = some [] →
    Env0 P w K mg base A outer s H → BindsTo s fd args (ps.zip us) → Vals vs us → sp vs H Q E → codeAny (model P w) A (.call (.ref f) args) (CR CX outer P w H s Q E) s
theorem FnG.of {P : Program} {w : World} {K : Fg} {mg : Str → Option Value} {base : Heap} {CX : CXT} {k : Nat} {f : Addr} {fd : FuncData} {ps : List Str} {sp : Sp} (F : FnOk P w K mg base CX k f fd ps sp) :
    FnG P w K mg base CX k f fd ps sp := ⟨F.len, fun A outer s H args us vs Q E hr _ => F.run A outer s H args us vs Q E hr⟩
theorem FnG.mono {P : Program} {w : World} {K : Fg} {mg : Str → Option Value} {base : Heap} {CX : CXT} {j k : Nat} {f : Addr} {fd : FuncData} {ps : List Str} {sp : Sp} (F : FnG P w K mg base CX j f fd ps sp) (h : j ≤ k) :
    FnG P w K mg base CX k f fd ps sp := ⟨F.len, fun A outer s H args us vs Q E hr => F.run A outer s H args us vs Q E (hr.mono h)⟩
section
variable {X : Cx} {CX : CXT} {k : Nat} {f : Addr} {fd : FuncData} {ps : List Str} {sp : Sp} {dvs : List V} {ds : List Value} {E : XK} {x : Str} {p pos : Pos} {e : Expr} {es : List Expr} {t : TA}
theorem run_fnG {pins : List (Addr × Obj)} {σ : St} {H : Hp} {s : Shared} {Q : VK} {us : List Value} {vs : List V} (F : FnG X.prog X.w X.K X.mg X.base CX k f fd ps sp) (hr : Room k X.A) (hg : X.A.guards = some []) (hb : Binds X.K fd ps ds) (hd : Vals dvs ds)
    (hx : Passes CX X E) (I : Inv X pins σ H s) (r : Vals vs us) (h : sp (vs ++ dvs) H Q E) : wpAny (model X.prog X.w) X.A (call (.ref f) us) (EP X pins σ Q) X.xe s := by
  have r2 : Vals (vs ++ dvs) (us ++ ds) := r.append hd
  have hl : (us ++ ds).length = ps.length := by
    rw [← r2.length]
    exact F.len _ _ _ _ h
  refine wpAny_call (codeAny_mono (F.run X.A X.stack s H ⟨us, []⟩ (us ++ ds) (vs ++ dvs) Q E hr hg I.env0 (hb s us I.kIn hl) r2 h) fun res s2 hq => ?_)
  cases res with
  | error ev => exact hx pins σ H s ev s2 I hq
  | ok fl =>
    cases fl
    case ret u => exact I.after hq
    all_goals exact False.elim hq
theorem pe_callG (F : FnG X.prog X.w X.K X.mg X.base CX k f fd ps sp) (hr : Room k X.A) (hgu : X.A.guards = some []) (hg : Gl X x) (hm : X.mg x = some (.ref f)) (hk : PySem.W.keepIn X.K (.ref f) = true) (hb : Binds X.K fd ps ds) (hd : Vals dvs ds)
    (hx : Passes CX X E) (ha : PA X (e :: es) t) (hdb : (x == ("__debug__" : Str)) = false := by decide)
    (he : starEach (e :: es) X.env = (false, eval e X.env) :: starEach es X.env := by rfl)
    (hpl : (backTo pos (starEach es X.env)).any (·.1) = false := by rfl) : PE X (.Call (.Name x p) (e :: es) [] pos) (tCall sp dvs E t) := by
  constructor
  intro pins s σ H Q I h
  refine wpAny_Call_Name_kw (ld_glob I hg hm ?_ hdb)
  refine PySem.W.callWith_K (h₀ := X.base) I.ok.mod.kin hk (thn (ha.run pos pins s σ H _ I h) fun us s1 ⟨vs, H1, I1, r, q⟩ => ⟨I1.kIn, ?_⟩) he hpl
  exact run_fnG F hr hgu hb hd hx I1 r q
end
theorem fn_ofG {CX : CXT} {P : Program} {w : World} {K : Fg} {mg : Str → Option Value} {base : Heap} {k : Nat} {f : Addr} {name qual : Str} {params : Arguments} {body : List Stmt} {scope : Scope} {dV kV doc pm cdv ct oc : Value} {an od : Option Addr}
    {osl : Array (Option Value)} {N ps : List Str} {sp : Sp} (lk : K.lookup f = some ⟨oc, od, .func (PySem.W.fnOf name qual params body scope dV kV doc pm an cdv ct), osl⟩) (hcd : PySem.W.codeIn K cdv qual = true) (Sc : FnScope N ps scope)
    (len : ∀ vs H Q E, sp vs H Q E → vs.length = ps.length)
    (hbody : ∀ (A : Around) (outer : List Env) (s : Shared) (H : Hp) (vs : List V) (Q : VK) (E : XK), Room k (A.deeper (envOfC qual scope s.heap.objs.size f cdv)) → (A.deeper (envOfC qual scope s.heap.objs.size f cdv)).guards = some [] → sp vs H Q E →
      ∃ t, PSs (cxOf CX P w K mg base N qual scope f cdv A outer s H E) body t ∧ t { nx := fun _ H' => Q .non H', rt := Q } (start N vs) H) :
    FnG P w K mg base CX (k + 1) f (PySem.W.fnOf name qual params body scope dV kV doc pm an cdv ct) ps sp := by
  refine ⟨len, fun A outer s H args us vs Q E hr hgu e0 hb r hsp => ?_⟩
  have hl := len _ _ _ _ hsp
  have kpd : ∀ b o, base.get? b = some o → s.heap.get? b = some o := fun b o e => (e0.bs b o e).1
  have KX : K.In s.heap := e0.mod.kin.keeps kpd
  have lim : s.heap.NoLimit := e0.mod.nolimit.keeps kpd
  have hkind : ∀ z ∈ ps.zip us, scope.names.lookup z.1 = some .local ∨ (scope.names.lookup z.1 = some .cell ∧ ((cellsFrom (s.heap.objs.size + 1) scope.names []).lookup z.1).isSome = true) := by
    rintro ⟨n, v⟩ hz
    rcases Sc.par n (List.of_mem_zip hz).1 with q | q
    · exact .inl q
    · exact .inr ⟨q, PySem.W.cellsFrom_some _ _ _ (.inl q)⟩
  refine codeAny_call_function hr.depth (KX _ _ lk) rfl Sc.co Sc.gen rfl (PySem.W.codeRec_of KX hcd) (hb _ _ _ _ ?_)
  refine wpAny_newFunctionEnv_cells Sc.kind hkind fun env he s1 x => ?_
  subst he
  refine ⟨lim.keeps x.toInCall.keep, codeAny_func ?_⟩
  obtain ⟨t, ht, hq⟩ := hbody A outer s H vs Q E (hr.deeper _) hgu hsp
  have I : Inv (cxOf CX P w K mg base N qual scope f cdv A outer s H E) [] (start N vs) H s1 := inv_start Sc hr.hd e0 hl r x
  refine wpAny_mono (ht.run [] s1 (start N vs) H _ I hq) (fun fl s2 hs => ?_) fun ev s2 hs => hs
  cases fl with
  | ret u =>
    obtain ⟨v, τ, G, J, rv, q⟩ := hs
    exact ⟨v, G, J.os, J.bare, J.base, J.hok, rv, q⟩
  | next =>
    obtain ⟨τ, G, J, q⟩ := hs
    exact ⟨V.non, G, J.os, J.bare, J.base, J.hok, rfl, q⟩
  | brk =>
    obtain ⟨_, _, _, q⟩ := hs
    exact False.elim q
  | cont =>
    obtain ⟨_, _, _, q⟩ := hs
    exact False.elim q
theorem okG {P : Program} {w : World} {K : Fg} {mg : Str → Option Value} {base : Heap} {x qual : Str} {st : Stmt} {f : Addr} {fd : FuncData} {N ps : List Str} {k : Nat} {sp : Sp} (F : Fun K x qual st f fd) (Sc : FnScope N ps (defScope st))
    (len : ∀ vs H Q E, sp vs H Q E → vs.length = ps.length)
    (hbody : ∀ (cdv : Value) (A : Around) (outer : List Env) (s : Shared) (H : Hp) (vs : List V) (Q : VK) (E : XK), Room k (A.deeper (envOfC qual (defScope st) s.heap.objs.size f cdv)) →
      (A.deeper (envOfC qual (defScope st) s.heap.objs.size f cdv)).guards = some [] → sp vs H Q E →
      ∃ t, PSs (cxOf CX0 P w K mg base N qual (defScope st) f cdv A outer s H E).nox (defBody st) t ∧ t { nx := fun _ G => Q .non G, rt := Q } (start N vs) H) : FnG P w K mg base CX0 (k + 1) f fd ps sp := by
  obtain ⟨oc, od, kV, doc, pm, an, cdv, ct, osl, rfl, lk, hcd⟩ := F.ex
  refine fn_ofG lk hcd Sc len fun A outer s H vs Q E hr hgu hsp => ?_
  obtain ⟨t, h, q⟩ := hbody cdv A outer s H vs Q E hr hgu hsp
  exact ⟨t, h.nox, q⟩
end Tq

set_option maxRecDepth 100000
set_option maxHeartbeats 2000000
namespace Tq
open PySem PySem.Spec PyProof.Rows L2
/-- what the law's call is to show -/
abbrev LawEnd (s₁ : Shared) : Result → Shared → Prop := fun r s' => r = .ok (.ret (.bool true)) ∧ OldK s₁.heap s'.heap ∧ s'.os = s₁.os ∧ AllBare s'.gens
section
variable {P : Program} {w : World} {K : Fg} {mg mb : Str → Option Value} {CX : CXT} {k : Nat} {fa a : Addr} {fd : FuncData} {x : Str} {sp : Sp} {s₁ : Shared} {vs : List Value} {ns : List Int}
theorem law_coreG (KX : K.In s₁.heap) (hns : s₁.heap.Ns mainGlobals mg) (hb : s₁.heap.Ns builtinsNs mb) (hbb : ∀ x : Str, x ≠ "__name__" → mb x = bootBuiltins x) (hlim : s₁.heap.NoLimit) (hg : s₁.gens = #[])
    (ha : s₁.heap.get? a = some { cls := .type "list", data := .seq vs.toArray }) (hr : Room k callerA)
    (F : ∀ base : Heap, K.In base → base.Ns mainGlobals mg → FnG P w K mg base CX k fa fd [x] sp) (hbind : ∀ (s : Shared) (u : Value), BindsTo s fd ⟨[u], []⟩ [(x, u)])
    (hCX : ∀ H e s', CX [] H s₁ (fun _ _ _ => False) e s' → False)
    (H : Hp) (hsp : sp [.ref a] H (fun v _ => v = .bl true) fun _ _ _ => False) (hO : Only H) (hok : HOk P w H s₁.heap) (hA : ∀ b, H b ≠ none → b = a) (hK : H a ≠ none → K.lookup a = none) :
    codeAny (model P w) callerA (.call (.ref fa) ⟨[.ref a], []⟩) (LawEnd s₁) s₁ := by
  have isA : ∀ {b : Addr} {u : HO}, H b = some u → b = a := fun {b u} q => hA b (by rw [q]; simp)
  have noA : ∀ {b : Addr} {o : Obj} {es : Array DictEntry} {ep : Nat}, s₁.heap.get? b = some o → o.data = .dict es ep → H b = none := by
    intro b o es ep e d
    cases q : H b with
    | none => rfl
    | some u =>
      rw [isA q, ha] at e
      cases e
      cases (show Data.seq vs.toArray _ = Data.dict es ep from d)
  have nsK : ∀ {b : Addr} {m : Str → Option Value}, s₁.heap.Ns b m → (hidT s₁.heap H).Ns b m := fun {b m} ⟨o, es, ep, e, d, r⟩ => ⟨o, es, ep, hidT_get e (noA e d), d, r⟩
  have hKb : K.In (hidT s₁.heap H) := by
    intro b o e
    refine hidT_get (KX b o e) ?_
    cases q : H b with
    | none => rfl
    | some u =>
      have eb := isA q
      subst eb
      rw [hK (by rw [q]; simp)] at e
      cases e
  obtain ⟨mc, lim1, lim2⟩ := hlim
  have hM : Mod K mg (hidT s₁.heap H) := ⟨hKb, nsK hns, ⟨mb, nsK hb, hbb⟩, ⟨mc, nsK lim1, lim2⟩⟩
  have e0 : Env0 P w K mg (hidT s₁.heap H) callerA [] s₁ H :=
    ⟨rfl, hM, fun b o e => of_hidT e, Nat.le_of_eq (hidT_size _ _), trivial, fun b hb => absurd (show b ∈ ([] : List Addr) from hb) (by simp), hok, .of_eq hg⟩
  refine codeAny_mono ((F _ hKb (nsK hns)).run callerA [] s₁ H ⟨[.ref a], []⟩ [.ref a] [.ref a] _ _ hr rfl e0 (hbind s₁ (.ref a)) (.cons rfl .nil) hsp) fun r s' h => ?_
  cases r with
  | error e => exact (hCX H e s' h).elim
  | ok fl =>
    cases fl
    case ret u =>
      obtain ⟨v, G, os, bare, un, hok', r', q⟩ := h
      cases (show v = .bl true from q)
      cases (show u = Value.bool true from r')
      refine ⟨rfl, OldK.of_keep fun b o e => ?_, os, bare⟩
      rcases hO b with z | ⟨ob, xs, z⟩
      · exact un.keep b o e z (by intro zz; exact absurd (show b ∈ ([] : List Addr) from zz) (by simp)) (by simp)
      · obtain ⟨e1, _⟩ := hok b _ z
        obtain ⟨e2, _⟩ := hok' b _ (un.frzs b ob _ z)
        rw [e] at e1
        cases e1
        exact e2
    all_goals exact False.elim h
/-- the law's promise at the heap behind the top, the guards told -/
theorem law_callG (KX : K.In s₁.heap) (hns : s₁.heap.Ns mainGlobals mg) (hb : s₁.heap.Ns builtinsNs mb) (hbb : ∀ x : Str, x ≠ "__name__" → mb x = bootBuiltins x) (hlim : s₁.heap.NoLimit) (hg : s₁.gens = #[])
    (ha : s₁.heap.get? a = some { cls := .type "list", data := .seq vs.toArray }) (hi : IntsAre vs ns) (hl : ns.length ≤ sizeLine) (hr : Room k callerA)
    (F : ∀ base : Heap, K.In base → base.Ns mainGlobals mg → FnG P w K mg base CX k fa fd [x] sp) (hbind : ∀ (s : Shared) (u : Value), BindsTo s fd ⟨[u], []⟩ [(x, u)])
    (hsp : ∀ H : Hp, Only H → SqL K H a (ns.map V.int) → sp [.ref a] H (fun v _ => v = .bl true) fun _ _ _ => False)
    (hCX : ∀ H e s', CX [] H s₁ (fun _ _ _ => False) e s' → False) :
    codeAny (model P w) callerA (.call (.ref fa) ⟨[.ref a], []⟩) (LawEnd s₁) s₁ := by
  have rv := vals_ints hi
  cases hk : K.lookup a with
  | some o =>
    have e := KX a o hk
    rw [ha] at e
    cases e
    have hO : Only (fun _ => none) := fun _ => .inl rfl
    refine law_coreG KX hns hb hbb hlim hg ha hr F hbind hCX (fun _ => none) (hsp _ hO ?_) hO (fun b u z => by cases z) (fun b z => absurd rfl z) fun z => absurd rfl z
    refine .inr ⟨_, vs.toArray, _, hk, rfl, rfl, rfl, ?_, by simpa using rv⟩
    rw [List.size_toArray, hi.length]
    exact hl
  | none =>
    have ob : (({ cls := .type "list", data := .seq vs.toArray } : Obj)) = { cls := .type "list", data := .seq vs.toArray } := rfl
    generalize hH : (fun b : Addr => if b = a then some (HO.frz { cls := .type "list", data := .seq vs.toArray } (.lst (ns.map V.int))) else none) = H
    have at1 : H a = some (HO.frz { cls := .type "list", data := .seq vs.toArray } (.lst (ns.map V.int))) := by rw [← hH]; exact if_pos rfl
    have at2 : ∀ b, b ≠ a → H b = none := fun b hb => by rw [← hH]; exact if_neg hb
    have hO : Only H := fun b => by
      by_cases hb : b = a
      · subst hb; exact .inr ⟨_, _, at1⟩
      · exact .inl (at2 b hb)
    refine law_coreG KX hns hb hbb hlim hg ha hr F hbind hCX H (hsp _ hO (.inl (.inr ⟨_, at1⟩))) hO (fun b u z => ?_) (fun b z => ?_) fun _ => hk
    · by_cases hb : b = a
      · subst hb
        rw [at1] at z
        cases z
        exact ⟨ha, by rw [List.length_map]; exact hl, vs, _, rv, ha⟩
      · rw [at2 b hb] at z; cases z
    · by_cases hb : b = a
      · exact hb
      · exact absurd (at2 b hb) z
end
theorem walk_ofG {l : PySem.W.OpenLaw} {n k : Nat} {q : Program} {loose : List Str} {XP : (Str → Option Value) → Heap → Prop} {YP : World → Heap → Prop} {d : DefRec} {K : Params → Fg} {sp : Fg → Sp} {x : Str}
    (hn : l.most = some n) (hn2 : n ≤ sizeLine) (hdf : d.params.defaults = []) (hr : Room k callerA)
    (hY : ∀ (w : World) (h : Heap), YP w h → (K w.params).In h)
    (F : ∀ (w : World) (mg : Str → Option Value) (fa : Addr) (h : Heap), (K w.params).In h → h.Ns mainGlobals mg → mg d.name = some (.ref fa) →
      ∃ fd : FuncData, (∀ (s : Shared) (u : Value), BindsTo s fd ⟨[u], []⟩ [(x, u)]) ∧
        ∀ base : Heap, (K w.params).In base → base.Ns mainGlobals mg → FnG l.prog w (K w.params) mg base CX0 k fa fd [x] (sp (K w.params)))
    (hsp : ∀ (K : Fg) (H : Hp) (a : Addr) (ns : List Int), ns.length ≤ n → Only H → SqL K H a (ns.map V.int) → sp K [.ref a] H (fun v _ => v = .bl true) fun _ _ _ => False) :
    PySem.W.WalkO q loose XP YP l.row.toRowW d [] (fun f vs => PySem.call f vs) := by
  refine Att.attach_call hn hdf fun w s₀ s₁ mg mb fa o pm cd doc a vs ns G Y ho hd hcd hmg hobj hints hlen hg => ?_
  have KX := hY w _ Y
  obtain ⟨fd, hb, hF⟩ := F w mg fa _ KX G.T.g hmg
  exact law_callG KX G.T.g G.T.b G.T.builtins G.T.nolimit hg hobj hints (Nat.le_trans hlen hn2) hr hF hb (fun H hO hS => hsp (K w.params) H a ns hlen hO hS) fun H e s' h => h
end Tq

set_option maxRecDepth 100000
set_option maxHeartbeats 2000000
namespace Tq
open PySem PySem.Spec PyProof.Rows L2
section
variable {C : Ct} {y : S} {ta tb tc te : TE} {t u : TT} {ts : TA} {Q : Z → S → Prop} {R : Bool → S → Prop}
theorem wE_catG (w : wE C ta y fun z y1 => wE C tb y1 fun z' y2 => ∃ xs ys, z = .d (.list xs) ∧ z' = .d (.list ys) ∧ xs.length + ys.length ≤ sizeLine ∧ Q (.d (.list (xs ++ ys))) y2) : wE C (tOp (rCatG C.K) ta tb) y Q := by
  refine wE_op (res := fun d e r => ∃ xs ys, d = .list xs ∧ e = .list ys ∧ xs.length + ys.length ≤ sizeLine ∧ r = .list (xs ++ ys)) ?_ (wE_mono w fun z y1 h => wE_mono h fun z' y2 ⟨xs, ys, e1, e2, c, q⟩ => ⟨_, _, _, e1, e2, ⟨xs, ys, rfl, rfl, c, rfl⟩, q⟩)
  rintro M H x y d e r Q fr rx ry ⟨xs, ys, rfl, rfl, c, rfl⟩ k
  obtain ⟨a, us, rfl, h1, h2⟩ := rp_lst rx
  obtain ⟨b, vs, rfl, h3, h4⟩ := rp_lst ry
  refine ⟨a, b, us, vs, rfl, rfl, h1.sq, h3.sq, by rw [h2.len, h4.len]; exact c, fun p hp => k _ _ (grow_upd hp) ?_⟩
  have g : GoH M H M (upd H p (.lst (us ++ vs))) := fun a o n e => ⟨n, grow_upd hp a o e⟩
  exact .lst (.inl ⟨fr p hp, .inl upd_same⟩) ((h2.go g).app (h4.go g))
theorem wE_fdivZ (w : wE C ta y fun z y1 => wE C tb y1 fun z' y2 => ∃ i j, z = .d (.int i) ∧ z' = .d (.int j) ∧ CDivZ i j ∧ Q (.d (.int (i.fdiv j))) y2) : wE C (tOp (rI CDivZ fun i j => .int (i.fdiv j)) ta tb) y Q := wE_I _ (fun _ _ => .int _) w
theorem wE_modN (w : wE C ta y fun z y1 => wE C tb y1 fun z' y2 => ∃ i j, z = .d (.int i) ∧ z' = .d (.int j) ∧ j ≠ 0 ∧ Q (.d (.int (i.fmod j))) y2) : wE C (tOp (rI (fun _ j => j ≠ 0) fun i j => .int (i.fmod j)) ta tb) y Q := wE_I _ (fun _ _ => .int _) w
/-! truth -/
theorem wE_andV (w : wE C ta y fun z y1 => ∃ b, z = .d (.bool b) ∧ if b = true then wE C tb y1 Q else Q (.d (.bool false)) y1) : wE C (tAndV ta tb) y Q := by
  intro F σ H K wd k
  refine w F σ H _ wd fun x H1 z y1 w1 g1 s1 r1 q1 => ?_
  obtain ⟨b, rfl, q⟩ := q1
  refine ⟨b, rp_bl r1, ?_⟩
  cases b with
  | true => exact q F σ H1 _ w1 fun v H2 z y2 w2 g2 s2 r2 q2 => k v H2 z y2 w2 (g1.trans g2) (s1.trans s2) r2 q2
  | false => exact k _ H1 (.d (.bool false)) y1 w1 g1 s1 (.bl _) q
theorem wE_orV (w : wE C ta y fun z y1 => ∃ b, z = .d (.bool b) ∧ if b = true then Q (.d (.bool true)) y1 else wE C tb y1 Q) : wE C (tOrV ta tb) y Q := by
  intro F σ H K wd k
  refine w F σ H _ wd fun x H1 z y1 w1 g1 s1 r1 q1 => ?_
  obtain ⟨b, rfl, q⟩ := q1
  refine ⟨b, rp_bl r1, ?_⟩
  cases b with
  | true => exact k _ H1 (.d (.bool true)) y1 w1 g1 s1 (.bl _) q
  | false => exact q F σ H1 _ w1 fun v H2 z y2 w2 g2 s2 r2 q2 => k v H2 z y2 w2 (g1.trans g2) (s1.trans s2) r2 q2
theorem wE_notV (w : wE C ta y fun z y1 => ∃ b, z = .d (.bool b) ∧ Q (.d (.bool (!b))) y1) : wE C (tNotV ta) y Q := by
  intro F σ H K wd k
  refine w F σ H _ wd fun x H1 z y1 w1 g1 s1 r1 q1 => ?_
  obtain ⟨b, rfl, q⟩ := q1
  exact ⟨b, rp_bl r1, k _ H1 (.d (.bool !b)) y1 w1 g1 s1 (.bl _) q⟩
theorem wE_if (w : wT C t y fun b y1 => if b = true then wE C ta y1 Q else wE C tb y1 Q) : wE C (tIf t ta tb) y Q := by
  intro F σ H K wd k
  refine w F σ H _ wd fun b H1 y1 w1 g1 s1 q => ?_
  cases b with
  | true => exact q F σ H1 _ w1 fun v H2 z y2 w2 g2 s2 r2 q2 => k v H2 z y2 w2 (g1.trans g2) (s1.trans s2) r2 q2
  | false => exact q F σ H1 _ w1 fun v H2 z y2 w2 g2 s2 r2 q2 => k v H2 z y2 w2 (g1.trans g2) (s1.trans s2) r2 q2
theorem wT_test (w : wE C te y fun z y1 => ∃ b, z = .d (.bool b) ∧ R b y1) : wT C (tTest te) y R := by
  intro F σ H K wd k
  refine w F σ H _ wd fun x H1 z y1 w1 g1 s1 r1 q1 => ?_
  obtain ⟨b, rfl, q⟩ := q1
  exact ⟨b, rp_bl r1, k b H1 y1 w1 g1 s1 q⟩
theorem wT_B (w : wE C te y fun z y1 => ∃ b, z = .d (.bool b) ∧ R b y1) : wT C (tB te) y R := wT_test w
theorem wT_and (w : wT C t y fun b y1 => if b = true then wT C u y1 R else R false y1) : wT C (tAnd t u) y R := by
  intro F σ H K wd k
  refine w F σ H _ wd fun b H1 y1 w1 g1 s1 q => ?_
  cases b with
  | true => exact q F σ H1 _ w1 fun v H2 y2 w2 g2 s2 q2 => k v H2 y2 w2 (g1.trans g2) (s1.trans s2) q2
  | false => exact k false H1 y1 w1 g1 s1 q
theorem wT_or (w : wT C t y fun b y1 => if b = true then R true y1 else wT C u y1 R) : wT C (tOr t u) y R := by
  intro F σ H K wd k
  refine w F σ H _ wd fun b H1 y1 w1 g1 s1 q => ?_
  cases b with
  | true => exact k true H1 y1 w1 g1 s1 q
  | false => exact q F σ H1 _ w1 fun v H2 y2 w2 g2 s2 q2 => k v H2 y2 w2 (g1.trans g2) (s1.trans s2) q2
theorem wT_not (w : wT C t y fun b y1 => R (!b) y1) : wT C (tNot t) y R := by
  intro F σ H K wd k
  exact w F σ H _ wd fun b H1 y1 w1 g1 s1 q => k (!b) H1 y1 w1 g1 s1 q
theorem wT_yes (q : R true y) : wT C tYes y R := fun F σ H K wd k => k true H y wd GoH.refl (Sh.refl y) q
theorem wT_mono {R' : Bool → S → Prop} (h : wT C t y R) (q : ∀ z y', R z y' → R' z y') : wT C t y R' := fun F σ H K w k => h F σ H K w fun z H' y' a b c e => k z H' y' a b c (q z y' e)
/-- chains -/
theorem wE_chain {r r' : R2} {res res' : D → D → D → Prop} (h : OpD C.K r res) (h' : OpD C.K r' res')
    (w : wE C ta y fun z1 y1 => wE C tb y1 fun z2 y2 => ∃ d1 d2 b, z1 = .d d1 ∧ z2 = .d d2 ∧ res d1 d2 (.bool b) ∧ if b = true then wE C tc y2 fun z3 y3 => ∃ d3 g, z3 = .d d3 ∧ res' d2 d3 g ∧ Q (.d g) y3 else Q (.d (.bool false)) y2) :
    wE C (tChain r r' ta tb tc) y Q := by
  intro F σ H K wd k
  refine w F σ H _ wd fun x H1 z y1 w1 g1 s1 r1 q1 => ?_
  refine q1 F σ H1 _ w1 fun x2 H2 z' y2 w2 g2 s2 r2 q2 => ?_
  obtain ⟨d1, d2, b, rfl, rfl, hres, hq⟩ := q2
  refine h (Mv F σ y2) H2 x x2 d1 d2 (.bool b) _ (fun a => w2.new) (Rp.go g2 r1) r2 hres fun v H3 gr rv => ?_
  have w3 := w2.grow gr
  have g3 := (g1.trans g2).trans (go_grow (F := F) (σ := σ) (y := y2) gr)
  refine ⟨b, rp_bl rv, ?_⟩
  cases b with
  | false => exact k _ H3 (.d (.bool false)) y2 w3 g3 (s1.trans s2) (.bl _) hq
  | true =>
    refine hq F σ H3 _ w3 fun x4 H4 z4 y4 w4 g4 s4 r4 q4 => ?_
    obtain ⟨d3, g, rfl, hres', hq'⟩ := q4
    refine h' (Mv F σ y4) H4 x2 x4 d2 d3 g _ (fun a => w4.new) (Rp.go g4 (Rp.go (go_grow (F := F) (σ := σ) (y := y2) gr) r2)) r4 hres' fun v5 H5 gr5 rv5 => ?_
    exact k v5 H5 (.d g) y4 (w4.grow gr5) ((g3.trans g4).trans (go_grow gr5)) ((s1.trans s2).trans s4) rv5 hq'
theorem wE_chainI {p p' : Int → Int → Bool} (w : wE C ta y fun z1 y1 => wE C tb y1 fun z2 y2 => ∃ i j, z1 = .d (.int i) ∧ z2 = .d (.int j) ∧ if p i j = true then wE C tc y2 fun z3 y3 => ∃ m, z3 = .d (.int m) ∧ Q (.d (.bool (p' j m))) y3 else Q (.d (.bool false)) y2) :
    wE C (tChain (rI0 fun i j => .bl (p i j)) (rI0 fun i j => .bl (p' i j)) ta tb tc) y Q := by
  refine wE_chain (opD_I0 (gd := fun i j => .bool (p i j)) fun _ _ => .bl _) (opD_I0 (gd := fun i j => .bool (p' i j)) fun _ _ => .bl _) (wE_mono w fun z1 y1 h => wE_mono h fun z2 y2 ⟨i, j, e1, e2, q⟩ => ⟨_, _, p i j, e1, e2, ⟨i, j, rfl, rfl, rfl⟩, ?_⟩)
  cases hb : p i j with
  | true =>
    rw [hb] at q
    exact wE_mono (show wE C tc y2 _ from q) fun z3 y3 ⟨m, e3, q3⟩ => ⟨_, _, e3, ⟨j, m, rfl, rfl, rfl⟩, q3⟩
  | false => rw [hb] at q; exact q
theorem opD_S0 {g : Str → Str → V} {gd : Str → Str → D} (hg : ∀ i j, Sc (g i j) (gd i j)) {K : Fg} : OpD K (fun x y H Q => ∃ i j, x = .str i ∧ y = .str j ∧ Q (g i j) H) (fun d e r => ∃ i j, d = .str i ∧ e = .str j ∧ r = gd i j) := by
  rintro M H x y d e r Q _ rx ry ⟨i, j, rfl, rfl, rfl⟩ k
  exact ⟨i, j, rp_str rx, rp_str ry, k _ H (fun _ _ e => e) (hg i j).rp⟩
theorem wE_chainS {p p' : Str → Str → Bool} (w : wE C ta y fun z1 y1 => wE C tb y1 fun z2 y2 => ∃ i j, z1 = .d (.str i) ∧ z2 = .d (.str j) ∧ if p i j = true then wE C tc y2 fun z3 y3 => ∃ m, z3 = .d (.str m) ∧ Q (.d (.bool (p' j m))) y3 else Q (.d (.bool false)) y2) :
    wE C (tChain (fun x y H Q => ∃ i j, x = .str i ∧ y = .str j ∧ Q (.bl (p i j)) H) (fun x y H Q => ∃ i j, x = .str i ∧ y = .str j ∧ Q (.bl (p' i j)) H) ta tb tc) y Q := by
  refine wE_chain (opD_S0 (gd := fun i j => .bool (p i j)) fun _ _ => .bl _) (opD_S0 (gd := fun i j => .bool (p' i j)) fun _ _ => .bl _) (wE_mono w fun z1 y1 h => wE_mono h fun z2 y2 ⟨i, j, e1, e2, q⟩ => ⟨_, _, p i j, e1, e2, ⟨i, j, rfl, rfl, rfl⟩, ?_⟩)
  cases hb : p i j with
  | true =>
    rw [hb] at q
    exact wE_mono (show wE C tc y2 _ from q) fun z3 y3 ⟨m, e3, q3⟩ => ⟨_, _, e3, ⟨j, m, rfl, rfl, rfl⟩, q3⟩
  | false => rw [hb] at q; exact q
/-! arguments, displays -/
def wD (C : Ct) (ta : TA) (y : S) (Q : List D → S → Prop) : Prop := ∀ (F : Fr) σ H (K : List V → Hp → Prop), Wd C F σ y H → (∀ vs H' ds y', Wd C F σ y' H' → Go F σ y H σ y' H' → Sh y y' → RpA C.K (Mv F σ y') H' vs ds → Q ds y' → K vs H') → ta σ H K
variable {q : List D → S → Prop}
theorem wD_nil (h : q [] y) : wD C tNil y q := fun F σ H K wd k => k [] H [] y wd GoH.refl (Sh.refl y) .nil h
theorem wD_cons (w : wE C ta y fun z y1 => ∃ d, z = .d d ∧ wD C ts y1 fun ds y2 => q (d :: ds) y2) : wD C (tCons ta ts) y q := by
  intro F σ H K wd k
  refine w F σ H _ wd fun x H1 z y1 w1 g1 s1 r1 q1 => ?_
  obtain ⟨d, rfl, h⟩ := q1
  exact h F σ H1 _ w1 fun vs H2 ds y2 w2 g2 s2 r2 q2 => k (x :: vs) H2 (d :: ds) y2 w2 (g1.trans g2) (s1.trans s2) (.cons (Rp.go g2 r1) r2) q2
theorem wD_mono {q' : List D → S → Prop} (h : wD C ts y q) (e : ∀ z y', q z y' → q' z y') : wD C ts y q' := fun F σ H K w k => h F σ H K w fun vs H' z y' a b c d f => k vs H' z y' a b c d (e z y' f)
theorem wE_tup (w : wD C ts y fun ds y1 => ds.length ≤ sizeLine ∧ Q (.d (.tuple ds)) y1) : wE C (tTup ts) y Q := by
  intro F σ H K wd k
  refine w F σ H _ wd fun vs H1 ds y1 w1 g1 s1 r1 ⟨hz, q1⟩ => ⟨by rw [r1.len]; exact hz, fun p hp => ?_⟩
  have gr := grow_upd (o := .tup vs) hp
  exact k _ _ (.d (.tuple ds)) y1 (w1.grow gr) (g1.trans (go_grow gr)) s1 (.tup (.inl ⟨w1.new hp, .inl upd_same⟩) (r1.go (go_grow gr))) q1
theorem wE_lst (w : wD C ts y fun ds y1 => ds.length ≤ sizeLine ∧ Q (.d (.list ds)) y1) : wE C (tLst ts) y Q := by
  intro F σ H K wd k
  refine w F σ H _ wd fun vs H1 ds y1 w1 g1 s1 r1 ⟨hz, q1⟩ => ⟨by rw [r1.len]; exact hz, fun p hp => ?_⟩
  have gr := grow_upd (o := .lst vs) hp
  exact k _ _ (.d (.list ds)) y1 (w1.grow gr) (g1.trans (go_grow gr)) s1 (.lst (.inl ⟨w1.new hp, .inl upd_same⟩) (r1.go (go_grow gr))) q1
theorem wE_dnew (h : Q (.d (.dict [])) y) : wE C tDNewK y Q := by
  intro F σ H K wd k p hp
  have gr := grow_upd (o := .dK []) hp
  exact k _ _ (.d (.dict [])) y (wd.grow gr) (go_grow gr) (Sh.refl y) (.dic (wd.new hp) upd_same .nil) h
/-- {k: v}, one written pair of scalars -/
theorem wE_disp1 {kk : Key} {v : V} {d : D} (s : Sc v d) (h : Q (.d (.dict [(kD kk, d)])) y) : wE C (tDisp [(tC (kV kk), tC v)]) y Q := by
  intro F σ H K wd k p hp
  refine ⟨upd_same, [(kk, v)], rfl, by simp, ?_⟩
  have gr : ∀ a u, H a = some u → upd (upd H p (.dK [])) p (.dK (mergeK [] [(kk, v)])) a = some u := fun a u e => by rw [upd_upd]; exact grow_upd hp a u e
  refine k _ _ (.d (.dict [(kD kk, d)])) y (wd.grow gr) (go_grow gr) (Sh.refl y) (.dic (wd.new hp) (kvs := [(kk, v)]) ?_ (.cons s.rp .nil)) h
  rw [upd_same]
  rfl
/-! built-ins -/
def CbD (K : Fg) (r : List V → Hp → VK → Prop) (res : List D → D → Prop) : Prop := ∀ (M : Addr → Prop) (H : Hp) (xs : List V) (ds : List D) (g : D) (Q : VK), (∀ a, H a = none → ¬ M a) → RpA K M H xs ds → res ds g →
  (∀ v H', (∀ a o, H a = some o → H' a = some o) → Rp K M H' v g → Q v H') → r xs H Q
theorem wE_cb {r : List V → Hp → VK → Prop} {res : List D → D → Prop} (h : CbD C.K r res) (w : wD C ts y fun ds y1 => ∃ g, res ds g ∧ Q (.d g) y1) : wE C (tCB r ts) y Q := by
  intro F σ H K wd k
  refine w F σ H _ wd fun vs H1 ds y1 w1 g1 s1 r1 q1 => ?_
  obtain ⟨g, hres, hq⟩ := q1
  exact h (Mv F σ y1) H1 vs ds g K (fun a => w1.new) r1 hres fun v H2 gr rv => k v H2 (.d g) y1 (w1.grow gr) (g1.trans (go_grow gr)) s1 rv hq
theorem rpA1 {K : Fg} {M : Addr → Prop} {H : Hp} {vs : List V} {d : D} (r : RpA K M H vs [d]) : ∃ v, vs = [v] ∧ Rp K M H v d := by
  cases r with | cons a b => cases b; exact ⟨_, rfl, a⟩
theorem rpA2 {K : Fg} {M : Addr → Prop} {H : Hp} {vs : List V} {d e : D} (r : RpA K M H vs [d, e]) : ∃ v u, vs = [v, u] ∧ Rp K M H v d ∧ Rp K M H u e := by
  cases r with | cons a b => obtain ⟨u, rfl, h⟩ := rpA1 b; exact ⟨_, u, rfl, a, h⟩
theorem wE_abs (w : wD C ts y fun ds y1 => ∃ i, ds = [.int i] ∧ Q (.d (.int (if i < 0 then -i else i))) y1) : wE C (tCB (fun xs H Q => ∃ i, xs = [.int i] ∧ Q (.int (if i < 0 then -i else i)) H) ts) y Q := by
  refine wE_cb (res := fun ds g => ∃ i, ds = [.int i] ∧ g = .int (if i < 0 then -i else i)) ?_ (wD_mono w fun ds y1 ⟨i, e, q⟩ => ⟨_, ⟨i, e, rfl⟩, q⟩)
  rintro M H xs ds g Q _ r ⟨i, rfl, rfl⟩ k
  obtain ⟨v, rfl, rv⟩ := rpA1 r
  exact ⟨i, by rw [rp_int rv], k _ H (fun _ _ e => e) (.int _)⟩
theorem wE_max2 (w : wD C ts y fun ds y1 => ∃ i j, ds = [.int i, .int j] ∧ Q (.d (.int (if j > i then j else i))) y1) : wE C (tCB (fun xs H Q => ∃ i j, xs = [.int i, .int j] ∧ Q (.int (if j > i then j else i)) H) ts) y Q := by
  refine wE_cb (res := fun ds g => ∃ i j, ds = [.int i, .int j] ∧ g = .int (if j > i then j else i)) ?_ (wD_mono w fun ds y1 ⟨i, j, e, q⟩ => ⟨_, ⟨i, j, e, rfl⟩, q⟩)
  rintro M H xs ds g Q _ r ⟨i, j, rfl, rfl⟩ k
  obtain ⟨v, u, rfl, rv, ru⟩ := rpA2 r
  exact ⟨i, j, by rw [rp_int rv, rp_int ru], k _ H (fun _ _ e => e) (.int _)⟩
theorem wE_min2 (w : wD C ts y fun ds y1 => ∃ i j, ds = [.int i, .int j] ∧ Q (.d (.int (if j < i then j else i))) y1) : wE C (tCB (fun xs H Q => ∃ i j, xs = [.int i, .int j] ∧ Q (.int (if j < i then j else i)) H) ts) y Q := by
  refine wE_cb (res := fun ds g => ∃ i j, ds = [.int i, .int j] ∧ g = .int (if j < i then j else i)) ?_ (wD_mono w fun ds y1 ⟨i, j, e, q⟩ => ⟨_, ⟨i, j, e, rfl⟩, q⟩)
  rintro M H xs ds g Q _ r ⟨i, j, rfl, rfl⟩ k
  obtain ⟨v, u, rfl, rv, ru⟩ := rpA2 r
  exact ⟨i, j, by rw [rp_int rv, rp_int ru], k _ H (fun _ _ e => e) (.int _)⟩
theorem wE_int1 (w : wD C ts y fun ds y1 => (∃ i, ds = [.int i] ∧ Q (.d (.int i)) y1) ∨ ∃ b, ds = [.bool b] ∧ Q (.d (.int (if b then 1 else 0))) y1) :
    wE C (tCB (fun xs H Q => (∃ i, xs = [.int i] ∧ Q (.int i) H) ∨ ∃ k, xs = [.bl k] ∧ Q (.int (if k then 1 else 0)) H) ts) y Q := by
  refine wE_cb (res := fun ds g => (∃ i, ds = [.int i] ∧ g = .int i) ∨ ∃ b, ds = [.bool b] ∧ g = .int (if b then 1 else 0)) ?_ (wD_mono w fun ds y1 h => ?_)
  · rintro M H xs ds g Q _ r (⟨i, rfl, rfl⟩ | ⟨b, rfl, rfl⟩) k
    · obtain ⟨v, rfl, rv⟩ := rpA1 r
      exact .inl ⟨i, by rw [rp_int rv], k _ H (fun _ _ e => e) (.int _)⟩
    · obtain ⟨v, rfl, rv⟩ := rpA1 r
      exact .inr ⟨b, by rw [rp_bl rv], k _ H (fun _ _ e => e) (.int _)⟩
  · rcases h with ⟨i, e, q⟩ | ⟨b, e, q⟩
    · exact ⟨_, .inl ⟨i, e, rfl⟩, q⟩
    · exact ⟨_, .inr ⟨b, e, rfl⟩, q⟩
theorem wE_strI (w : wD C ts y fun ds y1 => ∃ i, ds = [.int i] ∧ i.natAbs.log2 < 1920 ∧ Q (.d (.str (toString i))) y1) : wE C (tCB (fun xs H Q => ∃ i, xs = [.int i] ∧ i.natAbs.log2 < 1920 ∧ Q (.str (toString i)) H) ts) y Q := by
  refine wE_cb (res := fun ds g => ∃ i, ds = [.int i] ∧ i.natAbs.log2 < 1920 ∧ g = .str (toString i)) ?_ (wD_mono w fun ds y1 ⟨i, e, c, q⟩ => ⟨_, ⟨i, e, c, rfl⟩, q⟩)
  rintro M H xs ds g Q _ r ⟨i, rfl, c, rfl⟩ k
  obtain ⟨v, rfl, rv⟩ := rpA1 r
  exact ⟨i, by rw [rp_int rv], c, k _ H (fun _ _ e => e) (.str _)⟩
theorem wE_intS (w : wD C ts y fun ds y1 => ∃ a n, ds = [.str a] ∧ PySem.intText? a = some n ∧ a.length ≤ 640 ∧ Q (.d (.int n)) y1) : wE C (tCB (fun xs H Q => ∃ a n, xs = [.str a] ∧ PySem.intText? a = some n ∧ a.length ≤ 640 ∧ Q (.int n) H) ts) y Q := by
  refine wE_cb (res := fun ds g => ∃ a n, ds = [.str a] ∧ PySem.intText? a = some n ∧ a.length ≤ 640 ∧ g = .int n) ?_ (wD_mono w fun ds y1 ⟨i, n, e, c, l, q⟩ => ⟨_, ⟨i, n, e, c, l, rfl⟩, q⟩)
  rintro M H xs ds g Q _ r ⟨i, n, rfl, c, l, rfl⟩ k
  obtain ⟨v, rfl, rv⟩ := rpA1 r
  exact ⟨i, n, by rw [rp_str rv], c, l, k _ H (fun _ _ e => e) (.int _)⟩
def dLen (d : D) : Option Nat := match d with
  | .str z => if z.length ≤ sizeLine then some z.length else none
  | .list xs => some xs.length
  | .tuple xs => some xs.length
  | _ => none
theorem wE_len (w : wD C ts y fun ds y1 => ∃ d n, ds = [d] ∧ dLen d = some n ∧ Q (.d (.int n)) y1) : wE C (tCB (fun xs H Q => ∃ x n, xs = [x] ∧ LenV C.K x H n ∧ Q (.int (n : Nat)) H) ts) y Q := by
  refine wE_cb (res := fun ds g => ∃ d n, ds = [d] ∧ dLen d = some n ∧ g = .int n) ?_ (wD_mono w fun ds y1 ⟨d, n, e, c, q⟩ => ⟨_, ⟨d, n, e, c, rfl⟩, q⟩)
  rintro M H xs ds g Q _ r ⟨d, n, rfl, c, rfl⟩ k
  obtain ⟨v, rfl, rv⟩ := rpA1 r
  refine ⟨v, n, rfl, ?_, k _ H (fun _ _ e => e) (.int _)⟩
  cases rv with
  | non => cases c
  | bl _ => cases c
  | int _ => cases c
  | dic _ _ _ => cases c
  | str z =>
    simp only [dLen] at c
    by_cases h : z.length ≤ sizeLine
    · rw [if_pos h] at c; cases c; exact ⟨h, rfl⟩
    · rw [if_neg h] at c; cases c
  | lst h1 h2 => cases c; exact .inl ⟨_, h1.sq, h2.len.symm⟩
  | tup h1 h2 => cases c; exact .inr ⟨_, h1.sq, h2.len.symm⟩
theorem wE_all (w : wD C ts y fun ds y1 => ∃ bs : List Bool, ds = [.list (bs.map PyData.bool)] ∧ Q (.d (.bool (bs.all id))) y1) : wE C (tCB (rAll C.K) ts) y Q := by
  refine wE_cb (res := fun ds g => ∃ bs : List Bool, ds = [.list (bs.map PyData.bool)] ∧ g = .bool (bs.all id)) ?_ (wD_mono w fun ds y1 ⟨i, e, q⟩ => ⟨_, ⟨i, e, rfl⟩, q⟩)
  rintro M H xs ds g Q _ r ⟨bs, rfl, rfl⟩ k
  obtain ⟨v, rfl, rv⟩ := rpA1 r
  obtain ⟨a, us, rfl, h1, h2⟩ := rp_lst rv
  have e := rpA_bls h2
  subst e
  exact ⟨a, bs, rfl, h1.sq, k _ H (fun _ _ e => e) (.bl _)⟩
theorem wE_any (w : wD C ts y fun ds y1 => ∃ bs : List Bool, ds = [.list (bs.map PyData.bool)] ∧ Q (.d (.bool (bs.any id))) y1) : wE C (tCB (rAny C.K) ts) y Q := by
  refine wE_cb (res := fun ds g => ∃ bs : List Bool, ds = [.list (bs.map PyData.bool)] ∧ g = .bool (bs.any id)) ?_ (wD_mono w fun ds y1 ⟨i, e, q⟩ => ⟨_, ⟨i, e, rfl⟩, q⟩)
  rintro M H xs ds g Q _ r ⟨bs, rfl, rfl⟩ k
  obtain ⟨v, rfl, rv⟩ := rpA1 r
  obtain ⟨a, us, rfl, h1, h2⟩ := rp_lst rv
  have e := rpA_bls h2
  subst e
  exact ⟨a, bs, rfl, h1.sq, k _ H (fun _ _ e => e) (.bl _)⟩
theorem wE_sum (w : wD C ts y fun ds y1 => ∃ bs : List Int, ds = [.list (bs.map PyData.int)] ∧ Q (.d (.int bs.sum)) y1) : wE C (tCB (rSum C.K) ts) y Q := by
  refine wE_cb (res := fun ds g => ∃ bs : List Int, ds = [.list (bs.map PyData.int)] ∧ g = .int bs.sum) ?_ (wD_mono w fun ds y1 ⟨i, e, q⟩ => ⟨_, ⟨i, e, rfl⟩, q⟩)
  rintro M H xs ds g Q _ r ⟨bs, rfl, rfl⟩ k
  obtain ⟨v, rfl, rv⟩ := rpA1 r
  obtain ⟨a, us, rfl, h1, h2⟩ := rp_lst rv
  have e := rpA_ints h2
  subst e
  exact ⟨a, bs, rfl, h1.sq, k _ H (fun _ _ e => e) (.int _)⟩
def dItems : D → Option (List D)
  | .list xs => some xs
  | .tuple xs => some xs
  | _ => none
theorem rp_items {K : Fg} {M : Addr → Prop} {H : Hp} {v : V} {d : D} {xs : List D} (r : Rp K M H v d) (h : dItems d = some xs) : ∃ a us, v = .ref a ∧ (LsA K M H a us ∨ TsA K M H a us) ∧ RpA K M H us xs := by
  cases r with
  | non => cases h
  | bl _ => cases h
  | int _ => cases h
  | str _ => cases h
  | dic _ _ _ => cases h
  | lst h1 h2 => cases h; exact ⟨_, _, rfl, .inl h1, h2⟩
  | tup h1 h2 => cases h; exact ⟨_, _, rfl, .inr h1, h2⟩
theorem wE_listOf (w : wD C ts y fun ds y1 => ∃ d xs, ds = [d] ∧ dItems d = some xs ∧ Q (.d (.list xs)) y1) :
    wE C (tCB (fun xs H Q => ∃ p ys, xs = [.ref p] ∧ (SqL C.K H p ys ∨ SqT C.K H p ys) ∧ ∀ l, H l = none → Q (.ref l) (upd H l (.lst ys))) ts) y Q := by
  refine wE_cb (res := fun ds g => ∃ d xs, ds = [d] ∧ dItems d = some xs ∧ g = .list xs) ?_ (wD_mono w fun ds y1 ⟨i, xs, e, c, q⟩ => ⟨_, ⟨i, xs, e, c, rfl⟩, q⟩)
  rintro M H xs ds g Q fr r ⟨d, es, rfl, c, rfl⟩ k
  obtain ⟨v, rfl, rv⟩ := rpA1 r
  obtain ⟨a, us, rfl, h1, h2⟩ := rp_items rv c
  refine ⟨a, us, rfl, h1.elim (fun z => .inl z.sq) (fun z => .inr z.sq), fun p hp => k _ _ (grow_upd hp) (.lst (.inl ⟨fr p hp, .inl upd_same⟩) (h2.go fun a o n e => ⟨n, grow_upd hp a o e⟩))⟩
theorem wE_tupOf (w : wD C ts y fun ds y1 => ∃ d xs, ds = [d] ∧ dItems d = some xs ∧ Q (.d (.tuple xs)) y1) :
    wE C (tCB (fun xs H Q => ∃ p ys, xs = [.ref p] ∧ ((SqL C.K H p ys ∧ ∀ l, H l = none → Q (.ref l) (upd H l (.tup ys))) ∨ (SqT C.K H p ys ∧ Q (.ref p) H))) ts) y Q := by
  refine wE_cb (res := fun ds g => ∃ d xs, ds = [d] ∧ dItems d = some xs ∧ g = .tuple xs) ?_ (wD_mono w fun ds y1 ⟨i, xs, e, c, q⟩ => ⟨_, ⟨i, xs, e, c, rfl⟩, q⟩)
  rintro M H xs ds g Q fr r ⟨d, es, rfl, c, rfl⟩ k
  obtain ⟨v, rfl, rv⟩ := rpA1 r
  obtain ⟨a, us, rfl, h1, h2⟩ := rp_items rv c
  refine ⟨a, us, rfl, ?_⟩
  rcases h1 with h1 | h1
  · exact .inl ⟨h1.sq, fun p hp => k _ _ (grow_upd hp) (.tup (.inl ⟨fr p hp, .inl upd_same⟩) (h2.go fun a o n e => ⟨n, grow_upd hp a o e⟩))⟩
  · exact .inr ⟨h1.sq, k _ H (fun _ _ e => e) (.tup h1 h2)⟩
theorem wE_repr (w : wD C ts y fun ds y1 => ∃ d, ds = [d] ∧ dsm d = true ∧ d.showable = true ∧ d.depth ≤ 60 ∧ d.shown.length ≤ sizeLine ∧ Q (.d (.str d.shown)) y1) : wE C (tCB (rRepr C.K) ts) y Q := by
  refine wE_cb (res := fun ds g => ∃ d, ds = [d] ∧ dsm d = true ∧ d.showable = true ∧ d.depth ≤ 60 ∧ d.shown.length ≤ sizeLine ∧ g = .str d.shown) ?_ (wD_mono w fun ds y1 ⟨d, e, c1, c2, c3, c4, q⟩ => ⟨_, ⟨d, e, c1, c2, c3, c4, rfl⟩, q⟩)
  rintro M H xs ds g Q _ r ⟨d, rfl, c1, c2, c3, c4, rfl⟩ k
  obtain ⟨v, rfl, rv⟩ := rpA1 r
  exact ⟨v, d, rfl, rv.any, c1, c2, c3, c4, k _ H (fun _ _ e => e) (.str _)⟩
/-! isinstance -/
def tyN : D → String
  | .none => "NoneType"
  | .bool _ => "bool"
  | .int _ => "int"
  | .str _ => "str"
  | .list _ => "list"
  | .tuple _ => "tuple"
  | .dict _ => "dict"
def tyNames : List String := ["NoneType", "bool", "int", "str", "list", "tuple", "dict"]
def isT (T : String) (d : D) : Bool := (kitB (tyN d) T).getD false
theorem rp_ty {K : Fg} {M : Addr → Prop} {H : Hp} {v : V} {d : D} (r : Rp K M H v d) : TyX K H v (.type (tyN d)) := by
  cases r with
  | non => exact .base .non
  | bl b => exact .base (.bl b)
  | int b => exact .base (.int b)
  | str b => exact .base (.str b)
  | lst h _ =>
    rcases h with ⟨_, h | ⟨o, h⟩⟩ | ⟨o, its, n, h1, h2, _⟩
    · exact .base (.lst h)
    · exact .base (.frz h)
    · exact .kList h1 h2
  | tup h _ =>
    rcases h with ⟨_, h | ⟨o, h⟩⟩ | ⟨o, its, n, h1, h2, _⟩
    · exact .base (.tup h)
    · exact .fTuple h
    · exact .kTuple h1 h2
  | dic _ h _ => exact .base (.dK h)
theorem kit_isT {T : String} (hT : (tyNames.all fun n => (kitB n T).isSome) = true) (d : D) : kitB (tyN d) T = some (isT T d) := by
  have h : (kitB (tyN d) T).isSome = true := by
    have z := List.all_eq_true.mp hT
    exact z (tyN d) (by cases d <;> simp [tyN, tyNames])
  unfold isT
  cases e : kitB (tyN d) T with
  | none => rw [e] at h; cases h
  | some b => rfl
theorem wE_isi {T : String} (w : wE C te y fun z y1 => ∃ d, z = .d d ∧ Q (.d (.bool (isT T d))) y1) (hT : (tyNames.all fun n => (kitB n T).isSome) = true := by decide +kernel) : wE C (tCB (rIsi C.K) (tCons te (tCons (tC (.ty T)) tNil))) y Q := by
  intro F σ H K wd k
  refine w F σ H _ wd fun x H1 z y1 w1 g1 s1 r1 q1 => ?_
  obtain ⟨d, rfl, h⟩ := q1
  exact ⟨x, .ty T, _, _, isT T d, rfl, .ty T, rp_ty r1, kit_ty (kit_isT hT d), k _ H1 (.d (.bool (isT T d))) y1 w1 g1 s1 (.bl _) h⟩
theorem wE_isi2 {T U : String} (w : wE C te y fun z y1 => ∃ d, z = .d d ∧ Q (.d (.bool (isT T d || isT U d))) y1) (hT : (tyNames.all fun n => (kitB n T).isSome) = true := by decide +kernel) (hU : (tyNames.all fun n => (kitB n U).isSome) = true := by decide +kernel) :
    wE C (tCB (rIsiT C.K) (tCons te (tCons (tTup (tCons (tC (.ty T)) (tCons (tC (.ty U)) tNil))) tNil))) y Q := by
  intro F σ H K wd k
  refine w F σ H _ wd fun x H1 z y1 w1 g1 s1 r1 q1 => ?_
  obtain ⟨d, rfl, h⟩ := q1
  refine ⟨by show 2 ≤ sizeLine; decide, fun p hp => ?_⟩
  have gr := grow_upd (o := .tup [.ty T, .ty U]) hp
  refine ⟨x, p, [.ty T, .ty U], _, [.type T, .type U], isT T d || isT U d, rfl, upd_same, .cons (.ty T) (.cons (.ty U) .nil), rp_ty (Rp.go (go_grow (F := F) (σ := σ) (y := y1) gr) r1), ?_, k _ _ (.d (.bool (isT T d || isT U d))) y1 (w1.grow gr) (g1.trans (go_grow gr)) s1 (.bl _) h⟩
  refine kitAny_cons (b := isT T d) (kit_ty (kit_isT hT d)) (fun e => ?_) (fun e => by rw [e]; rfl)
  refine kitAny_cons (b := isT U d) (kit_ty (kit_isT hU d)) (fun e2 => ?_) (fun e2 => by rw [e, e2]; rfl)
  rw [e, e2]
  rfl
/-! slices -/
variable {tl th : TO}
theorem wO_no {q : Option Int → S → Prop} (h : q none y) : wO C tNoPart y q := fun F σ H K wd k => k none H y wd GoH.refl (Sh.refl y) h
theorem wO_part {q : Option Int → S → Prop} (w : wE C te y fun z y1 => ∃ i, z = .d (.int i) ∧ q (some i) y1) : wO C (tPart te) y q := by
  intro F σ H K wd k
  refine w F σ H _ wd fun x H1 z y1 w1 g1 s1 r1 q1 => ?_
  obtain ⟨i, rfl, h⟩ := q1
  exact ⟨i, rp_int r1, k (some i) H1 y1 w1 g1 s1 h⟩
def cutD {α : Type} (xs : List α) (lo hi : Option Int) : List α := (xs.drop (HT.sIx xs.length 0 lo)).take (HT.sIx xs.length xs.length hi - HT.sIx xs.length 0 lo)
theorem rpA_cut {K : Fg} {M : Addr → Prop} {H : Hp} {vs : List V} {ds : List D} (r : RpA K M H vs ds) (lo hi : Option Int) : RpA K M H (cutV vs lo hi) (cutD ds lo hi) := by
  unfold cutV cutD
  rw [r.len]
  exact (r.drop _).take _
def dCut (d : D) (lo hi : Option Int) : Option D := match d with
  | .list xs => some (.list (cutD xs lo hi))
  | .tuple xs => some (.tuple (cutD xs lo hi))
  | .str z => if z.length ≤ sizeLine then some (.str (cutS z lo hi)) else none
  | _ => none
def rSlD (K : Fg) : V → Option Int → Option Int → Hp → VK → Prop := fun x lo hi H Q => rSlL K x lo hi H Q ∨ rSlA K x lo hi H Q ∨ rSlS x lo hi H Q
theorem cutD_whole {α : Type} (xs : List α) (lo hi : Option Int) (h : HT.sIx xs.length 0 lo = 0 ∧ HT.sIx xs.length xs.length hi = xs.length) : cutD xs lo hi = xs := by
  unfold cutD
  rw [h.1, h.2, List.drop_zero, Nat.sub_zero, List.take_length]
theorem wE_sl (w : wE C te y fun z y1 => wO C tl y1 fun l y2 => wO C th y2 fun h y3 => ∃ d g, z = .d d ∧ dCut d l h = some g ∧ Q (.d g) y3) : wE C (tSl (rSlD C.K) te tl th) y Q := by
  intro F σ H K wd k
  refine w F σ H _ wd fun x H1 z y1 w1 g1 s1 r1 q1 => ?_
  refine q1 F σ H1 _ w1 fun l H2 y2 w2 g2 s2 q2 => ?_
  refine q2 F σ H2 _ w2 fun h H3 y3 w3 g3 s3 q3 => ?_
  obtain ⟨d, g, rfl, c, hq⟩ := q3
  have r3 : Rp C.K (Mv F σ y3) H3 x d := Rp.go (g2.trans g3) r1
  have G := (g1.trans g2).trans g3
  have SS := (s1.trans s2).trans s3
  cases r3 with
  | non => cases c
  | bl _ => cases c
  | int _ => cases c
  | dic _ _ _ => cases c
  | str z =>
    simp only [dCut] at c
    by_cases hz : z.length ≤ sizeLine
    · rw [if_pos hz] at c; cases c
      exact .inr (.inr ⟨z, rfl, hz, k _ H3 (.d (.str (cutS z l h))) y3 w3 G SS (.str _) hq⟩)
    · rw [if_neg hz] at c; cases c
  | @lst a xs ds h1 h2 =>
    cases c
    refine .inl ⟨a, xs, rfl, h1.sq, fun p hp => ?_⟩
    have gr := grow_upd (o := .lst (cutV xs l h)) hp
    exact k _ _ (.d (.list (cutD ds l h))) y3 (w3.grow gr) (G.trans (go_grow gr)) SS (.lst (.inl ⟨w3.new hp, .inl upd_same⟩) ((rpA_cut h2 l h).go (go_grow gr))) hq
  | @tup a xs ds h1 h2 =>
    cases c
    refine .inr (.inl ⟨a, xs, rfl, h1.sq, fun e => ?_, fun e p hp => ?_⟩)
    · rw [h2.len] at e
      rw [cutD_whole ds l h e] at hq
      exact k _ H3 (.d (.tuple ds)) y3 w3 G SS (.tup h1 h2) hq
    · have gr := grow_upd (o := .tup (cutV xs l h)) hp
      exact k _ _ (.d (.tuple (cutD ds l h))) y3 (w3.grow gr) (G.trans (go_grow gr)) SS (.tup (.inl ⟨w3.new hp, .inl upd_same⟩) ((rpA_cut h2 l h).go (go_grow gr))) hq
/-! texts' methods -/
theorem wE_starts (w : wE C ta y fun z y1 => ∃ a, z = .d (.str a) ∧ wE C tb y1 fun z' y2 => ∃ b, z' = .d (.str b) ∧ Q (.d (.bool (Txt.startswith a b))) y2) :
    wE C (tM1 (fun x xs H Q => ∃ a b, x = .str a ∧ xs = [.str b] ∧ Q (.bl (Txt.startswith a b)) H) ta tb) y Q := by
  intro F σ H K wd k
  refine w F σ H _ wd fun x H1 z y1 w1 g1 s1 r1 q1 => ?_
  obtain ⟨a, rfl, q1⟩ := q1
  have e := rp_str r1
  subst e
  refine ⟨⟨a, rfl⟩, q1 F σ H1 _ w1 fun x2 H2 z' y2 w2 g2 s2 r2 q2 => ?_⟩
  obtain ⟨b, rfl, hq⟩ := q2
  exact ⟨a, b, rfl, by rw [rp_str r2], k _ H2 (.d (.bool _)) y2 w2 (g1.trans g2) (s1.trans s2) (.bl _) hq⟩
theorem wE_join (w : wE C ta y fun z y1 => ∃ a, z = .d (.str a) ∧ wE C tb y1 fun z' y2 => ∃ (d : D) (ys : List Str), z' = .d d ∧ dItems d = some (ys.map PyData.str) ∧ (ys.map (·.length)).sum + ys.length * a.length ≤ 16777216 ∧ Q (.d (.str (Txt.join a ys))) y2) :
    wE C (tM1 (fun x xs H Q => ∃ a p, ∃ ys : List Str, x = .str a ∧ xs = [.ref p] ∧ (SqL C.K H p (ys.map V.str) ∨ SqT C.K H p (ys.map V.str)) ∧ (ys.map (·.length)).sum + ys.length * a.length ≤ 16777216 ∧ Q (.str (Txt.join a ys)) H) ta tb) y Q := by
  intro F σ H K wd k
  refine w F σ H _ wd fun x H1 z y1 w1 g1 s1 r1 q1 => ?_
  obtain ⟨a, rfl, q1⟩ := q1
  have e := rp_str r1
  subst e
  refine ⟨⟨a, rfl⟩, q1 F σ H1 _ w1 fun x2 H2 z' y2 w2 g2 s2 r2 q2 => ?_⟩
  obtain ⟨d, ys, rfl, hi, hz, hq⟩ := q2
  obtain ⟨p, us, rfl, h1, h2⟩ := rp_items r2 hi
  have e := rpA_strs h2
  subst e
  exact ⟨a, p, ys, rfl, rfl, h1.elim (fun z => .inl z.sq) (fun z => .inr z.sq), hz, k _ H2 (.d (.str _)) y2 w2 (g1.trans g2) (s1.trans s2) (.str _) hq⟩
end
end Tq

set_option maxRecDepth 100000
set_option maxHeartbeats 2000000
namespace Tq
open PySem PySem.Spec PyProof.Rows L2
section
variable {C : Ct} {y : S} {ta tb tc te : TE} {t u : TT} {tx tz : TS} {ts : TA} {e : En} {R : Bool → S → Prop}
theorem EnOk.go {σ σ' : St} {y' : S} {H H' : Hp} {E : Ends} (k : EnOk C F σ y H e E) (g : Go F σ y H σ' y' H') : EnOk C F σ' y' H' e E :=
  ⟨fun a b c w g2 q => k.nx a b c w (g.trans g2) q, fun a b c d f w g2 r q => k.rt a b c d f w (g.trans g2) r q, fun a b c w g2 q => k.bk a b c w (g.trans g2) q, fun a b c w g2 q => k.ct a b c w (g.trans g2) q⟩
theorem wS_seq (w : wS C tx y { e with nx := fun y1 => wS C tz y1 e }) : wS C (tSeq tx tz) y e := by
  intro F σ H E st wd k
  refine w F σ H _ st wd ⟨fun σ1 H1 y1 w1 g1 q => ?_, k.rt, k.bk, k.ct⟩
  exact q F σ1 H1 E st w1 (k.go g1)
theorem wS_next (h : e.nx y) : wS C tNext y e := fun F σ H E st wd k => k.nx σ H y wd GoH.refl h
theorem wS_ret (w : wE C te y fun z y1 => e.rt z y1) : wS C (tRet te) y e := by
  intro F σ H E st wd k
  exact w F σ H _ wd fun v H1 z y1 w1 g1 s1 r1 q => k.rt σ v H1 z y1 w1 g1 r1 q
theorem wS_retN (h : e.rt (.d .none) y) : wS C tRetN y e := fun F σ H E st wd k => k.rt σ .non H (.d .none) y wd GoH.refl .non h
theorem wS_drop (w : wE C te y fun z y1 => e.nx y1) : wS C (tDrop te) y e := by
  intro F σ H E st wd k
  exact w F σ H _ wd fun v H1 z y1 w1 g1 s1 r1 q => k.nx σ H1 y1 w1 g1 q
theorem wS_asg {i : Nat} (w : wE C te y fun z y1 => ∃ d, z = .d d ∧ e.nx (y1.set i (some (.d d)))) (hp : i ≠ 0 ∨ C.pp = false := by first | exact Or.inr rfl | exact Or.inl (by decide)) : wS C (tAsg te (gName i)) y e := by
  intro F σ H E st wd k
  refine w F σ H _ wd fun v H1 z y1 w1 g1 s1 r1 q => ?_
  obtain ⟨d, rfl, q⟩ := q
  exact k.nx _ H1 _ (w1.set_d hp r1) (g1.trans go_set_d) q
theorem wS_if (w : wT C t y fun b y1 => if b = true then wS C tx y1 e else wS C tz y1 e) : wS C (tIfS t tx tz) y e := by
  intro F σ H E st wd k
  refine w F σ H _ wd fun b H1 y1 w1 g1 s1 q => ?_
  cases b with
  | true => exact q F σ H1 E st w1 (k.go g1)
  | false => exact q F σ H1 E st w1 (k.go g1)
theorem wS_par {i j : Nat} (w : wD C ts y fun ds y1 => ∃ d g, ds = [d, g] ∧ e.nx ((y1.set i (some (.d d))).set j (some (.d g)))) (hp : i ≠ 0 ∨ C.pp = false := by first | exact Or.inr rfl | exact Or.inl (by decide)) (hq : j ≠ 0 ∨ C.pp = false := by first | exact Or.inr rfl | exact Or.inl (by decide)) : wS C (tPar i j ts) y e := by
  intro F σ H E st wd k
  refine w F σ H _ wd fun vs H1 ds y1 w1 g1 s1 r1 q => ?_
  obtain ⟨d, g, rfl, q⟩ := q
  obtain ⟨v, u, rfl, rv, ru⟩ := rpA2 r1
  refine ⟨v, u, rfl, k.nx _ H1 _ ((w1.set_d hp rv).set_d hq (ru.go go_set_d)) ((g1.trans go_set_d).trans go_set_d) q⟩
theorem wS_aug {i : Nat} {f : Int → Int → Int} {a : Int} (hx : y[i]? = some (some (.d (.int a)))) (w : wE C te y fun z y1 => ∃ b, z = .d (.int b) ∧ e.nx (y1.set i (some (.d (.int (f a b)))))) (hp : i ≠ 0 ∨ C.pp = false := by first | exact Or.inr rfl | exact Or.inl (by decide)) : wS C (tAug i te (ipI f)) y e := by
  intro F σ H E st wd k
  obtain ⟨x, h1, h2⟩ := wd.slot i _ hx
  refine ⟨x, h1, w F σ H _ wd fun v H1 z y1 w1 g1 s1 r1 q => ?_⟩
  obtain ⟨b, rfl, q⟩ := q
  exact ⟨a, b, rp_int h2, rp_int r1, k.nx _ H1 _ (w1.set_d hp (.int _)) (g1.trans go_set_d) q⟩
theorem wS_mono {e' : En} (h : wS C tx y e) (h1 : ∀ y, e.nx y → e'.nx y) (h2 : ∀ z y, e.rt z y → e'.rt z y) (h3 : ∀ y, e.bk y → e'.bk y) (h4 : ∀ y, e.ct y → e'.ct y) : wS C tx y e' := fun F σ H E st wd k =>
  h F σ H E st wd ⟨fun a b c w g q => k.nx a b c w g (h1 _ q), fun a b c d f w g r q => k.rt a b c d f w g r (h2 _ _ q), fun a b c w g q => k.bk a b c w g (h3 _ q), fun a b c w g q => k.ct a b c w g (h4 _ q)⟩
/-! ### the usual pairs -/
theorem wS_seqA {i : Nat} (w : wE C te y fun z y1 => ∃ d, z = .d d ∧ wS C tz (y1.set i (some (.d d))) e) (hp : i ≠ 0 ∨ C.pp = false := by first | exact Or.inr rfl | exact Or.inl (by decide)) : wS C (tSeq (tAsg te (gName i)) tz) y e := wS_seq (wS_asg w hp)
theorem wS_seqP {i j : Nat} (w : wD C ts y fun ds y1 => ∃ d g, ds = [d, g] ∧ wS C tz ((y1.set i (some (.d d))).set j (some (.d g))) e) (hp : i ≠ 0 ∨ C.pp = false := by first | exact Or.inr rfl | exact Or.inl (by decide)) (hq : j ≠ 0 ∨ C.pp = false := by first | exact Or.inr rfl | exact Or.inl (by decide)) : wS C (tSeq (tPar i j ts) tz) y e := wS_seq (wS_par w hp hq)
theorem wS_seqI (w : wT C t y fun b y1 => if b = true then wS C tx y1 { nx := fun y2 => wS C tz y2 e, rt := e.rt, bk := e.bk, ct := e.ct } else wS C tz y1 e) : wS C (tSeq (tIfS t tx tNext) tz) y e := by
  refine wS_seq (wS_if (wT_mono w fun b y1 h => ?_))
  cases b with
  | true => exact h
  | false => exact wS_next h
theorem wS_ifN (w : wT C t y fun b y1 => if b = true then wS C tx y1 e else e.nx y1) : wS C (tIfS t tx tNext) y e := by
  refine wS_if (wT_mono w fun b y1 h => ?_)
  cases b with
  | true => exact h
  | false => exact wS_next h
/-! ### what is walked -/
def JOk (C : Ct) (F : Fr) (J : It) (σ : St) (y : S) (H : Hp) (xs : List D) : Prop := ∀ (F1 : Fr) σ1 y1 H1, Wd C F1 σ1 y1 H1 → GoH (Mv F σ y) H (Mv F1 σ1 y1) H1 → ∀ i : Nat, (i < xs.length → J.go i H1) ∧ (xs.length ≤ i → J.stop i H1) ∧
  ∀ x, xs[i]? = some x → ∀ v H2, J.yld i H1 v H2 → (∀ a o, H1 a = some o → H2 a = some o) ∧ Rp C.K (Mv F1 σ1 y1) H2 v x
def wI (C : Ct) (wi : TI) (y : S) (Q : List D → S → Prop) : Prop := ∀ (F : Fr) σ H (R : It → Hp → Prop), Wd C F σ y H → (∀ J H' xs y', Wd C F σ y' H' → Go F σ y H σ y' H' → Sh y y' → JOk C F J σ y' H' xs → Q xs y' → R J H') → wi σ H R
variable {Qi : List D → S → Prop} {wi : TI}
theorem wI_list (w : wE C te y fun z y1 => ∃ xs, z = .d (.list xs) ∧ Qi xs y1) : wI C (iList C.K te) y Qi := by
  intro F σ H R wd k
  refine w F σ H _ wd fun v H1 z y1 w1 g1 s1 r1 q => ?_
  obtain ⟨xs, rfl, q⟩ := q
  obtain ⟨a, us, rfl, h1, h2⟩ := rp_lst r1
  refine ⟨a, rfl, ⟨us, h1.sq⟩, k _ H1 xs y1 w1 g1 s1 (fun F1 σ2 y2 H2 w2 g2 i => ?_) q⟩
  have e1 := (h1.go g2).sq
  have e2 := h2.go g2
  refine ⟨fun hi => ?_, fun hi => ⟨us, e1, by rw [h2.len]; exact hi⟩, fun x hx v H3 hy => ?_⟩
  · have : i < us.length := by rw [h2.len]; exact hi
    exact ⟨us, us[i], e1, by simp [this]⟩
  · obtain ⟨rfl, hv⟩ := hy
    obtain ⟨d, hd, rd⟩ := e2.getV (hv us e1)
    rw [hx] at hd
    cases hd
    exact ⟨fun _ _ e => e, rd⟩
theorem wI_tup (w : wE C te y fun z y1 => ∃ xs, z = .d (.tuple xs) ∧ Qi xs y1) : wI C (iTup C.K te) y Qi := by
  intro F σ H R wd k
  refine w F σ H _ wd fun v H1 z y1 w1 g1 s1 r1 q => ?_
  obtain ⟨xs, rfl, q⟩ := q
  obtain ⟨a, us, rfl, h1, h2⟩ := rp_tup r1
  refine ⟨a, rfl, ⟨us, h1.sq⟩, k _ H1 xs y1 w1 g1 s1 (fun F1 σ2 y2 H2 w2 g2 i => ?_) q⟩
  have e1 := (h1.go g2).sq
  have e2 := h2.go g2
  refine ⟨fun hi => ?_, fun hi => ⟨us, e1, by rw [h2.len]; exact hi⟩, fun x hx v H3 hy => ?_⟩
  · have : i < us.length := by rw [h2.len]; exact hi
    exact ⟨us, us[i], e1, by simp [this]⟩
  · obtain ⟨rfl, hv⟩ := hy
    obtain ⟨d, hd, rd⟩ := e2.getV (hv us e1)
    rw [hx] at hd
    cases hd
    exact ⟨fun _ _ e => e, rd⟩
/-- the signs of a text -/
def signs (z : Str) : List D := z.cps.toList.map fun c => .str ⟨#[c]⟩
theorem signs_len (z : Str) : (signs z).length = z.cps.size := by unfold signs; rw [List.length_map, Array.length_toList]
theorem wI_str (w : wE C te y fun z y1 => ∃ x, z = .d (.str x) ∧ Qi (signs x) y1) : wI C (iStr te) y Qi := by
  intro F σ H R wd k
  refine w F σ H _ wd fun v H1 z y1 w1 g1 s1 r1 q => ?_
  obtain ⟨x, rfl, q⟩ := q
  refine ⟨x, rp_str r1, k _ H1 (signs x) y1 w1 g1 s1 (fun F1 σ2 y2 H2 w2 g2 i => ⟨fun hi => ?_, fun hi => ?_, fun d hd v H3 hy => ?_⟩) q⟩
  · rw [signs_len] at hi; exact hi
  · rw [signs_len] at hi; exact hi
  · obtain ⟨rfl, c, hc, rfl⟩ := hy
    refine ⟨fun _ _ e => e, ?_⟩
    unfold signs at hd
    rw [List.getElem?_map, Array.getElem?_toList, hc] at hd
    cases hd
    exact .str _
def rangeD (lo : Int) (n : Nat) : List D := (List.range n).map fun k => .int (lo + (k : Nat))
theorem rangeD_len (lo : Int) (n : Nat) : (rangeD lo n).length = n := by unfold rangeD; rw [List.length_map, List.length_range]
theorem rangeD_get {lo : Int} {n i : Nat} {x : D} (h : (rangeD lo n)[i]? = some x) : i < n ∧ x = .int (lo + (i : Nat)) := by
  have hl : i < n := by have := (List.getElem?_eq_some_iff.mp h).1; rwa [rangeD_len] at this
  unfold rangeD at h
  rw [List.getElem?_map, List.getElem?_range hl] at h
  cases h
  exact ⟨hl, rfl⟩
theorem wI_rng1 (w : wD C ts y fun ds y1 => ∃ j : Int, ds = [.int j] ∧ -(2 ^ 62) ≤ j ∧ j < 2 ^ 62 ∧ Qi (rangeD 0 j.toNat) y1) : wI C (iRng1 ts) y Qi := by
  intro F σ H R wd k
  refine w F σ H _ wd fun vs H1 ds y1 w1 g1 s1 r1 q => ?_
  obtain ⟨j, rfl, h1, h2, q⟩ := q
  obtain ⟨v, rfl, rv⟩ := rpA1 r1
  have e := rp_int rv
  subst e
  refine ⟨j, rfl, h1, h2, k _ H1 _ y1 w1 g1 s1 (fun F1 σ2 y2 H2 w2 g2 i => ⟨fun hi => ?_, fun hi => ?_, fun d hd v H3 hy => ?_⟩) q⟩
  · rw [rangeD_len] at hi; exact hi
  · rw [rangeD_len] at hi; exact hi
  · obtain ⟨rfl, rfl⟩ := hy
    obtain ⟨_, rfl⟩ := rangeD_get hd
    exact ⟨fun _ _ e => e, .int _⟩
theorem wI_rng2 (w : wD C ts y fun ds y1 => ∃ i j : Int, ds = [.int i, .int j] ∧ (-(2 ^ 62) ≤ i ∧ i < 2 ^ 62 ∧ -(2 ^ 62) ≤ j ∧ j < 2 ^ 62) ∧ Qi (rangeD i (j - i).toNat) y1) : wI C (iRng2 ts) y Qi := by
  intro F σ H R wd k
  refine w F σ H _ wd fun vs H1 ds y1 w1 g1 s1 r1 q => ?_
  obtain ⟨i0, j, rfl, h1, q⟩ := q
  obtain ⟨v, u, rfl, rv, ru⟩ := rpA2 r1
  have e := rp_int rv
  have e' := rp_int ru
  subst e e'
  refine ⟨i0, j, rfl, h1, k _ H1 _ y1 w1 g1 s1 (fun F1 σ2 y2 H2 w2 g2 i => ⟨fun hi => ?_, fun hi => ?_, fun d hd v H3 hy => ?_⟩) q⟩
  · rw [rangeD_len] at hi; exact hi
  · rw [rangeD_len] at hi; exact hi
  · obtain ⟨rfl, rfl⟩ := hy
    obtain ⟨_, rfl⟩ := rangeD_get hd
    exact ⟨fun _ _ e => e, .int _⟩
/-! ### for, while -/
/-- the target takes a datum -/
def wG (C : Ct) (g : TG) (d : D) (y : S) (Q : S → Prop) : Prop := ∀ (F : Fr) σ H (v : V) (R : St → Hp → Prop), Wd C F σ y H → Rp C.K (Mv F σ y) H v d → (∀ σ' y', Wd C F σ' y' H → Go F σ y H σ' y' H → Q y' → R σ' H) → g v σ H R
variable {g : TG} {Qg : S → Prop}
theorem wG_name {i : Nat} {d : D} (h : Qg (y.set i (some (.d d)))) (hp : i ≠ 0 ∨ C.pp = false := by first | exact Or.inr rfl | exact Or.inl (by decide)) : wG C (gName i) d y Qg := fun F σ H v R wd r k => k _ _ (wd.set_d hp r) go_set_d h
def wGs (C : Ct) (g : TGs) (ds : List D) (y : S) (Q : S → Prop) : Prop := ∀ (F : Fr) σ H (vs : List V) (R : St → Hp → Prop), Wd C F σ y H → RpA C.K (Mv F σ y) H vs ds → (∀ σ' y', Wd C F σ' y' H → Go F σ y H σ' y' H → Q y' → R σ' H) → g vs σ H R
theorem wGs_nil (h : Qg y) : wGs C gNil [] y Qg := fun F σ H vs R wd r k => by
  cases r
  exact ⟨rfl, k σ y wd GoH.refl h⟩
theorem wGs_cons {gs : TGs} {d : D} {ds : List D} (h : wG C g d y fun y1 => wGs C gs ds y1 Qg) : wGs C (gCons g gs) (d :: ds) y Qg := fun F σ H vs R wd r k => by
  cases r with
  | @cons v _ vs _ r1 r2 =>
    refine ⟨v, vs, rfl, h F σ H v _ wd r1 fun σ1 y1 w1 g1 q1 => ?_⟩
    exact q1 F σ1 H vs R w1 (r2.go g1) fun σ2 y2 w2 g2 q2 => k σ2 y2 w2 (g1.trans g2) q2
theorem wG_tup {n : Nat} {gs : TGs} {ds : List D} (hn : ds.length = n) (h : wGs C gs ds y Qg) : wG C (gTup C.K n gs) (.tuple ds) y Qg := fun F σ H v R wd r k => by
  obtain ⟨a, us, rfl, h1, h2⟩ := rp_tup r
  exact ⟨a, us, rfl, h1.sq, by rw [h2.len]; exact hn, h F σ H us R wd h2 k⟩
theorem wS_asgG (w : wE C te y fun z y1 => ∃ d, z = .d d ∧ wG C g d y1 e.nx) : wS C (tAsg te g) y e := by
  intro F σ H E st wd k
  refine w F σ H _ wd fun v H1 z y1 w1 g1 s1 r1 q => ?_
  obtain ⟨d, rfl, q⟩ := q
  exact q F σ H1 v _ w1 r1 fun σ2 y2 w2 g2 q2 => k.nx σ2 H1 y2 w2 (g1.trans g2) q2
theorem wS_for (w : wI C wi y fun xs y1 => ∃ I : Nat → S → Prop, I 0 y1 ∧ (∀ i x y2, xs[i]? = some x → I i y2 → wG C g x y2 fun y3 => wS C tx y3 { nx := I (i + 1), ct := I (i + 1), bk := e.nx, rt := e.rt }) ∧ (∀ y2, I xs.length y2 → e.nx y2)) :
    wS C (tFor wi g tx) y e := by
  intro F σ H E st wd k
  refine w F σ H _ wd fun J H1 xs y1 w1 g1 s1 hJ ⟨I, h0, hs, hd⟩ => ?_
  refine ⟨fun i m σ2 H2 => m = xs.length - i ∧ i ≤ xs.length ∧ ∃ y2, Wd C F σ2 y2 H2 ∧ Go F σ y1 H1 σ2 y2 H2 ∧ I i y2, ⟨xs.length, by simp, Nat.zero_le _, y1, w1, GoH.refl, h0⟩, ?_⟩
  rintro i m σ2 H2 ⟨rfl, hi, y2, w2, g2, hI⟩
  obtain ⟨j1, j2, j3⟩ := hJ F σ2 y2 H2 w2 g2 i
  by_cases hlt : i < xs.length
  · refine .inr ⟨j1 hlt, fun σ3 H3 => ∃ y3, Wd C F σ3 y3 H3 ∧ Go F σ y1 H1 σ3 y3 H3 ∧ I (i + 1) y3, fun σ3 H3 ⟨y3, w3, g3, h3⟩ => ⟨xs.length - (i + 1), by omega, rfl, hlt, y3, w3, g3, h3⟩, fun v H3 hy => ?_⟩
    have ex : xs[i]? = some xs[i] := List.getElem?_eq_getElem hlt
    obtain ⟨gr, rv⟩ := j3 _ ex v H3 hy
    have w3 := w2.grow gr
    have g3 := g2.trans (go_grow (F := F) (σ := σ2) (y := y2) gr)
    refine hs i _ y2 ex hI F σ2 H3 v _ w3 rv fun σ4 y4 w4 g4 q4 => ?_
    refine q4 F σ4 H3 _ st w4 ⟨fun σ5 H5 y5 w5 g5 q5 => ⟨y5, w5, (g3.trans g4).trans g5, q5⟩, fun σ5 v5 H5 z5 y5 w5 g5 r5 q5 => k.rt σ5 v5 H5 z5 y5 w5 (((g1.trans g3).trans g4).trans g5) r5 q5,
      fun σ5 H5 y5 w5 g5 q5 => k.nx σ5 H5 y5 w5 (((g1.trans g3).trans g4).trans g5) q5, fun σ5 H5 y5 w5 g5 q5 => ⟨y5, w5, (g3.trans g4).trans g5, q5⟩⟩
  · have ei : i = xs.length := by omega
    subst ei
    exact .inl ⟨j2 (Nat.le_refl _), k.nx σ2 H2 y2 w2 (g1.trans g2) (hd y2 hI)⟩
/-- W: a word of the slots, with a measure -/
theorem wS_while (W : Nat → S → Prop) (h0 : ∃ m, W m y) (hs : ∀ m y1, W m y1 → wT C t y1 fun b y2 => if b = true then wS C tx y2 { nx := fun y3 => ∃ m', m' < m ∧ W m' y3, ct := fun y3 => ∃ m', m' < m ∧ W m' y3, bk := e.nx, rt := e.rt } else e.nx y2) :
    wS C (tWhile t tx) y e := by
  intro F σ H E st wd k
  obtain ⟨m0, h0⟩ := h0
  refine ⟨fun m σ1 H1 => ∃ y1, Wd C F σ1 y1 H1 ∧ Go F σ y H σ1 y1 H1 ∧ W m y1, ⟨m0, y, wd, GoH.refl, h0⟩, ?_⟩
  rintro m σ1 H1 ⟨y1, w1, g1, hw⟩
  refine hs m y1 hw F σ1 H1 _ w1 fun b H2 y2 w2 g2 s2 q => ?_
  cases b with
  | true =>
    refine ⟨fun σ3 H3 => ∃ m', m' < m ∧ ∃ y3, Wd C F σ3 y3 H3 ∧ Go F σ y H σ3 y3 H3 ∧ W m' y3, fun σ3 H3 ⟨m', hm, z⟩ => ⟨m', hm, z⟩, ?_⟩
    exact q F σ1 H2 _ st w2 ⟨fun σ5 H5 y5 w5 g5 ⟨m', hm, q5⟩ => ⟨m', hm, y5, w5, (g1.trans g2).trans g5, q5⟩, fun σ5 v5 H5 z5 y5 w5 g5 r5 q5 => k.rt σ5 v5 H5 z5 y5 w5 ((g1.trans g2).trans g5) r5 q5,
      fun σ5 H5 y5 w5 g5 q5 => k.nx σ5 H5 y5 w5 ((g1.trans g2).trans g5) q5, fun σ5 H5 y5 w5 g5 ⟨m', hm, q5⟩ => ⟨m', hm, y5, w5, (g1.trans g2).trans g5, q5⟩⟩
  | false => exact k.nx σ1 H2 y2 w2 (g1.trans g2) q
end
end Tq

set_option maxRecDepth 100000
set_option maxHeartbeats 2000000
namespace Tq
open PySem PySem.Spec PyProof.Rows L2
section
variable {C : Ct} {F : Fr} {σ : St} {y y' : S} {H H' : Hp}
theorem isO_none {j i : Nat} (h : isO (y.set j none) i = true) : i ≠ j ∧ isO y i = true := by
  rcases isO_set h with ⟨_, _, z, e, _⟩ | h | ⟨e, l⟩
  · cases e
  · exact h
  · have := isO_lt h; rw [List.length_set] at this; omega
theorem isO_none' {j i : Nat} (n : i ≠ j) : isO (y.set j none) i = isO y i := by
  unfold isO
  rw [List.getElem?_set_ne (Ne.symm n)]
theorem sh_none {j : Nat} (h : isO y j = false) : Sh y (y.set j none) := fun i => by
  by_cases e : i = j
  · subst e
    rw [h]
    cases q : isO (y.set i none) i with
    | false => rfl
    | true => exact absurd rfl (isO_none q).1
  · exact isO_none' e
/-- a slot is forgotten, its value may be another one -/
theorem Wd.unset (w : Wd C F σ y H) {j : Nat} {τ : St} (hl : τ.length = σ.length) (hτ : ∀ i, i ≠ j → τ[i]? = σ[i]?) (hp : j ≠ 0 ∨ C.pp = false) : Wd C F τ (y.set j none) H ∧ Go F σ y H τ (y.set j none) H := by
  have own : ∀ a, Own τ (y.set j none) a → Own σ y a := by
    rintro a ⟨i, hi, e⟩
    obtain ⟨n, o⟩ := isO_none hi
    rw [hτ i n] at e
    exact ⟨i, o, e⟩
  have g : Go F σ y H τ (y.set j none) H := fun a o n e => ⟨fun z => n (z.elim .inl fun z => .inr (own a z)), e⟩
  refine ⟨⟨w.keep, w.live0, w.live, by rw [hl, List.length_set]; exact w.len, fun i z e => ?_, fun i k a h1 h2 e1 e2 => ?_, fun a h => w.frsh a (own a h), fun e => ?_, w.sm, fun st i a h e s => ?_⟩, g⟩
  · have n : i ≠ j := by
      rintro rfl
      have hl := (List.getElem?_eq_some_iff.mp e).1
      rw [List.length_set] at hl
      rw [List.getElem?_set_self hl] at e
      cases e
    rw [List.getElem?_set_ne (Ne.symm n)] at e
    rw [hτ i n]
    have s := w.slot i z e
    cases z with
    | d d => obtain ⟨x, h1, h2⟩ := s; exact ⟨x, h1, h2.go g⟩
    | pu n => exact s
    | own ds => obtain ⟨a, xs, h1, h2, h3⟩ := s; exact ⟨a, xs, h1, h2, h3.go g⟩
  · obtain ⟨n1, o1⟩ := isO_none h1
    obtain ⟨n2, o2⟩ := isO_none h2
    rw [hτ i n1] at e1
    rw [hτ k n2] at e2
    exact w.dist i k a o1 o2 e1 e2
  · rcases hp with hp | hp
    · rw [hτ 0 (Ne.symm hp)]; exact w.pin e
    · rw [hp] at e; cases e
  · obtain ⟨n1, o1⟩ := isO_none h
    rw [hτ i n1] at e
    exact w.nb st i a o1 e s
theorem own_sh (s : Sh y y') {a : Addr} : Own σ y' a ↔ Own σ y a := by
  constructor
  · rintro ⟨i, hi, e⟩; exact ⟨i, by rw [← s i]; exact hi, e⟩
  · rintro ⟨i, hi, e⟩; exact ⟨i, by rw [s i]; exact hi, e⟩
theorem own_live (w : Wd C F σ y H) {a : Addr} (h : Own σ y a) : H a ≠ none := fun e => w.new e (.inr h)
/-- a frame within, at the heap as it stands: what is owned may change; l is apart -/
def sub (F : Fr) (σ : St) (y : S) (H : Hp) (l : Addr) : Fr := ⟨H, Own σ y, fun a => Mv F σ y a ∨ a = l, F.p, false⟩
theorem sub_mv {l a : Addr} {H0 : Hp} {u : S} (s : Sh u y) : Mv (sub F σ u H0 l) σ y a ↔ (Mv F σ u a ∨ a = l) := by
  constructor
  · rintro (z | z)
    · exact z
    · exact .inl (.inr ((own_sh s).mp z))
  · exact .inl
theorem slots_go {M : Addr → Prop} {z : Y} {v : Option (Option V)} (g : GoH (Mv F σ y) H M H') (hk : ∀ a o, v = some (some (.ref a)) → z.o = true → H a = some o → H' a = some o) (s : SlotOk C.K (Mv F σ y) H v z) : SlotOk C.K M H' v z := by
  cases z with
  | d d => obtain ⟨x, h1, h2⟩ := s; exact ⟨x, h1, h2.go g⟩
  | pu n => obtain ⟨b, h1, x, c, d, h2, h3⟩ := s; exact ⟨b, h1, x, c, d, hk _ _ h1 rfl h2, h3⟩
  | own ds => obtain ⟨b, xs, h1, h2, h3⟩ := s; exact ⟨b, xs, h1, hk _ _ h1 rfl h2, h3.go g⟩
theorem Wd.into (w : Wd C F σ y H) {l : Addr} {o : HO} (h : H l = none) : Wd C (sub F σ y (upd H l o) l) σ y (upd H l o) := by
  have nl : ¬ Mv F σ y l := w.new h
  have g : GoH (Mv F σ y) H (Mv (sub F σ y (upd H l o) l) σ y) (upd H l o) := fun a u n e => by
    have ne : a ≠ l := ne_of_none e h
    exact ⟨fun z => ((sub_mv (Sh.refl y)).mp z).elim n ne, by rw [upd_ne ne]; exact e⟩
  have lv : ∀ a, (Mv F σ y a ∨ a = l) → upd H l o a ≠ none := by
    rintro a (z | z) e
    · by_cases ha : a = l
      · exact nl (ha ▸ z)
      · rw [upd_ne ha] at e
        rcases z with z | z
        · exact w.live a z e
        · exact own_live w z e
    · rw [z, upd_same] at e; cases e
  exact ⟨fun a u _ e => e, lv, lv, w.len, fun i z e => slots_go g (fun a u _ _ e => grow_upd h a u e) (w.slot i z e), w.dist, fun a ha => .inl ha, w.pin, fun a z => .inl (.inr z), fun q => nomatch q⟩
/-- the frame within, with l written, at the heap as it stands then -/
theorem Wd.reb {u : S} {H0 : Hp} {l : Addr} {o : HO} (w : Wd C (sub F σ u H0 l) σ y H) (s : Sh u y) (nl : ¬ Own σ u l) : Wd C (sub F σ u (upd H l o) l) σ y (upd H l o) := by
  have g : GoH (Mv (sub F σ u H0 l) σ y) H (Mv (sub F σ u (upd H l o) l) σ y) (upd H l o) := fun a v n e => by
    have ne : a ≠ l := fun z => n ((sub_mv s).mpr (.inr z))
    exact ⟨fun z => n ((sub_mv s).mpr ((sub_mv s).mp z)), by rw [upd_ne ne]; exact e⟩
  have lv : ∀ a, (Mv F σ u a ∨ a = l) → upd H l o a ≠ none := fun a z e => by
    by_cases ha : a = l
    · rw [ha, upd_same] at e; cases e
    · rw [upd_ne ha] at e; exact w.live a z e
  refine ⟨fun a v _ e => e, lv, lv, w.len, fun i z e => slots_go g (fun a v e1 e2 e3 => ?_) (w.slot i z e), w.dist, fun a ha => .inl ((own_sh s).mp ha), w.pin, fun a z => .inl (.inr z), fun q => nomatch q⟩
  have ne : a ≠ l := by
    rintro rfl
    exact nl ((own_sh s).mp ⟨i, by unfold isO; rw [e]; exact e2, e1⟩)
  rw [upd_ne ne]; exact e3
theorem Wd.regrow {u : S} {H0 : Hp} {l : Addr} (w : Wd C (sub F σ u H0 l) σ y H) (s : Sh u y) (gr : ∀ a o, H a = some o → H' a = some o) : Wd C (sub F σ u H' l) σ y H' := by
  have w2 := w.grow gr
  exact ⟨fun a v _ e => e, w2.live, w2.live, w2.len, w2.slot, w2.dist, fun a ha => .inl ((own_sh s).mp ha), w2.pin, fun a z => .inl (.inr z), fun q => nomatch q⟩
theorem Wd.outOf {u : S} {H0 H2 : Hp} {l : Addr} (w : Wd C F σ u H) (h : H l = none) (w2 : Wd C (sub F σ u H0 l) σ y H2) (s : Sh u y) (kp : ∀ a o, ¬ Own σ u a → H a = some o → H2 a = some o) :
    Wd C F σ y H2 ∧ Go F σ u H σ y H2 ∧ ¬ Mv F σ y l ∧ GoH (Mv (sub F σ u H0 l) σ y) H2 (Mv F σ y) H2 ∧ GoH (Mv F σ u) H (Mv (sub F σ u H0 l) σ y) H2 := by
  have nl : ¬ Mv F σ u l := w.new h
  have mv : ∀ a, Mv F σ y a ↔ Mv F σ u a := fun a => ⟨fun z => z.elim .inl fun z => .inr ((own_sh s).mp z), fun z => z.elim .inl fun z => .inr ((own_sh s).mpr z)⟩
  have gd : GoH (Mv (sub F σ u H0 l) σ y) H2 (Mv F σ y) H2 := fun a v n e => ⟨fun z => n ((sub_mv s).mpr (.inl ((mv a).mp z))), e⟩
  have st : ∀ a o, ¬ Mv F σ u a → H a = some o → H2 a = some o := fun a o n e => kp a o (fun z => n (.inr z)) e
  refine ⟨⟨fun a v n e => ?_, w.live0, fun a m => w2.live a (.inl (.inl m)), w2.len, fun i z e => slots_go gd (fun _ _ _ _ e => e) (w2.slot i z e), w2.dist, fun a ha => w.frsh a ((own_sh s).mp ha), w2.pin, w.sm, fun q i a h e => w.nb q i a (by rw [← s i]; exact h) e⟩, fun a v n e => ⟨fun z => n ((mv a).mp z), st a v n e⟩, fun z => nl ((mv l).mp z), gd, fun a v n e => ⟨fun z => ((sub_mv s).mp z).elim n (ne_of_none e h), st a v n e⟩⟩
  refine kp a v (fun z => ?_) (w.keep a v n e)
  rcases w.frsh a z with q | q
  · exact n q
  · rw [q] at e; cases e
end
section
variable {C : Ct} {y : S} {te : TE} {tt : TT} {wi : TI} {Q : Z → S → Prop}
/-- [e for x in .. if ..] -/
theorem wE_lc {j : Nat} (hj : isO y j = false)
    (w : wI C wi y fun xs y1 => ∃ I : Nat → List D → S → Prop, xs.length ≤ sizeLine ∧ I 0 [] (y1.set j none) ∧
      (∀ i x acc y2, xs[i]? = some x → I i acc y2 → wT C tt (y2.set j (some (.d x))) fun b y3 => if b = true then wE C te y3 fun z y4 => ∃ d, z = .d d ∧ I (i + 1) (acc ++ [d]) (y4.set j none) else I (i + 1) acc (y3.set j none)) ∧
      (∀ acc y2, I xs.length acc y2 → acc.length ≤ xs.length → Q (.d (.list acc)) y2))
    (hp : j ≠ 0 ∨ C.pp = false := by first | exact Or.inr rfl | exact Or.inl (by decide)) :
    wE C (tLc wi (gName j) tt te [j]) y Q := by
  intro F σ H K wd k
  refine w F σ H _ wd fun J H1 xs y1 w1 g1 s1 hJ ⟨I, hz, h0, hs, hd⟩ => ?_
  intro l hl
  have wz : wipe σ [j] = σ.set j none := rfl
  obtain ⟨w1', g1'⟩ := w1.unset (j := j) (τ := σ) rfl (fun _ _ => rfl) hp
  have sz : Sh y1 (y1.set j none) := sh_none ((s1 j).trans hj)
  have uj : isO (y1.set j none) j = false := (sz j).trans ((s1 j).trans hj)
  generalize y1.set j none = u at w1' g1' sz h0 uj
  have wi1 := w1'.into (l := l) (o := .lst []) hl
  have nOl : ¬ Own σ u l := fun z => w1'.new hl (.inr z)
  refine ⟨fun i m H2 => m = xs.length - i ∧ i ≤ xs.length ∧ ∃ y2 acc vs, Wd C (sub F σ u H2 l) σ y2 H2 ∧ Sh u y2 ∧ (∀ a o, ¬ Own σ u a → H1 a = some o → H2 a = some o) ∧ I i acc y2 ∧ H2 l = some (.lst vs) ∧ RpA C.K (Mv (sub F σ u H2 l) σ y2) H2 vs acc ∧ acc.length ≤ i,
    ⟨xs.length, by simp, Nat.zero_le _, u, [], [], wi1, Sh.refl u, fun a o _ e => grow_upd hl a o e, h0, upd_same, .nil, Nat.zero_le _⟩, ?_⟩
  rintro i m H2 ⟨rfl, hi, y2, acc, vs, w2, s2, kp2, hI, hl2, rv2, ha2⟩
  obtain ⟨o1, o2, o3, o4, o5⟩ := w1'.outOf hl w2 s2 kp2
  obtain ⟨j1, j2, j3⟩ := hJ (sub F σ u H2 l) σ y2 H2 w2 (g1'.trans o5) i
  by_cases hlt : i < xs.length
  · refine .inr ⟨j1 hlt, fun H3 => ∃ y3 acc vs, Wd C (sub F σ u H3 l) σ y3 H3 ∧ Sh u y3 ∧ (∀ a o, ¬ Own σ u a → H1 a = some o → H3 a = some o) ∧ I (i + 1) acc y3 ∧ H3 l = some (.lst vs) ∧ RpA C.K (Mv (sub F σ u H3 l) σ y3) H3 vs acc ∧ acc.length ≤ i + 1,
      fun H3 h => ⟨xs.length - (i + 1), by omega, rfl, hlt, h⟩, fun v H3 hy => ?_⟩
    have ex : xs[i]? = some xs[i] := List.getElem?_eq_getElem hlt
    obtain ⟨gr, rv⟩ := j3 _ ex v H3 hy
    have w3 := w2.regrow s2 gr
    have gx : GoH (Mv (sub F σ u H2 l) σ y2) H2 (Mv (sub F σ u H3 l) σ y2) H3 := fun a o n e => ⟨fun z => n ((sub_mv s2).mpr ((sub_mv s2).mp z)), gr a o e⟩
    have gy : GoH (Mv (sub F σ u H2 l) σ y2) H3 (Mv (sub F σ u H3 l) σ y2) H3 := fun a o n e => ⟨fun z => n ((sub_mv s2).mpr ((sub_mv s2).mp z)), e⟩
    have w4 : Wd C (sub F σ u H3 l) (σ.set j (some v)) (y2.set j (some (.d xs[i]))) H3 := w3.set_d hp (rv.go gy)
    have g4 : GoH (Mv (sub F σ u H2 l) σ y2) H2 (Mv (sub F σ u H3 l) (σ.set j (some v)) (y2.set j (some (.d xs[i])))) H3 := gx.trans go_set_d
    have eσ : (wipe σ [j]).set j (some v) = σ.set j (some v) := by rw [wz, List.set_set]
    show wipe ((wipe σ [j]).set j (some v)) [j] = wipe σ [j] ∧ tt ((wipe σ [j]).set j (some v)) H3 _
    rw [eσ]
    refine ⟨by show (σ.set j (some v)).set j none = σ.set j none; rw [List.set_set], ?_⟩
    have back : ∀ {yy : S} {HH : Hp}, Wd C (sub F σ u H3 l) (σ.set j (some v)) yy HH → Sh (y2.set j (some (.d xs[i]))) yy →
        Wd C (sub F σ u H3 l) σ (yy.set j none) HH ∧ Sh u (yy.set j none) ∧ GoH (Mv (sub F σ u H3 l) (σ.set j (some v)) yy) HH (Mv (sub F σ u H3 l) σ (yy.set j none)) HH ∧
          (∀ a o, ¬ Own σ u a → H1 a = some o → HH a = some o) ∧ HH l = some (.lst vs) := by
      intro yy HH ww ss
      obtain ⟨a1, a2⟩ := ww.unset (j := j) (τ := σ) (by rw [List.length_set]) (fun n hn => (List.getElem?_set_ne (Ne.symm hn)).symm) hp
      refine ⟨a1, fun n => ?_, a2, fun a o na e => ww.keep a o na (gr a o (kp2 a o na e)), ww.keep l _ nOl (gr l _ hl2)⟩
      by_cases hn : n = j
      · subst hn
        rw [uj]
        cases q : isO (yy.set n none) n with
        | false => rfl
        | true => exact absurd rfl (isO_none q).1
      · rw [isO_none' hn, ss n]
        have : isO (y2.set j (some (.d xs[i]))) n = isO y2 n := by
          unfold isO
          rw [List.getElem?_set_ne (Ne.symm hn)]
        rw [this]
        exact s2 n
    refine hs i _ acc y2 ex hI (sub F σ u H3 l) _ H3 _ w4 fun b H5 y5 w5 g5 s5 q5 => ?_
    cases b with
    | false =>
      obtain ⟨b1, b2, b3, b4, b5⟩ := back w5 s5
      have b6 := b1.regrow b2 (H' := H5) (fun _ _ e => e)
      have gz : GoH (Mv (sub F σ u H3 l) σ (y5.set j none)) H5 (Mv (sub F σ u H5 l) σ (y5.set j none)) H5 := fun a o n e => ⟨fun z => n ((sub_mv b2).mpr ((sub_mv b2).mp z)), e⟩
      exact ⟨y5.set j none, acc, vs, b6, b2, b4, q5, b5, rv2.go (((g4.trans g5).trans b3).trans gz), by omega⟩
    | true =>
      refine q5 (sub F σ u H3 l) _ H5 _ w5 fun x6 H6 z6 y6 w6 g6 s6 r6 q6 => ?_
      obtain ⟨d, rfl, q6⟩ := q6
      obtain ⟨b1, b2, b3, b4, b5⟩ := back w6 (s5.trans s6)
      have hlen : vs.length = acc.length := rv2.len
      refine ⟨vs, b5, by omega, y6.set j none, acc ++ [d], vs ++ [x6], b1.reb b2 nOl, b2, fun a o na e => ?_, q6, upd_same, ?_, by rw [List.length_append]; simp; omega⟩
      · rw [upd_ne (ne_of_none e hl)]
        exact b4 a o na e
      · have gz : GoH (Mv (sub F σ u H3 l) σ (y6.set j none)) H6 (Mv (sub F σ u (upd H6 l (.lst (vs ++ [x6]))) l) σ (y6.set j none)) (upd H6 l (.lst (vs ++ [x6]))) := fun a o n e => by
          have ne : a ≠ l := fun z => n ((sub_mv b2).mpr (.inr z))
          exact ⟨fun z => n ((sub_mv b2).mpr ((sub_mv b2).mp z)), by rw [upd_ne ne]; exact e⟩
        exact (rv2.go ((((g4.trans g5).trans g6).trans b3).trans gz)).app (.cons (Rp.go (b3.trans gz) r6) .nil)
  · have ei : i = xs.length := by omega
    subst ei
    refine .inl ⟨j2 (Nat.le_refl _), ?_⟩
    exact k _ H2 (.d (.list acc)) y2 o1 ((g1.trans g1').trans o2) ((s1.trans sz).trans s2) (.lst (.inl ⟨o3, .inl hl2⟩) (rv2.go o4)) (hd acc y2 hI ha2)
/-- a comprehension whose turns change nothing -/
theorem wE_lcF {j : Nat} {y' : S} (p : D → Bool) (f : D → D) (hj : isO y j = false)
    (w : wI C wi y fun xs y1 => y1 = y' ∧ xs.length ≤ sizeLine ∧ (∀ x ∈ xs, wT C tt (y'.set j (some (.d x))) fun b y3 => y3 = y'.set j (some (.d x)) ∧ b = p x ∧ (p x = true → wE C te y3 fun z y4 => z = .d (f x) ∧ y4 = y'.set j (some (.d x)))) ∧ Q (.d (.list ((xs.filter p).map f))) (y'.set j none))
    (hp : j ≠ 0 ∨ C.pp = false := by first | exact Or.inr rfl | exact Or.inl (by decide)) :
    wE C (tLc wi (gName j) tt te [j]) y Q := by
  refine wE_lc hj (fun F σ H R wd k => w F σ H R wd fun J H1 xs y1 w1 g1 s1 hJ ⟨e, hz, hs, hq⟩ => k J H1 xs y1 w1 g1 s1 hJ ?_) hp
  subst e
  refine ⟨fun i acc y2 => y2 = y1.set j none ∧ acc = ((xs.take i).filter p).map f, hz, ⟨rfl, rfl⟩, fun i x acc y2 hx ⟨e1, e2⟩ => ?_, fun acc y2 ⟨e1, e2⟩ _ => ?_⟩
  · subst e1 e2
    have hm : x ∈ xs := List.mem_of_getElem? hx
    have ht : xs.take (i + 1) = xs.take i ++ [x] := by rw [List.take_add_one, hx]; rfl
    have es : (y1.set j none).set j (some (.d x)) = y1.set j (some (.d x)) := List.set_set ..
    have ef : (y1.set j (some (.d x))).set j none = y1.set j none := List.set_set ..
    rw [es]
    refine wT_mono (hs x hm) fun b y3 ⟨e3, eb, h3⟩ => ?_
    subst eb e3
    cases hpx : p x with
    | true =>
      show wE C te _ _
      refine wE_mono (h3 hpx) fun z y4 ⟨ez, ey⟩ => ⟨f x, ez, ?_, ?_⟩
      · rw [ey, ef]
      · rw [ht, List.filter_append, List.map_append, List.filter_cons, if_pos hpx]
        rfl
    | false =>
      refine ⟨ef, ?_⟩
      rw [ht, List.filter_append, List.filter_cons, if_neg (by rw [hpx]; simp), List.filter_nil, List.append_nil]
  · subst e1 e2
    rw [List.take_length]
    exact hq
end
end Tq

set_option maxRecDepth 100000
set_option maxHeartbeats 2000000
namespace Tq
open PySem PySem.Spec PyProof.Rows L2
/-! ### owned things -/
section
variable {C : Ct} {F : Fr} {σ : St} {y y' : S} {H H' : Hp}
theorem PuOk.mono {H : Hp} {a : Addr} {m n : Nat} (h : PuOk H a n) (l : m ≤ n) : PuOk H a m := by
  obtain ⟨x, b, c, h1, h2, h3, h4, h5, h6⟩ := h
  exact ⟨x, b, c, h1, h2, h3, h4, h5, by omega⟩
/-- a new thing is taken into a slot, owned -/
theorem Wd.set_own (w : Wd C F σ y H) {i : Nat} {p : Addr} {o : HO} {z : Y} (hz : z.o = true) (hn : H p = none) (hp : i ≠ 0 ∨ C.pp = false)
    (ok : ∀ M, GoH (Mv F σ y) H M (upd H p o) → SlotOk C.K M (upd H p o) (some (some (.ref p))) z) :
    Wd C F (σ.set i (some (.ref p))) (y.set i (some z)) (upd H p o) ∧ Go F σ y H (σ.set i (some (.ref p))) (y.set i (some z)) (upd H p o) := by
  have own : ∀ a, Own (σ.set i (some (.ref p))) (y.set i (some z)) a → a = p ∨ Own σ y a := by
    rintro a ⟨j, hj, e⟩
    rcases isO_set hj with ⟨rfl, hl, _⟩ | ⟨n, hO⟩ | ⟨rfl, hl⟩
    · rw [List.getElem?_set_self (by rw [w.len]; exact hl)] at e
      cases e
      exact .inl rfl
    · rw [List.getElem?_set_ne (Ne.symm n)] at e
      exact .inr ⟨j, hO, e⟩
    · have := isO_lt hj; rw [List.length_set] at this; omega
  have g : Go F σ y H (σ.set i (some (.ref p))) (y.set i (some z)) (upd H p o) := fun a u n e => by
    have ne : a ≠ p := ne_of_none e hn
    refine ⟨?_, by rw [upd_ne ne]; exact e⟩
    rintro (q | q)
    · exact n (.inl q)
    · rcases own a q with q | q
      · exact ne q
      · exact n (.inr q)
  have old : ∀ {j : Nat} {a : Addr}, isO y j = true → σ[j]? = some (some (.ref a)) → a ≠ p := fun hO e z => own_live w ⟨_, hO, e⟩ (z ▸ hn)
  refine ⟨⟨fun a u n e => grow_upd hn a u (w.keep a u n e), w.live0, fun a m e => ?_, by rw [List.length_set, List.length_set]; exact w.len, fun j x e => ?_, fun j k a h1 h2 e1 e2 => ?_, fun a h => ?_, fun e => ?_, w.sm, fun st j a h e s => ?_⟩, g⟩
  · cases q : H a with
    | none => exact w.live a m q
    | some u => rw [grow_upd hn a u q] at e; cases e
  · by_cases n : j = i
    · subst n
      have hl : j < y.length := by
        have := (List.getElem?_eq_some_iff.mp e).1
        rw [List.length_set] at this; exact this
      rw [List.getElem?_set_self hl] at e
      cases e
      rw [List.getElem?_set_self (by rw [w.len]; exact hl)]
      exact ok _ g
    · rw [List.getElem?_set_ne (Ne.symm n)] at e ⊢
      exact slots_go g (fun a u _ _ e => grow_upd hn a u e) (w.slot j x e)
  · rcases isO_set h1 with ⟨r1, l1, _⟩ | ⟨n1, o1⟩ | ⟨r1, l1⟩
    · rcases isO_set h2 with ⟨r2, l2, _⟩ | ⟨n2, o2⟩ | ⟨r2, l2⟩
      · rw [r1, r2]
      · rw [r1, List.getElem?_set_self (by rw [w.len]; exact l1)] at e1
        rw [List.getElem?_set_ne (Ne.symm n2)] at e2
        cases e1
        exact absurd rfl (old o2 e2)
      · have := isO_lt h2; rw [List.length_set] at this; omega
    · rcases isO_set h2 with ⟨r2, l2, _⟩ | ⟨n2, o2⟩ | ⟨r2, l2⟩
      · rw [r2, List.getElem?_set_self (by rw [w.len]; exact l2)] at e2
        rw [List.getElem?_set_ne (Ne.symm n1)] at e1
        cases e2
        exact absurd rfl (old o1 e1)
      · rw [List.getElem?_set_ne (Ne.symm n1)] at e1
        rw [List.getElem?_set_ne (Ne.symm n2)] at e2
        exact w.dist j k a o1 o2 e1 e2
      · have := isO_lt h2; rw [List.length_set] at this; omega
    · have := isO_lt h1; rw [List.length_set] at this; omega
  · rcases own a h with q | q
    · subst q
      by_cases s : F.S0 a
      · exact .inl s
      · refine .inr ?_
        cases e : F.H0 a with
        | none => rfl
        | some u => rw [w.keep a u s e] at hn; cases hn
    · exact w.frsh a q
  · rcases hp with hp | hp
    · rw [List.getElem?_set_ne hp]; exact w.pin e
    · rw [hp] at e; cases e
  · rcases isO_set h with ⟨r1, l1, _⟩ | ⟨n1, o1⟩ | ⟨r1, l1⟩
    · rw [r1, List.getElem?_set_self (by rw [w.len]; exact l1)] at e
      cases e
      exact absurd hn (w.live p (w.sm p s))
    · rw [List.getElem?_set_ne (Ne.symm n1)] at e
      exact w.nb st j a o1 e s
    · have := isO_lt h; rw [List.length_set] at this; omega
theorem isO_of {i : Nat} {z : Y} (h : y[i]? = some (some z)) : isO y i = z.o := by unfold isO; rw [h]
theorem sh_set {i : Nat} {z x : Y} (h : y[i]? = some (some z)) (e : x.o = z.o) : Sh y (y.set i (some x)) := fun j => by
  by_cases n : j = i
  · subst n
    have hl := (List.getElem?_eq_some_iff.mp h).1
    rw [isO_of h, isO_of (List.getElem?_set_self hl)]
    exact e
  · unfold isO
    rw [List.getElem?_set_ne (Ne.symm n)]
/-- an owned thing has changed, and no other -/
theorem Wd.set_mut (w : Wd C F σ y H) {i : Nat} {p : Addr} {z x : Y} (hi : y[i]? = some (some z)) (hz : z.o = true) (hx : x.o = true) (hσ : σ[i]? = some (some (.ref p))) (kp : ∀ a o, a ≠ p → H a = some o → H' a = some o) (hl : H' p ≠ none)
    (ok : ∀ M, GoH (Mv F σ y) H M H' → SlotOk C.K M H' (some (some (.ref p))) x) : Wd C F σ (y.set i (some x)) H' ∧ Go F σ y H σ (y.set i (some x)) H' ∧ Sh y (y.set i (some x)) := by
  have s : Sh y (y.set i (some x)) := sh_set hi (by rw [hx, hz])
  have hO : Own σ y p := ⟨i, by rw [isO_of hi]; exact hz, hσ⟩
  have mv : ∀ a, Mv F σ (y.set i (some x)) a → Mv F σ y a := fun a z => z.elim .inl fun z => .inr ((own_sh s).mp z)
  have g : Go F σ y H σ (y.set i (some x)) H' := fun a u n e => ⟨fun z => n (mv a z), kp a u (fun z => n (.inr (z ▸ hO))) e⟩
  refine ⟨⟨fun a u n e => kp a u (fun q => ?_) (w.keep a u n e), w.live0, fun a m e => ?_, by rw [List.length_set]; exact w.len, fun j v e => ?_, fun j k a h1 h2 e1 e2 => ?_, fun a h => w.frsh a ((own_sh s).mp h), w.pin, w.sm, fun q j a h e => w.nb q j a (by rw [← s j]; exact h) e⟩, g, s⟩
  · subst q
    rcases w.frsh a hO with q | q
    · exact n q
    · rw [q] at e; cases e
  · by_cases ha : a = p
    · exact hl (ha ▸ e)
    · cases q : H a with
      | none => exact w.live a m q
      | some u => rw [kp a u ha q] at e; cases e
  · by_cases n : j = i
    · subst n
      have hl := (List.getElem?_eq_some_iff.mp hi).1
      rw [List.getElem?_set_self hl] at e
      cases e
      rw [hσ]
      exact ok _ g
    · rw [List.getElem?_set_ne (Ne.symm n)] at e
      refine slots_go g (fun a u e1 e2 e3 => kp a u (fun q => n ?_) e3) (w.slot j v e)
      subst q
      exact w.dist j i a (by rw [isO_of e]; exact e2) (by rw [isO_of hi]; exact hz) e1 hσ
  · rw [s j] at h1
    rw [s k] at h2
    exact w.dist j k a h1 h2 e1 e2
end
section
variable {C : Ct} {y : S} {te : TE} {ts : TA} {tx : TS} {e : En} {Q : Z → S → Prop}
/-- x = [..], owned -/
theorem wS_own {i : Nat} (w : wD C ts y fun ds y1 => ds.length ≤ sizeLine ∧ e.nx (y1.set i (some (.own ds)))) (hp : i ≠ 0 ∨ C.pp = false := by first | exact Or.inr rfl | exact Or.inl (by decide)) : wS C (tAsg (tLst ts) (gName i)) y e := by
  intro F σ H E st wd k
  refine w F σ H _ wd fun vs H1 ds y1 w1 g1 s1 r1 ⟨hz, q⟩ => ⟨by rw [r1.len]; exact hz, fun p hn => ?_⟩
  obtain ⟨w2, g2⟩ := w1.set_own (i := i) (o := .lst vs) (z := .own ds) rfl hn hp fun M g => ⟨p, vs, rfl, upd_same, r1.go g⟩
  exact k.nx _ _ _ w2 (g1.trans g2) q
/-- x.append(e) -/
theorem wS_app {i : Nat} {ds0 : List D} (hi : y[i]? = some (some (.own ds0))) (w : wE C te y fun z y1 => ∃ d ds, z = .d d ∧ y1[i]? = some (some (.own ds)) ∧ ds.length < sizeLine ∧ e.nx (y1.set i (some (.own (ds ++ [d]))))) :
    wS C (tDrop (tBM C.K "list" rAppend (tVar i) (tCons te tNil))) y e := by
  intro F σ H E st wd k
  obtain ⟨a, xs, h1, h2, h3⟩ := wd.slot i _ hi
  refine ⟨.ref a, h1, Or.inl ⟨rfl, xs, .inl (.inl h2)⟩, w F σ H _ wd fun v H1 z y1 w1 g1 s1 r1 q => ?_⟩
  obtain ⟨d, ds, rfl, hi1, hz, q⟩ := q
  obtain ⟨b, us, e1, e2, e3⟩ := w1.slot i _ hi1
  have eb : a = b := by rw [h1] at e1; cases e1; rfl
  subst eb
  refine ⟨a, us, v, rfl, rfl, e2, by rw [e3.len]; exact hz, ?_⟩
  obtain ⟨w2, g2, s2⟩ := w1.set_mut (H' := upd H1 a (.lst (us ++ [v]))) (x := .own (ds ++ [d])) hi1 rfl rfl e1 (fun b o n e => by rw [upd_ne n]; exact e) (by rw [upd_same]; simp)
    fun M g => ⟨a, us ++ [v], rfl, upd_same, (e3.go g).app (.cons (Rp.go g r1) .nil)⟩
  exact k.nx _ _ _ w2 (g1.trans g2) q
end
/-! ### promises over data -/
def pureSp (K : Fg) (n : Nat) (pre : List D → Prop) (post : List D → D → Prop) : Sp := fun vs H Q _ => ∃ (M : Addr → Prop) (ds : List D), (∀ a, M a → H a ≠ none) ∧ RpA K M H vs ds ∧ ds.length = n ∧ pre ds ∧
  ∀ d v H', post ds d → (∀ a o, H a = some o → H' a = some o) → Rp K M H' v d → Q v H'
theorem pureSp_len {K : Fg} {n : Nat} {pre : List D → Prop} {post : List D → D → Prop} {ps : List Str} (h : ps.length = n) : ∀ vs H Q E, pureSp K n pre post vs H Q E → vs.length = ps.length := by
  rintro vs H Q E ⟨M, ds, _, r, l, _⟩
  rw [r.len, l, h]
/-- a purse ahead of the arguments; cost: the draws at most -/
def puSp (K : Fg) (n : Nat) (pre : List D → Prop) (cost : List D → Nat) (post : List D → D → Prop) : Sp := fun vs H Q _ => ∃ (M : Addr → Prop) (p : Addr) (us : List V) (ds : List D) (m : Nat), vs = .ref p :: us ∧ M p ∧ (∀ a, M a → H a ≠ none) ∧ PuOk H p m ∧
  RpA K M H us ds ∧ ds.length = n ∧ pre ds ∧ cost ds ≤ m ∧ ∀ d v H', post ds d → (∀ a o, a ≠ p → H a = some o → H' a = some o) → PuOk H' p (m - cost ds) → Rp K M H' v d → Q v H'
theorem puSp_len {K : Fg} {n : Nat} {pre : List D → Prop} {cost : List D → Nat} {post : List D → D → Prop} {ps : List Str} (h : ps.length = n + 1) : ∀ vs H Q E, puSp K n pre cost post vs H Q E → vs.length = ps.length := by
  rintro vs H Q E ⟨M, p, us, ds, m, rfl, _, _, _, r, l, _⟩
  rw [List.length_cons, r.len, l, h]
section
variable {K : Fg} {N : List Str} {t : TS} {vs : List V} {H : Hp} {Q : VK} {E : XK} {n : Nat} {pre : List D → Prop} {post : List D → D → Prop} {cost : List D → Nat}
def y0 (N : List Str) (ds : List D) : S := ds.map (fun d => some (.d d)) ++ List.replicate (N.length - ds.length) none
theorem getElem?_app_none {α : Type} {as : List (Option α)} {k i : Nat} {z : α} (h : (as ++ List.replicate k none)[i]? = some (some z)) : as[i]? = some (some z) := by
  by_cases hi : i < as.length
  · rwa [List.getElem?_append_left hi] at h
  · rw [List.getElem?_append_right (by omega), List.getElem?_replicate] at h
    split at h <;> cases h
theorem start_get {i : Nat} {v : V} (h : vs[i]? = some v) : (start N vs)[i]? = some (some v) := by
  unfold L2.start
  have hl := (List.getElem?_eq_some_iff.mp h).1
  rw [List.getElem?_append_left (by rw [List.length_map]; exact hl), List.getElem?_map, h]
  rfl
theorem y0_isO (N : List Str) (ds : List D) (j : Nat) : isO (y0 N ds) j = false := by
  unfold isO y0
  split
  · rename_i q2
    have q3 := getElem?_app_none q2
    rw [List.getElem?_map] at q3
    cases q4 : ds[j]? with
    | none => rw [q4] at q3; cases q3
    | some d => rw [q4] at q3; cases q3; rfl
  · rfl
theorem pure_body (h : pureSp K n pre post vs H Q E) (b : ∀ ds, ds.length = n → pre ds → ∀ e : En, (∀ y, post ds .none → e.nx y) → (∀ d y, post ds d → e.rt (.d d) y) → wS ⟨K, false⟩ t (y0 N ds) e) :
    t { nx := fun _ G => Q .non G, rt := Q } (start N vs) H := by
  obtain ⟨M, ds, al, r, l, hp, k⟩ := h
  refine b ds l hp { nx := fun _ => post ds .none, rt := fun z _ => ∃ d, z = .d d ∧ post ds d } (fun _ q => q) (fun d _ q => ⟨d, rfl, q⟩) ⟨H, fun _ => False, M, 0, true⟩ (start N vs) H _ rfl ⟨fun a o _ e => e, al, al, ?_, fun i z e => ?_, fun i j a h1 _ _ _ => ?_, fun a ⟨i, h1, _⟩ => ?_, fun q => (nomatch q), fun a z => z.elim, fun _ _ _ _ _ z => z.elim⟩ ⟨fun σ' H' y' w g q => ?_, fun σ' v H' z y' w g rz q => ?_, fun _ _ _ _ _ q => q.elim, fun _ _ _ _ _ q => q.elim⟩
  · unfold L2.start y0
    rw [List.length_append, List.length_append, List.length_map, List.length_map, List.length_replicate, List.length_replicate, r.len]
  · have e1 := getElem?_app_none e
    rw [List.getElem?_map] at e1
    cases q : ds[i]? with
    | none => rw [q] at e1; cases e1
    | some d =>
      rw [q] at e1
      cases e1
      obtain ⟨v, hv, rv⟩ := r.get q
      refine ⟨v, start_get hv, rv.go fun a o na e => ⟨fun z => z.elim na ?_, e⟩⟩
      rintro ⟨j, hj, _⟩
      rw [y0_isO] at hj
      cases hj
  · rw [y0_isO] at h1; cases h1
  · rw [y0_isO] at h1; cases h1
  · exact k .none .non H' q (fun a o e => w.keep a o (fun z => z) e) .non
  · obtain ⟨d, rfl, q⟩ := q
    exact k d v H' q (fun a o e => w.keep a o (fun z => z) e) (Rp.go (fun a o n e => ⟨fun z => n (.inl z), e⟩) rz)
theorem pu_body (h : puSp K n pre cost post vs H Q E) (b : ∀ ds m, ds.length = n → pre ds → cost ds ≤ m → ∀ e : En, (∀ y k, post ds .none → y[0]? = some (some (.pu k)) → m - cost ds ≤ k → e.nx y) → (∀ d y k, post ds d → y[0]? = some (some (.pu k)) → m - cost ds ≤ k → e.rt (.d d) y) → wS ⟨K, true⟩ t (some (.pu m) :: y0 (N.drop 1) ds) e)
    (hN : 0 < N.length := by decide) : t { nx := fun _ G => Q .non G, rt := Q } (start N vs) H := by
  obtain ⟨M, p, us, ds, m, rfl, mp, al, pk, r, l, hp, hc, k⟩ := h
  have isd : ∀ j, isO (y0 (N.drop 1) ds) j = false := y0_isO _ _
  have is0 : ∀ j, isO (some (.pu m) :: y0 (N.drop 1) ds) j = true → j = 0 := fun j hj => by
    cases j with
    | zero => rfl
    | succ j =>
      have : isO (some (.pu m) :: y0 (N.drop 1) ds) (j + 1) = isO (y0 (N.drop 1) ds) j := by unfold isO; rw [List.getElem?_cons_succ]
      rw [this, isd j] at hj
      cases hj
  have s0 : (start N (.ref p :: us))[0]? = some (some (.ref p)) := start_get rfl
  have own : ∀ a, Own (start N (.ref p :: us)) (some (.pu m) :: y0 (N.drop 1) ds) a → a = p := fun a ⟨j, hj, e⟩ => by
    have := is0 j hj
    subst this
    rw [s0] at e
    cases e
    rfl
  have fin : ∀ {σ' : St} {H' : Hp} {y' : S} {q : Nat}, Wd ⟨K, true⟩ ⟨H, fun a => a = p, M, p, true⟩ σ' y' H' → y'[0]? = some (some (.pu q)) → m - cost ds ≤ q → PuOk H' p (m - cost ds) := fun {σ' H' y' q} w e hq => by
    obtain ⟨a, h1, h2⟩ := w.slot 0 _ e
    rw [w.pin rfl] at h1
    cases h1
    exact h2.mono hq
  refine b ds m l hp hc { nx := fun y => post ds .none ∧ ∃ k, y[0]? = some (some (.pu k)) ∧ m - cost ds ≤ k, rt := fun z y => ∃ d k, z = .d d ∧ post ds d ∧ y[0]? = some (some (.pu k)) ∧ m - cost ds ≤ k }
    (fun y k q1 q2 q3 => ⟨q1, k, q2, q3⟩) (fun d y k q1 q2 q3 => ⟨d, k, rfl, q1, q2, q3⟩) ⟨H, fun a => a = p, M, p, true⟩ (start N (.ref p :: us)) H _ rfl ⟨fun a o _ e => e, al, al, ?_, fun i z e => ?_, fun i j a h1 h2 _ _ => (is0 i h1).trans (is0 j h2).symm, fun a h => .inl (own a h), fun _ => s0, fun a z => (show a = p from z) ▸ mp, fun _ i a h _ _ => ⟨is0 i h, rfl⟩⟩ ⟨fun σ' H' y' w g q => ?_, fun σ' v H' z y' w g rz q => ?_, fun _ _ _ _ _ q => q.elim, fun _ _ _ _ _ q => q.elim⟩
  · unfold L2.start y0
    simp only [List.length_append, List.length_cons, List.length_map, List.length_replicate, List.length_drop]
    rw [r.len]
    omega
  · cases i with
    | zero =>
      cases e
      exact ⟨p, s0, pk⟩
    | succ i =>
      rw [List.getElem?_cons_succ] at e
      have e1 := getElem?_app_none e
      rw [List.getElem?_map] at e1
      cases q : ds[i]? with
      | none => rw [q] at e1; cases e1
      | some d =>
        rw [q] at e1
        cases e1
        obtain ⟨v, hv, rv⟩ := r.get q
        refine ⟨v, start_get (by rw [List.getElem?_cons_succ]; exact hv), rv.go fun a o na e => ⟨fun z => z.elim na fun z => ?_, e⟩⟩
        exact na ((own a z) ▸ mp)
  · obtain ⟨q1, c, q2, q3⟩ := q
    exact k .none .non H' q1 (fun a o n e => w.keep a o n e) (fin w q2 q3) .non
  · obtain ⟨d, c, rfl, q1, q2, q3⟩ := q
    exact k d v H' q1 (fun a o n e => w.keep a o n e) (fin w q2 q3) (Rp.go (fun a o n e => ⟨fun z => n (.inl z), e⟩) rz)
end
section
variable {C : Ct} {y : S} {ts : TA} {Q : Z → S → Prop} {E : XK} {n : Nat} {pre : List D → Prop} {post : List D → D → Prop} {cost : List D → Nat} {e : En}
theorem wE_pure (w : wD C ts y fun ds y1 => ds.length = n ∧ pre ds ∧ ∀ d, post ds d → Q (.d d) y1) : wE C (tCall (pureSp C.K n pre post) [] E ts) y Q := by
  intro F σ H K wd k
  refine w F σ H _ wd fun vs H1 ds y1 w1 g1 s1 r1 ⟨hn, hp, q⟩ => ?_
  rw [List.append_nil]
  exact ⟨Mv F σ y1, ds, fun a m e => w1.new e m, r1, hn, hp, fun d v H2 hd gr rv => k v H2 (.d d) y1 (w1.grow gr) (g1.trans (go_grow gr)) s1 rv (q d hd)⟩
theorem wE_pu {i m0 : Nat} (hi : y[i]? = some (some (.pu m0))) (w : wD C ts y fun ds y1 => ∃ m, y1[i]? = some (some (.pu m)) ∧ ds.length = n ∧ pre ds ∧ cost ds ≤ m ∧ ∀ d, post ds d → Q (.d d) (y1.set i (some (.pu (m - cost ds))))) :
    wE C (tCall (puSp C.K n pre cost post) [] E (tCons (tVar i) ts)) y Q := by
  intro F σ H K wd k
  obtain ⟨a, h1, h2⟩ := wd.slot i _ hi
  refine ⟨.ref a, h1, w F σ H _ wd fun vs H1 ds y1 w1 g1 s1 r1 ⟨m, hi1, hn, hp, hc, q⟩ => ?_⟩
  obtain ⟨b, e1, e2⟩ := w1.slot i _ hi1
  have eb : a = b := by rw [h1] at e1; cases e1; rfl
  subst eb
  rw [List.append_nil]
  refine ⟨Mv F σ y1, a, vs, ds, m, rfl, .inr ⟨i, by rw [isO_of hi1]; rfl, e1⟩, fun a m e => w1.new e m, e2, r1, hn, hp, hc, fun d v H2 hd kp pk rv => ?_⟩
  have hl : H2 a ≠ none := by
    obtain ⟨x, b, c, z, _⟩ := pk
    rw [z]; simp
  obtain ⟨w2, g2, s2⟩ := w1.set_mut (H' := H2) (x := .pu (m - cost ds)) hi1 rfl rfl e1 kp hl fun M g => ⟨a, rfl, pk⟩
  refine k v H2 (.d d) _ w2 (g1.trans g2) (s1.trans s2) (Rp.go (fun b o nb eb => ⟨fun z => nb (z.elim .inl fun z => .inr ((own_sh s2).mp z)), eb⟩) rv) (q d hd)
end
end Tq

set_option maxRecDepth 100000
set_option maxHeartbeats 2000000
namespace Tq
open PySem PySem.Spec PyProof.Rows L2
/-! ### defs of the text by their names -/
/-- the def x of the text, behind the top -/
structure Df (K : Fg) (mg : Str → Option Value) (x : Str) (st : Stmt) (ps : List Str) : Prop where
  ex : ∃ (f : Addr) (fd : FuncData), Fun K x x st f fd ∧ mg x = some (.ref f) ∧ Binds K fd ps []
/-- the name x is a def that keeps sp -/
structure Cal (P : Program) (w : World) (K : Fg) (mg : Str → Option Value) (base : Heap) (k : Nat) (x : Str) (ps : List Str) (sp : Sp) : Prop where
  ex : ∃ (f : Addr) (fd : FuncData), FnG P w K mg base CX0 k f fd ps sp ∧ mg x = some (.ref f) ∧ PySem.W.keepIn K (.ref f) = true ∧ Binds K fd ps []
section
variable {P : Program} {w : World} {K : Fg} {mg : Str → Option Value} {base : Heap} {k : Nat} {x : Str} {ps N : List Str} {sp : Sp} {st : Stmt}
theorem Df.ok (d : Df K mg x st ps) (Sc : FnScope N ps (defScope st)) (len : ∀ vs H Q E, sp vs H Q E → vs.length = ps.length)
    (hbody : ∀ (f : Addr) (cdv : Value) (A : Around) (outer : List Env) (s : Shared) (H : Hp) (vs : List V) (Q : VK) (E : XK), Room k (A.deeper (envOfC x (defScope st) s.heap.objs.size f cdv)) →
      (A.deeper (envOfC x (defScope st) s.heap.objs.size f cdv)).guards = some [] → sp vs H Q E →
      ∃ t, PSs (cxOf CX0 P w K mg base N x (defScope st) f cdv A outer s H E).nox (defBody st) t ∧ t { nx := fun _ G => Q .non G, rt := Q } (start N vs) H) : Cal P w K mg base (k + 1) x ps sp := by
  obtain ⟨f, fd, F, hm, hb⟩ := d.ex
  exact ⟨f, fd, okG F Sc len (hbody f), hm, F.kp, hb⟩
theorem pe_cal {X : Cx} {p pos : Pos} {e : Expr} {es : List Expr} {t : TA} (c : Cal X.prog X.w X.K X.mg X.base k x ps sp) (hr : Room k X.A) (hgu : X.A.guards = some []) (hg : Gl X x) (ha : PA X (e :: es) t) (hdb : (x == ("__debug__" : Str)) = false := by decide)
    (he : starEach (e :: es) X.env = (false, eval e X.env) :: starEach es X.env := by rfl)
    (hpl : (backTo pos (starEach es X.env)).any (·.1) = false := by rfl) : PE X (.Call (.Name x p) (e :: es) [] pos) (tCall sp [] E0 t) := by
  obtain ⟨f, fd, F, hm, hk, hb⟩ := c.ex
  exact pe_callG F hr hgu hg hm hk hb .nil pass0 ha hdb he hpl
theorem Cal.mono {j : Nat} (c : Cal P w K mg base j x ps sp) (h : j ≤ k) : Cal P w K mg base k x ps sp := by
  obtain ⟨f, fd, F, hm, hk, hb⟩ := c.ex
  exact ⟨f, fd, F.mono h, hm, hk, hb⟩
end
/-! ### the law's purse -/
def spPurse : Sp := fun vs H Q _ => ∃ c : Int, vs = [.int c] ∧ ∀ (p : Addr) (x b : Int), H p = none → 0 ≤ x → 0 ≤ b → b < 2147483629 → Q (.ref p) (upd H p (.lst [.int x, .int b, .int 0]))
/-- [max(0, c - 10 ** 18), c % 2147483629, 0] -/
def t_purse : TS := tRet (tLst (tCons (tCB (fun xs H Q => ∃ i j, xs = [.int i, .int j] ∧ Q (.int (if j > i then j else i)) H) (tCons (tC (.int 0)) (tCons (tOp (rI0 fun i j => .int (i - j)) (tVar 0) (tOp (rI CPow fun i j => .int (i ^ j.toNat)) (tC (.int 10)) (tC (.int 18)))) tNil)))
  (tCons (tOp (rI (fun _ j => 0 < j) fun i j => .int (i % j)) (tVar 0) (tC (.int 2147483629))) (tCons (tC (.int 0)) tNil))))
theorem purse_read {vs : List V} {H : Hp} {Q : VK} {E : XK} {N : List Str} (hN : N.length = 1) (h : spPurse vs H Q E) : t_purse { nx := fun _ G => Q .non G, rt := Q } (start N vs) H := by
  obtain ⟨c, rfl, k⟩ := h
  have es : start N [.int c] = [some (.int c)] := by
    unfold L2.start
    rw [hN]
    rfl
  rw [es]
  have z : (10 : Int).natAbs < 2 ^ 64 := by decide
  refine ⟨_, rfl, _, _, rfl, rfl, ⟨by decide, by decide, z⟩, _, _, rfl, rfl, _, _, rfl, _, rfl, _, _, rfl, rfl, (by show (0 : Int) < 2147483629; decide), by show 3 ≤ sizeLine; decide, fun p hp => k p _ _ hp ?_ (Int.emod_nonneg _ (by decide)) (Int.emod_lt_of_pos _ (by decide))⟩
  split <;> omega
/-- r of 0 .. many - 1 -/
def postTake : List D → D → Prop := fun ds d => ∃ m r : Int, ds = [.int m] ∧ d = .int r ∧ 0 ≤ r ∧ r < m
def preTake : List D → Prop := fun ds => ∃ m : Int, ds = [.int m] ∧ 0 < m ∧ m.natAbs.log2 < 9000
abbrev spTake (K : Fg) : Sp := puSp K 1 preTake (fun _ => 1) postTake
abbrev rMd : R2 := rI (fun _ j => 0 < j) fun i j => .int (i % j)
abbrev rDv : R2 := rI CDivW fun i j => .int (i / j)
abbrev rAd : R2 := rI0 fun i j => .int (i + j)
abbrev rMu : R2 := rI CMul fun i j => .int (i * j)
abbrev rPw : R2 := rI CPow fun i j => .int (i ^ j.toNat)
def t_take (K : Fg) (c : Int) : TS :=
  tSeq (tIfS (tTest (tOp (rI0 fun i j => .bl (decide (j < i))) (tOp (rIx K) (tVar 0) (tC (.int 0))) (tC (.int 0))))
    (tSeq (tAsg (tOp rMd (tOp (rIx K) (tVar 0) (tC (.int 0))) (tVar 1)) (gName 2))
    (tSeq (tAsg (tOp rDv (tOp (rIx K) (tVar 0) (tC (.int 0))) (tVar 1)) (gSub (tVar 0) (tC (.int 0)) rSetL))
    (tRet (tVar 2)))) tNext)
  (tSeq (tAsg (tOp rAd (tOp (rIx K) (tVar 0) (tC (.int 2))) (tC (.int 1))) (gSub (tVar 0) (tC (.int 2)) rSetL))
  (tSeq (tAsg (tOp rMd (tOp rPw (tOp rAd (tOp rAd (tOp (rIx K) (tVar 0) (tC (.int 1))) (tOp rMu (tC (.int 7919)) (tOp (rIx K) (tVar 0) (tC (.int 2))))) (tC (.int c))) (tC (.int 5))) (tC (.int 2147483647))) (gName 3))
  (tSeq (tAsg (tOp rMd (tOp rPw (tOp rAd (tOp rAd (tOp rDv (tVar 3) (tC (.int 8))) (tOp rMu (tOp rMu (tC (.int 104729)) (tOp (rIx K) (tVar 0) (tC (.int 2)))) (tOp (rIx K) (tVar 0) (tC (.int 2))))) (tC (.int 3))) (tC (.int 3))) (tC (.int 2147483587))) (gName 4))
  (tRet (tOp rMd (tOp rAd (tOp rDv (tVar 3) (tC (.int 4))) (tOp rMu (tC (.int 536870909)) (tOp rDv (tVar 4) (tC (.int 4))))) (tVar 1))))))
theorem ix_at {K : Fg} {H : Hp} {p : Addr} {xs : List V} {i : Int} {v : V} {Q : VK} (h : H p = some (.lst xs)) (e : atI xs i = some v) (q : Q v H) : rIx K (.ref p) (.int i) H Q := .inl ⟨p, xs, i, v, rfl, rfl, .inl (.inl h), e, q⟩
theorem natAbs_lt {x : Int} {n : Nat} (h1 : 0 ≤ x) (h2 : x < (n : Int)) : x.natAbs < n := by omega
theorem div_ok {i j : Int} (h : 0 < j) (h2 : j < 1073741824) : CDivW i j := wide_div (b := 30) h (by omega) (by decide) (by decide)
theorem take_read {K : Fg} {c : Int} (hc : 0 ≤ c ∧ c ≤ 100000) {vs : List V} {H : Hp} {Q : VK} {E : XK} {N : List Str} (hN : N.length = 5) (h : spTake K vs H Q E) : t_take K c { nx := fun _ G => Q .non G, rt := Q } (start N vs) H := by
  obtain ⟨M, p, us, ds, n, rfl, mp, al, pk, r, hl, ⟨m, rfl, m0, mb⟩, hn, k⟩ := h
  have hn : 1 ≤ n := hn
  have k : ∀ d v H', postTake [.int m] d → (∀ a o, a ≠ p → H a = some o → H' a = some o) → PuOk H' p (n - 1) → Rp K M H' v d → Q v H' := k
  obtain ⟨v, rfl, rv⟩ := rpA1 r
  have e := rp_int rv
  subst e
  have es : start N [.ref p, .int m] = [some (.ref p), some (.int m), none, none, none] := by
    unfold L2.start
    rw [hN]
    rfl
  rw [es]
  obtain ⟨x, b, q, hp, hx, hb0, hb1, hq0, hq1⟩ := pk
  refine ⟨_, rfl, ix_at hp rfl ⟨_, _, rfl, rfl, _, rfl, ite2 (fun hc => ?_) (fun hc => ?_)⟩⟩
  · -- a digit
    refine ⟨_, rfl, ix_at hp rfl ⟨_, rfl, _, _, rfl, rfl, m0, ?_⟩⟩
    refine ⟨_, rfl, ix_at hp rfl ⟨_, rfl, _, _, rfl, rfl, ⟨m0, mb⟩, _, rfl, p, _, 0, 0, rfl, rfl, hp, rfl, ?_⟩⟩
    refine ⟨_, rfl, k (.int (x % m)) _ _ ⟨m, x % m, rfl, rfl, Int.emod_nonneg _ (by omega), Int.emod_lt_of_pos _ m0⟩ (fun a o na e => by rw [upd_ne na]; exact e) ⟨x / m, b, q, upd_same, Int.ediv_nonneg hx (by omega), hb0, hb1, hq0, by omega⟩ (.int _)⟩
  · have nn : (n : Int) ≥ 1 := by omega
    refine ⟨_, rfl, ix_at hp rfl ⟨_, _, rfl, rfl, _, rfl, p, _, 2, 2, rfl, rfl, hp, rfl, ?_⟩⟩
    generalize hH2 : upd H p (.lst ([V.int x, .int b, .int q].set 2 (.int (q + 1)))) = H2
    have hp2 : H2 p = some (.lst [.int x, .int b, .int (q + 1)]) := by rw [← hH2]; exact upd_same
    have hbd : 0 ≤ b + 7919 * (q + 1) + c ∧ b + 7919 * (q + 1) + c < 18446744073709551616 := by constructor <;> omega
    refine ⟨_, rfl, ix_at hp2 rfl ⟨_, rfl, ix_at hp2 rfl ⟨_, _, rfl, rfl, .inl (by constructor <;> decide), _, _, rfl, rfl, _, _, rfl, rfl, _, _, rfl, rfl, ⟨by decide, by decide, natAbs_lt hbd.1 hbd.2⟩, _, _, rfl, rfl, (by show (0 : Int) < 2147483647; decide), ?_⟩⟩⟩
    obtain ⟨one, hone⟩ : ∃ o, o = (b + 7919 * (q + 1) + c) ^ (5 : Int).toNat % 2147483647 := ⟨_, rfl⟩
    have one0 : 0 ≤ one := by rw [hone]; exact Int.emod_nonneg _ (by decide)
    have one1 : one < 2147483647 := by rw [hone]; exact Int.emod_lt_of_pos _ (by decide)
    have q2 : 0 ≤ (q + 1) * (q + 1) := Int.mul_nonneg (by omega) (by omega)
    have q3 : (q + 1) * (q + 1) ≤ 8000000 * 8000000 := Int.mul_le_mul (by omega) (by omega) (by omega) (by omega)
    have q4 : 104729 * (q + 1) * (q + 1) = 104729 * ((q + 1) * (q + 1)) := Int.mul_assoc _ _ _
    have hb2 : 0 ≤ one / 8 + 104729 * (q + 1) * (q + 1) + 3 ∧ one / 8 + 104729 * (q + 1) * (q + 1) + 3 < 18446744073709551616 := by
      rw [q4]
      constructor <;> omega
    rw [hone] at hb2
    refine ⟨_, rfl, _, _, rfl, rfl, div_ok (by decide) (by decide), _, rfl, ix_at hp2 rfl ⟨_, _, rfl, rfl, .inl (by constructor <;> decide), _, rfl, ix_at hp2 rfl ⟨_, _, rfl, rfl, .inl (by constructor <;> omega), _, _, rfl, rfl, _, _, rfl, rfl, _, _, rfl, rfl, ⟨by decide, by decide, natAbs_lt hb2.1 hb2.2⟩, _, _, rfl, rfl, (by show (0 : Int) < 2147483587; decide), ?_⟩⟩⟩
    refine ⟨_, rfl, _, _, rfl, rfl, div_ok (by decide) (by decide), _, rfl, _, _, rfl, rfl, div_ok (by decide) (by decide), _, _, rfl, rfl, .inl (by constructor <;> decide), _, _, rfl, rfl, _, rfl, _, _, rfl, rfl, m0, ?_⟩
    refine k _ _ _ ⟨m, _, rfl, rfl, Int.emod_nonneg _ (by omega), Int.emod_lt_of_pos _ m0⟩ (fun a o na e => by rw [← hH2, upd_ne na]; exact e) ⟨x, b, q + 1, hp2, hx, hb0, hb1, by omega, by omega⟩ (.int _)
/-- purse = _law_purse(c) -/
theorem wS_purse {C : Ct} {y : S} {e : En} {ts : TA} {E : XK} {i : Nat} (w : wD C ts y fun ds y1 => ∃ c : Int, ds = [.int c] ∧ e.nx (y1.set i (some (.pu 8000000)))) (hp : i ≠ 0 ∨ C.pp = false := by first | exact Or.inr rfl | exact Or.inl (by decide)) :
    wS C (tAsg (tCall spPurse [] E ts) (gName i)) y e := by
  intro F σ H E st wd k
  refine w F σ H _ wd fun vs H1 ds y1 w1 g1 s1 r1 ⟨c, hc, q⟩ => ?_
  subst hc
  obtain ⟨v, rfl, rv⟩ := rpA1 r1
  refine ⟨c, by rw [rp_int rv]; rfl, fun p x b hn hx hb hb2 => ?_⟩
  obtain ⟨w2, g2⟩ := w1.set_own (i := i) (o := .lst [.int x, .int b, .int 0]) (z := .pu 8000000) rfl hn hp fun M g => ⟨p, rfl, x, b, 0, upd_same, hx, hb, hb2, by decide, by decide⟩
  exact k.nx _ _ _ w2 (g1.trans g2) q
end Tq

set_option maxRecDepth 100000
set_option maxHeartbeats 2000000
/-! The rules that speak of the written part, with that part told (so that they serve within a comprehension's block, too) -/
namespace Tq
open PySem PySem.Spec PyProof.Rows L2
abbrev rLenD (K : Fg) : List V → Hp → VK → Prop := fun xs H Q => ∃ x n, xs = [x] ∧ LenV K x H n ∧ Q (.int (n : Nat)) H
abbrev rListD (K : Fg) : List V → Hp → VK → Prop := fun xs H Q => ∃ p ys, xs = [.ref p] ∧ (SqL K H p ys ∨ SqT K H p ys) ∧ ∀ l, H l = none → Q (.ref l) (upd H l (.lst ys))
abbrev rTupD (K : Fg) : List V → Hp → VK → Prop := fun xs H Q => ∃ p ys, xs = [.ref p] ∧ ((SqL K H p ys ∧ ∀ l, H l = none → Q (.ref l) (upd H l (.tup ys))) ∨ (SqT K H p ys ∧ Q (.ref p) H))
def iAny (K : Fg) (tl : TE) : TI := fun σ H R => iList K tl σ H R ∨ iTup K tl σ H R
section
variable {X : Cx} (K : Fg)
theorem ixK (h : X.K = K := by rfl) : IxR X (rIx K) := h ▸ ix_seq
theorem catK (h : X.K = K := by rfl) : OpR X (binaryOp .Add) (rCatG K) := h ▸ op_catG
theorem eqK (hu : X.A.units + 64 < cLine) (h : X.K = K := by rfl) : OpR X (compareOp .Eq) (rEqD K) := h ▸ op_eqD hu
theorem neK (hu : X.A.units + 64 < cLine) (h : X.K = K := by rfl) : OpR X (compareOp .NotEq) (rNeD K) := h ▸ op_neD hu
theorem inK (h : X.K = K := by rfl) : OpR X (compareOp .In) (rIn K false) := h ▸ op_in_seq
theorem notInK (h : X.K = K := by rfl) : OpR X (compareOp .NotIn) (rIn K true) := h ▸ op_notIn_seq
theorem lenK (h : X.K = K := by rfl) : CallR X (.builtin "len") (rLenD K) := h ▸ call_len
theorem allK (hc : X.calm = true) (h : X.K = K := by rfl) : CallR X (.builtin "all") (rAll K) := h ▸ cr_all hc
theorem isiK (h : X.K = K := by rfl) : CallR X (.builtin "isinstance") (rIsi K) := h ▸ call_isi
theorem isiTK (h : X.K = K := by rfl) : CallR X (.builtin "isinstance") (rIsiT K) := h ▸ call_isiT
theorem reprK (hg : X.A.guards = some []) (hu : X.A.units + 64 < cLine) (h : X.K = K := by rfl) : CallR X (.builtin "repr") (rRepr K) := h ▸ call_reprD hg hu
theorem piL {tg l : Expr} {tl : TE} (hl : PE X l tl) (h : X.K = K := by rfl) : PI X tg l (iList K tl) := h ▸ pi_list hl
theorem piT {tg l : Expr} {tl : TE} (hl : PE X l tl) (h : X.K = K := by rfl) : PI X tg l (iTup K tl) := h ▸ pi_tup hl
theorem piA {tg l : Expr} {tl : TE} (hl : PE X l tl) (h : X.K = K := by rfl) : PI X tg l (iAny K tl) :=
  ⟨fun pins s σ H R I q => q.elim (fun z => (piL K hl h).run pins s σ H R I z) fun z => (piT K hl h).run pins s σ H R I z⟩
theorem pgT {pos : Pos} {es : List Expr} {k : Nat} {t : TGs} {n : Nat} (hc : X.calm = true) (g : PGs X es t) (h : X.K = K := by rfl) (hn : (assignEach es X.env).length = n := by rfl) (hst : (assignEach es X.env).findIdx? (·.1) = none := by rfl) :
    PG X (.Tuple es k pos) (gTup K n t) := h ▸ pg_tup hc g hn hst
end
section
variable {C : Ct} {y : S} {Qi : List D → S → Prop}
theorem wI_any {i : Nat} {d : D} {xs : List D} (h : y[i]? = some (some (.d d))) (hx : dItems d = some xs) (q : Qi xs y) : wI C (iAny C.K (tVar i)) y Qi := by
  intro F σ H R wd k
  cases d with
  | list us =>
    cases hx
    exact .inl (wI_list (wE_var h ⟨_, rfl, q⟩) F σ H R wd k)
  | tuple us =>
    cases hx
    exact .inr (wI_tup (wE_var h ⟨_, rfl, q⟩) F σ H R wd k)
  | _ => cases hx
end
end Tq

set_option maxRecDepth 100000
set_option maxHeartbeats 4000000
namespace Tq
open PySem PySem.Spec PyProof.Rows L2
theorem len1 {ds : List D} (h : ds.length = 1) : ∃ x, ds = [x] := match ds, h with | [x], _ => ⟨x, rfl⟩
theorem len0 {ds : List D} (h : ds.length = 0) : ds = [] := match ds, h with | [], _ => rfl
/-! kinds -/
def isNum : D → Bool
  | .int _ => true
  | _ => false
theorem isT_int (d : D) : isT "int" d = (match d with | .int _ => true | .bool _ => true | _ => false) := by
  cases d with
  | none => show (kitB "NoneType" "int").getD false = false; decide +kernel
  | bool _ => show (kitB "bool" "int").getD false = true; decide +kernel
  | int _ => show (kitB "int" "int").getD false = true; decide +kernel
  | str _ => show (kitB "str" "int").getD false = false; decide +kernel
  | list _ => show (kitB "list" "int").getD false = false; decide +kernel
  | tuple _ => show (kitB "tuple" "int").getD false = false; decide +kernel
  | dict _ => show (kitB "dict" "int").getD false = false; decide +kernel
theorem isT_bool (d : D) : isT "bool" d = (match d with | .bool _ => true | _ => false) := by
  cases d with
  | none => show (kitB "NoneType" "bool").getD false = false; decide +kernel
  | bool _ => show (kitB "bool" "bool").getD false = true; decide +kernel
  | int _ => show (kitB "int" "bool").getD false = false; decide +kernel
  | str _ => show (kitB "str" "bool").getD false = false; decide +kernel
  | list _ => show (kitB "list" "bool").getD false = false; decide +kernel
  | tuple _ => show (kitB "tuple" "bool").getD false = false; decide +kernel
  | dict _ => show (kitB "dict" "bool").getD false = false; decide +kernel
theorem isT_str (d : D) : isT "str" d = (match d with | .str _ => true | _ => false) := by
  cases d with
  | none => show (kitB "NoneType" "str").getD false = false; decide +kernel
  | bool _ => show (kitB "bool" "str").getD false = false; decide +kernel
  | int _ => show (kitB "int" "str").getD false = false; decide +kernel
  | str _ => show (kitB "str" "str").getD false = true; decide +kernel
  | list _ => show (kitB "list" "str").getD false = false; decide +kernel
  | tuple _ => show (kitB "tuple" "str").getD false = false; decide +kernel
  | dict _ => show (kitB "dict" "str").getD false = false; decide +kernel
theorem isT_list (d : D) : isT "list" d = (match d with | .list _ => true | _ => false) := by
  cases d with
  | none => show (kitB "NoneType" "list").getD false = false; decide +kernel
  | bool _ => show (kitB "bool" "list").getD false = false; decide +kernel
  | int _ => show (kitB "int" "list").getD false = false; decide +kernel
  | str _ => show (kitB "str" "list").getD false = false; decide +kernel
  | list _ => show (kitB "list" "list").getD false = true; decide +kernel
  | tuple _ => show (kitB "tuple" "list").getD false = false; decide +kernel
  | dict _ => show (kitB "dict" "list").getD false = false; decide +kernel
theorem isT_tuple (d : D) : isT "tuple" d = (match d with | .tuple _ => true | _ => false) := by
  cases d with
  | none => show (kitB "NoneType" "tuple").getD false = false; decide +kernel
  | bool _ => show (kitB "bool" "tuple").getD false = false; decide +kernel
  | int _ => show (kitB "int" "tuple").getD false = false; decide +kernel
  | str _ => show (kitB "str" "tuple").getD false = false; decide +kernel
  | list _ => show (kitB "list" "tuple").getD false = false; decide +kernel
  | tuple _ => show (kitB "tuple" "tuple").getD false = true; decide +kernel
  | dict _ => show (kitB "dict" "tuple").getD false = false; decide +kernel
theorem isT_dict (d : D) : isT "dict" d = (match d with | .dict _ => true | _ => false) := by
  cases d with
  | none => show (kitB "NoneType" "dict").getD false = false; decide +kernel
  | bool _ => show (kitB "bool" "dict").getD false = false; decide +kernel
  | int _ => show (kitB "int" "dict").getD false = false; decide +kernel
  | str _ => show (kitB "str" "dict").getD false = false; decide +kernel
  | list _ => show (kitB "list" "dict").getD false = false; decide +kernel
  | tuple _ => show (kitB "tuple" "dict").getD false = false; decide +kernel
  | dict _ => show (kitB "dict" "dict").getD false = true; decide +kernel
theorem isNum_eq (d : D) : isNum d = (isT "int" d && !isT "bool" d) := by
  rw [isT_int, isT_bool]
  cases d <;> rfl
/-- tests on ints -/
theorem eqv_int (i j : Int) : PyData.eqv (.int i) (.int j) = decide (i = j) := by
  simp only [PyData.eqv]
  first | rfl | (by_cases h : i = j <;> simp [h])
theorem sz_small {n : Nat} (h : n ≤ 100000) : n ≤ sizeLine := Nat.le_trans h (by decide)
theorem log2_lt {x : Int} {n : Nat} (h : x.natAbs < 2 ^ n) (h0 : 0 < n) : x.natAbs.log2 < n := PySem.Flt.log2_lt_of h0 h
theorem itb_t {b : Bool} {A B : Prop} (h : b = true) (a : A) : if b = true then A else B := by rw [if_pos h]; exact a
theorem itb_f {b : Bool} {A B : Prop} (h : b = false) (a : B) : if b = true then A else B := by rw [if_neg (by rw [h]; simp)]; exact a
/-- B, then the side A -/
theorem and_sw {A B : Prop} (b : B) (a : A) : A ∧ B := ⟨a, b⟩
/-! the numbers' common divisor -/
def gcdI (a b : Int) : Int := (Nat.gcd a.natAbs b.natAbs : Nat)
theorem gcd_turn {a b : Int} (ha : 0 ≤ a) (hb : 0 < b) : gcdI b (a % b) = gcdI a b := by
  unfold gcdI
  have h1 : (a % b).natAbs = a.natAbs % b.natAbs := by
    obtain ⟨n, rfl⟩ := Int.eq_ofNat_of_zero_le ha
    obtain ⟨m, rfl⟩ := Int.eq_ofNat_of_zero_le (show 0 ≤ b by omega)
    rw [← Int.natCast_emod, Int.natAbs_natCast, Int.natAbs_natCast, Int.natAbs_natCast]
  rw [h1]
  congr 1
  rw [Nat.gcd_comm a.natAbs b.natAbs, Nat.gcd_comm b.natAbs (a.natAbs % b.natAbs)]
  exact (Nat.gcd_rec b.natAbs a.natAbs).symm
theorem gcd_zero {a : Int} (ha : 0 ≤ a) : gcdI a 0 = a := by
  unfold gcdI
  simp
  omega
theorem gcd_abs (a b : Int) : gcdI (if a < 0 then -a else a) (if b < 0 then -b else b) = gcdI a b := by
  unfold gcdI
  congr 2 <;> (split <;> omega)
/-! promises of defs whose answer is a function of what is handed in -/
abbrev a0 (ds : List D) : D := ds.getD 0 .none
abbrev a1 (ds : List D) : D := ds.getD 1 .none
abbrev a2 (ds : List D) : D := ds.getD 2 .none
abbrev detSp (K : Fg) (n : Nat) (pre : List D → Prop) (G : List D → D) : Sp := pureSp K n pre (fun ds d => d = G ds)
theorem wE_det {C : Ct} {y : S} {ts : TA} {Q : Z → S → Prop} {E : XK} {n : Nat} {pre : List D → Prop} {G : List D → D} (w : wD C ts y fun ds y1 => (ds.length = n ∧ pre ds) ∧ Q (.d (G ds)) y1) : wE C (tCall (detSp C.K n pre G) [] E ts) y Q :=
  wE_pure (wD_mono w fun ds y1 ⟨⟨h1, h2⟩, q⟩ => ⟨h1, h2, fun d e => by subst e; exact q⟩)
abbrev sp_law_cell (K : Fg) : Sp := pureSp K 2 (fun ds => ∃ (ns : List Int) (k : Int), ds = [.list (ns.map PyData.int), .int k] ∧ 0 ≤ k ∧ k < 1000) (fun _ d => ∃ n : Int, d = .int n)
abbrev sp_law_purse (K : Fg) : Sp := spPurse
abbrev sp_law_take (K : Fg) : Sp := spTake K
abbrev sp_is_number (K : Fg) : Sp := detSp K 1 (fun _ => True) (fun ds => .bool (isNum (a0 ds)))
section
variable {C : Ct} {y : S} {te : TE} {Q : Z → S → Prop} {E : XK}
/-- a draw -/
theorem wE_take {i m0 : Nat} (hi : y[i]? = some (some (.pu m0))) (w : wE C te y fun z y1 => ∃ (k : Int) (m : Nat), z = .d (.int k) ∧ y1[i]? = some (some (.pu m)) ∧ (0 < k ∧ k ≤ 10 ^ 40 ∧ 1 ≤ m) ∧ ∀ r : Int, 0 ≤ r → r < k → Q (.d (.int r)) (y1.set i (some (.pu (m - 1))))) :
    wE C (tCall (spTake C.K) [] E (tCons (tVar i) (tCons te tNil))) y Q := by
  refine wE_pu hi (wD_cons (wE_mono w fun z y1 ⟨k, m, e, hm, ⟨h0, h1, h2⟩, q⟩ => ⟨_, e, wD_nil ⟨m, hm, rfl, ⟨k, rfl, h0, ?_⟩, h2, fun d hd => ?_⟩⟩))
  · have hb : k.natAbs < 2 ^ 200 := Nat.lt_of_le_of_lt (show k.natAbs ≤ 10 ^ 40 by omega) (by decide)
    exact Nat.lt_of_lt_of_le (log2_lt hb (by decide)) (by decide)
  · obtain ⟨k', r, e1, e2, h3, h4⟩ := hd
    cases e1
    subst e2
    exact q r h3 h4
theorem wE_powN {a : Int} {n : Nat} (q : Q (.d (.int (a ^ (OfNat.ofNat n : Nat)))) y) (ha : a.natAbs < 2 ^ 64 := by decide) (hn : n ≤ 1000000 := by decide) : wE C (tOp (rI CPow fun i j => .int (i ^ j.toNat)) (tC (.int a)) (tC (.int (OfNat.ofNat n)))) y Q := by
  refine wE_pow (wE_int (wE_int ⟨_, _, rfl, rfl, ⟨?_, ?_, ha⟩, q⟩))
  · show (0 : Int) ≤ (n : Nat); omega
  · show ((n : Nat) : Int) ≤ 1000000; omega
theorem wE_dispS {k : Str} {v : V} {d : D} (s : Sc v d) (h : Q (.d (.dict [(.str k, d)])) y) : wE C (tDisp [(tC (.str k), tC v)]) y Q := wE_disp1 (kk := .inr k) s h
theorem wE_dispI {k : Int} {v : V} {d : D} (s : Sc v d) (h : Q (.d (.dict [(.int k, d)])) y) : wE C (tDisp [(tC (.int k), tC v)]) y Q := wE_disp1 (kk := .inl k) s h
end
/-! == of plain things -/
def scalD : D → D → Bool
  | .int _, .int _ => true
  | .str _, .str _ => true
  | .bool _, .bool _ => true
  | .none, .none => true
  | _, _ => false
def eqS : D → D → Bool
  | .int i, .int j => decide (i = j)
  | .str i, .str j => decide (i = j)
  | .bool i, .bool j => decide (i = j)
  | .none, .none => true
  | _, _ => false
section
variable {C : Ct} {y : S} {ta tb : TE} {Q : Z → S → Prop}
theorem eqS_ok {K : Fg} {M : Addr → Prop} {H : Hp} {x u : V} {d e : D} (rx : Rp K M H x d) (ru : Rp K M H u e) (h : scalD d e = true) : scal x u = true ∧ decide (x = u) = eqS d e := by
  cases rx <;> cases ru <;> first | (cases h; done) | (refine ⟨rfl, ?_⟩; simp [eqS])
theorem wE_eqS (w : wE C ta y fun z y1 => wE C tb y1 fun z' y2 => ∃ d e, z = .d d ∧ z' = .d e ∧ scalD d e = true ∧ Q (.d (.bool (eqS d e))) y2) : wE C (tOp rEq ta tb) y Q := by
  refine wE_op (res := fun d e r => scalD d e = true ∧ r = .bool (eqS d e)) ?_ (wE_mono w fun z y1 h => wE_mono h fun z' y2 ⟨d, e, e1, e2, s, q⟩ => ⟨_, _, _, e1, e2, ⟨s, rfl⟩, q⟩)
  rintro M H x u d e r Q _ rx ru ⟨s, rfl⟩ k
  obtain ⟨h1, h2⟩ := eqS_ok rx ru s
  refine ⟨h1, ?_⟩
  rw [h2]
  exact k _ H (fun _ _ e => e) (.bl _)
theorem wE_neS (w : wE C ta y fun z y1 => wE C tb y1 fun z' y2 => ∃ d e, z = .d d ∧ z' = .d e ∧ scalD d e = true ∧ Q (.d (.bool (!eqS d e))) y2) : wE C (tOp rNe ta tb) y Q := by
  refine wE_op (res := fun d e r => scalD d e = true ∧ r = .bool (!eqS d e)) ?_ (wE_mono w fun z y1 h => wE_mono h fun z' y2 ⟨d, e, e1, e2, s, q⟩ => ⟨_, _, _, e1, e2, ⟨s, rfl⟩, q⟩)
  rintro M H x u d e r Q _ rx ru ⟨s, rfl⟩ k
  obtain ⟨h1, h2⟩ := eqS_ok rx ru s
  refine ⟨h1, ?_⟩
  rw [h2]
  exact k _ H (fun _ _ e => e) (.bl _)
end
end Tq

set_option maxRecDepth 100000
set_option maxHeartbeats 4000000
namespace Tq
open PySem PySem.Spec PyProof.Rows L2
/-! ### the law's own promise -/
def spLaw (K : Fg) : Sp := fun vs H Q _ => ∃ (a : Addr) (ns : List Int), vs = [.ref a] ∧ SqL K H a (ns.map V.int) ∧ ns.length ≤ 63 ∧ ∀ H', Q (.bl true) H'
theorem spLaw_len {K : Fg} {x : Str} : ∀ vs H Q E, spLaw K vs H Q E → vs.length = [x].length := by
  rintro vs H Q E ⟨a, ns, rfl, _⟩
  rfl
theorem law_body {K : Fg} {N : List Str} {t : TS} {vs : List V} {H : Hp} {Q : VK} {E : XK} (h : spLaw K vs H Q E) (b : ∀ ns : List Int, ns.length ≤ 63 → ∀ e : En, (∀ y, e.rt (.d (.bool true)) y) → wS ⟨K, false⟩ t (y0 N [.list (ns.map PyData.int)]) e) :
    t { nx := fun _ G => Q .non G, rt := Q } (start N vs) H := by
  obtain ⟨a, ns, rfl, hs, hl, k⟩ := h
  refine pure_body (K := K) (n := 1) (pre := fun ds => ds = [.list (ns.map PyData.int)]) (post := fun _ d => d = .bool true) (Q := Q) (E := fun _ _ _ => False) ⟨fun _ => False, [.list (ns.map PyData.int)], fun a z => z.elim, .cons (.lst ?_ (rpA_int ns)) .nil, rfl, rfl, fun d v H' e _ r => ?_⟩ ?_
  · rcases hs with hs | hs
    · exact .inl ⟨fun z => z, hs⟩
    · exact .inr hs
  · subst e
    rw [rp_bl r]
    exact k H'
  · rintro ds _ rfl e hn hr
    exact b ns hl e fun y => hr _ y rfl
/-! ### kinds of things: the program's, the law's -/
abbrev sp_common (K : Fg) : Sp := detSp K 2 (fun ds => ∃ a b, ds = [.int a, .int b]) (fun ds => .int (match ds with | [.int a, .int b] => gcdI a b | _ => 0))
def fracB : D → Bool
  | .tuple [.int a, .int b] => decide (1 ≤ b) && decide (gcdI a b = 1)
  | _ => false
abbrev sp_is_fraction (K : Fg) : Sp := detSp K 1 (fun _ => True) (fun ds => .bool (fracB (a0 ds)))
abbrev sp_law_common (K : Fg) : Sp := sp_common K
def odds : List D := [.none, .bool true, .bool false, .int 0, .int (-1), .int 7, .int (10 ^ 29), .int (-(10 ^ 29)), .str "", .str "a", .str "7", .str "-3/7", .str "3;7", .str "floor", .list [], .list [.int 1], .list [.str "a"],
  .tuple [], .tuple [.int 1], .tuple [.int 3, .int 7], .tuple [.int 4, .int 2], .tuple [.int 3, .int 0], .tuple [.int 3, .int (-7)], .tuple [.bool true, .int 2], .list [.int 3, .int 7], .tuple [.int 3, .int 7, .int 1], .dict [], .dict [(.str "a", .int 1)], .dict [(.int 7, .none)],
  .list [.list [.list [.list [.list [.str "a"]]]]], .tuple [.tuple [.int 1, .int 0], .tuple [.int 0, .int 1]]]
abbrev sp_law_odd (K : Fg) : Sp := puSp K 0 (fun _ => True) (fun _ => 1) (fun _ d => d ∈ odds)
abbrev sp_law (K : Fg) : Sp := spLaw K
theorem atI_mem {α : Type} {xs : List α} {i : Int} (h0 : 0 ≤ i) (h1 : i < xs.length) : ∃ x, atI xs i = some x ∧ x ∈ xs := by
  obtain ⟨n, rfl⟩ := Int.eq_ofNat_of_zero_le h0
  have hn : n < xs.length := by omega
  exact ⟨xs[n], atI_nat (List.getElem?_eq_getElem hn), List.getElem_mem hn⟩
theorem dCut_str {t : Str} (h : t.length ≤ 1000) (lo hi : Option Int) : dCut (.str t) lo hi = some (.str (cutS t lo hi)) := if_pos (sz_small (by omega))
/-! what repr is asked of -/
def ShOk (d : D) : Prop := dsm d = true ∧ d.showable = true ∧ d.depth ≤ 60 ∧ d.shown.length ≤ sizeLine
theorem wE_reprS {C : Ct} {y : S} {te : TE} {Q : Z → S → Prop} (w : wE C te y fun z y1 => ∃ d, z = .d d ∧ ShOk d ∧ Q (.d (.str d.shown)) y1) : wE C (tCB (rRepr C.K) (tCons te tNil)) y Q :=
  wE_repr (wD_cons (wE_mono w fun z y1 ⟨d, e, ⟨h1, h2, h3, h4⟩, q⟩ => ⟨d, e, wD_nil ⟨d, rfl, h1, h2, h3, h4, q⟩⟩))
theorem gcd_pos {a b : Int} (h : b ≠ 0) : 0 < gcdI a b := by
  unfold gcdI
  have : 0 < Nat.gcd a.natAbs b.natAbs := Nat.gcd_pos_of_pos_right _ (by omega)
  omega
end Tq

set_option maxRecDepth 100000
set_option maxHeartbeats 4000000
namespace Tq
open PySem PySem.Spec PyProof.Rows L2
theorem sz_lt1 {n : Nat} (h : n < 100000) : n < sizeLine := Nat.lt_of_lt_of_le h (by decide)
theorem wS_norm {C : Ct} {t : TS} {y y' : S} {e : En} (h : y = y') (w : wS C t y' e) : wS C t y e := h ▸ w
/-! ### what is known of the slots may be forgotten -/
def Less (y' y : S) : Prop := y'.length = y.length ∧ ∀ (i : Nat) (z : Y), y'[i]? = some (some z) → y[i]? = some (some z)
theorem Less.isO {y' y : S} (h : Less y' y) {i : Nat} (o : Tq.isO y' i = true) : Tq.isO y i = true := by
  unfold Tq.isO at o
  cases q : y'[i]? with
  | none => rw [q] at o; cases o
  | some u =>
    cases u with
    | none => rw [q] at o; cases o
    | some z =>
      rw [q] at o
      rw [isO_of (h.2 i z q)]
      exact o
theorem Wd.weak {C : Ct} {F : Fr} {σ : St} {y y' : S} {H : Hp} (w : Wd C F σ y H) (h : Less y' y) : Wd C F σ y' H ∧ Go F σ y H σ y' H := by
  have own : ∀ a, Own σ y' a → Own σ y a := fun a ⟨i, o, e⟩ => ⟨i, h.isO o, e⟩
  have g : Go F σ y H σ y' H := fun a o n e => ⟨fun z => n (z.elim .inl fun z => .inr (own a z)), e⟩
  exact ⟨⟨w.keep, w.live0, w.live, w.len.trans h.1.symm, fun i z e => slots_go g (fun _ _ _ _ e => e) (w.slot i z (h.2 i z e)), fun i j a o1 o2 => w.dist i j a (h.isO o1) (h.isO o2), fun a o => w.frsh a (own a o), w.pin, w.sm, fun st i a o => w.nb st i a (h.isO o)⟩, g⟩
theorem wS_weak {C : Ct} {t : TS} {y y' : S} {e : En} (w : wS C t y' e) (h : Less y' y) : wS C t y e := by
  intro F σ H E st wd k
  obtain ⟨w1, g1⟩ := wd.weak h
  exact w F σ H E st w1 (k.go g1)
abbrev rMx : List V → Hp → VK → Prop := fun xs H Q => ∃ i j, xs = [.int i, .int j] ∧ Q (.int (if j > i then j else i)) H
abbrev rMn : List V → Hp → VK → Prop := fun xs H Q => ∃ i j, xs = [.int i, .int j] ∧ Q (.int (if j < i then j else i)) H
/-- what stands between two cells: the script alone is known -/
def cellEnd (n : Nat) (s : D) (y : S) : Prop := y.length = n + 2 ∧ y[0]? = some (some (.d s))
/-- for _law_k in range(max(2, min(c, len(script)))): tb; return True -/
theorem law_loop {K : Fg} {tb : TS} {e : En} {ns : List Int} {c : Int} {n : Nat} (hc : 0 ≤ c ∧ c ≤ 900) (hz : ∀ y, e.rt (.d (.bool true)) y)
    (hb : ∀ k : Int, 0 ≤ k → k < 1000 → wS ⟨K, false⟩ tb (some (.d (.list (ns.map PyData.int))) :: some (.d (.int k)) :: List.replicate n none)
      { nx := cellEnd n (.list (ns.map PyData.int)), ct := cellEnd n (.list (ns.map PyData.int)), bk := fun y1 => wS ⟨K, false⟩ (tRet (tC (.bl true))) y1 e, rt := e.rt }) :
    wS ⟨K, false⟩ (tSeq (tFor (iRng1 (tCons (tCB rMx (tCons (tC (.int 2)) (tCons (tCB rMn (tCons (tC (.int c)) (tCons (tCB (rLenD K) (tCons (tVar 0) tNil)) tNil))) tNil))) tNil)) (gName 1) tb) (tRet (tC (.bl true))))
      (some (.d (.list (ns.map PyData.int))) :: none :: List.replicate n none) e := by
  refine wS_seq (wS_for (wI_rng1 (wD_cons (wE_max2 (wD_cons (wE_int ⟨_, rfl, wD_cons (wE_min2 (wD_cons (wE_int ⟨_, rfl, wD_cons (wE_len (wD_cons (wE_var rfl ⟨_, rfl, wD_nil ⟨_, _, rfl, rfl, ?_⟩⟩))) ⟩)))⟩))))))
  refine ⟨_, rfl, wD_nil ⟨_, _, rfl, _, rfl, wD_nil ⟨_, _, rfl, _, rfl, wD_nil ⟨_, rfl, ?_⟩⟩⟩⟩
  rw [List.length_map]
  generalize hj : (if (if (ns.length : Int) < c then (ns.length : Int) else c) > 2 then (if (ns.length : Int) < c then (ns.length : Int) else c) else 2) = j
  have h1 : 2 ≤ j ∧ j ≤ 900 := by
    rw [← hj]
    constructor
    · split <;> omega
    · split
      · split <;> omega
      · omega
  refine ⟨by omega, by omega, fun _ y => cellEnd n (.list (ns.map PyData.int)) y, ⟨by simp, rfl⟩, fun i x y2 hx ⟨hy1, hy2⟩ => ?_, fun y2 _ => wS_ret (wE_bl (hz _))⟩
  obtain ⟨hi, rfl⟩ := rangeD_get hx
  refine wG_name (wS_weak (hb (0 + (i : Int)) (by omega) (by omega)) ⟨by rw [List.length_set, hy1]; simp, fun k z e => ?_⟩)
  match k, e with
  | 0, e =>
    cases e
    rw [List.getElem?_set_ne (by decide)]
    exact hy2
  | 1, e =>
    cases e
    exact List.getElem?_set_self (by omega)
  | k + 2, e =>
    have e2 : (List.replicate n (none : Option Y))[k]? = some (some z) := e
    rw [List.getElem?_replicate] at e2
    split at e2 <;> cases e2
end Tq

set_option maxRecDepth 100000
set_option maxHeartbeats 4000000
namespace Tq
open PySem PySem.Spec PyProof.Rows L2
theorem less_nil : Less [] [] := ⟨rfl, fun i z e => e⟩
theorem less_none {a b : S} {z : Option Y} (h : Less a b) : Less (none :: a) (z :: b) := by
  refine ⟨congrArg (· + 1) h.1, fun i u e => ?_⟩
  cases i with
  | zero => cases e
  | succ i => exact h.2 i u e
theorem less_some {a b : S} {z : Option Y} (h : Less a b) : Less (z :: a) (z :: b) := by
  refine ⟨congrArg (· + 1) h.1, fun i u e => ?_⟩
  cases i with
  | zero => exact e
  | succ i => exact h.2 i u e
theorem less_set {a b : S} {i : Nat} {z : Option Y} (h : Less a b) : Less (a.set i z) (b.set i z) := by
  refine ⟨by rw [List.length_set, List.length_set, h.1], fun j u e => ?_⟩
  rw [List.getElem?_set] at e ⊢
  rw [← h.1]
  split at e
  · next q => rw [if_pos q]; exact e
  · next q => rw [if_neg q]; exact h.2 j u e
theorem eqS_self (t : Str) : eqS (.str t) (.str t) = true := by simp [eqS]
end Tq

set_option maxRecDepth 100000
set_option maxHeartbeats 4000000
namespace Tq
open PySem PySem.Spec PyProof.Rows L2
/-! ### what the top has written -/
theorem df_mk {K : Fg} {h : Heap} {mg : Str → Option Value} {x : Str} {st : Stmt} {ps : List Str} {f : Addr} {od an : Option Addr} {sl : Array (Option Value)} {oc kV dc pm cd ct : Value} (X : K.In h) (G : h.Ns mainGlobals mg)
    (hb : ∀ (kV dc pm : Value) (an : Option Addr) (cd ct : Value) (us : List Value), us.length = ps.length → bindArgs (PySem.W.fnOf x x (defArgs st) (defBody st) (defScope st) .none kV dc pm an cd ct) ⟨us, []⟩ = pure (ps.zip us))
    (a : PySem.W.nsIn K mainGlobals x = some (some (.ref f))) (l : K.lookup f = some ⟨oc, od, .func (PySem.W.fnOf x x (defArgs st) (defBody st) (defScope st) .none kV dc pm an cd ct), sl⟩) (c : PySem.W.codeIn K cd x = true) (k : PySem.W.keepIn K (.ref f) = true) : Df K mg x st ps :=
  ⟨f, _, fun_mk l c k, PySem.W.mg_of X G a, (fun_mk l c k).binds hb⟩
theorem law_mk {P : Program} {w : World} {K : Fg} {h : Heap} {mg : Str → Option Value} {st : Stmt} {x : Str} {f fa : Addr} {n : Nat} {sp : Sp} {od an : Option Addr} {sl : Array (Option Value)} {oc kV dc pm cd ct : Value} (X : K.In h) (G : h.Ns mainGlobals mg) (hfa : mg "law" = some (.ref fa))
    (ok : ∀ (base : Heap) (f : Addr) (fd : FuncData), Fun K "law" "law" st f fd → FnG P w K mg base CX0 n f fd [x] sp)
    (hb : ∀ (kV dc pm : Value) (an : Option Addr) (cd ct : Value) (s : Shared) (u : Value), BindsTo s (PySem.W.fnOf "law" "law" (defArgs st) (defBody st) (defScope st) .none kV dc pm an cd ct) ⟨[u], []⟩ [(x, u)])
    (a : PySem.W.nsIn K mainGlobals "law" = some (some (.ref f))) (l : K.lookup f = some ⟨oc, od, .func (PySem.W.fnOf "law" "law" (defArgs st) (defBody st) (defScope st) .none kV dc pm an cd ct), sl⟩) (c : PySem.W.codeIn K cd "law" = true) (k : PySem.W.keepIn K (.ref f) = true) :
    ∃ fd : FuncData, (∀ (s : Shared) (u : Value), BindsTo s fd ⟨[u], []⟩ [(x, u)]) ∧ ∀ base : Heap, K.In base → base.Ns mainGlobals mg → FnG P w K mg base CX0 n fa fd [x] sp := by
  have e := hfa.symm.trans (PySem.W.mg_of X G a)
  cases e
  exact ⟨_, hb kV dc pm an cd ct, fun base _ _ => ok base _ _ (fun_mk l c k)⟩
end Tq

set_option maxRecDepth 100000
set_option maxHeartbeats 4000000
namespace Tq
open PySem PySem.Spec PyProof.Rows L2
open PySem.Builtin.Str (occurrences subAt)
open PySem.NumText (digitsVal AllDigits)
/-! ### numbers in texts -/
abbrev rIndex : V → List V → Hp → VK → Prop := fun x xs H Q => ∃ a b i r, x = .str a ∧ xs = [.str b] ∧ occurrences a b 0 a.length 1 = i :: r ∧ Q (.int (i : Nat)) H
theorem wE_index {C : Ct} {ta tb : TE} {y : S} {Q : Z → S → Prop} (w : wE C ta y fun z y1 => ∃ a, z = .d (.str a) ∧ wE C tb y1 fun z' y2 => ∃ b i r, z' = .d (.str b) ∧ occurrences a b 0 a.length 1 = i :: r ∧ Q (.d (.int (i : Nat))) y2) :
    wE C (tM1 rIndex ta tb) y Q := by
  intro F σ H K wd k
  refine w F σ H _ wd fun x H1 z y1 w1 g1 s1 r1 q1 => ?_
  obtain ⟨a, rfl, q1⟩ := q1
  have e := rp_str r1
  subst e
  refine ⟨⟨a, rfl⟩, q1 F σ H1 _ w1 fun x2 H2 z' y2 w2 g2 s2 r2 q2 => ?_⟩
  obtain ⟨b, i, r, rfl, ho, hq⟩ := q2
  exact ⟨a, b, i, r, rfl, by rw [rp_str r2], ho, k _ H2 (.d (.int _)) y2 w2 (g1.trans g2) (s1.trans s2) (.int _) hq⟩
end Tq

set_option maxRecDepth 100000
set_option maxHeartbeats 4000000
namespace Tq
open PySem PySem.Spec PyProof.Rows L2
/-! ### what repr shows, bounded -/
structure Shw (b k : Nat) (d : D) : Prop where
  nd : d.hasDict = false
  sw : d.showable = true
  dp : d.depth ≤ k
  ln : d.shown.length ≤ b
theorem Shw.ok {b k : Nat} {d : D} (h : Shw b k d) (hb : b ≤ 10000000 := by decide) (hk : k ≤ 60 := by decide) : ShOk d := by
  refine ⟨?_, h.sw, Nat.le_trans h.dp hk, Nat.le_trans h.ln (Nat.le_trans hb (by decide))⟩
  have := h.nd
  cases d with
  | dict kvs => cases this
  | list xs => show (!(PyData.list xs).hasDict) = true; rw [this]; rfl
  | tuple xs => show (!(PyData.tuple xs).hasDict) = true; rw [this]; rfl
  | _ => rfl
theorem Shw.mono {b k b' k' : Nat} {d : D} (h : Shw b k d) (hb : b ≤ b') (hk : k ≤ k') : Shw b' k' d := ⟨h.nd, h.sw, Nat.le_trans h.dp hk, Nat.le_trans h.ln hb⟩
theorem rz_bl (b : Bool) : Shw 5 0 (.bool b) := ⟨rfl, rfl, Nat.le_refl _, by cases b <;> decide⟩
theorem rz_int {i : Int} {k : Nat} (h : i.natAbs < 10 ^ k) (hk : 0 < k := by decide) (h2 : k ≤ 500 := by decide) : Shw (k + 1) 0 (.int i) := by
  refine ⟨rfl, ?_, Nat.le_refl _, ?_⟩
  · refine decide_eq_true (log2_lt (Nat.lt_of_lt_of_le h ?_) (by decide))
    exact Nat.le_trans (Nat.pow_le_pow_right (by decide) h2) (by decide +kernel)
  · show (Str.ofString (toString i)).length ≤ _
    rw [PySem.ofString_length]
    exact int_text_length_le10 hk h
theorem shownAll_map (xs : List D) : PyData.shownAll xs = xs.map PyData.shown := by
  induction xs with
  | nil => rfl
  | cons x r ih => rw [List.map_cons, ← ih]; rfl
theorem rz_all {b k : Nat} {xs : List D} (h : ∀ x ∈ xs, Shw b k x) : PyData.hasDictAll xs = false ∧ PyData.showableAll xs = true ∧ PyData.depthAll xs ≤ k ∧ ((PyData.shownAll xs).map (·.length)).sum ≤ xs.length * b := by
  induction xs with
  | nil => exact ⟨rfl, rfl, Nat.zero_le _, Nat.zero_le _⟩
  | cons x r ih =>
    obtain ⟨h1, h2, h3, h4⟩ := ih fun z hz => h z (List.mem_cons_of_mem _ hz)
    have hx := h x (List.mem_cons_self ..)
    refine ⟨?_, ?_, ?_, ?_⟩
    · show (x.hasDict || PyData.hasDictAll r) = false
      rw [hx.nd, h1]; rfl
    · show (x.showable && PyData.showableAll r) = true
      rw [hx.sw, h2]; rfl
    · exact Nat.max_le.mpr ⟨hx.dp, h3⟩
    · show ((x.shown :: PyData.shownAll r).map (·.length)).sum ≤ _
      rw [List.map_cons, List.sum_cons]
      have := hx.ln
      rw [List.length_cons, Nat.add_mul, Nat.one_mul]
      omega
theorem rz_list {b k : Nat} {xs : List D} (h : ∀ x ∈ xs, Shw b k x) : Shw (xs.length * (b + 2) + 3) (k + 1) (.list xs) := by
  obtain ⟨h1, h2, h3, h4⟩ := rz_all h
  refine ⟨h1, h2, Nat.succ_le_succ h3, ?_⟩
  have := listText_len_le (PyData.shownAll xs)
  have hl : (PyData.shownAll xs).length = xs.length := by rw [shownAll_map, List.length_map]
  show (listText (PyData.shownAll xs)).length ≤ _
  rw [Nat.mul_add]
  omega
theorem rz_tup {b k : Nat} {xs : List D} (h : ∀ x ∈ xs, Shw b k x) : Shw (xs.length * (b + 2) + 3) (k + 1) (.tuple xs) := by
  obtain ⟨h1, h2, h3, h4⟩ := rz_all h
  refine ⟨h1, h2, Nat.succ_le_succ h3, ?_⟩
  have := tupleText_len_le (PyData.shownAll xs)
  have hl : (PyData.shownAll xs).length = xs.length := by rw [shownAll_map, List.length_map]
  show (tupleText (PyData.shownAll xs)).length ≤ _
  rw [Nat.mul_add]
  omega
end Tq

set_option maxRecDepth 100000
set_option maxHeartbeats 4000000
namespace Tq
open PySem PySem.Spec PyProof.Rows L2
open PySem.NumText (digitsVal AllDigits)
/-- a loop whose turns know J alone -/
theorem forJ {C : Ct} {v : Nat} {tx : TS} {xs : List D} {y0 : S} {bk : S → Prop} {rt : Z → S → Prop} {R : S → Prop} (J : Nat → S → Prop) (hv : v ≠ 0 := by decide) (h0 : ∃ y', J 0 y' ∧ Less y' y0)
    (hb : ∀ i x y', xs[i]? = some x → J i y' → wS C tx (y'.set v (some (.d x))) { nx := fun y => ∃ y', J (i + 1) y' ∧ Less y' y, ct := fun y => ∃ y', J (i + 1) y' ∧ Less y' y, bk := bk, rt := rt }) (he : ∀ y2 y', J xs.length y' → Less y' y2 → R y2) :
    ∃ I : Nat → S → Prop, I 0 y0 ∧ (∀ i x y2, xs[i]? = some x → I i y2 → wG C (gName v) x y2 fun y3 => wS C tx y3 { nx := I (i + 1), ct := I (i + 1), bk := bk, rt := rt }) ∧ (∀ y2, I xs.length y2 → R y2) :=
  ⟨fun i y => ∃ y', J i y' ∧ Less y' y, h0, fun i x y2 hx ⟨y', hj, hl⟩ => wG_name (hp := Or.inl hv) (wS_weak (hb i x y' hx hj) (less_set hl)), fun y2 ⟨y', hj, hl⟩ => he y2 y' hj hl⟩
theorem dLen_str {t : Str} (h : t.length ≤ 1000) : dLen (.str t) = some t.length := if_pos (sz_small (by omega))
theorem ten_two (a : Nat) : (10 : Nat) ^ a ≤ 2 ^ (4 * a) := by
  rw [Nat.pow_mul]
  exact Nat.pow_le_pow_left (by decide) a
theorem mulW_ok {i j : Int} (a b : Nat) (hi : i.natAbs < 10 ^ a) (hj : j.natAbs < 10 ^ b) (h : a ≤ 50000 := by omega) (h2 : b ≤ 50000 := by omega) : CMulW i j := by
  refine wide_mul (a := 4 * a + 1) (b := 4 * b + 1) (Nat.lt_of_lt_of_le hi ?_) (Nat.lt_of_lt_of_le hj ?_) (by omega) (by omega) (by omega)
  · exact Nat.le_trans (ten_two a) (Nat.pow_le_pow_right (by decide) (by omega))
  · exact Nat.le_trans (ten_two b) (Nat.pow_le_pow_right (by decide) (by omega))
end Tq

set_option maxRecDepth 100000
set_option maxHeartbeats 4000000
namespace Tq
open PySem PySem.Spec PyProof.Rows L2
end Tq

set_option maxRecDepth 100000
set_option maxHeartbeats 4000000
namespace Tq
open PySem PySem.Spec PyProof.Rows L2
/-! ### whole numbers of at most k figures -/
def Bd (k : Nat) (x : Int) : Prop := x.natAbs < 10 ^ k
theorem Bd.mono {k k' : Nat} {x : Int} (h : Bd k x) (hk : k ≤ k') : Bd k' x := Nat.lt_of_lt_of_le h (Nat.pow_le_pow_right (by decide) hk)
theorem Bd.add {k k' : Nat} {x y : Int} (h : Bd k x) (h' : Bd k' y) : Bd (k + k' + 1) (x + y) := by
  have h1 := h.mono (show k ≤ k + k' by omega)
  have h2 := h'.mono (show k' ≤ k + k' by omega)
  unfold Bd at *
  rw [Nat.pow_succ]
  omega
theorem Bd.neg {k : Nat} {x : Int} (h : Bd k x) : Bd k (-x) := by unfold Bd at *; omega
theorem Bd.sub {k k' : Nat} {x y : Int} (h : Bd k x) (h' : Bd k' y) : Bd (k + k' + 1) (x - y) := by
  rw [Int.sub_eq_add_neg]; exact h.add h'.neg
theorem Bd.mul {k k' : Nat} {x y : Int} (h : Bd k x) (h' : Bd k' y) : Bd (k + k') (x * y) := by
  unfold Bd at *
  rw [Int.natAbs_mul, Nat.pow_add]
  exact Nat.mul_lt_mul'' h h'
theorem Bd.div {k : Nat} {x y : Int} (h : Bd k x) (hy : 0 < y) : Bd (k + 1) (x / y) := by
  unfold Bd at *
  rw [Nat.pow_succ]
  have h1 : x / y ≤ x.natAbs := by
    rcases Int.lt_or_le x 0 with z | z
    · have := Int.ediv_neg_of_neg_of_pos z hy; omega
    · have := Int.ediv_le_self y z; omega
  have h2 : -(x.natAbs : Int) - 1 ≤ x / y := by
    rcases Int.lt_or_le x 0 with z | z
    · have e := Int.emod_add_mul_ediv x y
      have e1 := Int.emod_nonneg x (show y ≠ 0 by omega)
      have e2 := Int.emod_lt_of_pos x hy
      rcases Int.lt_or_le (x / y) (-(x.natAbs : Int) - 1) with w | w
      · have : y * (x / y) ≤ 1 * (x / y) := Int.mul_le_mul_of_nonpos_right (by omega) (by omega)
        have h3 : y * (x / y) ≤ y * (-(x.natAbs : Int) - 2) := Int.mul_le_mul_of_nonneg_left (by omega) (by omega)
        have h4 : y * (-(x.natAbs : Int) - 2) = -(y * x.natAbs) - 2 * y := by rw [Int.mul_sub, Int.mul_neg]; omega
        have h5 : 1 * (x.natAbs : Int) ≤ y * x.natAbs := Int.mul_le_mul_of_nonneg_right (by omega) (by omega)
        omega
      · exact w
    · have := Int.ediv_nonneg z (show 0 ≤ y by omega); omega
  omega
theorem Bd.mod {k : Nat} {x y : Int} (h : Bd k y) (hy : 0 < y) : Bd k (x % y) := by
  have e1 := Int.emod_nonneg x (show y ≠ 0 by omega)
  have e2 := Int.emod_lt_of_pos x hy
  unfold Bd at *
  omega
theorem Bd.lit {k : Nat} {x : Int} (h : x.natAbs < 10 ^ k) : Bd k x := h
theorem Bd.max {k k' : Nat} {x y : Int} (h : Bd k x) (h' : Bd k' y) : Bd (k + k') (if y > x then y else x) := by
  split
  · exact h'.mono (by omega)
  · exact h.mono (by omega)
theorem Bd.min {k k' : Nat} {x y : Int} (h : Bd k x) (h' : Bd k' y) : Bd (k + k') (if y < x then y else x) := by
  split
  · exact h'.mono (by omega)
  · exact h.mono (by omega)
theorem Bd.mulW {k k' : Nat} {x y : Int} (h : Bd k x) (h' : Bd k' y) (hk : k ≤ 50000 := by decide) (hk' : k' ≤ 50000 := by decide) : CMulW x y := mulW_ok k k' h h' hk hk'
theorem Bd.divW {k : Nat} {x y : Int} (h : Bd k y) (hy : 0 < y) (hk : k ≤ 2000 := by decide) : CDivW x y := wide_div (b := 4 * k + 1) hy (Nat.lt_of_lt_of_le h (Nat.le_trans (ten_two k) (Nat.pow_le_pow_right (by decide) (by omega)))) (by omega) (by omega)
/-! ### neighbours of a fraction -/
structure NB (p q N a b c d : Int) : Prop where
  b1 : 1 ≤ b
  d1 : 1 ≤ d
  bN : b ≤ N
  dN : d ≤ N
  ov : N < b + d
  one : c * b - a * d = 1
  lo : 0 < p * b - a * q
  hi : 0 < c * q - p * d
/-- the parts of a fraction between two neighbours -/
theorem nb_q {p q a b c d : Int} (h : c * b - a * d = 1) : q = b * (c * q - p * d) + d * (p * b - a * q) := by
  have : q * (c * b - a * d) = b * (c * q - p * d) + d * (p * b - a * q) := by
    simp only [Int.mul_sub, Int.sub_mul, Int.mul_assoc, Int.mul_comm, Int.mul_left_comm]
    omega
  rw [h, Int.mul_one] at this
  exact this
theorem le_mul {a x : Int} (ha : 0 ≤ a) (hx : 1 ≤ x) : a ≤ a * x := by
  have := Int.mul_le_mul_of_nonneg_left hx ha
  omega
/-- what stands at each turn -/
structure NI (p q N a b c d : Int) : Prop where
  b1 : 1 ≤ b
  d1 : 1 ≤ d
  bN : b ≤ N
  dN : d ≤ N
  one : c * b - a * d = 1
  lo : 0 < p * b - a * q
  hi : 0 < c * q - p * d
theorem Bd.of_mul {k : Nat} {a q : Int} (h : Bd k (a * q)) (hq : 1 ≤ q) : Bd k a := by
  unfold Bd at *
  rw [Int.natAbs_mul] at h
  have : a.natAbs * 1 ≤ a.natAbs * q.natAbs := Nat.mul_le_mul_left _ (by omega)
  omega
theorem NI.bd {p q N a b c d : Int} {k : Nat} (h : NI p q N a b c d) (hp : Bd k p) (hq : Bd k q) (hN : Bd k N) : Bd k b ∧ Bd k d ∧ Bd (3 * k + 1) a ∧ Bd (3 * k + 1) c ∧ (p * b - a * q) ≤ q ∧ (c * q - p * d) ≤ q ∧ 1 ≤ q := by
  have e := nb_q (p := p) (q := q) h.one
  have hb := h.b1
  have hd := h.d1
  have hX := h.lo
  have hY := h.hi
  have h1 := le_mul (a := c * q - p * d) (x := b) (by omega) hb
  have h2 := le_mul (a := p * b - a * q) (x := d) (by omega) hd
  rw [Int.mul_comm _ b] at h1
  rw [Int.mul_comm _ d] at h2
  have hXb : 0 < d * (p * b - a * q) := Int.mul_pos (by omega) hX
  have hYb : 0 < b * (c * q - p * d) := Int.mul_pos (by omega) hY
  have x1 : p * b - a * q ≤ q := by omega
  have y1 : c * q - p * d ≤ q := by omega
  have q1 : 1 ≤ q := by omega
  have bb : Bd k b := by have := h.bN; unfold Bd at *; omega
  have bd : Bd k d := by have := h.dN; unfold Bd at *; omega
  refine ⟨bb, bd, ?_, ?_, x1, y1, q1⟩
  · refine Bd.of_mul (q := q) ?_ q1
    have ex : a * q = p * b - (p * b - a * q) := by omega
    rw [ex]
    have hx : Bd k (p * b - a * q) := by unfold Bd at *; omega
    exact ((hp.mul bb).sub hx).mono (by omega)
  · refine Bd.of_mul (q := q) ?_ q1
    have ex : c * q = p * d + (c * q - p * d) := by omega
    rw [ex]
    have hx : Bd k (c * q - p * d) := by unfold Bd at *; omega
    exact ((hp.mul bd).add hx).mono (by omega)
end Tq

set_option maxRecDepth 100000
set_option maxHeartbeats 4000000
namespace Tq
open PySem PySem.Spec PyProof.Rows L2
abbrev fr (a b : Int) : D := .tuple [.int a, .int b]
abbrev sp_need_fraction (K : Fg) : Sp := detSp K 1 (fun ds => ∃ x, ds = [x] ∧ fracB x = true) (fun _ => .none)
def NR (p q N : Int) (r : D) : Prop := (q ≤ N ∧ r = .tuple [fr p q, fr p q]) ∨ (N < q ∧ ∃ a b c d, NB p q N a b c d ∧ r = .tuple [fr a b, fr c d])
structure FN (p q N : Int) : Prop where
  q1 : 1 ≤ q
  g : gcdI p q = 1
  n1 : 1 ≤ N
  bp : Bd 65 p
  bq : Bd 65 q
  bN : Bd 65 N
theorem fracB_fr {p q : Int} (h : 1 ≤ q) (g : gcdI p q = 1) : fracB (fr p q) = true := by
  show (decide (1 ≤ q) && decide (gcdI p q = 1)) = true
  rw [decide_eq_true h, decide_eq_true g]; rfl
theorem NI.nb {p q N a b c d : Int} (h : NI p q N a b c d) (o : N < b + d) : NB p q N a b c d := ⟨h.b1, h.d1, h.bN, h.dN, o, h.one, h.lo, h.hi⟩
theorem NB.ni {p q N a b c d : Int} (h : NB p q N a b c d) : NI p q N a b c d := ⟨h.b1, h.d1, h.bN, h.dN, h.one, h.lo, h.hi⟩
/-! ### what k15's law draws -/
theorem NR.bd {p q N : Int} {r : D} (h : NR p q N r) (f : FN p q N) : ∃ a b c d, r = .tuple [fr a b, fr c d] ∧ Bd 900 a ∧ Bd 900 b ∧ Bd 900 c ∧ Bd 900 d := by
  have f1 := f.bp
  have f2 := f.bq
  rcases h with ⟨h1, e⟩ | ⟨h1, a, b, c, d, n, e⟩
  · exact ⟨_, _, _, _, e, f1.mono (by decide), f2.mono (by decide), f1.mono (by decide), f2.mono (by decide)⟩
  · obtain ⟨b1, b2, b3, b4, _⟩ := n.ni.bd f.bp f.bq f.bN
    exact ⟨_, _, _, _, e, b3.mono (by decide), b1.mono (by decide), b4.mono (by decide), b2.mono (by decide)⟩
theorem NB.at {p q N N' a b c d : Int} (n : NB p q N a b c d) (h1 : b ≤ N') (h2 : d ≤ N') (h3 : N' < b + d) : NB p q N' a b c d := ⟨n.b1, n.d1, h1, h2, h3, n.one, n.lo, n.hi⟩
theorem FN.at {p q N N' : Int} (f : FN p q N) (h1 : 1 ≤ N') (h2 : N' ≤ q) : FN p q N' := ⟨f.q1, f.g, h1, f.bp, f.bq, by have := f.bq; unfold Bd at *; omega⟩
end Tq

set_option maxRecDepth 100000
set_option maxHeartbeats 4000000
namespace Tq
open PySem PySem.Spec PyProof.Rows L2
/-! ### the best fractions, by going through all bottoms -/
structure LB (p q k a b : Int) : Prop where
  b1 : 1 ≤ b
  bk : b ≤ k
  lo : a * q ≤ p * b
  best : ∀ x y, 1 ≤ y → y ≤ k → x * q ≤ p * y → x * b ≤ a * y
  less : ∀ x y, 1 ≤ y → y < b → x * q ≤ p * y → x * b < a * y
def Due (p q N : Int) (r : D) : Prop := ∃ a b c d, r = .tuple [fr a b, fr c d] ∧ LB p q N a b ∧ LB (-p) q N (-c) d
theorem shw_fr {a b : Int} (ha : Bd 200 a) (hb : Bd 200 b) : Shw 411 1 (fr a b) := by
  have := rz_tup (b := 201) (k := 0) (xs := [.int a, .int b]) (fun x hx => by
    simp only [List.mem_cons, List.not_mem_nil, or_false] at hx
    rcases hx with rfl | rfl
    · exact rz_int ha
    · exact rz_int hb)
  exact this.mono (by simp) (by decide)
end Tq

set_option maxRecDepth 100000
set_option maxHeartbeats 4000000
namespace Tq
open PySem PySem.Spec PyProof.Rows L2
/-! ### tuples of the text's top, in, lists taken apart -/
/-- the name x is a thing of the written part that reads as d -/
structure GD (K : Fg) (mg : Str → Option Value) (x : Str) (a : Addr) (d : D) : Prop where
  m : mg x = some (.ref a)
  r : ∀ (M : Addr → Prop) (H : Hp), Rp K M H (.ref a) d
mutual
/-- a value of the written part that reads as d -/
inductive KV1 (K : Fg) : Value → V → D → Prop
  | int (i : Int) (t : Tok) : KV1 K (.int i t) (.int i) (.int i)
  | str (s : Str) (t : Tok) : KV1 K (.str s t) (.str s) (.str s)
  | tup {a : Addr} {od : Option Addr} {sl : Array (Option Value)} {us : List Value} {vs : List V} {ds : List D} {n : Nat} (hz : us.length ≤ sizeLine) (l : K.lookup a = some ⟨.type "tuple", od, .seq us.toArray n, sl⟩) (kv : KVs K us vs ds) : KV1 K (.ref a) (.ref a) (.tuple ds)
inductive KVs (K : Fg) : List Value → List V → List D → Prop
  | nil : KVs K [] [] []
  | cons {u : Value} {v : V} {d : D} {us : List Value} {vs : List V} {ds : List D} : KV1 K u v d → KVs K us vs ds → KVs K (u :: us) (v :: vs) (d :: ds)
end
theorem KVs.vals {K : Fg} : ∀ {us : List Value} {vs : List V} {ds : List D}, KVs K us vs ds → Vals vs us
  | _, _, _, .nil => .nil
  | _, _, _, .cons (.int i t) b => .cons ⟨t, rfl⟩ b.vals
  | _, _, _, .cons (.str i t) b => .cons ⟨t, rfl⟩ b.vals
  | _, _, _, .cons (.tup _ _ _) b => .cons rfl b.vals
theorem KVs.rp {K : Fg} {M : Addr → Prop} {H : Hp} : ∀ {us : List Value} {vs : List V} {ds : List D}, KVs K us vs ds → RpA K M H vs ds
  | _, _, _, .nil => .nil
  | _, _, _, .cons (.int i t) b => .cons (.int i) b.rp
  | _, _, _, .cons (.str i t) b => .cons (.str i) b.rp
  | _, _, _, .cons (.tup hz l kv) b => .cons (.tup (.inr ⟨_, _, _, l, rfl, rfl, by rw [List.size_toArray]; exact hz, by simpa using kv.vals⟩) kv.rp) b.rp
theorem gd_tup {K : Fg} {h : Heap} {mg : Str → Option Value} {x : Str} {a : Addr} {od : Option Addr} {sl : Array (Option Value)} {us : List Value} {vs : List V} {ds : List D} {n : Nat} (X : K.In h) (G : h.Ns mainGlobals mg) (kv : KVs K us vs ds) (hz : us.length ≤ sizeLine)
    (aC : PySem.W.nsIn K mainGlobals x = some (some (.ref a))) (l : K.lookup a = some ⟨.type "tuple", od, .seq us.toArray n, sl⟩) : GD K mg x a (.tuple ds) :=
  ⟨PySem.W.mg_of X G aC, fun M H => .tup (.inr ⟨_, us.toArray, n, l, rfl, rfl, by rw [List.size_toArray]; exact hz, by simpa using kv.vals⟩) kv.rp⟩
section
variable {C : Ct} {y : S} {ta tb : TE} {Q : Z → S → Prop}
theorem wE_gd {a : Addr} {d : D} (h : ∀ (M : Addr → Prop) (H : Hp), Rp C.K M H (.ref a) d) (q : Q (.d d) y) : wE C (tC (.ref a)) y Q := fun F σ H K w k => k (.ref a) H (.d d) y w GoH.refl (Sh.refl y) (h _ H) q
/-! in, of plain things -/
def flatD : D → Bool
  | .none | .bool _ | .int _ | .str _ => true
  | _ => false
def eqF : D → D → Bool
  | .none, .none => true
  | .bool a, .bool b => a == b
  | .bool a, .int b => (if a then 1 else 0) == b
  | .int a, .bool b => a == (if b then 1 else 0)
  | .int a, .int b => a == b
  | .str a, .str b => a == b
  | _, _ => false
def inD (x : D) (xs : List D) : Bool := xs.any fun y => eqF y x
theorem flat_rp {K : Fg} {M : Addr → Prop} {H : Hp} {v : V} {d : D} (r : Rp K M H v d) (f : flatD d = true) : flatV v = true := by
  cases r <;> first | rfl | cases f
theorem eqF_rp {K : Fg} {M M' : Addr → Prop} {H H' : Hp} {v u : V} {d e : D} (r : Rp K M H v d) (f : flatD d = true) (r' : Rp K M' H' u e) (f' : flatD e = true) : eqV v u = eqF d e := by
  cases r <;> first | (cases f; done) | (cases r' <;> first | (cases f'; done) | rfl)
theorem inD_rp {K : Fg} {M : Addr → Prop} {H : Hp} {x : V} {d : D} (r : Rp K M H x d) (f : flatD d = true) : ∀ {vs : List V} {ds : List D}, RpA K M H vs ds → ds.all flatD = true → vs.all flatV = true ∧ inV x vs = inD d ds
  | _, _, .nil, _ => ⟨rfl, rfl⟩
  | _, _, .cons a b, h => by
    rw [List.all_cons, Bool.and_eq_true] at h
    obtain ⟨h1, h2⟩ := inD_rp r f b h.2
    refine ⟨by rw [List.all_cons, h1, flat_rp a h.1]; rfl, ?_⟩
    unfold inV inD at *
    rw [List.any_cons, List.any_cons, h2, eqF_rp a h.1 r f]
theorem wE_in {neg : Bool} (w : wE C ta y fun z y1 => wE C tb y1 fun z' y2 => ∃ d ds, z = .d d ∧ (z' = .d (.tuple ds) ∨ z' = .d (.list ds)) ∧ flatD d = true ∧ ds.all flatD = true ∧ Q (.d (.bool (if neg then !inD d ds else inD d ds))) y2) : wE C (tOp (rIn C.K neg) ta tb) y Q := by
  refine wE_op (res := fun d e r => ∃ ds, (e = .tuple ds ∨ e = .list ds) ∧ flatD d = true ∧ ds.all flatD = true ∧ r = .bool (if neg then !inD d ds else inD d ds)) ?_ (wE_mono w fun z y1 h => wE_mono h fun z' y2 ⟨d, ds, e1, e2, f1, f2, q⟩ => ?_)
  · rintro M H x y d e r Q _ rx ry ⟨ds, he, f1, f2, rfl⟩ k
    rcases he with rfl | rfl
    · obtain ⟨a, us, rfl, h1, h2⟩ := rp_tup ry
      obtain ⟨h3, h4⟩ := inD_rp rx f1 h2 f2
      refine ⟨a, us, rfl, .inr h1.sq, flat_rp rx f1, h3, ?_⟩
      rw [h4]
      exact k _ H (fun _ _ e => e) (.bl _)
    · obtain ⟨a, us, rfl, h1, h2⟩ := rp_lst ry
      obtain ⟨h3, h4⟩ := inD_rp rx f1 h2 f2
      refine ⟨a, us, rfl, .inl h1.sq, flat_rp rx f1, h3, ?_⟩
      rw [h4]
      exact k _ H (fun _ _ e => e) (.bl _)
  · rcases e2 with rfl | rfl
    · exact ⟨_, _, _, e1, rfl, ⟨ds, .inl rfl, f1, f2, rfl⟩, q⟩
    · exact ⟨_, _, _, e1, rfl, ⟨ds, .inr rfl, f1, f2, rfl⟩, q⟩
theorem wE_inT (w : wE C ta y fun z y1 => wE C tb y1 fun z' y2 => ∃ d ds, z = .d d ∧ (z' = .d (.tuple ds) ∨ z' = .d (.list ds)) ∧ flatD d = true ∧ ds.all flatD = true ∧ Q (.d (.bool (inD d ds))) y2) : wE C (tOp (rIn C.K false) ta tb) y Q := wE_in w
end
end Tq

set_option maxRecDepth 100000
set_option maxHeartbeats 4000000
namespace Tq
open PySem PySem.Spec PyProof.Rows L2
/-! ### rows of whole terms -/
def toI : D → Int
  | .int i => i
  | _ => 0
theorem num_int {d : D} (h : isNum d = true) : d = .int (toI d) := by cases d <;> first | rfl | cases h
def allInts (ds : List D) : Option (List Int) := if ds.all isNum = true then some (ds.map toI) else none
theorem allInts_ints (ts : List Int) : allInts (ts.map PyData.int) = some ts := by
  unfold allInts
  have h : (ts.map PyData.int).all isNum = true := by rw [List.all_map]; exact List.all_eq_true.mpr fun _ _ => rfl
  rw [if_pos h, List.map_map]
  congr 1
  exact List.map_id ts
theorem allInts_some {ds : List D} {ts : List Int} (h : allInts ds = some ts) : ds = ts.map PyData.int := by
  unfold allInts at h
  split at h
  · rename_i q
    cases h
    rw [List.map_map]
    refine (List.map_id ds).symm.trans (List.map_congr_left fun d hd => ?_)
    exact num_int (List.all_eq_true.mp q d hd)
  · cases h
/-- the terms of a list or tuple of whole numbers -/
def intsD (d : D) : Option (List Int) := (dItems d).bind allInts
theorem items_isT {d : D} : (isT "list" d || isT "tuple" d) = (dItems d).isSome := by
  cases d <;> rfl
section
variable {C : Ct} {y : S} {te : TE} {Qi : List D → S → Prop}
theorem wI_anyL (w : wE C te y fun z y1 => ∃ xs, z = .d (.list xs) ∧ Qi xs y1) : wI C (iAny C.K te) y Qi := fun F σ H R wd k => .inl (wI_list w F σ H R wd k)
end
theorem atI_last {α : Type} {xs : List α} (h : xs ≠ []) : atI xs (-1) = xs.getLast? := by
  have hl : 0 < xs.length := List.length_pos_iff.mpr h
  have e : ixN xs.length (-1) = some (xs.length - 1) := by
    unfold ixN
    rw [if_neg (by omega), if_pos (by omega)]
    congr 1
    omega
  unfold atI
  rw [e, List.getLast?_eq_getElem?]
  rfl
theorem filter_tt {α : Type} (xs : List α) : xs.filter (fun _ => true) = xs := List.filter_eq_self.mpr (fun _ _ => rfl)
/-! ### turns -/
structure Mx where
  a : Int
  b : Int
  c : Int
  d : Int
def mxD (m : Mx) : D := .tuple [.tuple [.int m.a, .int m.b], .tuple [.int m.c, .int m.d]]
def Mx.mul (m n : Mx) : Mx := ⟨m.a * n.a + m.b * n.c, m.a * n.b + m.b * n.d, m.c * n.a + m.d * n.c, m.c * n.b + m.d * n.d⟩
def Mx.one : Mx := ⟨1, 0, 0, 1⟩
def Mx.term (t : Int) : Mx := ⟨t, 1, 1, 0⟩
def MB (k : Nat) (m : Mx) : Prop := Bd k m.a ∧ Bd k m.b ∧ Bd k m.c ∧ Bd k m.d
def turnL (ts : List Int) : Mx := ts.foldl (fun m t => m.mul (.term t)) .one
theorem mxD_inj {m n : Mx} (h : mxD m = mxD n) : m = n := by
  obtain ⟨a, b, c, d⟩ := m
  obtain ⟨a', b', c', d'⟩ := n
  unfold mxD at h
  cases h
  rfl
theorem MB.mono {k k' : Nat} {m : Mx} (h : MB k m) (hk : k ≤ k') : MB k' m := ⟨h.1.mono hk, h.2.1.mono hk, h.2.2.1.mono hk, h.2.2.2.mono hk⟩
/-- terms that may be handled -/
def TB (ts : List Int) : Prop := ts.length ≤ 110 ∧ ∀ t ∈ ts, Bd 13 t
theorem TB.take {ts : List Int} (h : TB ts) (n : Nat) : TB (ts.take n) := ⟨by rw [List.length_take]; have := h.1; omega, fun t ht => h.2 t (List.mem_of_mem_take ht)⟩
/-- terms from 1 on behind the first one -/
def Pos1 (ts : List Int) : Prop := ∀ t ∈ ts.drop 1, 1 ≤ t
theorem intsD_cases {d : D} {ts : List Int} (h : intsD d = some ts) : d = .list (ts.map PyData.int) ∨ d = .tuple (ts.map PyData.int) := by
  unfold intsD at h
  cases d with
  | list xs => exact .inl (by rw [allInts_some (show allInts xs = some ts from h)])
  | tuple xs => exact .inr (by rw [allInts_some (show allInts xs = some ts from h)])
  | _ => cases h
theorem intsD_items {d : D} {ts : List Int} (h : intsD d = some ts) : dItems d = some (ts.map PyData.int) := by
  rcases intsD_cases h with rfl | rfl <;> rfl
/-- how far two rows are alike -/
def alike : List Int → List Int → Nat
  | t :: ts, u :: us => if t = u then alike ts us + 1 else 0
  | _, _ => 0
theorem atI_nat {α : Type} {xs : List α} {i : Nat} {g : α} (e : xs[i]? = some g) : atI xs (i : Int) = some g := by
  have hi := (List.getElem?_eq_some_iff.mp e).1
  unfold atI ixN
  rw [if_pos (by omega), if_pos (by omega)]
  show xs[(i : Int).toNat]? = some g
  rw [Int.toNat_natCast, e]
theorem dIx_at {d : D} {xs : List D} {i : Nat} {g : D} (h : dItems d = some xs) (e : xs[i]? = some g) : dIx d (i : Int) = some g := by
  cases d with
  | list ys => cases h; exact atI_nat e
  | tuple ys => cases h; exact atI_nat e
  | _ => cases h
theorem dIx_int {d : D} {ts : List Int} {i : Nat} {t : Int} (h : intsD d = some ts) (e : ts[i]? = some t) : dIx d (i : Int) = some (.int t) := dIx_at (intsD_items h) (by rw [List.getElem?_map, e]; rfl)
theorem dLen_items {d : D} {xs : List D} (h : dItems d = some xs) : dLen d = some xs.length := by
  cases d with
  | list ys => cases h; rfl
  | tuple ys => cases h; rfl
  | _ => cases h
theorem dLen_int {d : D} {ts : List Int} (h : intsD d = some ts) : dLen d = some ts.length := by
  rw [dLen_items (intsD_items h), List.length_map]
/-! two rows side by side -/
/-! ### drawn rows -/
/-! the law's own look -/
theorem filter_nil {α : Type} {p : α → Bool} {xs : List α} : (xs.filter p).isEmpty = xs.all (fun x => !p x) := by
  induction xs with
  | nil => rfl
  | cons x r ih =>
    rw [List.filter_cons, List.all_cons]
    cases p x <;> simp [ih]
end Tq

set_option maxRecDepth 100000
set_option maxHeartbeats 4000000
namespace Tq
open PySem PySem.Spec PyProof.Rows L2
/-! ### repr of data of any kind: dicts at any depth, whole numbers of up to 3000 figures -/
mutual
def sw2 : D → Bool
  | .none | .bool _ | .str _ => true
  | .int i => decide (i.natAbs.log2 < 12000)
  | .list xs | .tuple xs => sw2A xs
  | .dict kvs => sw2K kvs
def sw2A : List D → Bool
  | [] => true
  | x :: xs => sw2 x && sw2A xs
def sw2K : List (D × D) → Bool
  | [] => true
  | (k, v) :: r => scD k && sw2 k && sw2 v && sw2K r
end
theorem big_small {i : Int} (h : i.natAbs.log2 < 12000) : i.natAbs < 10 ^ 4300 :=
  Nat.lt_of_lt_of_le (lt_of_log2 (Nat.lt_trans h (by decide))) pow_lo
section
variable {prog : Program} {w : World} {A : Around} {E : Value → Shared → Prop} {s : Shared}
theorem big_code {a : Int} {t : Tok} (ha : a.natAbs < 10 ^ 4300) : GivesAt (fun s => s.heap.NoDigits) (Builtin.«int.__repr__» ⟨[.int a t], []⟩) (.str (toString a)) := by
  intro prog w A R s hn hq
  unfold Builtin.«int.__repr__»
  show wpAny _ _ (do let r ← Builtin.overDigitLimit? a; _) _ _ s
  refine wpAny_bind (overDigitLimit_any hn (fun _ => ?_) fun hge => absurd ha (by omega))
  exact wpAny_bind (wpAny_mkStr (wpAny_pure hq.2) hq.1)
theorem big_fits {a : Int} (ha : a.natAbs < 10 ^ 4300) : (Str.ofString (toString a)).length ≤ sizeLine := int_text_fits10 ha
theorem big_obj {a : Int} {t : Tok} {Q : Value → Shared → Prop} (hn : s.heap.NoDigits) (ha : a.natAbs < 10 ^ 4300) (h : Q (.str (toString a) s.toks) { s with toks := s.toks + 1 }) : wpAny (model prog w) A (pyReprObj (.int a t)) Q E s := by
  have hv : ([Value.int a t] : List Value).any Value.onHeap = false := rfl
  unfold pyReprObj
  simp only [cRoomFor, hv, Bool.false_eq_true, if_false, pure_bind]
  refine wpAny_bind (wpAny_specialOf (T := "int") (typeIs_int s a t) (PySem.F.slot_int_repr).lookup ?_)
  refine wpAny_bind (m := callSpecialIfBound? (.int a t) _) (wpAny_callSpecialIfBound?_slot (T := "int") (typeIs_int s a t) PySem.F.slot_int_repr (call_givesAt PySem.F.slot_int_repr (typeIs_int s a t) PySem.F.entry_int_repr (PySem.F.args_int_repr_1 _) (big_code ha) hn ⟨big_fits ha, ?_⟩))
  exact wpAny_bind (wpAny_isInstance (T := "str") (b := true) rfl PySem.isSubtype_str_str (wpAny_pure h))
end
end Tq
namespace Tq
open PySem PySem.Spec PyProof.Rows L2
section
variable {prog : Program} {w : World} {A : Around} {E : Value → Shared → Prop} {s : Shared}
theorem big_k {a : Int} {t : Tok} {bs : List Addr} {h₀ : Heap} {d : Nat} (hn : h₀.NoDigits) (ha : a.natAbs < 10 ^ 4300) : ReprK prog w bs h₀ d (.int a t) (toString a) := by
  intro base hb A g E s Q hg hcl hu hk hQ
  have hb' : base ≤ sizeLine := by omega
  rw [pyReprUnder_leaf (v := .int a t) hb' (fun _ e => nomatch e)]
  unfold pyRepr
  exact wpAny_bind (big_obj (hn.keeps hk) ha (wpAny_pure (hQ s.heap _ fun _ _ e => e)))
end
mutual
theorem rk {X : Cx} {pins : List (Addr × Obj)} {σ : St} {H : Hp} {s : Shared} (I : Inv X pins σ H s) (hn : s.heap.NoDigits) : ∀ (d : D) (v : V) (u : Value), Rp X.K M0 H v d → RelV v u → sw2 d = true → d.shown.length ≤ sizeLine →
    ∃ as bs, Reads s.heap u d as ∧ ReadAtMost s.heap d.depth bs ∧ ReprK X.prog X.w bs s.heap d.depth u d.shown
  | .none, _, _, r, rv, _, _ => by
    cases r
    cases rv
    exact ⟨[], [], .none, (fun _ h => nomatch h), .of_is ReprIs.none _ _ _⟩
  | .bool b, _, _, r, rv, _, _ => by
    cases r
    cases rv
    exact ⟨[], [], .bool b, (fun _ h => nomatch h), .of_is (ReprIs.bool b) _ _ _⟩
  | .int i, _, _, r, rv, hs, _ => by
    cases r
    obtain ⟨t, rfl⟩ := rv
    exact ⟨[], [], .int i t, (fun _ h => nomatch h), big_k hn (big_small (of_decide_eq_true hs))⟩
  | .str x, _, _, r, rv, _, hz => by
    cases r
    obtain ⟨t, rfl⟩ := rv
    exact ⟨[], [], .str x t, (fun _ h => nomatch h), .of_is (ReprIs.str x t hz) _ _ _⟩
  | .list ds, _, _, r, rv, hs, hz => by
    cases r with
    | @lst a vs _ h1 h2 =>
      cases rv
      obtain ⟨its, rvs, ⟨o, n, ho, hc, _, hd⟩, _⟩ := I.list h1.sq
      have hz2 : (listText (PyData.shownAll ds)).length ≤ sizeLine := hz
      obtain ⟨as, bs, ra, hb, hk⟩ := rkA I hn ds vs its h2 rvs hs (fun t ht => Nat.le_trans (listText_mem_le ht) hz2)
      have rr : Reads s.heap (.ref a) (.list ds) (a :: as) := .list ho hc hd ra
      have na : a ∉ bs := not_mem_of_deeper rr (Nat.lt_succ_self _) hb
      refine ⟨_, a :: bs, rr, ReadAtMost.cons rr (Nat.le_succ _) hb, ?_⟩
      cases its with
      | nil =>
        cases ra
        exact ReprK.listEmpty ho hc hd
      | cons x l => exact ReprK.list ho hc hd na (by simpa using hk.length_eq) (fun i y e => hk.item i y (by simpa using e))
  | .tuple ds, _, _, r, rv, hs, hz => by
    cases r with
    | @tup a vs _ h1 h2 =>
      cases rv
      obtain ⟨its, rvs, ⟨o, ho, hc, n, hd⟩, _⟩ := I.tuple h1.sq
      have hz2 : (tupleText (PyData.shownAll ds)).length ≤ sizeLine := hz
      obtain ⟨as, bs, ra, hb, hk⟩ := rkA I hn ds vs its h2 rvs hs (fun t ht => Nat.le_trans (tupleText_mem_le ht) hz2)
      have rr : Reads s.heap (.ref a) (.tuple ds) as := .tuple ho hc hd ra
      have na : a ∉ bs := not_mem_of_deeper rr (Nat.lt_succ_self _) hb
      exact ⟨_, a :: bs, rr, ReadAtMost.cons rr (Nat.le_succ _) hb, ReprK.tuple ho hc hd na hk⟩
  | .dict kvs, _, _, r, rv, hs, hz => by
    cases r with
    | @dic a ks _ _ h k =>
      cases rv
      obtain ⟨_, nsm, vs, kv, o, es, ep, ho, ex, hdt, _, pr, _⟩ := (show ObjOk X.prog X.w H s.heap a (.dK ks) from I.hok a _ h)
      have hz2 : (dictText (PyData.shownKv kvs)).length ≤ sizeLine := hz
      obtain ⟨as, as', bs, bs', r1, r2, m1, m2, k1, k2⟩ := rkV I hn kvs ks vs es.toList k kv pr hs
        (fun t ht => let ⟨p, hp, hl⟩ := PyData.shownKv_key_le kvs t ht; Nat.le_trans hl (Nat.le_trans (dictText_mem_le hp) hz2))
        (fun t ht => let ⟨p, hp, hl⟩ := PyData.shownKv_val_le kvs t ht; Nat.le_trans hl (Nat.le_trans (dictText_mem_le hp) hz2))
      have rr : Reads s.heap (.ref a) (.dict kvs) _ := .dict ho ex.1 hdt r1 r2
      have hb : ReadAtMost s.heap (PyData.depthKv kvs) (bs ++ bs') := (m1.mono (PyData.depthAll_keys_le kvs)).append (m2.mono (PyData.depthAll_vals_le kvs))
      have na : a ∉ bs ++ bs' := not_mem_of_deeper rr (Nat.lt_succ_self _) hb
      have nsy : (a == sysModules) = false := by simpa using nsm
      refine ⟨_, a :: (bs ++ bs'), rr, ReadAtMost.cons rr (Nat.le_succ _) hb, ?_⟩
      show ReprK _ _ _ _ (PyData.depthKv kvs + 1) _ (dictText (PyData.shownKv kvs))
      rw [PyData.shownKv_eq]
      exact ReprK.dict ho ex.1 hdt nsy na (ReprEntriesK.of_two es.toList _ _ (k1.more_le (fun b hb => List.mem_append_left _ hb) (PyData.depthAll_keys_le kvs)) (k2.more_le (fun b hb => List.mem_append_right _ hb) (PyData.depthAll_vals_le kvs)))
theorem rkA {X : Cx} {pins : List (Addr × Obj)} {σ : St} {H : Hp} {s : Shared} (I : Inv X pins σ H s) (hn : s.heap.NoDigits) : ∀ (ds : List D) (vs : List V) (us : List Value), RpA X.K M0 H vs ds → Vals vs us → sw2A ds = true → (∀ t ∈ PyData.shownAll ds, t.length ≤ sizeLine) →
    ∃ as bs, ReadsAll s.heap us ds as ∧ ReadAtMost s.heap (PyData.depthAll ds) bs ∧ ReprAllK X.prog X.w bs s.heap (PyData.depthAll ds) us (PyData.shownAll ds)
  | [], _, _, r, rv, _, _ => by
    cases r
    cases rv
    exact ⟨[], [], .nil, (fun _ h => nomatch h), .nil⟩
  | d :: ds, _, _, r, rv, hs, hz => by
    cases r with
    | cons r1 r2 =>
      cases rv with
      | cons v1 v2 =>
        have hs : (sw2 d && sw2A ds) = true := hs
        rw [Bool.and_eq_true] at hs
        obtain ⟨as, bs, q1, q2, q3⟩ := rk I hn d _ _ r1 v1 hs.1 (hz _ List.mem_cons_self)
        obtain ⟨as', bs', q4, q5, q6⟩ := rkA I hn ds _ _ r2 v2 hs.2 (fun t ht => hz t (List.mem_cons_of_mem _ ht))
        exact ⟨_, bs ++ bs', .cons q1 q4, (q2.mono (Nat.le_max_left _ _)).append (q5.mono (Nat.le_max_right _ _)), .cons ((q3.more fun b hb => List.mem_append_left _ hb).level_le (Nat.le_max_left _ _)) (q6.more_le (fun b hb => List.mem_append_right _ hb) (Nat.le_max_right _ _))⟩
theorem rkV {X : Cx} {pins : List (Addr × Obj)} {σ : St} {H : Hp} {s : Shared} (I : Inv X pins σ H s) (hn : s.heap.NoDigits) : ∀ (kvs : List (D × D)) (ks : List (Key × V)) (vs : List (Key × Value)) (es : List DictEntry), RpK X.K M0 H ks kvs → KV ks vs → Pairs (mixKind X.prog X.w) es vs → sw2K kvs = true →
    (∀ t ∈ PyData.shownAll (kvs.map (·.1)), t.length ≤ sizeLine) → (∀ t ∈ PyData.shownAll (kvs.map (·.2)), t.length ≤ sizeLine) →
    ∃ as as' bs bs', ReadsAll s.heap (es.map (·.key)) (kvs.map (·.1)) as ∧ ReadsAll s.heap (es.map (·.val)) (kvs.map (·.2)) as' ∧ ReadAtMost s.heap (PyData.depthAll (kvs.map (·.1))) bs ∧ ReadAtMost s.heap (PyData.depthAll (kvs.map (·.2))) bs' ∧
      ReprAllK X.prog X.w bs s.heap (PyData.depthAll (kvs.map (·.1))) (es.map (·.key)) (PyData.shownAll (kvs.map (·.1))) ∧ ReprAllK X.prog X.w bs' s.heap (PyData.depthAll (kvs.map (·.2))) (es.map (·.val)) (PyData.shownAll (kvs.map (·.2)))
  | [], _, _, _, r, kv, pr, _, _, _ => by
    cases r
    cases kv
    cases pr
    exact ⟨[], [], [], [], .nil, .nil, (fun _ h => nomatch h), (fun _ h => nomatch h), .nil, .nil⟩
  | (kd, d) :: kvs, _, _, _, r, kv, pr, hs, hz1, hz2 => by
    cases r with
    | @cons k v _ _ _ a b =>
      cases kv with
      | @cons _ kw _ _ r1 r2 =>
        cases pr with
        | @cons e _ es _ p1 p2 p3 =>
          have hs : (((scD (kD k) && sw2 (kD k)) && sw2 d) && sw2K kvs) = true := hs
          rw [Bool.and_eq_true, Bool.and_eq_true, Bool.and_eq_true] at hs
          obtain ⟨⟨⟨_, s1⟩, s2⟩, s3⟩ := hs
          obtain ⟨as, as', bs, bs', q1, q2, m1, m2, k1, k2⟩ := rkV I hn kvs _ _ _ b r2 p3 s3 (fun t ht => hz1 t (List.mem_cons_of_mem _ ht)) (fun t ht => hz2 t (List.mem_cons_of_mem _ ht))
          have e1 : k = kw.1 := r1.1
          have rv : RelV v kw.2 := r1.2
          obtain ⟨av, bv, u1, u2, u3⟩ := rk I hn d v kw.2 a rv s2 (hz2 _ List.mem_cons_self)
          rw [← p2] at u1 u3
          have rk1 : Reads s.heap e.key (kD k) [] ∧ ReprK X.prog X.w [] s.heap (kD k).depth e.key (kD k).shown := by
            rw [← e1, mixKind_is] at p1
            have hz0 : (kD k).shown.length ≤ sizeLine := hz1 _ List.mem_cons_self
            rcases keyIs_shape p1 with ⟨i, t, z1, z2⟩ | ⟨x, t, z1, z2⟩
            · subst z1
              rw [z2]
              exact ⟨.int i t, big_k hn (big_small (of_decide_eq_true s1))⟩
            · subst z1
              rw [z2]
              exact ⟨.str x t, .of_is (ReprIs.str x t hz0) _ _ _⟩
          refine ⟨_, _, [] ++ bs, bv ++ bs', .cons rk1.1 q1, .cons u1 q2, ?_, (u2.mono (Nat.le_max_left _ _)).append (m2.mono (Nat.le_max_right _ _)), .cons (rk1.2.more (fun b hb => nomatch hb) |>.level_le (Nat.le_max_left _ _)) (k1.more_le (fun b hb => List.mem_append_right _ hb) (Nat.le_max_right _ _)), .cons ((u3.more fun b hb => List.mem_append_left _ hb).level_le (Nat.le_max_left _ _)) (k2.more_le (fun b hb => List.mem_append_right _ hb) (Nat.le_max_right _ _))⟩
          exact m1.mono (Nat.le_max_right _ _)
end
end Tq
namespace Tq
open PySem PySem.Spec PyProof.Rows L2
end Tq
namespace Tq
open PySem PySem.Spec PyProof.Rows L2
section
variable {P : Program} {w : World} {K : Fg} {mg mb : Str → Option Value} {CX : CXT} {k : Nat} {fa a : Addr} {fd : FuncData} {x : Str} {sp : Sp} {s₁ : Shared} {vs : List Value} {ns : List Int}
end
end Tq
namespace Tq
open PySem PySem.Spec PyProof.Rows L2
/-- what may be shown -/
structure ShX (d : D) : Prop where
  sw : sw2 d = true
  dp : d.depth ≤ 60
  ln : d.shown.length ≤ sizeLine
end Tq

set_option maxRecDepth 100000
set_option maxHeartbeats 4000000
namespace Tq
open PySem PySem.Spec PyProof.Rows L2
/-! ### xs[-2::-1], xs[::-1] -/
def tRev1 (K : Fg) (te : TE) : TE := tRevL K te
theorem pe_rev1 {X : Cx} {e : Expr} {te : TE} {k : Nat} {p1 p2 p3 pos : Pos} (K : Fg) (he : PE X e te) (hK : X.K = K := by rfl) : PE X (.Subscript e (.Slice none none (some (.UnaryOp .USub (.Constant (.int 1) k p1) p2)) p3) pos) (tRev1 K te) := hK ▸ pe_revL he
section
variable {C : Ct} {y : S} {te : TE} {Q : Z → S → Prop}
theorem wE_rev1 (w : wE C te y fun z y1 => ∃ xs, z = .d (.list xs) ∧ Q (.d (.list xs.reverse)) y1) : wE C (tRev1 C.K te) y Q := by
  intro F σ H K wd k
  refine w F σ H _ wd fun x H1 z y1 w1 g1 s1 r1 ⟨xs, ez, q⟩ => ?_
  subst ez
  obtain ⟨a, us, rfl, h1, h2⟩ := rp_lst r1
  refine ⟨a, us, rfl, h1.sq, fun p hp => ?_⟩
  have gr := grow_upd (o := .lst us.reverse) hp
  exact k _ _ (.d (.list xs.reverse)) y1 (w1.grow gr) (g1.trans (go_grow gr)) s1 (.lst (.inl ⟨w1.new hp, .inl upd_same⟩) (h2.rev.go (go_grow gr))) q
end
/-! ### turns: products, values from behind -/
theorem Mx.ext' {m n : Mx} (h1 : m.a = n.a) (h2 : m.b = n.b) (h3 : m.c = n.c) (h4 : m.d = n.d) : m = n := by
  cases m; cases n; simp_all
theorem Mx.mul_assoc (m n o : Mx) : (m.mul n).mul o = m.mul (n.mul o) := by
  apply Mx.ext' <;> simp only [Mx.mul] <;> grind
theorem Mx.mul_one (m : Mx) : m.mul .one = m := by
  apply Mx.ext' <;> simp [Mx.mul, Mx.one]
def Mx.det (m : Mx) : Int := m.a * m.d - m.b * m.c
/-! ### enumerate -/
/-! ### neighbours among the beginnings of a row -/
def sgE (i : Nat) : Int := if i % 2 = 0 then 1 else -1
/-- what stands at a place of a legal row -/
structure Amid (ts : List Int) (i : Nat) (a1 c1 a0 c0 p q : Int) : Prop where
  rc : ∃ rc : Int, 0 ≤ rc ∧ (rc = 0 ↔ i + 1 = ts.length) ∧ a1 * q - p * c1 = rc * sgE (i + 1) ∧ (1 ≤ i → ∃ ra, rc ≤ ra ∧ a0 * q - p * c0 = ra * sgE i)
  det : a1 * c0 - a0 * c1 = - sgE i
  cs : 1 ≤ i → 0 ≤ c0 ∧ c0 ≤ c1
end Tq

set_option maxRecDepth 100000
set_option maxHeartbeats 4000000
namespace Tq
open PySem PySem.Spec PyProof.Rows L2
/-! ### how long the text of data is that holds great whole numbers -/
structure Shx (b k : Nat) (d : D) : Prop where
  sw : sw2 d = true
  dp : d.depth ≤ k
  ln : d.shown.length ≤ b
theorem Shx.ok {b k : Nat} {d : D} (h : Shx b k d) (hb : b ≤ 10000000 := by decide) (hk : k ≤ 60 := by decide) : ShX d :=
  ⟨h.sw, Nat.le_trans h.dp hk, Nat.le_trans h.ln (Nat.le_trans hb (by decide))⟩
theorem Shx.mono {b k b' k' : Nat} {d : D} (h : Shx b k d) (hb : b ≤ b') (hk : k ≤ k') : Shx b' k' d := ⟨h.sw, Nat.le_trans h.dp hk, Nat.le_trans h.ln hb⟩
end Tq

set_option maxRecDepth 100000
set_option maxHeartbeats 4000000
/-! the three manners, over plain data -/
namespace Tq
open PySem PySem.Spec PyProof.Rows L2
inductive Mn where
  | fl
  | ce
  | ne
deriving DecidableEq
def Mn.word : Mn → Str
  | .fl => "floor"
  | .ce => "ceil"
  | .ne => "near"
def Mn.turned : Mn → Int
  | .ce => -1
  | _ => 1
def mnOf : D → Option Mn
  | .str s => if s = ("floor" : Str) then some .fl else if s = ("ceil" : Str) then some .ce else if s = ("near" : Str) then some .ne else none
  | _ => none
theorem mnOf_word (k : Mn) : mnOf (.str k.word) = some k := by cases k <;> decide +kernel
theorem mnOf_inv {d : D} {k : Mn} (h : mnOf d = some k) : d = .str k.word := by
  cases d with
  | str s =>
    unfold mnOf at h
    dsimp only at h
    split at h
    · next q => cases h; rw [q]; rfl
    · split at h
      · next q => cases h; rw [q]; rfl
      · split at h
        · next q => cases h; rw [q]; rfl
        · cases h
  | _ => cases h
/-- whether a term may stand behind another one, not the first; none: the first is ahead -/
def fitsB : Mn → Option Int → Int → Bool
  | .fl, _, t => decide (1 ≤ t)
  | .ce, _, t => decide (2 ≤ t)
  | .ne, a, t => if -2 < t ∧ t < 2 then false else if a = some 2 then decide (0 < t) else decide (a ≠ some (-2)) || decide (t < 0)
def aheadI (ts : List Int) (i : Nat) : Option Int := if i = 1 then none else some (ts.getD (i - 1) 0)
def fitAt (k : Mn) (ts : List Int) (i : Nat) : Bool := fitsB k (aheadI ts i) (ts.getD i 0)
def bgL (k : Mn) (ts : List Int) : Bool := (List.range (ts.length - 1)).all fun i => fitAt k ts (i + 1)
def bgD (k : Mn) (d : D) : Bool := match intsD d with
  | some ts => bgL k ts
  | none => false
theorem bgD_some {k : Mn} {d : D} (h : bgD k d = true) : ∃ ts, intsD d = some ts ∧ bgL k ts = true := by
  unfold bgD at h
  split at h
  · next ts q => exact ⟨ts, q, h⟩
  · cases h
theorem bgD_of {k : Mn} {d : D} {ts : List Int} (h : intsD d = some ts) : bgD k d = bgL k ts := by unfold bgD; rw [h]
theorem all_range {n : Nat} {p : Nat → Bool} : (List.range n).all p = true ↔ ∀ i < n, p i = true := by
  rw [List.all_eq_true]
  exact ⟨fun h i hi => h i (List.mem_range.mpr hi), fun h i hi => h i (List.mem_range.mp hi)⟩
theorem bgL_iff {k : Mn} {ts : List Int} : bgL k ts = true ↔ ∀ i, 1 ≤ i → i < ts.length → fitAt k ts i = true := by
  unfold bgL
  rw [all_range]
  refine ⟨fun h i h1 h2 => ?_, fun h i hi => h (i + 1) (by omega) (by omega)⟩
  have := h (i - 1) (by omega)
  rwa [show i - 1 + 1 = i by omega] at this
end Tq

set_option maxRecDepth 100000
set_option maxHeartbeats 4000000
namespace Tq
open PySem PySem.Spec PyProof.Rows L2
/-! ### where two legal rows part, and which of their values is less -/
end Tq

set_option maxRecDepth 100000
set_option maxHeartbeats 4000000
namespace Tq
open PySem PySem.Spec PyProof.Rows L2
/-! ### floors of a fraction, one after the other -/
end Tq

set_option maxRecDepth 100000
set_option maxHeartbeats 4000000
namespace Tq
open PySem PySem.Spec PyProof.Rows L2
/-! ### bounds told of every beginning and every rest of a row -/
structure TM (ts : List Int) : Prop where
  len : ts.length ≤ 220
  bd : ∀ t ∈ ts, Bd 40 t
  tk : ∀ n, MB 1600 (turnL (ts.take n))
  dr : ∀ n, MB 1600 (turnL (ts.drop n))
theorem frac_same {p q t b : Int} (hq : 1 ≤ q) (hb : 1 ≤ b) (h1 : gcdI p q = 1) (h2 : gcdI t b = 1) (h : p * b = q * t) : p = t ∧ q = b := by
  have h1 : Nat.gcd p.natAbs q.natAbs = 1 := by
    have h1 : ((Int.gcd p q : Nat) : Int) = 1 := h1
    have : Int.gcd p q = 1 := by omega
    exact this
  have h2 : Nat.gcd t.natAbs b.natAbs = 1 := by
    have h2 : ((Int.gcd t b : Nat) : Int) = 1 := h2
    have : Int.gcd t b = 1 := by omega
    exact this
  have hn : p.natAbs * b.natAbs = q.natAbs * t.natAbs := by rw [← Int.natAbs_mul, ← Int.natAbs_mul, h]
  have e1 : q ∣ b := Int.natAbs_dvd_natAbs.mp (Nat.Coprime.dvd_of_dvd_mul_left (m := p.natAbs) (by rw [Nat.Coprime, Nat.gcd_comm]; exact h1) ⟨t.natAbs, hn⟩)
  have e2 : b ∣ q := Int.natAbs_dvd_natAbs.mp (Nat.Coprime.dvd_of_dvd_mul_right (m := q.natAbs) (by rw [Nat.Coprime, Nat.gcd_comm]; exact h2) ⟨p.natAbs, by rw [← hn, Nat.mul_comm]⟩)
  have e3 : q = b := Int.le_antisymm (Int.le_of_dvd (by omega) e1) (Int.le_of_dvd (by omega) e2)
  subst e3
  refine ⟨?_, rfl⟩
  rw [Int.mul_comm] at h
  exact Int.eq_of_mul_eq_mul_left (by omega) h
end Tq

set_option maxRecDepth 100000
set_option maxHeartbeats 4000000
/-! rows of fractions in the three manners, over plain data -/
namespace Tq
open PySem PySem.Spec PyProof.Rows L2
/-- the first term -/
def wM : Mn → Int → Int → Int
  | .fl, a, b => a / b
  | .ce, a, b => -(-a / b)
  | .ne, a, b => (2 * a + b) / (2 * b)
/-- what is left, by which one is divided -/
def lM (k : Mn) (a b : Int) : Int := (a - wM k a b * b) * k.turned
theorem turned_sq (k : Mn) : k.turned * k.turned = 1 := by cases k <;> decide
theorem div_bds {a b : Int} (hb : 0 < b) : a / b * b ≤ a ∧ a < a / b * b + b := by
  have h1 := Int.mul_ediv_add_emod a b
  have h2 := Int.emod_nonneg a (show b ≠ 0 by omega)
  have h3 := Int.emod_lt_of_pos a hb
  rw [Int.mul_comm] at h1
  omega
theorem lM_fl {a b : Int} (hb : 0 < b) : 0 ≤ lM .fl a b ∧ lM .fl a b < b := by
  obtain ⟨h1, h2⟩ := div_bds (a := a) hb
  show 0 ≤ (a - a / b * b) * 1 ∧ (a - a / b * b) * 1 < b
  omega
theorem lM_ce {a b : Int} (hb : 0 < b) : 0 ≤ lM .ce a b ∧ lM .ce a b < b := by
  obtain ⟨h1, h2⟩ := div_bds (a := -a) hb
  have e : lM .ce a b = -a - -a / b * b := by
    show (a - -(-a / b) * b) * -1 = _
    rw [Int.neg_mul]; omega
  rw [e]
  omega
theorem lM_ne {a b : Int} (hb : 0 < b) : -b ≤ 2 * lM .ne a b ∧ 2 * lM .ne a b < b := by
  obtain ⟨h1, h2⟩ := div_bds (a := 2 * a + b) (show 0 < 2 * b by omega)
  have e : lM .ne a b = a - (2 * a + b) / (2 * b) * b := by
    show (a - (2 * a + b) / (2 * b) * b) * 1 = _
    rw [Int.mul_one]
  have e2 : (2 * a + b) / (2 * b) * (2 * b) = 2 * ((2 * a + b) / (2 * b) * b) := by rw [Int.mul_left_comm]
  rw [e]
  omega
theorem lM_lt {k : Mn} {a b : Int} (hb : 0 < b) : (lM k a b).natAbs < b.natAbs := by
  cases k with
  | fl => have := lM_fl (a := a) hb; omega
  | ce => have := lM_ce (a := a) hb; omega
  | ne => have := lM_ne (a := a) hb; omega
/-- the number behind -/
def nx1 (b l : Int) : Int := if l < 0 then -b else b
def nx2 (l : Int) : Int := if l < 0 then -l else l
theorem nx2_pos {l : Int} (h : l ≠ 0) : 0 < nx2 l := by unfold nx2; split <;> omega
theorem nx2_abs (l : Int) : (nx2 l).natAbs = l.natAbs := by unfold nx2; split <;> omega
theorem nx1_abs (b l : Int) : (nx1 b l).natAbs = b.natAbs := by unfold nx1; split <;> omega
theorem gcd_next {k : Mn} {a b : Int} (hg : gcdI a b = 1) : gcdI b (lM k a b) = 1 := by
  have hs := turned_sq k
  have e : lM k a b * k.turned = a - wM k a b * b := by
    unfold lM
    rw [Int.mul_assoc, hs, Int.mul_one]
  have d1 : gcdI b (lM k a b) ∣ b := by show ((Int.gcd b _ : Nat) : Int) ∣ b; exact Int.gcd_dvd_left ..
  have d2 : gcdI b (lM k a b) ∣ lM k a b := by show ((Int.gcd b _ : Nat) : Int) ∣ _; exact Int.gcd_dvd_right ..
  have d3 : gcdI b (lM k a b) ∣ a := by
    have h1 : gcdI b (lM k a b) ∣ lM k a b * k.turned := Int.dvd_mul_of_dvd_left d2
    rw [e] at h1
    have h2 : gcdI b (lM k a b) ∣ wM k a b * b := Int.dvd_mul_of_dvd_right d1
    have h3 := Int.dvd_add h1 h2
    rwa [Int.sub_add_cancel] at h3
  have d4 : gcdI b (lM k a b) ∣ ((Int.gcd a b : Nat) : Int) := Int.dvd_coe_gcd d3 d1
  have hg' : ((Int.gcd a b : Nat) : Int) = 1 := hg
  rw [hg'] at d4
  have h0 : 0 ≤ gcdI b (lM k a b) := by unfold gcdI; exact Int.ofNat_nonneg _
  exact Int.eq_one_of_dvd_one h0 d4
theorem gcd_abs2 {a b a' b' : Int} (h1 : a'.natAbs = a.natAbs) (h2 : b'.natAbs = b.natAbs) : gcdI a' b' = gcdI a b := by
  unfold gcdI
  rw [h1, h2]
theorem gcd_nx {k : Mn} {a b : Int} (hg : gcdI a b = 1) : gcdI (nx1 b (lM k a b)) (nx2 (lM k a b)) = 1 := by
  rw [gcd_abs2 (nx1_abs _ _) (nx2_abs _)]
  exact gcd_next hg
end Tq

set_option maxRecDepth 100000
set_option maxHeartbeats 4000000
/-! legal rows in the three manners: each is the row of its worth, and rows of fractions are legal -/
namespace Tq
open PySem PySem.Spec PyProof.Rows L2
/-! ### the worth, with a bottom above nought -/
/-! ### rows of fractions are legal -/
end Tq

set_option maxRecDepth 100000
set_option maxHeartbeats 4000000
/-! cones: what can stand behind a beginning -/
namespace Tq
open PySem PySem.Spec PyProof.Rows L2
/-! the two sides of a cone -/
structure Cn where
  u0 : Int
  u1 : Int
  ui : Bool
  v0 : Int
  v1 : Int
  vi : Bool
def Cn.d (c : Cn) : D := .tuple [.tuple [.tuple [.int c.u0, .int c.u1], .bool c.ui], .tuple [.tuple [.int c.v0, .int c.v1], .bool c.vi]]
/-! a rest solved for its two numbers -/
end Tq

set_option maxRecDepth 100000
set_option maxHeartbeats 4000000
/-! ranges of rests: two ends, and what lies between -/
namespace Tq
open PySem PySem.Spec PyProof.Rows L2
/-- E * s = F, s above nought: E and F are of one sign -/
theorem sgn_of_mul {E s F : Int} (hs : 0 < s) (h : E * s = F) : (0 ≤ F → 0 ≤ E) ∧ (E = 0 → F = 0) ∧ (0 < F → 0 < E) := by
  refine ⟨fun hF => ?_, fun hE => by rw [← h, hE, Int.zero_mul], fun hF => ?_⟩
  · rcases Int.lt_or_le E 0 with z | z
    · have := Int.mul_neg_of_neg_of_pos z hs
      omega
    · exact z
  · rcases Int.lt_or_le 0 E with z | z
    · exact z
    · have := Int.mul_nonneg (show 0 ≤ -E by omega) (show 0 ≤ s by omega)
      rw [Int.neg_mul] at this
      omega
theorem same_sign {b1 b2 k l : Int} (hb : 0 < b1 * b2) (hk : 0 ≤ k) (hl : 0 ≤ l) (hkl : 0 < k ∨ 0 < l) : 0 < b1 * (k * b1 + l * b2) ∧ 0 < b2 * (k * b1 + l * b2) := by
  have n1 : b1 ≠ 0 := fun z => by rw [z, Int.zero_mul] at hb; omega
  have n2 : b2 ≠ 0 := fun z => by rw [z, Int.mul_zero] at hb; omega
  have q1 : 0 < b1 * b1 := by
    rcases Int.lt_or_gt_of_ne n1 with z | z
    · exact Int.mul_pos_of_neg_of_neg z z
    · exact Int.mul_pos z z
  have q2 : 0 < b2 * b2 := by
    rcases Int.lt_or_gt_of_ne n2 with z | z
    · exact Int.mul_pos_of_neg_of_neg z z
    · exact Int.mul_pos z z
  have e1 : b1 * (k * b1 + l * b2) = k * (b1 * b1) + l * (b1 * b2) := by grind
  have e2 : b2 * (k * b1 + l * b2) = k * (b1 * b2) + l * (b2 * b2) := by grind
  rw [e1, e2]
  have m1 := Int.mul_nonneg hk (Int.le_of_lt q1)
  have m2 := Int.mul_nonneg hl (Int.le_of_lt hb)
  have m3 := Int.mul_nonneg hk (Int.le_of_lt hb)
  have m4 := Int.mul_nonneg hl (Int.le_of_lt q2)
  rcases hkl with z | z
  · have := Int.mul_pos z q1
    have := Int.mul_pos z hb
    omega
  · have := Int.mul_pos z q2
    have := Int.mul_pos z hb
    omega
/-- a number between two ends -/
theorem val_low {p1 q1 t1 b1 t2 b2 x y k l : Int} (hq : 0 < q1) (hy : 0 < y) (hb : 0 < b1 * b2) (hk : 0 ≤ k) (hl : 0 ≤ l) (hkl : 0 < k ∨ 0 < l) (h1 : p1 * b1 = q1 * t1) (hx : x * (k * b1 + l * b2) = y * (k * t1 + l * t2)) (hD : 0 < t2 * b1 - t1 * b2) :
    0 ≤ x * q1 - p1 * y ∧ (x * q1 - p1 * y = 0 → l = 0) := by
  obtain ⟨s1, _⟩ := same_sign hb hk hl hkl
  have key : (x * q1 - p1 * y) * (b1 * (k * b1 + l * b2)) = y * q1 * (l * (t2 * b1 - t1 * b2)) := by
    have e1 : (x * q1 - p1 * y) * (b1 * (k * b1 + l * b2)) = q1 * b1 * (x * (k * b1 + l * b2)) - y * (k * b1 + l * b2) * (p1 * b1) := by grind
    rw [e1, hx, h1]
    grind
  obtain ⟨g1, g2, _⟩ := sgn_of_mul s1 key
  have hyq := Int.mul_pos hy hq
  refine ⟨g1 (Int.mul_nonneg (Int.le_of_lt hyq) (Int.mul_nonneg hl (Int.le_of_lt hD))), fun h => ?_⟩
  have h0 := g2 h
  rcases Int.mul_eq_zero.mp h0 with z | z
  · omega
  · rcases Int.mul_eq_zero.mp z with z | z
    · exact z
    · omega
theorem val_high {p2 q2 t1 b1 t2 b2 x y k l : Int} (hq : 0 < q2) (hy : 0 < y) (hb : 0 < b1 * b2) (hk : 0 ≤ k) (hl : 0 ≤ l) (hkl : 0 < k ∨ 0 < l) (h2 : p2 * b2 = q2 * t2) (hx : x * (k * b1 + l * b2) = y * (k * t1 + l * t2)) (hD : 0 < t2 * b1 - t1 * b2) :
    0 ≤ p2 * y - x * q2 ∧ (p2 * y - x * q2 = 0 → k = 0) := by
  obtain ⟨_, s2⟩ := same_sign hb hk hl hkl
  have key : (p2 * y - x * q2) * (b2 * (k * b1 + l * b2)) = y * q2 * (k * (t2 * b1 - t1 * b2)) := by
    have e1 : (p2 * y - x * q2) * (b2 * (k * b1 + l * b2)) = y * (k * b1 + l * b2) * (p2 * b2) - q2 * b2 * (x * (k * b1 + l * b2)) := by grind
    rw [e1, hx, h2]
    grind
  obtain ⟨g1, g2, _⟩ := sgn_of_mul s2 key
  have hyq := Int.mul_pos hy hq
  refine ⟨g1 (Int.mul_nonneg (Int.le_of_lt hyq) (Int.mul_nonneg hk (Int.le_of_lt hD))), fun h => ?_⟩
  have h0 := g2 h
  rcases Int.mul_eq_zero.mp h0 with z | z
  · omega
  · rcases Int.mul_eq_zero.mp z with z | z
    · exact z
    · omega
/-- two ends, in their order -/
theorem ends_less {p1 q1 t1 b1 p2 q2 t2 b2 : Int} (hq1 : 0 < q1) (hq2 : 0 < q2) (hb : 0 < b1 * b2) (h1 : p1 * b1 = q1 * t1) (h2 : p2 * b2 = q2 * t2) : (0 < t2 * b1 - t1 * b2 → p1 * q2 < p2 * q1) ∧ (0 < t1 * b2 - t2 * b1 → p2 * q1 < p1 * q2) := by
  have key : (p2 * q1 - p1 * q2) * (b1 * b2) = q1 * q2 * (t2 * b1 - t1 * b2) := by
    have e1 : (p2 * q1 - p1 * q2) * (b1 * b2) = q1 * b1 * (p2 * b2) - q2 * b2 * (p1 * b1) := by grind
    rw [e1, h1, h2]
    grind
  have key2 : (p1 * q2 - p2 * q1) * (b1 * b2) = q1 * q2 * (t1 * b2 - t2 * b1) := by
    have e1 : (p1 * q2 - p2 * q1) * (b1 * b2) = q2 * b2 * (p1 * b1) - q1 * b1 * (p2 * b2) := by grind
    rw [e1, h1, h2]
    grind
  have hq := Int.mul_pos hq1 hq2
  refine ⟨fun h => ?_, fun h => ?_⟩
  · have := (sgn_of_mul hb key).2.2 (Int.mul_pos hq h)
    omega
  · have := (sgn_of_mul hb key2).2.2 (Int.mul_pos hq h)
    omega
/-- rows at a vector -/
def apT (m : Mx) (x y : Int) : Int := m.a * x + m.b * y
def apB (m : Mx) (x y : Int) : Int := m.c * x + m.d * y
theorem ap_cross (m : Mx) (u0 u1 v0 v1 : Int) : apT m v0 v1 * apB m u0 u1 - apT m u0 u1 * apB m v0 v1 = (m.a * m.d - m.b * m.c) * (v0 * u1 - v1 * u0) := by
  unfold apT apB
  grind
theorem ap_lin (m : Mx) (u0 u1 v0 v1 k l : Int) : apT m (k * u0 + l * v0) (k * u1 + l * v1) = k * apT m u0 u1 + l * apT m v0 v1 ∧ apB m (k * u0 + l * v0) (k * u1 + l * v1) = k * apB m u0 u1 + l * apB m v0 v1 := by
  unfold apT apB
  constructor <;> grind
/-- the two ends are unlike -/
theorem ends_ne {m : Mx} {c : Cn} (hm : m.a * m.d ≠ m.b * m.c) (hc : c.v0 * c.u1 - c.v1 * c.u0 ≠ 0) : apT m c.v0 c.v1 * apB m c.u0 c.u1 - apT m c.u0 c.u1 * apB m c.v0 c.v1 ≠ 0 := by
  rw [ap_cross]
  intro h
  rcases Int.mul_eq_zero.mp h with z | z
  · exact hm (by omega)
  · exact hc z
end Tq

set_option maxRecDepth 100000
set_option maxHeartbeats 4000000
namespace Tq
open PySem PySem.Spec PyProof.Rows L2
def Mx.T (m : Mx) : Mx := ⟨m.a, m.c, m.b, m.d⟩
end Tq

set_option maxRecDepth 100000
set_option maxHeartbeats 2000000
/-! Slots with labels, a store of things that may change, exceptions -/
namespace Ux
open PySem PySem.Spec PyProof.Rows L2 Tq
abbrev St := L2.St
abbrev D := PyData
inductive Z where
  | d (d : D)
  | lab (a : Addr)
  | tup (zs : List Z)
  | lst (zs : List Z)
  | exc (a dd : Addr) (z : Z)
  | ob (C : Addr) (ks : List Str) (zs : List Z)
  | nm (f : Str) (z : Z)
/-- what an exception's field is called, and holds -/
def keyZ : Z → Str
  | .nm f _ => f
  | _ => "found"
def valZ : Z → Z
  | .nm _ z => z
  | z => z
inductive Cell where
  | lst (zs : List Z)
  | ins (C : Addr) (ks : List Str) (zs : List Z)
  | dic (kvs : List (Key × Z))
  | pu (n : Nat)
  | ro (c : Cell)
def Cell.isRo : Cell → Bool
  | .ro _ => true
  | _ => false
structure Cl where
  a : Addr
  own : Bool
  c : Cell
structure S where
  l : List (Option Z)
  m : List Cl
def S.set (y : S) (i : Nat) (z : Option Z) : S := ⟨y.l.set i z, y.m⟩
structure Ex where
  cls : Value
  found : Z
structure Ct where
  K : Fg
  W : WX := fun _ _ _ _ => False
  ex : Ex → S → Prop := fun _ _ => False
structure Fr where
  H0 : Hp
  S0 : Addr → Prop
  M0 : Addr → Prop
  st : Bool
def Dom (m : List Cl) (a : Addr) : Prop := ∃ e ∈ m, e.a = a
/-- what may be written -/
def DomW (m : List Cl) (a : Addr) : Prop := ∃ e ∈ m, e.a = a ∧ e.c.isRo = false
def Mv (F : Fr) (_ : St) (y : S) (a : Addr) : Prop := F.M0 a ∨ Dom y.m a
mutual
inductive Rw (K : Fg) (M : Addr → Prop) (H : Hp) : V → Z → Prop
  | d {v : V} {d : D} : Rp K M H v d → Rw K M H v (.d d)
  | lab (a : Addr) : Rw K M H (.ref a) (.lab a)
  | tup {a : Addr} {xs : List V} {zs : List Z} : TsA K M H a xs → RwA K M H xs zs → Rw K M H (.ref a) (.tup zs)
  | lst {a : Addr} {xs : List V} {zs : List Z} : LsA K M H a xs → RwA K M H xs zs → Rw K M H (.ref a) (.lst zs)
  | exc {a dd : Addr} {v : V} {z : Z} : ¬ M dd → H dd = some (.xd [(keyZ z, v)]) → Rw K M H v (valZ z) → Rw K M H (.ref a) (.exc a dd z)
  | ob {a dx C : Addr} {ks : List Str} {xs : List V} {zs : List Z} : ¬ M a → H a = some (.ins C dx (ks.zip xs)) → ks.length = xs.length → RwA K M H xs zs → Rw K M H (.ref a) (.ob C ks zs)
inductive RwA (K : Fg) (M : Addr → Prop) (H : Hp) : List V → List Z → Prop
  | nil : RwA K M H [] []
  | cons {v : V} {z : Z} {vs : List V} {zs : List Z} : Rw K M H v z → RwA K M H vs zs → RwA K M H (v :: vs) (z :: zs)
end
section
variable {K : Fg} {M M' : Addr → Prop} {H H' : Hp}
theorem Rw.go (g : GoH M H M' H') {v : V} {z : Z} (r : Rw K M H v z) : Rw K M' H' v z :=
  Rw.rec (motive_1 := fun v z _ => Rw K M' H' v z) (motive_2 := fun vs zs _ => RwA K M' H' vs zs)
    (fun h => .d (h.go g)) .lab (fun h _ i => .tup (h.go g) i) (fun h _ i => .lst (h.go g) i) (fun n h _ i => .exc (g _ _ n h).1 (g _ _ n h).2 i) (fun n h l _ i => .ob (g _ _ n h).1 (g _ _ n h).2 l i) .nil (fun _ _ a b => .cons a b) r
theorem RwA.go (g : GoH M H M' H') : ∀ {vs : List V} {zs : List Z}, RwA K M H vs zs → RwA K M' H' vs zs
  | _, _, .nil => .nil
  | _, _, .cons a b => .cons (a.go g) (b.go g)
theorem Rw.kz {v : V} {z : Z} (r : Rw K M H v z) : keyZ z = "found" ∧ valZ z = z := by cases r <;> exact ⟨rfl, rfl⟩
theorem RwA.len : ∀ {vs : List V} {zs : List Z}, RwA K M H vs zs → vs.length = zs.length
  | _, _, .nil => rfl
  | _, _, .cons _ b => congrArg (· + 1) b.len
theorem RwA.get : ∀ {vs : List V} {zs : List Z} {i : Nat} {z : Z}, RwA K M H vs zs → zs[i]? = some z → ∃ v, vs[i]? = some v ∧ Rw K M H v z
  | _, _, _, _, .nil, e => by simp at e
  | _, _, 0, _, .cons a _, e => by simp at e; subst e; exact ⟨_, rfl, a⟩
  | _, _, i + 1, d, .cons _ b, e => by
    obtain ⟨u, h1, h2⟩ := b.get (i := i) (z := d) (by simpa using e)
    exact ⟨u, by simpa using h1, h2⟩
theorem RwA.getV : ∀ {vs : List V} {zs : List Z} {i : Nat} {v : V}, RwA K M H vs zs → vs[i]? = some v → ∃ z, zs[i]? = some z ∧ Rw K M H v z
  | _, _, _, _, .nil, e => by simp at e
  | _, _, 0, _, .cons a _, e => by simp at e; subst e; exact ⟨_, rfl, a⟩
  | _, _, i + 1, d, .cons _ b, e => by
    obtain ⟨u, h1, h2⟩ := b.getV (i := i) (v := d) (by simpa using e)
    exact ⟨u, by simpa using h1, h2⟩
theorem RwA.app : ∀ {vs us : List V} {zs es : List Z}, RwA K M H vs zs → RwA K M H us es → RwA K M H (vs ++ us) (zs ++ es)
  | _, _, _, _, .nil, h => h
  | _, _, _, _, .cons a b, h => .cons a (b.app h)
theorem RwA.set : ∀ {vs : List V} {zs : List Z} {v : V} {z : Z} (i : Nat), RwA K M H vs zs → Rw K M H v z → RwA K M H (vs.set i v) (zs.set i z)
  | _, _, _, _, _, .nil, _ => .nil
  | _, _, _, _, 0, .cons _ b, h => .cons h b
  | _, _, _, _, i + 1, .cons a b, h => .cons a (b.set i h)
theorem RwA.of : ∀ {vs : List V} {ds : List D}, RpA K M H vs ds → RwA K M H vs (ds.map Z.d)
  | _, _, .nil => .nil
  | _, _, .cons a b => .cons (.d a) (RwA.of b)
theorem RwA.ds : ∀ {vs : List V} {ds : List D}, RwA K M H vs (ds.map Z.d) → RpA K M H vs ds
  | [], [], _ => .nil
  | [], _ :: _, h => by cases h
  | _ :: _, [], h => by cases h
  | v :: vs, n :: ns, h => by
    cases h with | cons a b => cases a with | d a => exact .cons a b.ds
end
inductive RwK (K : Fg) (M : Addr → Prop) (H : Hp) : List (Key × V) → List (Key × Z) → Prop
  | nil : RwK K M H [] []
  | cons {k : Key} {v : V} {z : Z} {vs : List (Key × V)} {zs : List (Key × Z)} : Rw K M H v z → RwK K M H vs zs → RwK K M H ((k, v) :: vs) ((k, z) :: zs)
theorem RwK.go {K : Fg} {M M' : Addr → Prop} {H H' : Hp} (g : GoH M H M' H') : ∀ {vs : List (Key × V)} {zs : List (Key × Z)}, RwK K M H vs zs → RwK K M' H' vs zs
  | _, _, .nil => .nil
  | _, _, .cons a b => .cons (a.go g) (b.go g)
def CellOk (K : Fg) (M : Addr → Prop) (H : Hp) (a : Addr) : Cell → Prop
  | .lst zs => ∃ xs, H a = some (.lst xs) ∧ RwA K M H xs zs
  | .ins C ks zs => ∃ dx xs, H a = some (.ins C dx (ks.zip xs)) ∧ ks.length = xs.length ∧ RwA K M H xs zs
  | .dic kvs => ∃ ks, H a = some (.dK ks) ∧ RwK K M H ks kvs
  | .pu n => PuOk H a n
  | .ro c => CellOk K M H a c
theorem CellOk.live {K : Fg} {M : Addr → Prop} {H : Hp} {a : Addr} {c : Cell} (h : CellOk K M H a c) : H a ≠ none := by
  induction c with
  | lst zs => obtain ⟨xs, h1, _⟩ := h; rw [h1]; simp
  | ins _ _ _ => obtain ⟨_, xs, h1, _⟩ := h; rw [h1]; simp
  | dic zs => obtain ⟨xs, h1, _⟩ := h; rw [h1]; simp
  | pu n => obtain ⟨x, b, c, h1, _⟩ := h; rw [h1]; simp
  | ro c ih => exact ih h
theorem CellOk.go {K : Fg} {M M' : Addr → Prop} {H H' : Hp} {a : Addr} {c : Cell} (g : GoH M H M' H') (k : ∀ o, H a = some o → H' a = some o) (h : CellOk K M H a c) : CellOk K M' H' a c := by
  induction c with
  | lst zs => obtain ⟨xs, h1, h2⟩ := h; exact ⟨xs, k _ h1, h2.go g⟩
  | ins _ _ _ => obtain ⟨dx, xs, h1, l, h2⟩ := h; exact ⟨dx, xs, k _ h1, l, h2.go g⟩
  | dic zs => obtain ⟨xs, h1, h2⟩ := h; exact ⟨xs, k _ h1, h2.go g⟩
  | pu n => obtain ⟨x, b, c, h1, h2⟩ := h; exact ⟨x, b, c, k _ h1, h2⟩
  | ro c ih => exact ih h
def Rz (C : Ct) (F : Fr) (σ : St) (y : S) (H : Hp) (v : V) (z : Z) : Prop := match z with
  | .d d => Rp C.K (Mv F σ y) H v d
  | z => Rw C.K (Mv F σ y) H v z
abbrev Go (F : Fr) (σ : St) (y : S) (H : Hp) (σ' : St) (y' : S) (H' : Hp) : Prop := GoH (Mv F σ y) H (Mv F σ' y') H'
/-- the slots stand; the store's things stand, more may have come -/
def ao (m : List Cl) : List (Addr × Bool × Bool) := m.map fun e => (e.a, e.own, e.c.isRo)
def Sh (y y' : S) : Prop := y'.l = y.l ∧ ∃ nw : List Cl, ao y'.m = ao y.m ++ ao nw
theorem Sh.refl (y : S) : Sh y y := ⟨rfl, [], by simp [ao]⟩
theorem Sh.trans {y y1 y2 : S} (a : Sh y y1) (b : Sh y1 y2) : Sh y y2 := by
  obtain ⟨a1, n1, a2⟩ := a
  obtain ⟨b1, n2, b2⟩ := b
  exact ⟨b1.trans a1, n1 ++ n2, by rw [b2, a2, List.append_assoc]; simp [ao]⟩
section
variable {C : Ct} {F : Fr} {σ : St} {y y' : S} {H H' : Hp}
theorem Rz.w {v : V} {z : Z} (r : Rz C F σ y H v z) : Rw C.K (Mv F σ y) H v z := by
  cases z with
  | d d => exact .d r
  | _ => exact r
theorem Rw.z {v : V} {z : Z} (r : Rw C.K (Mv F σ y) H v z) : Rz C F σ y H v z := by
  cases z with
  | d d => cases r with | d r => exact r
  | _ => exact r
theorem Rz.go {v : V} {z : Z} (g : Go F σ y H σ y' H') (r : Rz C F σ y H v z) : Rz C F σ y' H' v z := (r.w.go g).z
end
structure Wd0 (K : Fg) (F : Fr) (σ : St) (y : S) (H : Hp) : Prop where
  keep : ∀ a o, ¬ F.S0 a → F.H0 a = some o → H a = some o
  live0 : ∀ a, F.M0 a → F.H0 a ≠ none
  live : ∀ a, F.M0 a → H a ≠ none
  len : σ.length = y.l.length
  slot : ∀ (i : Nat) (z : Z), y.l[i]? = some (some z) → ∃ x, σ[i]? = some (some x) ∧ Rw K (Mv F σ y) H x z
  cell : ∀ e ∈ y.m, CellOk K (Mv F σ y) H e.a e.c
  dist : y.m.Pairwise fun e e' => e.a ≠ e'.a
  frsh : ∀ e ∈ y.m, e.c.isRo = false → F.S0 e.a ∨ F.H0 e.a = none
  sm : ∀ a, F.S0 a → F.M0 a
  nb : F.st = true → ∀ e ∈ y.m, e.own = true → ¬ F.S0 e.a
/-- an exception with a thing found, its dict new -/
structure XRep (K : Fg) (F : Fr) (σ : St) (y : S) (H : Hp) (ex : Ex) (cls : Value) (d : Option Addr) : Prop where
  cls : cls = ex.cls
  dd : ∃ a v, d = some a ∧ H a = some (.xd [(keyZ ex.found, v)]) ∧ ¬ Mv F σ y a ∧ F.H0 a = none ∧ Rw K (Mv F σ y) H v (valZ ex.found)
structure Wd (C : Ct) (F : Fr) (σ : St) (y : S) (H : Hp) : Prop extends Wd0 C.K F σ y H where
  xk : ∀ σ' y' H' ex cls d, Wd0 C.K F σ' y' H' → Go F σ y H σ' y' H' → XRep C.K F σ' y' H' ex cls d → C.ex ex y' → C.W cls d σ' H'
section
variable {C : Ct} {F : Fr} {σ σ' : St} {y y' : S} {H H' : Hp}
theorem Wd.to (w : Wd C F σ y H) (w' : Wd0 C.K F σ' y' H') (g : Go F σ y H σ' y' H') : Wd C F σ' y' H' := ⟨w', fun σ2 y2 H2 ex cls d w2 g2 => w.xk σ2 y2 H2 ex cls d w2 (g.trans g2)⟩
theorem Wd0.new {K : Fg} (w : Wd0 K F σ y H) {p : Addr} (h : H p = none) : ¬ Mv F σ y p := by
  rintro (z | ⟨e, he, rfl⟩)
  · exact w.live p z h
  · exact (w.cell e he).live h
theorem Wd.new (w : Wd C F σ y H) {p : Addr} (h : H p = none) : ¬ Mv F σ y p := w.toWd0.new h
theorem Wd.newH0 (w : Wd C F σ y H) {p : Addr} (h : H p = none) : F.H0 p = none := by
  cases e : F.H0 p with
  | none => rfl
  | some o =>
    by_cases s : F.S0 p
    · exact absurd h (w.live p (w.sm p s))
    · rw [w.keep p o s e] at h; cases h
theorem go_grow (g : ∀ a o, H a = some o → H' a = some o) : Go F σ y H σ y H' := fun a o n e => ⟨n, g a o e⟩
theorem Wd.grow (w : Wd C F σ y H) (g : ∀ a o, H a = some o → H' a = some o) : Wd C F σ y H' := by
  have gg : Go F σ y H σ y H' := go_grow g
  refine w.to ⟨fun a o n e => g _ _ (w.keep a o n e), w.live0, fun a m e => ?_, w.len, fun i z e => ?_, fun e he => (w.cell e he).go gg (fun o q => g _ _ q), w.dist, w.frsh, w.sm, w.nb⟩ gg
  · cases q : H a with
    | none => exact w.live a m q
    | some o => rw [g a o q] at e; cases e
  · obtain ⟨x, h1, h2⟩ := w.slot i z e
    exact ⟨x, h1, h2.go gg⟩
end
/-! ### the wp -/
section
variable (C : Ct)
def wE (te : TE) (y : S) (Q : Z → S → Prop) : Prop := ∀ (F : Fr) σ H (K : VK), Wd C F σ y H → (∀ v H' z y', Wd C F σ y' H' → Go F σ y H σ y' H' → Sh y y' → Rz C F σ y' H' v z → Q z y' → K v H') → te σ H K
def wT (tt : TT) (y : S) (Q : Bool → S → Prop) : Prop := ∀ (F : Fr) σ H (K : Bool → Hp → Prop), Wd C F σ y H → (∀ b H' y', Wd C F σ y' H' → Go F σ y H σ y' H' → Sh y y' → Q b y' → K b H') → tt σ H K
def wO (to : TO) (y : S) (Q : Option Int → S → Prop) : Prop := ∀ (F : Fr) σ H (K : Option Int → Hp → Prop), Wd C F σ y H → (∀ b H' y', Wd C F σ y' H' → Go F σ y H σ y' H' → Sh y y' → Q b y' → K b H') → to σ H K
structure En where
  nx : S → Prop
  rt : Z → S → Prop
  bk : S → Prop := fun _ => False
  ct : S → Prop := fun _ => False
structure EnOk (F : Fr) (σ : St) (y : S) (H : Hp) (e : En) (E : Ends) : Prop where
  nx : ∀ σ' H' y', Wd C F σ' y' H' → Go F σ y H σ' y' H' → e.nx y' → E.nx σ' H'
  rt : ∀ σ' v H' z y', Wd C F σ' y' H' → Go F σ y H σ' y' H' → Rz C F σ' y' H' v z → e.rt z y' → E.rt v H'
  bk : ∀ σ' H' y', Wd C F σ' y' H' → Go F σ y H σ' y' H' → e.bk y' → E.bk σ' H'
  ct : ∀ σ' H' y', Wd C F σ' y' H' → Go F σ y H σ' y' H' → e.ct y' → E.ct σ' H'
def wS (ts : TS) (y : S) (e : En) : Prop := ∀ (F : Fr) σ H (E : Ends), F.st = true → Wd C F σ y H → EnOk C F σ y H e E → ts E σ H
end
/-! ### storing in a slot -/
section
variable {C : Ct} {F : Fr} {σ : St} {y y' : S} {H H' : Hp}
theorem go_set {σ' : St} {i : Nat} {z : Option Z} : Go F σ y H σ' (y.set i z) H := fun a o n e => ⟨n, e⟩
theorem Wd0.set_z {K : Fg} (w : Wd0 K F σ y H) {i : Nat} {v : V} {z : Z} (r : Rw K (Mv F σ y) H v z) : Wd0 K F (σ.set i (some v)) (y.set i (some z)) H := by
  refine ⟨w.keep, w.live0, w.live, by show (σ.set i _).length = (y.l.set i _).length; rw [List.length_set, List.length_set]; exact w.len, fun j x e => ?_, w.cell, w.dist, w.frsh, w.sm, w.nb⟩
  have e' : (y.l.set i (some z))[j]? = some (some x) := e
  by_cases n : j = i
  · subst n
    have hl : j < y.l.length := by
      have := (List.getElem?_eq_some_iff.mp e').1
      rw [List.length_set] at this; exact this
    rw [List.getElem?_set_self hl] at e'
    cases e'
    exact ⟨v, by rw [List.getElem?_set_self (by rw [w.len]; exact hl)], r⟩
  · rw [List.getElem?_set_ne (Ne.symm n)] at e' ⊢
    exact w.slot j x e'
theorem Wd.set_z (w : Wd C F σ y H) {i : Nat} {v : V} {z : Z} (r : Rz C F σ y H v z) : Wd C F (σ.set i (some v)) (y.set i (some z)) H := w.to (w.toWd0.set_z r.w) go_set
end
end Ux

set_option maxRecDepth 100000
set_option maxHeartbeats 4000000
namespace Ux
open PySem PySem.Spec PyProof.Rows L2 Tq
section
variable {C : Ct} {y : S} {te : TE} {Q : Z → S → Prop}
theorem wE_varZ {i : Nat} {z : Z} (h : y.l[i]? = some (some z)) (q : Q z y) : wE C (tVar i) y Q := fun F σ H K w k => by
  obtain ⟨x, h1, h2⟩ := w.slot i _ h
  exact ⟨x, h1, k x H z y w GoH.refl (Sh.refl y) h2.z q⟩
theorem wE_var {i : Nat} {z : Z} (h : y.l[i]? = some (some z)) (q : Q z y) : wE C (tVar i) y Q := wE_varZ h q
theorem grow_upd {H : Hp} {p : Addr} {o : HO} (h : H p = none) : ∀ a u, H a = some u → upd H p o a = some u := Tq.grow_upd h
end
section
variable {C : Ct} {F : Fr} {σ : St} {y y' : S} {H H' : Hp}
end

section
variable {C : Ct} {y : S} {ta tb tc te : TE} {Q : Z → S → Prop}
theorem wE_sc {v : V} {d : D} (s : Sc v d) (q : Q (.d d) y) : wE C (tC v) y Q := fun F σ H K w k => k v H (.d d) y w GoH.refl (Sh.refl y) s.rp q
theorem wE_int {i : Int} (q : Q (.d (.int i)) y) : wE C (tC (.int i)) y Q := wE_sc (.int i) q
theorem wE_str {i : Str} (q : Q (.d (.str i)) y) : wE C (tC (.str i)) y Q := wE_sc (.str i) q
theorem wE_bl {i : Bool} (q : Q (.d (.bool i)) y) : wE C (tC (.bl i)) y Q := wE_sc (.bl i) q
theorem wE_non (q : Q (.d .none) y) : wE C (tC .non) y Q := wE_sc .non q
theorem wE_mono {R : Z → S → Prop} (h : wE C te y Q) (q : ∀ z y', Q z y' → R z y') : wE C te y R := fun F σ H K w k => h F σ H K w fun v H' z y' a b c d e => k v H' z y' a b c d (q z y' e)
theorem wE_op {r : R2} {res : D → D → D → Prop} (h : OpD C.K r res) (w : wE C ta y fun z y1 => wE C tb y1 fun z' y2 => ∃ d e g, z = .d d ∧ z' = .d e ∧ res d e g ∧ Q (.d g) y2) : wE C (tOp r ta tb) y Q := by
  intro F σ H K wd k
  refine w F σ H _ wd fun x H1 z y1 w1 g1 s1 r1 q1 => ?_
  refine q1 F σ H1 _ w1 fun x2 H2 z' y2 w2 g2 s2 r2 q2 => ?_
  obtain ⟨d, e, g, rfl, rfl, hres, hq⟩ := q2
  refine h (Mv F σ y2) H2 x x2 d e g K (fun a => w2.new) (Rp.go g2 r1) r2 hres fun v H3 gr rv => ?_
  exact k v H3 (.d g) y2 (w2.grow gr) ((g1.trans g2).trans (go_grow gr)) (s1.trans s2) rv hq
theorem wE_I {P : Int → Int → Prop} {g : Int → Int → V} (gd : Int → Int → D) (hg : ∀ i j, Sc (g i j) (gd i j)) (w : wE C ta y fun z y1 => wE C tb y1 fun z' y2 => ∃ i j, z = .d (.int i) ∧ z' = .d (.int j) ∧ P i j ∧ Q (.d (gd i j)) y2) : wE C (tOp (rI P g) ta tb) y Q :=
  wE_op (opD_I hg) (wE_mono w fun z y1 h => wE_mono h fun z' y2 ⟨i, j, e1, e2, c, q⟩ => ⟨_, _, _, e1, e2, ⟨i, j, rfl, rfl, c, rfl⟩, q⟩)
theorem wE_I0 {g : Int → Int → V} (gd : Int → Int → D) (hg : ∀ i j, Sc (g i j) (gd i j)) (w : wE C ta y fun z y1 => wE C tb y1 fun z' y2 => ∃ i j, z = .d (.int i) ∧ z' = .d (.int j) ∧ Q (.d (gd i j)) y2) : wE C (tOp (rI0 g) ta tb) y Q :=
  wE_op (opD_I0 hg) (wE_mono w fun z y1 h => wE_mono h fun z' y2 ⟨i, j, e1, e2, q⟩ => ⟨_, _, _, e1, e2, ⟨i, j, rfl, rfl, rfl⟩, q⟩)
theorem wE_add (w : wE C ta y fun z y1 => wE C tb y1 fun z' y2 => ∃ i j, z = .d (.int i) ∧ z' = .d (.int j) ∧ Q (.d (.int (i + j))) y2) : wE C (tOp (rI0 fun i j => .int (i + j)) ta tb) y Q := wE_I0 _ (fun _ _ => .int _) w
theorem wE_sub (w : wE C ta y fun z y1 => wE C tb y1 fun z' y2 => ∃ i j, z = .d (.int i) ∧ z' = .d (.int j) ∧ Q (.d (.int (i - j))) y2) : wE C (tOp (rI0 fun i j => .int (i - j)) ta tb) y Q := wE_I0 _ (fun _ _ => .int _) w
theorem wE_lt (w : wE C ta y fun z y1 => wE C tb y1 fun z' y2 => ∃ i j, z = .d (.int i) ∧ z' = .d (.int j) ∧ Q (.d (.bool (decide (i < j)))) y2) : wE C (tOp (rI0 fun i j => .bl (decide (i < j))) ta tb) y Q := wE_I0 (fun i j => .bool (decide (i < j))) (fun _ _ => .bl _) w
theorem wE_le (w : wE C ta y fun z y1 => wE C tb y1 fun z' y2 => ∃ i j, z = .d (.int i) ∧ z' = .d (.int j) ∧ Q (.d (.bool (decide (i ≤ j)))) y2) : wE C (tOp (rI0 fun i j => .bl (decide (i ≤ j))) ta tb) y Q := wE_I0 (fun i j => .bool (decide (i ≤ j))) (fun _ _ => .bl _) w
theorem wE_gt (w : wE C ta y fun z y1 => wE C tb y1 fun z' y2 => ∃ i j, z = .d (.int i) ∧ z' = .d (.int j) ∧ Q (.d (.bool (decide (j < i)))) y2) : wE C (tOp (rI0 fun i j => .bl (decide (j < i))) ta tb) y Q := wE_I0 (fun i j => .bool (decide (j < i))) (fun _ _ => .bl _) w
theorem wE_ge (w : wE C ta y fun z y1 => wE C tb y1 fun z' y2 => ∃ i j, z = .d (.int i) ∧ z' = .d (.int j) ∧ Q (.d (.bool (decide (j ≤ i)))) y2) : wE C (tOp (rI0 fun i j => .bl (decide (j ≤ i))) ta tb) y Q := wE_I0 (fun i j => .bool (decide (j ≤ i))) (fun _ _ => .bl _) w
theorem wE_mulW (w : wE C ta y fun z y1 => wE C tb y1 fun z' y2 => ∃ i j, z = .d (.int i) ∧ z' = .d (.int j) ∧ CMulW i j ∧ Q (.d (.int (i * j))) y2) : wE C (tOp (rI CMulW fun i j => .int (i * j)) ta tb) y Q := wE_I _ (fun _ _ => .int _) w
theorem wE_mul (w : wE C ta y fun z y1 => wE C tb y1 fun z' y2 => ∃ i j, z = .d (.int i) ∧ z' = .d (.int j) ∧ CMul i j ∧ Q (.d (.int (i * j))) y2) : wE C (tOp (rI CMul fun i j => .int (i * j)) ta tb) y Q := wE_I _ (fun _ _ => .int _) w
theorem wE_mod (w : wE C ta y fun z y1 => wE C tb y1 fun z' y2 => ∃ i j, z = .d (.int i) ∧ z' = .d (.int j) ∧ 0 < j ∧ Q (.d (.int (i % j))) y2) : wE C (tOp (rI (fun _ j => 0 < j) fun i j => .int (i % j)) ta tb) y Q := wE_I _ (fun _ _ => .int _) w
theorem wE_pow (w : wE C ta y fun z y1 => wE C tb y1 fun z' y2 => ∃ i j, z = .d (.int i) ∧ z' = .d (.int j) ∧ CPow i j ∧ Q (.d (.int (i ^ j.toNat))) y2) : wE C (tOp (rI CPow fun i j => .int (i ^ j.toNat)) ta tb) y Q := wE_I _ (fun _ _ => .int _) w
theorem wE_fdivW (w : wE C ta y fun z y1 => wE C tb y1 fun z' y2 => ∃ i j, z = .d (.int i) ∧ z' = .d (.int j) ∧ CDivW i j ∧ Q (.d (.int (i / j))) y2) : wE C (tOp (rI CDivW fun i j => .int (i / j)) ta tb) y Q := wE_I _ (fun _ _ => .int _) w
theorem wE_neg (w : wE C ta y fun z y1 => ∃ i, z = .d (.int i) ∧ Q (.d (.int (-i))) y1) : wE C (tUn (rU fun i => .int (-i)) ta) y Q := by
  intro F σ H K wd k
  refine w F σ H _ wd fun x H1 z y1 w1 g1 s1 r1 q1 => ?_
  obtain ⟨i, rfl, q⟩ := q1
  exact ⟨i, rp_int r1, k _ H1 (.d (.int (-i))) y1 w1 g1 s1 (.int _) q⟩
theorem wE_S0 {α : Type} {g : Str → Str → V} (gd : Str → Str → D) (hg : ∀ i j, Sc (g i j) (gd i j)) (w : wE C ta y fun z y1 => wE C tb y1 fun z' y2 => ∃ i j, z = .d (.str i) ∧ z' = .d (.str j) ∧ Q (.d (gd i j)) y2) : wE C (tOp (fun x y H Q => ∃ i j, x = .str i ∧ y = .str j ∧ Q (g i j) H) ta tb) y Q := by
  refine wE_op (res := fun d e r => ∃ i j, d = .str i ∧ e = .str j ∧ r = gd i j) ?_ (wE_mono w fun z y1 h => wE_mono h fun z' y2 ⟨i, j, e1, e2, q⟩ => ⟨_, _, _, e1, e2, ⟨i, j, rfl, rfl, rfl⟩, q⟩)
  rintro M H x y d e r Q _ rx ry ⟨i, j, rfl, rfl, rfl⟩ k
  exact ⟨i, j, rp_str rx, rp_str ry, k _ H (fun _ _ e => e) (hg i j).rp⟩
theorem wE_ltS (w : wE C ta y fun z y1 => wE C tb y1 fun z' y2 => ∃ i j, z = .d (.str i) ∧ z' = .d (.str j) ∧ Q (.d (.bool (decide (i.cps.toList < j.cps.toList)))) y2) :
    wE C (tOp (fun x y H Q => ∃ i j, x = .str i ∧ y = .str j ∧ Q (.bl (decide (i.cps.toList < j.cps.toList))) H) ta tb) y Q := wE_S0 (α := Unit) (fun i j => .bool (decide (i.cps.toList < j.cps.toList))) (fun _ _ => .bl _) w
theorem wE_leS (w : wE C ta y fun z y1 => wE C tb y1 fun z' y2 => ∃ i j, z = .d (.str i) ∧ z' = .d (.str j) ∧ Q (.d (.bool (!decide (j.cps.toList < i.cps.toList)))) y2) :
    wE C (tOp (fun x y H Q => ∃ i j, x = .str i ∧ y = .str j ∧ Q (.bl (!decide (j.cps.toList < i.cps.toList))) H) ta tb) y Q := wE_S0 (α := Unit) (fun i j => .bool (!decide (j.cps.toList < i.cps.toList))) (fun _ _ => .bl _) w
theorem wE_addS (w : wE C ta y fun z y1 => wE C tb y1 fun z' y2 => ∃ i j, z = .d (.str i) ∧ z' = .d (.str j) ∧ i.length + j.length ≤ sizeLine ∧ Q (.d (.str (i ++ j))) y2) :
    wE C (tOp (fun x y H Q => ∃ i j, x = .str i ∧ y = .str j ∧ i.length + j.length ≤ sizeLine ∧ Q (.str (i ++ j)) H) ta tb) y Q := by
  refine wE_op (res := fun d e r => ∃ i j, d = .str i ∧ e = .str j ∧ i.length + j.length ≤ sizeLine ∧ r = .str (i ++ j)) ?_ (wE_mono w fun z y1 h => wE_mono h fun z' y2 ⟨i, j, e1, e2, c, q⟩ => ⟨_, _, _, e1, e2, ⟨i, j, rfl, rfl, c, rfl⟩, q⟩)
  rintro M H x y d e r Q _ rx ry ⟨i, j, rfl, rfl, c, rfl⟩ k
  exact ⟨i, j, rp_str rx, rp_str ry, c, k _ H (fun _ _ e => e) (.str _)⟩
theorem wE_inSign (w : wE C ta y fun z y1 => wE C tb y1 fun z' y2 => ∃ (c : Nat) (j : Str), z = .d (.str ⟨#[c]⟩) ∧ z' = .d (.str j) ∧ Q (.d (.bool (decide (c ∈ j.cps.toList)))) y2) :
    wE C (tOp (fun x y H Q => ∃ (c : Nat) (z : Str), x = .str ⟨#[c]⟩ ∧ y = .str z ∧ Q (.bl (decide (c ∈ z.cps.toList))) H) ta tb) y Q := by
  refine wE_op (res := fun d e r => ∃ (c : Nat) (j : Str), d = .str ⟨#[c]⟩ ∧ e = .str j ∧ r = .bool (decide (c ∈ j.cps.toList))) ?_ (wE_mono w fun z y1 h => wE_mono h fun z' y2 ⟨i, j, e1, e2, q⟩ => ⟨_, _, _, e1, e2, ⟨i, j, rfl, rfl, rfl⟩, q⟩)
  rintro M H x y d e r Q _ rx ry ⟨i, j, rfl, rfl, rfl⟩ k
  exact ⟨i, j, rp_str rx, rp_str ry, k _ H (fun _ _ e => e) (.bl _)⟩
theorem wE_eqD (w : wE C ta y fun z y1 => wE C tb y1 fun z' y2 => ∃ d e, z = .d d ∧ z' = .d e ∧ SeqAt.shaped d = true ∧ SeqAt.shaped e = true ∧ Q (.d (.bool (PyData.eqv d e))) y2) : wE C (tOp (rEqD C.K) ta tb) y Q := by
  refine wE_op (res := fun d e r => SeqAt.shaped d = true ∧ SeqAt.shaped e = true ∧ r = .bool (PyData.eqv d e)) ?_ (wE_mono w fun z y1 h => wE_mono h fun z' y2 ⟨d, e, e1, e2, s1, s2, q⟩ => ⟨_, _, _, e1, e2, ⟨s1, s2, rfl⟩, q⟩)
  rintro M H x y d e r Q _ rx ry ⟨s1, s2, rfl⟩ k
  exact ⟨d, e, rx.dp (canLay_noDict s1), ry.dp (canLay_noDict s2), s1, s2, k _ H (fun _ _ e => e) (.bl _)⟩
theorem wE_neD (w : wE C ta y fun z y1 => wE C tb y1 fun z' y2 => ∃ d e, z = .d d ∧ z' = .d e ∧ SeqAt.shaped d = true ∧ SeqAt.shaped e = true ∧ Q (.d (.bool (!PyData.eqv d e))) y2) : wE C (tOp (rNeD C.K) ta tb) y Q := by
  refine wE_op (res := fun d e r => SeqAt.shaped d = true ∧ SeqAt.shaped e = true ∧ r = .bool (!PyData.eqv d e)) ?_ (wE_mono w fun z y1 h => wE_mono h fun z' y2 ⟨d, e, e1, e2, s1, s2, q⟩ => ⟨_, _, _, e1, e2, ⟨s1, s2, rfl⟩, q⟩)
  rintro M H x y d e r Q _ rx ry ⟨s1, s2, rfl⟩ k
  exact ⟨d, e, rx.dp (canLay_noDict s1), ry.dp (canLay_noDict s2), s1, s2, k _ H (fun _ _ e => e) (.bl _)⟩
theorem wE_isN (w : wE C ta y fun z y1 => wE C tb y1 fun z' y2 => ∃ d, z = .d d ∧ z' = .d .none ∧ Q (.d (.bool (match d with | .none => true | _ => false))) y2) :
    wE C (tOp (fun x y H Q => y = .non ∧ Q (.bl (decide (x = .non))) H) ta tb) y Q := by
  refine wE_op (res := fun d e r => e = .none ∧ r = .bool (match d with | .none => true | _ => false)) ?_ (wE_mono w fun z y1 h => wE_mono h fun z' y2 ⟨d, e1, e2, q⟩ => ⟨_, _, _, e1, e2, ⟨rfl, rfl⟩, q⟩)
  rintro M H x y d e r Q _ rx ry ⟨rfl, rfl⟩ k
  refine ⟨rp_non ry, k _ H (fun _ _ e => e) ?_⟩
  cases rx <;> exact .bl _
theorem wE_notN (w : wE C ta y fun z y1 => wE C tb y1 fun z' y2 => ∃ d, z = .d d ∧ z' = .d .none ∧ Q (.d (.bool (match d with | .none => false | _ => true))) y2) :
    wE C (tOp (fun x y H Q => y = .non ∧ Q (.bl (!decide (x = .non))) H) ta tb) y Q := by
  refine wE_op (res := fun d e r => e = .none ∧ r = .bool (match d with | .none => false | _ => true)) ?_ (wE_mono w fun z y1 h => wE_mono h fun z' y2 ⟨d, e1, e2, q⟩ => ⟨_, _, _, e1, e2, ⟨rfl, rfl⟩, q⟩)
  rintro M H x y d e r Q _ rx ry ⟨rfl, rfl⟩ k
  refine ⟨rp_non ry, k _ H (fun _ _ e => e) ?_⟩
  cases rx <;> exact .bl _
theorem wE_ix (w : wE C ta y fun z y1 => wE C tb y1 fun z' y2 => ∃ d i g, z = .d d ∧ z' = .d (.int i) ∧ dIx d i = some g ∧ Q (.d g) y2) : wE C (tOp (rIx C.K) ta tb) y Q := by
  refine wE_op (res := fun d e r => ∃ i, e = .int i ∧ dIx d i = some r) ?_ (wE_mono w fun z y1 h => wE_mono h fun z' y2 ⟨d, i, g, e1, e2, s, q⟩ => ⟨_, _, _, e1, e2, ⟨i, rfl, s⟩, q⟩)
  rintro M H x y d e r Q _ rx ry ⟨i, rfl, h⟩ k
  have ey := rp_int ry
  cases rx with
  | non => cases h
  | bl b => cases h
  | int b => cases h
  | dic _ _ _ => cases h
  | str z =>
    simp only [dIx] at h
    by_cases hz : z.length ≤ sizeLine
    · rw [if_pos hz] at h
      cases q : atI z.cps.toList i with
      | none => rw [q] at h; cases h
      | some c =>
        rw [q] at h; cases h
        exact .inr (.inr ⟨z, i, c, rfl, ey, hz, q, k _ H (fun _ _ e => e) (.str _)⟩)
    · rw [if_neg hz] at h; cases h
  | lst h1 h2 =>
    obtain ⟨v, e, rv⟩ := atI_rp h2 h
    exact .inl ⟨_, _, i, v, rfl, ey, h1.sq, e, k _ H (fun _ _ e => e) rv⟩
  | tup h1 h2 =>
    obtain ⟨v, e, rv⟩ := atI_rp h2 h
    exact .inr (.inl ⟨_, _, i, v, rfl, ey, h1.sq, e, k _ H (fun _ _ e => e) rv⟩)
end
end Ux

set_option maxRecDepth 100000
set_option maxHeartbeats 4000000
namespace Ux
open PySem PySem.Spec PyProof.Rows L2 Tq
section
variable {C : Ct} {y : S} {ta tb tc te : TE} {t u : TT} {ts : TA} {Q : Z → S → Prop} {R : Bool → S → Prop}
theorem wE_catG (w : wE C ta y fun z y1 => wE C tb y1 fun z' y2 => ∃ xs ys, z = .d (.list xs) ∧ z' = .d (.list ys) ∧ xs.length + ys.length ≤ sizeLine ∧ Q (.d (.list (xs ++ ys))) y2) : wE C (tOp (rCatG C.K) ta tb) y Q := by
  refine wE_op (res := fun d e r => ∃ xs ys, d = .list xs ∧ e = .list ys ∧ xs.length + ys.length ≤ sizeLine ∧ r = .list (xs ++ ys)) ?_ (wE_mono w fun z y1 h => wE_mono h fun z' y2 ⟨xs, ys, e1, e2, c, q⟩ => ⟨_, _, _, e1, e2, ⟨xs, ys, rfl, rfl, c, rfl⟩, q⟩)
  rintro M H x y d e r Q fr rx ry ⟨xs, ys, rfl, rfl, c, rfl⟩ k
  obtain ⟨a, us, rfl, h1, h2⟩ := rp_lst rx
  obtain ⟨b, vs, rfl, h3, h4⟩ := rp_lst ry
  refine ⟨a, b, us, vs, rfl, rfl, h1.sq, h3.sq, by rw [h2.len, h4.len]; exact c, fun p hp => k _ _ (grow_upd hp) ?_⟩
  have g : GoH M H M (upd H p (.lst (us ++ vs))) := fun a o n e => ⟨n, grow_upd hp a o e⟩
  exact .lst (.inl ⟨fr p hp, .inl upd_same⟩) ((h2.go g).app (h4.go g))
theorem wE_fdivZ (w : wE C ta y fun z y1 => wE C tb y1 fun z' y2 => ∃ i j, z = .d (.int i) ∧ z' = .d (.int j) ∧ CDivZ i j ∧ Q (.d (.int (i.fdiv j))) y2) : wE C (tOp (rI CDivZ fun i j => .int (i.fdiv j)) ta tb) y Q := wE_I _ (fun _ _ => .int _) w
theorem wE_modN (w : wE C ta y fun z y1 => wE C tb y1 fun z' y2 => ∃ i j, z = .d (.int i) ∧ z' = .d (.int j) ∧ j ≠ 0 ∧ Q (.d (.int (i.fmod j))) y2) : wE C (tOp (rI (fun _ j => j ≠ 0) fun i j => .int (i.fmod j)) ta tb) y Q := wE_I _ (fun _ _ => .int _) w
theorem wE_andV (w : wE C ta y fun z y1 => ∃ b, z = .d (.bool b) ∧ if b = true then wE C tb y1 Q else Q (.d (.bool false)) y1) : wE C (tAndV ta tb) y Q := by
  intro F σ H K wd k
  refine w F σ H _ wd fun x H1 z y1 w1 g1 s1 r1 q1 => ?_
  obtain ⟨b, rfl, q⟩ := q1
  refine ⟨b, rp_bl r1, ?_⟩
  cases b with
  | true => exact q F σ H1 _ w1 fun v H2 z y2 w2 g2 s2 r2 q2 => k v H2 z y2 w2 (g1.trans g2) (s1.trans s2) r2 q2
  | false => exact k _ H1 (.d (.bool false)) y1 w1 g1 s1 (.bl _) q
theorem wE_orV (w : wE C ta y fun z y1 => ∃ b, z = .d (.bool b) ∧ if b = true then Q (.d (.bool true)) y1 else wE C tb y1 Q) : wE C (tOrV ta tb) y Q := by
  intro F σ H K wd k
  refine w F σ H _ wd fun x H1 z y1 w1 g1 s1 r1 q1 => ?_
  obtain ⟨b, rfl, q⟩ := q1
  refine ⟨b, rp_bl r1, ?_⟩
  cases b with
  | true => exact k _ H1 (.d (.bool true)) y1 w1 g1 s1 (.bl _) q
  | false => exact q F σ H1 _ w1 fun v H2 z y2 w2 g2 s2 r2 q2 => k v H2 z y2 w2 (g1.trans g2) (s1.trans s2) r2 q2
theorem wE_notV (w : wE C ta y fun z y1 => ∃ b, z = .d (.bool b) ∧ Q (.d (.bool (!b))) y1) : wE C (tNotV ta) y Q := by
  intro F σ H K wd k
  refine w F σ H _ wd fun x H1 z y1 w1 g1 s1 r1 q1 => ?_
  obtain ⟨b, rfl, q⟩ := q1
  exact ⟨b, rp_bl r1, k _ H1 (.d (.bool !b)) y1 w1 g1 s1 (.bl _) q⟩
theorem wE_if (w : wT C t y fun b y1 => if b = true then wE C ta y1 Q else wE C tb y1 Q) : wE C (tIf t ta tb) y Q := by
  intro F σ H K wd k
  refine w F σ H _ wd fun b H1 y1 w1 g1 s1 q => ?_
  cases b with
  | true => exact q F σ H1 _ w1 fun v H2 z y2 w2 g2 s2 r2 q2 => k v H2 z y2 w2 (g1.trans g2) (s1.trans s2) r2 q2
  | false => exact q F σ H1 _ w1 fun v H2 z y2 w2 g2 s2 r2 q2 => k v H2 z y2 w2 (g1.trans g2) (s1.trans s2) r2 q2
theorem wT_test (w : wE C te y fun z y1 => ∃ b, z = .d (.bool b) ∧ R b y1) : wT C (tTest te) y R := by
  intro F σ H K wd k
  refine w F σ H _ wd fun x H1 z y1 w1 g1 s1 r1 q1 => ?_
  obtain ⟨b, rfl, q⟩ := q1
  exact ⟨b, rp_bl r1, k b H1 y1 w1 g1 s1 q⟩
theorem wT_B (w : wE C te y fun z y1 => ∃ b, z = .d (.bool b) ∧ R b y1) : wT C (tB te) y R := wT_test w
theorem wT_and (w : wT C t y fun b y1 => if b = true then wT C u y1 R else R false y1) : wT C (tAnd t u) y R := by
  intro F σ H K wd k
  refine w F σ H _ wd fun b H1 y1 w1 g1 s1 q => ?_
  cases b with
  | true => exact q F σ H1 _ w1 fun v H2 y2 w2 g2 s2 q2 => k v H2 y2 w2 (g1.trans g2) (s1.trans s2) q2
  | false => exact k false H1 y1 w1 g1 s1 q
theorem wT_or (w : wT C t y fun b y1 => if b = true then R true y1 else wT C u y1 R) : wT C (tOr t u) y R := by
  intro F σ H K wd k
  refine w F σ H _ wd fun b H1 y1 w1 g1 s1 q => ?_
  cases b with
  | true => exact k true H1 y1 w1 g1 s1 q
  | false => exact q F σ H1 _ w1 fun v H2 y2 w2 g2 s2 q2 => k v H2 y2 w2 (g1.trans g2) (s1.trans s2) q2
theorem wT_not (w : wT C t y fun b y1 => R (!b) y1) : wT C (tNot t) y R := by
  intro F σ H K wd k
  exact w F σ H _ wd fun b H1 y1 w1 g1 s1 q => k (!b) H1 y1 w1 g1 s1 q
theorem wT_yes (q : R true y) : wT C tYes y R := fun F σ H K wd k => k true H y wd GoH.refl (Sh.refl y) q
theorem wT_mono {R' : Bool → S → Prop} (h : wT C t y R) (q : ∀ z y', R z y' → R' z y') : wT C t y R' := fun F σ H K w k => h F σ H K w fun z H' y' a b c e => k z H' y' a b c (q z y' e)
theorem wE_chain {r r' : R2} {res res' : D → D → D → Prop} (h : OpD C.K r res) (h' : OpD C.K r' res')
    (w : wE C ta y fun z1 y1 => wE C tb y1 fun z2 y2 => ∃ d1 d2 b, z1 = .d d1 ∧ z2 = .d d2 ∧ res d1 d2 (.bool b) ∧ if b = true then wE C tc y2 fun z3 y3 => ∃ d3 g, z3 = .d d3 ∧ res' d2 d3 g ∧ Q (.d g) y3 else Q (.d (.bool false)) y2) :
    wE C (tChain r r' ta tb tc) y Q := by
  intro F σ H K wd k
  refine w F σ H _ wd fun x H1 z y1 w1 g1 s1 r1 q1 => ?_
  refine q1 F σ H1 _ w1 fun x2 H2 z' y2 w2 g2 s2 r2 q2 => ?_
  obtain ⟨d1, d2, b, rfl, rfl, hres, hq⟩ := q2
  refine h (Mv F σ y2) H2 x x2 d1 d2 (.bool b) _ (fun a => w2.new) (Rp.go g2 r1) r2 hres fun v H3 gr rv => ?_
  have w3 := w2.grow gr
  have g3 := (g1.trans g2).trans (go_grow (F := F) (σ := σ) (y := y2) gr)
  refine ⟨b, rp_bl rv, ?_⟩
  cases b with
  | false => exact k _ H3 (.d (.bool false)) y2 w3 g3 (s1.trans s2) (.bl _) hq
  | true =>
    refine hq F σ H3 _ w3 fun x4 H4 z4 y4 w4 g4 s4 r4 q4 => ?_
    obtain ⟨d3, g, rfl, hres', hq'⟩ := q4
    refine h' (Mv F σ y4) H4 x2 x4 d2 d3 g _ (fun a => w4.new) (Rp.go g4 (Rp.go (go_grow (F := F) (σ := σ) (y := y2) gr) r2)) r4 hres' fun v5 H5 gr5 rv5 => ?_
    exact k v5 H5 (.d g) y4 (w4.grow gr5) ((g3.trans g4).trans (go_grow gr5)) ((s1.trans s2).trans s4) rv5 hq'
theorem wE_chainI {p p' : Int → Int → Bool} (w : wE C ta y fun z1 y1 => wE C tb y1 fun z2 y2 => ∃ i j, z1 = .d (.int i) ∧ z2 = .d (.int j) ∧ if p i j = true then wE C tc y2 fun z3 y3 => ∃ m, z3 = .d (.int m) ∧ Q (.d (.bool (p' j m))) y3 else Q (.d (.bool false)) y2) :
    wE C (tChain (rI0 fun i j => .bl (p i j)) (rI0 fun i j => .bl (p' i j)) ta tb tc) y Q := by
  refine wE_chain (opD_I0 (gd := fun i j => .bool (p i j)) fun _ _ => .bl _) (opD_I0 (gd := fun i j => .bool (p' i j)) fun _ _ => .bl _) (wE_mono w fun z1 y1 h => wE_mono h fun z2 y2 ⟨i, j, e1, e2, q⟩ => ⟨_, _, p i j, e1, e2, ⟨i, j, rfl, rfl, rfl⟩, ?_⟩)
  cases hb : p i j with
  | true =>
    rw [hb] at q
    exact wE_mono (show wE C tc y2 _ from q) fun z3 y3 ⟨m, e3, q3⟩ => ⟨_, _, e3, ⟨j, m, rfl, rfl, rfl⟩, q3⟩
  | false => rw [hb] at q; exact q
theorem wE_chainS {p p' : Str → Str → Bool} (w : wE C ta y fun z1 y1 => wE C tb y1 fun z2 y2 => ∃ i j, z1 = .d (.str i) ∧ z2 = .d (.str j) ∧ if p i j = true then wE C tc y2 fun z3 y3 => ∃ m, z3 = .d (.str m) ∧ Q (.d (.bool (p' j m))) y3 else Q (.d (.bool false)) y2) :
    wE C (tChain (fun x y H Q => ∃ i j, x = .str i ∧ y = .str j ∧ Q (.bl (p i j)) H) (fun x y H Q => ∃ i j, x = .str i ∧ y = .str j ∧ Q (.bl (p' i j)) H) ta tb tc) y Q := by
  refine wE_chain (opD_S0 (gd := fun i j => .bool (p i j)) fun _ _ => .bl _) (opD_S0 (gd := fun i j => .bool (p' i j)) fun _ _ => .bl _) (wE_mono w fun z1 y1 h => wE_mono h fun z2 y2 ⟨i, j, e1, e2, q⟩ => ⟨_, _, p i j, e1, e2, ⟨i, j, rfl, rfl, rfl⟩, ?_⟩)
  cases hb : p i j with
  | true =>
    rw [hb] at q
    exact wE_mono (show wE C tc y2 _ from q) fun z3 y3 ⟨m, e3, q3⟩ => ⟨_, _, e3, ⟨j, m, rfl, rfl, rfl⟩, q3⟩
  | false => rw [hb] at q; exact q
def wD (C : Ct) (ta : TA) (y : S) (Q : List D → S → Prop) : Prop := ∀ (F : Fr) σ H (K : List V → Hp → Prop), Wd C F σ y H → (∀ vs H' ds y', Wd C F σ y' H' → Go F σ y H σ y' H' → Sh y y' → RpA C.K (Mv F σ y') H' vs ds → Q ds y' → K vs H') → ta σ H K
variable {q : List D → S → Prop}
theorem wD_nil (h : q [] y) : wD C tNil y q := fun F σ H K wd k => k [] H [] y wd GoH.refl (Sh.refl y) .nil h
theorem wD_cons (w : wE C ta y fun z y1 => ∃ d, z = .d d ∧ wD C ts y1 fun ds y2 => q (d :: ds) y2) : wD C (tCons ta ts) y q := by
  intro F σ H K wd k
  refine w F σ H _ wd fun x H1 z y1 w1 g1 s1 r1 q1 => ?_
  obtain ⟨d, rfl, h⟩ := q1
  exact h F σ H1 _ w1 fun vs H2 ds y2 w2 g2 s2 r2 q2 => k (x :: vs) H2 (d :: ds) y2 w2 (g1.trans g2) (s1.trans s2) (.cons (Rp.go g2 r1) r2) q2
theorem wD_mono {q' : List D → S → Prop} (h : wD C ts y q) (e : ∀ z y', q z y' → q' z y') : wD C ts y q' := fun F σ H K w k => h F σ H K w fun vs H' z y' a b c d f => k vs H' z y' a b c d (e z y' f)
theorem wE_tup (w : wD C ts y fun ds y1 => ds.length ≤ sizeLine ∧ Q (.d (.tuple ds)) y1) : wE C (tTup ts) y Q := by
  intro F σ H K wd k
  refine w F σ H _ wd fun vs H1 ds y1 w1 g1 s1 r1 ⟨hz, q1⟩ => ⟨by rw [r1.len]; exact hz, fun p hp => ?_⟩
  have gr := grow_upd (o := .tup vs) hp
  exact k _ _ (.d (.tuple ds)) y1 (w1.grow gr) (g1.trans (go_grow gr)) s1 (.tup (.inl ⟨w1.new hp, .inl upd_same⟩) (r1.go (go_grow gr))) q1
theorem wE_lst (w : wD C ts y fun ds y1 => ds.length ≤ sizeLine ∧ Q (.d (.list ds)) y1) : wE C (tLst ts) y Q := by
  intro F σ H K wd k
  refine w F σ H _ wd fun vs H1 ds y1 w1 g1 s1 r1 ⟨hz, q1⟩ => ⟨by rw [r1.len]; exact hz, fun p hp => ?_⟩
  have gr := grow_upd (o := .lst vs) hp
  exact k _ _ (.d (.list ds)) y1 (w1.grow gr) (g1.trans (go_grow gr)) s1 (.lst (.inl ⟨w1.new hp, .inl upd_same⟩) (r1.go (go_grow gr))) q1
theorem wE_dnew (h : Q (.d (.dict [])) y) : wE C tDNewK y Q := by
  intro F σ H K wd k p hp
  have gr := grow_upd (o := .dK []) hp
  exact k _ _ (.d (.dict [])) y (wd.grow gr) (go_grow gr) (Sh.refl y) (.dic (wd.new hp) upd_same .nil) h
theorem wE_disp1 {kk : Key} {v : V} {d : D} (s : Sc v d) (h : Q (.d (.dict [(kD kk, d)])) y) : wE C (tDisp [(tC (kV kk), tC v)]) y Q := by
  intro F σ H K wd k p hp
  refine ⟨upd_same, [(kk, v)], rfl, by simp, ?_⟩
  have gr : ∀ a u, H a = some u → upd (upd H p (.dK [])) p (.dK (mergeK [] [(kk, v)])) a = some u := fun a u e => by rw [upd_upd]; exact grow_upd hp a u e
  refine k _ _ (.d (.dict [(kD kk, d)])) y (wd.grow gr) (go_grow gr) (Sh.refl y) (.dic (wd.new hp) (kvs := [(kk, v)]) ?_ (.cons s.rp .nil)) h
  rw [upd_same]
  rfl
theorem wE_cb {r : List V → Hp → VK → Prop} {res : List D → D → Prop} (h : CbD C.K r res) (w : wD C ts y fun ds y1 => ∃ g, res ds g ∧ Q (.d g) y1) : wE C (tCB r ts) y Q := by
  intro F σ H K wd k
  refine w F σ H _ wd fun vs H1 ds y1 w1 g1 s1 r1 q1 => ?_
  obtain ⟨g, hres, hq⟩ := q1
  exact h (Mv F σ y1) H1 vs ds g K (fun a => w1.new) r1 hres fun v H2 gr rv => k v H2 (.d g) y1 (w1.grow gr) (g1.trans (go_grow gr)) s1 rv hq
theorem wE_abs (w : wD C ts y fun ds y1 => ∃ i, ds = [.int i] ∧ Q (.d (.int (if i < 0 then -i else i))) y1) : wE C (tCB (fun xs H Q => ∃ i, xs = [.int i] ∧ Q (.int (if i < 0 then -i else i)) H) ts) y Q := by
  refine wE_cb (res := fun ds g => ∃ i, ds = [.int i] ∧ g = .int (if i < 0 then -i else i)) ?_ (wD_mono w fun ds y1 ⟨i, e, q⟩ => ⟨_, ⟨i, e, rfl⟩, q⟩)
  rintro M H xs ds g Q _ r ⟨i, rfl, rfl⟩ k
  obtain ⟨v, rfl, rv⟩ := rpA1 r
  exact ⟨i, by rw [rp_int rv], k _ H (fun _ _ e => e) (.int _)⟩
theorem wE_max2 (w : wD C ts y fun ds y1 => ∃ i j, ds = [.int i, .int j] ∧ Q (.d (.int (if j > i then j else i))) y1) : wE C (tCB (fun xs H Q => ∃ i j, xs = [.int i, .int j] ∧ Q (.int (if j > i then j else i)) H) ts) y Q := by
  refine wE_cb (res := fun ds g => ∃ i j, ds = [.int i, .int j] ∧ g = .int (if j > i then j else i)) ?_ (wD_mono w fun ds y1 ⟨i, j, e, q⟩ => ⟨_, ⟨i, j, e, rfl⟩, q⟩)
  rintro M H xs ds g Q _ r ⟨i, j, rfl, rfl⟩ k
  obtain ⟨v, u, rfl, rv, ru⟩ := rpA2 r
  exact ⟨i, j, by rw [rp_int rv, rp_int ru], k _ H (fun _ _ e => e) (.int _)⟩
theorem wE_min2 (w : wD C ts y fun ds y1 => ∃ i j, ds = [.int i, .int j] ∧ Q (.d (.int (if j < i then j else i))) y1) : wE C (tCB (fun xs H Q => ∃ i j, xs = [.int i, .int j] ∧ Q (.int (if j < i then j else i)) H) ts) y Q := by
  refine wE_cb (res := fun ds g => ∃ i j, ds = [.int i, .int j] ∧ g = .int (if j < i then j else i)) ?_ (wD_mono w fun ds y1 ⟨i, j, e, q⟩ => ⟨_, ⟨i, j, e, rfl⟩, q⟩)
  rintro M H xs ds g Q _ r ⟨i, j, rfl, rfl⟩ k
  obtain ⟨v, u, rfl, rv, ru⟩ := rpA2 r
  exact ⟨i, j, by rw [rp_int rv, rp_int ru], k _ H (fun _ _ e => e) (.int _)⟩
theorem wE_int1 (w : wD C ts y fun ds y1 => (∃ i, ds = [.int i] ∧ Q (.d (.int i)) y1) ∨ ∃ b, ds = [.bool b] ∧ Q (.d (.int (if b then 1 else 0))) y1) :
    wE C (tCB (fun xs H Q => (∃ i, xs = [.int i] ∧ Q (.int i) H) ∨ ∃ k, xs = [.bl k] ∧ Q (.int (if k then 1 else 0)) H) ts) y Q := by
  refine wE_cb (res := fun ds g => (∃ i, ds = [.int i] ∧ g = .int i) ∨ ∃ b, ds = [.bool b] ∧ g = .int (if b then 1 else 0)) ?_ (wD_mono w fun ds y1 h => ?_)
  · rintro M H xs ds g Q _ r (⟨i, rfl, rfl⟩ | ⟨b, rfl, rfl⟩) k
    · obtain ⟨v, rfl, rv⟩ := rpA1 r
      exact .inl ⟨i, by rw [rp_int rv], k _ H (fun _ _ e => e) (.int _)⟩
    · obtain ⟨v, rfl, rv⟩ := rpA1 r
      exact .inr ⟨b, by rw [rp_bl rv], k _ H (fun _ _ e => e) (.int _)⟩
  · rcases h with ⟨i, e, q⟩ | ⟨b, e, q⟩
    · exact ⟨_, .inl ⟨i, e, rfl⟩, q⟩
    · exact ⟨_, .inr ⟨b, e, rfl⟩, q⟩
theorem wE_strI (w : wD C ts y fun ds y1 => ∃ i, ds = [.int i] ∧ i.natAbs.log2 < 1920 ∧ Q (.d (.str (toString i))) y1) : wE C (tCB (fun xs H Q => ∃ i, xs = [.int i] ∧ i.natAbs.log2 < 1920 ∧ Q (.str (toString i)) H) ts) y Q := by
  refine wE_cb (res := fun ds g => ∃ i, ds = [.int i] ∧ i.natAbs.log2 < 1920 ∧ g = .str (toString i)) ?_ (wD_mono w fun ds y1 ⟨i, e, c, q⟩ => ⟨_, ⟨i, e, c, rfl⟩, q⟩)
  rintro M H xs ds g Q _ r ⟨i, rfl, c, rfl⟩ k
  obtain ⟨v, rfl, rv⟩ := rpA1 r
  exact ⟨i, by rw [rp_int rv], c, k _ H (fun _ _ e => e) (.str _)⟩
theorem wE_intS (w : wD C ts y fun ds y1 => ∃ a n, ds = [.str a] ∧ PySem.intText? a = some n ∧ a.length ≤ 640 ∧ Q (.d (.int n)) y1) : wE C (tCB (fun xs H Q => ∃ a n, xs = [.str a] ∧ PySem.intText? a = some n ∧ a.length ≤ 640 ∧ Q (.int n) H) ts) y Q := by
  refine wE_cb (res := fun ds g => ∃ a n, ds = [.str a] ∧ PySem.intText? a = some n ∧ a.length ≤ 640 ∧ g = .int n) ?_ (wD_mono w fun ds y1 ⟨i, n, e, c, l, q⟩ => ⟨_, ⟨i, n, e, c, l, rfl⟩, q⟩)
  rintro M H xs ds g Q _ r ⟨i, n, rfl, c, l, rfl⟩ k
  obtain ⟨v, rfl, rv⟩ := rpA1 r
  exact ⟨i, n, by rw [rp_str rv], c, l, k _ H (fun _ _ e => e) (.int _)⟩
theorem wE_len (w : wD C ts y fun ds y1 => ∃ d n, ds = [d] ∧ dLen d = some n ∧ Q (.d (.int n)) y1) : wE C (tCB (fun xs H Q => ∃ x n, xs = [x] ∧ LenV C.K x H n ∧ Q (.int (n : Nat)) H) ts) y Q := by
  refine wE_cb (res := fun ds g => ∃ d n, ds = [d] ∧ dLen d = some n ∧ g = .int n) ?_ (wD_mono w fun ds y1 ⟨d, n, e, c, q⟩ => ⟨_, ⟨d, n, e, c, rfl⟩, q⟩)
  rintro M H xs ds g Q _ r ⟨d, n, rfl, c, rfl⟩ k
  obtain ⟨v, rfl, rv⟩ := rpA1 r
  refine ⟨v, n, rfl, ?_, k _ H (fun _ _ e => e) (.int _)⟩
  cases rv with
  | non => cases c
  | bl _ => cases c
  | int _ => cases c
  | dic _ _ _ => cases c
  | str z =>
    simp only [dLen] at c
    by_cases h : z.length ≤ sizeLine
    · rw [if_pos h] at c; cases c; exact ⟨h, rfl⟩
    · rw [if_neg h] at c; cases c
  | lst h1 h2 => cases c; exact .inl ⟨_, h1.sq, h2.len.symm⟩
  | tup h1 h2 => cases c; exact .inr ⟨_, h1.sq, h2.len.symm⟩
theorem wE_all (w : wD C ts y fun ds y1 => ∃ bs : List Bool, ds = [.list (bs.map PyData.bool)] ∧ Q (.d (.bool (bs.all id))) y1) : wE C (tCB (rAll C.K) ts) y Q := by
  refine wE_cb (res := fun ds g => ∃ bs : List Bool, ds = [.list (bs.map PyData.bool)] ∧ g = .bool (bs.all id)) ?_ (wD_mono w fun ds y1 ⟨i, e, q⟩ => ⟨_, ⟨i, e, rfl⟩, q⟩)
  rintro M H xs ds g Q _ r ⟨bs, rfl, rfl⟩ k
  obtain ⟨v, rfl, rv⟩ := rpA1 r
  obtain ⟨a, us, rfl, h1, h2⟩ := rp_lst rv
  have e := rpA_bls h2
  subst e
  exact ⟨a, bs, rfl, h1.sq, k _ H (fun _ _ e => e) (.bl _)⟩
theorem wE_any (w : wD C ts y fun ds y1 => ∃ bs : List Bool, ds = [.list (bs.map PyData.bool)] ∧ Q (.d (.bool (bs.any id))) y1) : wE C (tCB (rAny C.K) ts) y Q := by
  refine wE_cb (res := fun ds g => ∃ bs : List Bool, ds = [.list (bs.map PyData.bool)] ∧ g = .bool (bs.any id)) ?_ (wD_mono w fun ds y1 ⟨i, e, q⟩ => ⟨_, ⟨i, e, rfl⟩, q⟩)
  rintro M H xs ds g Q _ r ⟨bs, rfl, rfl⟩ k
  obtain ⟨v, rfl, rv⟩ := rpA1 r
  obtain ⟨a, us, rfl, h1, h2⟩ := rp_lst rv
  have e := rpA_bls h2
  subst e
  exact ⟨a, bs, rfl, h1.sq, k _ H (fun _ _ e => e) (.bl _)⟩
theorem wE_sum (w : wD C ts y fun ds y1 => ∃ bs : List Int, ds = [.list (bs.map PyData.int)] ∧ Q (.d (.int bs.sum)) y1) : wE C (tCB (rSum C.K) ts) y Q := by
  refine wE_cb (res := fun ds g => ∃ bs : List Int, ds = [.list (bs.map PyData.int)] ∧ g = .int bs.sum) ?_ (wD_mono w fun ds y1 ⟨i, e, q⟩ => ⟨_, ⟨i, e, rfl⟩, q⟩)
  rintro M H xs ds g Q _ r ⟨bs, rfl, rfl⟩ k
  obtain ⟨v, rfl, rv⟩ := rpA1 r
  obtain ⟨a, us, rfl, h1, h2⟩ := rp_lst rv
  have e := rpA_ints h2
  subst e
  exact ⟨a, bs, rfl, h1.sq, k _ H (fun _ _ e => e) (.int _)⟩
theorem wE_listOf (w : wD C ts y fun ds y1 => ∃ d xs, ds = [d] ∧ dItems d = some xs ∧ Q (.d (.list xs)) y1) :
    wE C (tCB (fun xs H Q => ∃ p ys, xs = [.ref p] ∧ (SqL C.K H p ys ∨ SqT C.K H p ys) ∧ ∀ l, H l = none → Q (.ref l) (upd H l (.lst ys))) ts) y Q := by
  refine wE_cb (res := fun ds g => ∃ d xs, ds = [d] ∧ dItems d = some xs ∧ g = .list xs) ?_ (wD_mono w fun ds y1 ⟨i, xs, e, c, q⟩ => ⟨_, ⟨i, xs, e, c, rfl⟩, q⟩)
  rintro M H xs ds g Q fr r ⟨d, es, rfl, c, rfl⟩ k
  obtain ⟨v, rfl, rv⟩ := rpA1 r
  obtain ⟨a, us, rfl, h1, h2⟩ := rp_items rv c
  refine ⟨a, us, rfl, h1.elim (fun z => .inl z.sq) (fun z => .inr z.sq), fun p hp => k _ _ (grow_upd hp) (.lst (.inl ⟨fr p hp, .inl upd_same⟩) (h2.go fun a o n e => ⟨n, grow_upd hp a o e⟩))⟩
theorem wE_tupOf (w : wD C ts y fun ds y1 => ∃ d xs, ds = [d] ∧ dItems d = some xs ∧ Q (.d (.tuple xs)) y1) :
    wE C (tCB (fun xs H Q => ∃ p ys, xs = [.ref p] ∧ ((SqL C.K H p ys ∧ ∀ l, H l = none → Q (.ref l) (upd H l (.tup ys))) ∨ (SqT C.K H p ys ∧ Q (.ref p) H))) ts) y Q := by
  refine wE_cb (res := fun ds g => ∃ d xs, ds = [d] ∧ dItems d = some xs ∧ g = .tuple xs) ?_ (wD_mono w fun ds y1 ⟨i, xs, e, c, q⟩ => ⟨_, ⟨i, xs, e, c, rfl⟩, q⟩)
  rintro M H xs ds g Q fr r ⟨d, es, rfl, c, rfl⟩ k
  obtain ⟨v, rfl, rv⟩ := rpA1 r
  obtain ⟨a, us, rfl, h1, h2⟩ := rp_items rv c
  refine ⟨a, us, rfl, ?_⟩
  rcases h1 with h1 | h1
  · exact .inl ⟨h1.sq, fun p hp => k _ _ (grow_upd hp) (.tup (.inl ⟨fr p hp, .inl upd_same⟩) (h2.go fun a o n e => ⟨n, grow_upd hp a o e⟩))⟩
  · exact .inr ⟨h1.sq, k _ H (fun _ _ e => e) (.tup h1 h2)⟩
theorem wE_repr (w : wD C ts y fun ds y1 => ∃ d, ds = [d] ∧ dsm d = true ∧ d.showable = true ∧ d.depth ≤ 60 ∧ d.shown.length ≤ sizeLine ∧ Q (.d (.str d.shown)) y1) : wE C (tCB (rRepr C.K) ts) y Q := by
  refine wE_cb (res := fun ds g => ∃ d, ds = [d] ∧ dsm d = true ∧ d.showable = true ∧ d.depth ≤ 60 ∧ d.shown.length ≤ sizeLine ∧ g = .str d.shown) ?_ (wD_mono w fun ds y1 ⟨d, e, c1, c2, c3, c4, q⟩ => ⟨_, ⟨d, e, c1, c2, c3, c4, rfl⟩, q⟩)
  rintro M H xs ds g Q _ r ⟨d, rfl, c1, c2, c3, c4, rfl⟩ k
  obtain ⟨v, rfl, rv⟩ := rpA1 r
  exact ⟨v, d, rfl, rv.any, c1, c2, c3, c4, k _ H (fun _ _ e => e) (.str _)⟩
theorem wE_isi {T : String} (w : wE C te y fun z y1 => ∃ d, z = .d d ∧ Q (.d (.bool (isT T d))) y1) (hT : (tyNames.all fun n => (kitB n T).isSome) = true := by decide +kernel) : wE C (tCB (rIsi C.K) (tCons te (tCons (tC (.ty T)) tNil))) y Q := by
  intro F σ H K wd k
  refine w F σ H _ wd fun x H1 z y1 w1 g1 s1 r1 q1 => ?_
  obtain ⟨d, rfl, h⟩ := q1
  exact ⟨x, .ty T, _, _, isT T d, rfl, .ty T, rp_ty r1, kit_ty (kit_isT hT d), k _ H1 (.d (.bool (isT T d))) y1 w1 g1 s1 (.bl _) h⟩
theorem wE_isi2 {T U : String} (w : wE C te y fun z y1 => ∃ d, z = .d d ∧ Q (.d (.bool (isT T d || isT U d))) y1) (hT : (tyNames.all fun n => (kitB n T).isSome) = true := by decide +kernel) (hU : (tyNames.all fun n => (kitB n U).isSome) = true := by decide +kernel) :
    wE C (tCB (rIsiT C.K) (tCons te (tCons (tTup (tCons (tC (.ty T)) (tCons (tC (.ty U)) tNil))) tNil))) y Q := by
  intro F σ H K wd k
  refine w F σ H _ wd fun x H1 z y1 w1 g1 s1 r1 q1 => ?_
  obtain ⟨d, rfl, h⟩ := q1
  refine ⟨by show 2 ≤ sizeLine; decide, fun p hp => ?_⟩
  have gr := grow_upd (o := .tup [.ty T, .ty U]) hp
  refine ⟨x, p, [.ty T, .ty U], _, [.type T, .type U], isT T d || isT U d, rfl, upd_same, .cons (.ty T) (.cons (.ty U) .nil), rp_ty (Rp.go (go_grow (F := F) (σ := σ) (y := y1) gr) r1), ?_, k _ _ (.d (.bool (isT T d || isT U d))) y1 (w1.grow gr) (g1.trans (go_grow gr)) s1 (.bl _) h⟩
  refine kitAny_cons (b := isT T d) (kit_ty (kit_isT hT d)) (fun e => ?_) (fun e => by rw [e]; rfl)
  refine kitAny_cons (b := isT U d) (kit_ty (kit_isT hU d)) (fun e2 => ?_) (fun e2 => by rw [e, e2]; rfl)
  rw [e, e2]
  rfl
variable {tl th : TO}
theorem wO_no {q : Option Int → S → Prop} (h : q none y) : wO C tNoPart y q := fun F σ H K wd k => k none H y wd GoH.refl (Sh.refl y) h
theorem wO_part {q : Option Int → S → Prop} (w : wE C te y fun z y1 => ∃ i, z = .d (.int i) ∧ q (some i) y1) : wO C (tPart te) y q := by
  intro F σ H K wd k
  refine w F σ H _ wd fun x H1 z y1 w1 g1 s1 r1 q1 => ?_
  obtain ⟨i, rfl, h⟩ := q1
  exact ⟨i, rp_int r1, k (some i) H1 y1 w1 g1 s1 h⟩
theorem wE_sl (w : wE C te y fun z y1 => wO C tl y1 fun l y2 => wO C th y2 fun h y3 => ∃ d g, z = .d d ∧ dCut d l h = some g ∧ Q (.d g) y3) : wE C (tSl (rSlD C.K) te tl th) y Q := by
  intro F σ H K wd k
  refine w F σ H _ wd fun x H1 z y1 w1 g1 s1 r1 q1 => ?_
  refine q1 F σ H1 _ w1 fun l H2 y2 w2 g2 s2 q2 => ?_
  refine q2 F σ H2 _ w2 fun h H3 y3 w3 g3 s3 q3 => ?_
  obtain ⟨d, g, rfl, c, hq⟩ := q3
  have r3 : Rp C.K (Mv F σ y3) H3 x d := Rp.go (g2.trans g3) r1
  have G := (g1.trans g2).trans g3
  have SS := (s1.trans s2).trans s3
  cases r3 with
  | non => cases c
  | bl _ => cases c
  | int _ => cases c
  | dic _ _ _ => cases c
  | str z =>
    simp only [dCut] at c
    by_cases hz : z.length ≤ sizeLine
    · rw [if_pos hz] at c; cases c
      exact .inr (.inr ⟨z, rfl, hz, k _ H3 (.d (.str (cutS z l h))) y3 w3 G SS (.str _) hq⟩)
    · rw [if_neg hz] at c; cases c
  | @lst a xs ds h1 h2 =>
    cases c
    refine .inl ⟨a, xs, rfl, h1.sq, fun p hp => ?_⟩
    have gr := grow_upd (o := .lst (cutV xs l h)) hp
    exact k _ _ (.d (.list (cutD ds l h))) y3 (w3.grow gr) (G.trans (go_grow gr)) SS (.lst (.inl ⟨w3.new hp, .inl upd_same⟩) ((rpA_cut h2 l h).go (go_grow gr))) hq
  | @tup a xs ds h1 h2 =>
    cases c
    refine .inr (.inl ⟨a, xs, rfl, h1.sq, fun e => ?_, fun e p hp => ?_⟩)
    · rw [h2.len] at e
      rw [cutD_whole ds l h e] at hq
      exact k _ H3 (.d (.tuple ds)) y3 w3 G SS (.tup h1 h2) hq
    · have gr := grow_upd (o := .tup (cutV xs l h)) hp
      exact k _ _ (.d (.tuple (cutD ds l h))) y3 (w3.grow gr) (G.trans (go_grow gr)) SS (.tup (.inl ⟨w3.new hp, .inl upd_same⟩) ((rpA_cut h2 l h).go (go_grow gr))) hq
theorem wE_starts (w : wE C ta y fun z y1 => ∃ a, z = .d (.str a) ∧ wE C tb y1 fun z' y2 => ∃ b, z' = .d (.str b) ∧ Q (.d (.bool (Txt.startswith a b))) y2) :
    wE C (tM1 (fun x xs H Q => ∃ a b, x = .str a ∧ xs = [.str b] ∧ Q (.bl (Txt.startswith a b)) H) ta tb) y Q := by
  intro F σ H K wd k
  refine w F σ H _ wd fun x H1 z y1 w1 g1 s1 r1 q1 => ?_
  obtain ⟨a, rfl, q1⟩ := q1
  have e := rp_str r1
  subst e
  refine ⟨⟨a, rfl⟩, q1 F σ H1 _ w1 fun x2 H2 z' y2 w2 g2 s2 r2 q2 => ?_⟩
  obtain ⟨b, rfl, hq⟩ := q2
  exact ⟨a, b, rfl, by rw [rp_str r2], k _ H2 (.d (.bool _)) y2 w2 (g1.trans g2) (s1.trans s2) (.bl _) hq⟩
theorem wE_join (w : wE C ta y fun z y1 => ∃ a, z = .d (.str a) ∧ wE C tb y1 fun z' y2 => ∃ (d : D) (ys : List Str), z' = .d d ∧ dItems d = some (ys.map PyData.str) ∧ (ys.map (·.length)).sum + ys.length * a.length ≤ 16777216 ∧ Q (.d (.str (Txt.join a ys))) y2) :
    wE C (tM1 (fun x xs H Q => ∃ a p, ∃ ys : List Str, x = .str a ∧ xs = [.ref p] ∧ (SqL C.K H p (ys.map V.str) ∨ SqT C.K H p (ys.map V.str)) ∧ (ys.map (·.length)).sum + ys.length * a.length ≤ 16777216 ∧ Q (.str (Txt.join a ys)) H) ta tb) y Q := by
  intro F σ H K wd k
  refine w F σ H _ wd fun x H1 z y1 w1 g1 s1 r1 q1 => ?_
  obtain ⟨a, rfl, q1⟩ := q1
  have e := rp_str r1
  subst e
  refine ⟨⟨a, rfl⟩, q1 F σ H1 _ w1 fun x2 H2 z' y2 w2 g2 s2 r2 q2 => ?_⟩
  obtain ⟨d, ys, rfl, hi, hz, hq⟩ := q2
  obtain ⟨p, us, rfl, h1, h2⟩ := rp_items r2 hi
  have e := rpA_strs h2
  subst e
  exact ⟨a, p, ys, rfl, rfl, h1.elim (fun z => .inl z.sq) (fun z => .inr z.sq), hz, k _ H2 (.d (.str _)) y2 w2 (g1.trans g2) (s1.trans s2) (.str _) hq⟩
end
end Ux

set_option maxRecDepth 100000
set_option maxHeartbeats 4000000
namespace Ux
open PySem PySem.Spec PyProof.Rows L2 Tq
section
variable {C : Ct} {y : S} {ta tb tc te : TE} {t u : TT} {tx tz : TS} {ts : TA} {e : En} {Q : Z → S → Prop} {q : List Z → S → Prop}
/-! arguments of any kind -/
def wZ (C : Ct) (ta : TA) (y : S) (Q : List Z → S → Prop) : Prop := ∀ (F : Fr) σ H (K : List V → Hp → Prop), Wd C F σ y H → (∀ vs H' zs y', Wd C F σ y' H' → Go F σ y H σ y' H' → Sh y y' → RwA C.K (Mv F σ y') H' vs zs → Q zs y' → K vs H') → ta σ H K
theorem wZ_nil (h : q [] y) : wZ C tNil y q := fun F σ H K wd k => k [] H [] y wd GoH.refl (Sh.refl y) .nil h
theorem wZ_cons (w : wE C ta y fun z y1 => wZ C ts y1 fun zs y2 => q (z :: zs) y2) : wZ C (tCons ta ts) y q := by
  intro F σ H K wd k
  refine w F σ H _ wd fun x H1 z y1 w1 g1 s1 r1 h => ?_
  exact h F σ H1 _ w1 fun vs H2 ds y2 w2 g2 s2 r2 q2 => k (x :: vs) H2 (z :: ds) y2 w2 (g1.trans g2) (s1.trans s2) (.cons (r1.w.go g2) r2) q2
theorem wZ_mono {q' : List Z → S → Prop} (h : wZ C ts y q) (e : ∀ z y', q z y' → q' z y') : wZ C ts y q' := fun F σ H K w k => h F σ H K w fun vs H' z y' a b c d f => k vs H' z y' a b c d (e z y' f)
theorem wE_tupZ (w : wZ C ts y fun zs y1 => zs.length ≤ sizeLine ∧ Q (.tup zs) y1) : wE C (tTup ts) y Q := by
  intro F σ H K wd k
  refine w F σ H _ wd fun vs H1 zs y1 w1 g1 s1 r1 ⟨hz, q1⟩ => ⟨by rw [r1.len]; exact hz, fun p hp => ?_⟩
  have gr := grow_upd (o := .tup vs) hp
  exact k _ _ (.tup zs) y1 (w1.grow gr) (g1.trans (go_grow gr)) s1 (.tup (.inl ⟨w1.new hp, .inl upd_same⟩) (r1.go (go_grow (F := F) (σ := σ) (y := y1) gr))) q1
theorem wE_lstZ (w : wZ C ts y fun zs y1 => zs.length ≤ sizeLine ∧ Q (.lst zs) y1) : wE C (tLst ts) y Q := by
  intro F σ H K wd k
  refine w F σ H _ wd fun vs H1 zs y1 w1 g1 s1 r1 ⟨hz, q1⟩ => ⟨by rw [r1.len]; exact hz, fun p hp => ?_⟩
  have gr := grow_upd (o := .lst vs) hp
  exact k _ _ (.lst zs) y1 (w1.grow gr) (g1.trans (go_grow gr)) s1 (.lst (.inl ⟨w1.new hp, .inl upd_same⟩) (r1.go (go_grow (F := F) (σ := σ) (y := y1) gr))) q1
/-! storing -/
theorem wS_asg {i : Nat} (w : wE C te y fun z y1 => e.nx (y1.set i (some z))) : wS C (tAsg te (gName i)) y e := by
  intro F σ H E st wd k
  exact w F σ H _ wd fun v H1 z y1 w1 g1 s1 r1 q => k.nx _ H1 _ (w1.set_z r1) (g1.trans go_set) q
theorem wS_par {i j : Nat} (w : wZ C ts y fun zs y1 => ∃ z u, zs = [z, u] ∧ e.nx ((y1.set i (some z)).set j (some u))) : wS C (tPar i j ts) y e := by
  intro F σ H E st wd k
  refine w F σ H _ wd fun vs H1 zs y1 w1 g1 s1 r1 q => ?_
  obtain ⟨z, u, rfl, q⟩ := q
  cases r1 with | @cons v _ vs _ rv r2 =>
  cases r2 with | @cons v2 _ vs2 _ ru r3 =>
  cases r3
  refine ⟨v, v2, rfl, k.nx _ H1 _ ((w1.set_z rv.z).set_z (Rz.go (σ := σ) go_set ru.z).w.z) ((g1.trans (go_set (σ' := σ))).trans go_set) q⟩
theorem wS_aug {i : Nat} {f : Int → Int → Int} {a : Int} (hx : y.l[i]? = some (some (.d (.int a)))) (w : wE C te y fun z y1 => ∃ b, z = .d (.int b) ∧ e.nx (y1.set i (some (.d (.int (f a b)))))) : wS C (tAug i te (ipI f)) y e := by
  intro F σ H E st wd k
  obtain ⟨x, h1, h2⟩ := wd.slot i _ hx
  cases h2 with | d h2 =>
  refine ⟨x, h1, w F σ H _ wd fun v H1 z y1 w1 g1 s1 r1 q => ?_⟩
  obtain ⟨b, rfl, q⟩ := q
  exact ⟨a, b, rp_int h2, rp_int r1, k.nx _ H1 _ (w1.set_z (z := .d (.int (f a b))) (.int _)) (g1.trans go_set) q⟩
/-! targets -/
def wG (C : Ct) (g : TG) (z : Z) (y : S) (Q : S → Prop) : Prop := ∀ (F : Fr) σ H (v : V) (R : St → Hp → Prop), Wd C F σ y H → Rz C F σ y H v z → (∀ σ' y', Wd C F σ' y' H → Go F σ y H σ' y' H → Q y' → R σ' H) → g v σ H R
variable {g : TG} {Qg : S → Prop}
theorem wG_name {i : Nat} {z : Z} (h : Qg (y.set i (some z))) : wG C (gName i) z y Qg := fun F σ H v R wd r k => k _ _ (wd.set_z r) go_set h
def wGs (C : Ct) (g : TGs) (zs : List Z) (y : S) (Q : S → Prop) : Prop := ∀ (F : Fr) σ H (vs : List V) (R : St → Hp → Prop), Wd C F σ y H → RwA C.K (Mv F σ y) H vs zs → (∀ σ' y', Wd C F σ' y' H → Go F σ y H σ' y' H → Q y' → R σ' H) → g vs σ H R
theorem wGs_nil (h : Qg y) : wGs C gNil [] y Qg := fun F σ H vs R wd r k => by
  cases r
  exact ⟨rfl, k σ y wd GoH.refl h⟩
theorem wGs_cons {gs : TGs} {z : Z} {zs : List Z} (h : wG C g z y fun y1 => wGs C gs zs y1 Qg) : wGs C (gCons g gs) (z :: zs) y Qg := fun F σ H vs R wd r k => by
  cases r with
  | @cons v _ vs _ r1 r2 =>
    refine ⟨v, vs, rfl, h F σ H v _ wd r1.z fun σ1 y1 w1 g1 q1 => ?_⟩
    exact q1 F σ1 H vs R w1 (r2.go g1) fun σ2 y2 w2 g2 q2 => k σ2 y2 w2 (g1.trans g2) q2
theorem wG_tup {n : Nat} {gs : TGs} {ds : List D} (hn : ds.length = n) (h : wGs C gs (ds.map Z.d) y Qg) : wG C (gTup C.K n gs) (.d (.tuple ds)) y Qg := fun F σ H v R wd r k => by
  obtain ⟨a, us, rfl, h1, h2⟩ := rp_tup r
  exact ⟨a, us, rfl, h1.sq, by rw [h2.len]; exact hn, h F σ H us R wd (RwA.of h2) k⟩
theorem wG_tupZ {n : Nat} {gs : TGs} {zs : List Z} (hn : zs.length = n) (h : wGs C gs zs y Qg) : wG C (gTup C.K n gs) (.tup zs) y Qg := fun F σ H v R wd r k => by
  cases r.w with
  | tup h1 h2 => exact ⟨_, _, rfl, h1.sq, by rw [h2.len]; exact hn, h F σ H _ R wd h2 k⟩
theorem wS_asgG (w : wE C te y fun z y1 => wG C g z y1 e.nx) : wS C (tAsg te g) y e := by
  intro F σ H E st wd k
  exact w F σ H _ wd fun v H1 z y1 w1 g1 s1 r1 q => q F σ H1 v _ w1 r1 fun σ2 y2 w2 g2 q2 => k.nx σ2 H1 y2 w2 (g1.trans g2) q2
end
section
variable {C : Ct} {y : S} {ta tb tc te : TE} {t u : TT} {tx tz : TS} {ts : TA} {e : En} {R : Bool → S → Prop}
theorem EnOk.go {σ σ' : St} {y' : S} {H H' : Hp} {E : Ends} (k : EnOk C F σ y H e E) (g : Go F σ y H σ' y' H') : EnOk C F σ' y' H' e E :=
  ⟨fun a b c w g2 q => k.nx a b c w (g.trans g2) q, fun a b c d f w g2 r q => k.rt a b c d f w (g.trans g2) r q, fun a b c w g2 q => k.bk a b c w (g.trans g2) q, fun a b c w g2 q => k.ct a b c w (g.trans g2) q⟩
theorem wS_seq (w : wS C tx y { e with nx := fun y1 => wS C tz y1 e }) : wS C (tSeq tx tz) y e := by
  intro F σ H E st wd k
  refine w F σ H _ st wd ⟨fun σ1 H1 y1 w1 g1 q => ?_, k.rt, k.bk, k.ct⟩
  exact q F σ1 H1 E st w1 (k.go g1)
theorem wS_next (h : e.nx y) : wS C tNext y e := fun F σ H E st wd k => k.nx σ H y wd GoH.refl h
theorem wS_ret (w : wE C te y fun z y1 => e.rt z y1) : wS C (tRet te) y e := by
  intro F σ H E st wd k
  exact w F σ H _ wd fun v H1 z y1 w1 g1 s1 r1 q => k.rt σ v H1 z y1 w1 g1 r1 q
theorem wS_retN (h : e.rt (.d .none) y) : wS C tRetN y e := fun F σ H E st wd k => k.rt σ .non H (.d .none) y wd GoH.refl .non h
theorem wS_drop (w : wE C te y fun z y1 => e.nx y1) : wS C (tDrop te) y e := by
  intro F σ H E st wd k
  exact w F σ H _ wd fun v H1 z y1 w1 g1 s1 r1 q => k.nx σ H1 y1 w1 g1 q
theorem wS_if (w : wT C t y fun b y1 => if b = true then wS C tx y1 e else wS C tz y1 e) : wS C (tIfS t tx tz) y e := by
  intro F σ H E st wd k
  refine w F σ H _ wd fun b H1 y1 w1 g1 s1 q => ?_
  cases b with
  | true => exact q F σ H1 E st w1 (k.go g1)
  | false => exact q F σ H1 E st w1 (k.go g1)
theorem wS_mono {e' : En} (h : wS C tx y e) (h1 : ∀ y, e.nx y → e'.nx y) (h2 : ∀ z y, e.rt z y → e'.rt z y) (h3 : ∀ y, e.bk y → e'.bk y) (h4 : ∀ y, e.ct y → e'.ct y) : wS C tx y e' := fun F σ H E st wd k =>
  h F σ H E st wd ⟨fun a b c w g q => k.nx a b c w g (h1 _ q), fun a b c d f w g r q => k.rt a b c d f w g r (h2 _ _ q), fun a b c w g q => k.bk a b c w g (h3 _ q), fun a b c w g q => k.ct a b c w g (h4 _ q)⟩
theorem wS_seqA {i : Nat} (w : wE C te y fun z y1 => wS C tz (y1.set i (some z)) e) : wS C (tSeq (tAsg te (gName i)) tz) y e := wS_seq (wS_asg w)
theorem wS_seqP {i j : Nat} (w : wZ C ts y fun zs y1 => ∃ z u, zs = [z, u] ∧ wS C tz ((y1.set i (some z)).set j (some u)) e) : wS C (tSeq (tPar i j ts) tz) y e := wS_seq (wS_par w)
theorem wS_seqI (w : wT C t y fun b y1 => if b = true then wS C tx y1 { nx := fun y2 => wS C tz y2 e, rt := e.rt, bk := e.bk, ct := e.ct } else wS C tz y1 e) : wS C (tSeq (tIfS t tx tNext) tz) y e := by
  refine wS_seq (wS_if (wT_mono w fun b y1 h => ?_))
  cases b with
  | true => exact h
  | false => exact wS_next h
theorem wS_ifN (w : wT C t y fun b y1 => if b = true then wS C tx y1 e else e.nx y1) : wS C (tIfS t tx tNext) y e := by
  refine wS_if (wT_mono w fun b y1 h => ?_)
  cases b with
  | true => exact h
  | false => exact wS_next h
def JOk (C : Ct) (F : Fr) (J : It) (σ : St) (y : S) (H : Hp) (xs : List D) : Prop := ∀ (F1 : Fr) σ1 y1 H1, Wd0 C.K F1 σ1 y1 H1 → GoH (Mv F σ y) H (Mv F1 σ1 y1) H1 → ∀ i : Nat, (i < xs.length → J.go i H1) ∧ (xs.length ≤ i → J.stop i H1) ∧
  ∀ x, xs[i]? = some x → ∀ v H2, J.yld i H1 v H2 → (∀ a o, H1 a = some o → H2 a = some o) ∧ Rp C.K (Mv F1 σ1 y1) H2 v x
def wI (C : Ct) (wi : TI) (y : S) (Q : List D → S → Prop) : Prop := ∀ (F : Fr) σ H (R : It → Hp → Prop), Wd C F σ y H → (∀ J H' xs y', Wd C F σ y' H' → Go F σ y H σ y' H' → Sh y y' → JOk C F J σ y' H' xs → Q xs y' → R J H') → wi σ H R
variable {Qi : List D → S → Prop} {wi : TI}
theorem wI_list (w : wE C te y fun z y1 => ∃ xs, z = .d (.list xs) ∧ Qi xs y1) : wI C (iList C.K te) y Qi := by
  intro F σ H R wd k
  refine w F σ H _ wd fun v H1 z y1 w1 g1 s1 r1 q => ?_
  obtain ⟨xs, rfl, q⟩ := q
  obtain ⟨a, us, rfl, h1, h2⟩ := rp_lst r1
  refine ⟨a, rfl, ⟨us, h1.sq⟩, k _ H1 xs y1 w1 g1 s1 (fun F1 σ2 y2 H2 w2 g2 i => ?_) q⟩
  have e1 := (h1.go g2).sq
  have e2 := h2.go g2
  refine ⟨fun hi => ?_, fun hi => ⟨us, e1, by rw [h2.len]; exact hi⟩, fun x hx v H3 hy => ?_⟩
  · have : i < us.length := by rw [h2.len]; exact hi
    exact ⟨us, us[i], e1, by simp [this]⟩
  · obtain ⟨rfl, hv⟩ := hy
    obtain ⟨d, hd, rd⟩ := e2.getV (hv us e1)
    rw [hx] at hd
    cases hd
    exact ⟨fun _ _ e => e, rd⟩
theorem wI_tup (w : wE C te y fun z y1 => ∃ xs, z = .d (.tuple xs) ∧ Qi xs y1) : wI C (iTup C.K te) y Qi := by
  intro F σ H R wd k
  refine w F σ H _ wd fun v H1 z y1 w1 g1 s1 r1 q => ?_
  obtain ⟨xs, rfl, q⟩ := q
  obtain ⟨a, us, rfl, h1, h2⟩ := rp_tup r1
  refine ⟨a, rfl, ⟨us, h1.sq⟩, k _ H1 xs y1 w1 g1 s1 (fun F1 σ2 y2 H2 w2 g2 i => ?_) q⟩
  have e1 := (h1.go g2).sq
  have e2 := h2.go g2
  refine ⟨fun hi => ?_, fun hi => ⟨us, e1, by rw [h2.len]; exact hi⟩, fun x hx v H3 hy => ?_⟩
  · have : i < us.length := by rw [h2.len]; exact hi
    exact ⟨us, us[i], e1, by simp [this]⟩
  · obtain ⟨rfl, hv⟩ := hy
    obtain ⟨d, hd, rd⟩ := e2.getV (hv us e1)
    rw [hx] at hd
    cases hd
    exact ⟨fun _ _ e => e, rd⟩
theorem wI_str (w : wE C te y fun z y1 => ∃ x, z = .d (.str x) ∧ Qi (signs x) y1) : wI C (iStr te) y Qi := by
  intro F σ H R wd k
  refine w F σ H _ wd fun v H1 z y1 w1 g1 s1 r1 q => ?_
  obtain ⟨x, rfl, q⟩ := q
  refine ⟨x, rp_str r1, k _ H1 (signs x) y1 w1 g1 s1 (fun F1 σ2 y2 H2 w2 g2 i => ⟨fun hi => ?_, fun hi => ?_, fun d hd v H3 hy => ?_⟩) q⟩
  · rw [signs_len] at hi; exact hi
  · rw [signs_len] at hi; exact hi
  · obtain ⟨rfl, c, hc, rfl⟩ := hy
    refine ⟨fun _ _ e => e, ?_⟩
    unfold Tq.signs at hd
    rw [List.getElem?_map, Array.getElem?_toList, hc] at hd
    cases hd
    exact .str _
theorem wI_rng1 (w : wD C ts y fun ds y1 => ∃ j : Int, ds = [.int j] ∧ -(2 ^ 62) ≤ j ∧ j < 2 ^ 62 ∧ Qi (rangeD 0 j.toNat) y1) : wI C (iRng1 ts) y Qi := by
  intro F σ H R wd k
  refine w F σ H _ wd fun vs H1 ds y1 w1 g1 s1 r1 q => ?_
  obtain ⟨j, rfl, h1, h2, q⟩ := q
  obtain ⟨v, rfl, rv⟩ := rpA1 r1
  have e := rp_int rv
  subst e
  refine ⟨j, rfl, h1, h2, k _ H1 _ y1 w1 g1 s1 (fun F1 σ2 y2 H2 w2 g2 i => ⟨fun hi => ?_, fun hi => ?_, fun d hd v H3 hy => ?_⟩) q⟩
  · rw [rangeD_len] at hi; exact hi
  · rw [rangeD_len] at hi; exact hi
  · obtain ⟨rfl, rfl⟩ := hy
    obtain ⟨_, rfl⟩ := rangeD_get hd
    exact ⟨fun _ _ e => e, .int _⟩
theorem wI_rng2 (w : wD C ts y fun ds y1 => ∃ i j : Int, ds = [.int i, .int j] ∧ (-(2 ^ 62) ≤ i ∧ i < 2 ^ 62 ∧ -(2 ^ 62) ≤ j ∧ j < 2 ^ 62) ∧ Qi (rangeD i (j - i).toNat) y1) : wI C (iRng2 ts) y Qi := by
  intro F σ H R wd k
  refine w F σ H _ wd fun vs H1 ds y1 w1 g1 s1 r1 q => ?_
  obtain ⟨i0, j, rfl, h1, q⟩ := q
  obtain ⟨v, u, rfl, rv, ru⟩ := rpA2 r1
  have e := rp_int rv
  have e' := rp_int ru
  subst e e'
  refine ⟨i0, j, rfl, h1, k _ H1 _ y1 w1 g1 s1 (fun F1 σ2 y2 H2 w2 g2 i => ⟨fun hi => ?_, fun hi => ?_, fun d hd v H3 hy => ?_⟩) q⟩
  · rw [rangeD_len] at hi; exact hi
  · rw [rangeD_len] at hi; exact hi
  · obtain ⟨rfl, rfl⟩ := hy
    obtain ⟨_, rfl⟩ := rangeD_get hd
    exact ⟨fun _ _ e => e, .int _⟩
variable {g : TG} {Qg : S → Prop}
theorem wS_for (w : wI C wi y fun xs y1 => ∃ I : Nat → S → Prop, I 0 y1 ∧ (∀ i x y2, xs[i]? = some x → I i y2 → wG C g (.d x) y2 fun y3 => wS C tx y3 { nx := I (i + 1), ct := I (i + 1), bk := e.nx, rt := e.rt }) ∧ (∀ y2, I xs.length y2 → e.nx y2)) :
    wS C (tFor wi g tx) y e := by
  intro F σ H E st wd k
  refine w F σ H _ wd fun J H1 xs y1 w1 g1 s1 hJ ⟨I, h0, hs, hd⟩ => ?_
  refine ⟨fun i m σ2 H2 => m = xs.length - i ∧ i ≤ xs.length ∧ ∃ y2, Wd C F σ2 y2 H2 ∧ Go F σ y1 H1 σ2 y2 H2 ∧ I i y2, ⟨xs.length, by simp, Nat.zero_le _, y1, w1, GoH.refl, h0⟩, ?_⟩
  rintro i m σ2 H2 ⟨rfl, hi, y2, w2, g2, hI⟩
  obtain ⟨j1, j2, j3⟩ := hJ F σ2 y2 H2 w2.toWd0 g2 i
  by_cases hlt : i < xs.length
  · refine .inr ⟨j1 hlt, fun σ3 H3 => ∃ y3, Wd C F σ3 y3 H3 ∧ Go F σ y1 H1 σ3 y3 H3 ∧ I (i + 1) y3, fun σ3 H3 ⟨y3, w3, g3, h3⟩ => ⟨xs.length - (i + 1), by omega, rfl, hlt, y3, w3, g3, h3⟩, fun v H3 hy => ?_⟩
    have ex : xs[i]? = some xs[i] := List.getElem?_eq_getElem hlt
    obtain ⟨gr, rv⟩ := j3 _ ex v H3 hy
    have w3 := w2.grow gr
    have g3 := g2.trans (go_grow (F := F) (σ := σ2) (y := y2) gr)
    refine hs i _ y2 ex hI F σ2 H3 v _ w3 rv fun σ4 y4 w4 g4 q4 => ?_
    refine q4 F σ4 H3 _ st w4 ⟨fun σ5 H5 y5 w5 g5 q5 => ⟨y5, w5, (g3.trans g4).trans g5, q5⟩, fun σ5 v5 H5 z5 y5 w5 g5 r5 q5 => k.rt σ5 v5 H5 z5 y5 w5 (((g1.trans g3).trans g4).trans g5) r5 q5,
      fun σ5 H5 y5 w5 g5 q5 => k.nx σ5 H5 y5 w5 (((g1.trans g3).trans g4).trans g5) q5, fun σ5 H5 y5 w5 g5 q5 => ⟨y5, w5, (g3.trans g4).trans g5, q5⟩⟩
  · have ei : i = xs.length := by omega
    subst ei
    exact .inl ⟨j2 (Nat.le_refl _), k.nx σ2 H2 y2 w2 (g1.trans g2) (hd y2 hI)⟩
theorem wS_while (W : Nat → S → Prop) (h0 : ∃ m, W m y) (hs : ∀ m y1, W m y1 → wT C t y1 fun b y2 => if b = true then wS C tx y2 { nx := fun y3 => ∃ m', m' < m ∧ W m' y3, ct := fun y3 => ∃ m', m' < m ∧ W m' y3, bk := e.nx, rt := e.rt } else e.nx y2) :
    wS C (tWhile t tx) y e := by
  intro F σ H E st wd k
  obtain ⟨m0, h0⟩ := h0
  refine ⟨fun m σ1 H1 => ∃ y1, Wd C F σ1 y1 H1 ∧ Go F σ y H σ1 y1 H1 ∧ W m y1, ⟨m0, y, wd, GoH.refl, h0⟩, ?_⟩
  rintro m σ1 H1 ⟨y1, w1, g1, hw⟩
  refine hs m y1 hw F σ1 H1 _ w1 fun b H2 y2 w2 g2 s2 q => ?_
  cases b with
  | true =>
    refine ⟨fun σ3 H3 => ∃ m', m' < m ∧ ∃ y3, Wd C F σ3 y3 H3 ∧ Go F σ y H σ3 y3 H3 ∧ W m' y3, fun σ3 H3 ⟨m', hm, z⟩ => ⟨m', hm, z⟩, ?_⟩
    exact q F σ1 H2 _ st w2 ⟨fun σ5 H5 y5 w5 g5 ⟨m', hm, q5⟩ => ⟨m', hm, y5, w5, (g1.trans g2).trans g5, q5⟩, fun σ5 v5 H5 z5 y5 w5 g5 r5 q5 => k.rt σ5 v5 H5 z5 y5 w5 ((g1.trans g2).trans g5) r5 q5,
      fun σ5 H5 y5 w5 g5 q5 => k.nx σ5 H5 y5 w5 ((g1.trans g2).trans g5) q5, fun σ5 H5 y5 w5 g5 ⟨m', hm, q5⟩ => ⟨m', hm, y5, w5, (g1.trans g2).trans g5, q5⟩⟩
  | false => exact k.nx σ1 H2 y2 w2 (g1.trans g2) q
end
end Ux

set_option maxRecDepth 100000
set_option maxHeartbeats 2000000
namespace Ux
open PySem PySem.Spec PyProof.Rows L2 Tq
theorem dom_ao {m m' : List Cl} (h : ao m = ao m') (a : Addr) : Dom m a ↔ Dom m' a := by
  have key : ∀ n : List Cl, Dom n a ↔ a ∈ (ao n).map (·.1) := fun n => by
    unfold Dom ao
    rw [List.map_map, List.mem_map]
    exact ⟨fun ⟨e, h1, h2⟩ => ⟨e, h1, h2⟩, fun ⟨e, h1, h2⟩ => ⟨e, h1, h2⟩⟩
  rw [key, key, h]
theorem own_ao {m m' : List Cl} (h : ao m = ao m') {e : Cl} (he : e ∈ m) : ∃ e' ∈ m', e'.a = e.a ∧ e'.own = e.own ∧ e'.c.isRo = e.c.isRo := by
  have : (e.a, e.own, e.c.isRo) ∈ ao m' := by rw [← h]; exact List.mem_map.mpr ⟨e, he, rfl⟩
  obtain ⟨e', h1, h2⟩ := List.mem_map.mp this
  exact ⟨e', h1, congrArg Prod.fst h2, congrArg (fun x => x.2.1) h2, congrArg (fun x => x.2.2) h2⟩
theorem domW_ao {m m' : List Cl} (h : ao m = ao m') (a : Addr) : DomW m a → DomW m' a := fun ⟨e, h1, h2, h3⟩ => by
  obtain ⟨e', q1, q2, _, q3⟩ := own_ao h h1
  exact ⟨e', q1, q2.trans h2, q3.trans h3⟩
theorem DomW.dom {m : List Cl} {a : Addr} (h : DomW m a) : Dom m a := let ⟨e, h1, h2, _⟩ := h; ⟨e, h1, h2⟩
section
variable {K : Fg} {F : Fr} {σ : St} {y y' u : S} {H H' : Hp} {l : Addr}
/-- a frame within, at the heap as it stands; l is apart -/
def sub (F : Fr) (σ : St) (u : S) (H : Hp) (l : Addr) : Fr := ⟨H, DomW u.m, fun a => Mv F σ u a ∨ a = l, false⟩
theorem sub_mv {a : Addr} {H0 : Hp} {τ : St} (s : ao y.m = ao u.m) : Mv (sub F σ u H0 l) τ y a ↔ (Mv F σ u a ∨ a = l) := by
  constructor
  · rintro (z | z)
    · exact z
    · exact .inl (.inr ((dom_ao s a).mp z))
  · exact .inl
theorem mv_ao {a : Addr} {τ : St} (s : ao y.m = ao u.m) : Mv F τ y a ↔ Mv F σ u a := by
  unfold Mv
  rw [dom_ao s a]
/-- into the frame within -/
theorem Wd0.into (w : Wd0 K F σ u H) {o : HO} (h : H l = none) : Wd0 K (sub F σ u (upd H l o) l) σ u (upd H l o) := by
  have nl : ¬ Mv F σ u l := w.new h
  have g : GoH (Mv F σ u) H (Mv (sub F σ u (upd H l o) l) σ u) (upd H l o) := fun a v n e => by
    have ne : a ≠ l := ne_of_none e h
    exact ⟨fun z => ((sub_mv rfl).mp z).elim n ne, by rw [upd_ne ne]; exact e⟩
  have lv : ∀ a, (Mv F σ u a ∨ a = l) → upd H l o a ≠ none := by
    rintro a (z | z) e
    · by_cases ha : a = l
      · exact nl (ha ▸ z)
      · rw [upd_ne ha] at e
        exact w.new e z
    · rw [z, upd_same] at e; cases e
  refine ⟨fun a v _ e => e, lv, lv, w.len, fun i z e => ?_, fun e he => (w.cell e he).go g fun o q => grow_upd h _ _ q, w.dist, fun e he hr => .inl ⟨e, he, rfl, hr⟩, fun a z => .inl (.inr z.dom), fun q => nomatch q⟩
  obtain ⟨x, h1, h2⟩ := w.slot i z e
  exact ⟨x, h1, h2.go g⟩
/-- rebased at another heap, in which only l and new things are otherwise -/
theorem Wd0.reb {H0 : Hp} {τ : St} (w : Wd0 K (sub F σ u H0 l) τ y H) (s : ao y.m = ao u.m) (kp : ∀ a o, a ≠ l → H a = some o → H' a = some o) (hl : H' l ≠ none) (nl : ¬ Dom u.m l) : Wd0 K (sub F σ u H' l) τ y H' ∧ GoH (Mv (sub F σ u H0 l) τ y) H (Mv (sub F σ u H' l) τ y) H' := by
  have g : GoH (Mv (sub F σ u H0 l) τ y) H (Mv (sub F σ u H' l) τ y) H' := fun a v n e => by
    have ne : a ≠ l := fun z => n ((sub_mv s).mpr (.inr z))
    exact ⟨fun z => n ((sub_mv s).mpr ((sub_mv s).mp z)), kp a v ne e⟩
  have lv : ∀ a, (Mv F σ u a ∨ a = l) → H' a ≠ none := fun a z e => by
    by_cases ha : a = l
    · rw [ha] at e; exact hl e
    · cases q : H a with
      | none => exact w.live a z q
      | some o => rw [kp a o ha q] at e; cases e
  refine ⟨⟨fun a v _ e => e, lv, lv, w.len, fun i z e => ?_, fun e he => (w.cell e he).go g fun o q => kp _ _ (fun z => nl ?_) q, w.dist, fun e he hr => .inl (domW_ao s _ ⟨e, he, rfl, hr⟩), fun a z => .inl (.inr z.dom), fun q => nomatch q⟩, g⟩
  · obtain ⟨x, h1, h2⟩ := w.slot i z e
    exact ⟨x, h1, h2.go g⟩
  · exact z ▸ (dom_ao s e.a).mp ⟨e, he, rfl⟩
theorem Wd0.outOf {H0 H2 : Hp} (w : Wd0 K F σ u H) (h : H l = none) (w2 : Wd0 K (sub F σ u H0 l) σ y H2) (s : ao y.m = ao u.m) (kp : ∀ a o, ¬ DomW u.m a → H a = some o → H2 a = some o) :
    Wd0 K F σ y H2 ∧ Go F σ u H σ y H2 ∧ ¬ Mv F σ y l ∧ GoH (Mv (sub F σ u H0 l) σ y) H2 (Mv F σ y) H2 ∧ GoH (Mv F σ u) H (Mv (sub F σ u H0 l) σ y) H2 := by
  have nl : ¬ Mv F σ u l := w.new h
  have gd : GoH (Mv (sub F σ u H0 l) σ y) H2 (Mv F σ y) H2 := fun a v n e => ⟨fun z => n ((sub_mv s).mpr (.inl ((mv_ao s).mp z))), e⟩
  refine ⟨⟨fun a v n e => kp a v (fun z => ?_) (w.keep a v n e), w.live0, fun a m => w2.live a (.inl (.inl m)), w2.len, fun i z e => ?_, fun e he => (w2.cell e he).go gd fun _ q => q, w2.dist, fun e he hr => ?_, w.sm, fun st e he ho => ?_⟩,
    fun a v n e => ⟨fun z => n ((mv_ao s).mp z), kp a v (fun z => n (.inr z.dom)) e⟩, fun z => nl ((mv_ao s).mp z), gd, fun a v n e => ⟨fun z => ((sub_mv s).mp z).elim n (ne_of_none e h), kp a v (fun z => n (.inr z.dom)) e⟩⟩
  · obtain ⟨e0, h1, rfl, hr⟩ := z
    rcases w.frsh e0 h1 hr with q | q
    · exact n q
    · rw [q] at e; cases e
  · obtain ⟨x, h1, h2⟩ := w2.slot i z e
    exact ⟨x, h1, h2.go gd⟩
  · obtain ⟨e', h1, h2, _, h4⟩ := own_ao s he
    rw [← h2]; exact w.frsh e' h1 (h4.trans hr)
  · obtain ⟨e', h1, h2, h3, _⟩ := own_ao s he
    rw [← h2]; exact w.nb st e' h1 (h3.trans ho)
end
/-- exceptions are none of our business here -/
@[reducible] def Ct.q (C : Ct) : Ct := { C with ex := fun _ _ => False }
theorem Wd0.q {C : Ct} {F : Fr} {σ : St} {y : S} {H : Hp} (w : Wd0 C.K F σ y H) : Wd C.q F σ y H := ⟨w, fun _ _ _ _ _ _ _ _ _ z => z.elim⟩
section
variable {C : Ct} {y : S} {te : TE} {tt : TT} {wi : TI} {Q : Z → S → Prop}
theorem slot_unset {K : Fg} {F : Fr} {σ : St} {l : List (Option Z)} {m : List Cl} {H : Hp} {j : Nat} {v : V} {z : Option Z} (w : Wd0 K F (σ.set j (some v)) ⟨l.set j z, m⟩ H) (hl : l.length = σ.length)
    (hj : ∀ x, l[j]? = some (some x) → ∃ u, σ[j]? = some (some u) ∧ Rw K (Mv F σ ⟨l, m⟩) H u x) : Wd0 K F σ ⟨l, m⟩ H := by
  refine ⟨w.keep, w.live0, w.live, hl.symm, fun i x e => ?_, w.cell, w.dist, w.frsh, w.sm, w.nb⟩
  by_cases n : i = j
  · rw [n] at e ⊢; exact hj x e
  · obtain ⟨u, h1, h2⟩ := w.slot i x (by show (l.set j z)[i]? = _; rw [List.getElem?_set_ne (Ne.symm n)]; exact e)
    rw [List.getElem?_set_ne (Ne.symm n)] at h1
    exact ⟨u, h1, h2⟩
/-- [e for x in .. if ..] -/
theorem wE_lc {j : Nat}
    (w : wI C wi y fun xs y1 => ∃ I : Nat → List D → List Cl → Prop, xs.length ≤ sizeLine ∧ (∀ i acc m, I i acc m → ao m = ao y1.m) ∧ I 0 [] y1.m ∧
      (∀ i x acc m, xs[i]? = some x → I i acc m → wT C.q tt ⟨y1.l.set j (some (.d x)), m⟩ fun b y3 => if b = true then wE C.q te y3 fun z y4 => ∃ d, z = .d d ∧ I (i + 1) (acc ++ [d]) y4.m else I (i + 1) acc y3.m) ∧
      (∀ acc m, I xs.length acc m → acc.length ≤ xs.length → Q (.d (.list acc)) ⟨y1.l, m⟩)) :
    wE C (tLc wi (gName j) tt te [j]) y Q := by
  intro F σ H K wd k
  refine w F σ H _ wd fun J H1 xs y1 w1 g1 s1 hJ ⟨I, hz, ha, h0, hs, hd⟩ => ?_
  intro l hl
  have wz : wipe σ [j] = σ.set j none := rfl
  obtain ⟨ul, um⟩ := y1
  have wi1 := w1.toWd0.into (l := l) (o := .lst []) hl
  have nOl : ¬ Dom um l := fun z => w1.new hl (.inr z)
  refine ⟨fun i n H2 => n = xs.length - i ∧ i ≤ xs.length ∧ ∃ m acc vs, Wd0 C.K (sub F σ ⟨ul, um⟩ H2 l) σ ⟨ul, m⟩ H2 ∧ (∀ a o, ¬ DomW um a → H1 a = some o → H2 a = some o) ∧ I i acc m ∧ H2 l = some (.lst vs) ∧ RpA C.K (Mv (sub F σ ⟨ul, um⟩ H2 l) σ ⟨ul, m⟩) H2 vs acc ∧ acc.length ≤ i,
    ⟨xs.length, by simp, Nat.zero_le _, um, [], [], wi1, fun a o _ e => grow_upd hl a o e, h0, upd_same, .nil, Nat.zero_le _⟩, ?_⟩
  rintro i n H2 ⟨rfl, hi, m, acc, vs, w2, kp2, hI, hl2, rv2, ha2⟩
  have am : ao m = ao um := ha i acc m hI
  obtain ⟨o1, o2, o3, o4, o5⟩ := w1.toWd0.outOf hl w2 am kp2
  obtain ⟨j1, j2, j3⟩ := hJ (sub F σ ⟨ul, um⟩ H2 l) σ ⟨ul, m⟩ H2 w2 o5 i
  by_cases hlt : i < xs.length
  · refine .inr ⟨j1 hlt, fun H3 => ∃ m acc vs, Wd0 C.K (sub F σ ⟨ul, um⟩ H3 l) σ ⟨ul, m⟩ H3 ∧ (∀ a o, ¬ DomW um a → H1 a = some o → H3 a = some o) ∧ I (i + 1) acc m ∧ H3 l = some (.lst vs) ∧ RpA C.K (Mv (sub F σ ⟨ul, um⟩ H3 l) σ ⟨ul, m⟩) H3 vs acc ∧ acc.length ≤ i + 1,
      fun H3 h => ⟨xs.length - (i + 1), by omega, rfl, hlt, h⟩, fun v H3 hy => ?_⟩
    have ex : xs[i]? = some xs[i] := List.getElem?_eq_getElem hlt
    obtain ⟨gr, rv⟩ := j3 _ ex v H3 hy
    obtain ⟨w3, gx⟩ := w2.reb am (H' := H3) (fun a o _ e => gr a o e) (by rw [gr l _ hl2]; simp) nOl
    have gy : GoH (Mv (sub F σ ⟨ul, um⟩ H2 l) σ ⟨ul, m⟩) H3 (Mv (sub F σ ⟨ul, um⟩ H3 l) σ ⟨ul, m⟩) H3 := fun a o n e => ⟨fun z => n ((sub_mv am).mpr ((sub_mv am).mp z)), e⟩
    have w4 : Wd0 C.K (sub F σ ⟨ul, um⟩ H3 l) (σ.set j (some v)) ⟨ul.set j (some (.d xs[i])), m⟩ H3 := w3.set_z (.d (rv.go gy))
    have eσ : (wipe σ [j]).set j (some v) = σ.set j (some v) := by rw [wz, List.set_set]
    show wipe ((wipe σ [j]).set j (some v)) [j] = wipe σ [j] ∧ tt ((wipe σ [j]).set j (some v)) H3 _
    rw [eσ]
    refine ⟨by show (σ.set j (some v)).set j none = σ.set j none; rw [List.set_set], ?_⟩
    have back : ∀ {m5 : List Cl} {l5 : List (Option Z)} {HH : Hp}, Wd0 C.K (sub F σ ⟨ul, um⟩ H3 l) (σ.set j (some v)) ⟨l5, m5⟩ HH → l5 = ul.set j (some (.d xs[i])) → ao m5 = ao um →
        GoH (Mv (sub F σ ⟨ul, um⟩ H3 l) σ ⟨ul, m⟩) H3 (Mv (sub F σ ⟨ul, um⟩ H3 l) σ ⟨l5, m5⟩) HH →
        Wd0 C.K (sub F σ ⟨ul, um⟩ H3 l) σ ⟨ul, m5⟩ HH ∧ (∀ a o, ¬ DomW um a → H1 a = some o → HH a = some o) ∧ HH l = some (.lst vs) := by
      intro m5 l5 HH ww e5 a5 gg
      subst e5
      refine ⟨slot_unset ww w3.len.symm fun x e => ?_, fun a o na e => ww.keep a o na (gr a o (kp2 a o na e)), ww.keep l _ (fun z => nOl z.dom) (gr l _ hl2)⟩
      obtain ⟨u, q1, q2⟩ := w3.slot j x e
      exact ⟨u, q1, q2.go gg⟩
    refine hs i _ acc m ex hI (sub F σ ⟨ul, um⟩ H3 l) _ H3 _ w4.q fun b H5 y5 w5 g5 s5 q5 => ?_
    obtain ⟨l5, m5⟩ := y5
    cases b with
    | false =>
      have a5 : ao m5 = ao um := ha _ _ _ q5
      have gA : GoH (Mv (sub F σ ⟨ul, um⟩ H3 l) σ ⟨ul, m⟩) H3 (Mv (sub F σ ⟨ul, um⟩ H3 l) σ ⟨l5, m5⟩) H5 := g5
      obtain ⟨b1, b4, b5⟩ := back w5.toWd0 s5.1 a5 gA
      obtain ⟨b6, gz⟩ := b1.reb a5 (H' := H5) (fun a o _ e => e) (by rw [b5]; simp) nOl
      exact ⟨m5, acc, vs, b6, b4, q5, b5, rv2.go ((gx.trans gA).trans gz), by omega⟩
    | true =>
      refine q5 (sub F σ ⟨ul, um⟩ H3 l) _ H5 _ w5 fun x6 H6 z6 y6 w6 g6 s6 r6 q6 => ?_
      obtain ⟨d, rfl, q6⟩ := q6
      obtain ⟨l6, m6⟩ := y6
      have a6 : ao m6 = ao um := ha _ _ _ q6
      have gA : GoH (Mv (sub F σ ⟨ul, um⟩ H3 l) σ ⟨ul, m⟩) H3 (Mv (sub F σ ⟨ul, um⟩ H3 l) σ ⟨l6, m6⟩) H6 := g5.trans g6
      obtain ⟨b1, b4, b5⟩ := back w6.toWd0 (s6.1.trans s5.1) a6 gA
      have hlen : vs.length = acc.length := rv2.len
      obtain ⟨b6, gz⟩ := b1.reb a6 (H' := upd H6 l (.lst (vs ++ [x6]))) (fun a o n e => by rw [upd_ne n]; exact e) (by rw [upd_same]; simp) nOl
      refine ⟨vs, b5, by omega, m6, acc ++ [d], vs ++ [x6], b6, fun a o na e => ?_, q6, upd_same, ?_, by rw [List.length_append]; simp; omega⟩
      · rw [upd_ne (ne_of_none e hl)]
        exact b4 a o na e
      · exact (rv2.go ((gx.trans gA).trans gz)).app (.cons (Rp.go gz r6) .nil)
  · have ei : i = xs.length := by omega
    subst ei
    refine .inl ⟨j2 (Nat.le_refl _), ?_⟩
    exact k _ H2 (.d (.list acc)) ⟨ul, m⟩ (w1.to o1 o2) (g1.trans o2) (s1.trans ⟨rfl, [], by rw [show ao ([] : List Cl) = [] from rfl, List.append_nil]; exact am⟩) (.lst (.inl ⟨o3, .inl hl2⟩) (rv2.go o4)) (hd acc m hI ha2)
/-- a comprehension whose turns change nothing -/
theorem wE_lcF {j : Nat} {y' : S} (p : D → Bool) (f : D → D)
    (w : wI C wi y fun xs y1 => y1 = y' ∧ xs.length ≤ sizeLine ∧ (∀ x ∈ xs, wT C.q tt (y'.set j (some (.d x))) fun b y3 => y3 = y'.set j (some (.d x)) ∧ b = p x ∧ (p x = true → wE C.q te y3 fun z y4 => z = .d (f x) ∧ y4 = y'.set j (some (.d x)))) ∧ Q (.d (.list ((xs.filter p).map f))) y') :
    wE C (tLc wi (gName j) tt te [j]) y Q := by
  refine wE_lc (fun F σ H R wd k => w F σ H R wd fun J H1 xs y1 w1 g1 s1 hJ ⟨e, hz, hs, hq⟩ => k J H1 xs y1 w1 g1 s1 hJ ?_)
  subst e
  refine ⟨fun i acc m => m = y1.m ∧ acc = ((xs.take i).filter p).map f, hz, fun i acc m h => by rw [h.1], ⟨rfl, rfl⟩, fun i x acc m hx ⟨e1, e2⟩ => ?_, fun acc m ⟨e1, e2⟩ _ => ?_⟩
  · subst e1 e2
    have hm : x ∈ xs := List.mem_of_getElem? hx
    have ht : xs.take (i + 1) = xs.take i ++ [x] := by rw [List.take_add_one, hx]; rfl
    refine wT_mono (hs x hm) fun b y3 ⟨e3, eb, h3⟩ => ?_
    subst eb e3
    cases hpx : p x with
    | true =>
      show wE C.q te _ _
      refine wE_mono (h3 hpx) fun z y4 ⟨ez, ey⟩ => ⟨f x, ez, ?_, ?_⟩
      · rw [ey]; rfl
      · rw [ht, List.filter_append, List.map_append, List.filter_cons, if_pos hpx]
        rfl
    | false =>
      refine ⟨rfl, ?_⟩
      rw [ht, List.filter_append, List.filter_cons, if_neg (by rw [hpx]; simp), List.filter_nil, List.append_nil]
  · subst e1 e2
    rw [List.take_length]
    exact hq
end
end Ux

set_option maxRecDepth 100000
set_option maxHeartbeats 2000000
namespace Ux
open PySem PySem.Spec PyProof.Rows L2 Tq
/-! ### the store changes -/
section
variable {C : Ct} {F : Fr} {σ : St} {y y' : S} {H H' : Hp}
theorem Wd.store (w : Wd C F σ y H) {m : List Cl} (kp : ∀ a o, ¬ DomW y.m a → H a = some o → H' a = some o) (lv : ∀ a, Dom y.m a → H' a ≠ none)
    (src : ∀ e ∈ m, (∃ e0 ∈ y.m, e0.a = e.a ∧ (e.own = true → e0.own = true) ∧ (e.c.isRo = false → e0.c.isRo = false)) ∨ H e.a = none) (ds : m.Pairwise fun e e' => e.a ≠ e'.a)
    (ok : GoH (Mv F σ y) H (Mv F σ ⟨y.l, m⟩) H' → ∀ e ∈ m, CellOk C.K (Mv F σ ⟨y.l, m⟩) H' e.a e.c) : Wd C F σ ⟨y.l, m⟩ H' ∧ Go F σ y H σ ⟨y.l, m⟩ H' := by
  have g : Go F σ y H σ ⟨y.l, m⟩ H' := fun a o n e => by
    refine ⟨?_, kp a o (fun z => n (.inr z.dom)) e⟩
    rintro (z | ⟨e', h1, rfl⟩)
    · exact n (.inl z)
    · rcases src e' h1 with ⟨e0, q1, q2, _⟩ | q
      · exact n (.inr ⟨e0, q1, q2⟩)
      · rw [q] at e; cases e
  refine ⟨w.to ⟨fun a o n e => kp a o (fun ⟨e0, h1, h2, hr⟩ => ?_) (w.keep a o n e), w.live0, fun a m0 e => ?_, w.len, fun i z e => ?_, ok g, ds, fun e he hr => ?_, w.sm, fun st e he ho hs => ?_⟩ g, g⟩
  · subst h2
    rcases w.frsh e0 h1 hr with q | q
    · exact n q
    · rw [q] at e; cases e
  · by_cases hd : Dom y.m a
    · exact lv a hd e
    · cases q : H a with
      | none => exact w.live a m0 q
      | some o => rw [kp a o (fun z => hd z.dom) q] at e; cases e
  · obtain ⟨x, h1, h2⟩ := w.slot i z e
    exact ⟨x, h1, h2.go g⟩
  · rcases src e he with ⟨e0, q1, q2, _, q4⟩ | q
    · rw [← q2]; exact w.frsh e0 q1 (q4 hr)
    · exact .inr (w.newH0 q)
  · rcases src e he with ⟨e0, q1, q2, q3, _⟩ | q
    · exact w.nb st e0 q1 (q3 ho) (q2 ▸ hs)
    · exact w.live _ (w.sm _ hs) q
theorem pw_snoc {m : List Cl} {e : Cl} (h : m.Pairwise fun e e' => e.a ≠ e'.a) (n : ¬ Dom m e.a) : (m ++ [e]).Pairwise fun e e' => e.a ≠ e'.a := by
  rw [List.pairwise_append]
  refine ⟨h, List.pairwise_singleton _ _, fun a ha b hb => ?_⟩
  rw [List.mem_singleton] at hb
  subst hb
  exact fun z => n ⟨a, ha, z⟩
theorem pw_set {m : List Cl} {j : Nat} {e e' : Cl} (h : m.Pairwise fun e e' => e.a ≠ e'.a) (hj : m[j]? = some e) (ea : e'.a = e.a) : (m.set j e').Pairwise fun e e' => e.a ≠ e'.a := by
  have key : (m.set j e').map (·.a) = m.map (·.a) := by
    rw [List.map_set, ea]
    apply List.ext_getElem?
    intro i
    by_cases n : i = j
    · subst n
      obtain ⟨hl, hv⟩ := List.getElem?_eq_some_iff.mp hj
      rw [List.getElem?_set_self (by simpa using hl), List.getElem?_map, hj]
      rfl
    · rw [List.getElem?_set_ne (Ne.symm n)]
  have p1 : ∀ l : List Cl, (l.Pairwise fun e e' => e.a ≠ e'.a) ↔ (l.map (·.a)).Pairwise (· ≠ ·) := fun l => by rw [List.pairwise_map]
  rw [p1, key, ← p1]
  exact h
/-- a new thing of our own -/
theorem Wd.cnew (w : Wd C F σ y H) {p : Addr} {o : HO} {c : Cell} {b : Bool} (hn : H p = none) (ok : ∀ M, GoH (Mv F σ y) H M (upd H p o) → CellOk C.K M (upd H p o) p c) :
    Wd C F σ ⟨y.l, y.m ++ [⟨p, b, c⟩]⟩ (upd H p o) ∧ Go F σ y H σ ⟨y.l, y.m ++ [⟨p, b, c⟩]⟩ (upd H p o) ∧ Sh y ⟨y.l, y.m ++ [⟨p, b, c⟩]⟩ := by
  have nd : ¬ Dom y.m p := fun z => w.new hn (.inr z)
  suffices key : Wd C F σ ⟨y.l, y.m ++ [⟨p, b, c⟩]⟩ (upd H p o) ∧ Go F σ y H σ ⟨y.l, y.m ++ [⟨p, b, c⟩]⟩ (upd H p o) from ⟨key.1, key.2, rfl, [⟨p, b, c⟩], by simp [ao]⟩
  refine w.store (fun a v n e => grow_upd hn a v e) (fun a hd z => ?_) (fun e he => ?_) (pw_snoc w.dist nd) (fun g e he => ?_)
  · obtain ⟨e, h1, h2⟩ := hd
    subst h2
    rw [upd_ne (fun q => nd ⟨e, h1, q⟩)] at z
    exact (w.cell e h1).live z
  · rcases List.mem_append.mp he with he | he
    · exact .inl ⟨e, he, rfl, fun z => z, fun z => z⟩
    · rw [List.mem_singleton] at he; subst he; exact .inr hn
  · rcases List.mem_append.mp he with he | he
    · exact (w.cell e he).go g fun o q => grow_upd hn _ _ q
    · rw [List.mem_singleton] at he; subst he; exact ok _ g
theorem mem_set_or {α : Type} {l : List α} {j : Nat} {x e : α} (h : e ∈ l.set j x) : e = x ∨ e ∈ l := by
  rcases List.mem_or_eq_of_mem_set h with h | h
  · exact .inr h
  · exact .inl h
/-- a thing of the store has changed, and no other -/
theorem Wd.cmut (w : Wd C F σ y H) {j : Nat} {p : Addr} {b : Bool} {c c' : Cell} (hj : y.m[j]? = some ⟨p, b, c⟩) (hr : c.isRo = false) (hr' : c'.isRo = false) (kp : ∀ a o, a ≠ p → H a = some o → H' a = some o) (ok : ∀ M, (∀ a, M a → Mv F σ y a) → GoH (Mv F σ y) H M H' → CellOk C.K M H' p c') :
    Wd C F σ ⟨y.l, y.m.set j ⟨p, b, c'⟩⟩ H' ∧ Go F σ y H σ ⟨y.l, y.m.set j ⟨p, b, c'⟩⟩ H' ∧ Sh y ⟨y.l, y.m.set j ⟨p, b, c'⟩⟩ := by
  have hm : (⟨p, b, c⟩ : Cl) ∈ y.m := List.mem_of_getElem? hj
  have hl' : H' p ≠ none := by
    have g0 : GoH (Mv F σ y) H (Mv F σ y) H' := fun a o n e => ⟨n, kp a o (fun z => n (.inr ⟨_, hm, z.symm⟩)) e⟩
    exact (ok _ (fun _ q => q) g0).live
  suffices key : Wd C F σ ⟨y.l, y.m.set j ⟨p, b, c'⟩⟩ H' ∧ Go F σ y H σ ⟨y.l, y.m.set j ⟨p, b, c'⟩⟩ H' by
    refine ⟨key.1, key.2, rfl, [], ?_⟩
    show ao (y.m.set j ⟨p, b, c'⟩) = ao y.m ++ []
    rw [List.append_nil]
    unfold ao
    apply List.ext_getElem?
    intro i
    by_cases n : i = j
    · subst n
      obtain ⟨hl, _⟩ := List.getElem?_eq_some_iff.mp hj
      rw [List.getElem?_map, List.getElem?_map, List.getElem?_set_self hl, hj]
      show some (p, b, c'.isRo) = some (p, b, c.isRo)
      rw [hr, hr']
    · rw [List.getElem?_map, List.getElem?_map, List.getElem?_set_ne (Ne.symm n)]
  refine w.store (fun a v n e => kp a v (fun z => n ⟨_, hm, z.symm, hr⟩) e) (fun a hd z => ?_) (fun e he => ?_) (pw_set w.dist hj rfl) (fun g e he => ?_)
  · obtain ⟨e, h1, h2⟩ := hd
    subst h2
    by_cases q : e.a = p
    · exact hl' (q ▸ z)
    · cases r : H e.a with
      | none => exact (w.cell e h1).live r
      | some o => rw [kp _ o q r] at z; cases z
  · rcases mem_set_or he with he | he
    · subst he; exact .inl ⟨_, hm, rfl, fun z => z, fun _ => hr⟩
    · exact .inl ⟨e, he, rfl, fun z => z, fun z => z⟩
  · by_cases q : e.a = p
    · have : e = ⟨p, b, c'⟩ := by
        obtain ⟨i, hi⟩ := List.getElem?_of_mem he
        have pw := pw_set w.dist hj (e' := ⟨p, b, c'⟩) rfl
        obtain ⟨hl, _⟩ := List.getElem?_eq_some_iff.mp hj
        have hjj : (y.m.set j ⟨p, b, c'⟩)[j]? = some ⟨p, b, c'⟩ := List.getElem?_set_self hl
        by_cases n : i = j
        · subst n; rw [hjj] at hi; cases hi; rfl
        · exfalso
          rw [List.pairwise_iff_getElem] at pw
          obtain ⟨hi1, hi2⟩ := List.getElem?_eq_some_iff.mp hi
          obtain ⟨hj1, hj2⟩ := List.getElem?_eq_some_iff.mp hjj
          rcases Nat.lt_or_gt_of_ne n with n | n
          · have := pw i j hi1 hj1 n; rw [hi2, hj2] at this; exact this q
          · have := pw j i hj1 hi1 n; rw [hi2, hj2] at this; exact this q.symm
      subst this
      refine ok _ (fun a z => z.elim .inl fun ⟨e0, q1, q2⟩ => .inr ?_) g
      rcases mem_set_or q1 with q1 | q1
      · subst q1; exact ⟨_, hm, q2⟩
      · exact ⟨e0, q1, q2⟩
    · rcases mem_set_or he with he | he
      · subst he; exact absurd rfl q
      · exact (w.cell e he).go g fun o r => kp _ _ q r
/-- things of the store are let go -/
theorem Wd.csub (w : Wd C F σ y H) {m : List Cl} (h : m.Sublist y.m) : Wd C F σ ⟨y.l, m⟩ H ∧ Go F σ y H σ ⟨y.l, m⟩ H := by
  refine w.store (fun a o _ e => e) (fun a ⟨e, h1, h2⟩ => h2 ▸ (w.cell e h1).live) (fun e he => .inl ⟨e, h.subset he, rfl, fun z => z, fun z => z⟩) (w.dist.sublist h) fun g e he => (w.cell e (h.subset he)).go g fun _ q => q
end
/-! ### new lists, append -/
section
variable {C : Ct} {y : S} {te : TE} {ts : TA} {tx : TS} {e : En} {Q : Z → S → Prop}
/-- [..], a thing of our own -/
theorem wE_lstL (w : wZ C ts y fun zs y1 => zs.length ≤ sizeLine ∧ ∀ p, Q (.lab p) ⟨y1.l, y1.m ++ [⟨p, true, .lst zs⟩]⟩) : wE C (tLst ts) y Q := by
  intro F σ H K wd k
  refine w F σ H _ wd fun vs H1 zs y1 w1 g1 s1 r1 ⟨hz, q⟩ => ⟨by rw [r1.len]; exact hz, fun p hn => ?_⟩
  obtain ⟨w2, g2, s2⟩ := w1.cnew (o := .lst vs) (c := .lst zs) (b := true) hn fun M g => ⟨vs, upd_same, r1.go g⟩
  exact k _ _ (.lab p) _ w2 (g1.trans g2) (s1.trans s2) (.lab p) (q p)
theorem wE_dnewL (q : ∀ p, Q (.lab p) ⟨y.l, y.m ++ [⟨p, true, .dic []⟩]⟩) : wE C tDNewK y Q := by
  intro F σ H K wd k p hp
  obtain ⟨w2, g2, s2⟩ := wd.cnew (o := .dK []) (c := .dic []) (b := true) hp fun M g => ⟨[], upd_same, .nil⟩
  exact k _ _ (.lab p) _ w2 g2 s2 (.lab p) (q p)
theorem wE_dispL {kk : Key} {v : V} {d : D} (s : Sc v d) (q : ∀ p, Q (.lab p) ⟨y.l, y.m ++ [⟨p, true, .dic [(kk, .d d)]⟩]⟩) : wE C (tDisp [(tC (kV kk), tC v)]) y Q := by
  intro F σ H K wd k p hp
  refine ⟨upd_same, [(kk, v)], rfl, by simp, ?_⟩
  rw [upd_upd]
  obtain ⟨w2, g2, s2⟩ := wd.cnew (o := .dK (mergeK [] [(kk, v)])) (c := .dic [(kk, .d d)]) (b := true) hp fun M g => ⟨[(kk, v)], by rw [upd_same]; rfl, .cons (.d s.rp) .nil⟩
  exact k _ _ (.lab p) _ w2 g2 s2 (.lab p) (q p)
/-- x.append(e) -/
theorem wS_app {i j : Nat} {a : Addr} {b : Bool} {zs0 : List Z} (hi : y.l[i]? = some (some (.lab a))) (hj : y.m[j]? = some ⟨a, b, .lst zs0⟩) (w : wE C te y fun z y1 => ∃ zs, y1.m[j]? = some ⟨a, b, .lst zs⟩ ∧ zs.length < sizeLine ∧ e.nx ⟨y1.l, y1.m.set j ⟨a, b, .lst (zs ++ [z])⟩⟩) :
    wS C (tDrop (tBM C.K "list" rAppend (tVar i) (tCons te tNil))) y e := by
  intro F σ H E st wd k
  obtain ⟨x, h1, h2⟩ := wd.slot i _ hi
  cases h2
  obtain ⟨xs, c1, c2⟩ := (wd.cell _ (List.mem_of_getElem? hj) : CellOk C.K (Mv F σ y) H a (.lst zs0))
  refine ⟨.ref a, h1, Or.inl ⟨rfl, xs, .inl (.inl c1)⟩, w F σ H _ wd fun v H1 z y1 w1 g1 s1 r1 q => ?_⟩
  obtain ⟨zs, hj1, hz, q⟩ := q
  obtain ⟨us, e2, e3⟩ := (w1.cell _ (List.mem_of_getElem? hj1) : CellOk C.K (Mv F σ y1) H1 a (.lst zs))
  refine ⟨a, us, v, rfl, rfl, e2, by rw [e3.len]; exact hz, ?_⟩
  obtain ⟨w2, g2, s2⟩ := w1.cmut (H' := upd H1 a (.lst (us ++ [v]))) (c' := .lst (zs ++ [z])) hj1 rfl rfl (fun b o n e => by rw [upd_ne n]; exact e) fun M _ g => ⟨us ++ [v], upd_same, (e3.go g).app (.cons (r1.w.go g) .nil)⟩
  exact k.nx _ _ _ w2 (g1.trans g2) q
end
/-! ### a list of our own is a list like others from here on -/
section
variable {C : Ct} {y : S} {tx : TS} {e : En}
end
/-! ### less is known -/
def Less (y' y : S) : Prop := y'.l.length = y.l.length ∧ (∀ (i : Nat) (z : Z), y'.l[i]? = some (some z) → y.l[i]? = some (some z)) ∧ y'.m.Sublist y.m
theorem Wd.weak {C : Ct} {F : Fr} {σ : St} {y y' : S} {H : Hp} (w : Wd C F σ y H) (h : Less y' y) : Wd C F σ y' H ∧ Go F σ y H σ y' H := by
  obtain ⟨w1, g1⟩ := w.csub h.2.2
  have g2 : Go F σ ⟨y.l, y'.m⟩ H σ y' H := fun b o n e => ⟨n, e⟩
  exact ⟨w1.to ⟨w1.keep, w1.live0, w1.live, w.len.trans h.1.symm, fun i z e => w1.slot i z (h.2.1 i z e), w1.cell, w1.dist, w1.frsh, w1.sm, w1.nb⟩ g2, g1.trans g2⟩
theorem wS_weak {C : Ct} {t : TS} {y y' : S} {e : En} (w : wS C t y' e) (h : Less y' y) : wS C t y e := by
  intro F σ H E st wd k
  obtain ⟨w1, g1⟩ := wd.weak h
  exact w F σ H E st w1 (k.go g1)
theorem wS_norm {C : Ct} {t : TS} {y y' : S} {e : En} (h : y = y') (w : wS C t y' e) : wS C t y e := h ▸ w
end Ux

set_option maxRecDepth 100000
set_option maxHeartbeats 2000000
/-! exceptions over HandS: own classes with a field found, raise, several clauses -/
namespace Ux
open PySem PySem.Spec PyProof.Rows L2
abbrev Fg := PySem.W.Frag
/-! ### T.__init__(self, ..), T an own class without own __init__, over ValueError -/
structure TxC (K : Fg) (mg : Str → Option Value) (x : Str) : Prop where
  ex : ∃ T : Addr, mg x = some (.ref T) ∧ PySem.W.readsIn K T (.type "type") = true ∧ PySem.W.specialIn K (.ref T) "__getattribute__" = some (some (.builtin "type.__getattribute__")) ∧
    PySem.W.findCls K (.ref T) (.type "type") "__init__" = some (.val (.builtin "ValueError.__init__"))
theorem pe_tinit {X : Cx} {x : Str} {e : Expr} {es : List Expr} {ta : TA} {p1 p2 pos : Pos} {pl : Sem Bool} (hg : Gl X x) (T : TxC X.K X.mg x) (ha : PA X (e :: es) ta) (hdb : (x == ("__debug__" : Str)) = false := by decide)
    (hc : eval (.Call (.Attribute (.Name x p1) "__init__" p2) (e :: es) [] pos) X.env = (do
      let ov ← eval (.Name x p1) X.env
      standAt p2.atName
      let (f, first) ← holding [ov] (getMethod ov "__init__" pl)
      callWith pos f first (backTo pos (starEach (e :: es) X.env)) (backToKw pos (keywordEach [] X.env))) := by rfl)
    (he : starEach (e :: es) X.env = (false, eval e X.env) :: starEach es X.env := by rfl) (hpl : (backTo pos (starEach es X.env)).any (·.1) = false := by rfl) :
    PE X (.Call (.Attribute (.Name x p1) "__init__" p2) (e :: es) [] pos) (tVeI X.K ta) := by
  obtain ⟨T, hm, hrd, hga, hv⟩ := T.ex
  refine ⟨fun pins s σ H Q I h => ?_⟩
  refine PySem.W.methodCall_KW (ld_glob I hg hm ?_ hdb) hc
  refine PySem.W.method_cls I.kIn hga (PySem.W.cls_value I.kIn hrd hv (by decide +kernel) ?_)
  show wpAny _ _ (callWith pos (Value.builtin "ValueError.__init__") [] (backTo pos (starEach (e :: es) X.env)) []) _ _ _
  refine PyProof.Rows.callWith_method1 (thn (ha.run pos pins _ σ H _ (I.tok _) h) fun us s1 ⟨vs, H1, I1, r1, a, C, ws, ev, hl, T, ea, q⟩ => ?_) he hpl
  subst ev
  cases r1 with
  | @cons _ u0 _ ur ra rw' =>
    obtain rfl : u0 = Value.ref a := ra
    have hlen : ur.length ≤ sizeLine := by
      rw [← Paired.length rw', sizeLine_eq]
      omega
    exact oinit_ok T I1 ea hlen fun s' J => ⟨.non, H1, J, rfl, q⟩
/-! ### an own class with __init__(self, found): T.__init__(self, 'text'); self.found = found -/
def spInit (K : Fg) (C : Addr) : Sp := fun vs H Q _ => ∃ (a : Addr) (v : V), vs = [.ref a, v] ∧ OexC K C ∧ PySem.W.findIn K (.ref C) "found" = some none ∧ H a = some (exo a C none) ∧ ∀ dx, H dx = none → dx ≠ a → Q .non (upd (upd H dx (exd dx [(("found" : Str), v)])) a (exo a C (some dx)))
def t_init (K : Fg) (m : Str) : TS := tSeq (tDrop (tVeI K (tCons (tVar 0) (tCons (tC (.str m)) tNil)))) (tOst K "found" (tVar 0) (tVar 1))
theorem init_read {K : Fg} {C : Addr} {m : Str} {vs : List V} {H : Hp} {Q : VK} {E : XK} (h : spInit K C vs H Q E) : t_init K m { nx := fun _ G => Q .non G, rt := Q } (start ["self", "found"] vs) H := by
  obtain ⟨a, v, rfl, T, hn, e, k⟩ := h
  exact ⟨_, rfl, a, C, [.str m], rfl, by simp, T, e, _, rfl, _, rfl, a, C, rfl, T, hn, .inl ⟨e, fun dx h1 h2 => k dx h1 h2⟩⟩
/-- the class x, at C: its instances hold what was found -/
structure Xc (P : Program) (w : World) (K : Fg) (mg : Str → Option Value) (base : Heap) (x : Str) (C : Addr) : Prop where
  gC : mg x = some (.ref C)
  oc : OexC K C
  xf : XfC K C
  no : PySem.W.findIn K (.ref C) "found" = some none
  ini : ∃ (fI : Addr) (fd : FuncData), PySem.W.findIn K (.ref C) "__init__" = some (some (.ref fI)) ∧ PySem.W.typeIn K (.ref fI) = some (.type "function") ∧ FnOk P w K mg base CX0 1 fI fd ["self", "found"] (spInit K C) ∧ Binds K fd ["self", "found"] []
theorem mkO_of {K : Fg} {C : Addr} {H1 : Hp} {v : V} {Q : XK} (oc : OexC K C) (no : PySem.W.findIn K (.ref C) "found" = some none) (q : ∀ d, H1 d = none → Q (.ref C) (some d) (upd H1 d (.xd [(("found" : Str), v)]))) :
    [v].length ≤ 1000 ∧ ∀ a, H1 a = none → spInit K C (.ref a :: ([v] ++ [])) (upd H1 a (exo a C none))
      (fun u H2 => u = .non ∧ ∃ (d : Addr) (fs : List (Str × V)), H2 a = some (exo a C (some d)) ∧ H2 d = some (exd d fs) ∧ H1 d = none ∧ Q (.ref C) (some d) (upd (del H2 a) d (.xd fs))) (fun _ _ _ => False) := by
  refine ⟨by simp, fun b hb => ⟨b, v, rfl, oc, no, upd_same, fun dx h1 h2 => ?_⟩⟩
  have h1' : H1 dx = none := by rw [upd_ne h2] at h1; exact h1
  refine ⟨rfl, dx, [(("found" : Str), v)], upd_same, by rw [upd_ne h2]; exact upd_same, h1', ?_⟩
  have eH : upd (del (upd (upd (upd H1 b (exo b C none)) dx (exd dx [(("found" : Str), v)])) b (exo b C (some dx))) b) dx (.xd [(("found" : Str), v)]) = upd H1 dx (.xd [(("found" : Str), v)]) := by
    funext c
    by_cases hc : c = dx
    · rw [hc, upd_same, upd_same]
    · rw [upd_ne hc, upd_ne hc]
      by_cases hcb : c = b
      · rw [hcb, del_same, hb]
      · rw [del_ne hcb, upd_ne hcb, upd_ne hc, upd_ne hcb]
  rw [eH]
  exact q dx h1'
def tRaiseF (K : Fg) (C : Addr) (W : WX) (ta : TA) : TS := fun _ σ H => tMkO C (spInit K C) [] ta σ H fun cls d H' => W cls d σ H'
section
variable {X : Cx} {x : Str} {C : Addr} {a : Expr} {ta : TA} {p pos pos2 : Pos}
theorem ps_raiseF {W : WX} (hc : X.calm = true) (T : Xc X.prog X.w X.K X.mg X.base x C) (hr : Room 2 X.A) (tk : Takes X W) (ha : PA X [a] ta) (hg : Gl X x) (hdb : (x == ("__debug__" : Str)) = false := by decide)
    (he : starEach (a :: []) X.env = (false, eval a X.env) :: starEach [] X.env := by rfl) (hpl : (backTo pos (starEach [] X.env)).any (·.1) = false := by rfl) :
    PS X (.Raise (some (.Call (.Name x p) [a] [] pos)) none pos2) (tRaiseF X.K C W ta) := by
  obtain ⟨fI, fd, i1, i2, i3, i4⟩ := T.ini
  exact ps_raise hc tk (pmk_oex (dvs := []) (ds := []) T.oc i1 i2 i3 hr i4 .nil pass0 hg T.gC ha hdb he hpl)
end
/-! ### several clauses, with or without a name; the last ones may never be asked -/
def clE (i : Option Nat) (D : Ends) : Ends := match i with
  | none => D
  | some i => { nx := fun σ' H' => D.nx (σ'.set i none) H', rt := D.rt, bk := fun σ' H' => D.bk (σ'.set i none) H', ct := fun σ' H' => D.ct (σ'.set i none) H' }
def clS (i : Option Nat) (a : Addr) (σ : L2.St) : L2.St := match i with
  | none => σ
  | some i => σ.set i (some (.ref a))
def wN (K : Fg) (D : Ends) : List (Value × Option Nat × (Addr → Value → Option Addr → TS)) → WX
  | [] => fun _ _ _ _ => False
  | (c, i, ts) :: r => fun cls d σ H => ∃ b, PySem.W.exmOne K cls c = some b ∧ (b = true → ∀ a, H a = none → ts a cls d (clE i D) (clS i a σ) H) ∧ (b = false → wN K D r cls d σ H)
def tTry (K : Fg) (l : List (Value × Option Nat × (Addr → Value → Option Addr → TS))) (tb : WX → TS) : TS := fun D σ H => tb (wN K D l) D σ H
inductive HdN (X : Cx) : List ExceptHandler → List (Value × Option Nat × (Addr → Value → Option Addr → TS)) → Prop
  | stop {hds : List ExceptHandler} : HdN X hds []
  | cons {x : Str} {c : Value} {ts : Addr → Value → Option Addr → TS} {b₀ : Stmt} {suite : List Stmt} {np pos' : Pos} {hds : List ExceptHandler} {l : List (Value × Option Nat × (Addr → Value → Option Addr → TS))} (hc : Names X x c)
      (hsu : ∀ (a : Addr) (oe : Obj) (cls : Value) (d : Option Addr) (pn : List (Addr × Obj)), Zc cls d oe → (∃ vs, oe.data = .fields vs) → PSs (X.suite a ((a, oe) :: pn)) (b₀ :: suite) (ts a cls d)) (r : HdN X hds l) :
      HdN X (.ExceptHandler (some (.Name x np)) none (b₀ :: suite) pos' :: hds) ((c, none, ts) :: l)
  | as {x n : Str} {i : Nat} {c : Value} {ts : Addr → Value → Option Addr → TS} {b₀ : Stmt} {suite : List Stmt} {np pos' : Pos} {hds : List ExceptHandler} {l : List (Value × Option Nat × (Addr → Value → Option Addr → TS))} (hc : Names X x c)
      (hi : X.N[i]? = some n) (hln : X.env.kindOf n = some .local)
      (hsu : ∀ (a : Addr) (oe : Obj) (cls : Value) (d : Option Addr) (pn : List (Addr × Obj)), Zc cls d oe → (∃ vs, oe.data = .fields vs) → PSs (X.suite a ((a, oe) :: pn)) (b₀ :: suite) (ts a cls d)) (r : HdN X hds l) :
      HdN X (.ExceptHandler (some (.Name x np)) (some n) (b₀ :: suite) pos' :: hds) ((c, some i, ts) :: l)
section
variable {X : Cx} {body : List Stmt} {h₀ : ExceptHandler} {hds : List ExceptHandler} {l : List (Value × Option Nat × (Addr → Value → Option Addr → TS))} {pos : Pos} {tb : WX → TS}
theorem ps_tryN (hs : X.stack = X.env :: X.outer) (hf : X.env.frame = some X.env.locals) (hN : X.N.Nodup)
    (hb : ∀ (W : WX) (pn : List (Addr × Obj)) (xe : Value → Shared → Prop), Takes (X.tr pn xe) W → PassesOwn (model X.prog X.w) X.A X.env xe → PSs (X.tr pn xe) body (tb W))
    (hh : HdN X (h₀ :: hds) l) : PS X (.Try body (h₀ :: hds) [] [] pos) (tTry X.K l tb) := by
  refine ⟨fun pins s σ H D I h => ?_⟩
  have ok := I.ok
  have hfr : X.A.frames = some (X.env :: X.outer) := by rw [ok.frames, hs]
  refine wpAny_Try_except ?_
  refine wpAny_mono ((hb (wN X.K D l) (X.pn ++ pins) (fun e s₁ => wpAny (model X.prog X.w) X.A (noteFrame e X.env) (fun _ s₂ => wpAny (model X.prog X.w) X.A (setFlight e none) (fun _ s₃ =>
    wpAny (model X.prog X.w) X.A (handleBy e X.env (h₀ :: hds)) (SP X pins D) X.xe s₃) X.xe s₂) X.xe s₁) (fun u s' xx => ?_) PassesOwn.looking).run [] s σ H D (I.toTry _) h) (fun f s1 hsp => ?_) (fun e s1 he => he)
  · obtain ⟨a, B, sI, pins', σ', H', cls, d, rfl, J', nb, up, sky, na, os, ag, w⟩ := xx
    have J : Inv X pins σ' H' sI := J'.ofTry ok
    have sky' : Sky B (X.env :: X.outer) a (Zc cls d) X.env.locals s'.heap := by rw [← hs]; exact sky
    show wpAny (model X.prog X.w) X.A (noteFrame (.ref a) X.env) _ _ _
    refine Sky.land Zc.steady hfr hf sky' fun h3 fl3 up3 => ?_
    have J3 : Inv X pins σ' H' { s' with heap := h3 } := J.landed nb fl3.1 (up.trans up3) os ag
    obtain ⟨oe3, vs3, he3, hz3, hd3⟩ := fl3.there
    have notFr : ∀ {h : Heap} {o : Obj} {vs : Array Value}, h.FunFrames B (X.env :: X.outer) → h.get? a = some o → o.data = .fields vs → a ∉ frs (X.env :: X.outer) := fun {h o vs} ff e dd hm => by
      obtain ⟨_, o', e', hnf⟩ := ff.mem hm
      rw [e] at e'; cases e'
      exact hnf _ dd
    have nfr := notFr fl3.2.2.1 he3 hd3
    have nL : a ≠ X.env.locals := fun z => nfr (List.mem_filterMap.mpr ⟨X.env, List.mem_cons_self, by rw [hf, z]⟩)
    have nF : a ∉ X.fs := fun hm => by
      obtain ⟨e, he, q⟩ := List.mem_filterMap.mp hm
      exact nfr (List.mem_filterMap.mpr ⟨e, List.mem_cons_of_mem _ he, q⟩)
    have S3 := J3.suite he3 hd3 na nL nF
    have LT : PySem.W.Looks (model X.prog X.w) h3 (typeOf (.ref a)) cls := fun A Q E s k q => wpAny_typeOf_ref (k _ _ he3) (by rw [hz3.1]; exact q)
    have test : ∀ {x : Str} {c : Value} {np : Pos} {Q : Value → Shared → Prop} {E : Value → Shared → Prop}, Names X x c → Q c { s' with heap := h3 } → wpAny (model X.prog X.w) (X.A.mark (some (.ref a))) (eval (.Name x np) X.env) Q E { s' with heap := h3 } := fun {x c np Q E} hc q => by
      obtain ⟨hg, hdbg, hm | ⟨hm, hv, hnn⟩⟩ := hc
      · exact ld_glob (X := X.suite a ((a, oe3) :: (X.pn ++ pins))) S3 hg hm q hdbg
      · exact ld_blt (X := X.suite a ((a, oe3) :: (X.pn ++ pins))) S3 hg hm hv q hnn hdbg
    have go : ∀ {hds' : List ExceptHandler} {l' : List (Value × Option Nat × (Addr → Value → Option Addr → TS))}, HdN X hds' l' → wN X.K D l' cls d σ' H' →
        wpAny (model X.prog X.w) X.A (handleBy (.ref a) X.env hds') (SP X pins D) X.xe { s' with heap := h3 } := by
      intro hds' l' hk
      induction hk with
      | stop => intro w; exact w.elim
      | @cons x c ts b₀ suite np pos' hds2 l2 hc hsu r ih =>
        intro w
        obtain ⟨b, hb1, hyes, hno⟩ := w
        refine wpAny_handleBy_cons (codeAny_handlers_test ?_) (by intro q; cases q)
        have LM := PySem.W.exm_one (M := model X.prog X.w) (J3.kIn) LT hb1
        refine test hc (LM.here ?_)
        cases b with
        | true =>
          refine codeAny_handlers_suite ?_
          refine HandSPX.lands_againZ fl3 fun h4 fl4 up4 => ?_
          have J4 : Inv X pins σ' H' { s' with heap := h4 } := J.landed nb fl4.1 ((up.trans up3).trans up4) os ag
          obtain ⟨oe4, vs4, he4, hz4, hd4⟩ := fl4.there
          have S4 := J4.suite he4 hd4 na nL nF
          refine wpAny_mono ((hsu a oe4 cls d (X.pn ++ pins) hz4 ⟨_, hd4⟩).run [] _ _ H' _ S4 (hyes rfl a na)) (fun f s6 hsp => ?_) (fun _ _ z => False.elim z)
          cases f with
          | next =>
            obtain ⟨σ6, H6, S6, q6⟩ := hsp
            exact ⟨_, _, S6.unsuite ok, q6⟩
          | brk =>
            obtain ⟨σ6, H6, S6, q6⟩ := hsp
            exact ⟨_, _, S6.unsuite ok, q6⟩
          | cont =>
            obtain ⟨σ6, H6, S6, q6⟩ := hsp
            exact ⟨_, _, S6.unsuite ok, q6⟩
          | ret u =>
            obtain ⟨v6, σ6, H6, S6, r6, q6⟩ := hsp
            exact ⟨_, _, _, S6.unsuite ok, r6, q6⟩
        | false =>
          show wpAny _ X.A (handleBy (.ref a) X.env hds2) _ _ _
          exact ih (hno rfl)
      | @as x n i c ts b₀ suite np pos' hds2 l2 hc hi hln hsu r ih =>
        intro w
        obtain ⟨b, hb1, hyes, hno⟩ := w
        have hloc : Loc X.env.scope n := .inl hln
        refine wpAny_handleBy_cons (codeAny_handlers_test ?_) (by intro q; cases q)
        have LM := PySem.W.exm_one (M := model X.prog X.w) (J3.kIn) LT hb1
        refine test hc (LM.here ?_)
        cases b with
        | true =>
          refine codeAny_handlers_suite_as ?_
          refine HandSPX.lands_againZ fl3 fun h4 fl4 up4 => ?_
          have J4 : Inv X pins σ' H' { s' with heap := h4 } := J.landed nb fl4.1 ((up.trans up3).trans up4) os ag
          obtain ⟨oe4, vs4, he4, hz4, hd4⟩ := fl4.there
          have S4 := J4.suite he4 hd4 na nL nF
          refine store_ok (X := X.suite a ((a, oe4) :: (X.pn ++ pins))) (v := .ref a) S4 hN hi hloc rfl (fun s5 S5 => ?_) (.inr hln)
          refine wpAny_mono ((hsu a oe4 cls d (X.pn ++ pins) hz4 ⟨_, hd4⟩).run [] s5 _ H' _ S5 (hyes rfl a na)) (fun f s6 hsp => ?_) (fun _ _ z => False.elim z)
          have end_ : ∀ {σ6 : L2.St} {H6 : Hp} {Q : Shared → Prop}, Inv (X.suite a ((a, oe4) :: (X.pn ++ pins))) [] σ6 H6 s6 → (∀ s7, Inv X pins (σ6.set i none) H6 s7 → Q s7) →
              wpAny (model X.prog X.w) X.A (do bindName X.env n .none; unbindBehindTheSuite X.env n pos') (fun _ s7 => Q s7) X.xe s6 := fun {σ6 H6 Q} S6 hq => gone_ok (S6.unsuite ok) hN hi hln hq
          cases f with
          | next =>
            obtain ⟨σ6, H6, S6, q6⟩ := hsp
            exact end_ S6 fun s7 J7 => ⟨_, _, J7, q6⟩
          | brk =>
            obtain ⟨σ6, H6, S6, q6⟩ := hsp
            exact end_ S6 fun s7 J7 => ⟨_, _, J7, q6⟩
          | cont =>
            obtain ⟨σ6, H6, S6, q6⟩ := hsp
            exact end_ S6 fun s7 J7 => ⟨_, _, J7, q6⟩
          | ret u =>
            obtain ⟨v6, σ6, H6, S6, r6, q6⟩ := hsp
            exact end_ S6 fun s7 J7 => ⟨_, _, _, J7, r6, q6⟩
        | false =>
          show wpAny _ X.A (handleBy (.ref a) X.env hds2) _ _ _
          exact ih (hno rfl)
    exact go hh w
  · cases f with
    | next =>
      obtain ⟨σ', H', J', q⟩ := hsp
      exact wpAny_execs_nil ⟨σ', H', J'.ofTry ok, q⟩
    | brk =>
      obtain ⟨σ', H', J', q⟩ := hsp
      exact ⟨σ', H', J'.ofTry ok, q⟩
    | cont =>
      obtain ⟨σ', H', J', q⟩ := hsp
      exact ⟨σ', H', J'.ofTry ok, q⟩
    | ret u =>
      obtain ⟨v, σ', H', J', r, q⟩ := hsp
      exact ⟨v, σ', H', J'.ofTry ok, r, q⟩
end
/-! ### defs that may raise, the guards told -/
structure CalX (P : Program) (w : World) (K : Fg) (mg : Str → Option Value) (base : Heap) (k : Nat) (x : Str) (ps : List Str) (sp : Sp) : Prop where
  ex : ∃ (f : Addr) (fd : FuncData), Tq.FnG P w K mg base (L2.CX P w) k f fd ps sp ∧ mg x = some (.ref f) ∧ PySem.W.keepIn K (.ref f) = true ∧ Binds K fd ps []
section
variable {P : Program} {w : World} {K : Fg} {mg : Str → Option Value} {base : Heap} {k : Nat} {x : Str} {ps N : List Str} {sp : Sp} {st : Stmt}
theorem okX (d : Tq.Df K mg x st ps) (Sc : FnScope N ps (defScope st)) (len : ∀ vs H Q E, sp vs H Q E → vs.length = ps.length)
    (hbody : ∀ (f : Addr) (cdv : Value) (A : Around) (outer : List Env) (s : Shared) (H : Hp) (vs : List V) (Q : VK) (E : XK), Room k (A.deeper (envOfC x (defScope st) s.heap.objs.size f cdv)) →
      (A.deeper (envOfC x (defScope st) s.heap.objs.size f cdv)).guards = some [] → sp vs H Q E →
      ∃ t, PSs (cxOf (L2.CX P w) P w K mg base N x (defScope st) f cdv A outer s H E) (defBody st) t ∧ t { nx := fun _ G => Q .non G, rt := Q } (start N vs) H) : CalX P w K mg base (k + 1) x ps sp := by
  obtain ⟨f, fd, F, hm, hb⟩ := d.ex
  have kp := F.kp
  obtain ⟨oc, od, kV, doc, pm, an, cdv, ct, osl, rfl, lk, hcd⟩ := F.ex
  exact ⟨f, _, Tq.fn_ofG lk hcd Sc len fun A outer s H vs Q E hr hgu hsp => hbody f cdv A outer s H vs Q E hr hgu hsp, hm, kp, hb⟩
theorem run_fnSG {X : Cx} {CX : CXT} {f : Addr} {fd : FuncData} {E : L2.St → XK} {pins : List (Addr × Obj)} {σ : L2.St} {H : Hp} {s : Shared} {Q : VK} {us : List Value} {vs : List V} (F : Tq.FnG X.prog X.w X.K X.mg X.base CX k f fd ps sp) (hr : Room k X.A) (hgu : X.A.guards = some []) (hb : Binds X.K fd ps []) (hx : PassesAt CX X σ (E σ))
    (I : Inv X pins σ H s) (r : Vals vs us) (h : sp vs H Q (E σ)) : wpAny (model X.prog X.w) X.A (call (.ref f) us) (EP X pins σ Q) X.xe s := by
  have hl : us.length = ps.length := by rw [← r.length]; exact F.len _ _ _ _ h
  have b := hb s us I.kIn (by rw [List.append_nil]; exact hl)
  rw [List.append_nil] at b
  refine wpAny_call (codeAny_mono (F.run X.A X.stack s H ⟨us, []⟩ us vs Q (E σ) hr hgu I.env0 b r h) fun r s' hq => ?_)
  cases r with
  | error e => exact hx pins H s e s' I hq
  | ok fl =>
    cases fl with
    | ret u => exact I.after hq
    | next => exact False.elim hq
    | brk => exact False.elim hq
    | cont => exact False.elim hq
theorem pe_calX {X : Cx} {W : WX} {p pos : Pos} {e : Expr} {es : List Expr} {t : TA} (c : CalX X.prog X.w X.K X.mg X.base k x ps sp) (hr : Room k X.A) (hgu : X.A.guards = some []) (hg : Gl X x) (tk : Takes X W) (ha : PA X (e :: es) t) (hdb : (x == ("__debug__" : Str)) = false := by decide)
    (he : starEach (e :: es) X.env = (false, eval e X.env) :: starEach es X.env := by rfl)
    (hpl : (backTo pos (starEach es X.env)).any (·.1) = false := by rfl) : PE X (.Call (.Name x p) (e :: es) [] pos) (tCallS sp (WE W) t) := by
  obtain ⟨f, fd, F, hm, hk, hb⟩ := c.ex
  refine ⟨fun pins s σ H Q I h => ?_⟩
  refine wpAny_Call_Name_kw (ld_glob I hg hm ?_ hdb)
  refine PySem.W.callWith_K (h₀ := X.base) I.ok.mod.kin hk (thn (ha.run pos pins s σ H _ I h) fun us s1 ⟨vs, H1, I1, r, q⟩ => ⟨I1.kIn, ?_⟩) he hpl
  exact run_fnSG (E := WE W) F hr hgu hb (passAt tk σ) I1 r q
end
end Ux

set_option maxRecDepth 100000
set_option maxHeartbeats 2000000
namespace Ux
open PySem PySem.Spec PyProof.Rows L2 Tq
/-! ### what a thing is at present -/
def kvD (kvs : List (Key × D)) : List (Key × Z) := kvs.map fun p => (p.1, .d p.2)
def dD (kvs : List (Key × D)) : D := .dict (kvs.map fun p => (kD p.1, p.2))
inductive ResC : Cell → D → Prop
  | lst (ds : List D) : ResC (.lst (ds.map Z.d)) (.list ds)
  | dic (kvs : List (Key × D)) : ResC (.dic (kvD kvs)) (dD kvs)
  | ro {c : Cell} {d : D} : ResC c d → ResC (.ro c) d
inductive Res (m : List Cl) : Z → D → Prop
  | d (d : D) : Res m (.d d) d
  | lab {e : Cl} {d : D} : e ∈ m → ResC e.c d → Res m (.lab e.a) d
inductive ResA (m : List Cl) : List Z → List D → Prop
  | nil : ResA m [] []
  | cons {z : Z} {d : D} {zs : List Z} {ds : List D} : Res m z d → ResA m zs ds → ResA m (z :: zs) (d :: ds)
theorem ResA.ds {m : List Cl} : ∀ (ds : List D), ResA m (ds.map Z.d) ds
  | [] => .nil
  | d :: ds => .cons (.d d) (ResA.ds ds)
theorem ResA.len {m : List Cl} : ∀ {zs : List Z} {ds : List D}, ResA m zs ds → zs.length = ds.length
  | _, _, .nil => rfl
  | _, _, .cons _ b => congrArg (· + 1) b.len
/-- all are for reading alone -/
def Cell.toRo : Cell → Cell
  | .ro c => .ro c
  | c => .ro c
def roM (m : List Cl) : List Cl := m.map fun e => ⟨e.a, false, e.c.toRo⟩
theorem toRo_ro (c : Cell) : c.toRo.isRo = true := by cases c <;> rfl
theorem toRo_ok {K : Fg} {M : Addr → Prop} {H : Hp} {a : Addr} {c : Cell} (h : CellOk K M H a c) : CellOk K M H a c.toRo := by cases c <;> exact h
theorem toRo_res {c : Cell} {d : D} (h : ResC c d) : ResC c.toRo d := by
  cases h with
  | lst ds => exact .ro (.lst ds)
  | dic ds => exact .ro (.dic ds)
  | ro h => exact .ro h
theorem Res.rom {m : List Cl} {z : Z} {d : D} (h : Res m z d) : Res (roM m) z d := by
  cases h with
  | d d => exact .d d
  | @lab e d he hc => exact .lab (e := ⟨e.a, false, e.c.toRo⟩) (List.mem_map.mpr ⟨e, he, rfl⟩) (toRo_res hc)
theorem ResA.rom {m : List Cl} : ∀ {zs : List Z} {ds : List D}, ResA m zs ds → ResA (roM m) zs ds
  | _, _, .nil => .nil
  | _, _, .cons a b => .cons a.rom b.rom
theorem dom_roM {m : List Cl} {a : Addr} : Dom (roM m) a ↔ Dom m a := by
  constructor
  · rintro ⟨e, h1, h2⟩
    obtain ⟨e', h3, rfl⟩ := List.mem_map.mp h1
    exact ⟨e', h3, h2⟩
  · rintro ⟨e, h1, h2⟩
    exact ⟨_, List.mem_map.mpr ⟨e, h1, rfl⟩, h2⟩
def MvX (F : Fr) (σ : St) (y : S) (a : Addr) : Prop := Mv F σ y a ∧ ¬ Dom y.m a
theorem rpk_of {K : Fg} {M : Addr → Prop} {H : Hp} : ∀ {ks : List (Key × V)} {kvs : List (Key × D)}, RwK K M H ks (kvD kvs) → RpK K M H ks (kvs.map fun p => (kD p.1, p.2))
  | [], [], _ => .nil
  | _ :: _, [], h => by cases h
  | [], _ :: _, h => by cases h
  | _ :: _, (k, d) :: r, h => by
    cases h with | cons a b => cases a with | d a => exact .cons a (rpk_of b)
theorem ResC.rp {K : Fg} {M N : Addr → Prop} {H : Hp} {a : Addr} {c : Cell} {d : D} (h : ResC c d) (g : GoH M H N H) (n : ¬ N a) (ok : CellOk K M H a c) : Rp K N H (.ref a) d := by
  induction h with
  | lst ds =>
    obtain ⟨xs, h1, h2⟩ := ok
    exact .lst (.inl ⟨n, .inl h1⟩) (h2.ds.go g)
  | dic kvs =>
    obtain ⟨ks, h1, h2⟩ := ok
    exact .dic n h1 ((rpk_of h2).go g)
  | ro _ ih => exact ih ok
theorem Res.rp {K : Fg} {F : Fr} {σ : St} {y : S} {H : Hp} {v : V} {z : Z} {d : D} (w : Wd0 K F σ y H) (h : Res y.m z d) (r : Rw K (Mv F σ y) H v z) : Rp K (MvX F σ y) H v d := by
  have g : GoH (Mv F σ y) H (MvX F σ y) H := fun a o n e => ⟨fun q => n q.1, e⟩
  cases h with
  | d d => cases r with | d r => exact r.go g
  | @lab e d he hc =>
    cases r
    exact hc.rp g (fun q => q.2 ⟨e, he, rfl⟩) (w.cell e he)
theorem ResA.rp {K : Fg} {F : Fr} {σ : St} {y : S} {H : Hp} (w : Wd0 K F σ y H) : ∀ {vs : List V} {zs : List Z} {ds : List D}, ResA y.m zs ds → RwA K (Mv F σ y) H vs zs → RpA K (MvX F σ y) H vs ds
  | _, _, _, .nil, .nil => .nil
  | _, _, _, .cons a b, .cons c d => .cons (a.rp w c) (b.rp w d)
theorem sc_rp {K : Fg} {M N : Addr → Prop} {H : Hp} {v : V} {d : D} (h : scD d = true) (r : Rp K M H v d) : Rp K N H v d := by
  cases r with
  | non => exact .non
  | bl b => exact .bl b
  | int b => exact .int b
  | str b => exact .str b
  | lst _ _ => cases h
  | tup _ _ => cases h
  | dic _ _ _ => cases h
/-! ### calls of defs over data -/
section
variable {C : Ct} {y : S} {ts : TA} {te : TE} {Q : Z → S → Prop} {E : XK} {n : Nat} {pre : List D → Prop} {post : List D → D → Prop} {cost : List D → Nat} {e : En}
theorem wE_pure (w : wD C ts y fun ds y1 => ds.length = n ∧ pre ds ∧ ∀ d, post ds d → Q (.d d) y1) : wE C (tCall (pureSp C.K n pre post) [] E ts) y Q := by
  intro F σ H K wd k
  refine w F σ H _ wd fun vs H1 ds y1 w1 g1 s1 r1 ⟨hn, hp, q⟩ => ?_
  rw [List.append_nil]
  exact ⟨Mv F σ y1, ds, fun a m e => w1.new e m, r1, hn, hp, fun d v H2 hd gr rv => k v H2 (.d d) y1 (w1.grow gr) (g1.trans (go_grow gr)) s1 rv (q d hd)⟩
theorem wE_det {G : List D → D} (w : wD C ts y fun ds y1 => (ds.length = n ∧ pre ds) ∧ Q (.d (G ds)) y1) : wE C (tCall (detSp C.K n pre G) [] E ts) y Q :=
  wE_pure (wD_mono w fun ds y1 ⟨⟨h1, h2⟩, q⟩ => ⟨h1, h2, fun d e => by subst e; exact q⟩)
/-- what is handed in is taken as it is at present; the answer is plain -/
theorem wE_pureR (w : wZ C ts y fun zs y1 => ∃ ds, ResA y1.m zs ds ∧ ds.length = n ∧ pre ds ∧ ∀ d, post ds d → scD d = true ∧ Q (.d d) y1) : wE C (tCall (pureSp C.K n pre post) [] E ts) y Q := by
  intro F σ H K wd k
  refine w F σ H _ wd fun vs H1 zs y1 w1 g1 s1 r1 ⟨ds, hr, hn, hp, q⟩ => ?_
  rw [List.append_nil]
  exact ⟨MvX F σ y1, ds, fun a m e => w1.new e m.1, hr.rp w1.toWd0 r1, hn, hp, fun d v H2 hd gr rv => k v H2 (.d d) y1 (w1.grow gr) (g1.trans (go_grow gr)) s1 (sc_rp (q d hd).1 rv) (q d hd).2⟩
theorem wE_detR {G : List D → D} (w : wZ C ts y fun zs y1 => ∃ ds, ResA y1.m zs ds ∧ (ds.length = n ∧ pre ds) ∧ scD (G ds) = true ∧ Q (.d (G ds)) y1) : wE C (tCall (detSp C.K n pre G) [] E ts) y Q :=
  wE_pureR (wZ_mono w fun zs y1 ⟨ds, h0, ⟨h1, h2⟩, hs, q⟩ => ⟨ds, h0, h1, h2, fun d e => by subst e; exact ⟨hs, q⟩⟩)
theorem wE_pu {i j : Nat} {p : Addr} {b : Bool} {m0 : Nat} (hi : y.l[i]? = some (some (.lab p))) (hj : y.m[j]? = some ⟨p, b, .pu m0⟩)
    (w : wD C ts y fun ds y1 => ∃ m, y1.m[j]? = some ⟨p, b, .pu m⟩ ∧ ds.length = n ∧ pre ds ∧ cost ds ≤ m ∧ ∀ d, post ds d → Q (.d d) ⟨y1.l, y1.m.set j ⟨p, b, .pu (m - cost ds)⟩⟩) :
    wE C (tCall (puSp C.K n pre cost post) [] E (tCons (tVar i) ts)) y Q := by
  intro F σ H K wd k
  obtain ⟨x, h1, h2⟩ := wd.slot i _ hi
  cases h2
  refine ⟨.ref p, h1, w F σ H _ wd fun vs H1 ds y1 w1 g1 s1 r1 ⟨m, hj1, hn, hp, hc, q⟩ => ?_⟩
  show puSp C.K n pre cost post ((.ref p :: vs) ++ []) H1 K E
  rw [List.append_nil]
  have hm : (⟨p, b, .pu m⟩ : Cl) ∈ y1.m := List.mem_of_getElem? hj1
  refine ⟨Mv F σ y1, p, vs, ds, m, rfl, .inr ⟨_, hm, rfl⟩, fun a m e => w1.new e m, w1.cell _ hm, r1, hn, hp, hc, fun d v H2 hd kp pk rv => ?_⟩
  obtain ⟨w2, g2, s2⟩ := w1.cmut (H' := H2) (c' := .pu (m - cost ds)) hj1 rfl rfl kp fun M _ g => pk
  refine k v H2 (.d d) _ w2 (g1.trans g2) (s1.trans s2) (Rp.go (fun a o na e => ⟨fun z => na (z.elim .inl fun ⟨e', q1, q2⟩ => .inr ?_), e⟩) rv) (q d hd)
  rcases mem_set_or q1 with q1 | q1
  · subst q1; exact ⟨_, hm, q2⟩
  · exact ⟨e', q1, q2⟩
/-- a draw -/
theorem wE_take {i j : Nat} {p : Addr} {b : Bool} {m0 : Nat} (hi : y.l[i]? = some (some (.lab p))) (hj : y.m[j]? = some ⟨p, b, .pu m0⟩)
    (w : wE C te y fun z y1 => ∃ (k : Int) (m : Nat), z = .d (.int k) ∧ y1.m[j]? = some ⟨p, b, .pu m⟩ ∧ (0 < k ∧ k ≤ 10 ^ 40 ∧ 1 ≤ m) ∧ ∀ r : Int, 0 ≤ r → r < k → Q (.d (.int r)) ⟨y1.l, y1.m.set j ⟨p, b, .pu (m - 1)⟩⟩) :
    wE C (tCall (spTake C.K) [] E (tCons (tVar i) (tCons te tNil))) y Q := by
  refine wE_pu hi hj (wD_cons (wE_mono w fun z y1 ⟨k, m, e, hm, ⟨h0, h1, h2⟩, q⟩ => ⟨_, e, wD_nil ⟨m, hm, rfl, ⟨k, rfl, h0, ?_⟩, h2, fun d hd => ?_⟩⟩))
  · have hb : k.natAbs < 2 ^ 200 := Nat.lt_of_le_of_lt (show k.natAbs ≤ 10 ^ 40 by omega) (by decide)
    exact Nat.lt_of_lt_of_le (log2_lt hb (by decide)) (by decide)
  · obtain ⟨k', r, e1, e2, h3, h4⟩ := hd
    cases e1
    subst e2
    exact q r h3 h4
/-- purse = _law_purse(c) -/
theorem wE_purse (w : wD C ts y fun ds y1 => ∃ c : Int, ds = [.int c] ∧ ∀ p, Q (.lab p) ⟨y1.l, y1.m ++ [⟨p, true, .pu 8000000⟩]⟩) : wE C (tCall spPurse [] E ts) y Q := by
  intro F σ H K wd k
  refine w F σ H _ wd fun vs H1 ds y1 w1 g1 s1 r1 ⟨c, hc, q⟩ => ?_
  subst hc
  obtain ⟨v, rfl, rv⟩ := rpA1 r1
  refine ⟨c, by rw [rp_int rv]; rfl, fun p x b hn hx hb hb2 => ?_⟩
  obtain ⟨w2, g2, s2⟩ := w1.cnew (o := .lst [.int x, .int b, .int 0]) (c := .pu 8000000) (b := true) hn fun M g => ⟨x, b, 0, upd_same, hx, hb, hb2, by decide, by decide⟩
  exact k _ _ (.lab p) _ w2 (g1.trans g2) (s1.trans s2) (.lab p) (q p)
end
/-! ### bodies -/
section
variable {K : Fg} {N : List Str} {t : TS} {vs : List V} {H : Hp} {Q : VK} {E : XK} {n : Nat} {pre : List D → Prop} {post : List D → D → Prop} {cost : List D → Nat}
def l0 (N : List Str) (zs : List Z) : List (Option Z) := zs.map some ++ List.replicate (N.length - zs.length) none
theorem l0_slot {M : Addr → Prop} {zs : List Z} {i : Nat} {z : Z} (r : RwA K M H vs zs) (e : (l0 N zs)[i]? = some (some z)) : ∃ x, (start N vs)[i]? = some (some x) ∧ Rw K M H x z := by
  have e1 := getElem?_app_none e
  rw [List.getElem?_map] at e1
  cases q : zs[i]? with
  | none => rw [q] at e1; cases e1
  | some d =>
    rw [q] at e1
    cases e1
    obtain ⟨v, hv, rv⟩ := r.get q
    exact ⟨v, start_get hv, rv⟩
theorem l0_len {M : Addr → Prop} {zs : List Z} (r : RwA K M H vs zs) : (start N vs).length = (l0 N zs).length := by
  unfold L2.start l0
  rw [List.length_append, List.length_append, List.length_map, List.length_map, List.length_replicate, List.length_replicate, r.len]
theorem pure_body (h : pureSp K n pre post vs H Q E) (b : ∀ ds, ds.length = n → pre ds → ∀ e : En, (∀ y, post ds .none → e.nx y) → (∀ d y, post ds d → e.rt (.d d) y) → wS { K := K } t ⟨l0 N (ds.map Z.d), []⟩ e) :
    t { nx := fun _ G => Q .non G, rt := Q } (start N vs) H := by
  obtain ⟨M, ds, al, r, l, hp, k⟩ := h
  refine b ds l hp { nx := fun _ => post ds .none, rt := fun z _ => ∃ d, z = .d d ∧ post ds d } (fun _ q => q) (fun d _ q => ⟨d, rfl, q⟩) ⟨H, fun _ => False, M, true⟩ (start N vs) H _ rfl
    ⟨⟨fun a o _ e => e, al, al, l0_len (RwA.of r), fun i z e => ?_, fun e he => (nomatch he), List.Pairwise.nil, fun e he => (nomatch he), fun a z => z.elim, fun _ e he => (nomatch he)⟩, fun _ _ _ _ _ _ _ _ _ z => z.elim⟩
    ⟨fun σ' H' y' w g q => ?_, fun σ' v H' z y' w g rz q => ?_, fun _ _ _ _ _ q => q.elim, fun _ _ _ _ _ q => q.elim⟩
  · obtain ⟨x, h1, h2⟩ := l0_slot (RwA.of r) e
    exact ⟨x, h1, h2.go fun a o na e => ⟨fun z => z.elim na fun ⟨_, q, _⟩ => (nomatch q), e⟩⟩
  · exact k .none .non H' q (fun a o e => w.keep a o (fun z => z) e) .non
  · obtain ⟨d, rfl, q⟩ := q
    exact k d v H' q (fun a o e => w.keep a o (fun z => z) e) (Rp.go (fun a o n e => ⟨fun z => n (.inl z), e⟩) rz)
theorem pu_body (h : puSp K n pre cost post vs H Q E) (b : ∀ ds m p, ds.length = n → pre ds → cost ds ≤ m → ∀ e : En, (∀ y k o, post ds .none → (⟨p, o, .pu k⟩ : Cl) ∈ y.m → m - cost ds ≤ k → e.nx y) → (∀ d y k o, post ds d → (⟨p, o, .pu k⟩ : Cl) ∈ y.m → m - cost ds ≤ k → e.rt (.d d) y) →
      wS { K := K } t ⟨l0 N (.lab p :: ds.map Z.d), [⟨p, false, .pu m⟩]⟩ e) : t { nx := fun _ G => Q .non G, rt := Q } (start N vs) H := by
  obtain ⟨M, p, us, ds, m, rfl, mp, al, pk, r, l, hp, hc, k⟩ := h
  have rr : RwA K M H (.ref p :: us) (.lab p :: ds.map Z.d) := .cons (.lab p) (RwA.of r)
  have hM : ∀ {a : Addr}, Mv ⟨H, fun a => a = p, M, true⟩ (start N (.ref p :: us)) ⟨l0 N (.lab p :: ds.map Z.d), [⟨p, false, .pu m⟩]⟩ a → M a := fun {a} z => z.elim (fun z => z) fun ⟨e, q1, q2⟩ => by
    rw [List.mem_singleton] at q1; subst q1; exact q2 ▸ mp
  have fin : ∀ {σ' : St} {H' : Hp} {y' : S} {q : Nat} {o : Bool}, Wd { K := K } ⟨H, fun a => a = p, M, true⟩ σ' y' H' → (⟨p, o, .pu q⟩ : Cl) ∈ y'.m → m - cost ds ≤ q → PuOk H' p (m - cost ds) := fun {σ' H' y' q o} w e hq => PuOk.mono (w.cell _ e) hq
  refine b ds m p l hp hc { nx := fun y => post ds .none ∧ ∃ k o, (⟨p, o, .pu k⟩ : Cl) ∈ y.m ∧ m - cost ds ≤ k, rt := fun z y => ∃ d k o, z = .d d ∧ post ds d ∧ (⟨p, o, .pu k⟩ : Cl) ∈ y.m ∧ m - cost ds ≤ k }
    (fun y k o q1 q2 q3 => ⟨q1, k, o, q2, q3⟩) (fun d y k o q1 q2 q3 => ⟨d, k, o, rfl, q1, q2, q3⟩) ⟨H, fun a => a = p, M, true⟩ (start N (.ref p :: us)) H _ rfl
    ⟨⟨fun a o _ e => e, al, al, l0_len rr, fun i z e => ?_, fun e he => ?_, List.pairwise_singleton _ _, fun e he _ => ?_, fun a z => (show a = p from z) ▸ mp, fun _ e he ho => ?_⟩, fun _ _ _ _ _ _ _ _ _ z => z.elim⟩
    ⟨fun σ' H' y' w g q => ?_, fun σ' v H' z y' w g rz q => ?_, fun _ _ _ _ _ q => q.elim, fun _ _ _ _ _ q => q.elim⟩
  · obtain ⟨x, h1, h2⟩ := l0_slot rr e
    exact ⟨x, h1, h2.go fun a o na e => ⟨fun z => na (hM z), e⟩⟩
  · rw [List.mem_singleton] at he; subst he; exact pk
  · rw [List.mem_singleton] at he; subst he; exact .inl rfl
  · rw [List.mem_singleton] at he; subst he; cases ho
  · obtain ⟨q1, c, o, q2, q3⟩ := q
    exact k .none .non H' q1 (fun a o n e => w.keep a o n e) (fin w q2 q3) .non
  · obtain ⟨d, c, o, rfl, q1, q2, q3⟩ := q
    exact k d v H' q1 (fun a o n e => w.keep a o n e) (fin w q2 q3) (Rp.go (fun a o n e => ⟨fun z => n (.inl z), e⟩) rz)
theorem law_body (h : spLaw K vs H Q E) (b : ∀ ns : List Int, ns.length ≤ 63 → ∀ e : En, (∀ y, e.rt (.d (.bool true)) y) → wS { K := K } t ⟨l0 N [.d (.list (ns.map PyData.int))], []⟩ e) :
    t { nx := fun _ G => Q .non G, rt := Q } (start N vs) H := by
  obtain ⟨a, ns, rfl, hs, hl, k⟩ := h
  refine pure_body (K := K) (n := 1) (pre := fun ds => ds = [.list (ns.map PyData.int)]) (post := fun _ d => d = .bool true) (Q := Q) (E := fun _ _ _ => False) ⟨fun _ => False, [.list (ns.map PyData.int)], fun a z => z.elim, .cons (.lst ?_ (rpA_int ns)) .nil, rfl, rfl, fun d v H' e _ r => ?_⟩ ?_
  · rcases hs with hs | hs
    · exact .inl ⟨fun z => z, hs⟩
    · exact .inr hs
  · subst e
    rw [rp_bl r]
    exact k H'
  · rintro ds _ rfl e hn hr
    exact b ns hl e fun y => hr _ y rfl
end
/-! ### defs that read, and may raise -/
def xSp (K : Fg) (n : Nat) (pre : List Z → List D → Prop) (post : List Z → List D → Z → Prop) (xp : List Z → List D → Ex → Prop) : Sp := fun vs H Q E => ∃ (M : Addr → Prop) (m : List Cl) (zs : List Z) (ds : List D),
  (∀ a, M a → H a ≠ none) ∧ RwA K M H vs zs ∧ (∀ e ∈ m, M e.a ∧ CellOk K M H e.a e.c) ∧ (m.Pairwise fun e e' => e.a ≠ e'.a) ∧ ResA m zs ds ∧ zs.length = n ∧ pre zs ds ∧
  (∀ z v H', post zs ds z → (∀ a o, H a = some o → H' a = some o) → Rw K M H' v z → Q v H') ∧
  (∀ ex a v H', xp zs ds ex → (∀ a o, H a = some o → H' a = some o) → H a = none → H' a = some (.xd [(keyZ ex.found, v)]) → Rw K M H' v (valZ ex.found) → E ex.cls (some a) H')
theorem xSp_len {K : Fg} {n : Nat} {pre : List Z → List D → Prop} {post : List Z → List D → Z → Prop} {xp : List Z → List D → Ex → Prop} {ps : List Str} (h : ps.length = n) : ∀ vs H Q E, xSp K n pre post xp vs H Q E → vs.length = ps.length := by
  rintro vs H Q E ⟨M, m, zs, ds, _, r, _, _, _, l, _⟩
  rw [r.len, l, h]
section
variable {K : Fg} {N : List Str} {t : TS} {vs : List V} {H : Hp} {Q : VK} {E : XK} {n : Nat} {pre : List Z → List D → Prop} {post : List Z → List D → Z → Prop} {xp : List Z → List D → Ex → Prop}
theorem x_body (h : xSp K n pre post xp vs H Q E) (b : ∀ m zs ds, zs.length = n → ResA m zs ds → pre zs ds → ∀ e : En, (∀ y, post zs ds (.d .none) → e.nx y) → (∀ z y, post zs ds z → e.rt z y) →
      wS { K := K, W := fun cls d _ H' => E cls d H', ex := fun ex _ => xp zs ds ex } t ⟨l0 N zs, m⟩ e) : t { nx := fun _ G => Q .non G, rt := Q } (start N vs) H := by
  obtain ⟨M, m, zs, ds, al, r, cs, pw, rs, l, hp, k1, k2⟩ := h
  have hM : ∀ {a : Addr} {σ : St} {l : List (Option Z)}, Mv ⟨H, fun _ => False, M, true⟩ σ ⟨l, roM m⟩ a → M a := fun {a σ l} z => z.elim (fun z => z) fun q => by
    obtain ⟨e, q1, q2⟩ := dom_roM.mp q
    exact q2 ▸ (cs e q1).1
  have gM : GoH M H (Mv ⟨H, fun _ => False, M, true⟩ (start N vs) ⟨l0 N zs, roM m⟩) H := fun a o na e => ⟨fun z => na (hM z), e⟩
  refine b (roM m) zs ds l rs.rom hp { nx := fun _ => post zs ds (.d .none), rt := fun z _ => post zs ds z } (fun _ q => q) (fun d _ q => q) ⟨H, fun _ => False, M, true⟩ (start N vs) H _ rfl
    ⟨⟨fun a o _ e => e, al, al, l0_len r, fun i z e => ?_, fun e he => ?_, ?_, fun e he hr => ?_, fun a z => z.elim, fun _ e he ho => ?_⟩, fun σ' y' H' ex cls d w g x q => ?_⟩
    ⟨fun σ' H' y' w g q => ?_, fun σ' v H' z y' w g rz q => ?_, fun _ _ _ _ _ q => q.elim, fun _ _ _ _ _ q => q.elim⟩
  · obtain ⟨x, h1, h2⟩ := l0_slot r e
    exact ⟨x, h1, h2.go gM⟩
  · obtain ⟨e', q1, rfl⟩ := List.mem_map.mp he
    exact toRo_ok ((cs e' q1).2.go gM fun _ q => q)
  · unfold roM
    rw [List.pairwise_map]
    exact pw
  · obtain ⟨e', q1, rfl⟩ := List.mem_map.mp he
    rw [toRo_ro] at hr; cases hr
  · obtain ⟨e', q1, rfl⟩ := List.mem_map.mp he
    cases ho
  · obtain ⟨rfl, a, v, rfl, x1, x2, x3, x4⟩ := x
    exact k2 ex a v H' q (fun a o e => w.keep a o (fun z => z) e) x3 x1 (x4.go fun a o n e => ⟨fun z => n (.inl z), e⟩)
  · exact k1 (.d .none) .non H' q (fun a o e => w.keep a o (fun z => z) e) (.d .non)
  · exact k1 z v H' q (fun a o e => w.keep a o (fun z => z) e) (rz.w.go fun a o n e => ⟨fun z => n (.inl z), e⟩)
end
section
variable {C : Ct} {y : S} {ts : TA} {te : TE} {Q : Z → S → Prop} {n : Nat} {pre : List Z → List D → Prop} {post : List Z → List D → Z → Prop} {xp : List Z → List D → Ex → Prop} {e : En}
theorem wE_x (w : wZ C ts y fun zs y1 => ∃ ds, ResA y1.m zs ds ∧ (zs.length = n ∧ pre zs ds) ∧ (∀ z, post zs ds z → Q z y1) ∧ ∀ ex, xp zs ds ex → C.ex ex y1) : wE C (tCallS (xSp C.K n pre post xp) (WE C.W) ts) y Q := by
  intro F σ H K wd k
  refine w F σ H _ wd fun vs H1 zs y1 w1 g1 s1 r1 ⟨ds, hr, ⟨hn, hp⟩, q, x⟩ => ?_
  refine ⟨Mv F σ y1, y1.m, zs, ds, fun a m e => w1.new e m, r1, fun e he => ⟨.inr ⟨e, he, rfl⟩, w1.cell e he⟩, w1.dist, hr, hn, hp, fun z v H2 hz gr rv => k v H2 z y1 (w1.grow gr) (g1.trans (go_grow gr)) s1 rv.z (q z hz), fun ex a v H2 hx gr ha ha2 rv => ?_⟩
  exact w1.xk σ y1 H2 ex ex.cls (some a) (w1.grow gr).toWd0 (go_grow gr) ⟨rfl, a, v, rfl, ha2, w1.new ha, w1.newH0 ha, rv⟩ (x ex hx)
theorem wS_raise {K : Fg} {Cc : Addr} (hK : K = C.K) (oc : OexC C.K Cc) (no : PySem.W.findIn C.K (.ref Cc) "found" = some none) (w : wZ C ts y fun zs y1 => ∃ z, zs = [z] ∧ C.ex ⟨.ref Cc, z⟩ y1) : wS C (tRaiseF K Cc C.W ts) y e := by
  subst hK
  intro F σ H E st wd k
  refine w F σ H _ wd fun vs H1 zs y1 w1 g1 s1 r1 ⟨z, ez, x⟩ => ?_
  subst ez
  cases r1 with | @cons v _ vs _ rv r2 =>
  cases r2
  refine mkO_of (Q := fun cls d H' => C.W cls d σ H') oc no fun d hd => ?_
  have gr := grow_upd (o := .xd [(("found" : Str), v)]) hd
  exact w1.xk σ y1 _ ⟨.ref Cc, z⟩ (.ref Cc) (some d) (w1.grow gr).toWd0 (go_grow gr) ⟨rfl, d, v, rfl, by rw [rv.kz.1]; exact upd_same, w1.new hd, w1.newH0 hd, by rw [rv.kz.2]; exact rv.go (go_grow (F := F) (σ := σ) (y := y1) gr)⟩ x
/-- e.found in a suite -/
theorem wE_found {a dd Cc : Addr} {i : Nat} {z : Z} {cls : Value} (hc : cls = .ref Cc) (hi : y.l[i]? = some (some (.exc a dd z))) (kz : keyZ z = "found" ∧ valZ z = z) (q : Q z y) : wE C (tXf a cls (some dd) Cc "found" (tVar i)) y Q := by
  intro F σ H K wd k
  obtain ⟨x, h1, h2⟩ := wd.slot i _ hi
  cases h2 with
  | @exc _ _ v _ n c1 c2 =>
    rw [kz.1] at c1
    rw [kz.2] at c2
    exact ⟨.ref a, h1, rfl, hc, dd, _, v, rfl, c1, by simp [List.lookup], k v H z y wd GoH.refl (Sh.refl y) c2.z q⟩
/-- e.f in a suite -/
theorem wE_field {a dd Cc : Addr} {i : Nat} {z : Z} {f : Str} {cls : Value} (hc : cls = .ref Cc) (hi : y.l[i]? = some (some (.exc a dd (.nm f z)))) (q : Q z y) : wE C (tXf a cls (some dd) Cc f (tVar i)) y Q := by
  intro F σ H K wd k
  obtain ⟨x, h1, h2⟩ := wd.slot i _ hi
  cases h2 with
  | @exc _ _ v _ n c1 c2 =>
    have c1 : H dd = some (.xd [(f, v)]) := c1
    exact ⟨.ref a, h1, rfl, hc, dd, _, v, rfl, c1, by simp [List.lookup], k v H z y wd GoH.refl (Sh.refl y) (Rw.z (z := z) c2) q⟩
end
/-! ### try -/
def Hd (C : Ct) (K : Fg) (e : En) : List (Value × Option Nat × (Addr → Value → Option Addr → TS)) → Ex → S → Prop
  | [], _, _ => False
  | (c, none, ts) :: r, ex, y => ∃ b, PySem.W.exmOne K ex.cls c = some b ∧ (b = true → ∀ a dd : Addr, wS C (ts a ex.cls (some dd)) y e) ∧ (b = false → Hd C K e r ex y)
  | (c, some i, ts) :: r, ex, y => ∃ b, PySem.W.exmOne K ex.cls c = some b ∧ (b = true → ∀ a dd : Addr, wS C (ts a ex.cls (some dd)) (y.set i (some (.exc a dd ex.found)))
      { nx := fun y' => e.nx (y'.set i none), rt := e.rt, bk := fun y' => e.bk (y'.set i none), ct := fun y' => e.ct (y'.set i none) }) ∧ (b = false → Hd C K e r ex y)
theorem Wd.unset {C : Ct} {F : Fr} {σ : St} {y : S} {H : Hp} (w : Wd C F σ y H) (i : Nat) : Wd C F (σ.set i none) (y.set i none) H := by
  refine w.to ⟨w.keep, w.live0, w.live, by show (σ.set i _).length = (y.l.set i _).length; rw [List.length_set, List.length_set]; exact w.len, fun j z e => ?_, w.cell, w.dist, w.frsh, w.sm, w.nb⟩ go_set
  have e' : (y.l.set i none)[j]? = some (some z) := e
  by_cases n : j = i
  · subst n
    have hl : j < y.l.length := by
      have := (List.getElem?_eq_some_iff.mp e').1
      rw [List.length_set] at this; exact this
    rw [List.getElem?_set_self hl] at e'
    cases e'
  · rw [List.getElem?_set_ne (Ne.symm n)] at e' ⊢
    exact w.slot j z e'
theorem wS_try {C : Ct} {y : S} {e : En} {tb : WX → TS} {l : List (Value × Option Nat × (Addr → Value → Option Addr → TS))} (w : ∀ W, wS { C with W := W, ex := Hd C C.K e l } (tb W) y e) : wS C (tTry C.K l tb) y e := by
  intro F σ H D st wd k
  have chg : ∀ {σ' : St} {y' : S} {H' : Hp}, Wd { C with W := wN C.K D l, ex := Hd C C.K e l } F σ' y' H' → Go F σ y H σ' y' H' → Wd C F σ' y' H' := fun {σ' y' H'} w' g => wd.to w'.toWd0 g
  refine w (wN C.K D l) F σ H D st ⟨wd.toWd0, fun σ' y' H' ex cls d w0 g x q => ?_⟩ ⟨fun σ' H' y' w' g q => k.nx σ' H' y' (chg w' g) g q, fun σ' v H' z y' w' g r q => k.rt σ' v H' z y' (chg w' g) g r q, fun σ' H' y' w' g q => k.bk σ' H' y' (chg w' g) g q, fun σ' H' y' w' g q => k.ct σ' H' y' (chg w' g) g q⟩
  have w1 : Wd C F σ' y' H' := wd.to w0 g
  obtain ⟨rfl, dd, v, rfl, x1, x2, x3, x4⟩ := x
  have key : ∀ l : List (Value × Option Nat × (Addr → Value → Option Addr → TS)), Hd C C.K e l ex y' → wN C.K D l ex.cls (some dd) σ' H' := by
    intro l
    induction l with
    | nil => exact fun z => z
    | cons cl r ih =>
      obtain ⟨c, i, ts⟩ := cl
      cases i with
      | none =>
        rintro ⟨b, hb, hy, hn⟩
        refine ⟨b, hb, fun hbt a ha => ?_, fun hbf => ih (hn hbf)⟩
        exact hy hbt a dd F σ' H' D st w1 ⟨fun σ3 H3 y3 w3 g3 q => k.nx σ3 H3 y3 w3 (g.trans g3) q, fun σ3 v3 H3 z3 y3 w3 g3 r q => k.rt σ3 v3 H3 z3 y3 w3 (g.trans g3) r q, fun σ3 H3 y3 w3 g3 q => k.bk σ3 H3 y3 w3 (g.trans g3) q, fun σ3 H3 y3 w3 g3 q => k.ct σ3 H3 y3 w3 (g.trans g3) q⟩
      | some i =>
        rintro ⟨b, hb, hy, hn⟩
        refine ⟨b, hb, fun hbt a ha => ?_, fun hbf => ih (hn hbf)⟩
        have w3 := w1.set_z (i := i) (v := .ref a) (z := .exc a dd ex.found) (.exc x2 x1 x4)
        have g3 : Go F σ y H (σ'.set i (some (.ref a))) (y'.set i (some (.exc a dd ex.found))) H' := g.trans (go_set (σ := σ'))
        refine hy hbt a dd F _ H' _ st w3 ⟨fun σ4 H4 y4 w4 g4 q => k.nx _ H4 _ (w4.unset i) ((g3.trans g4).trans (go_set (σ := σ4))) q, fun σ4 v4 H4 z4 y4 w4 g4 r q => k.rt σ4 v4 H4 z4 y4 w4 (g3.trans g4) r q, fun σ4 H4 y4 w4 g4 q => k.bk _ H4 _ (w4.unset i) ((g3.trans g4).trans (go_set (σ := σ4))) q, fun σ4 H4 y4 w4 g4 q => k.ct _ H4 _ (w4.unset i) ((g3.trans g4).trans (go_set (σ := σ4))) q⟩
  exact key l q
end Ux

set_option maxRecDepth 100000
set_option maxHeartbeats 4000000
namespace Ux
open PySem PySem.Spec PyProof.Rows L2 Tq
open PySem.Builtin.Str (occurrences subAt)
section
variable {C : Ct} {y : S} {te : TE} {Q : Z → S → Prop} {E : XK}
theorem wE_powN {a : Int} {n : Nat} (q : Q (.d (.int (a ^ (OfNat.ofNat n : Nat)))) y) (ha : a.natAbs < 2 ^ 64 := by decide) (hn : n ≤ 1000000 := by decide) : wE C (tOp (rI CPow fun i j => .int (i ^ j.toNat)) (tC (.int a)) (tC (.int (OfNat.ofNat n)))) y Q := by
  refine wE_pow (wE_int (wE_int ⟨_, _, rfl, rfl, ⟨?_, ?_, ha⟩, q⟩))
  · show (0 : Int) ≤ (n : Nat); omega
  · show ((n : Nat) : Int) ≤ 1000000; omega
theorem wE_dispS {k : Str} {v : V} {d : D} (s : Sc v d) (h : Q (.d (.dict [(.str k, d)])) y) : wE C (tDisp [(tC (.str k), tC v)]) y Q := wE_disp1 (kk := .inr k) s h
theorem wE_dispI {k : Int} {v : V} {d : D} (s : Sc v d) (h : Q (.d (.dict [(.int k, d)])) y) : wE C (tDisp [(tC (.int k), tC v)]) y Q := wE_disp1 (kk := .inl k) s h
end
section
variable {C : Ct} {y : S} {ta tb : TE} {Q : Z → S → Prop}
theorem wE_eqS (w : wE C ta y fun z y1 => wE C tb y1 fun z' y2 => ∃ d e, z = .d d ∧ z' = .d e ∧ scalD d e = true ∧ Q (.d (.bool (eqS d e))) y2) : wE C (tOp rEq ta tb) y Q := by
  refine wE_op (res := fun d e r => scalD d e = true ∧ r = .bool (eqS d e)) ?_ (wE_mono w fun z y1 h => wE_mono h fun z' y2 ⟨d, e, e1, e2, s, q⟩ => ⟨_, _, _, e1, e2, ⟨s, rfl⟩, q⟩)
  rintro M H x u d e r Q _ rx ru ⟨s, rfl⟩ k
  obtain ⟨h1, h2⟩ := eqS_ok rx ru s
  refine ⟨h1, ?_⟩
  rw [h2]
  exact k _ H (fun _ _ e => e) (.bl _)
theorem wE_neS (w : wE C ta y fun z y1 => wE C tb y1 fun z' y2 => ∃ d e, z = .d d ∧ z' = .d e ∧ scalD d e = true ∧ Q (.d (.bool (!eqS d e))) y2) : wE C (tOp rNe ta tb) y Q := by
  refine wE_op (res := fun d e r => scalD d e = true ∧ r = .bool (!eqS d e)) ?_ (wE_mono w fun z y1 h => wE_mono h fun z' y2 ⟨d, e, e1, e2, s, q⟩ => ⟨_, _, _, e1, e2, ⟨s, rfl⟩, q⟩)
  rintro M H x u d e r Q _ rx ru ⟨s, rfl⟩ k
  obtain ⟨h1, h2⟩ := eqS_ok rx ru s
  refine ⟨h1, ?_⟩
  rw [h2]
  exact k _ H (fun _ _ e => e) (.bl _)
end
theorem wE_reprS {C : Ct} {y : S} {te : TE} {Q : Z → S → Prop} (w : wE C te y fun z y1 => ∃ d, z = .d d ∧ ShOk d ∧ Q (.d (.str d.shown)) y1) : wE C (tCB (rRepr C.K) (tCons te tNil)) y Q :=
  wE_repr (wD_cons (wE_mono w fun z y1 ⟨d, e, ⟨h1, h2, h3, h4⟩, q⟩ => ⟨d, e, wD_nil ⟨d, rfl, h1, h2, h3, h4, q⟩⟩))
theorem wE_index {C : Ct} {ta tb : TE} {y : S} {Q : Z → S → Prop} (w : wE C ta y fun z y1 => ∃ a, z = .d (.str a) ∧ wE C tb y1 fun z' y2 => ∃ b i r, z' = .d (.str b) ∧ occurrences a b 0 a.length 1 = i :: r ∧ Q (.d (.int (i : Nat))) y2) :
    wE C (tM1 rIndex ta tb) y Q := by
  intro F σ H K wd k
  refine w F σ H _ wd fun x H1 z y1 w1 g1 s1 r1 q1 => ?_
  obtain ⟨a, rfl, q1⟩ := q1
  have e := rp_str r1
  subst e
  refine ⟨⟨a, rfl⟩, q1 F σ H1 _ w1 fun x2 H2 z' y2 w2 g2 s2 r2 q2 => ?_⟩
  obtain ⟨b, i, r, rfl, ho, hq⟩ := q2
  exact ⟨a, b, i, r, rfl, by rw [rp_str r2], ho, k _ H2 (.d (.int _)) y2 w2 (g1.trans g2) (s1.trans s2) (.int _) hq⟩

/-! ### things as they are at present -/
section
variable {C : Ct} {y : S} {te ta tb : TE} {Q : Z → S → Prop} {Qi : List D → S → Prop}
theorem wE_isiR {T : String} (w : wE C te y fun z y1 => ∃ d, Res y1.m z d ∧ Q (.d (.bool (isT T d))) y1) (hT : (tyNames.all fun n => (kitB n T).isSome) = true := by decide +kernel) : wE C (tCB (rIsi C.K) (tCons te (tCons (tC (.ty T)) tNil))) y Q := by
  intro F σ H K wd k
  refine w F σ H _ wd fun x H1 z y1 w1 g1 s1 r1 q1 => ?_
  obtain ⟨d, hr, h⟩ := q1
  exact ⟨x, .ty T, _, _, isT T d, rfl, .ty T, rp_ty (hr.rp w1.toWd0 r1.w), kit_ty (kit_isT hT d), k _ H1 (.d (.bool (isT T d))) y1 w1 g1 s1 (.bl _) h⟩
theorem wE_reprR (w : wE C te y fun z y1 => ∃ d, Res y1.m z d ∧ ShOk d ∧ Q (.d (.str d.shown)) y1) : wE C (tCB (rRepr C.K) (tCons te tNil)) y Q := by
  intro F σ H K wd k
  refine w F σ H _ wd fun x H1 z y1 w1 g1 s1 r1 q1 => ?_
  obtain ⟨d, hr, ⟨h1, h2, h3, h4⟩, h⟩ := q1
  exact ⟨x, d, rfl, (hr.rp w1.toWd0 r1.w).any, h1, h2, h3, h4, k _ H1 (.d (.str d.shown)) y1 w1 g1 s1 (.str _) h⟩
def seqZ : Z → Option (List Z)
  | .d (.list ds) => some (ds.map Z.d)
  | .d (.tuple ds) => some (ds.map Z.d)
  | .lst zs => some zs
  | .tup zs => some zs
  | _ => none
theorem atI_rw {K : Fg} {M : Addr → Prop} {H : Hp} {vs : List V} {zs : List Z} {i : Int} {z : Z} (r : RwA K M H vs zs) (h : atI zs i = some z) : ∃ v, atI vs i = some v ∧ Rw K M H v z := by
  unfold atI at h ⊢
  rw [r.len]
  cases e : ixN zs.length i with
  | none => rw [e] at h; cases h
  | some j =>
    rw [e] at h
    exact r.get (i := j) h
theorem rw_seq {K : Fg} {M : Addr → Prop} {H : Hp} {v : V} {z : Z} {zs : List Z} (r : Rw K M H v z) (h : seqZ z = some zs) : ∃ a us, v = .ref a ∧ (LsA K M H a us ∨ TsA K M H a us) ∧ RwA K M H us zs := by
  cases r with
  | lab a => cases h
  | exc _ _ _ => cases h
  | ob _ _ _ _ => cases h
  | tup h1 h2 => cases h; exact ⟨_, _, rfl, .inr h1, h2⟩
  | lst h1 h2 => cases h; exact ⟨_, _, rfl, .inl h1, h2⟩
  | d r =>
    cases r with
    | lst h1 h2 => cases h; exact ⟨_, _, rfl, .inl h1, RwA.of h2⟩
    | tup h1 h2 => cases h; exact ⟨_, _, rfl, .inr h1, RwA.of h2⟩
    | _ => cases h
theorem wE_ixZ (w : wE C ta y fun z y1 => wE C tb y1 fun z' y2 => ∃ zs i u, seqZ z = some zs ∧ z' = .d (.int i) ∧ atI zs i = some u ∧ Q u y2) : wE C (tOp (rIx C.K) ta tb) y Q := by
  intro F σ H K wd k
  refine w F σ H _ wd fun x H1 z y1 w1 g1 s1 r1 q1 => ?_
  refine q1 F σ H1 _ w1 fun x2 H2 z' y2 w2 g2 s2 r2 q2 => ?_
  obtain ⟨zs, i, u, hs, rfl, hi, hq⟩ := q2
  have ey := rp_int r2
  obtain ⟨a, us, rfl, h1, h2⟩ := rw_seq (r1.w.go g2) hs
  obtain ⟨v, e, rv⟩ := atI_rw h2 hi
  rcases h1 with h1 | h1
  · exact .inl ⟨_, _, i, v, rfl, ey, h1.sq, e, k _ H2 u y2 w2 (g1.trans g2) (s1.trans s2) rv.z hq⟩
  · exact .inr (.inl ⟨_, _, i, v, rfl, ey, h1.sq, e, k _ H2 u y2 w2 (g1.trans g2) (s1.trans s2) rv.z hq⟩)
def lstZ : Z → Option (List Z)
  | .d (.list ds) => some (ds.map Z.d)
  | .lst zs => some zs
  | _ => none
theorem rw_lst {K : Fg} {M : Addr → Prop} {H : Hp} {v : V} {z : Z} {zs : List Z} (r : Rw K M H v z) (h : lstZ z = some zs) : ∃ a us, v = .ref a ∧ LsA K M H a us ∧ RwA K M H us zs := by
  cases r with
  | lab a => cases h
  | exc _ _ _ => cases h
  | ob _ _ _ _ => cases h
  | tup h1 h2 => cases h
  | lst h1 h2 => cases h; exact ⟨_, _, rfl, h1, h2⟩
  | d r =>
    cases r with
    | lst h1 h2 => cases h; exact ⟨_, _, rfl, h1, RwA.of h2⟩
    | _ => cases h
theorem wE_catZ (w : wE C ta y fun z y1 => wE C tb y1 fun z' y2 => ∃ xs zs, lstZ z = some xs ∧ lstZ z' = some zs ∧ xs.length + zs.length ≤ sizeLine ∧ Q (.lst (xs ++ zs)) y2) : wE C (tOp (rCatG C.K) ta tb) y Q := by
  intro F σ H K wd k
  refine w F σ H _ wd fun x H1 z y1 w1 g1 s1 r1 q1 => ?_
  refine q1 F σ H1 _ w1 fun x2 H2 z' y2 w2 g2 s2 r2 q2 => ?_
  obtain ⟨xs, zs, e1, e2, hl, hq⟩ := q2
  obtain ⟨a, us, rfl, h1, h2⟩ := rw_lst (r1.w.go g2) e1
  obtain ⟨b, vs, rfl, h3, h4⟩ := rw_lst r2.w e2
  refine ⟨a, b, us, vs, rfl, rfl, h1.sq, h3.sq, by rw [h2.len, h4.len]; exact hl, fun p hp => ?_⟩
  have gr := grow_upd (o := .lst (us ++ vs)) hp
  exact k _ _ (.lst (xs ++ zs)) y2 (w2.grow gr) ((g1.trans g2).trans (go_grow gr)) (s1.trans s2) (.lst (.inl ⟨w2.new hp, .inl upd_same⟩) ((h2.app h4).go (go_grow (F := F) (σ := σ) (y := y2) gr))) hq
theorem wI_any {i : Nat} {d : D} {xs : List D} (h : y.l[i]? = some (some (.d d))) (hx : dItems d = some xs) (q : Qi xs y) : wI C (iAny C.K (tVar i)) y Qi := by
  intro F σ H R wd k
  cases d with
  | list us =>
    cases hx
    exact .inl (wI_list (wE_var h ⟨_, rfl, q⟩) F σ H R wd k)
  | tuple us =>
    cases hx
    exact .inr (wI_tup (wE_var h ⟨_, rfl, q⟩) F σ H R wd k)
  | _ => cases hx
end
/-! ### less is known -/
def LsL (a b : List (Option Z)) : Prop := a.length = b.length ∧ ∀ (i : Nat) (z : Z), a[i]? = some (some z) → b[i]? = some (some z)
theorem less_mk' {a b : List (Option Z)} {m n : List Cl} (h : LsL a b) (s : m.Sublist n) : Less ⟨a, m⟩ ⟨b, n⟩ := ⟨h.1, h.2, s⟩
theorem less_nil : LsL [] [] := ⟨rfl, fun i z e => e⟩
theorem less_none {a b : List (Option Z)} {z : Option Z} (h : LsL a b) : LsL (none :: a) (z :: b) := by
  refine ⟨congrArg (· + 1) h.1, fun i u e => ?_⟩
  cases i with
  | zero => cases e
  | succ i => exact h.2 i u e
theorem less_some {a b : List (Option Z)} {z : Option Z} (h : LsL a b) : LsL (z :: a) (z :: b) := by
  refine ⟨congrArg (· + 1) h.1, fun i u e => ?_⟩
  cases i with
  | zero => exact e
  | succ i => exact h.2 i u e
theorem less_set {a b : S} {i : Nat} {z : Option Z} (h : Less a b) : Less (a.set i z) (b.set i z) := by
  refine ⟨by show (a.l.set i z).length = (b.l.set i z).length; rw [List.length_set, List.length_set, h.1], fun j u e => ?_, h.2.2⟩
  have e : (a.l.set i z)[j]? = some (some u) := e
  show (b.l.set i z)[j]? = some (some u)
  rw [List.getElem?_set] at e ⊢
  rw [← h.1]
  split at e
  · next q => rw [if_pos q]; exact e
  · next q => rw [if_neg q]; exact h.2.1 j u e
theorem Less.refl (y : S) : Less y y := ⟨rfl, fun _ _ e => e, List.Sublist.refl _⟩
/-- a loop whose turns know J alone -/
theorem forJ {C : Ct} {v : Nat} {tx : TS} {xs : List D} {y0 : S} {bk : S → Prop} {rt : Z → S → Prop} {R : S → Prop} (J : Nat → S → Prop) (h0 : ∃ y', J 0 y' ∧ Less y' y0)
    (hb : ∀ i x y', xs[i]? = some x → J i y' → wS C tx (y'.set v (some (.d x))) { nx := fun y => ∃ y', J (i + 1) y' ∧ Less y' y, ct := fun y => ∃ y', J (i + 1) y' ∧ Less y' y, bk := bk, rt := rt }) (he : ∀ y2 y', J xs.length y' → Less y' y2 → R y2) :
    ∃ I : Nat → S → Prop, I 0 y0 ∧ (∀ i x y2, xs[i]? = some x → I i y2 → wG C (gName v) (.d x) y2 fun y3 => wS C tx y3 { nx := I (i + 1), ct := I (i + 1), bk := bk, rt := rt }) ∧ (∀ y2, I xs.length y2 → R y2) :=
  ⟨fun i y => ∃ y', J i y' ∧ Less y' y, h0, fun i x y2 hx ⟨y', hj, hl⟩ => wG_name (wS_weak (hb i x y' hx hj) (less_set hl)), fun y2 ⟨y', hj, hl⟩ => he y2 y' hj hl⟩
/-- what stands between two cells of the script: it alone is known -/
def cellEnd (n : Nat) (s : D) (y : S) : Prop := y.l.length = n + 2 ∧ y.l[0]? = some (some (.d s))
/-- for _law_k in range(max(2, min(c, len(script)))): tb; return True -/
theorem law_loop {K : Fg} {tb : TS} {e : En} {ns : List Int} {c : Int} {n : Nat} (hc : 0 ≤ c ∧ c ≤ 900) (hz : ∀ y, e.rt (.d (.bool true)) y)
    (hb : ∀ k : Int, 0 ≤ k → k < 1000 → wS { K := K } tb ⟨some (.d (.list (ns.map PyData.int))) :: some (.d (.int k)) :: List.replicate n none, []⟩
      { nx := cellEnd n (.list (ns.map PyData.int)), ct := cellEnd n (.list (ns.map PyData.int)), bk := fun y1 => wS { K := K } (tRet (tC (.bl true))) y1 e, rt := e.rt }) :
    wS { K := K } (tSeq (tFor (iRng1 (tCons (tCB rMx (tCons (tC (.int 2)) (tCons (tCB rMn (tCons (tC (.int c)) (tCons (tCB (rLenD K) (tCons (tVar 0) tNil)) tNil))) tNil))) tNil)) (gName 1) tb) (tRet (tC (.bl true))))
      ⟨some (.d (.list (ns.map PyData.int))) :: none :: List.replicate n none, []⟩ e := by
  refine wS_seq (wS_for (wI_rng1 (wD_cons (wE_max2 (wD_cons (wE_int ⟨_, rfl, wD_cons (wE_min2 (wD_cons (wE_int ⟨_, rfl, wD_cons (wE_len (wD_cons (wE_var rfl ⟨_, rfl, wD_nil ⟨_, _, rfl, rfl, ?_⟩⟩))) ⟩)))⟩))))))
  refine ⟨_, rfl, wD_nil ⟨_, _, rfl, _, rfl, wD_nil ⟨_, _, rfl, _, rfl, wD_nil ⟨_, rfl, ?_⟩⟩⟩⟩
  rw [List.length_map]
  generalize hj : (if (if (ns.length : Int) < c then (ns.length : Int) else c) > 2 then (if (ns.length : Int) < c then (ns.length : Int) else c) else 2) = j
  have h1 : 2 ≤ j ∧ j ≤ 900 := by
    rw [← hj]
    constructor
    · split <;> omega
    · split
      · split <;> omega
      · omega
  refine ⟨by omega, by omega, fun _ y => cellEnd n (.list (ns.map PyData.int)) y, ⟨by simp, rfl⟩, fun i x y2 hx ⟨hy1, hy2⟩ => ?_, fun y2 _ => wS_ret (wE_bl (hz _))⟩
  obtain ⟨hi, rfl⟩ := rangeD_get hx
  refine wG_name (wS_weak (hb (0 + (i : Int)) (by omega) (by omega)) ⟨by show _ = (y2.l.set 1 _).length; rw [List.length_set, hy1]; simp, fun k z e => ?_, List.nil_sublist _⟩)
  show (y2.l.set 1 _)[k]? = some (some z)
  match k, e with
  | 0, e =>
    cases e
    rw [List.getElem?_set_ne (by decide)]
    exact hy2
  | 1, e =>
    cases e
    exact List.getElem?_set_self (by omega)
  | k + 2, e =>
    have e2 : (List.replicate n (none : Option Z))[k]? = some (some z) := e
    rw [List.getElem?_replicate] at e2
    split at e2 <;> cases e2
end Ux

set_option maxRecDepth 100000
set_option maxHeartbeats 2000000
/-! what the top has written of the exceptions' classes -/
namespace Ux
open PySem PySem.Spec PyProof.Rows L2
/-- the first def of a class -/
def clsFn : Stmt → Stmt
  | .ClassDef _ _ _ (b :: _) _ _ _ _ _ _ _ => b
  | s => s
structure XcT (K : Fg) (mg : Str → Option Value) (x qual : Str) (st : Stmt) (C : Addr) : Prop where
  gC : mg x = some (.ref C)
  oc : OexC K C
  xf : XfC K C
  no : PySem.W.findIn K (.ref C) "found" = some none
  ini : ∃ (fI : Addr) (fd : FuncData), PySem.W.findIn K (.ref C) "__init__" = some (some (.ref fI)) ∧ PySem.W.typeIn K (.ref fI) = some (.type "function") ∧ Fun K "__init__" qual st fI fd ∧ Binds K fd ["self", "found"] []
theorem spInit_len {K : Fg} {C : Addr} : ∀ vs H Q E, spInit K C vs H Q E → vs.length = (["self", "found"] : List Str).length := by
  rintro vs H Q E ⟨a, v, rfl, _⟩
  rfl
theorem xc_ok {P : Program} {w : World} {K : Fg} {mg : Str → Option Value} {base : Heap} {x qual : Str} {st : Stmt} {C : Addr} (T : XcT K mg x qual st C) (Sc : FnScope ["self", "found"] ["self", "found"] (defScope st)) (m : Str)
    (hb : ∀ (fI : Addr) (cdv : Value) (A : Around) (outer : List Env) (s : Shared) (H : Hp) (E : XK), PSs (cxOf CX0 P w K mg base ["self", "found"] qual (defScope st) fI cdv A outer s H E).nox (defBody st) (t_init K m)) : Xc P w K mg base x C := by
  obtain ⟨fI, fd, i1, i2, i3, i4⟩ := T.ini
  exact ⟨T.gC, T.oc, T.xf, T.no, fI, fd, i1, i2, i3.ok Sc spInit_len fun cdv A outer s H vs Q E hr h => ⟨_, hb fI cdv A outer s H E, init_read h⟩, i4⟩
theorem xct_mk {K : Fg} {h : Heap} {mg : Str → Option Value} {x qual : Str} {st : Stmt} {C f : Addr} (X : K.In h) (G : h.Ns mainGlobals mg)
    {nm q : Str} {N : Addr} {bs bm : List Value} {sn : List Str} {sub : List Value} {ab : Bool} {col : Option Bool} {dd : Option Addr} {m0 m1 m2 m3 m5 : Option Value} {od an : Option Addr} {sl : Array (Option Value)} {oc kV dc pm cd ct : Value}
    (hb : ∀ (kV dc pm : Value) (an : Option Addr) (cd ct : Value) (us : List Value), us.length = (["self", "found"] : List Str).length → bindArgs (PySem.W.fnOf "__init__" qual (defArgs st) (defBody st) (defScope st) .none kV dc pm an cd ct) ⟨us, []⟩ = pure ((["self", "found"] : List Str).zip us))
    (aC : PySem.W.nsIn K mainGlobals x = some (some (.ref C)))
    (xL : K.lookup C = some (excClassObj nm q C N bs bm true sn sub ab col dd m0 m1 m2 m3 m5 "ValueError.__new__"))
    (vb : PySem.HandSPX.refsVE bm = true)
    (sa : PySem.W.findIn K (.ref C) "__setattr__" = some (some (.builtin "object.__setattr__"))) (ga : PySem.W.findIn K (.ref C) "__getattribute__" = some (some (.builtin "BaseException.__getattribute__"))) (gg : PySem.W.findIn K (.ref C) "__getattr__" = some none) (nb : PySem.W.findIn K (.ref C) "found" = some none)
    (a1 : PySem.W.findIn K (.ref C) "__init__" = some (some (.ref f))) (t1 : PySem.W.typeIn K (.ref f) = some (.type "function"))
    (l : K.lookup f = some ⟨oc, od, .func (PySem.W.fnOf "__init__" qual (defArgs st) (defBody st) (defScope st) .none kV dc pm an cd ct), sl⟩) (c : PySem.W.codeIn K cd qual = true) (k : PySem.W.keepIn K (.ref f) = true)
    (kC : PySem.W.keepIn K (.ref C) = true) (eC : PySem.W.subIn K (.ref C) (.type "BaseException") = some true) (tC : PySem.W.typeIn K (.ref C) = some (.type "type")) (hC : PySem.W.hasDictIn K C = true) : XcT K mg x qual st C :=
  ⟨PySem.W.mg_of X G aC, ⟨⟨nm, q, N, bs, bm, sn, sub, ab, col, dd, m0, m1, m2, m3, m5, xL, vb⟩, sa, eC, tC, kC⟩, ⟨ga, gg, eC, hC⟩, nb, f, _, a1, t1, fun_mk l c k, (fun_mk l c k).binds hb⟩
theorem txc_mk {K : Fg} {h : Heap} {mg : Str → Option Value} {x : Str} {T : Addr} (X : K.In h) (G : h.Ns mainGlobals mg) (a : PySem.W.nsIn K mainGlobals x = some (some (.ref T))) (r : PySem.W.readsIn K T (.type "type") = true)
    (g : PySem.W.specialIn K (.ref T) "__getattribute__" = some (some (.builtin "type.__getattribute__"))) (v : PySem.W.findCls K (.ref T) (.type "type") "__init__" = some (.val (.builtin "ValueError.__init__"))) : TxC K mg x :=
  ⟨T, PySem.W.mg_of X G a, r, g, v⟩
/-- an exception of the class A, asked of the class B -/
theorem exm_mk {K : Fg} {mg : Str → Option Value} {x y : Str} {A B : Addr} {b : Bool} (hb : PySem.W.subIn K (.ref B) (.type "BaseException") = some true) (ht : PySem.W.typeIn K (.ref B) = some (.type "type")) (hc : PySem.W.isClsIn K B = true) (hs : PySem.W.subIn K (.ref A) (.ref B) = some b) :
    PySem.W.exmOne K (.ref A) (.ref B) = some b := by
  have e1 : (PySem.W.subIn K (.ref B) (.type "BaseException") == some true) = true := by rw [hb] <;> rfl
  have e2 : ((PySem.W.clsIn K B).isSome && PySem.W.typeIn K (.ref B) == some (.type "type")) = true := by
    have h2' : (PySem.W.clsIn K B).isSome = true := hc
    rw [h2', ht] <;> rfl
  show (if (PySem.W.subIn K (.ref B) (.type "BaseException") == some true) = true then (if ((PySem.W.clsIn K B).isSome && PySem.W.typeIn K (.ref B) == some (.type "type")) = true then PySem.W.subIn K (.ref A) (.ref B) else none) else none) = some b
  rw [if_pos e1, if_pos e2]
  exact hs
end Ux

set_option maxRecDepth 100000
set_option maxHeartbeats 2000000
namespace Ux
open PySem PySem.Spec PyProof.Rows L2 Tq
/-! displays by the kind in which they are wanted -/
def tTupZ : TA → TE := tTup
def tLstZ : TA → TE := tLst
def tLstL : TA → TE := tLst
def tDNewL : TE := tDNewK
section
variable {X : Cx} {ts : TA} {es : List Expr} {k : Nat} {pos : Pos}
theorem pe_lstZ (h : PA X es ts) : PE X (.List es pos) (tLstZ ts) := pe_lst h
theorem pe_lstL (h : PA X es ts) : PE X (.List es pos) (tLstL ts) := pe_lst h
theorem pe_dnewL : PE X (.Dict [] [] pos) tDNewL := pe_dnewK
end
theorem Res.at {m : List Cl} {j : Nat} {a : Addr} {b : Bool} {c : Cell} {d : D} (h : m[j]? = some ⟨a, b, c⟩) (r : ResC c d) : Res m (.lab a) d := .lab (e := ⟨a, b, c⟩) (List.mem_of_getElem? h) r
end Ux
namespace Ux
open PySem PySem.Spec PyProof.Rows L2 Tq
/-- a def over things of any kind that lets nothing out -/
theorem wE_xc {C : Ct} {y : S} {ts : TA} {Q : Z → S → Prop} {E : XK} {n : Nat} {pre : List Z → List D → Prop} {post : List Z → List D → Z → Prop} {xp : List Z → List D → Ex → Prop}
    (w : wZ C ts y fun zs y1 => ∃ ds, ResA y1.m zs ds ∧ (zs.length = n ∧ pre zs ds) ∧ (∀ z, post zs ds z → Q z y1)) (hx : ∀ zs ds ex, ¬ xp zs ds ex) : wE C (tCall (xSp C.K n pre post xp) [] E ts) y Q := by
  intro F σ H K wd k
  refine w F σ H _ wd fun vs H1 zs y1 w1 g1 s1 r1 ⟨ds, hr, ⟨hn, hp⟩, q⟩ => ?_
  show xSp C.K n pre post xp (vs ++ []) H1 K E
  rw [List.append_nil]
  exact ⟨Mv F σ y1, y1.m, zs, ds, fun a m e => w1.new e m, r1, fun e he => ⟨.inr ⟨e, he, rfl⟩, w1.cell e he⟩, w1.dist, hr, hn, hp, fun z v H2 hz gr rv => k v H2 z y1 (w1.grow gr) (g1.trans (go_grow gr)) s1 rv.z (q z hz), fun ex _ _ _ h => (hx _ _ _ h).elim⟩
abbrev asSp (K : Fg) (n : Nat) (pre : List Z → List D → Prop) (post : List Z → List D → Z → Prop) : Sp := xSp K n pre post fun _ _ _ => False
theorem wE_as {C : Ct} {y : S} {ts : TA} {Q : Z → S → Prop} {E : XK} {n : Nat} {pre : List Z → List D → Prop} {post : List Z → List D → Z → Prop}
    (w : wZ C ts y fun zs y1 => ∃ ds, ResA y1.m zs ds ∧ (zs.length = n ∧ pre zs ds) ∧ (∀ z, post zs ds z → Q z y1)) : wE C (tCall (asSp C.K n pre post) [] E ts) y Q := wE_xc w fun _ _ _ h => h
/-! what a thing is, by what it is at present -/
theorem ResC.nsc {c : Cell} {d : D} (h : ResC c d) : (∃ ds, d = .list ds) ∨ ∃ kvs, d = .dict kvs := by
  induction h with
  | lst ds => exact .inl ⟨ds, rfl⟩
  | dic kvs => exact .inr ⟨_, rfl⟩
  | ro _ ih => exact ih
theorem Res.int {m : List Cl} {z : Z} {n : Int} (h : Res m z (.int n)) : z = .d (.int n) := by
  cases h with
  | d => rfl
  | lab _ hc => rcases hc.nsc with ⟨_, e⟩ | ⟨_, e⟩ <;> cases e
theorem Res.tup {m : List Cl} {z : Z} {ds : List D} (h : Res m z (.tuple ds)) : z = .d (.tuple ds) := by
  cases h with
  | d => rfl
  | lab _ hc => rcases hc.nsc with ⟨_, e⟩ | ⟨_, e⟩ <;> cases e
theorem resA1 {m : List Cl} {zs : List Z} {ds : List D} (h : ResA m zs ds) (l : zs.length = 1) : ∃ z d, zs = [z] ∧ ds = [d] ∧ Res m z d := by
  cases h with
  | nil => cases l
  | cons a b => cases b with
    | nil => exact ⟨_, _, rfl, rfl, a⟩
    | cons _ _ => simp at l
theorem resA2 {m : List Cl} {zs : List Z} {ds : List D} (h : ResA m zs ds) (l : zs.length = 2) : ∃ z z' d d', zs = [z, z'] ∧ ds = [d, d'] ∧ Res m z d ∧ Res m z' d' := by
  cases h with
  | nil => cases l
  | cons a b =>
    obtain ⟨z, d, rfl, rfl, r⟩ := resA1 b (by simpa using l)
    exact ⟨_, _, _, _, rfl, rfl, a, r⟩
def rCatZ (K : Fg) : R2 := rCatG K
def rIxZ (K : Fg) : R2 := rIx K
section
variable {X : Cx} (K : Fg)
theorem ixZK (h : X.K = K := by rfl) : IxR X (rIxZ K) := ixK K h
theorem catZK (h : X.K = K := by rfl) : OpR X (binaryOp .Add) (rCatZ K) := catK K h
end
theorem fracB_tup {d : D} (h : fracB d = true) : ∃ p q : Int, d = .tuple [.int p, .int q] ∧ 1 ≤ q ∧ gcdI p q = 1 := by
  unfold fracB at h
  split at h
  · next a b =>
    rw [Bool.and_eq_true] at h
    exact ⟨a, b, rfl, of_decide_eq_true h.1, of_decide_eq_true h.2⟩
  · cases h
end Ux
namespace Ux
open PySem PySem.Spec PyProof.Rows L2 Tq
def tCallR (sp : Sp) (E : XK) (t : TA) : TE := tCall sp [] E t
def tIsiR (K : Fg) (t : TA) : TE := tCB (rIsi K) t
def tReprR (K : Fg) (t : TA) : TE := tCB (rRepr K) t
section
variable {X : Cx} {k : Nat} {x : Str} {ps : List Str} {sp : Sp} {p pos : Pos} {e : Expr} {es : List Expr} {t : TA}
theorem pe_calR (c : Cal X.prog X.w X.K X.mg X.base k x ps sp) (hr : Room k X.A) (hgu : X.A.guards = some []) (hg : Gl X x) (ha : PA X (e :: es) t) (hdb : (x == ("__debug__" : Str)) = false := by decide)
    (he : starEach (e :: es) X.env = (false, eval e X.env) :: starEach es X.env := by rfl)
    (hpl : (backTo pos (starEach es X.env)).any (·.1) = false := by rfl) : PE X (.Call (.Name x p) (e :: es) [] pos) (tCallR sp E0 t) := pe_cal c hr hgu hg ha hdb he hpl
end
theorem zR {X : Cx} {e : Expr} {K : Fg} {t : TA} (h : PE X e (tCB (rIsi K) t)) : PE X e (tIsiR K t) := h
theorem zP {X : Cx} {e : Expr} {K : Fg} {t : TA} (h : PE X e (tCB (rRepr K) t)) : PE X e (tReprR K t) := h
end Ux
namespace Ux
open PySem PySem.Spec PyProof.Rows L2 Tq
section
variable {C : Ct} {y : S} {ts : TA} {te ta tb : TE} {Q : Z → S → Prop} {E : XK} {n : Nat} {pre : List D → Prop} {post : List D → D → Prop}
theorem xE_detR {G : List D → D} (w : wZ C ts y fun zs y1 => ∃ ds, ResA y1.m zs ds ∧ (ds.length = n ∧ pre ds) ∧ scD (G ds) = true ∧ Q (.d (G ds)) y1) : wE C (tCallR (detSp C.K n pre G) E ts) y Q := wE_detR w
theorem xE_pureR (w : wZ C ts y fun zs y1 => ∃ ds, ResA y1.m zs ds ∧ ds.length = n ∧ pre ds ∧ ∀ d, post ds d → scD d = true ∧ Q (.d d) y1) : wE C (tCallR (pureSp C.K n pre post) E ts) y Q := wE_pureR w
theorem xE_isiR {T : String} (w : wE C te y fun z y1 => ∃ d, Res y1.m z d ∧ Q (.d (.bool (isT T d))) y1) (hT : (tyNames.all fun n => (kitB n T).isSome) = true := by decide +kernel) : wE C (tIsiR C.K (tCons te (tCons (tC (.ty T)) tNil))) y Q := wE_isiR w hT
theorem xE_reprR (w : wE C te y fun z y1 => ∃ d, Res y1.m z d ∧ ShOk d ∧ Q (.d (.str d.shown)) y1) : wE C (tReprR C.K (tCons te tNil)) y Q := wE_reprR w
theorem xE_tupZ (w : wZ C ts y fun zs y1 => zs.length ≤ sizeLine ∧ Q (.tup zs) y1) : wE C (tTupZ ts) y Q := wE_tupZ w
theorem xE_lstZ (w : wZ C ts y fun zs y1 => zs.length ≤ sizeLine ∧ Q (.lst zs) y1) : wE C (tLstZ ts) y Q := wE_lstZ w
theorem xE_lstL (w : wZ C ts y fun zs y1 => zs.length ≤ sizeLine ∧ ∀ p, Q (.lab p) ⟨y1.l, y1.m ++ [⟨p, true, .lst zs⟩]⟩) : wE C (tLstL ts) y Q := wE_lstL w
theorem xE_dnewL (q : ∀ p, Q (.lab p) ⟨y.l, y.m ++ [⟨p, true, .dic []⟩]⟩) : wE C tDNewL y Q := wE_dnewL q
theorem xE_ixZ (w : wE C ta y fun z y1 => wE C tb y1 fun z' y2 => ∃ zs i u, seqZ z = some zs ∧ z' = .d (.int i) ∧ atI zs i = some u ∧ Q u y2) : wE C (tOp (rIxZ C.K) ta tb) y Q := wE_ixZ w
theorem xE_catZ (w : wE C ta y fun z y1 => wE C tb y1 fun z' y2 => ∃ xs zs, lstZ z = some xs ∧ lstZ z' = some zs ∧ xs.length + zs.length ≤ sizeLine ∧ Q (.lst (xs ++ zs)) y2) : wE C (tOp (rCatZ C.K) ta tb) y Q := wE_catZ w
end
end Ux

set_option maxRecDepth 100000
set_option maxHeartbeats 4000000
namespace Ux
open PySem PySem.Spec PyProof.Rows L2 Tq
/-! ### odd things that may grow -/
abbrev sev (k : Nat) : List D := List.replicate k (.int 7)
inductive OT (P : D → Bool) (k : Nat) : Z → List Cl → D → Prop
  | pl (d : D) (h1 : isT "list" d = false) (h2 : ShOk d) (h3 : P d = false) : OT P k (.d d) [] d
  | ls (a : Addr) (ds : List D) (h : ∀ j ≤ 4, ShOk (.list (ds ++ sev j))) (h3 : ∀ xs, P (.list xs) = false) (h4 : ds.length ≤ 10) : OT P k (.lab a) [⟨a, true, .lst ((ds ++ sev k).map Z.d)⟩] (.list (ds ++ sev k))
  | dc (a : Addr) (h3 : ∀ xs, P (.dict xs) = false) : OT P k (.lab a) [⟨a, true, .dic []⟩] (.dict [])
theorem OT.no {P : D → Bool} {k : Nat} {z : Z} {m : List Cl} {d : D} (h : OT P k z m d) : P d = false := by
  cases h with
  | pl h1 h2 h3 => assumption
  | ls _ _ _ h3 _ => exact h3 _
  | dc _ h3 => exact h3 _
theorem sh_dict0 : ShOk (.dict []) := ⟨by decide +kernel, by decide +kernel, by decide +kernel, by decide +kernel⟩
theorem OT.sh {P : D → Bool} {k : Nat} {z : Z} {m : List Cl} {d : D} (h : OT P k z m d) (hk : k ≤ 4) : ShOk d := by
  cases h with
  | pl h1 h2 h3 => assumption
  | ls _ _ h _ _ => exact h k hk
  | dc _ _ => exact sh_dict0
theorem OT.res {P : D → Bool} {k : Nat} {z : Z} {m n : List Cl} {d : D} (h : OT P k z m d) (hs : m ⊆ n) : Res n z d := by
  cases h with
  | pl h1 h2 h3 => exact .d _
  | ls a ds _ _ _ => exact .lab (e := ⟨a, true, .lst ((ds ++ sev k).map Z.d)⟩) (hs List.mem_cons_self) (.lst _)
  | dc a _ => exact .lab (e := ⟨a, true, .dic []⟩) (hs List.mem_cons_self) (.dic [])
end Ux
namespace Ux
open PySem PySem.Spec PyProof.Rows L2 Tq
theorem ixZ_any {zs0 : List Z} {r : Int} {R : Z → Prop} (h0 : 0 ≤ r) (h1 : r < zs0.length) (h : ∀ u ∈ zs0, R u) : ∃ zs i u, seqZ (.lst zs0) = some zs ∧ Z.d (.int r) = Z.d (.int i) ∧ atI zs i = some u ∧ R u := by
  obtain ⟨u, hu, hm⟩ := atI_mem (xs := zs0) h0 h1
  exact ⟨_, _, u, rfl, rfl, hu, h u hm⟩
end Ux
namespace Ux
open PySem PySem.Spec PyProof.Rows L2 Tq
def shB (d : D) : Bool := dsm d && d.showable && decide (d.depth ≤ 60) && decide (d.shown.length ≤ sizeLine)
theorem shB_ok {d : D} (h : shB d = true) : ShOk d := by
  unfold shB at h
  rw [Bool.and_eq_true, Bool.and_eq_true, Bool.and_eq_true] at h
  exact ⟨h.1.1.1, h.1.1.2, of_decide_eq_true h.1.2, of_decide_eq_true h.2⟩
end Ux

namespace Ux
end Ux
namespace Ux
end Ux
namespace Ux
open PySem PySem.Spec PyProof.Rows L2 Tq
theorem ixD_any {ds : List D} {r : Int} {R : D → Prop} (h0 : 0 ≤ r) (h1 : r < ds.length) (h : ∀ n ∈ ds, R n) : ∃ d i g, Z.d (.list ds) = Z.d d ∧ Z.d (.int r) = Z.d (.int i) ∧ dIx d i = some g ∧ R g := by
  obtain ⟨u, hu, hm⟩ := atI_mem (xs := ds) h0 h1
  exact ⟨_, _, u, rfl, rfl, hu, h u hm⟩
end Ux

set_option maxRecDepth 100000
set_option maxHeartbeats 4000000
namespace Ux
open PySem PySem.Spec PyProof.Rows L2 Tq
/-! ### isinstance(e, C) of the exception that a suite holds -/
def rIsX (K : Fg) (cls : Value) (d : Option Addr) (D a : Addr) : List V → Hp → VK → Prop := fun xs H Q => ∃ (T dd : Addr) (fs : List (Str × V)) (b : Bool), cls = .ref D ∧ d = some dd ∧ H dd = some (.xd fs) ∧ xs = [.ref a, .ref T] ∧ PySem.W.kitOne K (.ref D) (.ref T) = some b ∧ Q (.bl b) H
theorem call_isX {X : Cx} {a D : Addr} {oe : Obj} {cls : Value} {d : Option Addr} {pn : List (Addr × Obj)} (C : ExcC X.K D) (hz : Zc cls d oe) (hf : ∃ vs, oe.data = .fields vs) : CallR (X.suite a ((a, oe) :: pn)) (.builtin "isinstance") (rIsX X.K cls d D a) := by
  intro pins s σ H xs us Q I r h
  obtain ⟨T, dd, fs, b, rfl, rfl, hdd, rfl, e, q⟩ := h
  cases r with
  | cons rx rr =>
    cases rr with
    | cons rt rr =>
      cases rr
      cases rx
      cases rt
      obtain ⟨hget, _⟩ := I.pin (a, oe) (List.mem_append.mpr (.inl List.mem_cons_self))
      obtain ⟨vs, hv⟩ := hf
      have hx : ObjOk X.prog X.w H s.heap dd (.xd fs) := I.hok dd _ hdd
      obtain ⟨mA, hns, hr⟩ := hx
      obtain ⟨od, ho, hl⟩ := lookIn_ns hns
      have J : PySem.W.InstAt s.heap a oe D (some od) := ⟨hget, hz.1, by unfold PySem.W.notCls; rw [hv] <;> rfl, by rw [hz.2]; exact ho⟩
      have hcl : (PySem.W.clsIn X.K D).isSome = true := by
        obtain ⟨cdD, hcD, _⟩ := PySem.W.any_some C.hd
        rw [hcD]; rfl
      exact PySem.W.kia_one (PySem.W.kitx_exc hcl C.hg C.hk C.hs C.ha C.hn C.ht C.hm) I.kIn J e (fun z => nomatch z) fun tk => ⟨.bl b, H, I.kept (t' := tk) fun _ _ z => z, rfl, q⟩
def tIsX (K : Fg) (cls : Value) (d : Option Addr) (D a T : Addr) (te : TE) : TE := tCB (rIsX K cls d D a) (tCons te (tCons (tC (.ref T)) tNil))
theorem wE_isX {C : Ct} {y : S} {Q : Z → S → Prop} {a dd D T : Addr} {i : Nat} {z : Z} {cls : Value} {b : Bool} (hk : PySem.W.kitOne C.K (.ref D) (.ref T) = some b) (hc : cls = .ref D) (hi : y.l[i]? = some (some (.exc a dd z))) (q : Q (.d (.bool b)) y) : wE C (tIsX C.K cls (some dd) D a T (tVar i)) y Q := by
  intro F σ H K wd k
  obtain ⟨x, h1, h2⟩ := wd.slot i _ hi
  cases h2 with
  | @exc _ _ v _ n c1 c2 => exact ⟨.ref a, h1, T, dd, _, b, hc, rfl, c1, rfl, hk, k _ H (.d (.bool b)) y wd GoH.refl (Sh.refl y) (.bl b) q⟩
/-! ### is True -/
section
variable {C : Ct} {y : S} {ta tb : TE} {Q : Z → S → Prop}
theorem wE_isB (w : wE C ta y fun z y1 => wE C tb y1 fun z' y2 => ∃ a b, z = .d (.bool a) ∧ z' = .d (.bool b) ∧ Q (.d (.bool (decide (a = b)))) y2) : wE C (tOp rIsB ta tb) y Q := by
  refine wE_op (res := fun d e r => ∃ a b, d = .bool a ∧ e = .bool b ∧ r = .bool (decide (a = b))) ?_ (wE_mono w fun z y1 h => wE_mono h fun z' y2 ⟨a, b, e1, e2, q⟩ => ⟨_, _, _, e1, e2, ⟨a, b, rfl, rfl, rfl⟩, q⟩)
  rintro M H x u d e r Q _ rx ru ⟨a, b, rfl, rfl, rfl⟩ k
  exact ⟨a, b, rp_bl rx, rp_bl ru, k _ H (fun _ _ e => e) (.bl _)⟩
theorem wE_notB (w : wE C ta y fun z y1 => wE C tb y1 fun z' y2 => ∃ a b, z = .d (.bool a) ∧ z' = .d (.bool b) ∧ Q (.d (.bool (!decide (a = b)))) y2) : wE C (tOp rNotB ta tb) y Q := by
  refine wE_op (res := fun d e r => ∃ a b, d = .bool a ∧ e = .bool b ∧ r = .bool (!decide (a = b))) ?_ (wE_mono w fun z y1 h => wE_mono h fun z' y2 ⟨a, b, e1, e2, q⟩ => ⟨_, _, _, e1, e2, ⟨a, b, rfl, rfl, rfl⟩, q⟩)
  rintro M H x u d e r Q _ rx ru ⟨a, b, rfl, rfl, rfl⟩ k
  exact ⟨a, b, rp_bl rx, rp_bl ru, k _ H (fun _ _ e => e) (.bl _)⟩
end
end Ux
namespace Ux
open PySem PySem.Spec PyProof.Rows L2 Tq
/-! ### d[k] = v -/
theorem RwK.len {K : Fg} {M : Addr → Prop} {H : Hp} : ∀ {vs : List (Key × V)} {zs : List (Key × Z)}, RwK K M H vs zs → vs.length = zs.length
  | _, _, .nil => rfl
  | _, _, .cons _ b => congrArg (· + 1) b.len
theorem RwK.snoc {K : Fg} {M : Addr → Prop} {H : Hp} {k : Key} {v : V} {z : Z} (r : Rw K M H v z) : ∀ {vs : List (Key × V)} {zs : List (Key × Z)}, RwK K M H vs zs → RwK K M H (vs ++ [(k, v)]) (zs ++ [(k, z)])
  | _, _, .nil => .cons r .nil
  | _, _, .cons a b => .cons a (b.snoc r)
end Ux
namespace Ux
open PySem PySem.Spec PyProof.Rows L2 Tq
def putZ (kvs : List (Key × Z)) (k : Key) (z : Z) : List (Key × Z) :=
  if (kvs.any fun kv => decide (kv.1 = k)) = true then kvs.map (fun kv => if kv.1 = k then (kv.1, z) else kv) else kvs ++ [(k, z)]
def putKD (kvs : List (Key × D)) (k : Key) (d : D) : List (Key × D) :=
  if (kvs.any fun kv => decide (kv.1 = k)) = true then kvs.map (fun kv => if kv.1 = k then (kv.1, d) else kv) else kvs ++ [(k, d)]
theorem rwk_map {K : Fg} {M : Addr → Prop} {H : Hp} {k : Key} {v : V} {z : Z} (r : Rw K M H v z) : ∀ {vs : List (Key × V)} {zs : List (Key × Z)}, RwK K M H vs zs → RwK K M H (vs.map fun kv => if kv.1 = k then (kv.1, v) else kv) (zs.map fun kv => if kv.1 = k then (kv.1, z) else kv)
  | _, _, .nil => .nil
  | (j, _) :: _, _, .cons a b => by
    rw [List.map_cons, List.map_cons]
    by_cases h : j = k
    · rw [if_pos (show (j, _).1 = k from h), if_pos (show (j, _).1 = k from h)]; exact .cons r (rwk_map r b)
    · rw [if_neg (show ¬ (j, _).1 = k from h), if_neg (show ¬ (j, _).1 = k from h)]; exact .cons a (rwk_map r b)
theorem rwk_any {K : Fg} {M : Addr → Prop} {H : Hp} {k : Key} : ∀ {vs : List (Key × V)} {zs : List (Key × Z)}, RwK K M H vs zs → (vs.any fun kv => decide (kv.1 = k)) = (zs.any fun kv => decide (kv.1 = k))
  | _, _, .nil => rfl
  | _, _, .cons _ b => by rw [List.any_cons, List.any_cons, rwk_any b]
theorem RwK.put {K : Fg} {M : Addr → Prop} {H : Hp} {k : Key} {v : V} {z : Z} (r : Rw K M H v z) {vs : List (Key × V)} {zs : List (Key × Z)} (h : RwK K M H vs zs) : RwK K M H (putK vs k v) (putZ zs k z) := by
  unfold putK putZ
  rw [rwk_any h]
  split
  · exact rwk_map r h
  · exact h.snoc r
theorem put_kvD (kvs : List (Key × D)) (k : Key) (d : D) : putZ (kvD kvs) k (.d d) = kvD (putKD kvs k d) := by
  unfold putZ putKD kvD
  rw [List.any_map]
  show (if (kvs.any fun kv => decide (kv.1 = k)) = true then _ else _) = _
  split
  · rw [List.map_map, List.map_map]
    congr 1
    funext kv
    show (if kv.1 = k then (kv.1, Z.d d) else (kv.1, Z.d kv.2)) = ((if kv.1 = k then (kv.1, d) else kv).1, Z.d (if kv.1 = k then (kv.1, d) else kv).2)
    split <;> rfl
  · rw [List.map_append]; rfl
/-- x[k] = e, x a dict of the store -/
theorem wS_dput {C : Ct} {y : S} {te : TE} {e : En} {i j : Nat} {a : Addr} {b : Bool} {kk : Key} (hi : y.l[i]? = some (some (.lab a))) (w : wE C te y fun z y1 => y1.l[i]? = some (some (.lab a)) ∧ ∃ kvs, y1.m[j]? = some ⟨a, b, .dic kvs⟩ ∧ kvs.length < sizeLine ∧ e.nx ⟨y1.l, y1.m.set j ⟨a, b, .dic (putZ kvs kk z)⟩⟩) :
    wS C (tAsg te (gSub (tVar i) (tC (kV kk)) rSetD)) y e := by
  intro F σ H E st wd k
  refine w F σ H _ wd fun v H1 z y1 w1 g1 s1 r1 ⟨hi1, kvs, hj1, hz, q⟩ => ?_
  obtain ⟨x, h1, h2⟩ := w1.slot i _ hi1
  cases h2
  obtain ⟨ks, c1, c2⟩ := (w1.cell _ (List.mem_of_getElem? hj1) : CellOk C.K (Mv F σ y1) H1 a (.dic kvs))
  refine ⟨.ref a, h1, a, _, rfl, DPut.k c1 (by rw [c2.len]; exact hz), ?_⟩
  obtain ⟨w2, g2, s2⟩ := w1.cmut (H' := upd H1 a (.dK (putK ks kk v))) (c' := .dic (putZ kvs kk z)) hj1 rfl rfl (fun b o n e => by rw [upd_ne n]; exact e) fun M _ g => ⟨_, upd_same, (c2.go g).put (r1.w.go g)⟩
  exact k.nx _ _ _ w2 (g1.trans g2) q
/-! ### odd things, handed on as they are -/
inductive Cont where
  | pl (d : D)
  | ls (ds : List D)
  | dc (kvs : List (Key × D))
def Cont.dat : Cont → D
  | .pl d => d
  | .ls ds => .list ds
  | .dc kvs => dD kvs
def Cont.gr : Cont → Cont
  | .pl d => .pl d
  | .ls ds => .ls (ds ++ [.str "more"])
  | .dc kvs => .dc (putKD kvs (.inr "more") (.int 1))
def Cont.len : Cont → Nat
  | .pl _ => 0
  | .ls ds => ds.length
  | .dc kvs => kvs.length
def Cont.plain : Cont → Bool
  | .pl d => !isT "list" d && !isT "dict" d
  | _ => true
inductive Th : Z → List (Addr × Cell) → Cont → Prop
  | pl (d : D) : Th (.d d) [] (.pl d)
  | ls (a : Addr) (ds : List D) : Th (.lab a) [(a, .lst (ds.map Z.d))] (.ls ds)
  | dc (a : Addr) (kvs : List (Key × D)) : Th (.lab a) [(a, .dic (kvD kvs))] (.dc kvs)
def toCl (b : Bool) (nw : List (Addr × Cell)) : List Cl := nw.map fun e => ⟨e.1, b, e.2⟩
theorem Th.res {z : Z} {nw : List (Addr × Cell)} {c : Cont} {b : Bool} {m : List Cl} (h : Th z nw c) (hs : toCl b nw ⊆ m) : Res m z c.dat := by
  cases h with
  | pl d => exact .d _
  | ls a ds => exact .lab (e := ⟨a, b, .lst (ds.map Z.d)⟩) (hs List.mem_cons_self) (.lst _)
  | dc a kvs => exact .lab (e := ⟨a, b, .dic (kvD kvs)⟩) (hs List.mem_cons_self) (.dic _)
/-- a draw that hands out a thing, new where it may change -/
def oSp (K : Fg) (cost : Nat) (post : Z → List (Addr × Cell) → Prop) : Sp := fun vs H Q _ => ∃ (M : Addr → Prop) (p : Addr) (m : Nat), vs = [.ref p] ∧ M p ∧ (∀ a, M a → H a ≠ none) ∧ PuOk H p m ∧ cost ≤ m ∧
  ∀ z nw v H', post z nw → (∀ a o, a ≠ p → H a = some o → H' a = some o) → PuOk H' p (m - cost) → (∀ e ∈ nw, H e.1 = none) → (nw.Pairwise fun e e' => e.1 ≠ e'.1) →
    (∀ e ∈ nw, CellOk K (fun a => M a ∨ ∃ e ∈ nw, e.1 = a) H' e.1 e.2) → Rw K (fun a => M a ∨ ∃ e ∈ nw, e.1 = a) H' v z → Q v H'
theorem oSp_len {K : Fg} {cost : Nat} {post : Z → List (Addr × Cell) → Prop} {x : Str} : ∀ vs H Q E, oSp K cost post vs H Q E → vs.length = [x].length := by
  rintro vs H Q E ⟨M, p, m, rfl, _⟩
  rfl
theorem o_body {K : Fg} {N : List Str} {t : TS} {vs : List V} {H : Hp} {Q : VK} {E : XK} {cost : Nat} {post : Z → List (Addr × Cell) → Prop} (h : oSp K cost post vs H Q E)
    (b : ∀ p m, cost ≤ m → ∀ e : En, (∀ z nw k y, post z nw → (∀ e ∈ nw, e.2.isRo = false) → (⟨p, false, .pu k⟩ :: toCl true nw).Sublist y.m → m - cost ≤ k → e.rt z y) → wS { K := K } t ⟨l0 N [.lab p], [⟨p, false, .pu m⟩]⟩ e) : t { nx := fun _ G => Q .non G, rt := Q } (start N vs) H := by
  obtain ⟨M, p, m, rfl, mp, al, pk, hc, k⟩ := h
  have rr : RwA K M H [.ref p] [.lab p] := .cons (.lab p) .nil
  have hM : ∀ {a : Addr}, Mv ⟨H, fun a => a = p, M, true⟩ (start N [.ref p]) ⟨l0 N [.lab p], [⟨p, false, .pu m⟩]⟩ a → M a := fun {a} z => z.elim (fun z => z) fun ⟨e, q1, q2⟩ => by
    rw [List.mem_singleton] at q1; subst q1; exact q2 ▸ mp
  refine b p m hc { nx := fun _ => False, rt := fun z y => ∃ nw k, post z nw ∧ (∀ e ∈ nw, e.2.isRo = false) ∧ (⟨p, false, .pu k⟩ :: toCl true nw).Sublist y.m ∧ m - cost ≤ k }
    (fun z nw k y q1 q0 q2 q3 => ⟨nw, k, q1, q0, q2, q3⟩) ⟨H, fun a => a = p, M, true⟩ (start N [.ref p]) H _ rfl
    ⟨⟨fun a o _ e => e, al, al, l0_len rr, fun i z e => ?_, fun e he => ?_, List.pairwise_singleton _ _, fun e he _ => ?_, fun a z => (show a = p from z) ▸ mp, fun _ e he ho => ?_⟩, fun _ _ _ _ _ _ _ _ _ z => z.elim⟩
    ⟨fun _ _ _ _ _ q => q.elim, fun σ' v H' z y' w g rz q => ?_, fun _ _ _ _ _ q => q.elim, fun _ _ _ _ _ q => q.elim⟩
  · obtain ⟨x, h1, h2⟩ := l0_slot rr e
    exact ⟨x, h1, h2.go fun a o na e => ⟨fun z => na (hM z), e⟩⟩
  · rw [List.mem_singleton] at he; subst he; exact pk
  · rw [List.mem_singleton] at he; subst he; exact .inl rfl
  · rw [List.mem_singleton] at he; subst he; cases ho
  · obtain ⟨nw, kk, q1, q0, q2, q3⟩ := q
    have mem : ∀ e ∈ nw, (⟨e.1, true, e.2⟩ : Cl) ∈ y'.m := fun e he => q2.subset (List.mem_cons_of_mem _ (List.mem_map.mpr ⟨e, he, rfl⟩))
    have gM : GoH (Mv ⟨H, fun a => a = p, M, true⟩ σ' y') H' (fun a => M a ∨ ∃ e ∈ nw, e.1 = a) H' := fun a o n e => ⟨fun z => n (z.elim .inl fun ⟨e', h1, h2⟩ => .inr ⟨_, mem e' h1, h2⟩), e⟩
    refine k z nw v H' q1 (fun a o n e => w.keep a o n e) (PuOk.mono (w.cell _ (q2.subset List.mem_cons_self)) q3) (fun e he => ?_) ?_ (fun e he => (w.cell _ (mem e he)).go gM fun _ q => q) (rz.w.go gM)
    · rcases w.frsh _ (mem e he) (q0 e he) with q | q
      · exact absurd q (w.nb rfl _ (mem e he) rfl)
      · exact q
    · have := w.dist.sublist ((List.sublist_cons_self _ _).trans q2)
      unfold toCl at this
      rw [List.pairwise_map] at this
      exact this
end Ux

namespace Ux
open PySem PySem.Spec PyProof.Rows L2 Tq
theorem Th.ro {z : Z} {nw : List (Addr × Cell)} {c : Cont} (h : Th z nw c) : ∀ e ∈ nw, e.2.isRo = false := by
  cases h with
  | pl d => intro e he; cases he
  | ls a ds => intro e he; rw [List.mem_singleton] at he; subst he; rfl
  | dc a kvs => intro e he; rw [List.mem_singleton] at he; subst he; rfl
/-- the call of such a draw -/
theorem wE_odd {C : Ct} {y : S} {E : XK} {cost : Nat} {post : Z → List (Addr × Cell) → Prop} {Q : Z → S → Prop} {i j : Nat} {p : Addr} {b : Bool} {m0 : Nat} (hi : y.l[i]? = some (some (.lab p))) (hj : y.m[j]? = some ⟨p, b, .pu m0⟩) (hm : cost ≤ m0)
    (q : ∀ z nw, post z nw → Q z ⟨y.l, y.m.set j ⟨p, b, .pu (m0 - cost)⟩ ++ toCl true nw⟩) : wE C (tCall (oSp C.K cost post) [] E (tCons (tVar i) tNil)) y Q := by
  intro F σ H K wd k
  obtain ⟨x, h1, h2⟩ := wd.slot i _ hi
  cases h2
  have hmm : (⟨p, b, .pu m0⟩ : Cl) ∈ y.m := List.mem_of_getElem? hj
  refine ⟨.ref p, h1, ?_⟩
  show oSp C.K cost post ([.ref p] ++ []) H K E
  rw [List.append_nil]
  refine ⟨Mv F σ y, p, m0, rfl, .inr ⟨_, hmm, rfl⟩, fun a m e => wd.new e m, wd.cell _ hmm, hm, fun z nw v H' hp kp pk fr pw cs rv => ?_⟩
  have pd : DomW y.m p := ⟨_, hmm, rfl, rfl⟩
  have lvp : H' p ≠ none := by
    obtain ⟨x, b, c, e, _⟩ := pk
    rw [e]; simp
  have inset : ∀ e ∈ y.m.set j ⟨p, b, .pu (m0 - cost)⟩, e.a = p → e = ⟨p, b, .pu (m0 - cost)⟩ := fun e he hq => by
    obtain ⟨i', hi'⟩ := List.getElem?_of_mem he
    have pws := pw_set wd.dist hj (e' := ⟨p, b, .pu (m0 - cost)⟩) rfl
    obtain ⟨hl, _⟩ := List.getElem?_eq_some_iff.mp hj
    have hjj : (y.m.set j ⟨p, b, .pu (m0 - cost)⟩)[j]? = some ⟨p, b, .pu (m0 - cost)⟩ := List.getElem?_set_self hl
    by_cases n : i' = j
    · subst n; rw [hjj] at hi'; cases hi'; rfl
    · exfalso
      rw [List.pairwise_iff_getElem] at pws
      obtain ⟨hi1, hi2⟩ := List.getElem?_eq_some_iff.mp hi'
      obtain ⟨hj1, hj2⟩ := List.getElem?_eq_some_iff.mp hjj
      rcases Nat.lt_or_gt_of_ne n with n | n
      · have := pws i' j hi1 hj1 n; rw [hi2, hj2] at this; exact this hq
      · have := pws j i' hj1 hi1 n; rw [hi2, hj2] at this; exact this hq.symm
  have old : ∀ e ∈ y.m.set j ⟨p, b, .pu (m0 - cost)⟩, ∃ e0 ∈ y.m, e0.a = e.a ∧ (e.own = true → e0.own = true) ∧ (e.c.isRo = false → e0.c.isRo = false) := fun e he => by
    rcases mem_set_or he with he | he
    · subst he; exact ⟨_, hmm, rfl, fun z => z, fun _ => rfl⟩
    · exact ⟨e, he, rfl, fun z => z, fun z => z⟩
  have key := wd.store (m := y.m.set j ⟨p, b, .pu (m0 - cost)⟩ ++ toCl true nw) (H' := H') (fun a o n e => kp a o (fun z => n (z ▸ pd)) e)
    (fun a ⟨e, h1, h2⟩ z => by
      by_cases ha : a = p
      · exact lvp (ha ▸ z)
      · cases r : H a with
        | none => exact (wd.cell e h1).live (h2 ▸ r)
        | some o => rw [kp a o ha r] at z; cases z)
    (fun e he => by
      rcases List.mem_append.mp he with he | he
      · exact .inl (old e he)
      · obtain ⟨e', h1, rfl⟩ := List.mem_map.mp he
        exact .inr (fr e' h1))
    (by
      rw [List.pairwise_append]
      refine ⟨pw_set wd.dist hj rfl, by unfold toCl; rw [List.pairwise_map]; exact pw, fun e he e2 he2 z => ?_⟩
      obtain ⟨e', h1', rfl⟩ := List.mem_map.mp he2
      obtain ⟨e0, q1, q2, _⟩ := old e he
      exact (wd.cell e0 q1).live (by rw [q2, z]; exact fr e' h1'))
    (fun g e he => by
      rcases List.mem_append.mp he with he | he
      · by_cases hq : e.a = p
        · rw [inset e he hq]; exact pk
        · rcases mem_set_or he with he | he
          · subst he; exact absurd rfl hq
          · exact (wd.cell e he).go g fun o r => kp _ _ hq r
      · obtain ⟨e', h1', rfl⟩ := List.mem_map.mp he
        refine (cs e' h1').go (fun a o n e => ⟨fun z => n ?_, e⟩) fun _ r => r
        rcases z with z | ⟨e2, h2, h3⟩
        · exact .inl (.inl z)
        · rcases List.mem_append.mp h2 with h2 | h2
          · obtain ⟨e0, q1, q2, _⟩ := old e2 h2
            exact .inl (.inr ⟨e0, q1, q2.trans h3⟩)
          · obtain ⟨e3, h4, rfl⟩ := List.mem_map.mp h2
            exact .inr ⟨e3, h4, h3⟩)
  refine k v H' z _ key.1 key.2 ⟨rfl, toCl true nw, ?_⟩ (Rw.z (rv.go fun a o n e => ⟨fun z => n ?_, e⟩)) (q z nw hp)
  · show ao (y.m.set j ⟨p, b, .pu (m0 - cost)⟩ ++ toCl true nw) = ao y.m ++ ao (toCl true nw)
    unfold ao
    rw [List.map_append]
    congr 1
    apply List.ext_getElem?
    intro i'
    by_cases n : i' = j
    · subst n
      obtain ⟨hl, _⟩ := List.getElem?_eq_some_iff.mp hj
      rw [List.getElem?_map, List.getElem?_map, List.getElem?_set_self hl, hj]
      rfl
    · rw [List.getElem?_map, List.getElem?_map, List.getElem?_set_ne (Ne.symm n)]
  · rcases z with z | ⟨e2, h2, h3⟩
    · exact .inl (.inl z)
    · rcases List.mem_append.mp h2 with h2 | h2
      · obtain ⟨e0, q1, q2, _⟩ := old e2 h2
        exact .inl (.inr ⟨e0, q1, q2.trans h3⟩)
      · obtain ⟨e3, h4, rfl⟩ := List.mem_map.mp h2
        exact .inr ⟨e3, h4, h3⟩
end Ux
namespace Ux
open PySem PySem.Spec PyProof.Rows L2 Tq
/-! ### the very same thing: it grows, and is shown alike -/
structure VOk (c : Cont) : Prop where
  pl : c.plain = true
  ln : c.len < 1000
  sh : ShOk c.gr.dat
def vSp (K : Fg) : Sp := fun vs H Q _ => ∃ (M : Addr → Prop) (z : Z) (nw : List (Addr × Cell)) (c : Cont) (v v' : V), vs = [v, v'] ∧ (∀ a, M a → H a ≠ none) ∧ (∀ e ∈ nw, M e.1 ∧ CellOk K M H e.1 e.2) ∧ Rw K M H v z ∧ Rw K M H v' z ∧ Th z nw c ∧ VOk c ∧
  ∀ nw' H', Th z nw' c.gr → (∀ a o, (∀ e ∈ nw, e.1 ≠ a) → H a = some o → H' a = some o) → (∀ e ∈ nw', CellOk K M H' e.1 e.2) → Q (.bl true) H'
theorem vSp_len {K : Fg} {x y : Str} : ∀ vs H Q E, vSp K vs H Q E → vs.length = [x, y].length := by
  rintro vs H Q E ⟨M, z, nw, c, v, v', rfl, _⟩
  rfl
theorem very_body {K : Fg} {N : List Str} {t : TS} {vs : List V} {H : Hp} {Q : VK} {E : XK} (h : vSp K vs H Q E)
    (b : ∀ z nw c, Th z nw c → VOk c → ∀ e : En, (∀ nw' y, Th z nw' c.gr → toCl false nw' ⊆ y.m → e.rt (.d (.bool true)) y) → wS { K := K } t ⟨l0 N [z, z], toCl false nw⟩ e) : t { nx := fun _ G => Q .non G, rt := Q } (start N vs) H := by
  obtain ⟨M, z, nw, c, v, v', rfl, al, cs, r1, r2, th, vo, k⟩ := h
  have rr : RwA K M H [v, v'] [z, z] := .cons r1 (.cons r2 .nil)
  have hM : ∀ {a : Addr}, Mv ⟨H, fun a => ∃ e ∈ nw, e.1 = a, M, true⟩ (start N [v, v']) ⟨l0 N [z, z], toCl false nw⟩ a → M a := fun {a} q => q.elim (fun q => q) fun ⟨e, q1, q2⟩ => by
    obtain ⟨e', q3, rfl⟩ := List.mem_map.mp q1
    exact q2 ▸ (cs e' q3).1
  have gM : GoH M H (Mv ⟨H, fun a => ∃ e ∈ nw, e.1 = a, M, true⟩ (start N [v, v']) ⟨l0 N [z, z], toCl false nw⟩) H := fun a o na e => ⟨fun q => na (hM q), e⟩
  refine b z nw c th vo { nx := fun _ => False, rt := fun u y => u = .d (.bool true) ∧ ∃ nw', Th z nw' c.gr ∧ toCl false nw' ⊆ y.m }
    (fun nw' y q1 q2 => ⟨rfl, nw', q1, q2⟩) ⟨H, fun a => ∃ e ∈ nw, e.1 = a, M, true⟩ (start N [v, v']) H _ rfl
    ⟨⟨fun a o _ e => e, al, al, l0_len rr, fun i u e => ?_, fun e he => ?_, ?_, fun e he _ => ?_, fun a ⟨e, q1, q2⟩ => q2 ▸ (cs e q1).1, fun _ e he ho => ?_⟩, fun _ _ _ _ _ _ _ _ _ q => q.elim⟩
    ⟨fun _ _ _ _ _ q => q.elim, fun σ' u H' z' y' w g rz q => ?_, fun _ _ _ _ _ q => q.elim, fun _ _ _ _ _ q => q.elim⟩
  · obtain ⟨x, h1, h2⟩ := l0_slot rr e
    exact ⟨x, h1, h2.go gM⟩
  · obtain ⟨e', q3, rfl⟩ := List.mem_map.mp he
    exact (cs e' q3).2.go gM fun _ q => q
  · cases th with
    | pl d => exact List.Pairwise.nil
    | ls a ds => exact List.pairwise_singleton _ _
    | dc a kvs => exact List.pairwise_singleton _ _
  · obtain ⟨e', q3, rfl⟩ := List.mem_map.mp he
    exact .inl ⟨e', q3, rfl⟩
  · obtain ⟨e', q3, rfl⟩ := List.mem_map.mp he
    cases ho
  · obtain ⟨rfl, nw', q1, q2⟩ := q
    have e := rp_bl rz
    subst e
    exact k nw' H' q1 (fun a o n e => w.keep a o (fun ⟨e', h1, h2⟩ => n e' h1 h2) e) fun e he => (w.cell _ (q2 (List.mem_map.mpr ⟨e, he, rfl⟩))).go (fun a o n e => ⟨fun q => n (.inl q), e⟩) fun _ q => q
def setN (m : List Cl) (j : Nat) (b : Bool) : List (Addr × Cell) → List Cl
  | [] => m
  | (a, c) :: _ => m.set j ⟨a, b, c⟩
theorem wE_very {C : Ct} {y : S} {ts : TA} {E : XK} {Q : Z → S → Prop} (w : wZ C ts y fun zs y1 => ∃ z nw c j b, zs = [z, z] ∧ Th z nw c ∧ VOk c ∧ (∀ e ∈ nw, y1.m[j]? = some ⟨e.1, b, e.2⟩) ∧ ∀ nw', Th z nw' c.gr → Q (.d (.bool true)) ⟨y1.l, setN y1.m j b nw'⟩) :
    wE C (tCall (vSp C.K) [] E ts) y Q := by
  intro F σ H K wd k
  refine w F σ H _ wd fun vs H1 zs y1 w1 g1 s1 r1 ⟨z, nw, c, j, b, ez, th, vo, hj, q⟩ => ?_
  subst ez
  cases r1 with | @cons v _ vs _ rv r2 =>
  cases r2 with | @cons v2 _ vs2 _ rv2 r3 =>
  cases r3
  refine ⟨Mv F σ y1, z, nw, c, v, v2, rfl, fun a m e => w1.new e m, fun e he => ?_, rv, rv2, th, vo, fun nw' H' th' kp cs => ?_⟩
  · have hm := List.mem_of_getElem? (hj e he)
    exact ⟨.inr ⟨_, hm, rfl⟩, w1.cell _ hm⟩
  · cases th with
    | pl d =>
      cases th' with
      | pl _ =>
        have gr : ∀ a o, H1 a = some o → H' a = some o := fun a o e => kp a o (fun _ z => nomatch z) e
        exact k _ H' (.d (.bool true)) y1 (w1.grow gr) (g1.trans (go_grow gr)) s1 (.bl true) (q [] (.pl d))
    | ls a ds =>
      cases th' with
      | ls _ ds' =>
        have hc := cs _ List.mem_cons_self
        obtain ⟨w2, g2, s2⟩ := w1.cmut (H' := H') (c' := .lst ((ds ++ [PyData.str "more"]).map Z.d)) (hj _ List.mem_cons_self) rfl rfl (fun x o n e => kp x o (fun e' he => by rw [List.mem_singleton] at he; subst he; exact fun z => n z.symm) e)
          fun M sb g => hc.go (fun a o n e => ⟨fun z => n (sb a z), e⟩) fun _ r => r
        exact k _ H' (.d (.bool true)) _ w2 (g1.trans g2) (s1.trans s2) (.bl true) (q _ (.ls a _))
    | dc a kvs =>
      cases th' with
      | dc _ kvs' =>
        have hc := cs _ List.mem_cons_self
        obtain ⟨w2, g2, s2⟩ := w1.cmut (H' := H') (c' := .dic (kvD (putKD kvs (.inr "more") (.int 1)))) (hj _ List.mem_cons_self) rfl rfl (fun x o n e => kp x o (fun e' he => by rw [List.mem_singleton] at he; subst he; exact fun z => n z.symm) e)
          fun M sb g => hc.go (fun a o n e => ⟨fun z => n (sb a z), e⟩) fun _ r => r
        exact k _ H' (.d (.bool true)) _ w2 (g1.trans g2) (s1.trans s2) (.bl true) (q _ (.dc a _))
end Ux
namespace Ux
open PySem PySem.Spec PyProof.Rows L2 Tq
theorem zX {X : Cx} {e : Expr} {K : Fg} {cls : Value} {d : Option Addr} {D a T : Addr} {te : TE} (h : PE X e (tCB (rIsX K cls d D a) (tCons te (tCons (tC (.ref T)) tNil)))) : PE X e (tIsX K cls d D a T te) := h
def tDispL : List (TE × TE) → TE := tDisp
theorem zD {X : Cx} {e : Expr} {l : List (TE × TE)} (h : PE X e (tDisp l)) : PE X e (tDispL l) := h
section
variable {C : Ct} {y : S} {Q : Z → S → Prop}
theorem xE_dispS {k : Str} {v : V} {d : D} (s : Sc v d) (q : ∀ p, Q (.lab p) ⟨y.l, y.m ++ [⟨p, true, .dic [(.inr k, .d d)]⟩]⟩) : wE C (tDispL [(tC (.str k), tC v)]) y Q := wE_dispL (kk := .inr k) s q
theorem xE_dispI {k : Int} {v : V} {d : D} (s : Sc v d) (q : ∀ p, Q (.lab p) ⟨y.l, y.m ++ [⟨p, true, .dic [(.inl k, .d d)]⟩]⟩) : wE C (tDispL [(tC (.int k), tC v)]) y Q := wE_dispL (kk := .inl k) s q
end
theorem excC_mk {K : Fg} {D : Addr} (hg : PySem.W.findIn K (.ref D) "__getattribute__" = some (some (.builtin "BaseException.__getattribute__"))) (hk : PySem.W.findIn K (.ref D) "__getattr__" = some none) (hs : PySem.W.subIn K (.ref D) (.type "BaseException") = some true) (hd : PySem.W.hasDictIn K D = true)
    (ha : PySem.W.findIn K (.ref D) "__class__" = some (some (.builtin "object.__class__"))) (hn : PySem.W.specialIn K (.builtin "object.__class__") "__get__" = some (some (.builtin "getset_descriptor.__get__"))) (ht : PySem.W.takesIn K (.builtin "object.__class__") = some true) (hm : PySem.W.mroIn K D (.type "object") = some true) : ExcC K D := ⟨hg, hk, hs, hd, ha, hn, ht, hm⟩
theorem kit_mk {K : Fg} {A B : Addr} {b : Bool} (ne : (Value.ref A == Value.ref B) = false) (ht : PySem.W.typeIn K (.ref B) = some (.type "type")) (hc : PySem.W.isClsIn K B = true) (hs : PySem.W.subIn K (.ref A) (.ref B) = some b) : PySem.W.kitOne K (.ref A) (.ref B) = some b := by
  have e2 : ((PySem.W.clsIn K B).isSome && PySem.W.typeIn K (.ref B) == some (.type "type")) = true := by
    have h2' : (PySem.W.clsIn K B).isSome = true := hc
    rw [h2', ht] <;> rfl
  show (if (Value.ref A == Value.ref B) = true then some true else (if ((PySem.W.clsIn K B).isSome && PySem.W.typeIn K (.ref B) == some (.type "type")) = true then PySem.W.subIn K (.ref A) (.ref B) else none)) = some b
  rw [ne, if_neg (by simp), if_pos e2]
  exact hs
def oddsC : List Cont := [.pl .none, .pl (.bool true), .pl (.bool false), .pl (.int 0), .pl (.int (-1)), .pl (.int 7), .pl (.int (10 ^ 29)), .pl (.int (-(10 ^ 29))), .pl (.str ""), .pl (.str "a"), .pl (.str "7"), .pl (.str "-3/7"), .pl (.str "3;7"), .pl (.str "floor"), .ls [], .ls [.int 1], .ls [.str "a"],
  .pl (.tuple []), .pl (.tuple [.int 1]), .pl (.tuple [.int 3, .int 7]), .pl (.tuple [.int 4, .int 2]), .pl (.tuple [.int 3, .int 0]), .pl (.tuple [.int 3, .int (-7)]), .pl (.tuple [.bool true, .int 2]), .ls [.int 3, .int 7], .pl (.tuple [.int 3, .int 7, .int 1]), .dc [], .dc [(.inr "a", .int 1)], .dc [(.inl 7, .none)],
  .ls [.list [.list [.list [.list [.str "a"]]]]], .pl (.tuple [.tuple [.int 1, .int 0], .tuple [.int 0, .int 1]])]
def OddP (z : Z) (nw : List (Addr × Cell)) : Prop := ∃ c ∈ oddsC, Th z nw c
abbrev sp_law_odd (K : Fg) : Sp := oSp K 1 OddP
abbrev sp_law_very (K : Fg) : Sp := vSp K
def grN : Nat → Cont → Cont
  | 0, c => c
  | n + 1, c => grN n c.gr
def vB (c : Cont) : Bool := c.plain && decide (c.len < 1000) && shB c.gr.dat
theorem vB_ok {c : Cont} (h : vB c = true) : VOk c := by
  unfold vB at h
  rw [Bool.and_eq_true, Bool.and_eq_true] at h
  exact ⟨h.1.1, of_decide_eq_true h.1.2, shB_ok h.2⟩
theorem odds_v : ∀ c ∈ oddsC, ∀ n ≤ 8, VOk (grN n c) := by
  have e : (oddsC.all fun c => (List.range 9).all fun n => vB (grN n c)) = true := by decide +kernel
  intro c hc n hn
  exact vB_ok (List.all_eq_true.mp (List.all_eq_true.mp e c hc) n (List.mem_range.mpr (by omega)))
end Ux
namespace Ux
open PySem PySem.Spec PyProof.Rows L2 Tq
end Ux

set_option maxRecDepth 100000
set_option maxHeartbeats 4000000
namespace Ux
open PySem PySem.Spec PyProof.Rows L2 Tq
/-! ### x == [] -/
def rEqNil (K : Fg) : R2 := fun x y H Q => ∃ a b xs, x = .ref a ∧ y = .ref b ∧ SqL K H a xs ∧ SqL K H b [] ∧ Q (.bl (decide (xs.length = 0))) H
section
variable {C : Ct} {y : S} {ta tb te : TE} {tt : TT} {tx : TS} {e : En} {Q : Z → S → Prop}
theorem wE_eqNil (w : wE C ta y fun z y1 => wE C tb y1 fun z' y2 => ∃ xs, lstZ z = some xs ∧ z' = .d (.list []) ∧ Q (.d (.bool (decide (xs.length = 0)))) y2) : wE C (tOp (rEqNil C.K) ta tb) y Q := by
  intro F σ H K wd k
  refine w F σ H _ wd fun x H1 z y1 w1 g1 s1 r1 q1 => ?_
  refine q1 F σ H1 _ w1 fun x2 H2 z' y2 w2 g2 s2 r2 q2 => ?_
  obtain ⟨xs, e1, rfl, hq⟩ := q2
  obtain ⟨a, us, rfl, h1, h2⟩ := rw_lst (r1.w.go g2) e1
  obtain ⟨b, vs, rfl, h3, h4⟩ := rp_lst r2
  cases h4
  exact ⟨a, b, us, rfl, rfl, h1.sq, h3.sq, k _ H2 (.d (.bool _)) y2 w2 (g1.trans g2) (s1.trans s2) (.bl _) (by rw [h2.len]; exact hq)⟩
/-! ### lists with labels gone through -/
def JOkZ (C : Ct) (F : Fr) (J : It) (σ : St) (y : S) (H : Hp) (xs : List Z) : Prop := ∀ (F1 : Fr) σ1 y1 H1, Wd0 C.K F1 σ1 y1 H1 → GoH (Mv F σ y) H (Mv F1 σ1 y1) H1 → ∀ i : Nat, (i < xs.length → J.go i H1) ∧ (xs.length ≤ i → J.stop i H1) ∧
  ∀ x, xs[i]? = some x → ∀ v H2, J.yld i H1 v H2 → (∀ a o, H1 a = some o → H2 a = some o) ∧ Rw C.K (Mv F1 σ1 y1) H2 v x
def wIZ (C : Ct) (wi : TI) (y : S) (Q : List Z → S → Prop) : Prop := ∀ (F : Fr) σ H (R : It → Hp → Prop), Wd C F σ y H → (∀ J H' xs y', Wd C F σ y' H' → Go F σ y H σ y' H' → Sh y y' → JOkZ C F J σ y' H' xs → Q xs y' → R J H') → wi σ H R
variable {Qi : List Z → S → Prop} {wi : TI}
theorem wIZ_list (w : wE C te y fun z y1 => ∃ xs, lstZ z = some xs ∧ Qi xs y1) : wIZ C (iList C.K te) y Qi := by
  intro F σ H R wd k
  refine w F σ H _ wd fun v H1 z y1 w1 g1 s1 r1 q => ?_
  obtain ⟨xs, ez, q⟩ := q
  obtain ⟨a, us, rfl, h1, h2⟩ := rw_lst r1.w ez
  refine ⟨a, rfl, ⟨us, h1.sq⟩, k _ H1 xs y1 w1 g1 s1 (fun F1 σ2 y2 H2 w2 g2 i => ?_) q⟩
  have e1 := (h1.go g2).sq
  have e2 := h2.go g2
  refine ⟨fun hi => ?_, fun hi => ⟨us, e1, by rw [h2.len]; exact hi⟩, fun x hx v H3 hy => ?_⟩
  · have : i < us.length := by rw [h2.len]; exact hi
    exact ⟨us, us[i], e1, by simp [this]⟩
  · obtain ⟨rfl, hv⟩ := hy
    obtain ⟨d, hd, rd⟩ := e2.getV (hv us e1)
    rw [hx] at hd
    cases hd
    exact ⟨fun _ _ e => e, rd⟩
variable {g : TG}
theorem wS_forZ (w : wIZ C wi y fun xs y1 => ∃ I : Nat → S → Prop, I 0 y1 ∧ (∀ i x y2, xs[i]? = some x → I i y2 → wG C g x y2 fun y3 => wS C tx y3 { nx := I (i + 1), ct := I (i + 1), bk := e.nx, rt := e.rt }) ∧ (∀ y2, I xs.length y2 → e.nx y2)) :
    wS C (tFor wi g tx) y e := by
  intro F σ H E st wd k
  refine w F σ H _ wd fun J H1 xs y1 w1 g1 s1 hJ ⟨I, h0, hs, hd⟩ => ?_
  refine ⟨fun i m σ2 H2 => m = xs.length - i ∧ i ≤ xs.length ∧ ∃ y2, Wd C F σ2 y2 H2 ∧ Go F σ y1 H1 σ2 y2 H2 ∧ I i y2, ⟨xs.length, by simp, Nat.zero_le _, y1, w1, GoH.refl, h0⟩, ?_⟩
  rintro i m σ2 H2 ⟨rfl, hi, y2, w2, g2, hI⟩
  obtain ⟨j1, j2, j3⟩ := hJ F σ2 y2 H2 w2.toWd0 g2 i
  by_cases hlt : i < xs.length
  · refine .inr ⟨j1 hlt, fun σ3 H3 => ∃ y3, Wd C F σ3 y3 H3 ∧ Go F σ y1 H1 σ3 y3 H3 ∧ I (i + 1) y3, fun σ3 H3 ⟨y3, w3, g3, h3⟩ => ⟨xs.length - (i + 1), by omega, rfl, hlt, y3, w3, g3, h3⟩, fun v H3 hy => ?_⟩
    have ex : xs[i]? = some xs[i] := List.getElem?_eq_getElem hlt
    obtain ⟨gr, rv⟩ := j3 _ ex v H3 hy
    have w3 := w2.grow gr
    have g3 := g2.trans (go_grow (F := F) (σ := σ2) (y := y2) gr)
    refine hs i _ y2 ex hI F σ2 H3 v _ w3 rv.z fun σ4 y4 w4 g4 q4 => ?_
    refine q4 F σ4 H3 _ st w4 ⟨fun σ5 H5 y5 w5 g5 q5 => ⟨y5, w5, (g3.trans g4).trans g5, q5⟩, fun σ5 v5 H5 z5 y5 w5 g5 r5 q5 => k.rt σ5 v5 H5 z5 y5 w5 (((g1.trans g3).trans g4).trans g5) r5 q5,
      fun σ5 H5 y5 w5 g5 q5 => k.nx σ5 H5 y5 w5 (((g1.trans g3).trans g4).trans g5) q5, fun σ5 H5 y5 w5 g5 q5 => ⟨y5, w5, (g3.trans g4).trans g5, q5⟩⟩
  · have ei : i = xs.length := by omega
    subst ei
    exact .inl ⟨j2 (Nat.le_refl _), k.nx σ2 H2 y2 w2 (g1.trans g2) (hd y2 hI)⟩
/-- [e for x in .. if ..], labels inside -/
theorem wE_lcZ {j : Nat}
    (w : wIZ C wi y fun xs y1 => ∃ I : Nat → List Z → List Cl → Prop, xs.length ≤ sizeLine ∧ (∀ i acc m, I i acc m → ao m = ao y1.m) ∧ I 0 [] y1.m ∧
      (∀ i x acc m, xs[i]? = some x → I i acc m → wT C.q tt ⟨y1.l.set j (some x), m⟩ fun b y3 => if b = true then wE C.q te y3 fun z y4 => I (i + 1) (acc ++ [z]) y4.m else I (i + 1) acc y3.m) ∧
      (∀ acc m, I xs.length acc m → acc.length ≤ xs.length → Q (.lst acc) ⟨y1.l, m⟩)) :
    wE C (tLc wi (gName j) tt te [j]) y Q := by
  intro F σ H K wd k
  refine w F σ H _ wd fun J H1 xs y1 w1 g1 s1 hJ ⟨I, hz, ha, h0, hs, hd⟩ => ?_
  intro l hl
  have wz : wipe σ [j] = σ.set j none := rfl
  obtain ⟨ul, um⟩ := y1
  have wi1 := w1.toWd0.into (l := l) (o := .lst []) hl
  have nOl : ¬ Dom um l := fun z => w1.new hl (.inr z)
  refine ⟨fun i n H2 => n = xs.length - i ∧ i ≤ xs.length ∧ ∃ m acc vs, Wd0 C.K (sub F σ ⟨ul, um⟩ H2 l) σ ⟨ul, m⟩ H2 ∧ (∀ a o, ¬ DomW um a → H1 a = some o → H2 a = some o) ∧ I i acc m ∧ H2 l = some (.lst vs) ∧ RwA C.K (Mv (sub F σ ⟨ul, um⟩ H2 l) σ ⟨ul, m⟩) H2 vs acc ∧ acc.length ≤ i,
    ⟨xs.length, by simp, Nat.zero_le _, um, [], [], wi1, fun a o _ e => grow_upd hl a o e, h0, upd_same, .nil, Nat.zero_le _⟩, ?_⟩
  rintro i n H2 ⟨rfl, hi, m, acc, vs, w2, kp2, hI, hl2, rv2, ha2⟩
  have am : ao m = ao um := ha i acc m hI
  obtain ⟨o1, o2, o3, o4, o5⟩ := w1.toWd0.outOf hl w2 am kp2
  obtain ⟨j1, j2, j3⟩ := hJ (sub F σ ⟨ul, um⟩ H2 l) σ ⟨ul, m⟩ H2 w2 o5 i
  by_cases hlt : i < xs.length
  · refine .inr ⟨j1 hlt, fun H3 => ∃ m acc vs, Wd0 C.K (sub F σ ⟨ul, um⟩ H3 l) σ ⟨ul, m⟩ H3 ∧ (∀ a o, ¬ DomW um a → H1 a = some o → H3 a = some o) ∧ I (i + 1) acc m ∧ H3 l = some (.lst vs) ∧ RwA C.K (Mv (sub F σ ⟨ul, um⟩ H3 l) σ ⟨ul, m⟩) H3 vs acc ∧ acc.length ≤ i + 1,
      fun H3 h => ⟨xs.length - (i + 1), by omega, rfl, hlt, h⟩, fun v H3 hy => ?_⟩
    have ex : xs[i]? = some xs[i] := List.getElem?_eq_getElem hlt
    obtain ⟨gr, rv⟩ := j3 _ ex v H3 hy
    obtain ⟨w3, gx⟩ := w2.reb am (H' := H3) (fun a o _ e => gr a o e) (by rw [gr l _ hl2]; simp) nOl
    have gy : GoH (Mv (sub F σ ⟨ul, um⟩ H2 l) σ ⟨ul, m⟩) H3 (Mv (sub F σ ⟨ul, um⟩ H3 l) σ ⟨ul, m⟩) H3 := fun a o n e => ⟨fun z => n ((sub_mv am).mpr ((sub_mv am).mp z)), e⟩
    have w4 : Wd0 C.K (sub F σ ⟨ul, um⟩ H3 l) (σ.set j (some v)) ⟨ul.set j (some xs[i]), m⟩ H3 := w3.set_z (rv.go gy)
    have eσ : (wipe σ [j]).set j (some v) = σ.set j (some v) := by rw [wz, List.set_set]
    show wipe ((wipe σ [j]).set j (some v)) [j] = wipe σ [j] ∧ tt ((wipe σ [j]).set j (some v)) H3 _
    rw [eσ]
    refine ⟨by show (σ.set j (some v)).set j none = σ.set j none; rw [List.set_set], ?_⟩
    have back : ∀ {m5 : List Cl} {l5 : List (Option Z)} {HH : Hp}, Wd0 C.K (sub F σ ⟨ul, um⟩ H3 l) (σ.set j (some v)) ⟨l5, m5⟩ HH → l5 = ul.set j (some xs[i]) → ao m5 = ao um →
        GoH (Mv (sub F σ ⟨ul, um⟩ H3 l) σ ⟨ul, m⟩) H3 (Mv (sub F σ ⟨ul, um⟩ H3 l) σ ⟨l5, m5⟩) HH →
        Wd0 C.K (sub F σ ⟨ul, um⟩ H3 l) σ ⟨ul, m5⟩ HH ∧ (∀ a o, ¬ DomW um a → H1 a = some o → HH a = some o) ∧ HH l = some (.lst vs) := by
      intro m5 l5 HH ww e5 a5 gg
      subst e5
      refine ⟨slot_unset ww w3.len.symm fun x e => ?_, fun a o na e => ww.keep a o na (gr a o (kp2 a o na e)), ww.keep l _ (fun z => nOl z.dom) (gr l _ hl2)⟩
      obtain ⟨u, q1, q2⟩ := w3.slot j x e
      exact ⟨u, q1, q2.go gg⟩
    refine hs i _ acc m ex hI (sub F σ ⟨ul, um⟩ H3 l) _ H3 _ w4.q fun b H5 y5 w5 g5 s5 q5 => ?_
    obtain ⟨l5, m5⟩ := y5
    cases b with
    | false =>
      have a5 : ao m5 = ao um := ha _ _ _ q5
      have gA : GoH (Mv (sub F σ ⟨ul, um⟩ H3 l) σ ⟨ul, m⟩) H3 (Mv (sub F σ ⟨ul, um⟩ H3 l) σ ⟨l5, m5⟩) H5 := g5
      obtain ⟨b1, b4, b5⟩ := back w5.toWd0 s5.1 a5 gA
      obtain ⟨b6, gz⟩ := b1.reb a5 (H' := H5) (fun a o _ e => e) (by rw [b5]; simp) nOl
      exact ⟨m5, acc, vs, b6, b4, q5, b5, rv2.go ((gx.trans gA).trans gz), by omega⟩
    | true =>
      refine q5 (sub F σ ⟨ul, um⟩ H3 l) _ H5 _ w5 fun x6 H6 z6 y6 w6 g6 s6 r6 q6 => ?_
      obtain ⟨l6, m6⟩ := y6
      have a6 : ao m6 = ao um := ha _ _ _ q6
      have gA : GoH (Mv (sub F σ ⟨ul, um⟩ H3 l) σ ⟨ul, m⟩) H3 (Mv (sub F σ ⟨ul, um⟩ H3 l) σ ⟨l6, m6⟩) H6 := g5.trans g6
      obtain ⟨b1, b4, b5⟩ := back w6.toWd0 (s6.1.trans s5.1) a6 gA
      have hlen : vs.length = acc.length := rv2.len
      obtain ⟨b6, gz⟩ := b1.reb a6 (H' := upd H6 l (.lst (vs ++ [x6]))) (fun a o n e => by rw [upd_ne n]; exact e) (by rw [upd_same]; simp) nOl
      refine ⟨vs, b5, by omega, m6, acc ++ [z6], vs ++ [x6], b6, fun a o na e => ?_, q6, upd_same, ?_, by rw [List.length_append]; simp; omega⟩
      · rw [upd_ne (ne_of_none e hl)]
        exact b4 a o na e
      · exact (rv2.go ((gx.trans gA).trans gz)).app (.cons (r6.w.go gz) .nil)
  · have ei : i = xs.length := by omega
    subst ei
    refine .inl ⟨j2 (Nat.le_refl _), ?_⟩
    exact k _ H2 (.lst acc) ⟨ul, m⟩ (w1.to o1 o2) (g1.trans o2) (s1.trans ⟨rfl, [], by rw [show ao ([] : List Cl) = [] from rfl, List.append_nil]; exact am⟩) (Rw.z (.lst (.inl ⟨o3, .inl hl2⟩) (rv2.go o4))) (hd acc m hI ha2)
end
/-! ### defs that change what they are handed -/
def mSp (K : Fg) (n : Nat) (pre : List (Addr × Cell) → List Z → Prop) (post : List (Addr × Cell) → List Z → D → List (Addr × Cell) → Prop) : Sp := fun vs H Q _ => ∃ (M : Addr → Prop) (m : List (Addr × Cell)) (zs : List Z), (∀ a, M a → H a ≠ none) ∧ RwA K M H vs zs ∧ (∀ e ∈ m, M e.1 ∧ CellOk K M H e.1 e.2 ∧ e.2.isRo = false) ∧ (m.Pairwise fun e e' => e.1 ≠ e'.1) ∧ zs.length = n ∧ pre m zs ∧
  ∀ d v m' H', post m zs d m' → scD d = true → m'.map (·.1) = m.map (·.1) → (∀ e ∈ m', e.2.isRo = false) → (∀ a o, (∀ e ∈ m, e.1 ≠ a) → H a = some o → H' a = some o) → (∀ e ∈ m', CellOk K M H' e.1 e.2) → Rp K M H' v d → Q v H'
theorem mSp_len {K : Fg} {n : Nat} {ps : List Str} {pre : List (Addr × Cell) → List Z → Prop} {post : List (Addr × Cell) → List Z → D → List (Addr × Cell) → Prop} (hn : ps.length = n) : ∀ vs H Q E, mSp K n pre post vs H Q E → vs.length = ps.length := by
  rintro vs H Q E ⟨M, m, zs, _, r, _, _, l, _⟩
  rw [r.len, l, hn]
theorem m_body {K : Fg} {N : List Str} {t : TS} {vs : List V} {H : Hp} {Q : VK} {E : XK} {n : Nat} {pre : List (Addr × Cell) → List Z → Prop} {post : List (Addr × Cell) → List Z → D → List (Addr × Cell) → Prop} (h : mSp K n pre post vs H Q E)
    (b : ∀ zs m, zs.length = n → (m.Pairwise fun e e' => e.1 ≠ e'.1) → pre m zs → ∀ e : En, (∀ d m' y, post m zs d m' → scD d = true → m'.map (·.1) = m.map (·.1) → (∀ e ∈ m', e.2.isRo = false) → toCl false m' ⊆ y.m → e.rt (.d d) y) → wS { K := K } t ⟨l0 N zs, toCl false m⟩ e) : t { nx := fun _ G => Q .non G, rt := Q } (start N vs) H := by
  obtain ⟨M, m, zs, al, rr, cs, pw, hl, hp, k⟩ := h
  have hM : ∀ {a : Addr}, Mv ⟨H, fun a => ∃ e ∈ m, e.1 = a, M, true⟩ (start N vs) ⟨l0 N zs, toCl false m⟩ a → M a := fun {a} q => q.elim (fun q => q) fun ⟨e, q1, q2⟩ => by
    obtain ⟨e', q3, rfl⟩ := List.mem_map.mp q1
    exact q2 ▸ (cs e' q3).1
  have gM : GoH M H (Mv ⟨H, fun a => ∃ e ∈ m, e.1 = a, M, true⟩ (start N vs) ⟨l0 N zs, toCl false m⟩) H := fun a o na e => ⟨fun q => na (hM q), e⟩
  refine b zs m hl pw hp { nx := fun _ => False, rt := fun u y => ∃ d m', u = .d d ∧ post m zs d m' ∧ scD d = true ∧ m'.map (·.1) = m.map (·.1) ∧ (∀ e ∈ m', e.2.isRo = false) ∧ toCl false m' ⊆ y.m }
    (fun d m' y q1 q2 q3 q4 q5 => ⟨d, m', rfl, q1, q2, q3, q4, q5⟩) ⟨H, fun a => ∃ e ∈ m, e.1 = a, M, true⟩ (start N vs) H _ rfl
    ⟨⟨fun a o _ e => e, al, al, l0_len rr, fun i u e => ?_, fun e he => ?_, ?_, fun e he _ => ?_, fun a ⟨e, q1, q2⟩ => q2 ▸ (cs e q1).1, fun _ e he ho => ?_⟩, fun _ _ _ _ _ _ _ _ _ q => q.elim⟩
    ⟨fun _ _ _ _ _ q => q.elim, fun σ' u H' z' y' w g rz q => ?_, fun _ _ _ _ _ q => q.elim, fun _ _ _ _ _ q => q.elim⟩
  · obtain ⟨x, h1, h2⟩ := l0_slot rr e
    exact ⟨x, h1, h2.go gM⟩
  · obtain ⟨e', q3, rfl⟩ := List.mem_map.mp he
    exact (cs e' q3).2.1.go gM fun _ q => q
  · unfold toCl; rw [List.pairwise_map]; exact pw
  · obtain ⟨e', q3, rfl⟩ := List.mem_map.mp he
    exact .inl ⟨e', q3, rfl⟩
  · obtain ⟨e', q3, rfl⟩ := List.mem_map.mp he
    cases ho
  · obtain ⟨d, m', rfl, q1, q2, q3, q4, q5⟩ := q
    exact k d u m' H' q1 q2 q3 q4 (fun a o n e => w.keep a o (fun ⟨e', h1, h2⟩ => n e' h1 h2) e) (fun e he => (w.cell _ (q5 (List.mem_map.mpr ⟨e, he, rfl⟩))).go (fun a o n e => ⟨fun q => n (.inl q), e⟩) fun _ q => q) (sc_rp q2 rz)
theorem wE_m {C : Ct} {y : S} {ts : TA} {E : XK} {Q : Z → S → Prop} {n : Nat} {pre : List (Addr × Cell) → List Z → Prop} {post : List (Addr × Cell) → List Z → D → List (Addr × Cell) → Prop}
    (w : wZ C ts y fun zs y1 => ∃ A m B b, y1.m = A ++ toCl b m ++ B ∧ (∀ e ∈ m, e.2.isRo = false) ∧ zs.length = n ∧ pre m zs ∧ ∀ d m', post m zs d m' → m'.map (·.1) = m.map (·.1) → (∀ e ∈ m', e.2.isRo = false) → Q (.d d) ⟨y1.l, A ++ toCl b m' ++ B⟩) :
    wE C (tCall (mSp C.K n pre post) [] E ts) y Q := by
  intro F σ H K wd k
  refine w F σ H _ wd fun vs H1 zs y1 w1 g1 s1 r1 ⟨A, m, B, b, em, ro, hn, hp, q⟩ => ?_
  show mSp C.K n pre post (vs ++ []) H1 K E
  rw [List.append_nil]
  have mem : ∀ e ∈ m, (⟨e.1, b, e.2⟩ : Cl) ∈ y1.m := fun e he => by
    rw [em]; exact List.mem_append.mpr (.inl (List.mem_append.mpr (.inr (List.mem_map.mpr ⟨e, he, rfl⟩))))
  have dist := w1.dist
  rw [em] at dist
  have pwm : m.Pairwise fun e e' => e.1 ≠ e'.1 := by
    have := (List.pairwise_append.mp (List.pairwise_append.mp dist).1).2.1
    unfold toCl at this
    rw [List.pairwise_map] at this
    exact this
  refine ⟨Mv F σ y1, m, zs, fun a m e => w1.new e m, r1, fun e he => ⟨.inr ⟨_, mem e he, rfl⟩, w1.cell _ (mem e he), ro e he⟩, pwm, hn, hp, fun d v m' H' hq hs ha ro' kp cs rv => ?_⟩
  have aeq : (A ++ toCl b m' ++ B).map (·.a) = y1.m.map (·.a) := by
    rw [em]
    simp only [List.map_append, toCl, List.map_map]
    congr 2
  have aoeq : ao (A ++ toCl b m' ++ B) = ao y1.m := by
    rw [em]
    unfold ao
    simp only [List.map_append]
    congr 2
    unfold toCl
    rw [List.map_map, List.map_map]
    have e1 : ∀ l : List (Addr × Cell), (∀ e ∈ l, e.2.isRo = false) → l.map ((fun e : Cl => (e.a, e.own, e.c.isRo)) ∘ fun e => (⟨e.1, b, e.2⟩ : Cl)) = (l.map (·.1)).map fun a => (a, b, false) := fun l hl => by
      rw [List.map_map]
      exact List.map_congr_left fun e he => by show (e.1, b, e.2.isRo) = (e.1, b, false); rw [hl e he]
    rw [e1 m' ro', e1 m ro, ha]
  have inm : ∀ a, (∃ e ∈ m, e.1 = a) ↔ ∃ e ∈ m', e.1 = a := fun a => by
    have e1 : ∀ l : List (Addr × Cell), (∃ e ∈ l, e.1 = a) ↔ a ∈ l.map (·.1) := fun l => List.mem_map.symm
    rw [e1, e1, ha]
  have old : ∀ e ∈ A ++ toCl b m' ++ B, ∃ e0 ∈ y1.m, e0.a = e.a ∧ (e.own = true → e0.own = true) ∧ (e.c.isRo = false → e0.c.isRo = false) := fun e he => by
    obtain ⟨e', h1, h2, h3, h4⟩ := own_ao aoeq he
    exact ⟨e', h1, h2, fun z => h3.trans z, fun z => h4.trans z⟩
  have lv : ∀ a, Dom y1.m a → H' a ≠ none := fun a ⟨e, h1, h2⟩ z => by
    by_cases ha : ∃ e ∈ m, e.1 = a
    · obtain ⟨e', q1, q2⟩ := (inm a).mp ha
      exact (cs e' q1).live (q2 ▸ z)
    · cases r : H1 a with
      | none => exact (w1.cell e h1).live (h2 ▸ r)
      | some o => rw [kp a o (fun e he q => ha ⟨e, he, q⟩) r] at z; cases z
  have key := w1.store (m := A ++ toCl b m' ++ B) (H' := H') (fun a o n e => kp a o (fun e' he' z => n ⟨_, mem e' he', z, ro e' he'⟩) e) lv (fun e he => .inl (old e he))
    (by
      have p1 : ∀ l : List Cl, (l.Pairwise fun e e' => e.a ≠ e'.a) ↔ (l.map (·.a)).Pairwise (· ≠ ·) := fun l => by rw [List.pairwise_map]
      rw [p1, aeq, ← p1]
      exact w1.dist)
    (fun g e he => by
      by_cases hq : ∃ e' ∈ m', (⟨e'.1, b, e'.2⟩ : Cl) = e
      · obtain ⟨e', h1', rfl⟩ := hq
        refine (cs e' h1').go (fun a o n e => ⟨fun z => n ?_, e⟩) fun _ r => r
        rcases z with z | ⟨e2, h2, h3⟩
        · exact .inl z
        · obtain ⟨e0, q1, q2, _⟩ := old e2 h2
          exact .inr ⟨e0, q1, q2.trans h3⟩
      · have hAB : e ∈ A ∨ e ∈ B := by
          rcases List.mem_append.mp he with he | he
          · rcases List.mem_append.mp he with he | he
            · exact .inl he
            · obtain ⟨e', h1', rfl⟩ := List.mem_map.mp he
              exact absurd ⟨e', h1', rfl⟩ hq
          · exact .inr he
        have hy : e ∈ y1.m := by
          rw [em]
          rcases hAB with h | h
          · exact List.mem_append.mpr (.inl (List.mem_append.mpr (.inl h)))
          · exact List.mem_append.mpr (.inr h)
        refine (w1.cell e hy).go g fun o r => kp _ _ (fun e' he' z => ?_) r
        have m1 : (⟨e'.1, b, e'.2⟩ : Cl) ∈ toCl b m := List.mem_map.mpr ⟨e', he', rfl⟩
        rcases hAB with h | h
        · exact (List.pairwise_append.mp (List.pairwise_append.mp dist).1).2.2 e h _ m1 z.symm
        · exact (List.pairwise_append.mp dist).2.2 _ (List.mem_append.mpr (.inr m1)) e h z)
  exact k v H' (.d d) _ key.1 (g1.trans key.2) (s1.trans ⟨rfl, [], by rw [show ao ([] : List Cl) = [] from rfl, List.append_nil]; exact aoeq⟩) (sc_rp hs rv) (q d m' hq ha ro')
/-- the very thing, wherever it lies in the store -/
theorem wE_veryA {C : Ct} {y : S} {ts : TA} {E : XK} {Q : Z → S → Prop} (w : wZ C ts y fun zs y1 => ∃ z nw c A B b, zs = [z, z] ∧ Th z nw c ∧ VOk c ∧ y1.m = A ++ toCl b nw ++ B ∧ ∀ nw', Th z nw' c.gr → Q (.d (.bool true)) ⟨y1.l, A ++ toCl b nw' ++ B⟩) :
    wE C (tCall (vSp C.K) [] E ts) y Q := by
  refine wE_very (wZ_mono w fun zs y1 ⟨z, nw, c, A, B, b, e1, th, vo, em, q⟩ => ⟨z, nw, c, A.length, b, e1, th, vo, fun e he => ?_, fun nw' th' => ?_⟩)
  · cases th with
    | pl d => cases he
    | ls a ds => rw [List.mem_singleton] at he; subst he; rw [em]; simp [toCl]
    | dc a ds => rw [List.mem_singleton] at he; subst he; rw [em]; simp [toCl]
  · have h := q nw' th'
    cases th with
    | pl d =>
      cases th' with
      | pl _ => rw [show y1.m = A ++ toCl b [] ++ B from em]; exact h
    | ls a ds =>
      cases th' with
      | ls _ _ =>
        rw [em]
        show Q _ ⟨_, (A ++ [_] ++ B).set A.length _⟩
        rw [List.append_assoc, List.set_append_right _ _ (Nat.le_refl _), Nat.sub_self]
        simpa [toCl] using h
    | dc a ds =>
      cases th' with
      | dc _ _ =>
        rw [em]
        show Q _ ⟨_, (A ++ [_] ++ B).set A.length _⟩
        rw [List.append_assoc, List.set_append_right _ _ (Nat.le_refl _), Nat.sub_self]
        simpa [toCl] using h
theorem Th.ad {z : Z} {nw nw' : List (Addr × Cell)} {c c' : Cont} (h : Th z nw c) (h' : Th z nw' c') (e : c' = c.gr) : nw'.map (·.1) = nw.map (·.1) := by
  subst e
  cases h with
  | pl d => cases h' with | pl _ => rfl
  | ls a ds => cases h' with | ls _ _ => rfl
  | dc a ds => cases h' with | dc _ _ => rfl
end Ux

set_option maxRecDepth 100000
set_option maxHeartbeats 4000000
/-! x != [] -/
namespace Tq
open PySem PySem.Spec PyProof.Rows L2
def rNeNil (K : Fg) : R2 := fun x y H Q => ∃ a b xs, x = .ref a ∧ y = .ref b ∧ SqL K H a xs ∧ SqL K H b [] ∧ Q (.bl (!decide (xs.length = 0))) H
theorem wE_neNil {C : Ct} {y : S} {ta tb : TE} {Q : Z → S → Prop} (w : wE C ta y fun z y1 => wE C tb y1 fun z' y2 => ∃ xs, z = .d (.list xs) ∧ z' = .d (.list []) ∧ Q (.d (.bool (!decide (xs.length = 0)))) y2) : wE C (tOp (rNeNil C.K) ta tb) y Q := by
  refine wE_op (res := fun d e r => ∃ xs, d = .list xs ∧ e = .list [] ∧ r = .bool (!decide (xs.length = 0))) ?_ (wE_mono w fun z y1 h => wE_mono h fun z' y2 ⟨xs, e1, e2, q⟩ => ⟨_, _, _, e1, e2, ⟨xs, rfl, rfl, rfl⟩, q⟩)
  rintro M H x y d e r Q fr rx ry ⟨xs, rfl, rfl, rfl⟩ k
  obtain ⟨a, us, rfl, h1, h2⟩ := rp_lst rx
  obtain ⟨b, vs, rfl, h3, h4⟩ := rp_lst ry
  cases h4
  exact ⟨a, b, us, rfl, rfl, h1.sq, h3.sq, k _ H (fun _ _ e => e) (by rw [h2.len]; exact .bl _)⟩
/-! x not in a tuple of tuples -/
def rNotInTD (K : Fg) : R2 := fun x y H Q => ∃ d ds, Dp K H x d ∧ Dp K H y (.tuple ds) ∧ (SeqAt.shaped d = true ∧ d.depth ≤ 60) ∧ SeqAt.shaped (.tuple ds) = true ∧ Q (.bl (!ds.any fun z => PyData.eqv z d)) H
end Tq
namespace Ux
open PySem PySem.Spec PyProof.Rows L2 Tq
theorem wE_neNil {C : Ct} {y : S} {ta tb : TE} {Q : Z → S → Prop} (w : wE C ta y fun z y1 => wE C tb y1 fun z' y2 => ∃ xs, lstZ z = some xs ∧ z' = .d (.list []) ∧ Q (.d (.bool (!decide (xs.length = 0)))) y2) : wE C (tOp (rNeNil C.K) ta tb) y Q := by
  intro F σ H K wd k
  refine w F σ H _ wd fun x H1 z y1 w1 g1 s1 r1 q1 => ?_
  refine q1 F σ H1 _ w1 fun x2 H2 z' y2 w2 g2 s2 r2 q2 => ?_
  obtain ⟨xs, e1, rfl, hq⟩ := q2
  obtain ⟨a, us, rfl, h1, h2⟩ := rw_lst (r1.w.go g2) e1
  obtain ⟨b, vs, rfl, h3, h4⟩ := rp_lst r2
  cases h4
  exact ⟨a, b, us, rfl, rfl, h1.sq, h3.sq, k _ H2 (.d (.bool _)) y2 w2 (g1.trans g2) (s1.trans s2) (.bl _) (by rw [h2.len]; exact hq)⟩
theorem wE_notInTD {C : Ct} {y : S} {ta tb : TE} {Q : Z → S → Prop} (w : wE C ta y fun z y1 => wE C tb y1 fun z' y2 => ∃ d ds, z = .d d ∧ z' = .d (.tuple ds) ∧ (SeqAt.shaped d = true ∧ d.depth ≤ 60) ∧ SeqAt.shaped (.tuple ds) = true ∧ Q (.d (.bool (!ds.any fun z => PyData.eqv z d))) y2) : wE C (tOp (rNotInTD C.K) ta tb) y Q := by
  refine wE_op (res := fun d e r => ∃ ds, e = .tuple ds ∧ (SeqAt.shaped d = true ∧ d.depth ≤ 60) ∧ SeqAt.shaped (.tuple ds) = true ∧ r = .bool (!ds.any fun z => PyData.eqv z d)) ?_ (wE_mono w fun z y1 h => wE_mono h fun z' y2 ⟨d, ds, e1, e2, s1, s2, q⟩ => ⟨_, _, _, e1, e2, ⟨ds, rfl, s1, s2, rfl⟩, q⟩)
  rintro M H x y d e r Q _ rx ry ⟨ds, rfl, s1, s2, rfl⟩ k
  exact ⟨d, ds, rx.dp (canLay_noDict s1.1), ry.dp (canLay_noDict s2), s1, s2, k _ H (fun _ _ e => e) (.bl _)⟩
end Ux

set_option maxRecDepth 100000
set_option maxHeartbeats 4000000
namespace Ux
open PySem PySem.Spec PyProof.Rows L2 Tq
/-! ### defs with one default, keywords -/
structure DfD (K : Fg) (mg : Str → Option Value) (x : Str) (st : Stmt) (ps : List Str) (dv : V) : Prop where
  ex : ∃ (f : Addr) (fd : FuncData), FunD K x x (defArgs st) (defBody st) (defScope st) [dv] [] f fd ∧ mg x = some (.ref f) ∧ Binds K fd ps [] ∧ (∃ ds, Vals [dv] ds ∧ Binds K fd ps ds) ∧
    ∀ (s : Shared) (us ws : List Value), K.In s.heap → us.length + 1 = ps.length → ws.length = 1 → BindsTo s fd ⟨us, (ps.drop us.length).zip ws⟩ (ps.zip (us ++ ws))
structure CalD (P : Program) (w : World) (K : Fg) (mg : Str → Option Value) (base : Heap) (k : Nat) (x : Str) (ps : List Str) (sp : Sp) (dv : V) : Prop where
  ex : ∃ (f : Addr) (fd : FuncData), Tq.FnG P w K mg base (L2.CX P w) k f fd ps sp ∧ mg x = some (.ref f) ∧ PySem.W.keepIn K (.ref f) = true ∧ Binds K fd ps [] ∧ (∃ ds, Vals [dv] ds ∧ Binds K fd ps ds) ∧
    ∀ (s : Shared) (us ws : List Value), K.In s.heap → us.length + 1 = ps.length → ws.length = 1 → BindsTo s fd ⟨us, (ps.drop us.length).zip ws⟩ (ps.zip (us ++ ws))
section
variable {P : Program} {w : World} {K : Fg} {mg : Str → Option Value} {base : Heap} {k : Nat} {x : Str} {ps N : List Str} {sp : Sp} {st : Stmt} {dv : V}
theorem CalD.toX (c : CalD P w K mg base k x ps sp dv) : CalX P w K mg base k x ps sp := by
  obtain ⟨f, fd, h1, h2, h3, h4, _⟩ := c.ex
  exact ⟨f, fd, h1, h2, h3, h4⟩
theorem okD (d : DfD K mg x st ps dv) (Sc : FnScope N ps (defScope st)) (len : ∀ vs H Q E, sp vs H Q E → vs.length = ps.length)
    (hbody : ∀ (f : Addr) (cdv : Value) (A : Around) (outer : List Env) (s : Shared) (H : Hp) (vs : List V) (Q : VK) (E : XK), Room k (A.deeper (envOfC x (defScope st) s.heap.objs.size f cdv)) →
      (A.deeper (envOfC x (defScope st) s.heap.objs.size f cdv)).guards = some [] → sp vs H Q E →
      ∃ t, PSs (cxOf (L2.CX P w) P w K mg base N x (defScope st) f cdv A outer s H E) (defBody st) t ∧ t { nx := fun _ G => Q .non G, rt := Q } (start N vs) H) : CalD P w K mg base (k + 1) x ps sp dv := by
  obtain ⟨f, fd, F, hm, hb⟩ := d.ex
  have kp := F.kp
  obtain ⟨oc, od, dV, kV, doc, pm, an, cdv, ct, osl, rfl, lk, hcd, _, _⟩ := F.ex
  exact ⟨f, _, Tq.fn_ofG lk hcd Sc len fun A outer s H vs Q E hr hgu hsp => hbody f cdv A outer s H vs Q E hr hgu hsp, hm, kp, hb⟩
end
theorem dfd_mk {K : Fg} {h : Heap} {mg : Str → Option Value} {x a b : Str} {st : Stmt} {f T : Addr} {od od2 an : Option Addr} {sl sl2 : Array (Option Value)} {oc oc2 kV dc pm cd ct du : Value} {dv : V} {n : Nat} (X : K.In h) (G : h.Ns mainGlobals mg) (rv : RelV dv du)
    (hb2 : ∀ (T : Addr) (kV doc pm : Value) (an : Option Addr) (cdv ct : Value) (us its : List Value), us.length = 2 → its.length = 1 → ∃ k, bindArgs (PySem.W.fnOf x x (defArgs st) (defBody st) (defScope st) (.ref T) kV doc pm an cdv ct) ⟨us, []⟩ = seqItems? (.ref T) >>= k ∧ k (some its.toArray) = pure ([a, b].zip us))
    (hb1 : ∀ (T : Addr) (kV doc pm : Value) (an : Option Addr) (cdv ct : Value) (us its : List Value), us.length = 1 → its.length = 1 → ∃ k, bindArgs (PySem.W.fnOf x x (defArgs st) (defBody st) (defScope st) (.ref T) kV doc pm an cdv ct) ⟨us, []⟩ = seqItems? (.ref T) >>= k ∧ k (some its.toArray) = pure ([a, b].zip (us ++ its)))
    (hbk : ∀ (T : Addr) (kV doc pm : Value) (an : Option Addr) (cdv ct : Value) (us ws its : List Value), us.length = 1 → ws.length = 1 → its.length = 1 → ∃ k, bindArgs (PySem.W.fnOf x x (defArgs st) (defBody st) (defScope st) (.ref T) kV doc pm an cdv ct) ⟨us, [b].zip ws⟩ = seqItems? (.ref T) >>= k ∧ k (some its.toArray) = pure ([a, b].zip (us ++ ws)))
    (ax : PySem.W.nsIn K mainGlobals x = some (some (.ref f))) (l : K.lookup f = some ⟨oc, od, .func (PySem.W.fnOf x x (defArgs st) (defBody st) (defScope st) (.ref T) kV dc pm an cd ct), sl⟩) (lT : K.lookup T = some ⟨oc2, od2, .seq [du].toArray n, sl2⟩)
    (c : PySem.W.codeIn K cd x = true) (k : PySem.W.keepIn K (.ref f) = true) : DfD K mg x st [a, b] dv := by
  have F : FunD K x x (defArgs st) (defBody st) (defScope st) [dv] [] f (PySem.W.fnOf x x (defArgs st) (defBody st) (defScope st) (.ref T) kV dc pm an cd ct) :=
    ⟨⟨oc, od, .ref T, kV, dc, pm, an, cd, ct, sl, rfl, l, c, .inr ⟨by simp, T, _, [du], n, rfl, lT, rfl, .cons rv .nil⟩, .inl rfl⟩, k⟩
  refine ⟨f, _, F, PySem.W.mg_of X G ax, ?_, ?_, ?_⟩
  · obtain ⟨ds, hv, hb⟩ := F.binds1 (ps := [a, b]) 2 1 (by simp) rfl (fun T kV doc pm an cdv ct us its h1 h2 => by
      obtain ⟨k, e1, e2⟩ := hb2 T kV doc pm an cdv ct us its h1 h2
      refine ⟨k, e1, ?_⟩
      rw [e2]
      match its, h2 with
      | [_], _ => simp)
    cases hv
    exact hb
  · obtain ⟨ds, hv, hb⟩ := F.binds1 (ps := [a, b]) 1 0 (by simp) rfl (fun T kV doc pm an cdv ct us its h1 h2 => hb1 T kV doc pm an cdv ct us its h1 h2)
    exact ⟨ds, hv, hb⟩
  · intro s us ws X l1 l2
    have l1 : us.length = 1 := by
      have : us.length + 1 = 2 := l1
      omega
    rw [l1]
    obtain ⟨k, e1, e2⟩ := hbk T kV dc pm an cd ct us ws [du] l1 l2 rfl
    refine BindsTo.of_looks fun M => ?_
    show PySem.W.Looks M s.heap (bindArgs _ ⟨us, [b].zip ws⟩) _
    rw [e1]
    exact looks_items X lT rfl (.of_pure e2)
/-! ### comprehensions of things told beforehand; lists taken apart -/
section
variable {C : Ct} {y : S} {ta tb tc te : TE} {tt : TT} {wi : TI} {Q : Z → S → Prop}
theorem wE_lcMap {j : Nat} {y' : S} (rs : List Z)
    (w : wIZ C wi y fun xs y1 => y1 = y' ∧ xs.length ≤ sizeLine ∧ rs.length = xs.length ∧ (∀ (i : Nat) (x r : Z), xs[i]? = some x → rs[i]? = some r → wT C.q tt (y'.set j (some x)) fun c y3 => c = true ∧ wE C.q te y3 fun z y4 => z = r ∧ y4.m = y'.m) ∧ Q (.lst rs) y') :
    wE C (tLc wi (gName j) tt te [j]) y Q := by
  refine wE_lcZ (fun F σ H R wd k => w F σ H R wd fun J H1 xs y1 w1 g1 s1 hJ ⟨e, hz, hl, hs, hq⟩ => k J H1 xs y1 w1 g1 s1 hJ ?_)
  subst e
  refine ⟨fun i acc m => m = y1.m ∧ acc = rs.take i, hz, fun i acc m h => by rw [h.1], ⟨rfl, rfl⟩, fun i x acc m hx ⟨e1, e2⟩ => ?_, fun acc m ⟨e1, e2⟩ _ => ?_⟩
  · subst e1 e2
    have hi : i < xs.length := (List.getElem?_eq_some_iff.mp hx).1
    have hb : rs[i]? = some rs[i] := List.getElem?_eq_getElem (by omega)
    refine wT_mono (hs i x _ hx hb) fun b y3 ⟨eb, h3⟩ => ?_
    subst eb
    show wE C.q te _ _
    refine wE_mono h3 fun z y4 ⟨ez, ey⟩ => ⟨ey, ?_⟩
    rw [ez, List.take_add_one, hb]
    rfl
  · subst e1 e2
    rw [← hl, List.take_length]
    exact hq
variable {g : TG} {Qg : S → Prop}
theorem wG_lst {n : Nat} {gs : TGs} {ds : List D} (hn : ds.length = n) (h : wGs C gs (ds.map Z.d) y Qg) : wG C (gLst C.K n gs) (.d (.list ds)) y Qg := fun F σ H v R wd r k => by
  obtain ⟨a, us, rfl, h1, h2⟩ := rp_lst r
  exact ⟨a, us, rfl, h1.sq, by rw [h2.len]; exact hn, h F σ H us R wd (RwA.of h2) k⟩
end
theorem pgL {X : Cx} {pos : Pos} (K : Fg) {es : List Expr} {k : Nat} {t : TGs} {n : Nat} (hc : X.calm = true) (h : PGs X es t) (hK : X.K = K := by rfl)
    (hn : (assignEach es X.env).length = n := by rfl) (hst : (assignEach es X.env).findIdx? (·.1) = none := by rfl) : PG X (.Tuple es k pos) (gLst K n t) := hK ▸ pg_lst hc h hn hst
theorem Res.str {m : List Cl} {z : Z} {s : Str} (h : Res m z (.str s)) : z = .d (.str s) := by
  cases h with
  | d => rfl
  | lab _ hc => rcases hc.nsc with ⟨_, e⟩ | ⟨_, e⟩ <;> cases e
end Ux

set_option maxRecDepth 100000
set_option maxHeartbeats 4000000
namespace Ux
open PySem PySem.Spec PyProof.Rows L2 Tq
/-! ### defs that may raise and hand out things that are new -/
def xnSp (K : Fg) (n : Nat) (pre : List Z → List D → Prop) (post : List Z → List D → Z → List (Addr × Cell) → Prop) (xp : List Z → List D → Ex → Prop) : Sp := fun vs H Q E => ∃ (M : Addr → Prop) (m : List Cl) (zs : List Z) (ds : List D),
  (∀ a, M a → H a ≠ none) ∧ RwA K M H vs zs ∧ (∀ e ∈ m, M e.a ∧ CellOk K M H e.a e.c) ∧ (m.Pairwise fun e e' => e.a ≠ e'.a) ∧ ResA m zs ds ∧ zs.length = n ∧ pre zs ds ∧
  (∀ z nw v H', post zs ds z nw → (∀ a o, H a = some o → H' a = some o) → (∀ e ∈ nw, H e.1 = none) → (nw.Pairwise fun e e' => e.1 ≠ e'.1) → (∀ e ∈ nw, CellOk K (fun a => M a ∨ ∃ e ∈ nw, e.1 = a) H' e.1 e.2) → Rw K (fun a => M a ∨ ∃ e ∈ nw, e.1 = a) H' v z → Q v H') ∧
  (∀ ex a v H', xp zs ds ex → (∀ a o, H a = some o → H' a = some o) → H a = none → H' a = some (.xd [(keyZ ex.found, v)]) → Rw K M H' v (valZ ex.found) → E ex.cls (some a) H')
section
variable {K : Fg} {N : List Str} {t : TS} {vs : List V} {H : Hp} {Q : VK} {E : XK} {n : Nat} {pre : List Z → List D → Prop} {post : List Z → List D → Z → List (Addr × Cell) → Prop} {xp : List Z → List D → Ex → Prop}
end
section
variable {C : Ct} {y : S} {ts : TA} {te : TE} {Q : Z → S → Prop} {n : Nat} {pre : List Z → List D → Prop} {post : List Z → List D → Z → List (Addr × Cell) → Prop} {xp : List Z → List D → Ex → Prop} {e : En} {E : XK}
theorem xn_call {y1 : S} {F : Fr} {σ : St} {H1 H2 : Hp} {nw : List (Addr × Cell)} (w1 : Wd C F σ y1 H1) (gr : ∀ a o, H1 a = some o → H2 a = some o) (fr : ∀ e ∈ nw, H1 e.1 = none) (pw : nw.Pairwise fun e e' => e.1 ≠ e'.1)
    (cs : ∀ e ∈ nw, CellOk C.K (fun a => Mv F σ y1 a ∨ ∃ e ∈ nw, e.1 = a) H2 e.1 e.2) : Wd C F σ ⟨y1.l, y1.m ++ toCl true nw⟩ H2 ∧ Go F σ y1 H1 σ ⟨y1.l, y1.m ++ toCl true nw⟩ H2 :=
  w1.store (m := y1.m ++ toCl true nw) (H' := H2) (fun a o _ e => gr a o e)
    (fun a ⟨e, h1, h2⟩ z => by
      cases r : H1 a with
      | none => exact (w1.cell e h1).live (h2 ▸ r)
      | some o => rw [gr a o r] at z; cases z)
    (fun e he => by
      rcases List.mem_append.mp he with he | he
      · exact .inl ⟨e, he, rfl, fun z => z, fun z => z⟩
      · obtain ⟨e', h1, rfl⟩ := List.mem_map.mp he
        exact .inr (fr e' h1))
    (by
      rw [List.pairwise_append]
      refine ⟨w1.dist, by unfold toCl; rw [List.pairwise_map]; exact pw, fun e he e2 he2 z => ?_⟩
      obtain ⟨e', h1', rfl⟩ := List.mem_map.mp he2
      exact (w1.cell e he).live (by rw [z]; exact fr e' h1'))
    (fun g e he => by
      rcases List.mem_append.mp he with he | he
      · exact (w1.cell e he).go g fun o r => gr _ _ r
      · obtain ⟨e', h1', rfl⟩ := List.mem_map.mp he
        refine (cs e' h1').go (fun a o n e => ⟨fun z => n ?_, e⟩) fun _ r => r
        rcases z with z | ⟨e2, h2, h3⟩
        · exact .inl (.inl z)
        · rcases List.mem_append.mp h2 with h2 | h2
          · exact .inl (.inr ⟨e2, h2, h3⟩)
          · obtain ⟨e3, h4, rfl⟩ := List.mem_map.mp h2
            exact .inr ⟨e3, h4, h3⟩)
theorem xn_rw {y1 : S} {F : Fr} {σ : St} {H2 : Hp} {nw : List (Addr × Cell)} {v : V} {z : Z} (rv : Rw C.K (fun a => Mv F σ y1 a ∨ ∃ e ∈ nw, e.1 = a) H2 v z) : Rw C.K (Mv F σ ⟨y1.l, y1.m ++ toCl true nw⟩) H2 v z := by
  refine rv.go fun a o n e => ⟨fun z => n ?_, e⟩
  rcases z with z | ⟨e2, h2, h3⟩
  · exact .inl (.inl z)
  · rcases List.mem_append.mp h2 with h2 | h2
    · exact .inl (.inr ⟨e2, h2, h3⟩)
    · obtain ⟨e3, h4, rfl⟩ := List.mem_map.mp h2
      exact .inr ⟨e3, h4, h3⟩
theorem wE_xn (w : wZ C ts y fun zs y1 => ∃ ds, ResA y1.m zs ds ∧ (zs.length = n ∧ pre zs ds) ∧ (∀ z nw, post zs ds z nw → Q z ⟨y1.l, y1.m ++ toCl true nw⟩) ∧ ∀ ex, xp zs ds ex → C.ex ex y1) : wE C (tCallS (xnSp C.K n pre post xp) (WE C.W) ts) y Q := by
  intro F σ H K wd k
  refine w F σ H _ wd fun vs H1 zs y1 w1 g1 s1 r1 ⟨ds, hr, ⟨hn, hp⟩, q, x⟩ => ?_
  refine ⟨Mv F σ y1, y1.m, zs, ds, fun a m e => w1.new e m, r1, fun e he => ⟨.inr ⟨e, he, rfl⟩, w1.cell e he⟩, w1.dist, hr, hn, hp, fun z nw v H2 hz gr fr pw cs rv => ?_, fun ex a v H2 hx gr ha ha2 rv => ?_⟩
  · obtain ⟨w2, g2⟩ := xn_call w1 gr fr pw cs
    exact k v H2 z _ w2 (g1.trans g2) (s1.trans ⟨rfl, toCl true nw, by unfold ao; rw [List.map_append]⟩) (Rw.z (xn_rw rv)) (q z nw hz)
  · exact w1.xk σ y1 H2 ex ex.cls (some a) (w1.grow gr).toWd0 (go_grow gr) ⟨rfl, a, v, rfl, ha2, w1.new ha, w1.newH0 ha, rv⟩ (x ex hx)
abbrev anSp (K : Fg) (n : Nat) (pre : List Z → List D → Prop) (post : List Z → List D → Z → List (Addr × Cell) → Prop) : Sp := xnSp K n pre post fun _ _ _ => False
theorem wE_an (w : wZ C ts y fun zs y1 => ∃ ds, ResA y1.m zs ds ∧ (zs.length = n ∧ pre zs ds) ∧ (∀ z nw, post zs ds z nw → Q z ⟨y1.l, y1.m ++ toCl true nw⟩)) : wE C (tCall (anSp C.K n pre post) [] E ts) y Q := by
  intro F σ H K wd k
  refine w F σ H _ wd fun vs H1 zs y1 w1 g1 s1 r1 ⟨ds, hr, ⟨hn, hp⟩, q⟩ => ?_
  show anSp C.K n pre post (vs ++ []) H1 K E
  rw [List.append_nil]
  refine ⟨Mv F σ y1, y1.m, zs, ds, fun a m e => w1.new e m, r1, fun e he => ⟨.inr ⟨e, he, rfl⟩, w1.cell e he⟩, w1.dist, hr, hn, hp, fun z nw v H2 hz gr fr pw cs rv => ?_, fun ex a v H2 hx => hx.elim⟩
  obtain ⟨w2, g2⟩ := xn_call w1 gr fr pw cs
  exact k v H2 z _ w2 (g1.trans g2) (s1.trans ⟨rfl, toCl true nw, by unfold ao; rw [List.map_append]⟩) (Rw.z (xn_rw rv)) (q z nw hz)
end
/-! ### an own list is frozen -/
theorem wS_frzA {C : Ct} {t : TS} {y : S} {e : En} (i : Nat) {p : Addr} {ds : List D} {A B : List Cl} (hi : y.l[i]? = some (some (.lab p))) (hm : y.m = A ++ ⟨p, true, .lst (ds.map Z.d)⟩ :: B) (w : wS C t ⟨y.l.set i (some (.d (.list ds))), A ++ B⟩ e) : wS C t y e := by
  intro F σ H E st wd k
  obtain ⟨yl, ym⟩ := y
  have hm : ym = A ++ ⟨p, true, .lst (ds.map Z.d)⟩ :: B := hm
  subst hm
  have pm : (⟨p, true, .lst (ds.map Z.d)⟩ : Cl) ∈ A ++ ⟨p, true, .lst (ds.map Z.d)⟩ :: B := List.mem_append.mpr (.inr List.mem_cons_self)
  have hs : (A ++ B).Sublist (A ++ ⟨p, true, .lst (ds.map Z.d)⟩ :: B) := List.Sublist.append_left (List.sublist_cons_self _ _) A
  have nS : ¬ F.S0 p := wd.nb st _ pm rfl
  have h0 : F.H0 p = none := by
    rcases wd.frsh _ pm rfl with q | q
    · exact absurd q nS
    · exact q
  have nM : ¬ F.M0 p := fun z => wd.live0 p z h0
  have dist := wd.dist
  have nAB : ∀ e ∈ A ++ B, e.a ≠ p := by
    have d := List.pairwise_append.mp dist
    intro e he
    rcases List.mem_append.mp he with he | he
    · exact d.2.2 e he _ List.mem_cons_self
    · exact fun z => (List.pairwise_cons.mp d.2.1).1 e he z.symm
  have sub : ∀ {l : List (Option Z)} {a : Addr}, Mv F σ ⟨l, A ++ B⟩ a → Mv F σ ⟨yl, A ++ ⟨p, true, .lst (ds.map Z.d)⟩ :: B⟩ a := fun z => z.elim .inl fun ⟨e, h1, h2⟩ => .inr ⟨e, hs.subset h1, h2⟩
  have g : Go F σ ⟨yl, A ++ ⟨p, true, .lst (ds.map Z.d)⟩ :: B⟩ H σ ⟨yl.set i (some (.d (.list ds))), A ++ B⟩ H := fun a o n e => ⟨fun z => n (sub z), e⟩
  have np : ¬ Mv F σ ⟨yl.set i (some (.d (.list ds))), A ++ B⟩ p := fun z => z.elim nM fun ⟨e, h1, h2⟩ => nAB e h1 h2
  obtain ⟨xs, c1, c2⟩ := (wd.cell _ pm : CellOk C.K _ H p (.lst (ds.map Z.d)))
  refine w F σ H E st (wd.to ⟨wd.keep, wd.live0, wd.live, by show σ.length = (yl.set i _).length; rw [List.length_set]; exact wd.len, fun j z e => ?_, fun e he => (wd.cell e (hs.subset he)).go g fun _ q => q, dist.sublist hs, fun e he => wd.frsh e (hs.subset he), wd.sm, fun st e he => wd.nb st e (hs.subset he)⟩ g) (k.go g)
  have e' : (yl.set i (some (.d (.list ds))))[j]? = some (some z) := e
  by_cases n : j = i
  · subst n
    have hl := (List.getElem?_eq_some_iff.mp (show yl[j]? = _ from hi)).1
    rw [List.getElem?_set_self hl] at e'
    cases e'
    obtain ⟨x, h1, h2⟩ := wd.slot j _ hi
    cases h2
    exact ⟨_, h1, .d (.lst (.inl ⟨np, .inl c1⟩) (c2.go g).ds)⟩
  · rw [List.getElem?_set_ne (Ne.symm n)] at e'
    obtain ⟨x, h1, h2⟩ := wd.slot j z e'
    exact ⟨x, h1, h2.go g⟩
end Ux
namespace Ux
open PySem PySem.Spec PyProof.Rows L2 Tq
theorem wE_gd {C : Ct} {y : S} {Q : Z → S → Prop} {a : Addr} {d : D} (h : ∀ (M : Addr → Prop) (H : Hp), Rp C.K M H (.ref a) d) (q : Q (.d d) y) : wE C (tC (.ref a)) y Q := fun F σ H K w k => k (.ref a) H (.d d) y w GoH.refl (Sh.refl y) (h _ H) q
section
variable {C : Ct} {y : S} {te : TE} {Qi : List D → S → Prop}
theorem wI_anyL (w : wE C te y fun z y1 => ∃ xs, z = .d (.list xs) ∧ Qi xs y1) : wI C (iAny C.K te) y Qi := fun F σ H R wd k => .inl (wI_list w F σ H R wd k)
end
end Ux
namespace Ux
end Ux
namespace Ux
open PySem PySem.Spec PyProof.Rows L2 Tq
end Ux
namespace Ux
open PySem PySem.Spec PyProof.Rows L2 Tq
/-! ### lists of our own: made by +, list(..); read by slices, len, tuple(..), reversed -/
def rCatL (K : Fg) : R2 := rCatG K
def rSlLab (K : Fg) : V → Option Int → Option Int → Hp → VK → Prop := rSlD K
def tLenL (K : Fg) (t : TA) : TE := tCB (rLenD K) t
def tListL (K : Fg) (t : TA) : TE := tCB (rListD K) t
def tTupL (K : Fg) (t : TA) : TE := tCB (rTupD K) t
section
variable {X : Cx} (K : Fg)
end
section
variable {C : Ct} {y : S} {ta tb te : TE} {tl th : TO} {Q : Z → S → Prop}
theorem xE_catL (w : wE C ta y fun z y1 => wE C tb y1 fun z' y2 => ∃ xs zs, lstZ z = some xs ∧ lstZ z' = some zs ∧ xs.length + zs.length ≤ sizeLine ∧ ∀ p, Q (.lab p) ⟨y2.l, y2.m ++ [⟨p, true, .lst (xs ++ zs)⟩]⟩) : wE C (tOp (rCatL C.K) ta tb) y Q := by
  intro F σ H K wd k
  refine w F σ H _ wd fun x H1 z y1 w1 g1 s1 r1 q1 => ?_
  refine q1 F σ H1 _ w1 fun x2 H2 z' y2 w2 g2 s2 r2 q2 => ?_
  obtain ⟨xs, zs, e1, e2, hl, hq⟩ := q2
  obtain ⟨a, us, rfl, h1, h2⟩ := rw_lst (r1.w.go g2) e1
  obtain ⟨b, vs, rfl, h3, h4⟩ := rw_lst r2.w e2
  refine ⟨a, b, us, vs, rfl, rfl, h1.sq, h3.sq, by rw [h2.len, h4.len]; exact hl, fun p hp => ?_⟩
  obtain ⟨w3, g3, s3⟩ := w2.cnew (o := .lst (us ++ vs)) (c := .lst (xs ++ zs)) (b := true) hp fun M g => ⟨us ++ vs, upd_same, (h2.app h4).go g⟩
  exact k _ _ (.lab p) _ w3 ((g1.trans g2).trans g3) ((s1.trans s2).trans s3) (.lab p) (hq p)
/-- a list of ours, as it is at present -/
theorem lab_lst {F : Fr} {σ : St} {H : Hp} {v : V} {p : Addr} {b : Bool} {j : Nat} {zs : List Z} (wd : Wd C F σ y H) (r : Rz C F σ y H v (.lab p)) (hj : y.m[j]? = some ⟨p, b, .lst zs⟩) : v = .ref p ∧ ∃ xs, H p = some (.lst xs) ∧ RwA C.K (Mv F σ y) H xs zs := by
  cases r
  obtain ⟨xs, c1, c2⟩ := (wd.cell _ (List.mem_of_getElem? hj) : CellOk C.K (Mv F σ y) H p (.lst zs))
  exact ⟨rfl, xs, c1, c2⟩
theorem xE_lenL (w : wE C te y fun z y1 => ∃ (p : Addr) (b : Bool) (j : Nat) (zs : List Z), z = .lab p ∧ y1.m[j]? = some (⟨p, b, .lst zs⟩ : Cl) ∧ Q (.d (.int zs.length)) y1) : wE C (tLenL C.K (tCons te tNil)) y Q := by
  intro F σ H K wd k
  refine w F σ H _ wd fun x H1 z y1 w1 g1 s1 r1 q1 => ?_
  obtain ⟨p, b, j, zs, rfl, hj, hq⟩ := q1
  obtain ⟨rfl, xs, c1, c2⟩ := lab_lst w1 r1 hj
  exact ⟨_, zs.length, rfl, .inl ⟨xs, .inl (.inl c1), c2.len.symm⟩, k _ H1 (.d (.int zs.length)) y1 w1 g1 s1 (.int _) hq⟩
theorem xE_listL (w : wE C te y fun z y1 => ∃ d xs, z = .d d ∧ dItems d = some xs ∧ ∀ p, Q (.lab p) ⟨y1.l, y1.m ++ [⟨p, true, .lst (xs.map Z.d)⟩]⟩) : wE C (tListL C.K (tCons te tNil)) y Q := by
  intro F σ H K wd k
  refine w F σ H _ wd fun x H1 z y1 w1 g1 s1 r1 q1 => ?_
  obtain ⟨d, xs, rfl, hx, hq⟩ := q1
  obtain ⟨a, us, rfl, h1, h2⟩ := rp_items r1 hx
  refine ⟨a, us, rfl, h1.elim (fun z => .inl z.sq) (fun z => .inr z.sq), fun p hp => ?_⟩
  obtain ⟨w2, g2, s2⟩ := w1.cnew (o := .lst us) (c := .lst (xs.map Z.d)) (b := true) hp fun M g => ⟨us, upd_same, (RwA.of h2).go g⟩
  exact k _ _ (.lab p) _ w2 (g1.trans g2) (s1.trans s2) (.lab p) (hq p)
theorem xE_tupL (w : wE C te y fun z y1 => ∃ (p : Addr) (b : Bool) (j : Nat) (ds : List D), z = .lab p ∧ y1.m[j]? = some (⟨p, b, .lst (ds.map Z.d)⟩ : Cl) ∧ Q (.d (.tuple ds)) y1) : wE C (tTupL C.K (tCons te tNil)) y Q := by
  intro F σ H K wd k
  refine w F σ H _ wd fun x H1 z y1 w1 g1 s1 r1 q1 => ?_
  obtain ⟨p, b, j, ds, rfl, hj, hq⟩ := q1
  obtain ⟨rfl, xs, c1, c2⟩ := lab_lst w1 r1 hj
  refine ⟨p, xs, rfl, .inl ⟨.inl (.inl c1), fun l hl => ?_⟩⟩
  have gr := grow_upd (o := .tup xs) hl
  exact k _ _ (.d (.tuple ds)) y1 (w1.grow gr) (g1.trans (go_grow gr)) s1 (.tup (.inl ⟨w1.new hl, .inl upd_same⟩) (c2.ds.go (go_grow (F := F) (σ := σ) (y := y1) gr))) hq
theorem xE_slL (w : wE C te y fun z y1 => wO C tl y1 fun l y2 => wO C th y2 fun h y3 => ∃ (p : Addr) (b : Bool) (j : Nat) (ds : List D), z = .lab p ∧ y3.m[j]? = some (⟨p, b, .lst (ds.map Z.d)⟩ : Cl) ∧ Q (.d (.list (cutD ds l h))) y3) : wE C (tSl (rSlLab C.K) te tl th) y Q := by
  intro F σ H K wd k
  refine w F σ H _ wd fun x H1 z y1 w1 g1 s1 r1 q1 => ?_
  refine q1 F σ H1 _ w1 fun l H2 y2 w2 g2 s2 q2 => ?_
  refine q2 F σ H2 _ w2 fun h H3 y3 w3 g3 s3 q3 => ?_
  obtain ⟨p, b, j, ds, rfl, hj, hq⟩ := q3
  have r3 : Rz C F σ y3 H3 x (.lab p) := Rz.go (g2.trans g3) r1
  obtain ⟨rfl, xs, c1, c2⟩ := lab_lst w3 r3 hj
  refine .inl ⟨p, xs, rfl, .inl (.inl c1), fun q hp => ?_⟩
  have gr := grow_upd (o := .lst (cutV xs l h)) hp
  exact k _ _ (.d (.list (cutD ds l h))) y3 (w3.grow gr) (((g1.trans g2).trans g3).trans (go_grow gr)) ((s1.trans s2).trans s3) (.lst (.inl ⟨w3.new hp, .inl upd_same⟩) ((rpA_cut c2.ds l h).go (go_grow (F := F) (σ := σ) (y := y3) gr))) hq
end
/-! ### draws with further arguments that hand out things that are new -/
def oaSp (K : Fg) (n : Nat) (pre : List D → Prop) (cost : Nat) (post : List D → Z → List (Addr × Cell) → Prop) : Sp := fun vs H Q _ => ∃ (M : Addr → Prop) (p : Addr) (m : Nat) (us : List V) (ds : List D), vs = .ref p :: us ∧ M p ∧ (∀ a, M a → H a ≠ none) ∧ PuOk H p m ∧ cost ≤ m ∧ RpA K M H us ds ∧ ds.length = n ∧ pre ds ∧
  ∀ z nw v H', post ds z nw → (∀ a o, a ≠ p → H a = some o → H' a = some o) → PuOk H' p (m - cost) → (∀ e ∈ nw, H e.1 = none) → (nw.Pairwise fun e e' => e.1 ≠ e'.1) →
    (∀ e ∈ nw, CellOk K (fun a => M a ∨ ∃ e ∈ nw, e.1 = a) H' e.1 e.2) → Rw K (fun a => M a ∨ ∃ e ∈ nw, e.1 = a) H' v z → Q v H'
theorem oa_call {C : Ct} {F : Fr} {σ : St} {y : S} {H H' : Hp} {p : Addr} {b : Bool} {m0 k : Nat} {j : Nat} {nw : List (Addr × Cell)} (wd : Wd C F σ y H) (hj : y.m[j]? = some ⟨p, b, .pu m0⟩) (kp : ∀ a o, a ≠ p → H a = some o → H' a = some o) (pk : PuOk H' p k) (fr : ∀ e ∈ nw, H e.1 = none) (pw : nw.Pairwise fun e e' => e.1 ≠ e'.1)
    (cs : ∀ e ∈ nw, CellOk C.K (fun a => Mv F σ y a ∨ ∃ e ∈ nw, e.1 = a) H' e.1 e.2) : Wd C F σ ⟨y.l, y.m.set j ⟨p, b, .pu k⟩ ++ toCl true nw⟩ H' ∧ Go F σ y H σ ⟨y.l, y.m.set j ⟨p, b, .pu k⟩ ++ toCl true nw⟩ H' ∧ Sh y ⟨y.l, y.m.set j ⟨p, b, .pu k⟩ ++ toCl true nw⟩ ∧
      ∀ {v : V} {z : Z}, Rw C.K (fun a => Mv F σ y a ∨ ∃ e ∈ nw, e.1 = a) H' v z → Rw C.K (Mv F σ ⟨y.l, y.m.set j ⟨p, b, .pu k⟩ ++ toCl true nw⟩) H' v z := by
  have hmm : (⟨p, b, .pu m0⟩ : Cl) ∈ y.m := List.mem_of_getElem? hj
  have pd : DomW y.m p := ⟨_, hmm, rfl, rfl⟩
  have lvp : H' p ≠ none := by
    obtain ⟨x, b, c, e, _⟩ := pk
    rw [e]; simp
  have inset : ∀ e ∈ y.m.set j ⟨p, b, .pu k⟩, e.a = p → e = ⟨p, b, .pu k⟩ := fun e he hq => by
    obtain ⟨i', hi'⟩ := List.getElem?_of_mem he
    have pws := pw_set wd.dist hj (e' := ⟨p, b, .pu k⟩) rfl
    obtain ⟨hl, _⟩ := List.getElem?_eq_some_iff.mp hj
    have hjj : (y.m.set j ⟨p, b, .pu k⟩)[j]? = some ⟨p, b, .pu k⟩ := List.getElem?_set_self hl
    by_cases n : i' = j
    · subst n; rw [hjj] at hi'; cases hi'; rfl
    · exfalso
      rw [List.pairwise_iff_getElem] at pws
      obtain ⟨hi1, hi2⟩ := List.getElem?_eq_some_iff.mp hi'
      obtain ⟨hj1, hj2⟩ := List.getElem?_eq_some_iff.mp hjj
      rcases Nat.lt_or_gt_of_ne n with n | n
      · have := pws i' j hi1 hj1 n; rw [hi2, hj2] at this; exact this hq
      · have := pws j i' hj1 hi1 n; rw [hi2, hj2] at this; exact this hq.symm
  have old : ∀ e ∈ y.m.set j ⟨p, b, .pu k⟩, ∃ e0 ∈ y.m, e0.a = e.a ∧ (e.own = true → e0.own = true) ∧ (e.c.isRo = false → e0.c.isRo = false) := fun e he => by
    rcases mem_set_or he with he | he
    · subst he; exact ⟨_, hmm, rfl, fun z => z, fun _ => rfl⟩
    · exact ⟨e, he, rfl, fun z => z, fun z => z⟩
  have mvs : ∀ a, Mv F σ ⟨y.l, y.m.set j ⟨p, b, .pu k⟩ ++ toCl true nw⟩ a → Mv F σ y a ∨ ∃ e ∈ nw, e.1 = a := fun a z => by
    rcases z with z | ⟨e2, h2, h3⟩
    · exact .inl (.inl z)
    · rcases List.mem_append.mp h2 with h2 | h2
      · obtain ⟨e0, q1, q2, _⟩ := old e2 h2
        exact .inl (.inr ⟨e0, q1, q2.trans h3⟩)
      · obtain ⟨e3, h4, rfl⟩ := List.mem_map.mp h2
        exact .inr ⟨e3, h4, h3⟩
  have key := wd.store (m := y.m.set j ⟨p, b, .pu k⟩ ++ toCl true nw) (H' := H') (fun a o n e => kp a o (fun z => n (z ▸ pd)) e)
    (fun a ⟨e, h1, h2⟩ z => by
      by_cases ha : a = p
      · exact lvp (ha ▸ z)
      · cases r : H a with
        | none => exact (wd.cell e h1).live (h2 ▸ r)
        | some o => rw [kp a o ha r] at z; cases z)
    (fun e he => by
      rcases List.mem_append.mp he with he | he
      · exact .inl (old e he)
      · obtain ⟨e', h1, rfl⟩ := List.mem_map.mp he
        exact .inr (fr e' h1))
    (by
      rw [List.pairwise_append]
      refine ⟨pw_set wd.dist hj rfl, by unfold toCl; rw [List.pairwise_map]; exact pw, fun e he e2 he2 z => ?_⟩
      obtain ⟨e', h1', rfl⟩ := List.mem_map.mp he2
      obtain ⟨e0, q1, q2, _⟩ := old e he
      exact (wd.cell e0 q1).live (by rw [q2, z]; exact fr e' h1'))
    (fun g e he => by
      rcases List.mem_append.mp he with he | he
      · by_cases hq : e.a = p
        · rw [inset e he hq]; exact pk
        · rcases mem_set_or he with he | he
          · subst he; exact absurd rfl hq
          · exact (wd.cell e he).go g fun o r => kp _ _ hq r
      · obtain ⟨e', h1', rfl⟩ := List.mem_map.mp he
        exact (cs e' h1').go (fun a o n e => ⟨fun z => n (mvs a z), e⟩) fun _ r => r)
  refine ⟨key.1, key.2, ⟨rfl, toCl true nw, ?_⟩, fun rv => rv.go fun a o n e => ⟨fun z => n (mvs a z), e⟩⟩
  show ao (y.m.set j ⟨p, b, .pu k⟩ ++ toCl true nw) = ao y.m ++ ao (toCl true nw)
  unfold ao
  rw [List.map_append]
  congr 1
  apply List.ext_getElem?
  intro i'
  by_cases n : i' = j
  · subst n
    obtain ⟨hl, _⟩ := List.getElem?_eq_some_iff.mp hj
    rw [List.getElem?_map, List.getElem?_map, List.getElem?_set_self hl, hj]
    rfl
  · rw [List.getElem?_map, List.getElem?_map, List.getElem?_set_ne (Ne.symm n)]
theorem wE_oa {C : Ct} {y : S} {ts : TA} {E : XK} {Q : Z → S → Prop} {n : Nat} {pre : List D → Prop} {cost : Nat} {post : List D → Z → List (Addr × Cell) → Prop}
    (w : wZ C ts y fun zs y1 => ∃ (p : Addr) (ds : List D) (j : Nat) (b : Bool) (m0 : Nat), zs = .lab p :: ds.map Z.d ∧ y1.m[j]? = some (⟨p, b, .pu m0⟩ : Cl) ∧ cost ≤ m0 ∧ ds.length = n ∧ pre ds ∧ ∀ z nw, post ds z nw → Q z ⟨y1.l, y1.m.set j ⟨p, b, .pu (m0 - cost)⟩ ++ toCl true nw⟩) : wE C (tCall (oaSp C.K n pre cost post) [] E ts) y Q := by
  intro F σ H K wd k
  refine w F σ H _ wd fun vs H1 zs y1 w1 g1 s1 r1 ⟨p, ds, j, b, m0, e1, hj, hm, hn, hp, q⟩ => ?_
  subst e1
  cases r1 with | @cons v _ us _ ra rb =>
  cases ra
  have hmm : (⟨p, b, .pu m0⟩ : Cl) ∈ y1.m := List.mem_of_getElem? hj
  show oaSp C.K n pre cost post ((.ref p :: us) ++ []) H1 K E
  rw [List.append_nil]
  refine ⟨Mv F σ y1, p, m0, us, ds, rfl, .inr ⟨_, hmm, rfl⟩, fun a m e => w1.new e m, w1.cell _ hmm, hm, rb.ds, hn, hp, fun z nw v H' hz kp pk fr pw cs rv => ?_⟩
  obtain ⟨w2, g2, s2, rw2⟩ := oa_call w1 hj kp pk fr pw cs
  exact k v H' z _ w2 (g1.trans g2) (s1.trans s2) (Rw.z (rw2 rv)) (q z nw hz)
end Ux
namespace Ux
theorem Less.trans {a b c : S} (h : Less a b) (h' : Less b c) : Less a c := ⟨h.1.trans h'.1, fun i z e => h'.2.1 i z (h.2.1 i z e), h.2.2.trans h'.2.2⟩
end Ux

set_option maxRecDepth 100000
set_option maxHeartbeats 4000000
namespace Ux
open PySem PySem.Spec PyProof.Rows L2 Tq
/-! ### divmod -/
section
variable {C : Ct} {y : S} {ts : TA} {ta tb : TE} {Q : Z → S → Prop}
end
end Ux

set_option maxRecDepth 100000
set_option maxHeartbeats 4000000
namespace Ux
open PySem PySem.Spec PyProof.Rows L2 Tq
/-! ### a thing of the store lent as it is at present, to a test that changes nothing -/
section
variable {C : Ct} {y : S} {te : TE} {Q : Z → S → Prop}
theorem wE_rev1 (w : wE C te y fun z y1 => ∃ xs, z = .d (.list xs) ∧ Q (.d (.list xs.reverse)) y1) : wE C (tRev1 C.K te) y Q := by
  intro F σ H K wd k
  refine w F σ H _ wd fun x H1 z y1 w1 g1 s1 r1 ⟨xs, ez, q⟩ => ?_
  subst ez
  obtain ⟨a, us, rfl, h1, h2⟩ := rp_lst r1
  refine ⟨a, us, rfl, h1.sq, fun p hp => ?_⟩
  have gr := grow_upd (o := .lst us.reverse) hp
  exact k _ _ (.d (.list xs.reverse)) y1 (w1.grow gr) (g1.trans (go_grow gr)) s1 (.lst (.inl ⟨w1.new hp, .inl upd_same⟩) (h2.rev.go (go_grow (F := F) (σ := σ) (y := y1) gr))) q
end
theorem ite_join {c : Bool} {C : Ct} {tx tz : TS} {y : S} {e : En} (P : S → Prop) (h1 : c = true → wS C tx y { nx := P, rt := fun _ _ => False }) (h2 : c = false → P y) (h : ∀ y, P y → wS C tz y e) :
    if c = true then wS C tx y { nx := fun y2 => wS C tz y2 e, rt := e.rt, bk := e.bk, ct := e.ct } else wS C tz y e := by
  cases c with
  | true => exact itb_t rfl (wS_mono (h1 rfl) (fun y hy => h y hy) (fun _ _ z => z.elim) (fun _ z => z.elim) (fun _ z => z.elim))
  | false => exact itb_f rfl (h y (h2 rfl))
end Ux

set_option maxRecDepth 100000
set_option maxHeartbeats 4000000
namespace Ux
open PySem PySem.Spec PyProof.Rows L2 Tq
/-! ### [e for a, b in .. if ..], plain things alone -/
end Ux

set_option maxRecDepth 100000
set_option maxHeartbeats 4000000
namespace Ux
open PySem PySem.Spec PyProof.Rows L2 Tq
section
variable {C : Ct} {y : S} {te : TE} {Q : Z → S → Prop}
end
end Ux

set_option maxRecDepth 100000
set_option maxHeartbeats 4000000
namespace Ux
open PySem PySem.Spec PyProof.Rows L2 Tq
section
variable {K : Fg} {M : Addr → Prop} {H : Hp}
theorem RwA.rev : ∀ {vs : List V} {zs : List Z}, RwA K M H vs zs → RwA K M H vs.reverse zs.reverse
  | [], [], .nil => .nil
  | _ :: _, _ :: _, .cons h t => by
    rw [List.reverse_cons, List.reverse_cons]
    exact (RwA.rev t).app (.cons h .nil)
end
section
variable {C : Ct} {y : S} {e : En}
end
end Ux

set_option maxRecDepth 100000
set_option maxHeartbeats 4000000
namespace Ux
open PySem PySem.Spec PyProof.Rows L2 Tq
/-! ### a thing lent to a test, the plain slots told too -/
/-! ### x.pop() -/
/-! ### x[n].append(e) -/
/-! ### repr of a tuple, a list, with labels in it -/
inductive ResT (m : List Cl) : Z → D → Prop
  | r {z : Z} {d : D} : Res m z d → ResT m z d
  | tup {zs : List Z} {ds : List D} : ResA m zs ds → ResT m (.tup zs) (.tuple ds)
  | lst {zs : List Z} {ds : List D} : ResA m zs ds → ResT m (.lst zs) (.list ds)
theorem ResT.rp {K : Fg} {F : Fr} {σ : St} {y : S} {H : Hp} {v : V} {z : Z} {d : D} (w : Wd0 K F σ y H) (h : ResT y.m z d) (r : Rw K (Mv F σ y) H v z) : Rp K (MvX F σ y) H v d := by
  have g : GoH (Mv F σ y) H (MvX F σ y) H := fun a o n e => ⟨fun z => n z.1, e⟩
  cases h with
  | r h => exact Res.rp w h r
  | tup h =>
    cases r with
    | tup h1 h2 => exact .tup (h1.go g) (ResA.rp w h h2)
  | lst h =>
    cases r with
    | lst h1 h2 => exact .lst (h1.go g) (ResA.rp w h h2)
end Ux

set_option maxRecDepth 100000
set_option maxHeartbeats 4000000
namespace Ux
open PySem PySem.Spec PyProof.Rows L2 Tq
/-! ### tuples with labels in them handed to defs over data; tuples told by them -/
mutual
def scT : D → Bool
  | .tuple ds => scTs ds
  | .list _ | .dict _ => false
  | _ => true
def scTs : List D → Bool
  | [] => true
  | d :: ds => scT d && scTs ds
end
inductive ResTA (m : List Cl) : List Z → List D → Prop
  | nil : ResTA m [] []
  | cons {z : Z} {d : D} {zs : List Z} {ds : List D} : ResT m z d → ResTA m zs ds → ResTA m (z :: zs) (d :: ds)
theorem ResTA.rp {K : Fg} {F : Fr} {σ : St} {y : S} {H : Hp} (w : Wd0 K F σ y H) : ∀ {vs : List V} {zs : List Z} {ds : List D}, ResTA y.m zs ds → RwA K (Mv F σ y) H vs zs → RpA K (MvX F σ y) H vs ds
  | _, _, _, .nil, .nil => .nil
  | _, _, _, .cons a b, .cons c d => .cons (a.rp w c) (b.rp w d)
theorem cell_notup {K : Fg} {M : Addr → Prop} {H : Hp} {a : Addr} {c : Cell} (h : CellOk K M H a c) (xs : List V) : ¬ Rd H a (.tup xs) := by
  induction c with
  | lst zs => obtain ⟨us, h1, _⟩ := h; rintro (q | ⟨o, q⟩) <;> (rw [h1] at q; cases q)
  | dic kvs => obtain ⟨us, h1, _⟩ := h; rintro (q | ⟨o, q⟩) <;> (rw [h1] at q; cases q)
  | ins _ _ _ => obtain ⟨_, us, h1, _⟩ := h; rintro (q | ⟨o, q⟩) <;> (rw [h1] at q; cases q)
  | pu n => obtain ⟨_, _, _, h1, _⟩ := h; rintro (q | ⟨o, q⟩) <;> (rw [h1] at q; cases q)
  | ro _ ih => exact ih h
mutual
theorem sct_rp {K : Fg} {F : Fr} {σ : St} {y : S} {H : Hp} (w : Wd0 K F σ y H) : ∀ {v : V} {d : D}, scT d = true → Rp K (MvX F σ y) H v d → Rp K (Mv F σ y) H v d
  | _, _, _, .non => .non
  | _, _, _, .bl b => .bl b
  | _, _, _, .int b => .int b
  | _, _, _, .str b => .str b
  | _, _, h, .lst _ _ => by cases h
  | _, _, h, .dic _ _ _ => by cases h
  | _, _, h, .tup h1 h2 => by
    refine .tup (h1.elim (fun q => .inl ⟨fun hm => q.1 ⟨hm, fun ⟨e, he, ea⟩ => ?_⟩, q.2⟩) .inr) (sct_rpA w h h2)
    subst ea
    exact cell_notup (w.cell e he) _ q.2
theorem sct_rpA {K : Fg} {F : Fr} {σ : St} {y : S} {H : Hp} (w : Wd0 K F σ y H) : ∀ {vs : List V} {ds : List D}, scTs ds = true → RpA K (MvX F σ y) H vs ds → RpA K (Mv F σ y) H vs ds
  | _, _, _, .nil => .nil
  | _, _, h, .cons a b => by
    have h := h
    rw [scTs, Bool.and_eq_true] at h
    exact .cons (sct_rp w h.1 a) (sct_rpA w h.2 b)
end
section
variable {X : Cx} {k : Nat} {x : Str} {ps : List Str} {sp : Sp} {p pos : Pos} {e : Expr} {es : List Expr} {t : TA}
end
section
variable {C : Ct} {y : S} {ts : TA} {te ta tb : TE} {Q : Z → S → Prop} {E : XK} {n : Nat} {pre : List D → Prop} {post : List D → D → Prop}
end
/-! ### a list of our own, read by places -/
def rIxL (K : Fg) : R2 := rIx K
theorem wE_ixL {C : Ct} {y : S} {ta tb : TE} {Q : Z → S → Prop} (w : wE C ta y fun z y1 => wE C tb y1 fun z' y2 => ∃ (p : Addr) (b : Bool) (j : Nat) (zs : List Z) (i : Int) (u : Z), z = .lab p ∧ y2.m[j]? = some ⟨p, b, .lst zs⟩ ∧ z' = .d (.int i) ∧ atI zs i = some u ∧ Q u y2) : wE C (tOp (rIxL C.K) ta tb) y Q := by
  intro F σ H K wd k
  refine w F σ H _ wd fun x H1 z y1 w1 g1 s1 r1 q1 => ?_
  refine q1 F σ H1 _ w1 fun x2 H2 z' y2 w2 g2 s2 r2 q2 => ?_
  obtain ⟨p, b, j, zs, i, u, rfl, hj, rfl, hi, hq⟩ := q2
  have ey := rp_int r2
  cases r1.w with
  | lab a =>
    obtain ⟨us, c1, c2⟩ := (w2.cell _ (List.mem_of_getElem? hj) : CellOk C.K (Mv F σ y2) H2 p (.lst zs))
    obtain ⟨v, e, rv⟩ := atI_rw c2 hi
    exact .inl ⟨_, _, i, v, rfl, ey, .inl (.inl c1), e, k _ H2 u y2 w2 (g1.trans g2) (s1.trans s2) rv.z hq⟩
end Ux

set_option maxRecDepth 100000
set_option maxHeartbeats 4000000
namespace Tq
open PySem PySem.Spec PyProof.Rows L2
open PySem.Builtin.Str (occurrences subAt strSub)
/-! ### texts taken apart at a sign -/
section
variable {C : Ct} {y : S} {ta tb : TE} {Q : Z → S → Prop}
end
/-! ### what the parts are -/
end Tq

set_option maxRecDepth 100000
set_option maxHeartbeats 4000000
namespace Ux
open PySem PySem.Spec PyProof.Rows L2 Tq
section
variable {C : Ct} {y : S} {ta tb : TE} {Q : Z → S → Prop}
end
section
variable {C : Ct} {y : S} {ta tb : TE} {Q : Z → S → Prop}
theorem wE_in {neg : Bool} (w : wE C ta y fun z y1 => wE C tb y1 fun z' y2 => ∃ d ds, z = .d d ∧ (z' = .d (.tuple ds) ∨ z' = .d (.list ds)) ∧ flatD d = true ∧ ds.all flatD = true ∧ Q (.d (.bool (if neg then !inD d ds else inD d ds))) y2) : wE C (tOp (rIn C.K neg) ta tb) y Q := by
  refine wE_op (res := fun d e r => ∃ ds, (e = .tuple ds ∨ e = .list ds) ∧ flatD d = true ∧ ds.all flatD = true ∧ r = .bool (if neg then !inD d ds else inD d ds)) ?_ (wE_mono w fun z y1 h => wE_mono h fun z' y2 ⟨d, ds, e1, e2, f1, f2, q⟩ => ?_)
  · rintro M H x y d e r Q _ rx ry ⟨ds, he, f1, f2, rfl⟩ k
    rcases he with rfl | rfl
    · obtain ⟨a, us, rfl, h1, h2⟩ := rp_tup ry
      obtain ⟨h3, h4⟩ := inD_rp rx f1 h2 f2
      refine ⟨a, us, rfl, .inr h1.sq, flat_rp rx f1, h3, ?_⟩
      rw [h4]
      exact k _ H (fun _ _ e => e) (.bl _)
    · obtain ⟨a, us, rfl, h1, h2⟩ := rp_lst ry
      obtain ⟨h3, h4⟩ := inD_rp rx f1 h2 f2
      refine ⟨a, us, rfl, .inl h1.sq, flat_rp rx f1, h3, ?_⟩
      rw [h4]
      exact k _ H (fun _ _ e => e) (.bl _)
  · rcases e2 with rfl | rfl
    · exact ⟨_, _, _, e1, rfl, ⟨ds, .inl rfl, f1, f2, rfl⟩, q⟩
    · exact ⟨_, _, _, e1, rfl, ⟨ds, .inr rfl, f1, f2, rfl⟩, q⟩
theorem wE_inT (w : wE C ta y fun z y1 => wE C tb y1 fun z' y2 => ∃ d ds, z = .d d ∧ (z' = .d (.tuple ds) ∨ z' = .d (.list ds)) ∧ flatD d = true ∧ ds.all flatD = true ∧ Q (.d (.bool (inD d ds))) y2) : wE C (tOp (rIn C.K false) ta tb) y Q := wE_in w
end
end Ux

set_option maxRecDepth 100000
set_option maxHeartbeats 4000000
namespace Tq
open PySem PySem.Spec PyProof.Rows L2
/-! ### the row of a fraction's root -/
/-- how a root stands to a / b: the sign of this -/
def eR (A B a b : Int) : Int := A * b * b - a * a * B
def sgL (n : Nat) : Int := if n % 2 = 0 then 1 else -1
def dR (A B : Int) (n : Nat) (m : Mx) : Int := -sgL n * eR A B m.a m.c
def wR (A B : Int) (n : Nat) (m : Mx) : Int := -sgL n * (m.a * m.b * B - m.c * m.d * A)
def cR (A B : Int) (n : Nat) (m : Mx) : Int := -sgL n * eR A B m.b m.d
/-- a beginning of the row of the root -/
structure Beg (A B : Int) (n : Nat) (m : Mx) : Prop where
  det : m.a * m.d - m.b * m.c = sgL n
  near : 0 ≤ dR A B n m
  far : 1 ≤ n → dR A B n m - 2 * wR A B n m + cR A B n m < 0
  back : cR A B n m ≤ 0
/-! ### the greatest whole number whose square is no greater -/
/-! ### the row -/
/-- a beginning of the root's row -/
structure BegL (A B : Int) (ts : List Int) : Prop where
  beg : Beg A B ts.length (turnL ts)
  pos : Pos1 ts
  all0 : ∀ t ∈ ts, 0 ≤ t ∧ t ≤ 2 * 10 ^ 12
  zero : ts.length = 0 → wR A B ts.length (turnL ts) = 0
  last : 2 ≤ ts.length → ts.getLast? = some 1 → dR A B ts.length (turnL ts) ≠ 0
/-! ### x *= e -/
/-! ### roots step by step -/
theorem BegL.bd {A B : Int} {ts : List Int} (h : BegL A B ts) : ∀ t ∈ ts, Bd 13 t := fun t ht => by
  have := h.all0 t ht
  unfold Bd
  omega
theorem BegL.tb {A B : Int} {ts : List Int} (h : BegL A B ts) (hl : ts.length ≤ 61) : TB ts := ⟨by omega, h.bd⟩
/-! ### the row, also below nought -/
end Tq

set_option maxRecDepth 100000
set_option maxHeartbeats 4000000
namespace Tq
open PySem PySem.Spec PyProof.Rows L2
/-! ### fractions shown -/
end Tq

set_option maxRecDepth 100000
set_option maxHeartbeats 4000000
namespace Ux
open PySem PySem.Spec PyProof.Rows L2 Tq
/-! ### things that may grow by a 9 -/
abbrev nin (k : Nat) : List D := List.replicate k (.int 9)
def shXB (d : D) : Bool := sw2 d && decide (d.depth ≤ 60) && decide (d.shown.length ≤ sizeLine)
theorem shXB_ok {d : D} (h : shXB d = true) : ShX d := by
  unfold shXB at h
  rw [Bool.and_eq_true, Bool.and_eq_true] at h
  exact ⟨h.1.1, of_decide_eq_true h.1.2, of_decide_eq_true h.2⟩
def sh3 (d : D) : Prop := ShX d ∧ ShX (.tuple [.str "fraction", d]) ∧ ShX (.tuple [.str "number", d])
theorem sh3_ok {d : D} (h : (shXB d && shXB (.tuple [.str "fraction", d]) && shXB (.tuple [.str "number", d])) = true) : sh3 d := by
  rw [Bool.and_eq_true, Bool.and_eq_true] at h
  exact ⟨shXB_ok h.1.1, shXB_ok h.1.2, shXB_ok h.2⟩
inductive OV (k : Nat) : Z → List Cl → D → Prop
  | pl (d : D) (h1 : isT "list" d = false) (h2 : sh3 d) : OV k (.d d) [] d
  | ls (a : Addr) (ds : List D) (h : ∀ j ≤ 1, sh3 (.list (ds ++ nin j))) (h4 : ds.length ≤ 10) : OV k (.lab a) [⟨a, true, .lst ((ds ++ nin k).map Z.d)⟩] (.list (ds ++ nin k))
  | dc (a : Addr) : OV k (.lab a) [⟨a, true, .dic []⟩] (.dict [])
theorem sh3_dict0 : sh3 (.dict []) := sh3_ok (by decide +kernel)
theorem OV.sh {k : Nat} {z : Z} {m : List Cl} {d : D} (h : OV k z m d) (hk : k ≤ 1) : sh3 d := by
  cases h with
  | pl _ h1 h2 => exact h2
  | ls _ _ h _ => exact h k hk
  | dc _ => exact sh3_dict0
theorem OV.res {k : Nat} {z : Z} {m n : List Cl} {d : D} (h : OV k z m d) (hs : m ⊆ n) : Res n z d := by
  cases h with
  | pl _ h1 h2 => exact .d _
  | ls a ds _ _ => exact .lab (e := ⟨a, true, .lst ((ds ++ nin k).map Z.d)⟩) (hs List.mem_cons_self) (.lst _)
  | dc a => exact .lab (e := ⟨a, true, .dic []⟩) (hs List.mem_cons_self) (.dic [])
theorem seq_join {C : Ct} {tx tz : TS} {y : S} {e : En} (P : S → Prop) (h1 : wS C tx y { nx := P, rt := fun _ _ => False }) (h : ∀ y, P y → wS C tz y e) : wS C (tSeq tx tz) y e :=
  wS_seq (wS_mono h1 (fun y hy => h y hy) (fun _ _ z => z.elim) (fun _ z => z.elim) (fun _ z => z.elim))
/-! ### x != y, labels in both -/
def rNeT (K : Fg) : R2 := rNeD K
theorem neTK {X : Cx} (K : Fg) (hu : X.A.units + 64 < cLine) (h : X.K = K := by rfl) : OpR X (compareOp .NotEq) (rNeT K) := neK K hu h
end Ux
namespace Ux
open PySem PySem.Spec PyProof.Rows L2 Tq
end Ux

set_option maxRecDepth 100000
set_option maxHeartbeats 4000000
/-! own objects without fields, or that never change: made, their methods called -/
namespace Ux
open PySem PySem.Spec PyProof.Rows L2 Tq
theorem object_init_codes {prog : Program} {w : World} {A : Around} {s : Shared} {K : Fg} {x C : Addr} {ox : Obj} {od : Option Obj} {R : Result → Shared → Prop} (X : K.In s.heap) (I : PySem.W.InstAt s.heap x ox C od) (hp : PySem.W.plainOver K C = true)
    (h : R (.ok (.ret .none)) s) : codeAny (model prog w) A (.call (.builtin "object.__init__") ⟨[.ref x], []⟩) R s := by
  obtain ⟨cd, hc, ho⟩ := PySem.W.any_some hp
  have ne : cd.mro.isEmpty = false := by cases q : cd.mro with | nil => rw [q] at ho; cases ho | cons _ _ => rfl
  have sub : PySem.W.Looks (model prog w) s.heap (isInstance (.ref x) (.type "object")) true := I.type.andThen (PySem.W.looks_mroIn X (by unfold PySem.W.mroIn; rw [hc, Option.bind_some, if_neg (by rw [ne]; decide), PySem.W.only_has ho]))
  have hk : builtinKind "object.__init__" = some .slot := by kernel_rfl
  have hs : splitId "object.__init__" = some ("object", "__init__") := by kernel_rfl
  refine codeAny_call_builtin PySem.F.slot_object_init.plain PySem.F.entry_object_init (@PySem.W.check_slot (model prog w) _ _ s "object.__init__" "object" "__init__" (.ref x) [] [] _ hk hs sub (PySem.F.args_object_init_1 (.ref x)) ?_)
  unfold Builtin.«object.__init__»
  exact wpAny_pure h
/-- what a class without __init__ must have to be made -/
structure Mk0 (K : Fg) (C : Addr) : Prop where
  makes : PySem.W.makesIn K C = true
  init : PySem.W.findIn K (.ref C) "__init__" = some (some (.builtin "object.__init__"))
  po : PySem.W.plainOver K C = true
  kp : PySem.W.keepIn K (.ref C) = true
def tMk0 (C : Addr) : TE := fun σ H Q => ∀ x dx, H x = none → H dx = none → dx ≠ x → Q (.ref x) (upd (upd H dx (.own x)) x (.ins C dx []))
theorem pe_mk0 {X : Cx} {C : Addr} {x : Str} {p pos : Pos} (M : Mk0 X.K C) (hg : Gl X x) (hm : X.mg x = some (.ref C)) (hdb : (x == ("__debug__" : Str)) = false := by decide) : PE X (.Call (.Name x p) [] [] pos) (tMk0 C) := by
  refine ⟨fun pins s σ H Q I h => ?_⟩
  refine wpAny_Call_Name_kw (ld_glob I hg hm ?_ hdb)
  refine PySem.W.callWith_K0 I.kIn M.kp ?_
  have hq := h (s.heap.objs.size + 1) s.heap.objs.size (I.hok.fresh (Nat.le_succ _)) (I.hok.fresh (Nat.le_refl _)) (Nat.ne_of_lt (Nat.lt_succ_self _))
  have I2 := Inv.made (C := C) I
  obtain ⟨mA, O, _, _, _, _⟩ := ins_get I2.hok upd_same
  obtain ⟨od, J, _⟩ := O.look
  refine wpAny_call (make_map0 I.kIn M.makes M.init (fun self => PySem.W.Looks.of_pure (PySem.F.slot_object_init.bind self)) (object_init_codes I2.kIn J M.po ?_))
  exact ⟨rfl, ⟨V.ref (s.heap.objs.size + 1), _, I2, rfl, hq⟩⟩
/-! ### methods, by the class that an object has -/
structure VMeth (P : Program) (w : World) (K : Fg) (mg : Str → Option Value) (base : Heap) (CX : CXT) (k : Nat) (m : Str) (C : Addr) (sp : Sp) : Prop where
  cls : Cls K C
  ex : ∃ (f : Addr) (fd : FuncData) (ps : List Str), Meth K C m f ∧ FnG P w K mg base CX k f fd ps sp ∧ Binds K fd ps []
def VTab (P : Program) (w : World) (K : Fg) (mg : Str → Option Value) (base : Heap) (CX : CXT) (k : Nat) (m : Str) (tab : List (Addr × Sp)) : Prop := ∀ e ∈ tab, VMeth P w K mg base CX k m e.1 e.2
theorem VTab.nil {P : Program} {w : World} {K : Fg} {mg : Str → Option Value} {base : Heap} {CX : CXT} {k : Nat} {m : Str} : VTab P w K mg base CX k m [] := fun _ h => nomatch h
theorem VTab.cons {P : Program} {w : World} {K : Fg} {mg : Str → Option Value} {base : Heap} {CX : CXT} {k : Nat} {m : Str} {C : Addr} {sp : Sp} {tab : List (Addr × Sp)} (a : VMeth P w K mg base CX k m C sp) (b : VTab P w K mg base CX k m tab) : VTab P w K mg base CX k m ((C, sp) :: tab) := fun e h => by
  rcases List.mem_cons.mp h with rfl | h
  · exact a
  · exact b e h
/-- a def of a class, as the top has it -/
structure MFn (K : Fg) (x qual : Str) (st : Stmt) (ps : List Str) (f : Addr) : Prop where
  ex : ∃ fd : FuncData, Fun K x qual st f fd ∧ Binds K fd ps []
structure MCal (P : Program) (w : World) (K : Fg) (mg : Str → Option Value) (base : Heap) (CX : CXT) (k : Nat) (ps : List Str) (sp : Sp) (f : Addr) : Prop where
  ex : ∃ fd : FuncData, FnG P w K mg base CX k f fd ps sp ∧ Binds K fd ps []
section
variable {P : Program} {w : World} {K : Fg} {mg : Str → Option Value} {base : Heap} {CX : CXT} {j k : Nat} {x qual : Str} {ps N : List Str} {sp : Sp} {st : Stmt} {C f : Addr}
theorem VMeth.of (c : Cls K C) (m : Meth K C x f) (F : MCal P w K mg base CX j ps sp f) (h : j ≤ k) : VMeth P w K mg base CX k x C sp :=
  let ⟨fd, h1, h2⟩ := F.ex
  ⟨c, f, fd, ps, m, h1.mono h, h2⟩
theorem MFn.ok (d : MFn K x qual st ps f) (Sc : FnScope N ps (defScope st)) (len : ∀ vs H Q E, sp vs H Q E → vs.length = ps.length)
    (hbody : ∀ (cdv : Value) (A : Around) (outer : List Env) (s : Shared) (H : Hp) (vs : List V) (Q : VK) (E : XK), Room k (A.deeper (envOfC qual (defScope st) s.heap.objs.size f cdv)) →
      (A.deeper (envOfC qual (defScope st) s.heap.objs.size f cdv)).guards = some [] → sp vs H Q E →
      ∃ t, PSs (cxOf CX0 P w K mg base N qual (defScope st) f cdv A outer s H E).nox (defBody st) t ∧ t { nx := fun _ G => Q .non G, rt := Q } (start N vs) H) : MCal P w K mg base CX0 (k + 1) ps sp f := by
  obtain ⟨fd, F, hb⟩ := d.ex
  exact ⟨fd, okG F Sc len hbody, hb⟩
theorem MFn.okX (d : MFn K x qual st ps f) (Sc : FnScope N ps (defScope st)) (len : ∀ vs H Q E, sp vs H Q E → vs.length = ps.length)
    (hbody : ∀ (cdv : Value) (A : Around) (outer : List Env) (s : Shared) (H : Hp) (vs : List V) (Q : VK) (E : XK), Room k (A.deeper (envOfC qual (defScope st) s.heap.objs.size f cdv)) →
      (A.deeper (envOfC qual (defScope st) s.heap.objs.size f cdv)).guards = some [] → sp vs H Q E →
      ∃ t, PSs (cxOf (L2.CX P w) P w K mg base N qual (defScope st) f cdv A outer s H E) (defBody st) t ∧ t { nx := fun _ G => Q .non G, rt := Q } (start N vs) H) : MCal P w K mg base (L2.CX P w) (k + 1) ps sp f := by
  obtain ⟨fd, F, hb⟩ := d.ex
  obtain ⟨oc, od, kV, doc, pm, an, cdv, ct, osl, rfl, lk, hcd⟩ := F.ex
  exact ⟨_, Tq.fn_ofG lk hcd Sc len fun A outer s H vs Q E hr hgu hsp => hbody cdv A outer s H vs Q E hr hgu hsp, hb⟩
end
theorem mfn_mk {K : Fg} {h : Heap} {x qual : Str} {st : Stmt} {ps : List Str} {f : Addr} {od an : Option Addr} {sl : Array (Option Value)} {oc kV dc pm cd ct : Value} (X : K.In h)
    (hb : ∀ (kV dc pm : Value) (an : Option Addr) (cd ct : Value) (us : List Value), us.length = ps.length → bindArgs (PySem.W.fnOf x qual (defArgs st) (defBody st) (defScope st) .none kV dc pm an cd ct) ⟨us, []⟩ = pure (ps.zip us))
    (l : K.lookup f = some ⟨oc, od, .func (PySem.W.fnOf x qual (defArgs st) (defBody st) (defScope st) .none kV dc pm an cd ct), sl⟩) (c : PySem.W.codeIn K cd qual = true) (k : PySem.W.keepIn K (.ref f) = true) : MFn K x qual st ps f :=
  ⟨_, fun_mk l c k, (fun_mk l c k).binds hb⟩
/-- the n-th def of a class -/
def clsFnN (n : Nat) : Stmt → Stmt
  | .ClassDef _ _ _ b _ _ _ _ _ _ _ => b.getD n (.Pass ⟨0, 0, 0, 0⟩)
  | s => s
def tMethU (tab : List (Addr × Sp)) (m : Str) (E : XK) (ta : TE) (t : TA) : TE := fun σ H Q => ta σ H fun x H1 => ∃ a C dx fs sp, x = .ref a ∧ H1 a = some (.ins C dx fs) ∧ fs.lookup m = none ∧ (C, sp) ∈ tab ∧ t σ H1 fun vs H2 => sp (x :: vs) H2 Q E
section
variable {X : Cx} {o e : Expr} {es : List Expr} {ta : TE} {t : TA} {k : Nat} {m : Str} {tab : List (Addr × Sp)} {p pos apos : Pos}
theorem pe_methU {pl : Sem Bool} (V : VTab X.prog X.w X.K X.mg X.base CX0 k m tab) (hr : Room k X.A) (hgu : X.A.guards = some []) (he : PE X o ta) (ha : PA X (e :: es) t)
    (hst : starEach (e :: es) X.env = (false, eval e X.env) :: starEach es X.env := by rfl) (hpl : (backTo pos (starEach es X.env)).any (·.1) = false := by rfl)
    (ht : eval (.Call (.Attribute o m apos) (e :: es) [] pos) X.env = (do
      let ov ← eval o X.env
      standAt apos.atName
      let (f, first) ← holding [ov] (getMethod ov m pl)
      callWith pos f first (backTo pos (starEach (e :: es) X.env)) (backToKw pos (keywordEach [] X.env))) := by rfl) :
    PE X (.Call (.Attribute o m apos) (e :: es) [] pos) (tMethU tab m E0 ta t) := by
  refine ⟨fun pins s σ H Q I h => ?_⟩
  refine PySem.W.methodCall_KW (pl := pl) (thn (he.run pins s σ H _ I h) fun u s1 ⟨x, H1, I1, rx, a, C, dx, fs, sp, ex, ea, l, hm, q⟩ => ?_) ht
  subst ex
  obtain rfl : u = Value.ref a := rx
  obtain ⟨c, f, fd, ps, km, F, hb⟩ := V _ hm
  refine getmeth_ok I1 ea c km l ?_
  refine PySem.W.callWith_K (first := [.ref a]) (h₀ := X.base) I.ok.mod.kin km.kp (thn (ha.run pos pins s1 σ H1 _ I1 q) fun us s2 ⟨vs, H2, I2, r, q2⟩ => ⟨I2.kIn, ?_⟩) hst hpl
  exact run_fnG (us := .ref a :: us) (vs := .ref a :: vs) F hr hgu hb .nil pass0 I2 (.cons rfl r) (by rw [List.append_nil]; exact q2)
theorem pe_methU0 {pl : Sem Bool} (V : VTab X.prog X.w X.K X.mg X.base CX0 k m tab) (hr : Room k X.A) (hgu : X.A.guards = some []) (he : PE X o ta)
    (ht : eval (.Call (.Attribute o m apos) [] [] pos) X.env = (do
      let ov ← eval o X.env
      standAt apos.atName
      let (f, first) ← holding [ov] (getMethod ov m pl)
      callWith pos f first (backTo pos (starEach [] X.env)) (backToKw pos (keywordEach [] X.env))) := by rfl) :
    PE X (.Call (.Attribute o m apos) [] [] pos) (tMethU tab m E0 ta tNil) := by
  refine ⟨fun pins s σ H Q I h => ?_⟩
  refine PySem.W.methodCall_KW (pl := pl) (thn (he.run pins s σ H _ I h) fun u s1 ⟨x, H1, I1, rx, a, C, dx, fs, sp, ex, ea, l, hm, q⟩ => ?_) ht
  subst ex
  obtain rfl : u = Value.ref a := rx
  obtain ⟨c, f, fd, ps, km, F, hb⟩ := V _ hm
  refine getmeth_ok I1 ea c km l ?_
  exact PySem.W.callWith_K0 (first := [.ref a]) I1.kIn km.kp (run_fnG (us := [.ref a]) (vs := [.ref a]) F hr hgu hb .nil pass0 I1 (.cons rfl .nil) (by rw [List.append_nil]; exact q))
end
/-! ### objects as values -/
section
variable {C : Ct} {y : S} {te : TE} {ts : TA} {Q : Z → S → Prop}
theorem wE_mk0 {D : Addr} (q : Q (.ob D [] []) y) : wE C (tMk0 D) y Q := by
  intro F σ H K wd k x dx hx hdx ne
  have gr : ∀ a u, H a = some u → upd (upd H dx (.own x)) x (.ins D dx []) a = some u := fun a u e => by
    rw [upd_ne (ne_of_none e hx), upd_ne (ne_of_none e hdx)]; exact e
  exact k _ _ (.ob D [] []) y (wd.grow gr) (go_grow gr) (Sh.refl y) (.ob (xs := []) (wd.new hx) upd_same rfl .nil) q
end
/-- a def of an object without fields and of data: reads alone, raises nothing -/
def obSp {ι : Type} (K : Fg) (cl : ι → Addr) (n : Nat) (pre : ι → List D → Prop) (post : ι → List D → D → Prop) : Sp := fun vs H Q _ => ∃ (i : ι) (M : Addr → Prop) (v : V) (us : List V) (ds : List D), vs = v :: us ∧ (∀ a, M a → H a ≠ none) ∧ Rw K M H v (.ob (cl i) [] []) ∧ RpA K M H us ds ∧ ds.length = n ∧ pre i ds ∧
  ∀ d v' H', post i ds d → (∀ a o, H a = some o → H' a = some o) → Rp K M H' v' d → Q v' H'
abbrev odSp {ι : Type} (K : Fg) (cl : ι → Addr) (n : Nat) (pre : ι → List D → Prop) (f : ι → List D → D) : Sp := obSp K cl n pre fun i ds d => d = f i ds
theorem obSp_len {ι : Type} {K : Fg} {cl : ι → Addr} {n : Nat} {pre : ι → List D → Prop} {post : ι → List D → D → Prop} {ps : List Str} (h : ps.length = n + 1) : ∀ vs H Q E, obSp K cl n pre post vs H Q E → vs.length = ps.length := by
  rintro vs H Q E ⟨i, M, v, us, ds, rfl, _, _, r, l, _⟩
  rw [List.length_cons, r.len, l, h]
theorem ob_body {ι : Type} {cl : ι → Addr} {K : Fg} {N : List Str} {t : TS} {vs : List V} {H : Hp} {Q : VK} {E : XK} {n : Nat} {pre : ι → List D → Prop} {post : ι → List D → D → Prop} (h : obSp K cl n pre post vs H Q E)
    (b : ∀ i ds, ds.length = n → pre i ds → ∀ e : En, (∀ y, post i ds .none → e.nx y) → (∀ d y, post i ds d → e.rt (.d d) y) → wS { K := K } t ⟨l0 N (.ob (cl i) [] [] :: ds.map Z.d), []⟩ e) : t { nx := fun _ G => Q .non G, rt := Q } (start N vs) H := by
  obtain ⟨i, M, v, us, ds, rfl, al, rv, r, l, hp, k⟩ := h
  have rr : RwA K M H (v :: us) (.ob (cl i) [] [] :: ds.map Z.d) := .cons rv (RwA.of r)
  refine b i ds l hp { nx := fun _ => post i ds .none, rt := fun z _ => ∃ d, z = .d d ∧ post i ds d } (fun _ q => q) (fun d _ q => ⟨d, rfl, q⟩) ⟨H, fun _ => False, M, true⟩ (start N (v :: us)) H _ rfl
    ⟨⟨fun a o _ e => e, al, al, l0_len rr, fun i z e => ?_, fun e he => (nomatch he), List.Pairwise.nil, fun e he => (nomatch he), fun a z => z.elim, fun _ e he => (nomatch he)⟩, fun _ _ _ _ _ _ _ _ _ z => z.elim⟩
    ⟨fun σ' H' y' w g q => ?_, fun σ' v H' z y' w g rz q => ?_, fun _ _ _ _ _ q => q.elim, fun _ _ _ _ _ q => q.elim⟩
  · obtain ⟨x, h1, h2⟩ := l0_slot rr e
    exact ⟨x, h1, h2.go fun a o na e => ⟨fun z => z.elim na fun ⟨_, q, _⟩ => (nomatch q), e⟩⟩
  · exact k .none .non H' q (fun a o e => w.keep a o (fun z => z) e) .non
  · obtain ⟨d, rfl, q⟩ := q
    exact k d v H' q (fun a o e => w.keep a o (fun z => z) e) (Rp.go (fun a o n e => ⟨fun z => n (.inl z), e⟩) rz)
section
variable {ι : Type} {cl : ι → Addr} {C : Ct} {y : S} {te : TE} {ts : TA} {E : XK} {Q : Z → S → Prop} {n : Nat} {pre : ι → List D → Prop} {post : ι → List D → D → Prop}
theorem ob_call {F : Fr} {σ : St} {y1 : S} {H1 : Hp} {K : VK} {v : V} {us : List V} {zs : List Z} {ds : List D} {i : ι} (wd : Wd C F σ y1 H1) (rv : Rw C.K (Mv F σ y1) H1 v (.ob (cl i) [] [])) (r : RwA C.K (Mv F σ y1) H1 us zs) (hr : ResTA y1.m zs ds) (hn : ds.length = n) (hp : pre i ds)
    (q : ∀ d v' H2, post i ds d → (∀ a o, H1 a = some o → H2 a = some o) → Rp C.K (MvX F σ y1) H2 v' d → K v' H2) : obSp C.K cl n pre post (v :: us) H1 K E :=
  ⟨i, MvX F σ y1, v, us, ds, rfl, fun a m e => wd.new e m.1, rv.go fun a o n e => ⟨fun z => n z.1, e⟩, hr.rp wd.toWd0 r, hn, hp, q⟩
/-- f(an object, ..) -/
theorem wE_ob (w : wZ C ts y fun zs y1 => ∃ i zs' ds, zs = .ob (cl i) [] [] :: zs' ∧ ResTA y1.m zs' ds ∧ (ds.length = n ∧ pre i ds) ∧ ∀ d, post i ds d → scT d = true ∧ Q (.d d) y1) : wE C (tCall (obSp C.K cl n pre post) [] E ts) y Q := by
  intro F σ H K wd k
  refine w F σ H _ wd fun vs H1 zs y1 w1 g1 s1 r1 ⟨i, zs', ds, ez, hr, ⟨hn, hp⟩, q⟩ => ?_
  subst ez
  cases r1 with | @cons v _ us _ rv r2 =>
  show obSp C.K cl n pre post ((v :: us) ++ []) H1 K E
  rw [List.append_nil]
  refine ob_call w1 rv r2 hr hn hp fun d v' H2 hd gr rv' => ?_
  have w2 := w1.grow gr
  exact k v' H2 (.d d) y1 w2 (g1.trans (go_grow gr)) s1 (sct_rp w2.toWd0 (q d hd).1 rv') (q d hd).2
theorem wE_od {f : ι → List D → D} (w : wZ C ts y fun zs y1 => ∃ i zs' ds, zs = .ob (cl i) [] [] :: zs' ∧ ResTA y1.m zs' ds ∧ (ds.length = n ∧ pre i ds) ∧ scT (f i ds) = true ∧ Q (.d (f i ds)) y1) : wE C (tCall (odSp C.K cl n pre f) [] E ts) y Q :=
  wE_ob (wZ_mono w fun zs y1 ⟨i, zs', ds, e, hr, hp, h1, h2⟩ => ⟨i, zs', ds, e, hr, hp, fun d hd => by subst hd; exact ⟨h1, h2⟩⟩)
end
section
variable {C : Ct} {y : S} {te : TE} {ts : TA} {E : XK} {Q : Z → S → Prop}
/-- a def of a class without fields, of data -/
abbrev omSp (K : Fg) (n : Nat) (pre : List D → Prop) (f : List D → D) : Sp := odSp (ι := Addr) K id n (fun _ => pre) fun _ => f
/-- o.m(..) -/
theorem wE_meth {tab : List (Addr × Sp)} {m : Str} (w : wE C te y fun z y1 => ∃ D0 n pre f, z = .ob D0 [] [] ∧ (D0, omSp C.K n pre f) ∈ tab ∧ wZ C ts y1 fun zs y2 => ∃ ds, ResTA y2.m zs ds ∧ (ds.length = n ∧ pre ds) ∧ scT (f ds) = true ∧ Q (.d (f ds)) y2) : wE C (tMethU tab m E te ts) y Q := by
  intro F σ H K wd k
  refine w F σ H _ wd fun x H1 z y1 w1 g1 s1 r1 ⟨D0, n, pre, f, ez, hm, q1⟩ => ?_
  subst ez
  have r1w := r1.w
  cases r1w with | @ob a dx _ _ xs _ na ea hl rx =>
  refine ⟨a, D0, dx, _, _, rfl, ea, rfl, hm, ?_⟩
  refine q1 F σ H1 _ w1 fun vs H2 zs y2 w2 g2 s2 r2 ⟨ds, hr, ⟨hn, hp⟩, hs, q⟩ => ?_
  refine ob_call (ι := Addr) (cl := id) (i := D0) w2 (r1.w.go g2) r2 hr hn hp fun d v' H3 hd gr rv' => ?_
  subst hd
  have w3 := w2.grow gr
  exact k v' H3 (.d _) y2 w3 ((g1.trans g2).trans (go_grow gr)) (s1.trans s2) (sct_rp w3.toWd0 hs rv') q
end
/-! ### defs of objects and of things of any kind, that may raise -/
inductive ResO (m : List Cl) : Z → D → Prop
  | r {z : Z} {d : D} : Res m z d → ResO m z d
  | ob (C : Addr) : ResO m (.ob C [] []) .none
inductive ResOA (m : List Cl) : List Z → List D → Prop
  | nil : ResOA m [] []
  | cons {z : Z} {d : D} {zs : List Z} {ds : List D} : ResO m z d → ResOA m zs ds → ResOA m (z :: zs) (d :: ds)
theorem ResO.rom {m : List Cl} {z : Z} {d : D} : ResO m z d → ResO (roM m) z d
  | .r h => .r h.rom
  | .ob C => .ob C
theorem ResOA.rom {m : List Cl} : ∀ {zs : List Z} {ds : List D}, ResOA m zs ds → ResOA (roM m) zs ds
  | _, _, .nil => .nil
  | _, _, .cons a b => .cons a.rom b.rom
def bxSp {ι : Type} (K : Fg) (n : Nat) (pre : ι → List Z → List D → Prop) (post : ι → List Z → List D → Z → Prop) (xp : ι → List Z → List D → Ex → Prop) : Sp := fun vs H Q E => ∃ (i : ι) (M : Addr → Prop) (m : List Cl) (zs : List Z) (ds : List D),
  (∀ a, M a → H a ≠ none) ∧ RwA K M H vs zs ∧ (∀ e ∈ m, M e.a ∧ CellOk K M H e.a e.c) ∧ (m.Pairwise fun e e' => e.a ≠ e'.a) ∧ ResOA m zs ds ∧ zs.length = n ∧ pre i zs ds ∧
  (∀ z v H', post i zs ds z → (∀ a o, H a = some o → H' a = some o) → Rw K M H' v z → Q v H') ∧
  (∀ ex a v H', xp i zs ds ex → (∀ a o, H a = some o → H' a = some o) → H a = none → H' a = some (.xd [(keyZ ex.found, v)]) → Rw K M H' v (valZ ex.found) → E ex.cls (some a) H')
theorem bxSp_len {K : Fg} {n : Nat} {ι : Type} {pre : ι → List Z → List D → Prop} {post : ι → List Z → List D → Z → Prop} {xp : ι → List Z → List D → Ex → Prop} {ps : List Str} (h : ps.length = n) : ∀ vs H Q E, bxSp K n pre post xp vs H Q E → vs.length = ps.length := by
  rintro vs H Q E ⟨i, M, m, zs, ds, _, r, _, _, _, l, _⟩
  rw [r.len, l, h]
section
variable {K : Fg} {N : List Str} {t : TS} {vs : List V} {H : Hp} {Q : VK} {E : XK} {n : Nat} {ι : Type} {pre : ι → List Z → List D → Prop} {post : ι → List Z → List D → Z → Prop} {xp : ι → List Z → List D → Ex → Prop}
theorem bx_body (h : bxSp K n pre post xp vs H Q E) (b : ∀ i m zs ds, zs.length = n → ResOA m zs ds → pre i zs ds → ∀ e : En, (∀ y, post i zs ds (.d .none) → e.nx y) → (∀ z y, post i zs ds z → e.rt z y) →
      wS { K := K, W := fun cls d _ H' => E cls d H', ex := fun ex _ => xp i zs ds ex } t ⟨l0 N zs, m⟩ e) : t { nx := fun _ G => Q .non G, rt := Q } (start N vs) H := by
  obtain ⟨i, M, m, zs, ds, al, r, cs, pw, rs, l, hp, k1, k2⟩ := h
  have hM : ∀ {a : Addr} {σ : St} {l : List (Option Z)}, Mv ⟨H, fun _ => False, M, true⟩ σ ⟨l, roM m⟩ a → M a := fun {a σ l} z => z.elim (fun z => z) fun q => by
    obtain ⟨e, q1, q2⟩ := dom_roM.mp q
    exact q2 ▸ (cs e q1).1
  have gM : GoH M H (Mv ⟨H, fun _ => False, M, true⟩ (start N vs) ⟨l0 N zs, roM m⟩) H := fun a o na e => ⟨fun z => na (hM z), e⟩
  refine b i (roM m) zs ds l rs.rom hp { nx := fun _ => post i zs ds (.d .none), rt := fun z _ => post i zs ds z } (fun _ q => q) (fun d _ q => q) ⟨H, fun _ => False, M, true⟩ (start N vs) H _ rfl
    ⟨⟨fun a o _ e => e, al, al, l0_len r, fun i z e => ?_, fun e he => ?_, ?_, fun e he hr => ?_, fun a z => z.elim, fun _ e he ho => ?_⟩, fun σ' y' H' ex cls d w g x q => ?_⟩
    ⟨fun σ' H' y' w g q => ?_, fun σ' v H' z y' w g rz q => ?_, fun _ _ _ _ _ q => q.elim, fun _ _ _ _ _ q => q.elim⟩
  · obtain ⟨x, h1, h2⟩ := l0_slot r e
    exact ⟨x, h1, h2.go gM⟩
  · obtain ⟨e', q1, rfl⟩ := List.mem_map.mp he
    exact toRo_ok ((cs e' q1).2.go gM fun _ q => q)
  · unfold roM
    rw [List.pairwise_map]
    exact pw
  · obtain ⟨e', q1, rfl⟩ := List.mem_map.mp he
    rw [toRo_ro] at hr; cases hr
  · obtain ⟨e', q1, rfl⟩ := List.mem_map.mp he
    cases ho
  · obtain ⟨rfl, a, v, rfl, x1, x2, x3, x4⟩ := x
    exact k2 ex a v H' q (fun a o e => w.keep a o (fun z => z) e) x3 x1 (x4.go fun a o n e => ⟨fun z => n (.inl z), e⟩)
  · exact k1 (.d .none) .non H' q (fun a o e => w.keep a o (fun z => z) e) (.d .non)
  · exact k1 z v H' q (fun a o e => w.keep a o (fun z => z) e) (rz.w.go fun a o n e => ⟨fun z => n (.inl z), e⟩)
end
theorem wE_bx {C : Ct} {y : S} {ts : TA} {Q : Z → S → Prop} {n : Nat} {ι : Type} {pre : ι → List Z → List D → Prop} {post : ι → List Z → List D → Z → Prop} {xp : ι → List Z → List D → Ex → Prop} (w : wZ C ts y fun zs y1 => ∃ i ds, ResOA y1.m zs ds ∧ (zs.length = n ∧ pre i zs ds) ∧ (∀ z, post i zs ds z → Q z y1) ∧ ∀ ex, xp i zs ds ex → C.ex ex y1) : wE C (tCallS (bxSp C.K n pre post xp) (WE C.W) ts) y Q := by
  intro F σ H K wd k
  refine w F σ H _ wd fun vs H1 zs y1 w1 g1 s1 r1 ⟨i, ds, hr, ⟨hn, hp⟩, q, x⟩ => ?_
  refine ⟨i, Mv F σ y1, y1.m, zs, ds, fun a m e => w1.new e m, r1, fun e he => ⟨.inr ⟨e, he, rfl⟩, w1.cell e he⟩, w1.dist, hr, hn, hp, fun z v H2 hz gr rv => k v H2 z y1 (w1.grow gr) (g1.trans (go_grow gr)) s1 rv.z (q z hz), fun ex a v H2 hx gr ha ha2 rv => ?_⟩
  exact w1.xk σ y1 H2 ex ex.cls (some a) (w1.grow gr).toWd0 (go_grow gr) ⟨rfl, a, v, rfl, ha2, w1.new ha, w1.newH0 ha, rv⟩ (x ex hx)
theorem resOA2 {m : List Cl} {zs : List Z} {ds : List D} (h : ResOA m zs ds) (l : zs.length = 2) : ∃ z z' d d', zs = [z, z'] ∧ ds = [d, d'] ∧ ResO m z d ∧ ResO m z' d' := by
  cases h with
  | nil => cases l
  | cons a b => cases b with
    | nil => simp at l
    | cons c d => cases d with
      | nil => exact ⟨_, _, _, _, rfl, rfl, a, c⟩
      | cons _ _ => simp at l
def NoOb (z : Z) : Prop := ∀ C ks us, z ≠ .ob C ks us
theorem Res.noOb {m : List Cl} {z : Z} {d : D} (h : Res m z d) : NoOb z := fun C ks us e => by subst e; cases h
theorem ResO.res {m : List Cl} {z : Z} {d : D} (h : ResO m z d) (n : NoOb z) : Res m z d := by
  cases h with
  | r h => exact h
  | ob c => exact absurd rfl (n c [] [])
/-! ### defs that change what they are handed, by an index -/
def miSp {ι : Type} (K : Fg) (n : Nat) (pre : ι → List (Addr × Cell) → List Z → Prop) (post : ι → List (Addr × Cell) → List Z → D → List (Addr × Cell) → Prop) : Sp := fun vs H Q E => ∃ i, mSp K n (pre i) (post i) vs H Q E
theorem wE_mi {ι : Type} {C : Ct} {y : S} {ts : TA} {E : XK} {Q : Z → S → Prop} {n : Nat} {pre : ι → List (Addr × Cell) → List Z → Prop} {post : ι → List (Addr × Cell) → List Z → D → List (Addr × Cell) → Prop}
    (w : wZ C ts y fun zs y1 => ∃ i A m B b, y1.m = A ++ toCl b m ++ B ∧ (∀ e ∈ m, e.2.isRo = false) ∧ zs.length = n ∧ pre i m zs ∧ ∀ d m', post i m zs d m' → m'.map (·.1) = m.map (·.1) → (∀ e ∈ m', e.2.isRo = false) → Q (.d d) ⟨y1.l, A ++ toCl b m' ++ B⟩) :
    wE C (tCall (miSp C.K n pre post) [] E ts) y Q := by
  intro F σ H K wd k
  refine w F σ H _ wd fun vs H1 zs y1 w1 g1 s1 r1 ⟨i, A, m, B, b, em, ro, hn, hp, q⟩ => ?_
  refine ⟨i, ?_⟩
  show mSp C.K n (pre i) (post i) (vs ++ []) H1 K E
  rw [List.append_nil]
  have mem : ∀ e ∈ m, (⟨e.1, b, e.2⟩ : Cl) ∈ y1.m := fun e he => by
    rw [em]; exact List.mem_append.mpr (.inl (List.mem_append.mpr (.inr (List.mem_map.mpr ⟨e, he, rfl⟩))))
  have dist := w1.dist
  rw [em] at dist
  have pwm : m.Pairwise fun e e' => e.1 ≠ e'.1 := by
    have := (List.pairwise_append.mp (List.pairwise_append.mp dist).1).2.1
    unfold toCl at this
    rw [List.pairwise_map] at this
    exact this
  refine ⟨Mv F σ y1, m, zs, fun a m e => w1.new e m, r1, fun e he => ⟨.inr ⟨_, mem e he, rfl⟩, w1.cell _ (mem e he), ro e he⟩, pwm, hn, hp, fun d v m' H' hq hs ha ro' kp cs rv => ?_⟩
  have aeq : (A ++ toCl b m' ++ B).map (·.a) = y1.m.map (·.a) := by
    rw [em]
    simp only [List.map_append, toCl, List.map_map]
    congr 2
  have aoeq : ao (A ++ toCl b m' ++ B) = ao y1.m := by
    rw [em]
    unfold ao
    simp only [List.map_append]
    congr 2
    unfold toCl
    rw [List.map_map, List.map_map]
    have e1 : ∀ l : List (Addr × Cell), (∀ e ∈ l, e.2.isRo = false) → l.map ((fun e : Cl => (e.a, e.own, e.c.isRo)) ∘ fun e => (⟨e.1, b, e.2⟩ : Cl)) = (l.map (·.1)).map fun a => (a, b, false) := fun l hl => by
      rw [List.map_map]
      exact List.map_congr_left fun e he => by show (e.1, b, e.2.isRo) = (e.1, b, false); rw [hl e he]
    rw [e1 m' ro', e1 m ro, ha]
  have inm : ∀ a, (∃ e ∈ m, e.1 = a) ↔ ∃ e ∈ m', e.1 = a := fun a => by
    have e1 : ∀ l : List (Addr × Cell), (∃ e ∈ l, e.1 = a) ↔ a ∈ l.map (·.1) := fun l => List.mem_map.symm
    rw [e1, e1, ha]
  have old : ∀ e ∈ A ++ toCl b m' ++ B, ∃ e0 ∈ y1.m, e0.a = e.a ∧ (e.own = true → e0.own = true) ∧ (e.c.isRo = false → e0.c.isRo = false) := fun e he => by
    obtain ⟨e', h1, h2, h3, h4⟩ := own_ao aoeq he
    exact ⟨e', h1, h2, fun z => h3.trans z, fun z => h4.trans z⟩
  have lv : ∀ a, Dom y1.m a → H' a ≠ none := fun a ⟨e, h1, h2⟩ z => by
    by_cases ha : ∃ e ∈ m, e.1 = a
    · obtain ⟨e', q1, q2⟩ := (inm a).mp ha
      exact (cs e' q1).live (q2 ▸ z)
    · cases r : H1 a with
      | none => exact (w1.cell e h1).live (h2 ▸ r)
      | some o => rw [kp a o (fun e he q => ha ⟨e, he, q⟩) r] at z; cases z
  have key := w1.store (m := A ++ toCl b m' ++ B) (H' := H') (fun a o n e => kp a o (fun e' he' z => n ⟨_, mem e' he', z, ro e' he'⟩) e) lv (fun e he => .inl (old e he))
    (by
      have p1 : ∀ l : List Cl, (l.Pairwise fun e e' => e.a ≠ e'.a) ↔ (l.map (·.a)).Pairwise (· ≠ ·) := fun l => by rw [List.pairwise_map]
      rw [p1, aeq, ← p1]
      exact w1.dist)
    (fun g e he => by
      by_cases hq : ∃ e' ∈ m', (⟨e'.1, b, e'.2⟩ : Cl) = e
      · obtain ⟨e', h1', rfl⟩ := hq
        refine (cs e' h1').go (fun a o n e => ⟨fun z => n ?_, e⟩) fun _ r => r
        rcases z with z | ⟨e2, h2, h3⟩
        · exact .inl z
        · obtain ⟨e0, q1, q2, _⟩ := old e2 h2
          exact .inr ⟨e0, q1, q2.trans h3⟩
      · have hAB : e ∈ A ∨ e ∈ B := by
          rcases List.mem_append.mp he with he | he
          · rcases List.mem_append.mp he with he | he
            · exact .inl he
            · obtain ⟨e', h1', rfl⟩ := List.mem_map.mp he
              exact absurd ⟨e', h1', rfl⟩ hq
          · exact .inr he
        have hy : e ∈ y1.m := by
          rw [em]
          rcases hAB with h | h
          · exact List.mem_append.mpr (.inl (List.mem_append.mpr (.inl h)))
          · exact List.mem_append.mpr (.inr h)
        refine (w1.cell e hy).go g fun o r => kp _ _ (fun e' he' z => ?_) r
        have m1 : (⟨e'.1, b, e'.2⟩ : Cl) ∈ toCl b m := List.mem_map.mpr ⟨e', he', rfl⟩
        rcases hAB with h | h
        · exact (List.pairwise_append.mp (List.pairwise_append.mp dist).1).2.2 e h _ m1 z.symm
        · exact (List.pairwise_append.mp dist).2.2 _ (List.mem_append.mpr (.inr m1)) e h z)
  exact k v H' (.d d) _ key.1 (g1.trans key.2) (s1.trans ⟨rfl, [], by rw [show ao ([] : List Cl) = [] from rfl, List.append_nil]; exact aoeq⟩) (sc_rp hs rv) (q d m' hq ha ro')
/-! ### the store in another order -/
/-! ### a slice of a list of ours, as a new list of ours -/
def rSlNew (K : Fg) : V → Option Int → Option Int → Hp → VK → Prop := rSlD K
theorem xE_slN {C : Ct} {y : S} {te : TE} {tl th : TO} {Q : Z → S → Prop} (w : wE C te y fun z y1 => wO C tl y1 fun l y2 => wO C th y2 fun h y3 => ∃ (p : Addr) (b : Bool) (j : Nat) (ds : List D), z = .lab p ∧ y3.m[j]? = some (⟨p, b, .lst (ds.map Z.d)⟩ : Cl) ∧ ∀ q, Q (.lab q) ⟨y3.l, y3.m ++ [⟨q, true, .lst ((cutD ds l h).map Z.d)⟩]⟩) : wE C (tSl (rSlNew C.K) te tl th) y Q := by
  intro F σ H K wd k
  refine w F σ H _ wd fun x H1 z y1 w1 g1 s1 r1 q1 => ?_
  refine q1 F σ H1 _ w1 fun l H2 y2 w2 g2 s2 q2 => ?_
  refine q2 F σ H2 _ w2 fun h H3 y3 w3 g3 s3 q3 => ?_
  obtain ⟨p, b, j, ds, rfl, hj, hq⟩ := q3
  have r3 : Rz C F σ y3 H3 x (.lab p) := Rz.go (g2.trans g3) r1
  obtain ⟨rfl, xs, c1, c2⟩ := lab_lst w3 r3 hj
  refine .inl ⟨p, xs, rfl, .inl (.inl c1), fun q hp => ?_⟩
  obtain ⟨w4, g4, s4⟩ := w3.cnew (o := .lst (cutV xs l h)) (c := .lst ((cutD ds l h).map Z.d)) (b := true) hp fun M g => ⟨cutV xs l h, upd_same, RwA.of ((rpA_cut c2.ds l h).go g)⟩
  exact k _ _ (.lab q) _ w4 (((g1.trans g2).trans g3).trans g4) (((s1.trans s2).trans s3).trans s4) (.lab q) (hq q)
/-! ### three parameters, the last one by its default -/
section
variable {P : Program} {w : World} {K : Fg} {mg : Str → Option Value} {base : Heap} {k : Nat} {x : Str} {ps N : List Str} {sp : Sp} {st : Stmt} {dv : V}
end
/-! ### list(x) of a thing, as data -/
def tListD (K : Fg) (t : TA) : TE := tCB (rListD K) t
theorem xE_listD {C : Ct} {y : S} {te : TE} {Q : Z → S → Prop} (w : wE C te y fun z y1 => ∃ d xs, Res y1.m z d ∧ dItems d = some xs ∧ Q (.d (.list xs)) y1) : wE C (tListD C.K (tCons te tNil)) y Q := by
  intro F σ H K wd k
  refine w F σ H _ wd fun x H1 z y1 w1 g1 s1 r1 ⟨d, xs, hr, hx, hq⟩ => ?_
  have key : ∃ a us, x = .ref a ∧ (SqL C.K H1 a us ∨ SqT C.K H1 a us) ∧ RpA C.K (Mv F σ y1) H1 us xs := by
    cases hr with
    | d d =>
      obtain ⟨a, us, rfl, h1, h2⟩ := rp_items r1 hx
      exact ⟨a, us, rfl, h1.elim (fun z => .inl z.sq) (fun z => .inr z.sq), h2⟩
    | @lab e d he hc =>
      have r1w := r1.w
      cases r1w
      have ok := w1.cell e he
      generalize e.c = c at hc ok
      induction hc with
      | lst ds =>
        cases hx
        obtain ⟨us, h1, h2⟩ := ok
        exact ⟨_, us, rfl, .inl (SqL.of h1), h2.ds⟩
      | dic kvs => cases hx
      | ro _ ih => exact ih hx ok
  obtain ⟨a, us, rfl, h1, h2⟩ := key
  refine ⟨a, us, rfl, h1, fun p hp => ?_⟩
  have gr := grow_upd (o := .lst us) hp
  exact k _ _ (.d (.list xs)) y1 (w1.grow gr) (g1.trans (go_grow gr)) s1 (.lst (.inl ⟨w1.new hp, .inl upd_same⟩) (h2.go (go_grow (F := F) (σ := σ) (y := y1) gr))) hq
end Ux

set_option maxRecDepth 100000
set_option maxHeartbeats 4000000
/-! exceptions whose field has another name; keywords for the third parameter -/
namespace Ux
open PySem PySem.Spec PyProof.Rows L2 Tq
/-! ### an own class with __init__(self, found): T.__init__(self, 'text'); self.found = found -/
def spInitN (f : Str) (K : Fg) (C : Addr) : Sp := fun vs H Q _ => ∃ (a : Addr) (v : V), vs = [.ref a, v] ∧ OexC K C ∧ PySem.W.findIn K (.ref C) f = some none ∧ H a = some (exo a C none) ∧ ∀ dx, H dx = none → dx ≠ a → Q .non (upd (upd H dx (exd dx [(f, v)])) a (exo a C (some dx)))
/-- the class x, at C: its instances hold what was found -/
structure XcN (P : Program) (w : World) (K : Fg) (mg : Str → Option Value) (base : Heap) (f x : Str) (C : Addr) : Prop where
  gC : mg x = some (.ref C)
  oc : OexC K C
  xf : XfC K C
  no : PySem.W.findIn K (.ref C) f = some none
  ini : ∃ (fI : Addr) (fd : FuncData), PySem.W.findIn K (.ref C) "__init__" = some (some (.ref fI)) ∧ PySem.W.typeIn K (.ref fI) = some (.type "function") ∧ FnOk P w K mg base CX0 1 fI fd ["self", f] (spInitN f K C) ∧ Binds K fd ["self", f] []
section
variable {X : Cx} {f x : Str} {C : Addr} {a : Expr} {ta : TA} {p pos pos2 : Pos}
end
structure XcTN (K : Fg) (mg : Str → Option Value) (f x qual : Str) (st : Stmt) (C : Addr) : Prop where
  gC : mg x = some (.ref C)
  oc : OexC K C
  xf : XfC K C
  no : PySem.W.findIn K (.ref C) f = some none
  ini : ∃ (fI : Addr) (fd : FuncData), PySem.W.findIn K (.ref C) "__init__" = some (some (.ref fI)) ∧ PySem.W.typeIn K (.ref fI) = some (.type "function") ∧ Fun K "__init__" qual st fI fd ∧ Binds K fd ["self", f] []
section
variable {C : Ct} {y : S} {ts : TA} {e : En}
end
theorem Res.kz {m : List Cl} {z : Z} {d : D} (r : Res m z d) : keyZ z = "found" ∧ valZ z = z := by cases r <;> exact ⟨rfl, rfl⟩
section
variable {P : Program} {w : World} {K : Fg} {mg : Str → Option Value} {base : Heap} {k : Nat} {x : Str} {ps N : List Str} {sp : Sp} {st : Stmt} {dv : V}
end

/-! ### new lists that nobody changes: plain data at once -/
def tCallSF (sp : Sp) (E : St → XK) (t : TA) : TE := tCallS sp E t
theorem wE_xnF {C : Ct} {y : S} {ts : TA} {Q : Z → S → Prop} {n : Nat} {pre : List Z → List D → Prop} {post : List Z → List D → Z → List (Addr × Cell) → Prop} {xp : List Z → List D → Ex → Prop}
    (w : wZ C ts y fun zs y1 => ∃ ds, ResA y1.m zs ds ∧ (zs.length = n ∧ pre zs ds) ∧ (∀ z nw, post zs ds z nw → ∃ p xs, z = .lab p ∧ nw = [(p, .lst (xs.map Z.d))] ∧ Q (.d (.list xs)) y1) ∧ ∀ ex, xp zs ds ex → C.ex ex y1) : wE C (tCallSF (xnSp C.K n pre post xp) (WE C.W) ts) y Q := by
  intro F σ H K wd k
  refine w F σ H _ wd fun vs H1 zs y1 w1 g1 s1 r1 ⟨ds, hr, ⟨hn, hp⟩, q, x⟩ => ?_
  refine ⟨Mv F σ y1, y1.m, zs, ds, fun a m e => w1.new e m, r1, fun e he => ⟨.inr ⟨e, he, rfl⟩, w1.cell e he⟩, w1.dist, hr, hn, hp, fun z nw v H2 hz gr fr pw cs rv => ?_, fun ex a v H2 hx gr ha ha2 rv => ?_⟩
  · obtain ⟨p, xs, rfl, rfl, hq⟩ := q z nw hz
    have hf : H1 p = none := fr (p, _) List.mem_cons_self
    obtain ⟨us, c1, c2⟩ := (cs (p, .lst (xs.map Z.d)) List.mem_cons_self : CellOk C.K _ H2 p (.lst (xs.map Z.d)))
    have hv : v = .ref p := by cases rv; rfl
    subst hv
    have w2 := w1.grow gr
    exact k (.ref p) H2 (.d (.list xs)) y1 w2 (g1.trans (go_grow gr)) s1 (.lst (.inl ⟨w1.new hf, .inl c1⟩) (c2.ds.go fun a o n e => ⟨fun z => n (.inl z), e⟩)) hq
  · exact w1.xk σ y1 H2 ex ex.cls (some a) (w1.grow gr).toWd0 (go_grow gr) ⟨rfl, a, v, rfl, ha2, w1.new ha, w1.newH0 ha, rv⟩ (x ex hx)
/-! ### methods of one class, that call others of it -/
abbrev ocSp (K : Fg) (Cc : Addr) (n : Nat) (pre : List D → Prop) (f : List D → D) : Sp := odSp (ι := Unit) K (fun _ => Cc) n (fun _ => pre) fun _ => f
def tMethC (tab : List (Addr × Sp)) (m : Str) (E : XK) (ta : TE) (t : TA) : TE := tMethU tab m E ta t
theorem zMC {X : Cx} {e : Expr} {tab : List (Addr × Sp)} {m : Str} {E : XK} {ta : TE} {t : TA} (h : PE X e (tMethU tab m E ta t)) : PE X e (tMethC tab m E ta t) := h
theorem wE_methC {C : Ct} {y : S} {te : TE} {ts : TA} {E : XK} {Q : Z → S → Prop} {tab : List (Addr × Sp)} {m : Str} (w : wE C te y fun z y1 => ∃ D0 n pre f, z = .ob D0 [] [] ∧ (D0, ocSp C.K D0 n pre f) ∈ tab ∧ wZ C ts y1 fun zs y2 => ∃ ds, ResTA y2.m zs ds ∧ (ds.length = n ∧ pre ds) ∧ scT (f ds) = true ∧ Q (.d (f ds)) y2) : wE C (tMethC tab m E te ts) y Q := by
  intro F σ H K wd k
  refine w F σ H _ wd fun x H1 z y1 w1 g1 s1 r1 ⟨D0, n, pre, f, ez, hm, q1⟩ => ?_
  subst ez
  have r1w := r1.w
  cases r1w with | @ob a dx _ _ xs _ na ea hl rx =>
  refine ⟨a, D0, dx, _, _, rfl, ea, rfl, hm, ?_⟩
  refine q1 F σ H1 _ w1 fun vs H2 zs y2 w2 g2 s2 r2 ⟨ds, hr, ⟨hn, hp⟩, hs, q⟩ => ?_
  refine ob_call (ι := Unit) (cl := fun _ => D0) (i := ()) w2 (r1.w.go g2) r2 hr hn hp fun d v' H3 hd gr rv' => ?_
  subst hd
  have w3 := w2.grow gr
  exact k v' H3 (.d _) y2 w3 ((g1.trans g2).trans (go_grow gr)) (s1.trans s2) (sct_rp w3.toWd0 hs rv') q

/-! ### a list of ours, many times -/
def rRepL : R2 := rRep
theorem repLK {X : Cx} : OpR X (binaryOp .Mult) rRepL := op_rep
theorem wE_repL {C : Ct} {y : S} {ta tb : TE} {Q : Z → S → Prop} (w : wE C ta y fun z y1 => wE C tb y1 fun z' y2 => ∃ (p : Addr) (b : Bool) (j : Nat) (ds : List D) (k : Int), z = .lab p ∧ y2.m[j]? = some ⟨p, b, .lst (ds.map Z.d)⟩ ∧ z' = .d (.int k) ∧ (-(2 ^ 63) ≤ k ∧ k < 2 ^ 63 ∧ ds.length * k.toNat ≤ sizeLine) ∧ Q (.d (.list (List.replicate k.toNat ds).flatten)) y2) : wE C (tOp rRepL ta tb) y Q := by
  intro F σ H K wd k
  refine w F σ H _ wd fun x H1 z y1 w1 g1 s1 r1 q1 => ?_
  refine q1 F σ H1 _ w1 fun x2 H2 z' y2 w2 g2 s2 r2 q2 => ?_
  obtain ⟨p, b, j, ds, n, rfl, hj, rfl, ⟨h1, h2, h3⟩, hq⟩ := q2
  have ey := rp_int r2
  obtain ⟨rfl, xs, c1, c2⟩ := lab_lst w2 (Rz.go g2 r1) hj
  have hl : xs.length = ds.length := by rw [c2.len, List.length_map]
  refine ⟨p, n, xs, rfl, ey, c1, h1, h2, by rw [hl]; exact h3, fun q hq' => ?_⟩
  have gr := grow_upd (o := .lst (List.replicate n.toNat xs).flatten) hq'
  have rep : ∀ m : Nat, RpA C.K (Mv F σ y2) H2 (List.replicate m xs).flatten (List.replicate m ds).flatten := fun m => by
    induction m with
    | zero => exact .nil
    | succ m ih => rw [List.replicate_succ, List.replicate_succ, List.flatten_cons, List.flatten_cons]; exact c2.ds.app ih
  exact k _ _ (.d (.list _)) y2 (w2.grow gr) ((g1.trans g2).trans (go_grow gr)) (s1.trans s2) (.lst (.inl ⟨w2.new hq', .inl upd_same⟩) ((rep n.toNat).go (go_grow (F := F) (σ := σ) (y := y2) gr))) hq
end Ux

set_option maxRecDepth 100000
set_option maxHeartbeats 4000000
namespace Ux
open PySem PySem.Spec PyProof.Rows L2 Tq
/-! ### x.extend(list) -/
theorem ext_meets (l : Addr) (items : Array Value) (n : Nat) (b : Addr) (items2 : Array Value) (n2 : Nat) (sl : Array (Option Value)) (hc0 : ¬(!items.isEmpty && Builtin.List.listTooLong (items.size + items2.size)) = true) (hc1 : items.size ≤ sizeLine) (hs2 : items.size + items2.size ≤ sizeLine + 1) :
    Meets (Builtin.«list.extend» ⟨[.ref l, .ref b], []⟩) (fun _ R s => s.heap.get? l = some { cls := .type "list", dict := none, data := .seq items n, slots := #[] } ∧ s.heap.get? b = some { cls := .type "list", dict := none, data := .seq items2 n2, slots := sl } ∧ R (.ok (.ret Value.none)) { s with heap := s.heap.update l (Obj.mapSeq fun x => x ++ items2), toks := s.toks }) :=
  .of_wp fun prog w A R s h => by
    obtain ⟨hp, g, d, tk, os⟩ := s; obtain ⟨hl, hb, h⟩ := h; have f1 := AutoSeq1.idx_int; have f2 := AutoSeq1.sub_tuple_tuple; have f3 := AutoSeq1.sub_list_list; have f4 := AutoSeq1.sub_tuple_list; have f5 := AutoSeq1.sub_list_tuple;
    have hz' : (items ++ items2).size ≤ sizeLine + 1 := by rw [Array.size_append]; exact hs2
    wp_walk using (wpAny_updateSeq hl rfl (hz := hc1) (_hz' := hz')), AutoSeq1.wpAny_loadPart' hl, AutoSeq1.wpAny_loadPart' hb; exact ⟨_, rfl, h⟩
def rExtS (K : Fg) : V → List V → Hp → VK → Prop := fun x vs H Q => ∃ l b xs zs, x = .ref l ∧ vs = [.ref b] ∧ H l = some (.lst xs) ∧ SqL K H b zs ∧ xs.length + zs.length ≤ sizeLine ∧ Q .non (upd H l (.lst (xs ++ zs)))
theorem mt_extS {X : Cx} : MtM X "list.extend" (rExtS X.K) := by
  intro pins s σ H x vs v us Q I rx rv h
  obtain ⟨l, b, xs, zs, rfl, rfl, hH, hB, hz, q⟩ := h
  cases rx
  obtain ⟨u, rfl, ru⟩ := rv.one
  cases ru
  obtain ⟨z, its, n, r, hl, e⟩ := I.lstM hH
  obtain ⟨its2, r2, ⟨o, n2, e2, oc, od, oo⟩, z2⟩ := I.list hB
  have hl2 := r2.length
  obtain ⟨oc', od', oo', os⟩ := o
  have oc : oc' = _ := oc
  have od : od' = _ := od
  have oo : oo' = _ := oo
  subst oc od oo
  have hsz : its.toArray.size + its2.toArray.size ≤ sizeLine := by rw [List.size_toArray, List.size_toArray]; omega
  have hlong : ¬ (!its.toArray.isEmpty && Builtin.List.listTooLong (its.toArray.size + its2.toArray.size)) = true := by
    rw [notLongL hsz, Bool.and_false]
    exact Bool.false_ne_true
  refine call_meets F.slot_list_extend ⟨_, e, rfl⟩ F.entry_list_extend (F.args_list_extend_2 _ _)
    (ext_meets l its.toArray n b its2.toArray n2 os hlong (by rw [List.size_toArray]; omega) (by omega)) ⟨e, e2, ?_⟩
  refine ⟨.non, _, I.lset (its' := its ++ its2) hH e (by simp) (r.append r2) ?_, rfl, q⟩
  rw [List.length_append]
  omega
theorem extK {X : Cx} (K : Fg) (hK : X.K = K := by rfl) : MtM X "list.extend" (rExtS K) := hK ▸ mt_extS
theorem wS_ext {C : Ct} {y : S} {te : TE} {e : En} {i j : Nat} {a : Addr} {b : Bool} {zs0 : List Z} (hi : y.l[i]? = some (some (.lab a))) (hj : y.m[j]? = some ⟨a, b, .lst zs0⟩)
    (w : wE C te y fun z y1 => ∃ zs ws, y1.m[j]? = some ⟨a, b, .lst zs⟩ ∧ z = .lst ws ∧ zs.length + ws.length ≤ sizeLine ∧ e.nx ⟨y1.l, y1.m.set j ⟨a, b, .lst (zs ++ ws)⟩⟩) :
    wS C (tDrop (tBM C.K "list" (rExtS C.K) (tVar i) (tCons te tNil))) y e := by
  intro F σ H E st wd k
  obtain ⟨x, h1, h2⟩ := wd.slot i _ hi
  cases h2
  obtain ⟨xs, c1, c2⟩ := (wd.cell _ (List.mem_of_getElem? hj) : CellOk C.K (Mv F σ y) H a (.lst zs0))
  refine ⟨.ref a, h1, Or.inl ⟨rfl, xs, .inl (.inl c1)⟩, w F σ H _ wd fun v H1 z y1 w1 g1 s1 r1 q => ?_⟩
  obtain ⟨zs, ws, hj1, rfl, hz, q⟩ := q
  obtain ⟨us, e2, e3⟩ := (w1.cell _ (List.mem_of_getElem? hj1) : CellOk C.K (Mv F σ y1) H1 a (.lst zs))
  cases r1.w with
  | @lst p vs _ f1 f2 =>
    refine ⟨a, p, us, vs, rfl, rfl, e2, f1.sq, by rw [e3.len, f2.len]; exact hz, ?_⟩
    obtain ⟨w2, g2, s2⟩ := w1.cmut (H' := upd H1 a (.lst (us ++ vs))) (c' := .lst (zs ++ ws)) hj1 rfl rfl (fun b o n e => by rw [upd_ne n]; exact e) fun M _ g => ⟨us ++ vs, upd_same, (e3.go g).app (f2.go g)⟩
    exact k.nx _ _ _ w2 (g1.trans g2) q
/-! ### [t + "..", .., t.replace("x", "y"), ..] -/
end Ux

set_option maxRecDepth 100000
set_option maxHeartbeats 4000000
namespace Ux
open PySem PySem.Spec PyProof.Rows L2 Tq
/-- a tuple of plain data gone through, each a thing -/
theorem wIZ_tupD {C : Ct} {y : S} {te : TE} {Qi : List Z → S → Prop} (w : wE C te y fun z y1 => ∃ ds, z = .d (.tuple ds) ∧ Qi (ds.map Z.d) y1) : wIZ C (iTup C.K te) y Qi := by
  intro F σ H R wd k
  refine w F σ H _ wd fun v H1 z y1 w1 g1 s1 r1 q => ?_
  obtain ⟨ds, rfl, q⟩ := q
  obtain ⟨a, us, rfl, h1, h2⟩ := rp_tup r1
  have h2 := RwA.of h2
  refine ⟨a, rfl, ⟨us, h1.sq⟩, k _ H1 (ds.map Z.d) y1 w1 g1 s1 (fun F1 σ2 y2 H2 w2 g2 i => ?_) q⟩
  have e1 := (h1.go g2).sq
  have e2 := h2.go g2
  refine ⟨fun hi => ?_, fun hi => ⟨us, e1, by rw [h2.len]; exact hi⟩, fun x hx v H3 hy => ?_⟩
  · have : i < us.length := by rw [h2.len]; exact hi
    exact ⟨us, us[i], e1, by simp [this]⟩
  · obtain ⟨rfl, hv⟩ := hy
    obtain ⟨d, hd, rd⟩ := e2.getV (hv us e1)
    rw [hx] at hd
    cases hd
    exact ⟨fun _ _ e => e, rd⟩
theorem wIZ_anyL {C : Ct} {y : S} {te : TE} {Qi : List Z → S → Prop} (w : wE C te y fun z y1 => ∃ xs, lstZ z = some xs ∧ Qi xs y1) : wIZ C (iAny C.K te) y Qi := fun F σ H R wd k => .inl (wIZ_list w F σ H R wd k)
end Ux
namespace Ux
open PySem PySem.Spec PyProof.Rows L2 Tq
/-- a call without arguments -/
theorem pe_cal0 {X : Cx} {p pos : Pos} {k : Nat} {x : Str} {ps : List Str} {sp : Sp} (c : Tq.Cal X.prog X.w X.K X.mg X.base k x ps sp) (hr : Room k X.A) (hgu : X.A.guards = some []) (hg : Gl X x) (hdb : (x == ("__debug__" : Str)) = false := by decide) : PE X (.Call (.Name x p) [] [] pos) (tCall sp [] E0 tNil) := by
  refine ⟨fun pins s σ H Q I h => ?_⟩
  obtain ⟨f, fd, F, hm, hk, hb⟩ := c.ex
  refine wpAny_Call_Name_kw (ld_glob I hg hm ?_ hdb)
  refine PySem.W.callWith_K0 I.kIn hk ?_
  exact run_fnG F hr hgu hb .nil pass0 I .nil h
end Ux
namespace Ux
open PySem PySem.Spec PyProof.Rows L2 Tq
/-- a call that might raise, at things where it does not -/
theorem wE_xQ {C : Ct} {y : S} {ts : TA} {Q : Z → S → Prop} {E : St → XK} {n : Nat} {pre : List Z → List D → Prop} {post : List Z → List D → Z → Prop} {xp : List Z → List D → Ex → Prop}
    (w : wZ C ts y fun zs y1 => ∃ ds, ResA y1.m zs ds ∧ (zs.length = n ∧ pre zs ds) ∧ (∀ z, post zs ds z → Q z y1) ∧ ∀ ex, ¬ xp zs ds ex) : wE C (tCallS (xSp C.K n pre post xp) E ts) y Q := by
  intro F σ H K wd k
  refine w F σ H _ wd fun vs H1 zs y1 w1 g1 s1 r1 ⟨ds, hr, ⟨hn, hp⟩, q, hx⟩ => ?_
  show xSp C.K n pre post xp vs H1 K (E σ)
  exact ⟨Mv F σ y1, y1.m, zs, ds, fun a m e => w1.new e m, r1, fun e he => ⟨.inr ⟨e, he, rfl⟩, w1.cell e he⟩, w1.dist, hr, hn, hp, fun z v H2 hz gr rv => k v H2 z y1 (w1.grow gr) (g1.trans (go_grow gr)) s1 rv.z (q z hz), fun ex _ _ _ h => (hx _ h).elim⟩
end Ux
namespace Ux
open PySem PySem.Spec PyProof.Rows L2 Tq
end Ux

set_option maxRecDepth 100000
set_option maxHeartbeats 4000000
/-! defs of several parameters, the last one with a default (printed by gen/gdef.py) -/
namespace Ux
open PySem PySem.Spec PyProof.Rows L2 Tq
section
variable {P : Program} {w : World} {K : Fg} {mg : Str → Option Value} {base : Heap} {k : Nat} {x : Str} {ps N : List Str} {sp : Sp} {st : Stmt} {dv : V}
end
end Ux

set_option maxRecDepth 100000
set_option maxHeartbeats 4000000
/-! isinstance(e, (A, B, C)) of the exception that a suite holds -/
namespace Ux
open PySem PySem.Spec PyProof.Rows L2 Tq
/-! ### an own list with labels in it is frozen -/
end Ux

set_option maxRecDepth 100000
set_option maxHeartbeats 4000000
/-! t[::-1] of a tuple -/
namespace Ux
open PySem PySem.Spec PyProof.Rows L2 Tq
theorem back_pick (xs : Array Value) : ((List.range xs.size).filterMap fun (m : Nat) => xs[((xs.size : Int) - 1 + (m : Int) * -1).toNat]?).toArray = xs.toList.reverse.toArray := by
  congr 1
  have e : ∀ m ∈ List.range xs.size, xs[((xs.size : Int) - 1 + (m : Int) * -1).toNat]? = xs.toList.reverse[m]? := fun m hm => by
    have hm := List.mem_range.mp hm
    have e1 : ((xs.size : Int) - 1 + (m : Int) * -1).toNat = xs.size - 1 - m := by omega
    rw [e1, List.getElem?_reverse (by simpa using hm)]
    simp
  have cong : ∀ (l : List Nat) (f g : Nat → Option Value), (∀ m ∈ l, f m = g m) → l.filterMap f = l.filterMap g := fun l f g => by
    induction l with
    | nil => intro _; rfl
    | cons a l ih => intro h; rw [List.filterMap_cons, List.filterMap_cons, h a List.mem_cons_self, ih fun m hm => h m (List.mem_cons_of_mem _ hm)]
  rw [cong _ _ _ e]
  have key : ∀ (l : List Value) (n : Nat), n ≤ l.length → (List.range n).filterMap (fun m => l[m]?) = l.take n := fun l n => by
    induction n with
    | zero => intro _; simp
    | succ n ih =>
      intro h
      rw [List.range_succ, List.filterMap_append, ih (by omega), List.take_add_one, List.getElem?_eq_getElem (show n < l.length by omega)]
      simp [List.getElem?_eq_getElem (show n < l.length by omega)]
  rw [key _ _ (by simp), List.take_of_length_le (by simp)]
section
variable {prog : Program} {w : World} {A : Around} {E : Value → Shared → Prop} {s : Shared}
theorem back_applied {sl : Addr} {vl vu vs : Value} {n : Nat} {Q : Int × Int × Nat → Shared → Prop} (hs : s.heap.IsSliceOf sl vl vu vs) (pl : IsPart vl none) (pu : IsPart vu none) (ps : IsPart vs (some (-1)))
    (h : Q ((n : Int) - 1, -1, n) s) : wpAny (model prog w) A (Builtin.Slice.sliceApplied (.ref sl) (pure (n : Int))) Q E s := by
  obtain ⟨os, g1, g2, g3⟩ := id hs
  unfold Builtin.Slice.sliceApplied Builtin.Slice.sliceFields
  refine wpAny_bind (wpAny_bind (wpAny_field g1 g3 (x := vl) rfl (wpAny_bind (wpAny_field g1 g3 (x := vu) rfl (wpAny_bind (wpAny_field g1 g3 (x := vs) rfl (wpAny_pure ?_)))))))
  refine wpAny_bind (HT.slicePart_ ps ?_)
  show wpAny _ _ (if ((-1 : Int) == 0) = true then _ else _) _ _ s
  rw [if_neg (by decide)]
  refine wpAny_bind (HT.slicePart_ pl (wpAny_bind (HT.slicePart_ pu (wpAny_bind (wpAny_pure ?_)))))
  have e1 : Builtin.Slice.sliceAdjust none none (-1) (n : Int) = ((n : Int) - 1, -1) := rfl
  have e2 : Builtin.Slice.slicePlaces ((n : Int) - 1) (-1) (-1) = n := by
    unfold Builtin.Slice.slicePlaces
    rw [if_neg (by decide)]
    by_cases c : (n : Int) - 1 > -1
    · rw [if_pos c, show -(-1 : Int) = 1 from rfl, Int.ediv_one]; omega
    · rw [if_neg c]; omega
  show wpAny _ _ (match Builtin.Slice.sliceAdjust none none (-1) (n : Int) with | (x, z) => pure (x, (-1 : Int), Builtin.Slice.slicePlaces x z (-1))) _ _ s
  rw [e1]
  show wpAny _ _ (pure ((n : Int) - 1, (-1 : Int), Builtin.Slice.slicePlaces ((n : Int) - 1) (-1) (-1))) _ _ s
  rw [e2]
  exact wpAny_pure h
theorem getItem_tuple_back {t sl : Addr} {its : Array Value} {vl vu vs : Value} {Q : Value → Shared → Prop} (ht : IsTup s.heap t its) (hs : s.heap.IsSliceOf sl vl vu vs) (pl : IsPart vl none) (pu : IsPart vu none) (ps : IsPart vs (some (-1)))
    (h : Q (.ref s.heap.objs.size) { s with heap := s.heap.push { cls := .type "tuple", data := .seq its.toList.reverse.toArray } }) (hsz : its.size ≤ sizeLine) : wpAny (model prog w) A (getItem (.ref t) (.ref sl)) Q E s := by
  have hok : sizeOk (.seq its.toList.reverse.toArray) := by
    show its.toList.reverse.toArray.size ≤ sizeLine
    simpa using hsz
  obtain ⟨os, g1, g2, g3⟩ := id hs
  have hT : s.TypeIs (.ref sl) "slice" := ⟨os, g1, g2⟩
  unfold getItem
  (try with_reducible refine wpAny_holding ?_)
  (first | refine wpAny_bind (wpAny_pure ?_) | skip)
  refine wpAny_bind (wpAny_sequenceKey ht.typeIs (by decide) (wpAny_bind (wpAny_callSpecial?_slot (name := Str.ofString "__getitem__") ht.typeIs PyProof.Rows.slot_tuple_getitem (wpAny_call_entry PyProof.Rows.slot_tuple_getitem ht.typeIs entry_tuple_getitem ?_ (args_tuple_getitem _ _)))))
  show wpAny _ _ (Builtin.Tuple.tupleItemsOf (.ref t) >>= _) _ _ s
  refine wpAny_bind (tupleItemsOf_ ht (wpAny_bind (wpAny_typeOf hT ?_)))
  rw [if_pos (by decide)]
  refine wpAny_bind (back_applied hs pl pu ps ?_)
  have hno : ¬ ((((its.size : Int) - 1) == 0 && (-1 : Int) == 1 && its.size == its.size) = true) := by
    intro q
    rw [Bool.and_eq_true, Bool.and_eq_true] at q
    exact absurd q.1.2 (by decide)
  show wpAny _ _ (if ((((its.size : Int) - 1) == 0 && (-1 : Int) == 1 && its.size == its.size) = true) then _ else _) _ _ s
  rw [if_neg hno, back_pick]
  first
    | (refine wpAny_bind (m := Builtin.Tuple.tupleExact _) ?_; exact wpAny_newObj_type (wpAny_pure ⟨_, rfl, wpAny_pure h⟩) hok)
    | (refine wpAny_bind (m := Builtin.Tuple.tupleExact _) ?_; exact wpAny_newObj_type (wpAny_bind (wpAny_pure (wpAny_pure ⟨_, rfl, wpAny_pure h⟩))) hok)
    | (refine wpAny_bind (wpAny_bind (m := Builtin.Tuple.tupleExact _) ?_); exact wpAny_newObj_type (wpAny_pure (wpAny_pure ⟨_, rfl, wpAny_pure h⟩)) hok)
    | (refine wpAny_bind (wpAny_bind (m := Builtin.Tuple.tupleExact _) ?_); exact wpAny_newObj_type (wpAny_pure ⟨_, rfl, wpAny_pure h⟩) hok)
end
def tRevT (K : Fg) (te : TE) : TE := fun σ H Q => te σ H fun x H1 => ∃ a xs, x = .ref a ∧ SqT K H1 a xs ∧ ∀ p, H1 p = none → Q (.ref p) (upd H1 p (.tup xs.reverse))
theorem pe_revT {X : Cx} {e : Expr} {te : TE} {k : Nat} {p1 p2 p3 pos : Pos} (K : Fg) (he : PE X e te) (hK : X.K = K := by rfl) : PE X (.Subscript e (.Slice none none (some (.UnaryOp .USub (.Constant (.int 1) k p1) p2)) p3) pos) (tRevT K te) := by
  subst hK
  refine ⟨fun pins s σ H Q I h => ?_⟩
  refine Subscript_ (thn (he.run pins s σ H _ I h) fun v s1 ⟨x, H1, I1, r1, a, xs, ex, hx, q⟩ => ?_)
  subst ex
  cases r1
  have hst : PO X (some (.UnaryOp .USub (.Constant (.int 1) k p1) p2)) (tPart (tUn (rU fun i => .int (-i)) (tC (.int 1)))) := po_some (pe_un un_neg pe_int)
  refine wpAny_Slice (thn (po_none.run pins s1 σ H1 (fun o G => o = none ∧ G = H1) I1 ⟨rfl, rfl⟩) fun vl s2 ⟨l, G2, I2, pl, el, e2⟩ => ?_)
  subst el e2
  refine thn (po_none.run pins s2 σ G2 (fun o G => o = none ∧ G = G2) I2 ⟨rfl, rfl⟩) fun vu s3 ⟨u, G3, I3, pu, eu, e3⟩ => ?_
  subst eu e3
  refine thn (hst.run pins s3 σ G3 (fun o G => o = some (-1) ∧ G = G3) I3 ⟨1, rfl, -1, rfl, rfl, rfl⟩) fun vs s4 ⟨o, G4, I4, ps, eo, e4⟩ => ?_
  subst eo e4
  have I5 : Inv X pins σ G4 { s4 with heap := s4.heap.push { cls := .type "slice", data := .fields #[vl, vu, vs] } } := I4.kept (t' := s4.toks) fun b ob q => Heap.get?_push_of_some _ q
  obtain ⟨its, r, ht, hz⟩ := I5.tuple hx
  have hlen := r.length
  show wpAny (model X.prog X.w) X.A (subscriptTail e (.Slice none none (some (.UnaryOp .USub (.Constant (.int 1) k p1) p2)) p3) (.ref a) (.ref s4.heap.objs.size)) (EP X pins σ Q) X.xe { s4 with heap := s4.heap.push { cls := .type "slice", data := .fields #[vl, vu, vs] } }
  refine tail_any (ops := [.ref a, .ref s4.heap.objs.size]) ht.typeIs (PyProof.Rows.slot_tuple_getitem.lookup) ?_ (by with_unfolding_all rfl)
  refine getItem_tuple_back ht (Heap.IsSliceOf.new _ vl vu vs) pl pu ps ?_ (by rw [List.size_toArray]; omega)
  refine ⟨.ref _, _, I5.laid (t' := s4.toks) (o := .tup xs.reverse) (fun b ob q => Heap.get?_push_of_some _ q) (Nat.le_refl _) ?_, rfl, q _ (I5.hok.fresh (Nat.le_refl _))⟩
  exact ⟨by rw [List.length_reverse]; exact hz, _, r.reverse, IsTup.new _ _⟩
theorem wE_revT {C : Ct} {y : S} {te : TE} {Q : Z → S → Prop} (w : wE C te y fun z y1 => ∃ xs, z = .d (.tuple xs) ∧ Q (.d (.tuple xs.reverse)) y1) : wE C (tRevT C.K te) y Q := by
  intro F σ H K wd k
  refine w F σ H _ wd fun x H1 z y1 w1 g1 s1 r1 ⟨xs, ez, q⟩ => ?_
  subst ez
  obtain ⟨a, us, rfl, h1, h2⟩ := rp_tup r1
  refine ⟨a, us, rfl, h1.sq, fun p hp => ?_⟩
  have gr := grow_upd (o := .tup us.reverse) hp
  exact k _ _ (.d (.tuple xs.reverse)) y1 (w1.grow gr) (g1.trans (go_grow gr)) s1 (.tup (.inl ⟨w1.new hp, .inl upd_same⟩) (h2.rev.go (go_grow (F := F) (σ := σ) (y := y1) gr))) q
end Ux

set_option maxRecDepth 100000
set_option maxHeartbeats 4000000
/-! a thing of the store, a dict too, and a tuple: x != t -/
namespace PySem.SeqAt
open PySem PyProof.Rows PySem.AutoSeq1 PySem.MeetsSeq PySem.MeetsSeq2 PySem.MeetsSeq3
theorem dict_away {l b : Addr} {dt : Data} {its : Array Value} {n : Nat} {dd ee : Option Addr} {sl tl : Array (Option Value)} :
    Meets (Builtin.«dict.__ne__» ⟨[.ref l, .ref b], []⟩) (fun _ R s => s.heap.get? l = some { cls := .type "dict", dict := dd, data := dt, slots := sl } ∧ s.heap.get? b = some { cls := .type "tuple", dict := ee, data := .seq its n, slots := tl } ∧ R (.ok (.ret .notImplemented)) s) :=
  .of_wp fun prog w A R s h => by
    obtain ⟨hp, g, d, tk, os⟩ := s
    obtain ⟨h1, h2, h⟩ := h
    have f1 := F.sub_tuple_dict
    wp_walk using wpAny_loadPart' h1, wpAny_loadPart' h2
    exact ⟨_, rfl, h⟩
theorem tuple_away {l b : Addr} {dt : Data} {its : Array Value} {n : Nat} {dd ee : Option Addr} {sl tl : Array (Option Value)} :
    Meets (Builtin.«tuple.__ne__» ⟨[.ref b, .ref l], []⟩) (fun _ R s => s.heap.get? b = some { cls := .type "tuple", dict := ee, data := .seq its n, slots := tl } ∧ s.heap.get? l = some { cls := .type "dict", dict := dd, data := dt, slots := sl } ∧ R (.ok (.ret .notImplemented)) s) :=
  .of_wp fun prog w A R s h => by
    obtain ⟨hp, g, d, tk, os⟩ := s
    obtain ⟨h1, h2, h⟩ := h
    have f1 := F.sub_dict_tuple
    wp_walk using wpAny_loadPart' h1, wpAny_loadPart' h2
    exact ⟨_, rfl, h⟩
end PySem.SeqAt
namespace Ux
open PySem PySem.Spec PyProof.Rows L2 Tq PySem.MeetsSeq PySem.MeetsSeq2 PySem.MeetsSeq3 PySem.AutoSeq1
def rNeDk (K : Fg) : R2 := fun x y H Q => ∃ a b ks xs, x = .ref a ∧ y = .ref b ∧ H a = some (.dK ks) ∧ SqT K H b xs ∧ Q (.bl true) H
theorem op_neDk {X : Cx} (hu : X.A.units < cLine) : OpR X (compareOp .NotEq) (rNeDk X.K) := by
  intro pins s σ H x y v u Q I rx ry h
  obtain ⟨a, b, ks, xs, rfl, rfl, ha, hb, q⟩ := h
  obtain rfl : v = Value.ref a := rx
  obtain rfl : u = Value.ref b := ry
  obtain ⟨_, ya, va, ra, da⟩ := (show ObjOk X.prog X.w H s.heap a (.dK ks) from I.hok a _ ha)
  obtain ⟨its, r, ht, hz⟩ := I.tuple hb
  obtain ⟨⟨c1, d1, t1, s1⟩, g1, g2⟩ := id da.typeIs
  obtain ⟨⟨c2, d2, t2, s2⟩, h1, h2, n2, h3⟩ := id ht
  simp only at g2 h2 h3
  subst g2 h2 h3
  have hne : a ≠ b := fun e => by
    subst e
    have h9 := g1.symm.trans h1
    rw [Option.some.injEq, Obj.mk.injEq] at h9
    exact absurd h9.1 (by decide)
  show wpAny _ _ (richCompare .NotEq (.ref a) (.ref b)) _ _ s
  refine SeqAt.rc_ne_decline_or (k := false) ⟨_, g1, rfl⟩ ⟨_, h1, rfl⟩ (by decide) F.sub_tuple_dict F.slot_dict_ne F.slot_tuple_ne_refl (fun _ hq => ?_) (fun _ hq => ?_) (fun _ hq => ?_) (.inr hu) ⟨.bl true, H, I, rfl, q⟩
  · exact call_meets F.slot_dict_ne ⟨_, g1, rfl⟩ F.entry_dict_ne (F.args_dict_ne_2 _ _) SeqAt.dict_away ⟨g1, h1, hq⟩
  · exact call_meets F.slot_tuple_ne_refl ⟨_, h1, rfl⟩ F.entry_tuple_ne (F.args_tuple_ne_2 _ _) SeqAt.tuple_away ⟨h1, g1, hq⟩
  · exact wpAny_isSame_ref_other hne g1 h1 (by simp) hq
def rNeA (K : Fg) : R2 := fun x y H Q => rNeT K x y H Q ∨ rNeDk K x y H Q
theorem neAK {X : Cx} (K : Fg) (hu : X.A.units + 64 < cLine) (h : X.K = K := by rfl) : OpR X (compareOp .NotEq) (rNeA K) := by
  subst h
  intro pins s σ H x y v u Q I rx ry q
  rcases q with q | q
  · exact neTK X.K hu rfl pins s σ H x y v u Q I rx ry q
  · exact op_neDk (by omega) pins s σ H x y v u Q I rx ry q
theorem wE_neA {C : Ct} {y : S} {ta tb : TE} {Q : Z → S → Prop} (w : wE C ta y fun z y1 => wE C tb y1 fun z' y2 => ∃ e, z' = .d (.tuple e) ∧ SeqAt.shaped (.tuple e) = true ∧
    ((∃ d, Res y2.m z d ∧ SeqAt.shaped d = true ∧ Q (.d (.bool (!PyData.eqv d (.tuple e)))) y2) ∨ (∃ (p : Addr) (b : Bool) (j : Nat) (kvs : List (Key × Z)), z = .lab p ∧ y2.m[j]? = some (⟨p, b, .dic kvs⟩ : Cl) ∧ Q (.d (.bool true)) y2))) : wE C (tOp (rNeA C.K) ta tb) y Q := by
  intro F σ H K wd k
  refine w F σ H _ wd fun x H1 z y1 w1 g1 s1 r1 q1 => ?_
  refine q1 F σ H1 _ w1 fun x2 H2 z' y2 w2 g2 s2 r2 q2 => ?_
  obtain ⟨e, rfl, se, q2⟩ := q2
  have r1' := Rz.go g2 r1
  rcases q2 with ⟨d, hr, sd, hq⟩ | ⟨p, b, j, kvs, rfl, hj, hq⟩
  · have rd := Res.rp w2.toWd0 hr r1'.w
    exact .inl ⟨d, .tuple e, rd.dp (canLay_noDict sd), (show Rp _ _ _ _ _ from r2).dp (canLay_noDict se), sd, se, k _ H2 (.d (.bool _)) y2 w2 (g1.trans g2) (s1.trans s2) (.bl _) hq⟩
  · obtain ⟨a, us, rfl, h1, h2⟩ := rp_tup r2
    have r1w := r1'.w
    cases r1w
    obtain ⟨ks, c1, _⟩ := (w2.cell _ (List.mem_of_getElem? hj) : CellOk C.K (Mv F σ y2) H2 p (.dic kvs))
    exact .inr ⟨p, a, ks, us, rfl, rfl, c1, h1.sq, k _ H2 (.d (.bool true)) y2 w2 (g1.trans g2) (s1.trans s2) (.bl _) hq⟩
end Ux

set_option maxRecDepth 100000
set_option maxHeartbeats 4000000
/-! ### defs that raise nothing, called in an except suite -/
namespace Ux
open PySem PySem.Spec PyProof.Rows L2 Tq
/-- room where an exception may be handled -/
structure RoomW (k : Nat) (A : Around) : Prop where
  dp : A.depth + 3 * k + 5 < recursionLimit
  un : A.units + 16 * k + 200 < cLine
theorem RoomW.mono {j k : Nat} {A : Around} (r : RoomW k A) (h : j ≤ k) : RoomW j A := ⟨by have := r.dp; omega, by have := r.un; omega⟩
theorem RoomW.units {k : Nat} {A : Around} (r : RoomW k A) : A.units + 64 < cLine := by have := r.un; omega
theorem Room.w {k : Nat} {A : Around} (r : Room k A) : RoomW k A := ⟨r.dp, r.un⟩
structure FnW (P : Program) (w : World) (K : Fg) (mg : Str → Option Value) (base : Heap) (k : Nat) (f : Addr) (fd : FuncData) (ps : List Str) (sp : Sp) : Prop where
  len : ∀ vs H Q E, sp vs H Q E → vs.length = ps.length
  run : ∀ (A : Around) (outer : List Env) (s : Shared) (H : Hp) (args : Args) (us : List Value) (vs : List V) (Q : VK) (E : XK), RoomW k A → A.guards = some [] →
    Env0 P w K mg base A outer s H → BindsTo s fd args (ps.zip us) → Vals vs us → sp vs H Q E → codeAny (model P w) A (.call (.ref f) args) (CR CX0 outer P w H s Q E) s
/-- the name x is a def that keeps sp, in a suite too -/
structure CalW (P : Program) (w : World) (K : Fg) (mg : Str → Option Value) (base : Heap) (k : Nat) (x : Str) (ps : List Str) (sp : Sp) : Prop where
  ex : ∃ (f : Addr) (fd : FuncData), FnW P w K mg base k f fd ps sp ∧ mg x = some (.ref f) ∧ PySem.W.keepIn K (.ref f) = true ∧ Binds K fd ps []
section
variable {P : Program} {w : World} {K : Fg} {mg : Str → Option Value} {base : Heap} {k : Nat} {x : Str} {ps N : List Str} {sp : Sp} {st : Stmt}
end
end Ux

set_option maxRecDepth 100000
set_option maxHeartbeats 4000000
/-! ### a def that asks, catches, and makes the thing grow: it answers True -/
namespace Ux
open PySem PySem.Spec PyProof.Rows L2 Tq
end Ux

set_option maxRecDepth 100000
set_option maxHeartbeats 4000000
namespace Tq
open PySem PySem.Spec PyProof.Rows L2
open PySem.NumText (digitsVal AllDigits)
def topS (i : Nat) : Stmt := PySem.Challenge.pw_termstream_k27_whole_ranges_of_rests.main.body.getD i (.Pass ⟨0, 0, 0, 0⟩)
local macro_rules | `(tactic| walk_at "less") => `(tactic| (repeat' (first | exact less_nil | refine less_none ?_ | refine less_some ?_)))
local macro_rules | `(tactic| walk_at "bd") => `(tactic| (repeat' (first | assumption | with_reducible apply Bd.mul | with_reducible apply Bd.add | with_reducible apply Bd.sub | with_reducible apply Bd.neg | (with_reducible apply Bd.div; rotate_left; omega) | exact Bd.lit (k := 40) (by first | decide | omega))))
local macro_rules | `(tactic| walk_at "dq") => `(tactic| (first
  | (with_reducible show wS _ _ (List.set _ _ _) _; refine wS_norm (by simp only [List.set]; first | done | exact rfl) ?_)
  | (with_reducible show wE _ (tVar _) _ _; first | refine wE_var rfl ?_ | refine wE_ptr rfl ?_)
  | (with_reducible show wE _ (tC (.int _)) _ _; refine wE_int ?_)
  | (with_reducible show wE _ (tC (.str _)) _ _; refine wE_str ?_)
  | (with_reducible show wE _ (tC (.bl _)) _ _; refine wE_bl ?_)
  | (with_reducible show wE _ (tC .non) _ _; refine wE_non ?_)
  | (with_reducible show wD _ (tCons _ _) _ _; refine wD_cons ?_)
  | (with_reducible show wD _ tNil _ _; refine wD_nil ?_)
  | (with_reducible show wE _ (tOp (rI0 _) _ _) _ _; first | with_reducible refine wE_add ?_ | with_reducible refine wE_sub ?_ | with_reducible refine wE_lt ?_ | with_reducible refine wE_le ?_ | with_reducible refine wE_gt ?_ | with_reducible refine wE_ge ?_)
  | (with_reducible show wE _ (tOp (rI CPow _) (tC _) (tC _)) _ _; refine wE_powN ?_)
  | (with_reducible show wE _ (tDisp _) _ _; first | refine wE_dispS (by constructor) ?_ | refine wE_dispI (by constructor) ?_)
  | (with_reducible show wE _ (tCall (spTake _) _ _ _) _ _; refine wE_take rfl ?_)
  | (with_reducible show wE _ (tOp (rI _ _) _ _) _ _; first | with_reducible refine wE_mod ?_ | with_reducible refine wE_fdivW ?_ | with_reducible refine wE_mulW ?_ | with_reducible refine wE_pow ?_ | with_reducible refine wE_fdivZ ?_ | with_reducible refine wE_modN ?_ | with_reducible refine wE_mul ?_)
  | (with_reducible show wE _ (tOp (rIx _) _ _) _ _; refine wE_ix ?_)
  | (with_reducible show wE _ (tOp (rCatG _) _ _) _ _; refine wE_catG ?_)
  | (with_reducible show wE _ (tOp rEq _ _) _ _; refine wE_eqS ?_)
  | (with_reducible show wE _ (tOp rNe _ _) _ _; refine wE_neS ?_)
  | (with_reducible show wE _ (tOp (rEqD _) _ _) _ _; refine wE_eqD ?_)
  | (with_reducible show wE _ (tOp (rNeD _) _ _) _ _; refine wE_neD ?_)
  | (with_reducible show wE _ (tOp _ _ _) _ _; first | with_reducible refine wE_addS ?_ | with_reducible refine wE_isN ?_ | with_reducible refine wE_notN ?_ | with_reducible refine wE_inSign ?_ | with_reducible refine wE_ltS ?_ | with_reducible refine wE_leS ?_)
  | (with_reducible show wE _ (tUn _ _) _ _; refine wE_neg ?_)
  | (with_reducible show wE _ (tLst _) _ _; refine wE_lst ?_)
  | (with_reducible show wE _ (tTup _) _ _; refine wE_tup ?_)
  | (with_reducible show wE _ tDNewK _ _; refine wE_dnew ?_)
  | (with_reducible show wE _ (tCB (rIsi _) _) _ _; refine wE_isi ?_)
  | (with_reducible show wE _ (tCB (rIsiT _) _) _ _; refine wE_isi2 ?_)
  | (with_reducible show wE _ (tCB (rAll _) _) _ _; refine wE_all ?_)
  | (with_reducible show wE _ (tCB (rAny _) _) _ _; refine wE_any ?_)
  | (with_reducible show wE _ (tCB (rSum _) _) _ _; refine wE_sum ?_)
  | (with_reducible show wE _ (tCB (rRepr _) _) _ _; refine wE_reprS ?_)
  | (with_reducible show wE _ (tCB _ _) _ _; first | refine wE_len ?_ | with_reducible refine wE_abs ?_ | with_reducible refine wE_max2 ?_ | with_reducible refine wE_min2 ?_ | with_reducible refine wE_strI ?_ | with_reducible refine wE_intS ?_ | with_reducible refine wE_int1 ?_ | refine wE_listOf ?_ | refine wE_tupOf ?_)
  | (with_reducible show wE _ (tCall (detSp _ _ _ _) _ _ _) _ _; refine wE_det ?_)
  | (with_reducible show wE _ (tCall (pureSp _ _ _ _) _ _ _) _ _; refine wE_pure ?_)
  | (with_reducible show wE _ (tCall (puSp _ _ _ _ _) _ _ _) _ _; refine wE_pu rfl ?_)
  | (with_reducible show wE _ (tSl _ _ _ _) _ _; refine wE_sl ?_)
  | (with_reducible show wO _ tNoPart _ _; refine wO_no ?_)
  | (with_reducible show wO _ (tPart _) _ _; refine wO_part ?_)
  | (with_reducible show wE _ (tChain _ _ _ _ _) _ _; first | with_reducible refine wE_chainI ?_ | with_reducible refine wE_chainS ?_)
  | (with_reducible show wE _ (tAndV _ _) _ _; refine wE_andV ?_)
  | (with_reducible show wE _ (tOrV _ _) _ _; refine wE_orV ?_)
  | (with_reducible show wE _ (tNotV _) _ _; refine wE_notV ?_)
  | (with_reducible show wE _ (tIf _ _ _) _ _; refine wE_if ?_)
  | (with_reducible show wE _ (tM1 _ _ _) _ _; first | with_reducible refine wE_starts ?_ | with_reducible refine wE_index ?_ | refine wE_join ?_)
  | (with_reducible show wT _ (tTest _) _ _; refine wT_test ?_)
  | (with_reducible show wT _ (tB _) _ _; refine wT_B ?_)
  | (with_reducible show wT _ (tAnd _ _) _ _; refine wT_and ?_)
  | (with_reducible show wT _ (tOr _ _) _ _; refine wT_or ?_)
  | (with_reducible show wT _ (tNot _) _ _; refine wT_not ?_)
  | (with_reducible show wT _ tYes _ _; refine wT_yes ?_)
  | (with_reducible show wS _ (tSeq (tAsg (tLst _) (gName _)) (tSeq (tDrop (tBM _ _ rAppend _ _)) _)) _ _; refine wS_seq (wS_own ?_))
  | (with_reducible show wS _ (tSeq (tDrop (tBM _ _ rAppend (tVar _) _)) _) _ _; refine wS_seq (wS_app rfl ?_))
  | (with_reducible show wS _ (tSeq (tAsg (tCall spPurse _ _ _) _) _) _ _; refine wS_seq (wS_purse ?_))
  | (with_reducible show wS _ (tSeq (tAsg _ (gName _)) _) _ _; refine wS_seqA ?_)
  | (with_reducible show wS _ (tSeq (tPar _ _ _) _) _ _; refine wS_seqP ?_)
  | (with_reducible show wS _ (tSeq (tIfS _ _ tNext) _) _ _; refine wS_seqI ?_)
  | (with_reducible show wS _ (tDrop (tCall _ _ _ _)) _ _; refine wS_drop ?_)
  | (with_reducible show wS _ (tSeq _ _) _ _; refine wS_seq ?_)
  | (with_reducible show wS _ (tAsg _ (gName _)) _ _; refine wS_asg ?_)
  | (with_reducible show wS _ (tAsg _ _) _ _; refine wS_asgG ?_)
  | (with_reducible show wS _ (tPar _ _ _) _ _; refine wS_par ?_)
  | (with_reducible show wS _ (tIfS _ _ tNext) _ _; refine wS_ifN ?_)
  | (with_reducible show wS _ (tIfS _ _ _) _ _; refine wS_if ?_)
  | (with_reducible show wS _ (tRet _) _ _; refine wS_ret ?_)
  | (with_reducible show wS _ tRetN _ _; refine wS_retN ?_)
  | (with_reducible show wS _ tNext _ _; refine wS_next ?_)
  | (with_reducible show wS _ (tAug _ _ _) _ _; refine wS_aug rfl ?_)
  | (with_reducible show wI _ (iList _ _) _ _; refine wI_list ?_)
  | (with_reducible show wI _ (iTup _ _) _ _; refine wI_tup ?_)
  | (with_reducible show wI _ (iAny _ _) _ _; refine wI_any rfl rfl ?_)
  | (with_reducible show wI _ (iStr _) _ _; refine wI_str ?_)
  | (with_reducible show wI _ (iRng1 _) _ _; refine wI_rng1 ?_)
  | (with_reducible show wI _ (iRng2 _) _ _; refine wI_rng2 ?_)
  | (with_reducible show wG _ (gName _) _ _ _; refine wG_name ?_)
  | (with_reducible show wG _ (gTup _ _ _) _ _ _; refine wG_tup rfl ?_)
  | (with_reducible show wGs _ (gCons _ _) _ _ _; refine wGs_cons ?_)
  | (with_reducible show wGs _ gNil _ _ _; refine wGs_nil ?_)
  | (with_reducible show ite _ _ _; first | refine itb_t rfl ?_ | refine itb_f rfl ?_)
  | (with_reducible show @Exists _ _; first | refine ⟨_, _, rfl, rfl, by omega, fun r h0 h1 => ?_⟩ | refine ⟨_, rfl, ?_⟩ | refine ⟨_, _, rfl, dLen_str (by first | omega | decide), ?_⟩ | refine ⟨_, _, rfl, dCut_str (by first | omega | decide) _ _, ?_⟩ | refine ⟨_, _, rfl, rfl, sz_small (by first | omega | (simp only [strLen_append]; omega)), ?_⟩ | refine ⟨_, _, rfl, rfl, ?_⟩ | refine ⟨_, _, rfl, ?_⟩ | refine ⟨_, _, _, rfl, rfl, rfl, ?_⟩ | refine ⟨_, _, _, rfl, rfl, ?_⟩)
  | (with_reducible show CMulW _ _ ∧ _; refine ⟨Bd.mulW (by walk_at "bd") (by walk_at "bd"), ?_⟩)
  | (with_reducible show CDivW _ _ ∧ _; refine ⟨Bd.divW (by walk_at "bd") (by omega), ?_⟩)
  | (with_reducible show _ ∧ _; first | (refine ⟨sz_small ?_, ?_⟩; focus first | (simp; done) | (simp only [List.length_map, List.length_append, List.length_take, List.length_drop, List.length_cons, List.length_nil]; omega)) | (refine ⟨sz_lt1 ?_, ?_⟩; focus first | (simp; done) | (simp only [List.length_map, List.length_append, List.length_take, List.length_drop, List.length_cons, List.length_nil]; omega)) | refine and_sw ?_ ⟨rfl, trivial⟩ | refine and_sw ?_ ⟨rfl, ⟨_, rfl⟩⟩ | refine and_sw ?_ ⟨rfl, ⟨_, _, rfl⟩⟩ | refine and_sw ?_ ⟨rfl, ⟨_, _, _, rfl⟩⟩ | refine and_sw ?_ ⟨rfl, ⟨_, rfl, ?_⟩⟩ | refine and_sw ?_ ⟨rfl, ⟨_, _, rfl, ?_⟩⟩ | refine ⟨rfl, ?_⟩ | refine ⟨trivial, ?_⟩ | refine ⟨by omega, ?_⟩)
  | (with_reducible show _ ≤ sizeLine; exact sz_small (by omega))
  | fail))

def aD : Option Int → D
  | none => .none
  | some i => .int i
def oI : D → Option Int
  | .int i => some i
  | _ => none
theorem oI_aD (a : Option Int) : oI (aD a) = a := by cases a <;> rfl
theorem sh_aD (a : Option Int) : SeqAt.shaped (aD a) = true := by cases a <;> rfl
theorem dIx_ints {d : D} {ts : List Int} (h : intsD d = some ts) {i : Nat} (hi : i < ts.length) : dIx d (i : Int) = some (.int (ts.getD i 0)) := by
  rw [List.getD_eq_getElem?_getD, List.getElem?_eq_getElem hi]
  exact dIx_int h (List.getElem?_eq_getElem hi)
theorem dIx_last {d : D} {ts : List Int} (h : intsD d = some ts) (hn : ts ≠ []) : dIx d (-1) = some (.int (ts.getLastD 0)) := by
  have key : atI (ts.map PyData.int) (-1) = some (.int (ts.getLastD 0)) := by
    rw [atI_last (by intro h; rw [List.map_eq_nil_iff] at h; exact hn h), List.getLast?_map, List.getLastD_eq_getLast?]
    cases q : ts.getLast? with
    | none => rw [List.getLast?_eq_none_iff] at q; exact absurd q hn
    | some l => rfl
  unfold intsD at h
  cases d with
  | list xs =>
    have h : allInts xs = some ts := h
    rw [allInts_some h]
    exact key
  | tuple xs =>
    have h : allInts xs = some ts := h
    rw [allInts_some h]
    exact key
  | _ => cases h
abbrev sp_is_manner (K : Fg) : Sp := detSp K 1 (fun _ => True) (fun ds => .bool (mnOf (a0 ds)).isSome)

theorem inD_mn (s : Str) : inD (.str s) [.str "floor", .str "ceil", .str "near"] = (mnOf (.str s)).isSome := by
  have e : inD (.str s) [.str "floor", .str "ceil", .str "near"] = (decide (s = "floor") || (decide (s = "ceil") || (decide (s = "near") || false))) := by
    have er : ∀ a b : Str, eqF (.str a) (.str b) = decide (b = a) := fun a b => by
      show (a == b) = decide (b = a)
      by_cases h : a = b
      · rw [h, decide_eq_true rfl]; exact beq_self_eq_true b
      · rw [decide_eq_false (fun z => h z.symm)]; exact beq_eq_false_iff_ne.mpr h
    show ((eqF (.str "floor") (.str s)) || ((eqF (.str "ceil") (.str s)) || ((eqF (.str "near") (.str s)) || false))) = _
    rw [er, er, er]
  rw [e]
  unfold mnOf
  dsimp only
  by_cases h1 : s = "floor"
  · rw [if_pos h1, decide_eq_true h1]; rfl
  · rw [if_neg h1, decide_eq_false h1]
    by_cases h2 : s = "ceil"
    · rw [if_pos h2, decide_eq_true h2]; rfl
    · rw [if_neg h2, decide_eq_false h2]
      by_cases h3 : s = "near"
      · rw [if_pos h3, decide_eq_true h3]; rfl
      · rw [if_neg h3, decide_eq_false h3]; rfl
def MdR (t b : Int) (r : D) : Prop := ∃ p q : Int, r = fr p q ∧ 1 ≤ q ∧ gcdI p q = 1 ∧ p * b = q * t ∧ p.natAbs ≤ t.natAbs ∧ q.natAbs ≤ b.natAbs
abbrev sp_made (K : Fg) : Sp := pureSp K 2 (fun ds => ∃ t b, ds = [.int t, .int b] ∧ b ≠ 0 ∧ Bd 1600 t ∧ Bd 1600 b) (fun ds r => ∀ t b, ds = [.int t, .int b] → MdR t b r)
theorem gcd_divs {t b : Int} (hb : b ≠ 0) : ∃ u v : Int, t = u * gcdI t b ∧ b = v * gcdI t b ∧ v ≠ 0 ∧ gcdI u v = 1 := by
  have g0 : 0 < gcdI t b := gcd_pos hb
  have d1 : gcdI t b ∣ t := by show ((Int.gcd t b : Nat) : Int) ∣ t; exact Int.gcd_dvd_left ..
  have d2 : gcdI t b ∣ b := by show ((Int.gcd t b : Nat) : Int) ∣ b; exact Int.gcd_dvd_right ..
  obtain ⟨u, hu⟩ := d1
  obtain ⟨v, hv⟩ := d2
  refine ⟨u, v, by rw [Int.mul_comm]; exact hu, by rw [Int.mul_comm]; exact hv, fun z => hb (by rw [hv, z, Int.mul_zero]), ?_⟩
  have hu' : t.natAbs = (gcdI t b).natAbs * u.natAbs := by rw [← Int.natAbs_mul, ← hu]
  have hv' : b.natAbs = (gcdI t b).natAbs * v.natAbs := by rw [← Int.natAbs_mul, ← hv]
  have hg : (gcdI t b).natAbs = Nat.gcd t.natAbs b.natAbs := by unfold gcdI; rfl
  have gp : 0 < Nat.gcd t.natAbs b.natAbs := by rw [← hg]; omega
  rw [hg] at hu' hv'
  have : Nat.gcd t.natAbs b.natAbs * Nat.gcd u.natAbs v.natAbs = Nat.gcd t.natAbs b.natAbs := by
    rw [← Nat.gcd_mul_left, ← hu', ← hv']
  have h1 : Nat.gcd u.natAbs v.natAbs = 1 := Nat.eq_of_mul_eq_mul_left gp (by rw [this, Nat.mul_one])
  unfold gcdI
  rw [h1]
  rfl


def rowsB : D → Bool
  | .tuple [.tuple [x, y], .tuple [u, v]] => isNum x && isNum y && isNum u && isNum v
  | _ => false
def tup2 : D → Bool
  | .tuple [_, _] => true
  | _ => false
abbrev sp_is_rows (K : Fg) : Sp := detSp K 1 (fun ds => ∀ xs, dItems (a0 ds) = some xs → xs.length ≤ 1000 ∧ ∀ x ∈ xs, ∀ ys, dItems x = some ys → ys.length ≤ 1000) (fun ds => .bool (rowsB (a0 ds)))
def begF : D := .tuple [.tuple [.tuple [.int 1, .int 1], .bool false], .tuple [.tuple [.int 1, .int 0], .bool true]]
def begR : D := .tuple [.tuple [.tuple [.int 2, .int 1], .bool false], .tuple [.tuple [.int 2, .int (-1)], .bool true]]
def begD : Mn → D
  | .ne => begR
  | _ => begF
def coneB : Mn → Int → D
  | .fl, t => .tuple [.tuple [.tuple [.int 1, .int 1], .bool false], .tuple [.tuple [.int 1, .int 0], .bool (decide (t ≠ 1))]]
  | .ce, _ => begF
  | .ne, t => if t = 2 then .tuple [.tuple [.tuple [.int 2, .int 1], .bool false], .tuple [.tuple [.int 1, .int 0], .bool false]] else if t = -2 then .tuple [.tuple [.tuple [.int 1, .int 0], .bool true], .tuple [.tuple [.int 2, .int (-1)], .bool true]] else begR
def coneL (k : Mn) (ts : List Int) : D := if ts.length = 1 then begD k else coneB k (ts.getLastD 0)

abbrev sp_law_lowest (K : Fg) : Sp := pureSp K 2 (fun ds => ∃ t b, ds = [.int t, .int b] ∧ b ≠ 0 ∧ Bd 1600 t ∧ Bd 1600 b) (fun ds r => ∀ t b, ds = [.int t, .int b] → MdR t b r)
def allC : List D := [Mn.fl, .ce, .ne].flatMap fun k => begD k :: [1, 2, -2, 3].map (coneB k)
abbrev sp_applied (K : Fg) : Sp := pureSp K 2 (fun ds => ∃ m x y, ds = [mxD m, .tuple [.int x, .int y]] ∧ MB 100 m ∧ Bd 2 x ∧ Bd 2 y) (fun ds r => ∀ m x y, ds = [mxD m, .tuple [.int x, .int y]] → r = .tuple [.int (apT m x y), .int (apB m x y)])
theorem mxv_inj {m m' : Mx} {x y x' y' : Int} (h : [mxD m, PyData.tuple [.int x, .int y]] = [mxD m', .tuple [.int x', .int y']]) : m = m' ∧ x = x' ∧ y = y' := by
  rw [List.cons.injEq, List.cons.injEq] at h
  obtain ⟨h1, h2, _⟩ := h
  rw [PyData.tuple.injEq, List.cons.injEq, List.cons.injEq] at h2
  exact ⟨mxD_inj h1, PyData.int.inj h2.1, PyData.int.inj h2.2.1⟩
def CnB (c : Cn) : Prop := Bd 1 c.u0 ∧ Bd 1 c.u1 ∧ Bd 1 c.v0 ∧ Bd 1 c.v1
theorem ap_bd {m : Mx} {x y : Int} (hm : MB 100 m) (hx : Bd 2 x) (hy : Bd 2 y) : Bd 210 (apT m x y) ∧ Bd 210 (apB m x y) := by
  obtain ⟨h1, h2, h3, h4⟩ := hm
  exact ⟨Bd.mono (Bd.add (h1.mul hx) (h2.mul hy)) (by decide), Bd.mono (Bd.add (h3.mul hx) (h4.mul hy)) (by decide)⟩

theorem fr_inj2 {a b c d : Int} (h : fr a b = fr c d) : a = c ∧ b = d := by
  unfold fr at h
  rw [PyData.tuple.injEq, List.cons.injEq, List.cons.injEq] at h
  exact ⟨PyData.int.inj h.1, PyData.int.inj h.2.1⟩

def lawD : List D := [begD .fl, coneB .fl 3, coneB .fl 2, begD .ce, coneB .ce 3, coneB .ce 2, begD .ne, coneB .ne 3, coneB .ne 2, coneB .fl 1, coneB .ne (-2)]
theorem cnb_lit (a b c d : Int) (x y : Bool) (h1 : a.natAbs < 10) (h2 : b.natAbs < 10) (h3 : c.natAbs < 10) (h4 : d.natAbs < 10) : CnB ⟨a, b, x, c, d, y⟩ := ⟨Bd.lit (k := 1) h1, Bd.lit (k := 1) h2, Bd.lit (k := 1) h3, Bd.lit (k := 1) h4⟩
theorem lawD_cn : ∀ d ∈ lawD, ∃ c : Cn, d = c.d ∧ CnB c ∧ c.v0 * c.u1 - c.v1 * c.u0 ≠ 0 := by
  intro d hd
  unfold lawD at hd
  simp only [List.mem_cons, List.not_mem_nil, or_false] at hd
  rcases hd with rfl | rfl | rfl | rfl | rfl | rfl | rfl | rfl | rfl | rfl | rfl
  · exact ⟨⟨1, 1, false, 1, 0, true⟩, rfl, cnb_lit _ _ _ _ _ _ (by decide) (by decide) (by decide) (by decide), by decide⟩
  · exact ⟨⟨1, 1, false, 1, 0, true⟩, rfl, cnb_lit _ _ _ _ _ _ (by decide) (by decide) (by decide) (by decide), by decide⟩
  · exact ⟨⟨1, 1, false, 1, 0, true⟩, rfl, cnb_lit _ _ _ _ _ _ (by decide) (by decide) (by decide) (by decide), by decide⟩
  · exact ⟨⟨1, 1, false, 1, 0, true⟩, rfl, cnb_lit _ _ _ _ _ _ (by decide) (by decide) (by decide) (by decide), by decide⟩
  · exact ⟨⟨1, 1, false, 1, 0, true⟩, rfl, cnb_lit _ _ _ _ _ _ (by decide) (by decide) (by decide) (by decide), by decide⟩
  · exact ⟨⟨1, 1, false, 1, 0, true⟩, rfl, cnb_lit _ _ _ _ _ _ (by decide) (by decide) (by decide) (by decide), by decide⟩
  · exact ⟨⟨2, 1, false, 2, -1, true⟩, rfl, cnb_lit _ _ _ _ _ _ (by decide) (by decide) (by decide) (by decide), by decide⟩
  · exact ⟨⟨2, 1, false, 2, -1, true⟩, rfl, cnb_lit _ _ _ _ _ _ (by decide) (by decide) (by decide) (by decide), by decide⟩
  · exact ⟨⟨2, 1, false, 1, 0, false⟩, rfl, cnb_lit _ _ _ _ _ _ (by decide) (by decide) (by decide) (by decide), by decide⟩
  · exact ⟨⟨1, 1, false, 1, 0, false⟩, rfl, cnb_lit _ _ _ _ _ _ (by decide) (by decide) (by decide) (by decide), by decide⟩
  · exact ⟨⟨1, 0, true, 2, -1, true⟩, rfl, cnb_lit _ _ _ _ _ _ (by decide) (by decide) (by decide) (by decide), by decide⟩
def tsI (j : Nat) : List Int := [[5], [5, 3], [5, 2]].getD j []
theorem lawD_at {i : Nat} {k : Mn} (h : (i = 0 ∧ k = .fl) ∨ (i = 1 ∧ k = .ce) ∨ (i = 2 ∧ k = .ne)) : ∀ j < 3, lawD[3 * i + j]? = some (coneL k (tsI j)) := by
  rcases h with ⟨rfl, rfl⟩ | ⟨rfl, rfl⟩ | ⟨rfl, rfl⟩ <;> (intro j hj; match j, hj with | 0, _ => rfl | 1, _ => rfl | 2, _ => rfl)

def vaT (m : Mx) (c : Cn) (k l : Int) : Int := apT m (k * c.u0 + l * c.v0) (k * c.u1 + l * c.v1)
def vaB (m : Mx) (c : Cn) (k l : Int) : Int := apB m (k * c.u0 + l * c.v0) (k * c.u1 + l * c.v1)
theorem va_lin (m : Mx) (c : Cn) (k l : Int) : vaT m c k l = k * apT m c.u0 c.u1 + l * apT m c.v0 c.v1 ∧ vaB m c k l = k * apB m c.u0 c.u1 + l * apB m c.v0 c.v1 := ap_lin m c.u0 c.u1 c.v0 c.v1 k l
theorem va_u (m : Mx) (c : Cn) : vaT m c 1 0 = apT m c.u0 c.u1 ∧ vaB m c 1 0 = apB m c.u0 c.u1 := by
  obtain ⟨h1, h2⟩ := va_lin m c 1 0
  rw [h1, h2]; constructor <;> omega
theorem va_v (m : Mx) (c : Cn) : vaT m c 0 1 = apT m c.v0 c.v1 ∧ vaB m c 0 1 = apB m c.v0 c.v1 := by
  obtain ⟨h1, h2⟩ := va_lin m c 0 1
  rw [h1, h2]; constructor <;> omega
theorem va_bd {m : Mx} {c : Cn} {k l : Int} (hm : MB 20 m) (hc : CnB c) (hk : Bd 50 k) (hl : Bd 50 l) : Bd 130 (vaT m c k l) ∧ Bd 130 (vaB m c k l) := by
  obtain ⟨m1, m2, m3, m4⟩ := hm
  obtain ⟨h1, h2, h3, h4⟩ := hc
  have x := Bd.add (hk.mul h1) (hl.mul h3)
  have y := Bd.add (hk.mul h2) (hl.mul h4)
  have x : Bd 54 (k * c.u0 + l * c.v0) := by
    have e1 : (k * c.u0).natAbs ≤ k.natAbs * 9 := by rw [Int.natAbs_mul]; exact Nat.mul_le_mul_left _ (by unfold Bd at h1; omega)
    have e2 : (l * c.v0).natAbs ≤ l.natAbs * 9 := by rw [Int.natAbs_mul]; exact Nat.mul_le_mul_left _ (by unfold Bd at h3; omega)
    unfold Bd at *; omega
  have y : Bd 54 (k * c.u1 + l * c.v1) := by
    have e1 : (k * c.u1).natAbs ≤ k.natAbs * 9 := by rw [Int.natAbs_mul]; exact Nat.mul_le_mul_left _ (by unfold Bd at h2; omega)
    have e2 : (l * c.v1).natAbs ≤ l.natAbs * 9 := by rw [Int.natAbs_mul]; exact Nat.mul_le_mul_left _ (by unfold Bd at h4; omega)
    unfold Bd at *; omega
  have two : ∀ {p q : Int}, Bd 75 p → Bd 75 q → Bd 130 (p + q) := fun h h' => by unfold Bd at *; omega
  exact ⟨two ((m1.mul x).mono (by decide)) ((m2.mul y).mono (by decide)), two ((m3.mul x).mono (by decide)) ((m4.mul y).mono (by decide))⟩
theorem ap_bd20 {m : Mx} {x y : Int} (hm : MB 20 m) (hx : Bd 1 x) (hy : Bd 1 y) : Bd 22 (apT m x y) ∧ Bd 22 (apB m x y) := by
  obtain ⟨m1, m2, m3, m4⟩ := hm
  have one : ∀ {p z : Int}, Bd 20 p → Bd 1 z → (p * z).natAbs < 10 ^ 20 * 9 := fun {p z} h h' => by
    rw [Int.natAbs_mul]
    have e1 : p.natAbs * z.natAbs ≤ p.natAbs * 9 := Nat.mul_le_mul_left _ (by unfold Bd at h'; omega)
    unfold Bd at h
    omega
  have a1 := one m1 hx
  have a2 := one m2 hy
  have a3 := one m3 hx
  have a4 := one m4 hy
  unfold apT apB Bd
  constructor <;> omega
abbrev sp_law_value (K : Fg) : Sp := pureSp K 4 (fun ds => ∃ m c k l, ds = [mxD m, Cn.d c, .int k, .int l] ∧ MB 20 m ∧ CnB c ∧ Bd 50 k ∧ Bd 50 l) (fun ds r => ∀ m c k l, ds = [mxD m, Cn.d c, .int k, .int l] → r = .tuple [.int (vaT m c k l), .int (vaB m c k l)])
theorem cn_inj {c c' : Cn} (h : c.d = c'.d) : c = c' := by
  obtain ⟨a1, a2, a3, a4, a5, a6⟩ := c
  obtain ⟨b1, b2, b3, b4, b5, b6⟩ := c'
  unfold Cn.d at h
  simp only [PyData.tuple.injEq, List.cons.injEq, PyData.int.injEq, PyData.bool.injEq, and_true] at h
  obtain ⟨⟨⟨h1, h2⟩, h3⟩, ⟨h4, h5⟩, h6⟩ := h
  subst h1 h2 h3 h4 h5 h6
  rfl
theorem mckl_inj {m m' : Mx} {c c' : Cn} {k l k' l' : Int} (h : [mxD m, Cn.d c, .int k, .int l] = [mxD m', Cn.d c', .int k', .int l']) : m = m' ∧ c = c' ∧ k = k' ∧ l = l' := by
  rw [List.cons.injEq, List.cons.injEq, List.cons.injEq, List.cons.injEq] at h
  exact ⟨mxD_inj h.1, cn_inj h.2.1, PyData.int.inj h.2.2.1, PyData.int.inj h.2.2.2.1⟩
def insB (p q : Int) (li : Bool) (r s : Int) (hi : Bool) (x y : Int) : Bool := (decide (0 < x * q - p * y) || (decide (x * q - p * y = 0) && li)) && (decide (0 < r * y - x * s) || (decide (r * y - x * s = 0) && hi))
abbrev sp_law_inside (K : Fg) : Sp := pureSp K 2 (fun ds => ∃ p q li r s hi x y, ds = [.tuple [fr p q, .bool li, fr r s, .bool hi], fr x y] ∧ Bd 200 p ∧ Bd 200 q ∧ Bd 200 r ∧ Bd 200 s ∧ Bd 200 x ∧ Bd 200 y) (fun ds b => ∀ p q li r s hi x y, ds = [.tuple [fr p q, .bool li, fr r s, .bool hi], fr x y] → b = .bool (insB p q li r s hi x y))
theorem ins_inj {p q r s x y p' q' r' s' x' y' : Int} {li hi li' hi' : Bool} (h : [PyData.tuple [fr p q, .bool li, fr r s, .bool hi], fr x y] = [.tuple [fr p' q', .bool li', fr r' s', .bool hi'], fr x' y']) : p = p' ∧ q = q' ∧ li = li' ∧ r = r' ∧ s = s' ∧ hi = hi' ∧ x = x' ∧ y = y' := by
  rw [List.cons.injEq, List.cons.injEq] at h
  obtain ⟨h1, h2, _⟩ := h
  rw [PyData.tuple.injEq] at h1
  simp only [List.cons.injEq, PyData.bool.injEq, and_true] at h1
  obtain ⟨h1, h3, h4, h5⟩ := h1
  exact ⟨(fr_inj2 h1).1, (fr_inj2 h1).2, h3, (fr_inj2 h4).1, (fr_inj2 h4).2, h5, (fr_inj2 h2).1, (fr_inj2 h2).2⟩

section
variable {P : Program} {w : World} {K : Fg} {mg : Str → Option Value} {base : Heap}
abbrev s_is_manner : Stmt := topS 21
abbrev N_is_manner : List Str := ["thing"]
theorem sc_is_manner : FnScope N_is_manner ["thing"] (defScope s_is_manner) := ⟨rfl, rfl, rfl, by decide +kernel, rfl, by decide +kernel, by decide +kernel⟩
theorem ok_is_manner (d : Df K mg "is_manner" s_is_manner ["thing"]) (b_isinstance : mg "isinstance" = none) (b_str : mg "str" = none) {a_MANNERS : Addr} (m_MANNERS : Tq.GD K mg "MANNERS" a_MANNERS (PyData.tuple [(.str "floor"), (.str "ceil"), (.str "near")])) : Cal P w K mg base 1 "is_manner" ["thing"] (sp_is_manner K) := by
  refine d.ok sc_is_manner (pureSp_len rfl) (fun f cdv A outer s H vs Q E hr hgu h => ?_)
  refine ⟨_, (pss_one (ps_ret (pe_and (pe_callB (isiK K) (by rfl) b_isinstance (by decide +kernel) (pa_cons (pv 0) (pa_cons (pe_bltn (v := .ty "str") (by rfl) b_str (by decide +kernel) rfl) pa_nil))) (pe_one (pe_cmpR (inK K) (pv 0) (pe_glob (v := .ref a_MANNERS) (by rfl) m_MANNERS.m rfl) (by rfl)))))), ?_⟩
  try dsimp only [cxOf]
  refine pure_body h (fun ds hl hp e hn hz => ?_)
  obtain ⟨x, rfl⟩ : ∃ x, ds = [x] := len1 hl
  show wS _ _ [some (.d x)] _
  repeat' walk_at "dq"
  rw [isT_str]
  cases x with
  | str s =>
    repeat' walk_at "dq"
    refine wE_inT (wE_var rfl (wE_gd m_MANNERS.r ⟨_, _, rfl, .inl rfl, rfl, rfl, ?_⟩))
    refine hz _ _ ?_
    show PyData.bool (inD (.str s) [.str "floor", .str "ceil", .str "near"]) = .bool (mnOf (.str s)).isSome
    rw [inD_mn]
  | _ => exact hz _ _ rfl
abbrev s_law_cell : Stmt := topS 41
abbrev N_law_cell : List Str := ["_law_script", "_law_k"]
theorem sc_law_cell : FnScope N_law_cell ["_law_script", "_law_k"] (defScope s_law_cell) := ⟨rfl, rfl, rfl, by decide +kernel, rfl, by decide +kernel, by decide +kernel⟩
theorem ok_law_cell (d : Df K mg "_law_cell" s_law_cell ["_law_script", "_law_k"]) (b_len : mg "len" = none) : Cal P w K mg base 1 "_law_cell" ["_law_script", "_law_k"] (sp_law_cell K) := by
  refine d.ok sc_law_cell (pureSp_len rfl) (fun f cdv A outer s H vs Q E hr hgu h => ?_)
  refine ⟨_, (pss_cons (ps_if (pt_cmpR op_lt (pv 1) (pe_callB (lenK K) (by rfl) b_len (by decide +kernel) (pa_cons (pv 0) pa_nil)) (nomark _)) (pss_one (ps_ret (pe_ix (ixK K) (pv 0) (pv 1) (fun _ _ => rfl)))) pss_nil)
    (pss_one (ps_ret (pe_op op_add (pe_op op_mulW pe_int (pv 1)) pe_int)))), ?_⟩
  try dsimp only [cxOf]
  refine pure_body h (fun ds hl hp e hn hz => ?_)
  obtain ⟨ns, k, rfl, k0, k1⟩ := hp
  show wS _ _ [some (.d (.list (ns.map PyData.int))), some (.d (.int k))] _
  repeat' walk_at "dq"
  refine ite2 (fun b => ?_) (fun b => ?_)
  · repeat' walk_at "dq"
    obtain ⟨x, hx, hm⟩ := atI_mem (xs := ns.map PyData.int) k0 (of_decide_eq_true b)
    refine ⟨_, _, x, rfl, rfl, hx, hz _ _ ?_⟩
    obtain ⟨n, _, rfl⟩ := List.mem_map.mp hm
    exact ⟨n, rfl⟩
  · repeat' walk_at "dq"
    exact hz _ _ ⟨_, rfl⟩
abbrev s_law_purse : Stmt := topS 42
abbrev N_law_purse : List Str := ["_law_cell_here"]
theorem sc_law_purse : FnScope N_law_purse ["_law_cell_here"] (defScope s_law_purse) := ⟨rfl, rfl, rfl, by decide +kernel, rfl, by decide +kernel, by decide +kernel⟩
theorem ok_law_purse (d : Df K mg "_law_purse" s_law_purse ["_law_cell_here"]) (b_max : mg "max" = none) : Cal P w K mg base 1 "_law_purse" ["_law_cell_here"] (sp_law_purse K) := by
  refine d.ok sc_law_purse (fun vs H Q E z => by obtain ⟨c, rfl, _⟩ := z; rfl) (fun f cdv A outer s H vs Q E hr hgu h => ?_)
  exact ⟨t_purse, (pss_one (ps_ret (pe_lst (pa_cons (pe_callB (call_max2 rfl) (by rfl) b_max (by decide +kernel) (pa_cons pe_int (pa_cons (pe_op op_sub (pv 0) (pe_op op_pow pe_int pe_int)) pa_nil))) (pa_cons (pe_op op_mod (pv 0) pe_int) (pa_cons pe_int pa_nil)))))), purse_read rfl h⟩
abbrev s_law_take : Stmt := topS 43
abbrev N_law_take : List Str := ["_law_purse_here", "_law_many", "_law_digit", "_law_one", "_law_other"]
theorem sc_law_take : FnScope N_law_take ["_law_purse_here", "_law_many"] (defScope s_law_take) := ⟨rfl, rfl, rfl, by decide +kernel, rfl, by decide +kernel, by decide +kernel⟩
theorem ok_law_take (d : Df K mg "_law_take" s_law_take ["_law_purse_here", "_law_many"])  : Cal P w K mg base 1 "_law_take" ["_law_purse_here", "_law_many"] (sp_law_take K) := by
  refine d.ok sc_law_take (puSp_len rfl) (fun f cdv A outer s H vs Q E hr hgu h => ?_)
  exact ⟨t_take K _, (pss_cons (ps_if (pt_cmpR op_gt (pe_ix (ixK K) (pv 0) pe_int (fun _ _ => rfl)) pe_int (nomark _)) (pss_cons (ps_set (i := 2) sc_law_take.nd rfl (Or.inl rfl) (pe_op op_mod (pe_ix (ixK K) (pv 0) pe_int (fun _ _ => rfl)) (pv 1)))
    (pss_cons (ps_asg (pe_op op_fdivW (pe_ix (ixK K) (pv 0) pe_int (fun _ _ => rfl)) (pv 1)) (pg_sub (pv 0) pe_int set_list))
    (pss_one (ps_ret (pv 2))))) pss_nil)
    (pss_cons (ps_asg (pe_op op_add (pe_ix (ixK K) (pv 0) pe_int (fun _ _ => rfl)) pe_int) (pg_sub (pv 0) pe_int set_list))
    (pss_cons (ps_set (i := 3) sc_law_take.nd rfl (Or.inl rfl) (pe_op op_mod (pe_op op_pow (pe_op op_add (pe_op op_add (pe_ix (ixK K) (pv 0) pe_int (fun _ _ => rfl)) (pe_op op_mul pe_int (pe_ix (ixK K) (pv 0) pe_int (fun _ _ => rfl)))) pe_int) pe_int) pe_int))
    (pss_cons (ps_set (i := 4) sc_law_take.nd rfl (Or.inl rfl) (pe_op op_mod (pe_op op_pow (pe_op op_add (pe_op op_add (pe_op op_fdivW (pv 3) pe_int) (pe_op op_mul (pe_op op_mul pe_int (pe_ix (ixK K) (pv 0) pe_int (fun _ _ => rfl))) (pe_ix (ixK K) (pv 0) pe_int (fun _ _ => rfl)))) pe_int) pe_int) pe_int))
    (pss_one (ps_ret (pe_op op_mod (pe_op op_add (pe_op op_fdivW (pv 3) pe_int) (pe_op op_mul pe_int (pe_op op_fdivW (pv 4) pe_int))) (pv 1)))))))), take_read (by decide) rfl h⟩
abbrev s_is_number : Stmt := topS 10
abbrev N_is_number : List Str := ["thing"]
theorem sc_is_number : FnScope N_is_number ["thing"] (defScope s_is_number) := ⟨rfl, rfl, rfl, by decide +kernel, rfl, by decide +kernel, by decide +kernel⟩
theorem ok_is_number (d : Df K mg "is_number" s_is_number ["thing"]) (b_bool : mg "bool" = none) (b_int : mg "int" = none) (b_isinstance : mg "isinstance" = none) : Cal P w K mg base 1 "is_number" ["thing"] (sp_is_number K) := by
  refine d.ok sc_is_number (pureSp_len rfl) (fun f cdv A outer s H vs Q E hr hgu h => ?_)
  refine ⟨_, (pss_one (ps_ret (pe_and (pe_callB (isiK K) (by rfl) b_isinstance (by decide +kernel) (pa_cons (pv 0) (pa_cons (pe_bltn (v := .ty "int") (by rfl) b_int (by decide +kernel) rfl) pa_nil))) (pe_one (pe_not (pe_callB (isiK K) (by rfl) b_isinstance (by decide +kernel) (pa_cons (pv 0) (pa_cons (pe_bltn (v := .ty "bool") (by rfl) b_bool (by decide +kernel) rfl) pa_nil)))))))), ?_⟩
  try dsimp only [cxOf]
  refine pure_body h (fun ds hl hp e hn hz => ?_)
  obtain ⟨x, rfl⟩ : ∃ x, ds = [x] := len1 hl
  show wS _ _ [some (.d x)] _
  repeat' walk_at "dq"
  refine ite2 (fun b => ?_) (fun b => ?_)
  · repeat' walk_at "dq"
    refine hz _ _ ?_
    show PyData.bool (!isT "bool" x) = .bool (isNum x)
    rw [isNum_eq, b]; rfl
  · refine hz _ _ ?_
    show PyData.bool false = .bool (isNum x)
    rw [isNum_eq, Bool.eq_false_iff.mpr b]; rfl
abbrev s_common : Stmt := topS 16
abbrev N_common : List Str := ["one", "other"]
theorem sc_common : FnScope N_common ["one", "other"] (defScope s_common) := ⟨rfl, rfl, rfl, by decide +kernel, rfl, by decide +kernel, by decide +kernel⟩
theorem ok_common (d : Df K mg "common" s_common ["one", "other"]) (b_abs : mg "abs" = none) : Cal P w K mg base 1 "common" ["one", "other"] (sp_common K) := by
  refine d.ok sc_common (pureSp_len rfl) (fun f cdv A outer s H vs Q E hr hgu h => ?_)
  refine ⟨_, (pss_cons (ps_set (i := 0) sc_common.nd rfl (Or.inl rfl) (pe_callB call_abs (by rfl) b_abs (by decide +kernel) (pa_cons (pv 0) pa_nil)))
    (pss_cons (ps_set (i := 1) sc_common.nd rfl (Or.inl rfl) (pe_callB call_abs (by rfl) b_abs (by decide +kernel) (pa_cons (pv 1) pa_nil)))
    (pss_cons (ps_while PassesOwn.never (pt_cmpR op_ne (pv 1) pe_int (nomark _)) (pss_one (ps_par (i := 0) (j := 1) (by rfl) sc_common.nd rfl rfl (by decide) rfl rfl (pa_cons (pv 1) (pa_cons (pe_op op_mod (pv 0) (pv 1)) pa_nil)) (by rfl))))
    (pss_one (ps_ret (pv 0)))))), ?_⟩
  try dsimp only [cxOf]
  refine pure_body h (fun ds hl hp e hn hz => ?_)
  obtain ⟨a, b, rfl⟩ := hp
  show wS _ _ [some (.d (.int a)), some (.d (.int b))] _
  repeat' walk_at "dq"
  refine wS_while (fun m y => ∃ u v : Int, y = [some (.d (.int u)), some (.d (.int v))] ∧ 0 ≤ u ∧ 0 ≤ v ∧ gcdI u v = gcdI a b ∧ m = v.toNat) ⟨_, _, _, rfl, by split <;> omega, by split <;> omega, gcd_abs a b, rfl⟩ ?_
  rintro m y ⟨u, v, rfl, hu, hv, hg, rfl⟩
  repeat' walk_at "dq"
  refine ite2 (fun e1 => ?_) (fun e1 => ?_)
  · have hv0 : v ≠ 0 := fun z => by rw [z] at e1; exact absurd e1 (by decide)
    have hv1 : 0 < v := by omega
    have h1 := Int.emod_nonneg u hv0
    have h2 := Int.emod_lt_of_pos u hv1
    repeat' walk_at "dq"
    refine ⟨_, ?_, _, _, rfl, hv, h1, (gcd_turn hu hv1).trans hg, rfl⟩
    omega
  · have hv0 : v = 0 := by
      by_cases z : v = 0
      · exact z
      · exact absurd (show (!eqS (.int v) (.int 0)) = true by simp [eqS, z]) e1
    subst hv0
    repeat' walk_at "dq"
    refine hz _ _ ?_
    show PyData.int u = .int (gcdI a b)
    rw [← hg, gcd_zero hu]
abbrev s_made : Stmt := topS 19
abbrev N_made : List Str := ["top", "bottom", "by"]
theorem sc_made : FnScope N_made ["top", "bottom"] (defScope s_made) := ⟨rfl, rfl, rfl, by decide +kernel, rfl, by decide +kernel, by decide +kernel⟩
theorem ok_made (d : Df K mg "made" s_made ["top", "bottom"]) (c_common : Cal P w K mg base 1 "common" ["one", "other"] (sp_common K)) : Cal P w K mg base 2 "made" ["top", "bottom"] (sp_made K) := by
  refine d.ok sc_made (pureSp_len rfl) (fun f cdv A outer s H vs Q E hr hgu h => ?_)
  refine ⟨_, (pss_cons (ps_set (i := 2) sc_made.nd rfl (Or.inl rfl) (pe_cal c_common (hr.mono (by decide)) hgu (by rfl) (pa_cons (pv 0) (pa_cons (pv 1) pa_nil))))
    (pss_cons (ps_if (pt_cmpR op_lt (pv 1) pe_int (nomark _)) (pss_one (ps_set (i := 2) sc_made.nd rfl (Or.inl rfl) (pe_un un_neg (pv 2)))) pss_nil)
    (pss_one (ps_ret (pe_tup (pa_cons (pe_op op_fdivZ (pv 0) (pv 2)) (pa_cons (pe_op op_fdivZ (pv 1) (pv 2)) pa_nil))))))), ?_⟩
  try dsimp only [cxOf]
  refine pure_body h (fun ds hl hp e hn hz => ?_)
  obtain ⟨t, b, rfl, hb, bt, bb⟩ := hp
  show wS _ _ [some (.d (.int t)), some (.d (.int b)), none] _
  repeat' walk_at "dq"
  obtain ⟨u, v, hu, hv, v0, huv⟩ := gcd_divs (t := t) hb
  have g0 : 0 < gcdI t b := gcd_pos hb
  have gl : (gcdI t b).natAbs ≤ b.natAbs := by
    unfold gcdI
    exact Nat.gcd_le_right _ (by omega)
  have bg : Bd 1600 (gcdI t b) := by unfold Bd at *; omega
  generalize gcdI t b = g at *
  have cz : ∀ i : Int, ∀ j : Int, j ≠ 0 → Bd 1600 j → CDivZ i j := fun i j h1 h2 => ⟨h1, by
    have h3 : j.natAbs < 2 ^ 6401 := Nat.lt_of_lt_of_le h2 (Nat.le_trans (ten_two 1600) (Nat.pow_le_pow_right (by decide) (by decide)))
    exact Nat.lt_of_lt_of_le (log2_lt h3 (by decide)) (by decide)⟩
  have bu : u.natAbs ≤ t.natAbs := by rw [hu, Int.natAbs_mul]; exact Nat.le_mul_of_pos_right _ (by omega)
  have bv : v.natAbs ≤ b.natAbs := by rw [hv, Int.natAbs_mul]; exact Nat.le_mul_of_pos_right _ (by omega)
  have cross : u * b = v * t := by
    rw [hu, hv, ← Int.mul_assoc, ← Int.mul_assoc, Int.mul_comm u v]
  refine ite2 (fun c => ?_) (fun c => ?_)
  · have c := of_decide_eq_true c
    have vn : v < 0 := by
      rcases Int.lt_or_le v 0 with z | z
      · exact z
      · have := Int.mul_nonneg z (show 0 ≤ g by omega)
        omega
    have e1 : t.fdiv (-g) = -u := by rw [hu, show u * g = -u * -g by rw [Int.neg_mul_neg]]; exact Int.mul_fdiv_cancel _ (by omega)
    have e2 : b.fdiv (-g) = -v := by rw [hv, show v * g = -v * -g by rw [Int.neg_mul_neg]]; exact Int.mul_fdiv_cancel _ (by omega)
    repeat' walk_at "dq"
    refine ⟨cz _ _ (by omega) bg.neg, ?_⟩
    repeat' walk_at "dq"
    refine ⟨cz _ _ (by omega) bg.neg, ?_⟩
    repeat' walk_at "dq"
    refine hz _ _ (fun t' b' e => ?_)
    cases e
    refine ⟨-u, -v, by rw [e1, e2], by omega, ?_, ?_, by rw [Int.natAbs_neg]; exact bu, by rw [Int.natAbs_neg]; exact bv⟩
    · unfold gcdI at huv ⊢; rw [Int.natAbs_neg, Int.natAbs_neg]; exact huv
    · rw [Int.neg_mul, Int.neg_mul, cross]
  · have c := of_decide_eq_false (Bool.eq_false_iff.mpr c)
    have vn : 0 < v := by
      rcases Int.lt_or_le 0 v with z | z
      · exact z
      · have := Int.mul_nonneg (show 0 ≤ -v by omega) (show 0 ≤ g by omega)
        rw [Int.neg_mul] at this
        omega
    have e1 : t.fdiv g = u := by rw [hu]; exact Int.mul_fdiv_cancel _ (by omega)
    have e2 : b.fdiv g = v := by rw [hv]; exact Int.mul_fdiv_cancel _ (by omega)
    repeat' walk_at "dq"
    refine ⟨cz _ _ (by omega) bg, ?_⟩
    repeat' walk_at "dq"
    refine ⟨cz _ _ (by omega) bg, ?_⟩
    repeat' walk_at "dq"
    refine hz _ _ (fun t' b' e => ?_)
    cases e
    exact ⟨u, v, by rw [e1, e2], by omega, huv, cross, bu, bv⟩
abbrev s_is_fraction : Stmt := topS 17
abbrev N_is_fraction : List Str := ["thing"]
theorem sc_is_fraction : FnScope N_is_fraction ["thing"] (defScope s_is_fraction) := ⟨rfl, rfl, rfl, by decide +kernel, rfl, by decide +kernel, by decide +kernel⟩
theorem ok_is_fraction (d : Df K mg "is_fraction" s_is_fraction ["thing"]) (c_is_number : Cal P w K mg base 1 "is_number" ["thing"] (sp_is_number K)) (c_common : Cal P w K mg base 1 "common" ["one", "other"] (sp_common K)) (b_isinstance : mg "isinstance" = none) (b_len : mg "len" = none) (b_tuple : mg "tuple" = none) : Cal P w K mg base 2 "is_fraction" ["thing"] (sp_is_fraction K) := by
  refine d.ok sc_is_fraction (pureSp_len rfl) (fun f cdv A outer s H vs Q E hr hgu h => ?_)
  refine ⟨_, (pss_cons (ps_if (PW.pt (pw_or (pt_not (pt_val (pe_callB (isiK K) (by rfl) b_isinstance (by decide +kernel) (pa_cons (pv 0) (pa_cons (pe_bltn (v := .ty "tuple") (by rfl) b_tuple (by decide +kernel) rfl) pa_nil))))) (pw_or (pt_cmpR op_ne (pe_callB (lenK K) (by rfl) b_len (by decide +kernel) (pa_cons (pv 0) pa_nil)) pe_int (nomark _)) (pw_or (pt_not (pt_val (pe_cal c_is_number (hr.mono (by decide)) hgu (by rfl) (pa_cons (pe_ix (ixK K) (pv 0) pe_int (fun _ _ => rfl)) pa_nil)))) (pw_or1 (pt_not (pt_val (pe_cal c_is_number (hr.mono (by decide)) hgu (by rfl) (pa_cons (pe_ix (ixK K) (pv 0) pe_int (fun _ _ => rfl)) pa_nil))))))))) (pss_one (ps_ret pe_bl)) pss_nil)
    (pss_one (ps_ret (pe_and (pe_cmpR op_ge (pe_ix (ixK K) (pv 0) pe_int (fun _ _ => rfl)) pe_int (nomark _)) (pe_one (pe_cmpR op_eq (pe_cal c_common (hr.mono (by decide)) hgu (by rfl) (pa_cons (pe_ix (ixK K) (pv 0) pe_int (fun _ _ => rfl)) (pa_cons (pe_ix (ixK K) (pv 0) pe_int (fun _ _ => rfl)) pa_nil))) pe_int (nomark _))))))), ?_⟩
  try dsimp only [cxOf]
  refine pure_body h (fun ds hl hp e hn hz => ?_)
  obtain ⟨x, rfl⟩ : ∃ x, ds = [x] := len1 hl
  show wS _ _ [some (.d x)] _
  repeat' walk_at "dq"
  rw [isT_tuple]
  cases x with
  | tuple xs =>
    match xs with
    | [] => repeat' (first | walk_at "dq" | (exact hz _ _ rfl))
    | [u] => repeat' (first | walk_at "dq" | (exact hz _ _ (by cases u <;> rfl)))
    | [u, v] =>
      repeat' walk_at "dq"
      cases u with
      | int i =>
        cases v with
        | int j =>
          repeat' walk_at "dq"
          refine ite2 (fun b => ?_) (fun b => ?_)
          · repeat' walk_at "dq"
            refine hz _ _ ?_
            show PyData.bool (decide (gcdI i j = 1)) = .bool (decide (1 ≤ j) && decide (gcdI i j = 1))
            rw [b]; rfl
          · refine hz _ _ ?_
            show PyData.bool false = .bool (decide (1 ≤ j) && decide (gcdI i j = 1))
            rw [Bool.eq_false_iff.mpr b]; rfl
        | _ => repeat' (first | walk_at "dq" | (exact hz _ _ rfl))
      | _ => repeat' (first | walk_at "dq" | (exact hz _ _ rfl))
    | u :: v :: z :: r =>
      repeat' (first | walk_at "dq" | (exact hz _ _ (by cases u <;> first | rfl | (cases v <;> rfl))))
  | _ => repeat' (first | walk_at "dq" | (exact hz _ _ rfl))
abbrev s_is_rows : Stmt := topS 36
abbrev N_is_rows : List Str := ["thing", "row"]
theorem sc_is_rows : FnScope N_is_rows ["thing"] (defScope s_is_rows) := ⟨rfl, rfl, rfl, by decide +kernel, rfl, by decide +kernel, by decide +kernel⟩
theorem ok_is_rows (d : Df K mg "is_rows" s_is_rows ["thing"]) (c_is_number : Cal P w K mg base 1 "is_number" ["thing"] (sp_is_number K)) (b_all : mg "all" = none) (b_isinstance : mg "isinstance" = none) (b_len : mg "len" = none) (b_tuple : mg "tuple" = none) : Cal P w K mg base 2 "is_rows" ["thing"] (sp_is_rows K) := by
  refine d.ok sc_is_rows (pureSp_len rfl) (fun f cdv A outer s H vs Q E hr hgu h => ?_)
  refine ⟨_, (pss_cons (ps_if (PW.pt (pw_or (pt_not (pt_val (pe_callB (isiK K) (by rfl) b_isinstance (by decide +kernel) (pa_cons (pv 0) (pa_cons (pe_bltn (v := .ty "tuple") (by rfl) b_tuple (by decide +kernel) rfl) pa_nil))))) (pw_or1 (pt_cmpR op_ne (pe_callB (lenK K) (by rfl) b_len (by decide +kernel) (pa_cons (pv 0) pa_nil)) pe_int (nomark _))))) (pss_one (ps_ret pe_bl)) pss_nil)
    (pss_cons (ps_if (pt_not (pt_val (pe_callB (allK K rfl) (by rfl) b_all (by decide +kernel) (pa_cons (pe_lc (own := [("row", 1)]) (g := gName 1) rfl sc_is_rows.nd (piA K (pv 0)) (blkOk_by (own := [("row", 1)]) (N := N_is_rows) (sc := defScope s_is_rows) (by decide +kernel)) (fun _ _ _ _ _ => (pg_name (i := 1) sc_is_rows.nd rfl (Or.inl rfl))) (fun _ _ _ _ _ => pts_nil) (fun _ _ _ _ _ => (pe_and (pe_callB (isiK K) (by rfl) b_isinstance (by decide +kernel) (pa_cons (pv 1) (pa_cons (pe_bltn (v := .ty "tuple") (by rfl) b_tuple (by decide +kernel) rfl) pa_nil))) (pe_one (pe_cmpR op_eq (pe_callB (lenK K) (by rfl) b_len (by decide +kernel) (pa_cons (pv 1) pa_nil)) pe_int (nomark _)))))) pa_nil)))) (pss_one (ps_ret pe_bl)) pss_nil)
    (pss_one (ps_ret (pe_callB (allK K rfl) (by rfl) b_all (by decide +kernel) (pa_cons (pe_lst (pa_cons (pe_cal c_is_number (hr.mono (by decide)) hgu (by rfl) (pa_cons (pe_ix (ixK K) (pe_ix (ixK K) (pv 0) pe_int (fun _ _ => rfl)) pe_int (fun _ _ => rfl)) pa_nil)) (pa_cons (pe_cal c_is_number (hr.mono (by decide)) hgu (by rfl) (pa_cons (pe_ix (ixK K) (pe_ix (ixK K) (pv 0) pe_int (fun _ _ => rfl)) pe_int (fun _ _ => rfl)) pa_nil)) (pa_cons (pe_cal c_is_number (hr.mono (by decide)) hgu (by rfl) (pa_cons (pe_ix (ixK K) (pe_ix (ixK K) (pv 0) pe_int (fun _ _ => rfl)) pe_int (fun _ _ => rfl)) pa_nil)) (pa_cons (pe_cal c_is_number (hr.mono (by decide)) hgu (by rfl) (pa_cons (pe_ix (ixK K) (pe_ix (ixK K) (pv 0) pe_int (fun _ _ => rfl)) pe_int (fun _ _ => rfl)) pa_nil)) pa_nil))))) pa_nil)))))), ?_⟩
  try dsimp only [cxOf]
  refine pure_body h (fun ds hl hp e hn hz => ?_)
  obtain ⟨x, rfl⟩ : ∃ x, ds = [x] := len1 hl
  have hp : ∀ xs, dItems x = some xs → xs.length ≤ 1000 ∧ ∀ x ∈ xs, ∀ ys, dItems x = some ys → ys.length ≤ 1000 := hp
  show wS _ _ [some (.d x), none] _
  repeat' walk_at "dq"
  rw [isT_tuple]
  cases x with
  | tuple xs =>
    by_cases h2 : xs.length = 2
    · obtain ⟨u, v, rfl⟩ : ∃ u v, xs = [u, v] := by
        match xs, h2 with
        | [u, v], _ => exact ⟨u, v, rfl⟩
      repeat' walk_at "dq"
      refine wE_lcF (y' := [some (.d (.tuple [u, v])), none]) (fun _ => true) (fun d => .bool (tup2 d)) rfl ?_
      repeat' walk_at "dq"
      refine ⟨fun x hx => ?_, ?_⟩
      · have hx2 := (hp [u, v] rfl).2 x hx
        repeat' walk_at "dq"
        intro _
        repeat' walk_at "dq"
        rw [isT_tuple]
        cases x with
        | tuple ys =>
          have hy := hx2 ys rfl
          repeat' walk_at "dq"
          refine ⟨?_, rfl⟩
          show Z.d (PyData.bool (decide ((ys.length : Int) = 2))) = .d (.bool (tup2 (.tuple ys)))
          match ys with
          | [] => rfl
          | [_] => rfl
          | [_, _] => rfl
          | _ :: _ :: _ :: r =>
            rw [decide_eq_false (by rw [List.length_cons, List.length_cons, List.length_cons]; omega)]
            rfl
        | _ => exact ⟨rfl, rfl⟩
      · refine ⟨_, rfl, wD_nil ⟨[u, v].map tup2, rfl, ?_⟩⟩
        show ∃ b, Z.d (PyData.bool (tup2 u && (tup2 v && true))) = .d (.bool b) ∧ _
        rw [Bool.and_true]
        cases ht : (tup2 u && tup2 v) with
        | false =>
          repeat' walk_at "dq"
          refine hz _ _ ?_
          show PyData.bool false = .bool (rowsB (.tuple [u, v]))
          have : rowsB (.tuple [u, v]) = false := by
            cases hr : rowsB (.tuple [u, v]) with
            | false => rfl
            | true =>
              unfold rowsB at hr
              split at hr
              · next x y z w q => cases q; cases ht
              · cases hr
          rw [this]
        | true =>
          rw [Bool.and_eq_true] at ht
          obtain ⟨x, y, rfl⟩ : ∃ x y, u = .tuple [x, y] := by
            have h := ht.1
            unfold tup2 at h
            split at h
            · exact ⟨_, _, rfl⟩
            · cases h
          obtain ⟨z, w, rfl⟩ : ∃ x y, v = .tuple [x, y] := by
            have h := ht.2
            unfold tup2 at h
            split at h
            · exact ⟨_, _, rfl⟩
            · cases h
          repeat' walk_at "dq"
          refine ⟨[isNum x, isNum y, isNum z, isNum w], rfl, hz _ _ ?_⟩
          show PyData.bool (isNum x && (isNum y && (isNum z && (isNum w && true)))) = .bool (isNum x && isNum y && isNum z && isNum w)
          rw [Bool.and_true, Bool.and_assoc, Bool.and_assoc]
    · have hx1 := (hp xs rfl).1
      repeat' walk_at "dq"
      refine itb_t (by show (!decide ((xs.length : Int) = 2)) = true; rw [decide_eq_false (by omega)]; rfl) ?_
      repeat' walk_at "dq"
      refine hz _ _ ?_
      show PyData.bool false = .bool (rowsB (.tuple xs))
      have : rowsB (.tuple xs) = false := by
        cases hr : rowsB (.tuple xs) with
        | false => rfl
        | true =>
          obtain ⟨x, y, z, w, q⟩ : ∃ x y z w, xs = [.tuple [x, y], .tuple [z, w]] := by
            unfold rowsB at hr
            split at hr
            · next x y z w q => cases q; exact ⟨_, _, _, _, rfl⟩
            · cases hr
          rw [q] at h2
          exact absurd rfl h2
      rw [this]
  | _ => repeat' (first | walk_at "dq" | (exact hz _ _ rfl))
abbrev s_applied : Stmt := topS 38
abbrev N_applied : List Str := ["rows", "vector", "a", "b", "c", "d", "top", "bottom"]
theorem sc_applied : FnScope N_applied ["rows", "vector"] (defScope s_applied) := ⟨rfl, rfl, rfl, by decide +kernel, rfl, by decide +kernel, by decide +kernel⟩
theorem ok_applied (d : Df K mg "applied" s_applied ["rows", "vector"])  : Cal P w K mg base 1 "applied" ["rows", "vector"] (sp_applied K) := by
  refine d.ok sc_applied (pureSp_len rfl) (fun f cdv A outer s H vs Q E hr hgu h => ?_)
  refine ⟨_, (pss_cons (ps_asg (pv 0) (pgT K rfl (pgs_cons (pgT K rfl (pgs_cons (pg_name (i := 2) sc_applied.nd rfl (Or.inl rfl)) (pgs_cons (pg_name (i := 3) sc_applied.nd rfl (Or.inl rfl)) pgs_nil))) (pgs_cons (pgT K rfl (pgs_cons (pg_name (i := 4) sc_applied.nd rfl (Or.inl rfl)) (pgs_cons (pg_name (i := 5) sc_applied.nd rfl (Or.inl rfl)) pgs_nil))) pgs_nil))))
    (pss_cons (ps_asg (pv 1) (pgT K rfl (pgs_cons (pg_name (i := 6) sc_applied.nd rfl (Or.inl rfl)) (pgs_cons (pg_name (i := 7) sc_applied.nd rfl (Or.inl rfl)) pgs_nil))))
    (pss_one (ps_ret (pe_tup (pa_cons (pe_op op_add (pe_op op_mulW (pv 2) (pv 6)) (pe_op op_mulW (pv 3) (pv 7))) (pa_cons (pe_op op_add (pe_op op_mulW (pv 4) (pv 6)) (pe_op op_mulW (pv 5) (pv 7))) pa_nil))))))), ?_⟩
  try dsimp only [cxOf]
  refine pure_body h (fun ds hl hp e hn hz => ?_)
  obtain ⟨m, x, y, rfl, ⟨b1, b2, b3, b4⟩, bx, by'⟩ := hp
  have fin : ∀ (d : D) y', d = .tuple [.int (apT m x y), .int (apB m x y)] → e.rt (.d d) y' := fun d y' h => hz _ _ (fun m' x' y'' e' => by obtain ⟨rfl, rfl, rfl⟩ := mxv_inj e'; exact h)
  obtain ⟨a, b, c, d⟩ := m
  dsimp only at b1 b2 b3 b4
  show wS _ _ [some (.d (.tuple [.tuple [.int a, .int b], .tuple [.int c, .int d]])), some (.d (.tuple [.int x, .int y])), none, none, none, none, none, none] _
  repeat' walk_at "dq"
  exact fin _ _ rfl
abbrev s_law_common : Stmt := topS 48
abbrev N_law_common : List Str := ["_law_one", "_law_other"]
theorem sc_law_common : FnScope N_law_common ["_law_one", "_law_other"] (defScope s_law_common) := ⟨rfl, rfl, rfl, by decide +kernel, rfl, by decide +kernel, by decide +kernel⟩
theorem ok_law_common (d : Df K mg "_law_common" s_law_common ["_law_one", "_law_other"]) (b_abs : mg "abs" = none) : Cal P w K mg base 1 "_law_common" ["_law_one", "_law_other"] (sp_law_common K) := by
  refine d.ok sc_law_common (pureSp_len rfl) (fun f cdv A outer s H vs Q E hr hgu h => ?_)
  refine ⟨_, (pss_cons (ps_par (i := 0) (j := 1) (by rfl) sc_law_common.nd rfl rfl (by decide) rfl rfl (pa_cons (pe_callB call_abs (by rfl) b_abs (by decide +kernel) (pa_cons (pv 0) pa_nil)) (pa_cons (pe_callB call_abs (by rfl) b_abs (by decide +kernel) (pa_cons (pv 1) pa_nil)) pa_nil)) (by rfl))
    (pss_cons (ps_while PassesOwn.never (pt_cmpR op_gt (pv 1) pe_int (nomark _)) (pss_one (ps_par (i := 0) (j := 1) (by rfl) sc_law_common.nd rfl rfl (by decide) rfl rfl (pa_cons (pv 1) (pa_cons (pe_op op_mod (pv 0) (pv 1)) pa_nil)) (by rfl))))
    (pss_one (ps_ret (pv 0))))), ?_⟩
  try dsimp only [cxOf]
  refine pure_body h (fun ds hl hp e hn hz => ?_)
  obtain ⟨a, b, rfl⟩ := hp
  show wS _ _ [some (.d (.int a)), some (.d (.int b))] _
  repeat' walk_at "dq"
  refine wS_while (fun m y => ∃ u v : Int, y = [some (.d (.int u)), some (.d (.int v))] ∧ 0 ≤ u ∧ 0 ≤ v ∧ gcdI u v = gcdI a b ∧ m = v.toNat) ⟨_, _, _, rfl, by split <;> omega, by split <;> omega, gcd_abs a b, rfl⟩ ?_
  rintro m y ⟨u, v, rfl, hu, hv, hg, rfl⟩
  repeat' walk_at "dq"
  refine ite2 (fun e1 => ?_) (fun e1 => ?_)
  · have hv0 : v ≠ 0 := fun z => by rw [z] at e1; exact absurd e1 (by decide)
    have hv1 : 0 < v := by omega
    have h1 := Int.emod_nonneg u hv0
    have h2 := Int.emod_lt_of_pos u hv1
    repeat' walk_at "dq"
    refine ⟨_, ?_, _, _, rfl, hv, h1, (gcd_turn hu hv1).trans hg, rfl⟩
    omega
  · have hv0 : v = 0 := by
      by_cases z : v = 0
      · exact z
      · exact absurd (show decide (0 < v) = true by rw [decide_eq_true (show 0 < v by omega)]) e1
    subst hv0
    repeat' walk_at "dq"
    refine hz _ _ ?_
    show PyData.int u = .int (gcdI a b)
    rw [← hg, gcd_zero hu]
abbrev s_law_lowest : Stmt := topS 49
abbrev N_law_lowest : List Str := ["_law_top", "_law_bottom", "_law_by"]
theorem sc_law_lowest : FnScope N_law_lowest ["_law_top", "_law_bottom"] (defScope s_law_lowest) := ⟨rfl, rfl, rfl, by decide +kernel, rfl, by decide +kernel, by decide +kernel⟩
theorem ok_law_lowest (d : Df K mg "_law_lowest" s_law_lowest ["_law_top", "_law_bottom"]) (c_law_common : Cal P w K mg base 1 "_law_common" ["_law_one", "_law_other"] (sp_law_common K)) (b_int : mg "int" = none) : Cal P w K mg base 2 "_law_lowest" ["_law_top", "_law_bottom"] (sp_law_lowest K) := by
  refine d.ok sc_law_lowest (pureSp_len rfl) (fun f cdv A outer s H vs Q E hr hgu h => ?_)
  refine ⟨_, (pss_cons (ps_set (i := 2) sc_law_lowest.nd rfl (Or.inl rfl) (pe_op op_mulW (pe_cal c_law_common (hr.mono (by decide)) hgu (by rfl) (pa_cons (pv 0) (pa_cons (pv 1) pa_nil))) (pe_ix (ixK K) (pe_lst (pa_cons pe_int (pa_cons (pe_un un_neg pe_int) pa_nil))) (pe_callTy call_int1 (by rfl) b_int (by decide +kernel) (pa_cons (pe_cmpR op_lt (pv 1) pe_int (nomark _)) pa_nil)) (fun _ _ => rfl))))
    (pss_one (ps_ret (pe_tup (pa_cons (pe_op op_fdivZ (pv 0) (pv 2)) (pa_cons (pe_op op_fdivZ (pv 1) (pv 2)) pa_nil)))))), ?_⟩
  try dsimp only [cxOf]
  refine pure_body h (fun ds hl hp e hn hz => ?_)
  obtain ⟨t, b, rfl, hb, bt, bb⟩ := hp
  show wS _ _ [some (.d (.int t)), some (.d (.int b)), none] _
  repeat' walk_at "dq"
  refine .inr ⟨_, rfl, ?_⟩
  obtain ⟨u, v, hu, hv, v0, huv⟩ := gcd_divs (t := t) hb
  have g0 : 0 < gcdI t b := gcd_pos hb
  have gl : (gcdI t b).natAbs ≤ b.natAbs := by
    unfold gcdI
    exact Nat.gcd_le_right _ (by omega)
  have bg : Bd 1600 (gcdI t b) := by unfold Bd at *; omega
  show ∃ d i g, _ ∧ _ ∧ _ ∧ ∃ i j, Z.d (.int (gcdI t b)) = _ ∧ _
  generalize gcdI t b = g at *
  have cz : ∀ i : Int, ∀ j : Int, j ≠ 0 → Bd 1600 j → CDivZ i j := fun i j h1 h2 => ⟨h1, by
    have h3 : j.natAbs < 2 ^ 6401 := Nat.lt_of_lt_of_le h2 (Nat.le_trans (ten_two 1600) (Nat.pow_le_pow_right (by decide) (by decide)))
    exact Nat.lt_of_lt_of_le (log2_lt h3 (by decide)) (by decide)⟩
  have bu : u.natAbs ≤ t.natAbs := by rw [hu, Int.natAbs_mul]; exact Nat.le_mul_of_pos_right _ (by omega)
  have bv : v.natAbs ≤ b.natAbs := by rw [hv, Int.natAbs_mul]; exact Nat.le_mul_of_pos_right _ (by omega)
  have cross : u * b = v * t := by
    rw [hu, hv, ← Int.mul_assoc, ← Int.mul_assoc, Int.mul_comm u v]
  by_cases c : b < 0
  · have vn : v < 0 := by
      rcases Int.lt_or_le v 0 with z | z
      · exact z
      · have := Int.mul_nonneg z (show 0 ≤ g by omega)
        omega
    have e1 : t.fdiv (g * -1) = -u := by rw [hu, show u * g = -u * (g * -1) by grind]; exact Int.mul_fdiv_cancel _ (by omega)
    have e2 : b.fdiv (g * -1) = -v := by rw [hv, show v * g = -v * (g * -1) by grind]; exact Int.mul_fdiv_cancel _ (by omega)
    have bg1 : Bd 1600 (g * -1) := by unfold Bd at *; omega
    rw [decide_eq_true c]
    refine ⟨_, _, .int (-1), rfl, rfl, rfl, _, _, rfl, rfl, ?_⟩
    repeat' walk_at "dq"
    refine ⟨cz _ _ (by omega) bg1, ?_⟩
    repeat' walk_at "dq"
    refine ⟨cz _ _ (by omega) bg1, ?_⟩
    repeat' walk_at "dq"
    refine hz _ _ (fun t' b' e => ?_)
    cases e
    refine ⟨-u, -v, by rw [e1, e2], by omega, ?_, ?_, by rw [Int.natAbs_neg]; exact bu, by rw [Int.natAbs_neg]; exact bv⟩
    · unfold gcdI at huv ⊢; rw [Int.natAbs_neg, Int.natAbs_neg]; exact huv
    · rw [Int.neg_mul, Int.neg_mul, cross]
  · have vn : 0 < v := by
      rcases Int.lt_or_le 0 v with z | z
      · exact z
      · have := Int.mul_nonneg (show 0 ≤ -v by omega) (show 0 ≤ g by omega)
        rw [Int.neg_mul] at this
        omega
    have e1 : t.fdiv (g * 1) = u := by rw [hu, Int.mul_one]; exact Int.mul_fdiv_cancel _ (by omega)
    have e2 : b.fdiv (g * 1) = v := by rw [hv, Int.mul_one]; exact Int.mul_fdiv_cancel _ (by omega)
    have bg1 : Bd 1600 (g * 1) := by unfold Bd at *; omega
    rw [decide_eq_false c]
    refine ⟨_, _, .int 1, rfl, rfl, rfl, _, _, rfl, rfl, ?_⟩
    repeat' walk_at "dq"
    refine ⟨cz _ _ (by omega) bg1, ?_⟩
    repeat' walk_at "dq"
    refine ⟨cz _ _ (by omega) bg1, ?_⟩
    repeat' walk_at "dq"
    refine hz _ _ (fun t' b' e => ?_)
    cases e
    exact ⟨u, v, by rw [e1, e2], by omega, huv, cross, bu, bv⟩
abbrev s_law_value : Stmt := topS 53
abbrev N_law_value : List Str := ["_law_rows_here", "_law_sides", "_law_k", "_law_l", "_law_u", "_law_u_in", "_law_v", "_law_v_in", "_law_top", "_law_bottom", "_law_a", "_law_b", "_law_c", "_law_d"]
theorem sc_law_value : FnScope N_law_value ["_law_rows_here", "_law_sides", "_law_k", "_law_l"] (defScope s_law_value) := ⟨rfl, rfl, rfl, by decide +kernel, rfl, by decide +kernel, by decide +kernel⟩
theorem ok_law_value (d : Df K mg "_law_value" s_law_value ["_law_rows_here", "_law_sides", "_law_k", "_law_l"])  : Cal P w K mg base 1 "_law_value" ["_law_rows_here", "_law_sides", "_law_k", "_law_l"] (sp_law_value K) := by
  refine d.ok sc_law_value (pureSp_len rfl) (fun f cdv A outer s H vs Q E hr hgu h => ?_)
  refine ⟨_, (pss_cons (ps_asg (pv 1) (pgT K rfl (pgs_cons (pgT K rfl (pgs_cons (pg_name (i := 4) sc_law_value.nd rfl (Or.inl rfl)) (pgs_cons (pg_name (i := 5) sc_law_value.nd rfl (Or.inl rfl)) pgs_nil))) (pgs_cons (pgT K rfl (pgs_cons (pg_name (i := 6) sc_law_value.nd rfl (Or.inl rfl)) (pgs_cons (pg_name (i := 7) sc_law_value.nd rfl (Or.inl rfl)) pgs_nil))) pgs_nil))))
    (pss_cons (ps_par (i := 8) (j := 9) (by rfl) sc_law_value.nd rfl rfl (by decide) rfl rfl (pa_cons (pe_op op_add (pe_op op_mulW (pv 2) (pe_ix (ixK K) (pv 4) pe_int (fun _ _ => rfl))) (pe_op op_mulW (pv 3) (pe_ix (ixK K) (pv 6) pe_int (fun _ _ => rfl)))) (pa_cons (pe_op op_add (pe_op op_mulW (pv 2) (pe_ix (ixK K) (pv 4) pe_int (fun _ _ => rfl))) (pe_op op_mulW (pv 3) (pe_ix (ixK K) (pv 6) pe_int (fun _ _ => rfl)))) pa_nil)) (by rfl))
    (pss_cons (ps_asg (pv 0) (pgT K rfl (pgs_cons (pgT K rfl (pgs_cons (pg_name (i := 10) sc_law_value.nd rfl (Or.inl rfl)) (pgs_cons (pg_name (i := 11) sc_law_value.nd rfl (Or.inl rfl)) pgs_nil))) (pgs_cons (pgT K rfl (pgs_cons (pg_name (i := 12) sc_law_value.nd rfl (Or.inl rfl)) (pgs_cons (pg_name (i := 13) sc_law_value.nd rfl (Or.inl rfl)) pgs_nil))) pgs_nil))))
    (pss_one (ps_ret (pe_tup (pa_cons (pe_op op_add (pe_op op_mulW (pv 10) (pv 8)) (pe_op op_mulW (pv 11) (pv 9))) (pa_cons (pe_op op_add (pe_op op_mulW (pv 12) (pv 8)) (pe_op op_mulW (pv 13) (pv 9))) pa_nil)))))))), ?_⟩
  try dsimp only [cxOf]
  refine pure_body h (fun ds hl hp e hn hz => ?_)
  obtain ⟨m, c, k, l, rfl, hm, hcb, hk, hl'⟩ := hp
  have fin : ∀ (d : D) y', d = .tuple [.int (vaT m c k l), .int (vaB m c k l)] → e.rt (.d d) y' := fun d y' h => hz _ _ (fun m' c' k' l' e' => by obtain ⟨rfl, rfl, rfl, rfl⟩ := mckl_inj e'; exact h)
  obtain ⟨m1, m2, m3, m4⟩ := hm
  obtain ⟨h1, h2, h3, h4⟩ := hcb
  show wS _ _ [some (.d (.tuple [.tuple [.int m.a, .int m.b], .tuple [.int m.c, .int m.d]])), some (.d (.tuple [.tuple [.tuple [.int c.u0, .int c.u1], .bool c.ui], .tuple [.tuple [.int c.v0, .int c.v1], .bool c.vi]])), some (.d (.int k)), some (.d (.int l)), none, none, none, none, none, none, none, none, none, none] _
  repeat' walk_at "dq"
  exact fin _ _ rfl
abbrev s_law_inside : Stmt := topS 54
abbrev N_law_inside : List Str := ["_law_found", "_law_value_here", "_law_low", "_law_low_in", "_law_high", "_law_high_in", "_law_one", "_law_other"]
theorem sc_law_inside : FnScope N_law_inside ["_law_found", "_law_value_here"] (defScope s_law_inside) := ⟨rfl, rfl, rfl, by decide +kernel, rfl, by decide +kernel, by decide +kernel⟩
theorem ok_law_inside (d : Df K mg "_law_inside" s_law_inside ["_law_found", "_law_value_here"])  : Cal P w K mg base 1 "_law_inside" ["_law_found", "_law_value_here"] (sp_law_inside K) := by
  refine d.ok sc_law_inside (pureSp_len rfl) (fun f cdv A outer s H vs Q E hr hgu h => ?_)
  refine ⟨_, (pss_cons (ps_asg (pv 0) (pgT K rfl (pgs_cons (pg_name (i := 2) sc_law_inside.nd rfl (Or.inl rfl)) (pgs_cons (pg_name (i := 3) sc_law_inside.nd rfl (Or.inl rfl)) (pgs_cons (pg_name (i := 4) sc_law_inside.nd rfl (Or.inl rfl)) (pgs_cons (pg_name (i := 5) sc_law_inside.nd rfl (Or.inl rfl)) pgs_nil))))))
    (pss_cons (ps_set (i := 6) sc_law_inside.nd rfl (Or.inl rfl) (pe_op op_sub (pe_op op_mulW (pe_ix (ixK K) (pv 1) pe_int (fun _ _ => rfl)) (pe_ix (ixK K) (pv 2) pe_int (fun _ _ => rfl))) (pe_op op_mulW (pe_ix (ixK K) (pv 2) pe_int (fun _ _ => rfl)) (pe_ix (ixK K) (pv 1) pe_int (fun _ _ => rfl)))))
    (pss_cons (ps_set (i := 7) sc_law_inside.nd rfl (Or.inl rfl) (pe_op op_sub (pe_op op_mulW (pe_ix (ixK K) (pv 4) pe_int (fun _ _ => rfl)) (pe_ix (ixK K) (pv 1) pe_int (fun _ _ => rfl))) (pe_op op_mulW (pe_ix (ixK K) (pv 1) pe_int (fun _ _ => rfl)) (pe_ix (ixK K) (pv 4) pe_int (fun _ _ => rfl)))))
    (pss_one (ps_ret (pe_and (pe_or (pe_cmpR op_gt (pv 6) pe_int (nomark _)) (pe_one (pe_and (pe_cmpR op_eq (pv 6) pe_int (nomark _)) (pe_one (pv 3))))) (pe_one (pe_or (pe_cmpR op_gt (pv 7) pe_int (nomark _)) (pe_one (pe_and (pe_cmpR op_eq (pv 7) pe_int (nomark _)) (pe_one (pv 5)))))))))))), ?_⟩
  try dsimp only [cxOf]
  refine pure_body h (fun ds hl hp e hn hz => ?_)
  obtain ⟨p, q, li, r, s, hi, x, y, rfl, bp, bq, br, bs, bx, bY⟩ := hp
  have fin : ∀ (b : Bool) y', b = insB p q li r s hi x y → e.rt (.d (.bool b)) y' := fun b y' h => hz _ _ (fun p' q' li' r' s' hi' x' y'' e' => by obtain ⟨rfl, rfl, rfl, rfl, rfl, rfl, rfl, rfl⟩ := ins_inj e'; rw [h])
  unfold insB at fin
  show wS _ _ [some (.d (.tuple [fr p q, .bool li, fr r s, .bool hi])), some (.d (fr x y)), none, none, none, none, none, none] _
  repeat' walk_at "dq"
  generalize x * q - p * y = A at *
  generalize r * y - x * s = B at *
  by_cases hA : 0 < A
  · refine itb_t (decide_eq_true hA) ⟨_, rfl, itb_t rfl ?_⟩
    repeat' walk_at "dq"
    by_cases hB : 0 < B
    · refine itb_t (decide_eq_true hB) ?_
      exact fin _ _ (by simp [hB, hA])
    · refine itb_f (decide_eq_false hB) ?_
      repeat' walk_at "dq"
      by_cases hB0 : B = 0
      · refine itb_t (decide_eq_true hB0) ?_
        repeat' walk_at "dq"
        exact fin _ _ (by simp [hB0, hA])
      · refine itb_f (decide_eq_false hB0) ?_
        exact fin _ _ (by simp [hB, hB0, hA])
  · refine itb_f (decide_eq_false hA) ?_
    repeat' walk_at "dq"
    by_cases hA0 : A = 0
    · refine itb_t (decide_eq_true hA0) ?_
      repeat' walk_at "dq"
      cases li with
      | false => exact fin _ _ (by simp [hA0])
      | true =>
        repeat' walk_at "dq"
        by_cases hB : 0 < B
        · refine itb_t (decide_eq_true hB) ?_
          exact fin _ _ (by simp [hB, hA0])
        · refine itb_f (decide_eq_false hB) ?_
          repeat' walk_at "dq"
          by_cases hB0 : B = 0
          · refine itb_t (decide_eq_true hB0) ?_
            repeat' walk_at "dq"
            exact fin _ _ (by simp [hB0, hA0])
          · refine itb_f (decide_eq_false hB0) ?_
            exact fin _ _ (by simp [hB, hB0, hA0])
    · refine itb_f (decide_eq_false hA0) ?_
      repeat' walk_at "dq"
      exact fin _ _ (by simp [hA, hA0])
end
end Tq
namespace Ux
open PySem PySem.Spec PyProof.Rows L2 Tq
open PySem.NumText (digitsVal AllDigits)
local macro_rules | `(tactic| walk_at "lessu") => `(tactic| (refine less_mk' ?_ ?_; (repeat' (first | exact less_nil | refine less_none ?_ | refine less_some ?_)); (first | exact List.nil_sublist _ | exact List.Sublist.refl _ | decide)))
local macro_rules | `(tactic| walk_at "bd") => `(tactic| (repeat' (first | assumption | with_reducible apply Bd.mul | with_reducible apply Bd.add | with_reducible apply Bd.sub | with_reducible apply Bd.neg | (with_reducible apply Bd.div; rotate_left; omega) | exact Bd.lit (k := 40) (by first | decide | omega))))
local macro_rules | `(tactic| walk_at "uy") => `(tactic| (first
  | (with_reducible show wE _ (tMk0 _) _ _; refine wE_mk0 ?_)
  | (with_reducible show wE _ (tMethU _ _ _ _ _) _ _; refine wE_meth ?_)
  | (with_reducible show wE _ (tMethC _ _ _ _ _) _ _; refine wE_methC ?_)
  | (with_reducible show wE _ (tCallSF _ _ _) _ _; refine wE_xnF ?_)
  | (with_reducible show wE _ (tOp rRepL _ _) _ _; refine wE_repL ?_)
  | (with_reducible show wE _ (tCall (odSp _ _ _ _ _) _ _ _) _ _; refine wE_od ?_)
  | (with_reducible show wE _ (tCallS (bxSp _ _ _ _ _) _ _) _ _; refine wE_bx ?_)
  | (with_reducible show wE _ (tCall (miSp _ _ _ _) _ _ _) _ _; refine wE_mi ?_)
  | (with_reducible show wE _ (tOp (rNotInTD _) _ _) _ _; refine wE_notInTD ?_)
  | (with_reducible show wE _ (tOp (rNeNil _) _ _) _ _; refine wE_neNil ?_)
  | (with_reducible show wE _ (tOp (rIxL _) _ _) _ _; refine wE_ixL ?_)
  | (with_reducible show wE _ (tListD _ _) _ _; refine xE_listD ?_)
  | (with_reducible show wE _ (tSl (rSlNew _) _ _ _) _ _; refine xE_slN ?_)
  | (with_reducible show wS _ _ (S.set _ _ _) _; refine wS_norm (by simp only [S.set, List.set]; first | done | exact rfl) ?_)
  | (with_reducible show wE _ (tVar _) _ _; refine wE_var rfl ?_)
  | (with_reducible show wE _ (tC (.int _)) _ _; refine wE_int ?_)
  | (with_reducible show wE _ (tC (.str _)) _ _; refine wE_str ?_)
  | (with_reducible show wE _ (tC (.bl _)) _ _; refine wE_bl ?_)
  | (with_reducible show wE _ (tC .non) _ _; refine wE_non ?_)
  | (with_reducible show wD _ (tCons _ _) _ _; refine wD_cons ?_)
  | (with_reducible show wZ _ (tCons _ _) _ _; refine wZ_cons ?_)
  | (with_reducible show wZ _ tNil _ _; refine wZ_nil ?_)
  | (with_reducible show wE _ (tTupZ _) _ _; refine xE_tupZ ?_)
  | (with_reducible show wE _ (tLstZ _) _ _; refine xE_lstZ ?_)
  | (with_reducible show wE _ (tLstL _) _ _; refine xE_lstL ?_)
  | (with_reducible show wE _ tDNewL _ _; refine xE_dnewL ?_)
  | (with_reducible show wE _ (tDispL _) _ _; first | refine xE_dispS (by constructor) ?_ | refine xE_dispI (by constructor) ?_)
  | (with_reducible show wE _ (tIsX _ _ _ _ _ _ (tVar _)) _ _; refine wE_isX (by assumption) rfl rfl ?_)
  | (with_reducible show wE _ (tOp (rEqNil _) _ _) _ _; refine wE_eqNil ?_)
  | (with_reducible show wIZ _ (iList _ _) _ _; refine wIZ_list ?_)
  | (with_reducible show wE _ (tCall (mSp _ _ _ _) _ _ _) _ _; refine wE_m ?_)
  | (with_reducible show wE _ (tOp rIsB _ _) _ _; refine wE_isB ?_)
  | (with_reducible show wE _ (tOp rNotB _ _) _ _; refine wE_notB ?_)
  | (with_reducible show wE _ (tCall (vSp _) _ _ _) _ _; refine wE_veryA ?_)
  | (with_reducible show wE _ (tCall (oSp _ _ _) _ _ _) _ _; first | refine wE_odd (j := 0) rfl rfl (by omega) ?_ | refine wE_odd (j := 1) rfl rfl (by omega) ?_ | refine wE_odd (j := 2) rfl rfl (by omega) ?_)
  | (with_reducible show wE _ (tXf _ _ _ _ _ (tVar _)) _ _; first | refine wE_field rfl rfl ?_ | refine wE_found rfl rfl ⟨rfl, rfl⟩ ?_ | refine wE_found rfl rfl (Res.kz (by assumption)) ?_ | refine wE_found rfl rfl ?_ ?_)
  | (with_reducible show wE _ (tOp (rCatL _) _ _) _ _; refine xE_catL ?_)
  | (with_reducible show wE _ (tLenL _ _) _ _; refine xE_lenL ?_)
  | (with_reducible show wE _ (tListL _ _) _ _; refine xE_listL ?_)
  | (with_reducible show wE _ (tTupL _ _) _ _; refine xE_tupL ?_)
  | (with_reducible show wE _ (tSl (rSlLab _) _ _ _) _ _; refine xE_slL ?_)
  | (with_reducible show wE _ (tCall (oaSp _ _ _ _ _) _ _ _) _ _; refine wE_oa ?_)
  | (with_reducible show wE _ (tCall (anSp _ _ _ _) _ _ _) _ _; refine wE_an ?_)
  | (with_reducible show wE _ (tCallS (xnSp _ _ _ _ _) _ _) _ _; refine wE_xn ?_)
  | (with_reducible show wE _ (tCallS _ _ _) _ _; refine wE_x ?_)
  | (with_reducible show wD _ tNil _ _; refine wD_nil ?_)
  | (with_reducible show wE _ (tOp (rI0 _) _ _) _ _; first | with_reducible refine wE_add ?_ | with_reducible refine wE_sub ?_ | with_reducible refine wE_lt ?_ | with_reducible refine wE_le ?_ | with_reducible refine wE_gt ?_ | with_reducible refine wE_ge ?_)
  | (with_reducible show wE _ (tOp (rI CPow _) (tC _) (tC _)) _ _; refine wE_powN ?_)
  | (with_reducible show wE _ (tDisp _) _ _; first | refine wE_dispS (by constructor) ?_ | refine wE_dispI (by constructor) ?_)
  | (with_reducible show wE _ (tCall (spTake _) _ _ _) _ _; first | refine wE_take (j := 0) rfl rfl ?_ | refine wE_take (j := 1) rfl rfl ?_ | refine wE_take (j := 2) rfl rfl ?_ | refine wE_take (j := 3) rfl rfl ?_)
  | (with_reducible show wE _ (tOp (rI _ _) _ _) _ _; first | with_reducible refine wE_mod ?_ | with_reducible refine wE_fdivW ?_ | with_reducible refine wE_mulW ?_ | with_reducible refine wE_pow ?_ | with_reducible refine wE_fdivZ ?_ | with_reducible refine wE_modN ?_ | with_reducible refine wE_mul ?_)
  | (with_reducible show wE _ (tCallR (detSp _ _ _ _) _ _) _ _; refine xE_detR ?_)
  | (with_reducible show wE _ (tCallR (pureSp _ _ _ _) _ _) _ _; refine xE_pureR ?_)
  | (with_reducible show wE _ (tIsiR _ _) _ _; refine xE_isiR ?_)
  | (with_reducible show wE _ (tReprR _ _) _ _; refine xE_reprR ?_)
  | (with_reducible show wE _ (tOp (rIxZ _) _ _) _ _; refine xE_ixZ ?_)
  | (with_reducible show wE _ (tOp (rCatZ _) _ _) _ _; refine xE_catZ ?_)
  | (with_reducible show wE _ (tCall (asSp _ _ _ _) _ _ _) _ _; refine wE_as ?_)
  | (with_reducible show wE _ (tOp (rIx _) _ _) _ _; refine wE_ix ?_)
  | (with_reducible show wE _ (tOp (rCatG _) _ _) _ _; refine wE_catG ?_)
  | (with_reducible show wE _ (tOp rEq _ _) _ _; refine wE_eqS ?_)
  | (with_reducible show wE _ (tOp rNe _ _) _ _; refine wE_neS ?_)
  | (with_reducible show wE _ (tOp (rEqD _) _ _) _ _; refine wE_eqD ?_)
  | (with_reducible show wE _ (tOp (rNeD _) _ _) _ _; refine wE_neD ?_)
  | (with_reducible show wE _ (tOp _ _ _) _ _; first | with_reducible refine wE_addS ?_ | with_reducible refine wE_isN ?_ | with_reducible refine wE_notN ?_ | with_reducible refine wE_inSign ?_ | with_reducible refine wE_ltS ?_ | with_reducible refine wE_leS ?_)
  | (with_reducible show wE _ (tUn _ _) _ _; refine wE_neg ?_)
  | (with_reducible show wE _ (tLst _) _ _; refine wE_lst ?_)
  | (with_reducible show wE _ (tTup _) _ _; refine wE_tup ?_)
  | (with_reducible show wE _ tDNewK _ _; refine wE_dnew ?_)
  | (with_reducible show wE _ (tCB (rIsi _) _) _ _; refine wE_isi ?_)
  | (with_reducible show wE _ (tCB (rIsiT _) _) _ _; refine wE_isi2 ?_)
  | (with_reducible show wE _ (tCB (rAll _) _) _ _; refine wE_all ?_)
  | (with_reducible show wE _ (tCB (rAny _) _) _ _; refine wE_any ?_)
  | (with_reducible show wE _ (tCB (rSum _) _) _ _; refine wE_sum ?_)
  | (with_reducible show wE _ (tCB (rRepr _) _) _ _; refine wE_reprS ?_)
  | (with_reducible show wE _ (tCB _ _) _ _; first | refine wE_len ?_ | with_reducible refine wE_abs ?_ | with_reducible refine wE_max2 ?_ | with_reducible refine wE_min2 ?_ | with_reducible refine wE_strI ?_ | with_reducible refine wE_intS ?_ | with_reducible refine wE_int1 ?_ | refine wE_listOf ?_ | refine wE_tupOf ?_)
  | (with_reducible show wE _ (tCall (detSp _ _ _ _) _ _ _) _ _; refine wE_det ?_)
  | (with_reducible show wE _ (tCall (pureSp _ _ _ _) _ _ _) _ _; refine wE_pure ?_)
  | (with_reducible show wE _ (tCall (puSp _ _ _ _ _) _ _ _) _ _; first | refine wE_pu (j := 0) rfl rfl ?_ | refine wE_pu (j := 1) rfl rfl ?_ | refine wE_pu (j := 2) rfl rfl ?_ | refine wE_pu (j := 3) rfl rfl ?_)
  | (with_reducible show wE _ (tSl _ _ _ _) _ _; refine wE_sl ?_)
  | (with_reducible show wO _ tNoPart _ _; refine wO_no ?_)
  | (with_reducible show wO _ (tPart _) _ _; refine wO_part ?_)
  | (with_reducible show wE _ (tChain _ _ _ _ _) _ _; first | with_reducible refine wE_chainI ?_ | with_reducible refine wE_chainS ?_)
  | (with_reducible show wE _ (tAndV _ _) _ _; refine wE_andV ?_)
  | (with_reducible show wE _ (tOrV _ _) _ _; refine wE_orV ?_)
  | (with_reducible show wE _ (tNotV _) _ _; refine wE_notV ?_)
  | (with_reducible show wE _ (tIf _ _ _) _ _; refine wE_if ?_)
  | (with_reducible show wE _ (tM1 _ _ _) _ _; first | with_reducible refine wE_starts ?_ | with_reducible refine wE_index ?_ | refine wE_join ?_)
  | (with_reducible show wT _ (tTest _) _ _; refine wT_test ?_)
  | (with_reducible show wT _ (tB _) _ _; refine wT_B ?_)
  | (with_reducible show wT _ (tAnd _ _) _ _; refine wT_and ?_)
  | (with_reducible show wT _ (tOr _ _) _ _; refine wT_or ?_)
  | (with_reducible show wT _ (tNot _) _ _; refine wT_not ?_)
  | (with_reducible show wT _ tYes _ _; refine wT_yes ?_)
  | (with_reducible show wS _ (tSeq (tDrop (tBM _ _ rAppend (tVar _) _)) _) _ _; first | refine wS_seq (wS_app (j := 0) rfl rfl ?_) | refine wS_seq (wS_app (j := 1) rfl rfl ?_) | refine wS_seq (wS_app (j := 2) rfl rfl ?_) | refine wS_seq (wS_app (j := 3) rfl rfl ?_))
  | (with_reducible show wE _ (tCall spPurse _ _ _) _ _; refine wE_purse ?_)
  | (with_reducible show wS _ (tSeq (tAsg _ (gName _)) _) _ _; refine wS_seqA ?_)
  | (with_reducible show wS _ (tSeq (tPar _ _ _) _) _ _; refine wS_seqP ?_)
  | (with_reducible show wS _ (tSeq (tIfS _ _ tNext) _) _ _; refine wS_seqI ?_)
  | (with_reducible show wS _ (tDrop (tCall _ _ _ _)) _ _; refine wS_drop ?_)
  | (with_reducible show wS _ (tDrop (tCallS _ _ _)) _ _; refine wS_drop ?_)
  | (with_reducible show wS _ (tSeq _ _) _ _; refine wS_seq ?_)
  | (with_reducible show wS _ (tAsg _ (gName _)) _ _; refine wS_asg ?_)
  | (with_reducible show wS _ (tAsg _ _) _ _; refine wS_asgG ?_)
  | (with_reducible show wS _ (tPar _ _ _) _ _; refine wS_par ?_)
  | (with_reducible show wS _ (tIfS _ _ tNext) _ _; refine wS_ifN ?_)
  | (with_reducible show wS _ (tIfS _ _ _) _ _; refine wS_if ?_)
  | (with_reducible show wS _ (tRet _) _ _; refine wS_ret ?_)
  | (with_reducible show wS _ tRetN _ _; refine wS_retN ?_)
  | (with_reducible show wS _ tNext _ _; refine wS_next ?_)
  | (with_reducible show wS _ (tAug _ _ _) _ _; refine wS_aug rfl ?_)
  | (with_reducible show wI _ (iList _ _) _ _; refine wI_list ?_)
  | (with_reducible show wI _ (iTup _ _) _ _; refine wI_tup ?_)
  | (with_reducible show wI _ (iAny _ _) _ _; refine wI_any rfl rfl ?_)
  | (with_reducible show wI _ (iStr _) _ _; refine wI_str ?_)
  | (with_reducible show wI _ (iRng1 _) _ _; refine wI_rng1 ?_)
  | (with_reducible show wI _ (iRng2 _) _ _; refine wI_rng2 ?_)
  | (with_reducible show wG _ (gName _) _ _ _; refine wG_name ?_)
  | (with_reducible show wG _ (gTup _ _ _) _ _ _; first | (refine wG_tup rfl ?_; dsimp only [List.map]) | refine wG_tupZ rfl ?_)
  | (with_reducible show wGs _ (gCons _ _) _ _ _; refine wGs_cons ?_)
  | (with_reducible show wGs _ gNil _ _ _; refine wGs_nil ?_)
  | (with_reducible show ∀ (_ : Addr), _; intro _; try dsimp only [List.cons_append, List.nil_append])
  | (with_reducible show @Exists _ _; first | refine ⟨_, _, rfl, rfl, by omega, fun r h0 h1 => ?_⟩ | refine ⟨_, rfl, ?_⟩ | refine ⟨_, _, rfl, dLen_str (by first | omega | decide), ?_⟩ | refine ⟨_, _, rfl, dCut_str (by first | omega | decide) _ _, ?_⟩ | refine ⟨_, _, rfl, rfl, sz_small (by first | omega | (simp only [strLen_append]; omega)), ?_⟩ | refine ⟨_, _, rfl, rfl, ?_⟩ | refine ⟨_, _, rfl, ?_⟩ | refine ⟨_, _, _, rfl, rfl, rfl, ?_⟩ | refine ⟨_, _, _, rfl, rfl, ?_⟩)
  | (with_reducible show CMulW _ _ ∧ _; refine ⟨Bd.mulW (by walk_at "bd") (by walk_at "bd"), ?_⟩)
  | (with_reducible show CDivW _ _ ∧ _; refine ⟨Bd.divW (by walk_at "bd") (by omega), ?_⟩)
  | (with_reducible show ShOk _ ∧ _; refine ⟨by assumption, ?_⟩)
  | (with_reducible show _ ∧ _; first | (refine ⟨sz_small ?_, ?_⟩; focus first | (simp; done) | (simp only [List.length_map, List.length_append, List.length_take, List.length_drop, List.length_cons, List.length_nil]; omega)) | (refine ⟨sz_lt1 ?_, ?_⟩; focus first | (simp; done) | (simp only [List.length_map, List.length_append, List.length_take, List.length_drop, List.length_cons, List.length_nil]; omega)) | refine and_sw ?_ ⟨rfl, trivial⟩ | refine and_sw ?_ ⟨rfl, ⟨_, rfl⟩⟩ | refine and_sw ?_ ⟨rfl, ⟨_, _, rfl⟩⟩ | refine and_sw ?_ ⟨rfl, ⟨_, _, _, rfl⟩⟩ | refine and_sw ?_ ⟨rfl, ⟨_, rfl, ?_⟩⟩ | refine and_sw ?_ ⟨rfl, ⟨_, _, rfl, ?_⟩⟩ | refine ⟨rfl, ?_⟩ | refine ⟨trivial, ?_⟩ | refine ⟨by omega, ?_⟩)
  | (with_reducible show _ ≤ sizeLine; exact sz_small (by omega))
  | fail))
local macro_rules | `(tactic| walk_at "ux") => `(tactic| (first | walk_at "uy"| (with_reducible show ite _ _ _; first | refine itb_t rfl ?_ | refine itb_f rfl ?_)))

abbrev MnC (CM CC CN : Addr) : Mn → Addr
  | .fl => CM
  | .ce => CC
  | .ne => CN
abbrev sp_fits (K : Fg) (k : Mn) : Sp := omSp K 2 (fun ds => ∃ (a : Option Int) (t : Int), ds = [aD a, .int t]) (fun ds => .bool (fitsB k (oI (a0 ds)) (toI (a1 ds))))
def BgOk (d : D) : Prop := ∀ xs, dItems d = some xs → xs.length ≤ 1100
abbrev sp_is_beginning (K : Fg) (CM CC CN : Addr) : Sp := odSp K (MnC CM CC CN) 1 (fun _ ds => BgOk (a0 ds)) (fun k ds => .bool (bgD k (a0 ds)))
abbrev sp_manner_of (K : Fg) (CE CM CC CN : Addr) : Sp := xSp K 1 (fun _ _ => True) (fun _ ds z => ∃ k, mnOf (a0 ds) = some k ∧ z = .ob (MnC CM CC CN k) [] []) (fun zs ds ex => mnOf (a0 ds) = none ∧ ex = ⟨.ref CE, zs.getD 0 (.d .none)⟩)
abbrev sp_need_beginning (K : Fg) (CR CM CC CN : Addr) : Sp := bxSp (ι := Mn) K 2 (fun k zs ds => zs.getD 0 (.d .none) = .ob (MnC CM CC CN k) [] [] ∧ NoOb (zs.getD 1 (.d .none)) ∧ BgOk (a1 ds)) (fun k _ ds z => bgD k (a1 ds) = true ∧ z = .d .none)
  (fun k zs ds ex => bgD k (a1 ds) = false ∧ ex = ⟨.ref CR, zs.getD 1 (.d .none)⟩)
theorem seqD_intsD {d : D} {xs : List D} (h : dItems d = some xs) (hn : xs.all isNum = true) : ∃ ts : List Int, xs = ts.map PyData.int ∧ intsD d = some ts := by
  obtain ⟨ts, e⟩ : ∃ ts : List Int, xs = ts.map PyData.int := ⟨_, allInts_some (by unfold allInts; rw [if_pos hn])⟩
  refine ⟨ts, e, ?_⟩
  unfold intsD
  rw [h, e]
  exact allInts_ints ts
theorem intsD_no {d : D} {xs : List D} (h : dItems d = some xs) (hn : xs.all isNum = false) : intsD d = none := by
  unfold intsD
  rw [h]
  show allInts xs = none
  unfold allInts
  rw [if_neg (by rw [hn]; exact Bool.false_ne_true)]
theorem fits_mem {K : Fg} {CM CC CN : Addr} (i : Mn) : (MnC CM CC CN i, sp_fits K i) ∈ [(CM, sp_fits K .fl), (CC, sp_fits K .ce), (CN, sp_fits K .ne)] := by cases i <;> simp
abbrev sp_need_fraction (K : Fg) (C : Addr) : Sp := xSp K 1 (fun _ _ => True) (fun _ ds z => fracB (a0 ds) = true ∧ z = .d .none) (fun zs ds ex => fracB (a0 ds) = false ∧ ex = ⟨.ref C, zs.getD 0 (.d .none)⟩)
def FrB (d : D) : Prop := ∀ p q, d = fr p q → Bd 500 p ∧ Bd 500 q
def Fr1 (a b : Int) : Prop := 1 ≤ b ∧ gcdI a b = 1 ∧ Bd 500 a ∧ Bd 500 b
theorem fr1_of {d : D} (h : fracB d = true) (hb : FrB d) : ∃ a b, d = fr a b ∧ Fr1 a b := by
  obtain ⟨a, b, rfl, h1, h2⟩ := fracB_tup h
  obtain ⟨h3, h4⟩ := hb a b rfl
  exact ⟨a, b, rfl, h1, h2, h3, h4⟩
theorem Fr1.frb {a b : Int} (f : Fr1 a b) : FrB (fr a b) := fun p q e => by cases e; exact ⟨f.2.2.1, f.2.2.2⟩
theorem Fr1.fb {a b : Int} (f : Fr1 a b) : fracB (fr a b) = true := fracB_fr f.1 f.2.1

theorem Fr1.next {k : Mn} {a b : Int} (f : Fr1 a b) (h : lM k a b ≠ 0) : Fr1 (nx1 b (lM k a b)) (nx2 (lM k a b)) := by
  obtain ⟨h1, h2, h3, h4⟩ := f
  have e1 := nx1_abs b (lM k a b)
  have e2 := nx2_abs (lM k a b)
  have e3 := lM_lt (k := k) (a := a) (show 0 < b by omega)
  refine ⟨nx2_pos h, gcd_nx h2, ?_, ?_⟩
  · unfold Bd at *; omega
  · unfold Bd at *; omega
theorem rowsB_mx {d : D} (h : rowsB d = true) : ∃ m, d = mxD m := by
  unfold rowsB at h
  split at h
  · next x y u v =>
    rw [Bool.and_eq_true, Bool.and_eq_true, Bool.and_eq_true] at h
    obtain ⟨⟨⟨h1, h2⟩, h3⟩, h4⟩ := h
    cases x <;> first | cases h1 | skip
    cases y <;> first | cases h2 | skip
    cases u <;> first | cases h3 | skip
    cases v <;> first | cases h4 | skip
    exact ⟨⟨_, _, _, _⟩, rfl⟩
  · cases h
theorem rowsB_of (m : Mx) : rowsB (mxD m) = true := rfl
def RwOk (d : D) : Prop := (∀ xs, dItems d = some xs → xs.length ≤ 1000 ∧ ∀ x ∈ xs, ∀ ys, dItems x = some ys → ys.length ≤ 1000) ∧ ∀ m, d = mxD m → MB 300 m
abbrev sp_need_rows (K : Fg) (C : Addr) : Sp := xSp K 1 (fun _ ds => RwOk (a0 ds)) (fun _ ds z => rowsB (a0 ds) = true ∧ z = .d .none) (fun zs ds ex => rowsB (a0 ds) = false ∧ ex = ⟨.ref C, zs.getD 0 (.d .none)⟩)
abbrev sp_begins (K : Fg) (d : D) : Sp := omSp K 0 (fun _ => True) (fun _ => d)
theorem begins_mem {K : Fg} {CM CC CN : Addr} (i : Mn) : (MnC CM CC CN i, sp_begins K (begD i)) ∈ [(CM, sp_begins K begF), (CC, sp_begins K begF), (CN, sp_begins K begR)] := by cases i <;> simp [begD]
abbrev sp_cone_behind (K : Fg) (Cc : Addr) (k : Mn) : Sp := ocSp K Cc 1 (fun ds => ∃ t : Int, ds = [.int t]) (fun ds => coneB k (toI (a0 ds)))
theorem behind_mem {K : Fg} {CM CC CN : Addr} (i : Mn) : (MnC CM CC CN i, sp_cone_behind K (MnC CM CC CN i) i) ∈ [(CM, sp_cone_behind K CM .fl), (CC, sp_cone_behind K CC .ce), (CN, sp_cone_behind K CN .ne)] := by cases i <;> simp

def coneX (CE CR : Addr) (zs : List Z) (ds : List D) (ex : Ex) : Prop := (mnOf (a1 ds) = none ∧ ex = ⟨.ref CE, zs.getD 1 (.d .none)⟩) ∨ ∃ k, mnOf (a1 ds) = some k ∧ (bgD k (a0 ds) = false ∨ intsD (a0 ds) = some []) ∧ ex = ⟨.ref CR, zs.getD 0 (.d .none)⟩
abbrev sp_cone (K : Fg) (CE CR CM CC CN : Addr) : Sp := xSp K 2 (fun zs ds => BgOk (a0 ds) ∧ ∀ k, mnOf (a1 ds) = some k → bgD k (a0 ds) = true → zs.getD 0 (.d .none) = .d (a0 ds))
  (fun _ ds z => ∃ k ts, mnOf (a1 ds) = some k ∧ intsD (a0 ds) = some ts ∧ bgL k ts = true ∧ ts ≠ [] ∧ z = .d (coneL k ts)) (coneX CE CR)

abbrev sp_all_manners (K : Fg) (CM CC CN : Addr) : Sp := asSp K 0 (fun _ _ => True) (fun _ _ z => z = .lst [.ob CM [] [], .ob CC [] [], .ob CN [] []])
abbrev sp_all_cones (K : Fg) : Sp := pureSp K 0 (fun _ => True) (fun _ r => r = .list allC)
theorem allC_sh : ∀ d ∈ allC, ShOk d := by
  intro d hd
  have key : ∀ k : Mn, ∀ d ∈ begD k :: [1, 2, -2, 3].map (coneB k), ShOk d := fun k d hd => by
    simp only [List.map_cons, List.map_nil, List.mem_cons, List.not_mem_nil, or_false] at hd
    rcases hd with rfl | rfl | rfl | rfl | rfl <;> cases k <;> exact shB_ok (by decide +kernel)
  obtain ⟨k, _, hk⟩ := List.mem_flatMap.mp hd
  exact key k d hk
def fstC (i : Nat) : List D := ([Mn.fl, .ce, .ne].take i).flatMap fun k => begD k :: [1, 2, -2, 3].map (coneB k)
def conD (d : D) : Bool := inD (.str d.shown) (allC.map fun d => .str d.shown)
abbrev sp_is_cone (K : Fg) : Sp := pureSp K 1 (fun ds => ShOk (a0 ds)) (fun ds r => r = .bool (conD (a0 ds)))
def nf2X (CF : Addr) (zs : List Z) (ds : List D) (ex : Ex) : Prop := (fracB (a0 ds) = false ∧ ex = ⟨.ref CF, zs.getD 0 (.d .none)⟩) ∨ (fracB (a0 ds) = true ∧ fracB (a1 ds) = false ∧ ex = ⟨.ref CF, zs.getD 1 (.d .none)⟩)
def sgn (a b c d : Int) : Int := (if c * b < a * d then 1 else 0) - (if a * d < c * b then 1 else 0)
abbrev sp_sign_of (K : Fg) (CF : Addr) : Sp := xSp K 2 (fun _ ds => FrB (a0 ds) ∧ FrB (a1 ds)) (fun _ ds z => ∃ a b c d, ds = [fr a b, fr c d] ∧ Fr1 a b ∧ Fr1 c d ∧ z = .d (.int (sgn a b c d))) (nf2X CF)


def MdF (t b p q : Int) : Prop := 1 ≤ q ∧ gcdI p q = 1 ∧ p * b = q * t ∧ p.natAbs ≤ t.natAbs ∧ q.natAbs ≤ b.natAbs
theorem mdF_of {t b : Int} {r : D} (h : MdR t b r) : ∃ p q, r = fr p q ∧ MdF t b p q := by
  obtain ⟨p, q, e, h⟩ := h
  exact ⟨p, q, e, h⟩
def rngX (CR CF CC : Addr) (zs : List Z) (ds : List D) (ex : Ex) : Prop := (rowsB (a0 ds) = false ∧ ex = ⟨.ref CR, zs.getD 0 (.d .none)⟩) ∨ (∃ m, a0 ds = mxD m ∧ m.a * m.d = m.b * m.c ∧ ex = ⟨.ref CF, zs.getD 0 (.d .none)⟩) ∨ (∃ m, a0 ds = mxD m ∧ m.a * m.d ≠ m.b * m.c ∧ conD (a1 ds) = false ∧ ex = ⟨.ref CC, zs.getD 1 (.d .none)⟩)
def rngD (p1 q1 p2 q2 : Int) (ui vi : Bool) : D := if p1 * q2 < p2 * q1 then .tuple [fr p1 q1, .bool ui, fr p2 q2, .bool vi] else .tuple [fr p2 q2, .bool vi, fr p1 q1, .bool ui]
def rngV (m : Mx) (c : Cn) (d : D) : Prop := (apB m c.u0 c.u1 * apB m c.v0 c.v1 ≤ 0 ∧ d = .none) ∨ (0 < apB m c.u0 c.u1 * apB m c.v0 c.v1 ∧ ∃ p1 q1 p2 q2, MdF (apT m c.u0 c.u1) (apB m c.u0 c.u1) p1 q1 ∧ MdF (apT m c.v0 c.v1) (apB m c.v0 c.v1) p2 q2 ∧ d = rngD p1 q1 p2 q2 c.ui c.vi)
def rngR (ds : List D) (z : Z) : Prop := ∃ m c d, ds = [mxD m, Cn.d c] ∧ m.a * m.d ≠ m.b * m.c ∧ conD (Cn.d c) = true ∧ rngV m c d ∧ z = .d d
def rngP (zs : List Z) (ds : List D) : Prop := ∃ z0 z1 d0 d1, zs = [z0, z1] ∧ ds = [d0, d1] ∧ RwOk d0 ∧ ∀ m, d0 = mxD m → MB 100 m ∧ (m.a * m.d ≠ m.b * m.c → ShOk d1 ∧ (conD d1 = true → ∃ c, d1 = Cn.d c ∧ z1 = .d d1 ∧ CnB c))
abbrev sp_range_of (K : Fg) (CR CF CC : Addr) : Sp := xSp K 2 rngP (fun _ ds z => rngR ds z) (rngX CR CF CC)
theorem resA2d {m : List Cl} {z0 z1 : Z} {d0 d1 : D} (h : ResA m [z0, z1] [d0, d1]) : Res m z0 d0 ∧ Res m z1 d1 := by
  cases h with | cons h0 h => cases h with | cons h1 h => exact ⟨h0, h1⟩
theorem sgn_lt (a b c d : Int) : decide (sgn a b c d < 0) = decide (a * d < c * b) := by
  unfold sgn
  apply decide_eq_decide.mpr
  constructor
  · intro h
    split at h <;> split at h <;> omega
  · intro h
    rw [if_neg (by omega), if_pos h]; decide

abbrev sp_law_cones (K : Fg) : Sp := pureSp K 0 (fun _ => True) (fun _ r => r = .list lawD)
theorem cone_pre {ts : List Int} {k : Mn} (h : ts.length ≤ 10) : BgOk (.list (ts.map PyData.int)) ∧ ∀ k', mnOf (.str k.word) = some k' → bgD k' (.list (ts.map PyData.int)) = true → Z.d (.list (ts.map PyData.int)) = .d (.list (ts.map PyData.int)) :=
  ⟨fun xs hx => by cases hx; rw [List.length_map]; omega, fun _ _ _ => rfl⟩
theorem cone_no {CE CR : Addr} {zs : List Z} {ts : List Int} {k : Mn} {ex : Ex} (hn : ts ≠ []) (hb : bgL k ts = true) (h : coneX CE CR zs [.list (ts.map PyData.int), .str k.word] ex) : False := by
  rcases h with ⟨h, _⟩ | ⟨k', hk, h, _⟩
  · exact absurd ((mnOf_word k).symm.trans h) (by simp)
  · obtain rfl := Option.some.inj ((mnOf_word k).symm.trans hk)
    have hd : intsD (.list (ts.map PyData.int)) = some ts := allInts_ints ts
    rcases h with h | h
    · have h : bgD k (.list (ts.map PyData.int)) = false := h
      rw [bgD_of hd, hb] at h; cases h
    · have h : intsD (.list (ts.map PyData.int)) = some [] := h
      rw [hd] at h; exact hn (Option.some.inj h)
theorem cone_is {ts : List Int} {k : Mn} {z : Z} (h : ∃ k' us, mnOf (a1 [PyData.list (ts.map PyData.int), .str k.word]) = some k' ∧ intsD (a0 [PyData.list (ts.map PyData.int), .str k.word]) = some us ∧ bgL k' us = true ∧ us ≠ [] ∧ z = .d (coneL k' us)) : z = .d (coneL k ts) := by
  obtain ⟨k', us, hk, hu, _, _, rfl⟩ := h
  obtain rfl := Option.some.inj ((mnOf_word k).symm.trans hk)
  have hu : allInts (ts.map PyData.int) = some us := hu
  rw [allInts_ints] at hu
  rw [Option.some.inj hu]

def NF (m : Mx) : Prop := MB 20 m ∧ m.a * m.d ≠ m.b * m.c
abbrev sp_law_rows (K : Fg) : Sp := puSp K 1 (fun ds => ∃ c, ds = [Cn.d c] ∧ CnB c) (fun _ => 6) (fun _ r => ∃ m, r = mxD m ∧ NF m)

abbrev sp_law_weights (K : Fg) : Sp := puSp K 1 (fun ds => ∃ c, ds = [Cn.d c]) (fun _ => 2) (fun ds r => ∃ c u v, ds = [Cn.d c] ∧ 0 < u ∧ u < 200 ∧ 0 < v ∧ v < 200 ∧ r = .list ([.tuple [.int 1, .int 1], .tuple [.int 1, .int (10 ^ 40)], .tuple [.int (10 ^ 40), .int 1], .tuple [.int u, .int v]] ++ (if c.ui then [.tuple [.int 1, .int 0]] else []) ++ (if c.vi then [.tuple [.int 0, .int 1]] else [])))
abbrev sp_law_none_right (K : Fg) : Sp := pureSp K 2 (fun ds => ∃ m c, ds = [mxD m, Cn.d c] ∧ MB 20 m ∧ CnB c ∧ apB m c.u0 c.u1 * apB m c.v0 c.v1 ≤ 0) (fun _ r => r = .bool true)

theorem fr_same {t b p q p' q' : Int} (hb : b ≠ 0) (h : MdF t b p q) (h' : MdF t b p' q') : p = p' ∧ q = q' := by
  obtain ⟨h1, h2, h3, _⟩ := h
  obtain ⟨g1, g2, g3, _⟩ := h'
  refine frac_same (p := p) (q := q) (t := p') (b := q') h1 g1 h2 g2 ?_
  have e1 : p * q' * b = q * p' * b := by
    have : p * q' * b = q' * (p * b) := by grind
    rw [this, h3]
    have : q * p' * b = q * (p' * b) := by grind
    rw [this, g3]
    grind
  exact Int.eq_of_mul_eq_mul_right hb e1
theorem rwok_mx {m : Mx} (h : MB 300 m) : RwOk (mxD m) := by
  refine ⟨fun xs hx => ?_, fun n e => by rw [← mxD_inj e]; exact h⟩
  cases hx
  refine ⟨by show 2 ≤ 1000; decide, fun x hx ys hy => ?_⟩
  simp only [List.mem_cons, List.not_mem_nil, or_false] at hx
  rcases hx with rfl | rfl <;> (cases hy; show 2 ≤ 1000; decide)
theorem ends_sh {p q r s : Int} {a b : Bool} (h1 : Bd 22 p) (h2 : Bd 22 q) (h3 : Bd 22 r) (h4 : Bd 22 s) : ShOk (.list [.tuple [fr p q, .bool a], .tuple [fr r s, .bool b]]) := by
  have one : ∀ {p q : Int} {a : Bool}, Bd 22 p → Bd 22 q → Shw 829 2 (.tuple [fr p q, .bool a]) := fun {p q a} h1 h2 => (rz_tup (b := 411) (k := 1) (xs := [fr p q, .bool a]) fun x hx => by
    simp only [List.mem_cons, List.not_mem_nil, or_false] at hx
    rcases hx with rfl | rfl
    · exact shw_fr (h1.mono (by decide)) (h2.mono (by decide))
    · exact (rz_bl a).mono (by decide) (by decide)).mono (by show 2 * (411 + 2) + 3 ≤ 829; decide) (by decide)
  exact ((rz_list (b := 829) (k := 2) (xs := [.tuple [fr p q, .bool a], .tuple [fr r s, .bool b]]) fun x hx => by
    simp only [List.mem_cons, List.not_mem_nil, or_false] at hx
    rcases hx with rfl | rfl
    · exact one h1 h2
    · exact one h3 h4).mono (b' := 2000) (by show 2 * (829 + 2) + 3 ≤ 2000; decide) (Nat.le_refl _)).ok
def alwd (ui vi : Bool) (k l : Int) : Prop := 0 ≤ k ∧ 0 ≤ l ∧ (0 < k ∨ 0 < l) ∧ (l = 0 → ui = true) ∧ (k = 0 → vi = true)
theorem ins_true {p q r s x y : Int} {li hi : Bool} (h1 : 0 ≤ x * q - p * y) (h2 : x * q - p * y = 0 → li = true) (h3 : 0 ≤ r * y - x * s) (h4 : r * y - x * s = 0 → hi = true) : insB p q li r s hi x y = true := by
  unfold insB
  rw [Bool.and_eq_true]
  constructor
  · rcases Int.lt_or_eq_of_le h1 with z | z
    · rw [decide_eq_true z]; rfl
    · rw [decide_eq_true z.symm, h2 z.symm]; simp
  · rcases Int.lt_or_eq_of_le h3 with z | z
    · rw [decide_eq_true z]; rfl
    · rw [decide_eq_true z.symm, h4 z.symm]; simp
/-- the two ends in their order, and what lies between -/
theorem rng_right {m : Mx} {c : Cn} {p1 q1 p2 q2 : Int} (hflat : m.a * m.d ≠ m.b * m.c) (hdet : c.v0 * c.u1 - c.v1 * c.u0 ≠ 0) (hgt : 0 < apB m c.u0 c.u1 * apB m c.v0 c.v1) (M1 : MdF (apT m c.u0 c.u1) (apB m c.u0 c.u1) p1 q1) (M2 : MdF (apT m c.v0 c.v1) (apB m c.v0 c.v1) p2 q2) :
    ∃ P Q a R S b, rngD p1 q1 p2 q2 c.ui c.vi = .tuple [fr P Q, .bool a, fr R S, .bool b] ∧ ((P = p1 ∧ Q = q1 ∧ a = c.ui ∧ R = p2 ∧ S = q2 ∧ b = c.vi) ∨ (P = p2 ∧ Q = q2 ∧ a = c.vi ∧ R = p1 ∧ S = q1 ∧ b = c.ui)) ∧ P * S < R * Q ∧
      (∀ k l, alwd c.ui c.vi k l → vaB m c k l ≠ 0) ∧ ∀ k l x y, alwd c.ui c.vi k l → 0 < y → x * vaB m c k l = y * vaT m c k l → insB P Q a R S b x y = true := by
  have hD := ends_ne hflat hdet
  have hlin := fun k l => va_lin m c k l
  obtain ⟨h1, _, h2, _⟩ := M1
  obtain ⟨g1, _, g2, _⟩ := M2
  generalize apT m c.u0 c.u1 = t1 at *
  generalize apB m c.u0 c.u1 = b1 at *
  generalize apT m c.v0 c.v1 = t2 at *
  generalize apB m c.v0 c.v1 = b2 at *
  obtain ⟨e1, e2⟩ := ends_less (show 0 < q1 by omega) (show 0 < q2 by omega) hgt h2 g2
  have ne0 : ∀ k l, alwd c.ui c.vi k l → vaB m c k l ≠ 0 := fun k l ⟨a1, a2, a3, _⟩ h => by
    have := (same_sign hgt a1 a2 a3).1
    rw [← (hlin k l).2, h, Int.mul_zero] at this
    omega
  by_cases hl : p1 * q2 < p2 * q1
  · have hD : 0 < t2 * b1 - t1 * b2 := by
      rcases Int.lt_or_le 0 (t2 * b1 - t1 * b2) with z | z
      · exact z
      · have := e2 (by omega); omega
    refine ⟨p1, q1, c.ui, p2, q2, c.vi, by unfold rngD; rw [if_pos hl], .inl ⟨rfl, rfl, rfl, rfl, rfl, rfl⟩, hl, ne0, fun k l x y ha hy hx => ?_⟩
    obtain ⟨a1, a2, a3, a4, a5⟩ := ha
    rw [(hlin k l).1, (hlin k l).2] at hx
    obtain ⟨x1, x2⟩ := val_low (show 0 < q1 by omega) hy hgt a1 a2 a3 h2 hx hD
    obtain ⟨y1, y2⟩ := val_high (show 0 < q2 by omega) hy hgt a1 a2 a3 g2 hx hD
    exact ins_true x1 (fun z => a4 (x2 z)) y1 (fun z => a5 (y2 z))
  · have hD : 0 < t1 * b2 - t2 * b1 := by
      rcases Int.lt_or_le 0 (t1 * b2 - t2 * b1) with z | z
      · exact z
      · have := e1 (by omega); omega
    refine ⟨p2, q2, c.vi, p1, q1, c.ui, by unfold rngD; rw [if_neg hl], .inr ⟨rfl, rfl, rfl, rfl, rfl, rfl⟩, e2 hD, ne0, fun k l x y ha hy hx => ?_⟩
    obtain ⟨a1, a2, a3, a4, a5⟩ := ha
    rw [(hlin k l).1, (hlin k l).2, Int.add_comm (k * b1), Int.add_comm (k * t1)] at hx
    rw [Int.mul_comm b1 b2] at hgt
    obtain ⟨x1, x2⟩ := val_low (show 0 < q2 by omega) hy hgt a2 a1 a3.symm g2 hx hD
    obtain ⟨y1, y2⟩ := val_high (show 0 < q1 by omega) hy hgt a2 a1 a3.symm h2 hx hD
    exact ins_true x1 (fun z => a5 (x2 z)) y1 (fun z => a4 (y2 z))
abbrev sp_law_right (K : Fg) : Sp := puSp K 2 (fun ds => ∃ m c, ds = [mxD m, Cn.d c] ∧ NF m ∧ CnB c ∧ c.v0 * c.u1 - c.v1 * c.u0 ≠ 0 ∧ ShOk (Cn.d c) ∧ conD (Cn.d c) = true) (fun _ => 2) (fun _ r => r = .bool true)
theorem map_d_inj : ∀ {a b : List D}, a.map Z.d = b.map Z.d → a = b
  | [], [], _ => rfl
  | [], _ :: _, h => by cases h
  | _ :: _, [], h => by cases h
  | x :: a, y :: b, h => by
    rw [List.map_cons, List.map_cons, List.cons.injEq] at h
    obtain ⟨h1, h2⟩ := h
    cases h1
    rw [map_d_inj h2]
theorem kvD_inj : ∀ {a b : List (Key × D)}, kvD a = kvD b → a = b
  | [], [], _ => rfl
  | [], _ :: _, h => by cases h
  | _ :: _, [], h => by cases h
  | x :: a, y :: b, h => by
    have h : (x.1, Z.d x.2) :: kvD a = (y.1, Z.d y.2) :: kvD b := h
    rw [List.cons.injEq] at h
    obtain ⟨h1, h2⟩ := h
    obtain ⟨x1, x2⟩ := x
    obtain ⟨y1, y2⟩ := y
    cases h1
    rw [kvD_inj h2]
theorem Th.det {z : Z} {nw : List (Addr × Cell)} {c c' : Cont} (h : Th z nw c) (h' : Th z nw c') : c' = c := by
  cases h with
  | pl d => cases h' with | pl _ => rfl
  | ls a ds =>
    generalize e : [(a, Cell.lst (ds.map Z.d))] = n at h'
    cases h' with
    | ls _ ds' =>
      rw [List.cons.injEq, Prod.mk.injEq, Cell.lst.injEq] at e
      rw [map_d_inj e.1.2]
    | dc _ _ => cases e
  | dc a ds =>
    generalize e : [(a, Cell.dic (kvD ds))] = n at h'
    cases h' with
    | dc _ ds' =>
      rw [List.cons.injEq, Prod.mk.injEq, Cell.dic.injEq] at e
      rw [kvD_inj e.1.2]
    | ls _ _ => cases e
def fndZ (w : Str) (z : Z) : Z := .lst [.d (.str w), z, .d (.bool true)]

def askP (zs : List Z) (ds : List D) (z : Z) : Prop :=
  (∃ d, rngR ds (.d d) ∧ z = .d (.list [.str "told", d])) ∨ (rowsB (a0 ds) = false ∧ z = fndZ "rows" (zs.getD 0 (.d .none))) ∨ (∃ m, a0 ds = mxD m ∧ m.a * m.d = m.b * m.c ∧ z = fndZ "flat" (zs.getD 0 (.d .none))) ∨
  (∃ m, a0 ds = mxD m ∧ m.a * m.d ≠ m.b * m.c ∧ conD (a1 ds) = false ∧ z = fndZ "cone" (zs.getD 1 (.d .none)))
abbrev sp_law_asked (K : Fg) : Sp := asSp K 2 rngP askP
abbrev sp_law_refused (K : Fg) : Sp := mSp K 3 (fun m zs => ∃ w z c, zs = [fndZ w z, .d (.str w), z] ∧ Th z m c ∧ VOk c) (fun m zs d m' => d = .bool true ∧ ∀ w z c, zs = [fndZ w z, .d (.str w), z] → Th z m c → Th z m' c.gr)
theorem ask_rows {zs : List Z} {ds : List D} {z : Z} (h0 : rowsB (a0 ds) = false) (h : askP zs ds z) : z = fndZ "rows" (zs.getD 0 (.d .none)) := by
  rcases h with ⟨d, ⟨m, c, _, e, _⟩, _⟩ | ⟨_, h⟩ | ⟨m, e, _⟩ | ⟨m, e, _⟩
  · rw [e, show rowsB (a0 [mxD m, Cn.d c]) = true from rowsB_of m] at h0; cases h0
  · exact h
  · rw [e, rowsB_of] at h0; cases h0
  · rw [e, rowsB_of] at h0; cases h0
theorem ask_flat {zs : List Z} {m : Mx} {d1 : D} {z : Z} (hf : m.a * m.d = m.b * m.c) (h : askP zs [mxD m, d1] z) : z = fndZ "flat" (zs.getD 0 (.d .none)) := by
  rcases h with ⟨d, ⟨m', c, _, e, hn, _⟩, _⟩ | ⟨h, _⟩ | ⟨m', e, _, h⟩ | ⟨m', e, hn, _⟩
  · rw [← mxD_inj (List.cons.inj e).1] at hn; exact absurd hf hn
  · rw [show rowsB (a0 [mxD m, d1]) = true from rowsB_of m] at h; cases h
  · exact h
  · rw [← mxD_inj e] at hn; exact absurd hf hn
theorem ask_cone {zs : List Z} {m : Mx} {d1 : D} {z : Z} (hf : m.a * m.d ≠ m.b * m.c) (hc : conD d1 = false) (h : askP zs [mxD m, d1] z) : z = fndZ "cone" (zs.getD 1 (.d .none)) := by
  rcases h with ⟨d, ⟨m', c, _, e, _, hn, _⟩, _⟩ | ⟨h, _⟩ | ⟨m', e, hn, _⟩ | ⟨m', e, _, _, h⟩
  · rw [← (List.cons.inj (List.cons.inj e).2).1, hc] at hn; cases hn
  · rw [show rowsB (a0 [mxD m, d1]) = true from rowsB_of m] at h; cases h
  · rw [← mxD_inj e] at hn; exact absurd hn hf
  · exact h

def csL : List Cn := [⟨1, 1, false, 1, 0, true⟩, ⟨2, 1, false, 2, -1, true⟩, ⟨2, 1, false, 1, 0, false⟩, ⟨1, 1, false, 1, 0, false⟩, ⟨1, 0, true, 2, -1, true⟩]
theorem lawD_cs {c : Cn} (h : Cn.d c ∈ lawD) : c ∈ csL := by
  unfold lawD at h
  simp only [List.mem_cons, List.not_mem_nil, or_false] at h
  unfold csL
  have g1 : begD .fl = Cn.d ⟨1, 1, false, 1, 0, true⟩ := rfl
  have g2 : coneB .fl 3 = Cn.d ⟨1, 1, false, 1, 0, true⟩ := rfl
  have g3 : coneB .fl 2 = Cn.d ⟨1, 1, false, 1, 0, true⟩ := rfl
  have g4 : begD .ce = Cn.d ⟨1, 1, false, 1, 0, true⟩ := rfl
  have g5 : coneB .ce 3 = Cn.d ⟨1, 1, false, 1, 0, true⟩ := rfl
  have g6 : coneB .ce 2 = Cn.d ⟨1, 1, false, 1, 0, true⟩ := rfl
  have g7 : begD .ne = Cn.d ⟨2, 1, false, 2, -1, true⟩ := rfl
  have g8 : coneB .ne 3 = Cn.d ⟨2, 1, false, 2, -1, true⟩ := rfl
  have g9 : coneB .ne 2 = Cn.d ⟨2, 1, false, 1, 0, false⟩ := rfl
  have ga : coneB .fl 1 = Cn.d ⟨1, 1, false, 1, 0, false⟩ := rfl
  have gb : coneB .ne (-2) = Cn.d ⟨1, 0, true, 2, -1, true⟩ := rfl
  rw [g1, g2, g3, g4, g5, g6, g7, g8, g9, ga, gb] at h
  rcases h with h | h | h | h | h | h | h | h | h | h | h <;> (rw [cn_inj h]; simp)
def uD (c : Cn) : D := .tuple [.int c.u0, .int c.u1]
def vD (c : Cn) : D := .tuple [.int c.v0, .int c.v1]
def sdU (c : Cn) : D := .tuple [uD c, .bool c.ui]
def sdV (c : Cn) : D := .tuple [vD c, .bool c.vi]
/-- the things that may be no cone -/
def nonC (c : Cn) : List D := [.tuple [sdU c], .tuple [sdV c, sdU c], .tuple [.tuple [uD c, .int 1], sdV c], .tuple [uD c, vD c], .tuple [.tuple [uD c, .bool c.ui], .tuple [.tuple [.int 3, .int 1], .bool c.vi]]]
theorem nonC_ok : ∀ c ∈ csL, (∀ d ∈ nonC c, VOk (.pl d)) ∧ VOk (.ls [sdU c, sdV c]) ∧ ShOk (.list [sdU c, sdV c]) := by
  have e : (csL.all fun c => ((nonC c).all fun d => vB (.pl d)) && vB (.ls [sdU c, sdV c]) && shB (.list [sdU c, sdV c])) = true := by decide +kernel
  intro c hc
  have h := List.all_eq_true.mp e c hc
  rw [Bool.and_eq_true, Bool.and_eq_true] at h
  exact ⟨fun d hd => vB_ok (List.all_eq_true.mp h.1.1 d hd), vB_ok h.1.2, shB_ok h.2⟩
theorem con_law (d : D) : inD (.str d.shown) (lawD.map fun d => .str d.shown) = conD d := by
  have e1 : (lawD.all fun d => allC.any fun d' => d'.shown == d.shown) = true := by decide +kernel
  have e2 : (allC.all fun d => lawD.any fun d' => d'.shown == d.shown) = true := by decide +kernel
  have key : ∀ A B : List D, (A.all fun d => B.any fun d' => d'.shown == d.shown) = true → inD (.str d.shown) (A.map fun d => .str d.shown) = true → inD (.str d.shown) (B.map fun d => .str d.shown) = true := fun A B h h1 => by
    unfold inD at h1 ⊢
    rw [List.any_map] at h1 ⊢
    obtain ⟨x, hx, h2⟩ := List.any_eq_true.mp h1
    obtain ⟨x', hx', h3⟩ := List.any_eq_true.mp (List.all_eq_true.mp h x hx)
    refine List.any_eq_true.mpr ⟨x', hx', ?_⟩
    have h3 : x'.shown = x.shown := eq_of_beq h3
    show eqF (.str x'.shown) (.str d.shown) = true
    rw [h3]; exact h2
  unfold conD
  rw [Bool.eq_iff_iff]
  exact ⟨key _ _ e1, key _ _ e2⟩
theorem lawD_con : ∀ d ∈ lawD, conD d = true ∧ ShOk d := by
  have e : (lawD.all fun d => conD d && shB d) = true := by decide +kernel
  intro d hd
  have h := List.all_eq_true.mp e d hd
  rw [Bool.and_eq_true] at h
  exact ⟨h.1, shB_ok h.2⟩
theorem odds_rw : ∀ c ∈ oddsC, RwOk c.dat ∧ ShOk c.dat ∧ (rowsB c.dat = true → c = .pl (.tuple [.tuple [.int 1, .int 0], .tuple [.int 0, .int 1]])) := by
  have len : ∀ d : D, (match dItems d with | some xs => decide (xs.length ≤ 1000) && xs.all (fun x => match dItems x with | some ys => decide (ys.length ≤ 1000) | none => true) | none => true) = true → ∀ xs, dItems d = some xs → xs.length ≤ 1000 ∧ ∀ x ∈ xs, ∀ ys, dItems x = some ys → ys.length ≤ 1000 := fun d h xs hx => by
    rw [hx] at h
    have h : (decide (xs.length ≤ 1000) && xs.all (fun x => match dItems x with | some ys => decide (ys.length ≤ 1000) | none => true)) = true := h
    rw [Bool.and_eq_true] at h
    refine ⟨of_decide_eq_true h.1, fun x hm ys hy => ?_⟩
    have := List.all_eq_true.mp h.2 x hm
    rw [hy] at this
    exact of_decide_eq_true this
  have e : (oddsC.all fun c => (match dItems c.dat with | some xs => decide (xs.length ≤ 1000) && xs.all (fun x => match dItems x with | some ys => decide (ys.length ≤ 1000) | none => true) | none => true) && shB c.dat) = true := by decide +kernel
  intro c hc
  have h := List.all_eq_true.mp e c hc
  rw [Bool.and_eq_true] at h
  have key : rowsB c.dat = true → c = .pl (.tuple [.tuple [.int 1, .int 0], .tuple [.int 0, .int 1]]) := by
    unfold oddsC at hc
    simp only [List.mem_cons, List.not_mem_nil, or_false] at hc
    rcases hc with rfl | rfl | rfl | rfl | rfl | rfl | rfl | rfl | rfl | rfl | rfl | rfl | rfl | rfl | rfl | rfl | rfl | rfl | rfl | rfl | rfl | rfl | rfl | rfl | rfl | rfl | rfl | rfl | rfl | rfl | rfl
    all_goals first
      | (intro z; exact absurd z (by decide +kernel))
      | exact fun _ => rfl
  refine ⟨⟨len _ h.1, fun m e' => ?_⟩, shB_ok h.2, key⟩
  have h2 := key (by rw [e']; exact rowsB_of m)
  rw [h2] at e'
  have e3 : mxD ⟨1, 0, 0, 1⟩ = mxD m := e'
  rw [← mxD_inj e3]
  exact ⟨Bd.lit (x := 1) (by decide), Bd.lit (x := 0) (by decide), Bd.lit (x := 0) (by decide), Bd.lit (x := 1) (by decide)⟩
theorem odds_shp : ∀ c ∈ oddsC, (∃ kvs, c = .dc kvs) ∨ SeqAt.shaped c.dat = true := by
  have e : (oddsC.all fun c => match c with | .dc _ => true | _ => SeqAt.shaped c.dat) = true := by decide +kernel
  intro c hc
  have h := List.all_eq_true.mp e c hc
  cases c with
  | dc kvs => exact .inl ⟨kvs, rfl⟩
  | pl d => exact .inr h
  | ls ds => exact .inr h
def flatL : List Mx := [⟨2, 4, 1, 2⟩, ⟨0, 0, 3, 1⟩, ⟨0, 0, 0, 0⟩]
theorem flat_ok : ∀ m ∈ flatL, m.a * m.d = m.b * m.c ∧ MB 100 m ∧ VOk (.pl (mxD m)) := by
  have e : (flatL.all fun m => vB (.pl (mxD m)) && decide (m.a * m.d = m.b * m.c) && decide (m.a.natAbs < 10) && decide (m.b.natAbs < 10) && decide (m.c.natAbs < 10) && decide (m.d.natAbs < 10)) = true := by decide +kernel
  intro m hm
  have h := List.all_eq_true.mp e m hm
  simp only [Bool.and_eq_true, decide_eq_true_eq] at h
  obtain ⟨⟨⟨⟨⟨h1, h2⟩, h3⟩, h4⟩, h5⟩, h6⟩ := h
  have lit : ∀ {x : Int}, x.natAbs < 10 → Bd 100 x := fun h => Bd.mono (Bd.lit (k := 1) h) (by decide)
  exact ⟨h2, ⟨lit h3, lit h4, lit h5, lit h6⟩, vB_ok h1⟩
abbrev sp_law_odd_right (K : Fg) : Sp := puSp K 2 (fun ds => ∃ c, ds = [mxD ⟨2, 1, 1, 1⟩, Cn.d c] ∧ Cn.d c ∈ lawD) (fun _ => 3) (fun _ r => r = .bool true)

section
variable {P : Program} {w : World} {K : Fg} {mg : Str → Option Value} {base : Heap}
abbrev s_i_NoManner : Stmt := clsFn (topS 4)
theorem sc_i_NoManner : FnScope ["self", "found"] ["self", "found"] (defScope s_i_NoManner) := ⟨rfl, rfl, rfl, by decide +kernel, rfl, by decide +kernel, by decide +kernel⟩
theorem xc_NoManner {C : Addr} (T : XcT K mg "NoManner" "NoManner.__init__" s_i_NoManner C) (tx : TxC K mg "TermError") : Xc P w K mg base "NoManner" C :=
  xc_ok T sc_i_NoManner "no manner" fun fI cdv A outer s H E => pss_cons (ps_expr (pe_tinit (by rfl) tx (pa_cons (pv 0) (pa_cons pe_str pa_nil)))) (pss_one (ps_ost (pv 0) (pv 1)))
abbrev s_i_NoRow : Stmt := clsFn (topS 5)
theorem sc_i_NoRow : FnScope ["self", "found"] ["self", "found"] (defScope s_i_NoRow) := ⟨rfl, rfl, rfl, by decide +kernel, rfl, by decide +kernel, by decide +kernel⟩
theorem xc_NoRow {C : Addr} (T : XcT K mg "NoRow" "NoRow.__init__" s_i_NoRow C) (tx : TxC K mg "TermError") : Xc P w K mg base "NoRow" C :=
  xc_ok T sc_i_NoRow "no legal row" fun fI cdv A outer s H E => pss_cons (ps_expr (pe_tinit (by rfl) tx (pa_cons (pv 0) (pa_cons pe_str pa_nil)))) (pss_one (ps_ost (pv 0) (pv 1)))
abbrev s_i_NoFraction : Stmt := clsFn (topS 3)
theorem sc_i_NoFraction : FnScope ["self", "found"] ["self", "found"] (defScope s_i_NoFraction) := ⟨rfl, rfl, rfl, by decide +kernel, rfl, by decide +kernel, by decide +kernel⟩
theorem xc_NoFraction {C : Addr} (T : XcT K mg "NoFraction" "NoFraction.__init__" s_i_NoFraction C) (tx : TxC K mg "TermError") : Xc P w K mg base "NoFraction" C :=
  xc_ok T sc_i_NoFraction "no fraction" fun fI cdv A outer s H E => pss_cons (ps_expr (pe_tinit (by rfl) tx (pa_cons (pv 0) (pa_cons pe_str pa_nil)))) (pss_one (ps_ost (pv 0) (pv 1)))
abbrev s_i_NoRows : Stmt := clsFn (topS 7)
theorem sc_i_NoRows : FnScope ["self", "found"] ["self", "found"] (defScope s_i_NoRows) := ⟨rfl, rfl, rfl, by decide +kernel, rfl, by decide +kernel, by decide +kernel⟩
theorem xc_NoRows {C : Addr} (T : XcT K mg "NoRows" "NoRows.__init__" s_i_NoRows C) (tx : TxC K mg "TermError") : Xc P w K mg base "NoRows" C :=
  xc_ok T sc_i_NoRows "no rows of a machine" fun fI cdv A outer s H E => pss_cons (ps_expr (pe_tinit (by rfl) tx (pa_cons (pv 0) (pa_cons pe_str pa_nil)))) (pss_one (ps_ost (pv 0) (pv 1)))
abbrev s_i_Flat : Stmt := clsFn (topS 8)
theorem sc_i_Flat : FnScope ["self", "found"] ["self", "found"] (defScope s_i_Flat) := ⟨rfl, rfl, rfl, by decide +kernel, rfl, by decide +kernel, by decide +kernel⟩
theorem xc_Flat {C : Addr} (T : XcT K mg "Flat" "Flat.__init__" s_i_Flat C) (tx : TxC K mg "TermError") : Xc P w K mg base "Flat" C :=
  xc_ok T sc_i_Flat "rows of one proportion" fun fI cdv A outer s H E => pss_cons (ps_expr (pe_tinit (by rfl) tx (pa_cons (pv 0) (pa_cons pe_str pa_nil)))) (pss_one (ps_ost (pv 0) (pv 1)))
abbrev s_i_NoCone : Stmt := clsFn (topS 6)
theorem sc_i_NoCone : FnScope ["self", "found"] ["self", "found"] (defScope s_i_NoCone) := ⟨rfl, rfl, rfl, by decide +kernel, rfl, by decide +kernel, by decide +kernel⟩
theorem xc_NoCone {C : Addr} (T : XcT K mg "NoCone" "NoCone.__init__" s_i_NoCone C) (tx : TxC K mg "TermError") : Xc P w K mg base "NoCone" C :=
  xc_ok T sc_i_NoCone "no cone" fun fI cdv A outer s H E => pss_cons (ps_expr (pe_tinit (by rfl) tx (pa_cons (pv 0) (pa_cons pe_str pa_nil)))) (pss_one (ps_ost (pv 0) (pv 1)))
abbrev s_Manner_begins : Stmt := clsFnN 4 (topS 23)
abbrev N_Manner_begins : List Str := ["self"]
theorem sc_Manner_begins : FnScope N_Manner_begins ["self"] (defScope s_Manner_begins) := ⟨rfl, rfl, rfl, by decide +kernel, rfl, by decide +kernel, by decide +kernel⟩
theorem ok_Manner_begins {f : Addr} (d : MFn K "begins" "Manner.begins" s_Manner_begins ["self"] f)  : MCal P w K mg base CX0 1 ["self"] (Ux.sp_begins K begF) f := by
  refine d.ok sc_Manner_begins (obSp_len rfl) (fun cdv A outer s H vs Q E hr hgu h => ?_)
  refine ⟨_, (pss_one (ps_ret (pe_tup (pa_cons (pe_tup (pa_cons (pe_tup (pa_cons pe_int (pa_cons pe_int pa_nil))) (pa_cons pe_bl pa_nil))) (pa_cons (pe_tup (pa_cons (pe_tup (pa_cons pe_int (pa_cons pe_int pa_nil))) (pa_cons pe_bl pa_nil))) pa_nil))))), ?_⟩
  try dsimp only [cxOf]
  refine ob_body h (fun i ds hl hp e hn hz => ?_)
  obtain rfl := len0 hl
  show wS _ _ ⟨[some ((.ob i [] []))], _⟩ _
  repeat' walk_at "ux"
  exact hz _ _ rfl
abbrev s_Manner_cone_behind : Stmt := clsFnN 5 (topS 23)
abbrev N_Manner_cone_behind : List Str := ["self", "last"]
theorem sc_Manner_cone_behind : FnScope N_Manner_cone_behind ["self", "last"] (defScope s_Manner_cone_behind) := ⟨rfl, rfl, rfl, by decide +kernel, rfl, by decide +kernel, by decide +kernel⟩
theorem ok_Manner_cone_behind {f : Addr} (d : MFn K "cone_behind" "Manner.cone_behind" s_Manner_cone_behind ["self", "last"] f) {C_Manner : Addr} : MCal P w K mg base CX0 1 ["self", "last"] (Ux.sp_cone_behind K C_Manner .fl) f := by
  refine d.ok sc_Manner_cone_behind (obSp_len rfl) (fun cdv A outer s H vs Q E hr hgu h => ?_)
  refine ⟨_, (pss_one (ps_ret (pe_tup (pa_cons (pe_tup (pa_cons (pe_tup (pa_cons pe_int (pa_cons pe_int pa_nil))) (pa_cons pe_bl pa_nil))) (pa_cons (pe_tup (pa_cons (pe_tup (pa_cons pe_int (pa_cons pe_int pa_nil))) (pa_cons (pe_cmpR op_ne (pv 1) pe_int (nomark _)) pa_nil))) pa_nil))))), ?_⟩
  try dsimp only [cxOf]
  refine ob_body h (fun i ds hl hp e hn hz => ?_)
  obtain ⟨t, rfl⟩ := hp
  show wS _ _ ⟨[some ((.ob C_Manner [] [])), some (.d (.int t))], _⟩ _
  repeat' walk_at "ux"
  exact hz _ _ (by show PyData.tuple [_, .tuple [_, .bool (!decide (t = 1))]] = coneB .fl t; rw [show (!decide (t = 1)) = decide (t ≠ 1) by simp]; rfl)
abbrev s_Nears_begins : Stmt := clsFnN 3 (topS 25)
abbrev N_Nears_begins : List Str := ["self"]
theorem sc_Nears_begins : FnScope N_Nears_begins ["self"] (defScope s_Nears_begins) := ⟨rfl, rfl, rfl, by decide +kernel, rfl, by decide +kernel, by decide +kernel⟩
theorem ok_Nears_begins {f : Addr} (d : MFn K "begins" "Nears.begins" s_Nears_begins ["self"] f)  : MCal P w K mg base CX0 1 ["self"] (Ux.sp_begins K begR) f := by
  refine d.ok sc_Nears_begins (obSp_len rfl) (fun cdv A outer s H vs Q E hr hgu h => ?_)
  refine ⟨_, (pss_one (ps_ret (pe_tup (pa_cons (pe_tup (pa_cons (pe_tup (pa_cons pe_int (pa_cons pe_int pa_nil))) (pa_cons pe_bl pa_nil))) (pa_cons (pe_tup (pa_cons (pe_tup (pa_cons pe_int (pa_cons (pe_un un_neg pe_int) pa_nil))) (pa_cons pe_bl pa_nil))) pa_nil))))), ?_⟩
  try dsimp only [cxOf]
  refine ob_body h (fun i ds hl hp e hn hz => ?_)
  obtain rfl := len0 hl
  show wS _ _ ⟨[some ((.ob i [] []))], _⟩ _
  repeat' walk_at "ux"
  exact hz _ _ rfl
abbrev s_Ceils_cone_behind : Stmt := clsFnN 4 (topS 24)
abbrev N_Ceils_cone_behind : List Str := ["self", "last"]
theorem sc_Ceils_cone_behind : FnScope N_Ceils_cone_behind ["self", "last"] (defScope s_Ceils_cone_behind) := ⟨rfl, rfl, rfl, by decide +kernel, rfl, by decide +kernel, by decide +kernel⟩
theorem ok_Ceils_cone_behind {f : Addr} (d : MFn K "cone_behind" "Ceils.cone_behind" s_Ceils_cone_behind ["self", "last"] f) {C_Ceils C_Manner C_Nears : Addr} (v_begins : VTab P w K mg base CX0 1 "begins" [(C_Manner, Ux.sp_begins K begF), (C_Ceils, Ux.sp_begins K begF), (C_Nears, Ux.sp_begins K begR)]) : MCal P w K mg base CX0 2 ["self", "last"] (Ux.sp_cone_behind K C_Ceils .ce) f := by
  refine d.ok sc_Ceils_cone_behind (obSp_len rfl) (fun cdv A outer s H vs Q E hr hgu h => ?_)
  refine ⟨_, (pss_one (ps_ret (pe_methU0 v_begins (hr.mono (by decide)) hgu (pv 0)))), ?_⟩
  try dsimp only [cxOf]
  refine ob_body h (fun i ds hl hp e hn hz => ?_)
  obtain ⟨t, rfl⟩ := hp
  show wS _ _ ⟨[some ((.ob C_Ceils [] [])), some (.d (.int t))], _⟩ _
  repeat' walk_at "ux"
  refine ⟨_, _, _, _, rfl, begins_mem .ce, ?_⟩
  repeat' walk_at "ux"
  refine ⟨[], .nil, ⟨rfl, trivial⟩, rfl, ?_⟩
  exact hz _ _ rfl
abbrev s_Nears_cone_behind : Stmt := clsFnN 4 (topS 25)
abbrev N_Nears_cone_behind : List Str := ["self", "last"]
theorem sc_Nears_cone_behind : FnScope N_Nears_cone_behind ["self", "last"] (defScope s_Nears_cone_behind) := ⟨rfl, rfl, rfl, by decide +kernel, rfl, by decide +kernel, by decide +kernel⟩
theorem ok_Nears_cone_behind {f : Addr} (d : MFn K "cone_behind" "Nears.cone_behind" s_Nears_cone_behind ["self", "last"] f) {C_Ceils C_Manner C_Nears : Addr} (v_begins : VTab P w K mg base CX0 1 "begins" [(C_Manner, Ux.sp_begins K begF), (C_Ceils, Ux.sp_begins K begF), (C_Nears, Ux.sp_begins K begR)]) : MCal P w K mg base CX0 2 ["self", "last"] (Ux.sp_cone_behind K C_Nears .ne) f := by
  refine d.ok sc_Nears_cone_behind (obSp_len rfl) (fun cdv A outer s H vs Q E hr hgu h => ?_)
  refine ⟨_, (pss_cons (ps_if (pt_cmpR op_eq (pv 1) pe_int (nomark _)) (pss_one (ps_ret (pe_tup (pa_cons (pe_tup (pa_cons (pe_tup (pa_cons pe_int (pa_cons pe_int pa_nil))) (pa_cons pe_bl pa_nil))) (pa_cons (pe_tup (pa_cons (pe_tup (pa_cons pe_int (pa_cons pe_int pa_nil))) (pa_cons pe_bl pa_nil))) pa_nil))))) pss_nil)
    (pss_cons (ps_if (pt_cmpR op_eq (pv 1) (pe_un un_neg pe_int) (nomark _)) (pss_one (ps_ret (pe_tup (pa_cons (pe_tup (pa_cons (pe_tup (pa_cons pe_int (pa_cons pe_int pa_nil))) (pa_cons pe_bl pa_nil))) (pa_cons (pe_tup (pa_cons (pe_tup (pa_cons pe_int (pa_cons (pe_un un_neg pe_int) pa_nil))) (pa_cons pe_bl pa_nil))) pa_nil))))) pss_nil)
    (pss_one (ps_ret (pe_methU0 v_begins (hr.mono (by decide)) hgu (pv 0)))))), ?_⟩
  try dsimp only [cxOf]
  refine ob_body h (fun i ds hl hp e hn hz => ?_)
  obtain ⟨t, rfl⟩ := hp
  show wS _ _ ⟨[some ((.ob C_Nears [] [])), some (.d (.int t))], _⟩ _
  repeat' walk_at "ux"
  refine ite2 (fun c => ?_) (fun c => ?_)
  · have c : t = 2 := of_decide_eq_true c
    subst c
    repeat' walk_at "ux"
    exact hz _ _ rfl
  · have c : ¬ t = 2 := of_decide_eq_false (Bool.eq_false_iff.mpr c)
    repeat' walk_at "ux"
    refine ite2 (fun c1 => ?_) (fun c1 => ?_)
    · have c1 : t = -2 := of_decide_eq_true c1
      subst c1
      repeat' walk_at "ux"
      exact hz _ _ rfl
    · have c1 : ¬ t = -2 := of_decide_eq_false (Bool.eq_false_iff.mpr c1)
      repeat' walk_at "ux"
      refine ⟨_, _, _, _, rfl, begins_mem .ne, ?_⟩
      repeat' walk_at "ux"
      refine ⟨[], .nil, ⟨rfl, trivial⟩, rfl, ?_⟩
      exact hz _ _ (by show begR = coneB .ne t; unfold coneB; dsimp only; rw [if_neg c, if_neg c1])
abbrev s_manner_of : Stmt := topS 26
abbrev N_manner_of : List Str := ["word"]
theorem sc_manner_of : FnScope N_manner_of ["word"] (defScope s_manner_of) := ⟨rfl, rfl, rfl, by decide +kernel, rfl, by decide +kernel, by decide +kernel⟩
theorem ok_manner_of (d : Df K mg "manner_of" s_manner_of ["word"]) {C_Ceils C_Manner C_Nears C_NoManner : Addr} (x_NoManner : Xc P w K mg base "NoManner" C_NoManner) (g_Ceils : mg "Ceils" = some (.ref C_Ceils)) (g_Manner : mg "Manner" = some (.ref C_Manner)) (g_Nears : mg "Nears" = some (.ref C_Nears)) (c_is_manner : Cal P w K mg base 1 "is_manner" ["thing"] (sp_is_manner K)) (n_Ceils : Mk0 K C_Ceils) (n_Manner : Mk0 K C_Manner) (n_Nears : Mk0 K C_Nears) {t_CEIL : Tok} (m_CEIL : mg "CEIL" = some (.str "ceil" t_CEIL)) {t_NEAR : Tok} (m_NEAR : mg "NEAR" = some (.str "near" t_NEAR)) : CalX P w K mg base 3 "manner_of" ["word"] (Ux.sp_manner_of K C_NoManner C_Manner C_Ceils C_Nears) := by
  refine okX d sc_manner_of (xSp_len rfl) (fun f cdv A outer s H vs Q E hr hgu h => ?_)
  refine ⟨_, (pss_cons (ps_if (pt_not (pt_val (pe_calR c_is_manner (hr.mono (by decide)) hgu (by rfl) (pa_cons (pv 0) pa_nil)))) (pss_one (ps_raiseF rfl x_NoManner (hr.mono (by decide)) (takes_of rfl rfl rfl rfl) (pa_cons (pv 0) pa_nil) (by rfl))) pss_nil)
    (pss_cons (ps_if (pt_cmpR op_eq (pv 0) (pe_glob (v := .str "ceil") (by rfl) m_CEIL ⟨_, rfl⟩) (nomark _)) (pss_one (ps_ret (pe_mk0 n_Ceils (by rfl) g_Ceils))) pss_nil)
    (pss_cons (ps_if (pt_cmpR op_eq (pv 0) (pe_glob (v := .str "near") (by rfl) m_NEAR ⟨_, rfl⟩) (nomark _)) (pss_one (ps_ret (pe_mk0 n_Nears (by rfl) g_Nears))) pss_nil)
    (pss_one (ps_ret (pe_mk0 n_Manner (by rfl) g_Manner)))))), ?_⟩
  try dsimp only [cxOf]
  refine x_body h (fun mm zs ds hl hres hp e hnx hrt => ?_)
  obtain ⟨z, d, rfl, rfl, rs⟩ := resA1 hres hl
  show wS _ _ ⟨[some (z)], _⟩ _
  repeat' walk_at "ux"
  refine ⟨[d], .cons rs .nil, ⟨rfl, trivial⟩, rfl, ?_⟩
  repeat' walk_at "ux"
  cases hm : mnOf d with
  | none =>
    rw [show (mnOf (a0 [d])) = none from hm]
    repeat' walk_at "ux"
    refine wS_raise rfl x_NoManner.oc x_NoManner.no ?_
    repeat' walk_at "ux"
    all_goals (first | exact ⟨_, rfl, hm, rfl⟩ | exact ⟨hm, rfl⟩ | exact hm | rfl)
  | some k =>
    rw [show (mnOf (a0 [d])) = some k from hm]
    obtain rfl := mnOf_inv hm
    obtain rfl := rs.str
    have fin : ∀ y, e.rt (.ob (MnC C_Manner C_Ceils C_Nears k) [] []) y := fun y => hrt _ _ ⟨k, hm, rfl⟩
    cases k <;> (repeat' walk_at "ux") <;> exact fin _
abbrev s_all_manners : Stmt := topS 27
abbrev N_all_manners : List Str := ["word"]
theorem sc_all_manners : FnScope N_all_manners [] (defScope s_all_manners) := ⟨rfl, rfl, rfl, by decide +kernel, rfl, by decide +kernel, by decide +kernel⟩
theorem ok_all_manners (d : Df K mg "all_manners" s_all_manners []) {C_Ceils C_Manner C_Nears C_NoManner : Addr} (c_manner_of : CalX P w K mg base 3 "manner_of" ["word"] (Ux.sp_manner_of K C_NoManner C_Manner C_Ceils C_Nears)) {a_MANNERS : Addr} (m_MANNERS : Tq.GD K mg "MANNERS" a_MANNERS (PyData.tuple [(.str "floor"), (.str "ceil"), (.str "near")])) : Cal P w K mg base 4 "all_manners" [] (Ux.sp_all_manners K C_Manner C_Ceils C_Nears) := by
  refine d.ok sc_all_manners (xSp_len rfl) (fun f cdv A outer s H vs Q E hr hgu h => ?_)
  refine ⟨_, (pss_one (ps_ret (pe_lc (own := [("word", 0)]) (g := gName 0) rfl sc_all_manners.nd (piT K (pe_glob (v := .ref a_MANNERS) (by rfl) m_MANNERS.m rfl)) (blkOk_by (own := [("word", 0)]) (N := N_all_manners) (sc := defScope s_all_manners) (by decide +kernel)) (fun _ _ _ _ _ => (pg_name (i := 0) sc_all_manners.nd rfl (Or.inl rfl))) (fun _ _ _ _ _ => pts_nil) (fun _ _ _ _ _ => (pe_calX c_manner_of (hr.mono (by decide)) hgu (by rfl) takes0 (pa_cons (pv 0) pa_nil)))))), ?_⟩
  try dsimp only [cxOf]
  refine x_body h (fun mm zs ds hl hres hp e hnx hrt => ?_)
  obtain rfl : zs = [] := List.eq_nil_of_length_eq_zero hl
  show wS _ _ ⟨[none], mm⟩ _
  refine wS_ret (wE_lcMap (y' := ⟨[none], mm⟩) [.ob C_Manner [] [], .ob C_Ceils [] [], .ob C_Nears [] []] (wIZ_tupD (wE_gd m_MANNERS.r ⟨_, rfl, rfl, by decide, rfl, fun i x r hx hr => ?_, hrt _ _ rfl⟩)))
  obtain ⟨k, rfl, rfl⟩ : ∃ k : Mn, x = .d (.str k.word) ∧ r = .ob (MnC C_Manner C_Ceils C_Nears k) [] [] := by
    rcases i with _ | _ | _ | i
    · cases hx; cases hr; exact ⟨.fl, rfl, rfl⟩
    · cases hx; cases hr; exact ⟨.ce, rfl, rfl⟩
    · cases hx; cases hr; exact ⟨.ne, rfl, rfl⟩
    · cases hx
  dsimp only [S.set, List.set]
  refine wT_yes ⟨rfl, ?_⟩
  refine wE_xQ ?_
  repeat' walk_at "ux"
  refine ⟨[.str k.word], .cons (.d _) .nil, ⟨rfl, trivial⟩, fun z hz => ?_, fun ex hx => ?_⟩
  · obtain ⟨k', hk', rfl⟩ := hz
    have hk' : mnOf (.str k.word) = some k' := hk'
    obtain rfl := Option.some.inj ((mnOf_word k).symm.trans hk')
    exact ⟨rfl, rfl⟩
  · have hx : mnOf (.str k.word) = none := hx.1
    rw [mnOf_word] at hx; cases hx
abbrev s_all_cones : Stmt := topS 33
abbrev N_all_cones : List Str := ["found", "kind", "last"]
theorem sc_all_cones : FnScope N_all_cones [] (defScope s_all_cones) := ⟨rfl, rfl, rfl, by decide +kernel, rfl, by decide +kernel, by decide +kernel⟩
theorem ok_all_cones (d : Df K mg "all_cones" s_all_cones []) {C_Ceils C_Manner C_Nears : Addr} (c_all_manners : Cal P w K mg base 4 "all_manners" [] (Ux.sp_all_manners K C_Manner C_Ceils C_Nears)) (v_begins : VTab P w K mg base CX0 1 "begins" [(C_Manner, Ux.sp_begins K begF), (C_Ceils, Ux.sp_begins K begF), (C_Nears, Ux.sp_begins K begR)]) (v_cone_behind : VTab P w K mg base CX0 2 "cone_behind" [(C_Manner, Ux.sp_cone_behind K C_Manner .fl), (C_Ceils, Ux.sp_cone_behind K C_Ceils .ce), (C_Nears, Ux.sp_cone_behind K C_Nears .ne)]) {a_LASTS : Addr} (m_LASTS : Tq.GD K mg "LASTS" a_LASTS (PyData.tuple [(.int 1), (.int 2), (.int (-2)), (.int 3)])) : Cal P w K mg base 5 "all_cones" [] (Ux.sp_all_cones K) := by
  refine d.ok sc_all_cones (pureSp_len rfl) (fun f cdv A outer s H vs Q E hr hgu h => ?_)
  refine ⟨_, (pss_cons (ps_set (i := 0) sc_all_cones.nd rfl (Or.inl rfl) (pe_lstL pa_nil))
    (pss_cons (ps_for PassesOwn.never rfl (piA K (pe_cal0 c_all_manners (hr.mono (by decide)) hgu (by rfl))) (pg_name (i := 1) sc_all_cones.nd rfl (Or.inr rfl)) (pss_cons (ps_expr (pe_bm PySem.F.plainAttrs_list PySem.F.slot_list_append PySem.F.type_list_append mt_append (pv 0) (pa_cons (pe_methU0 v_begins (hr.mono (by decide)) hgu (pv 1)) pa_nil)))
    (pss_one (ps_expr (pe_bm PySem.F.plainAttrs_list PySem.F.slot_list_extend PySem.F.type_list_extend (extK K) (pv 0) (pa_cons (pe_lc (own := [("last", 2)]) (g := gName 2) rfl sc_all_cones.nd (piT K (pe_glob (v := .ref a_LASTS) (by rfl) m_LASTS.m rfl)) (blkOk_by (own := [("last", 2)]) (N := N_all_cones) (sc := defScope s_all_cones) (by decide +kernel)) (fun _ _ _ _ _ => (pg_name (i := 2) sc_all_cones.nd rfl (Or.inl rfl))) (fun _ _ _ _ _ => pts_nil) (fun _ _ _ _ _ => (zMC (pe_methU v_cone_behind (hr.mono (by decide)) hgu (pv 1) (pa_cons (pv 2) pa_nil))))) pa_nil))))))
    (pss_one (ps_ret (pv 0))))), ?_⟩
  try dsimp only [cxOf]
  refine pure_body h (fun ds hl hp e hn hz => ?_)
  obtain rfl : ds = [] := List.eq_nil_of_length_eq_zero hl
  show wS _ _ ⟨[none, none, none], []⟩ _
  repeat' walk_at "ux"
  rename_i p
  refine wS_forZ (wIZ_anyL ?_)
  repeat' walk_at "ux"
  refine ⟨[], .nil, ⟨rfl, trivial⟩, ?_⟩
  rintro _ rfl
  refine ⟨_, rfl, fun i y => ∃ zk, y = ⟨[some (.lab p), zk, none], [⟨p, true, .lst ((fstC i).map Z.d)⟩]⟩, ⟨_, rfl⟩, ?_, ?_⟩
  rotate_left
  · rintro y ⟨zk, rfl⟩
    show wS _ _ _ _
    refine wS_frzA 0 (A := []) (B := []) rfl rfl ?_
    repeat' walk_at "ux"
    exact hz _ _ rfl
  · rintro i x _ hx ⟨zk, rfl⟩
    obtain ⟨k, rfl, hk, hi⟩ : ∃ k : Mn, x = .ob (MnC C_Manner C_Ceils C_Nears k) [] [] ∧ fstC (i + 1) = fstC i ++ (begD k :: [1, 2, -2, 3].map (coneB k)) ∧ i < 3 := by
      rcases i with _ | _ | _ | i
      · cases hx; exact ⟨.fl, rfl, rfl, by decide⟩
      · cases hx; exact ⟨.ce, rfl, rfl, by decide⟩
      · cases hx; exact ⟨.ne, rfl, rfl, by decide⟩
      · cases hx
    have hln : (fstC i).length ≤ 20 := by
      rcases i with _ | _ | _ | i <;> first | decide | omega
    dsimp only
    rw [hk]
    generalize fstC i = A at *
    repeat' walk_at "ux"
    refine ⟨_, _, _, _, rfl, begins_mem k, ?_⟩
    repeat' walk_at "ux"
    refine ⟨[], .nil, ⟨rfl, trivial⟩, by cases k <;> rfl, ?_⟩
    repeat' walk_at "ux"
    show wS _ _ _ _
    refine wS_ext (j := 0) rfl rfl ?_
    refine wE_lcMap (y' := ⟨[some (.lab p), some (.ob (MnC C_Manner C_Ceils C_Nears k) [] []), none], [⟨p, true, .lst (A.map Z.d ++ [.d (begD k)])⟩]⟩) (([1, 2, -2, 3].map (coneB k)).map Z.d) (wIZ_tupD (wE_gd m_LASTS.r ⟨_, rfl, rfl, by decide, rfl, fun i x r hx hr => ?_, ?_⟩))
    · rw [List.getElem?_map] at hx
      obtain ⟨d, hd, rfl⟩ := Option.map_eq_some_iff.mp hx
      obtain ⟨t, rfl, rfl⟩ : ∃ t : Int, d = .int t ∧ r = .d (coneB k t) := by
        rcases i with _ | _ | _ | _ | i
        · cases hd; cases hr; exact ⟨1, rfl, rfl⟩
        · cases hd; cases hr; exact ⟨2, rfl, rfl⟩
        · cases hd; cases hr; exact ⟨-2, rfl, rfl⟩
        · cases hd; cases hr; exact ⟨3, rfl, rfl⟩
        · cases hd
      dsimp only [S.set, List.set]
      refine wT_yes ⟨rfl, ?_⟩
      repeat' walk_at "ux"
      refine ⟨_, _, _, _, rfl, behind_mem k, ?_⟩
      repeat' walk_at "ux"
      refine ⟨[.int t], .cons (.r (.d _)) .nil, ⟨rfl, _, rfl⟩, ?_, rfl, rfl⟩
      show scT (coneB k t) = true
      cases k
      · rfl
      · rfl
      · unfold coneB; dsimp only; split; rfl; split <;> rfl
    · refine ⟨_, _, rfl, rfl, ?_, ⟨some (.ob (MnC C_Manner C_Ceils C_Nears k) [] []), ?_⟩⟩
      · exact sz_small (by rw [List.length_append, List.length_map, List.length_map, List.length_map]; show A.length + 1 + 4 ≤ _; omega)
      · rw [List.map_append]
        simp only [S.set, List.set, List.map_cons, List.append_assoc, List.singleton_append]
abbrev s_is_cone : Stmt := topS 34
abbrev N_is_cone : List Str := ["thing", "one"]
theorem sc_is_cone : FnScope N_is_cone ["thing"] (defScope s_is_cone) := ⟨rfl, rfl, rfl, by decide +kernel, rfl, by decide +kernel, by decide +kernel⟩
theorem ok_is_cone (d : Df K mg "is_cone" s_is_cone ["thing"]) (c_all_cones : Cal P w K mg base 5 "all_cones" [] (Ux.sp_all_cones K)) (b_repr : mg "repr" = none) : Cal P w K mg base 6 "is_cone" ["thing"] (Ux.sp_is_cone K) := by
  refine d.ok sc_is_cone (pureSp_len rfl) (fun f cdv A outer s H vs Q E hr hgu h => ?_)
  refine ⟨_, (pss_one (ps_ret (pe_cmpR (inK K) (pe_callB (reprK K hgu hr.units) (by rfl) b_repr (by decide +kernel) (pa_cons (pv 0) pa_nil)) (pe_lc (own := [("one", 1)]) (g := gName 1) rfl sc_is_cone.nd (piA K (pe_cal0 c_all_cones (hr.mono (by decide)) hgu (by rfl))) (blkOk_by (own := [("one", 1)]) (N := N_is_cone) (sc := defScope s_is_cone) (by decide +kernel)) (fun _ _ _ _ _ => (pg_name (i := 1) sc_is_cone.nd rfl (Or.inl rfl))) (fun _ _ _ _ _ => pts_nil) (fun _ _ _ _ _ => (pe_callB (reprK K hgu hr.units) (by rfl) b_repr (by decide +kernel) (pa_cons (pv 1) pa_nil)))) (by rfl)))), ?_⟩
  try dsimp only [cxOf]
  refine pure_body h (fun ds hl hp e hn hz => ?_)
  obtain ⟨d, rfl⟩ := len1 hl
  have hp : ShOk d := hp
  show wS _ _ ⟨[some (.d d), none], _⟩ _
  refine wS_ret (wE_in ?_)
  repeat' walk_at "ux"
  refine wE_lcF (y' := ⟨[some (.d d), none], []⟩) (fun _ => true) (fun d => .str d.shown) (wI_anyL ?_)
  repeat' walk_at "ux"
  refine ⟨fun x hx => ?_, ?_⟩
  · have hs := allC_sh x hx
    dsimp only [S.set, List.set]
    refine wT_yes ⟨rfl, rfl, fun _ => ?_⟩
    repeat' walk_at "ux"
    all_goals rfl
  · refine ⟨_, _, rfl, .inr rfl, rfl, ?_, hz _ _ ?_⟩
    · rw [List.all_map]; exact List.all_eq_true.mpr fun _ _ => rfl
    · rw [filter_tt]; rfl
abbrev s_Manner_fits : Stmt := clsFnN 2 (topS 23)
abbrev N_Manner_fits : List Str := ["self", "ahead", "term"]
theorem sc_Manner_fits : FnScope N_Manner_fits ["self", "ahead", "term"] (defScope s_Manner_fits) := ⟨rfl, rfl, rfl, by decide +kernel, rfl, by decide +kernel, by decide +kernel⟩
theorem ok_Manner_fits {f : Addr} (d : MFn K "fits" "Manner.fits" s_Manner_fits ["self", "ahead", "term"] f)  : MCal P w K mg base CX0 1 ["self", "ahead", "term"] (Ux.sp_fits K .fl) f := by
  refine d.ok sc_Manner_fits (obSp_len rfl) (fun cdv A outer s H vs Q E hr hgu h => ?_)
  refine ⟨_, (pss_one (ps_ret (pe_cmpR op_ge (pv 2) pe_int (nomark _)))), ?_⟩
  try dsimp only [cxOf]
  refine ob_body h (fun i ds hl hp e hn hz => ?_)
  obtain ⟨a, t, rfl⟩ := hp
  have ez : ∀ (b : Bool) y, b = fitsB .fl a t → e.rt (.d (.bool b)) y := fun b y hb => hz _ _ (by show PyData.bool b = .bool (fitsB .fl (oI (aD a)) t); rw [oI_aD, hb])
  show wS _ _ ⟨[some ((.ob i [] [])), some (.d (aD a)), some (.d (.int t))], _⟩ _
  repeat' walk_at "ux"
  exact ez _ _ rfl
abbrev s_Ceils_fits : Stmt := clsFnN 2 (topS 24)
abbrev N_Ceils_fits : List Str := ["self", "ahead", "term"]
theorem sc_Ceils_fits : FnScope N_Ceils_fits ["self", "ahead", "term"] (defScope s_Ceils_fits) := ⟨rfl, rfl, rfl, by decide +kernel, rfl, by decide +kernel, by decide +kernel⟩
theorem ok_Ceils_fits {f : Addr} (d : MFn K "fits" "Ceils.fits" s_Ceils_fits ["self", "ahead", "term"] f)  : MCal P w K mg base CX0 1 ["self", "ahead", "term"] (Ux.sp_fits K .ce) f := by
  refine d.ok sc_Ceils_fits (obSp_len rfl) (fun cdv A outer s H vs Q E hr hgu h => ?_)
  refine ⟨_, (pss_one (ps_ret (pe_cmpR op_ge (pv 2) pe_int (nomark _)))), ?_⟩
  try dsimp only [cxOf]
  refine ob_body h (fun i ds hl hp e hn hz => ?_)
  obtain ⟨a, t, rfl⟩ := hp
  have ez : ∀ (b : Bool) y, b = fitsB .ce a t → e.rt (.d (.bool b)) y := fun b y hb => hz _ _ (by show PyData.bool b = .bool (fitsB .ce (oI (aD a)) t); rw [oI_aD, hb])
  show wS _ _ ⟨[some ((.ob i [] [])), some (.d (aD a)), some (.d (.int t))], _⟩ _
  repeat' walk_at "ux"
  exact ez _ _ rfl
abbrev s_Nears_fits : Stmt := clsFnN 1 (topS 25)
abbrev N_Nears_fits : List Str := ["self", "ahead", "term"]
theorem sc_Nears_fits : FnScope N_Nears_fits ["self", "ahead", "term"] (defScope s_Nears_fits) := ⟨rfl, rfl, rfl, by decide +kernel, rfl, by decide +kernel, by decide +kernel⟩
theorem ok_Nears_fits {f : Addr} (d : MFn K "fits" "Nears.fits" s_Nears_fits ["self", "ahead", "term"] f)  : MCal P w K mg base CX0 1 ["self", "ahead", "term"] (Ux.sp_fits K .ne) f := by
  refine d.ok sc_Nears_fits (obSp_len rfl) (fun cdv A outer s H vs Q E hr hgu h => ?_)
  refine ⟨_, (pss_cons (ps_if (pt_chain op_lt op_lt (pe_un un_neg pe_int) (pv 2) pe_int) (pss_one (ps_ret pe_bl)) pss_nil)
    (pss_cons (ps_if (pt_cmpR (eqK K hr.units) (pv 1) pe_int (nomark _)) (pss_one (ps_ret (pe_cmpR op_gt (pv 2) pe_int (nomark _)))) pss_nil)
    (pss_one (ps_ret (pe_or (pe_cmpR (neK K hr.units) (pv 1) (pe_un un_neg pe_int) (nomark _)) (pe_one (pe_cmpR op_lt (pv 2) pe_int (nomark _)))))))), ?_⟩
  try dsimp only [cxOf]
  refine ob_body h (fun i ds hl hp e hn hz => ?_)
  obtain ⟨a, t, rfl⟩ := hp
  have ez : ∀ (b : Bool) y, b = fitsB .ne a t → e.rt (.d (.bool b)) y := fun b y hb => hz _ _ (by show PyData.bool b = .bool (fitsB .ne (oI (aD a)) t); rw [oI_aD, hb])
  show wS _ _ ⟨[some ((.ob i [] [])), some (.d (aD a)), some (.d (.int t))], _⟩ _
  repeat' walk_at "ux"

  refine ite2 (fun c => ?_) (fun c => ?_)
  · have c := of_decide_eq_true c
    repeat' walk_at "ux"
    refine ite2 (fun c1 => ?_) (fun c1 => ?_)
    · have c1 := of_decide_eq_true c1
      repeat' walk_at "ux"
      exact ez _ _ (by unfold fitsB; dsimp only; rw [if_pos ⟨c, c1⟩])
    · have c1 := of_decide_eq_false (Bool.eq_false_iff.mpr c1)
      have nn : ¬ (-2 < t ∧ t < 2) := fun z => c1 z.2
      repeat' walk_at "ux"
      refine ⟨sh_aD a, rfl, ?_⟩
      repeat' walk_at "ux"
      cases a with
      | none =>
        refine itb_f rfl ?_
        repeat' walk_at "ux"
        exact ez true _ (by unfold fitsB; dsimp only; rw [if_neg nn, if_neg (by decide)]; rfl)
      | some u =>
        by_cases h2 : u = 2
        · refine itb_t ((eqv_int u 2).trans (decide_eq_true h2)) ?_
          repeat' walk_at "ux"
          exact ez _ _ (by unfold fitsB; dsimp only; rw [if_neg nn, if_pos (by rw [h2])])
        · refine itb_f ((eqv_int u 2).trans (decide_eq_false h2)) ?_
          repeat' walk_at "ux"
          have e2 : fitsB .ne (some u) t = (decide (u ≠ -2) || decide (t < 0)) := by
            unfold fitsB; dsimp only
            rw [if_neg nn, if_neg (fun z => h2 (Option.some.inj z))]
            congr 1
            exact decide_eq_decide.mpr (by simp)
          by_cases h3 : u = -2
          · refine itb_f (by show (!PyData.eqv (.int u) (.int (-2))) = false; rw [eqv_int, decide_eq_true h3]; rfl) ?_
            repeat' walk_at "ux"
            exact ez _ _ (by rw [e2, decide_eq_false (show ¬ u ≠ -2 from fun z => z h3)]; rfl)
          · refine itb_t (by show (!PyData.eqv (.int u) (.int (-2))) = true; rw [eqv_int, decide_eq_false h3]; rfl) ?_
            exact ez _ _ (by rw [e2, decide_eq_true (show u ≠ -2 from h3)]; rfl)

  · have c := of_decide_eq_false (Bool.eq_false_iff.mpr c)
    have nn : ¬ (-2 < t ∧ t < 2) := fun z => c z.1
    repeat' walk_at "ux"
    refine ⟨sh_aD a, rfl, ?_⟩
    repeat' walk_at "ux"
    cases a with
    | none =>
      refine itb_f rfl ?_
      repeat' walk_at "ux"
      exact ez true _ (by unfold fitsB; dsimp only; rw [if_neg nn, if_neg (by decide)]; rfl)
    | some u =>
      by_cases h2 : u = 2
      · refine itb_t ((eqv_int u 2).trans (decide_eq_true h2)) ?_
        repeat' walk_at "ux"
        exact ez _ _ (by unfold fitsB; dsimp only; rw [if_neg nn, if_pos (by rw [h2])])
      · refine itb_f ((eqv_int u 2).trans (decide_eq_false h2)) ?_
        repeat' walk_at "ux"
        have e2 : fitsB .ne (some u) t = (decide (u ≠ -2) || decide (t < 0)) := by
          unfold fitsB; dsimp only
          rw [if_neg nn, if_neg (fun z => h2 (Option.some.inj z))]
          congr 1
          exact decide_eq_decide.mpr (by simp)
        by_cases h3 : u = -2
        · refine itb_f (by show (!PyData.eqv (.int u) (.int (-2))) = false; rw [eqv_int, decide_eq_true h3]; rfl) ?_
          repeat' walk_at "ux"
          exact ez _ _ (by rw [e2, decide_eq_false (show ¬ u ≠ -2 from fun z => z h3)]; rfl)
        · refine itb_t (by show (!PyData.eqv (.int u) (.int (-2))) = true; rw [eqv_int, decide_eq_false h3]; rfl) ?_
          exact ez _ _ (by rw [e2, decide_eq_true (show u ≠ -2 from h3)]; rfl)
abbrev s_is_beginning : Stmt := topS 28
abbrev N_is_beginning : List Str := ["manner", "thing", "at", "term"]
theorem sc_is_beginning : FnScope N_is_beginning ["manner", "thing"] (defScope s_is_beginning) := ⟨rfl, rfl, rfl, by decide +kernel, rfl, by decide +kernel, by decide +kernel⟩
theorem ok_is_beginning (d : Df K mg "is_beginning" s_is_beginning ["manner", "thing"]) {C_Ceils C_Manner C_Nears : Addr} (c_is_number : Cal P w K mg base 1 "is_number" ["thing"] (sp_is_number K)) (v_fits : VTab P w K mg base CX0 1 "fits" [(C_Manner, Ux.sp_fits K .fl), (C_Ceils, Ux.sp_fits K .ce), (C_Nears, Ux.sp_fits K .ne)]) (b_all : mg "all" = none) (b_isinstance : mg "isinstance" = none) (b_len : mg "len" = none) (b_list : mg "list" = none) (b_range : mg "range" = none) (b_tuple : mg "tuple" = none) : Cal P w K mg base 2 "is_beginning" ["manner", "thing"] (Ux.sp_is_beginning K C_Manner C_Ceils C_Nears) := by
  refine d.ok sc_is_beginning (obSp_len rfl) (fun f cdv A outer s H vs Q E hr hgu h => ?_)
  refine ⟨_, (pss_cons (ps_if (PW.pt (pw_or (pt_not (pt_val (pe_callB (isiTK K) (by rfl) b_isinstance (by decide +kernel) (pa_cons (pv 1) (pa_cons (pe_tup (pa_cons (pe_bltn (v := .ty "list") (by rfl) b_list (by decide +kernel) rfl) (pa_cons (pe_bltn (v := .ty "tuple") (by rfl) b_tuple (by decide +kernel) rfl) pa_nil))) pa_nil))))) (pw_or1 (pt_not (pt_val (pe_callB (allK K rfl) (by rfl) b_all (by decide +kernel) (pa_cons (pe_lc (own := [("term", 3)]) (g := gName 3) rfl sc_is_beginning.nd (piA K (pv 1)) (blkOk_by (own := [("term", 3)]) (N := N_is_beginning) (sc := defScope s_is_beginning) (by decide +kernel)) (fun _ _ _ _ _ => (pg_name (i := 3) sc_is_beginning.nd rfl (Or.inl rfl))) (fun _ _ _ _ _ => pts_nil) (fun _ _ _ _ _ => (pe_cal c_is_number (hr.mono (by decide)) hgu (by rfl) (pa_cons (pv 3) pa_nil)))) pa_nil))))))) (pss_one (ps_ret pe_bl)) pss_nil)
    (pss_cons (ps_for PassesOwn.never rfl (pi_range2 (by rfl) b_range (pa_cons pe_int (pa_cons (pe_callB (lenK K) (by rfl) b_len (by decide +kernel) (pa_cons (pv 1) pa_nil)) pa_nil))) (pg_name (i := 2) sc_is_beginning.nd rfl (Or.inl rfl)) (pss_one (ps_if (pt_not (pt_val (pe_methU v_fits (hr.mono (by decide)) hgu (pv 0) (pa_cons (pe_ifExp (pt_cmpR op_eq (pv 2) pe_int (nomark _)) pe_non (pe_ix (ixK K) (pv 1) (pe_op op_sub (pv 2) pe_int) (fun _ _ => rfl))) (pa_cons (pe_ix (ixK K) (pv 1) (pv 2) (fun _ _ => rfl)) pa_nil))))) (pss_one (ps_ret pe_bl)) pss_nil)))
    (pss_one (ps_ret pe_bl)))), ?_⟩
  try dsimp only [cxOf]
  refine ob_body h (fun i ds hl hp e hn hz => ?_)
  obtain ⟨d, rfl⟩ := len1 hl
  have hp : BgOk d := hp
  have fin : ∀ (b : Bool) y, b = bgD i d → e.rt (.d (.bool b)) y := fun b y hb => hz _ _ (by rw [hb]; rfl)
  show wS _ _ ⟨[some ((.ob (MnC C_Manner C_Ceils C_Nears i) [] [])), some (.d d), none, none], _⟩ _
  repeat' walk_at "ux"
  rw [items_isT]
  cases d with
  | list xs =>
    have hxl : xs.length ≤ 1100 := hp xs rfl
    repeat' walk_at "ux"
    refine wE_lcF (y' := ⟨[some (.ob (MnC C_Manner C_Ceils C_Nears i) [] []), some (.d (.list xs)), none, none], []⟩) (fun _ => true) (fun d => .bool (isNum d)) ?_
    repeat' walk_at "ux"
    refine ⟨sz_small (by omega), fun x hx => ?_, ?_⟩
    · repeat' walk_at "ux"
      intro _
      repeat' (first | walk_at "ux" | exact ⟨rfl, rfl⟩ | rfl)
    · refine ⟨_, rfl, wD_nil ⟨xs.map isNum, by rw [filter_tt, List.map_map]; rfl, ?_⟩⟩
      rw [List.all_map]
      repeat' walk_at "ux"
      cases hn : xs.all (id ∘ isNum) with
      | false =>
        repeat' walk_at "ux"
        refine fin _ _ ?_
        unfold bgD
        rw [intsD_no (d := .list xs) rfl hn]
      | true =>
        obtain ⟨ts, rfl, hts⟩ := seqD_intsD (d := .list xs) rfl (show xs.all isNum = true from hn)
        have hbl := bgL_iff (k := i) (ts := ts)
        rw [bgD_of hts] at fin
        have hdl := dLen_int hts
        have hix : ∀ j : Nat, j < ts.length → dIx (.list (ts.map PyData.int)) (j : Int) = some (.int (ts.getD j 0)) := fun j hj => dIx_ints hts hj
        rw [List.length_map] at hxl
        generalize PyData.list (ts.map PyData.int) = d at *
        repeat' walk_at "ux"
        refine wS_seq (wS_for ?_)
        repeat' walk_at "ux"
        refine ⟨_, _, rfl, hdl, ?_⟩
        repeat' walk_at "ux"
        refine forJ (fun j y => (∀ a, 1 ≤ a → a < j + 1 → fitAt i ts a = true) ∧ y = ⟨[some (.ob (MnC C_Manner C_Ceils C_Nears i) [] []), some (.d d), none, none], []⟩) ⟨_, ⟨fun a h1 h2 => by omega, rfl⟩, by walk_at "lessu"⟩ (fun j x y' hx ⟨hf, ey⟩ => ?_) (fun y2 y' ⟨hf, ey⟩ hl => ?_)
        · subst ey
          obtain ⟨hj, rfl⟩ := rangeD_get hx
          have hj : j + 1 < ts.length := by omega
          have ej : (1 : Int) + (j : Nat) = ((j + 1 : Nat) : Int) := by omega
          rw [ej]
          have hx1 := hix (j + 1) hj
          have hx0 : dIx d (((j + 1 : Nat) : Int) - 1) = some (.int (ts.getD j 0)) := by
            rw [show ((j + 1 : Nat) : Int) - 1 = (j : Int) by omega]
            exact hix j (by omega)
          have fin2 : ∀ (a : Option Int), a = aheadI ts (j + 1) → fitsB i a (ts.getD (j + 1) 0) = fitAt i ts (j + 1) := fun a h => by rw [h]; rfl
          repeat' walk_at "ux"
          refine ⟨_, _, _, _, rfl, fits_mem i, wZ_cons ?_⟩
          repeat' walk_at "ux"
          refine ite2 (fun c => ?_) (fun c => ?_)
          · have c : j = 0 := by have := of_decide_eq_true c; omega
            repeat' walk_at "ux"
            refine ⟨_, _, _, rfl, rfl, hx1, ?_⟩
            repeat' walk_at "ux"
            refine ⟨[aD none, .int (ts.getD (j + 1) 0)], .cons (.r (.d _)) (.cons (.r (.d _)) .nil), ⟨rfl, _, _, rfl⟩, rfl, ?_⟩
            have ef := fin2 none (by unfold aheadI; rw [if_pos (by omega)])
            show ∃ b, Z.d (.bool (fitsB i none (ts.getD (j + 1) 0))) = _ ∧ _
            rw [ef]
            cases hb : fitAt i ts (j + 1) with
            | false =>
              repeat' walk_at "ux"
              exact fin _ _ (Eq.symm (Bool.eq_false_iff.mpr fun h => by have := hbl.mp h (j + 1) (by omega) hj; rw [hb] at this; cases this))
            | true =>
              repeat' walk_at "ux"
              exact ⟨_, ⟨fun a h1 h2 => by
                by_cases q : a = j + 1
                · rw [q]; exact hb
                · exact hf a h1 (by omega), rfl⟩, by walk_at "lessu"⟩
          · have c : ¬ j = 0 := by have := of_decide_eq_false (Bool.eq_false_iff.mpr c); omega
            repeat' walk_at "ux"
            refine ⟨_, _, _, rfl, rfl, hx0, ?_⟩
            repeat' walk_at "ux"
            refine ⟨_, _, _, rfl, rfl, hx1, ?_⟩
            repeat' walk_at "ux"
            refine ⟨[aD (some (ts.getD j 0)), .int (ts.getD (j + 1) 0)], .cons (.r (.d _)) (.cons (.r (.d _)) .nil), ⟨rfl, _, _, rfl⟩, rfl, ?_⟩
            have ef := fin2 (some (ts.getD j 0)) (by unfold aheadI; rw [if_neg (by omega)]; rfl)
            show ∃ b, Z.d (.bool (fitsB i (some (ts.getD j 0)) (ts.getD (j + 1) 0))) = _ ∧ _
            rw [ef]
            cases hb : fitAt i ts (j + 1) with
            | false =>
              repeat' walk_at "ux"
              exact fin _ _ (Eq.symm (Bool.eq_false_iff.mpr fun h => by have := hbl.mp h (j + 1) (by omega) hj; rw [hb] at this; cases this))
            | true =>
              repeat' walk_at "ux"
              exact ⟨_, ⟨fun a h1 h2 => by
                by_cases q : a = j + 1
                · rw [q]; exact hb
                · exact hf a h1 (by omega), rfl⟩, by walk_at "lessu"⟩
        · subst ey
          refine wS_next ?_
          show wS _ (tRet _) _ _
          refine wS_weak ?_ hl
          refine wS_ret (wE_bl (fin _ _ (Eq.symm (hbl.mpr fun a h1 h2 => hf a h1 (by rw [rangeD_len]; omega)))))
  | tuple xs =>
    have hxl : xs.length ≤ 1100 := hp xs rfl
    repeat' walk_at "ux"
    refine wE_lcF (y' := ⟨[some (.ob (MnC C_Manner C_Ceils C_Nears i) [] []), some (.d (.tuple xs)), none, none], []⟩) (fun _ => true) (fun d => .bool (isNum d)) ?_
    repeat' walk_at "ux"
    refine ⟨sz_small (by omega), fun x hx => ?_, ?_⟩
    · repeat' walk_at "ux"
      intro _
      repeat' (first | walk_at "ux" | exact ⟨rfl, rfl⟩ | rfl)
    · refine ⟨_, rfl, wD_nil ⟨xs.map isNum, by rw [filter_tt, List.map_map]; rfl, ?_⟩⟩
      rw [List.all_map]
      repeat' walk_at "ux"
      cases hn : xs.all (id ∘ isNum) with
      | false =>
        repeat' walk_at "ux"
        refine fin _ _ ?_
        unfold bgD
        rw [intsD_no (d := .tuple xs) rfl hn]
      | true =>
        obtain ⟨ts, rfl, hts⟩ := seqD_intsD (d := .tuple xs) rfl (show xs.all isNum = true from hn)
        have hbl := bgL_iff (k := i) (ts := ts)
        rw [bgD_of hts] at fin
        have hdl := dLen_int hts
        have hix : ∀ j : Nat, j < ts.length → dIx (.tuple (ts.map PyData.int)) (j : Int) = some (.int (ts.getD j 0)) := fun j hj => dIx_ints hts hj
        rw [List.length_map] at hxl
        generalize PyData.tuple (ts.map PyData.int) = d at *
        repeat' walk_at "ux"
        refine wS_seq (wS_for ?_)
        repeat' walk_at "ux"
        refine ⟨_, _, rfl, hdl, ?_⟩
        repeat' walk_at "ux"
        refine forJ (fun j y => (∀ a, 1 ≤ a → a < j + 1 → fitAt i ts a = true) ∧ y = ⟨[some (.ob (MnC C_Manner C_Ceils C_Nears i) [] []), some (.d d), none, none], []⟩) ⟨_, ⟨fun a h1 h2 => by omega, rfl⟩, by walk_at "lessu"⟩ (fun j x y' hx ⟨hf, ey⟩ => ?_) (fun y2 y' ⟨hf, ey⟩ hl => ?_)
        · subst ey
          obtain ⟨hj, rfl⟩ := rangeD_get hx
          have hj : j + 1 < ts.length := by omega
          have ej : (1 : Int) + (j : Nat) = ((j + 1 : Nat) : Int) := by omega
          rw [ej]
          have hx1 := hix (j + 1) hj
          have hx0 : dIx d (((j + 1 : Nat) : Int) - 1) = some (.int (ts.getD j 0)) := by
            rw [show ((j + 1 : Nat) : Int) - 1 = (j : Int) by omega]
            exact hix j (by omega)
          have fin2 : ∀ (a : Option Int), a = aheadI ts (j + 1) → fitsB i a (ts.getD (j + 1) 0) = fitAt i ts (j + 1) := fun a h => by rw [h]; rfl
          repeat' walk_at "ux"
          refine ⟨_, _, _, _, rfl, fits_mem i, wZ_cons ?_⟩
          repeat' walk_at "ux"
          refine ite2 (fun c => ?_) (fun c => ?_)
          · have c : j = 0 := by have := of_decide_eq_true c; omega
            repeat' walk_at "ux"
            refine ⟨_, _, _, rfl, rfl, hx1, ?_⟩
            repeat' walk_at "ux"
            refine ⟨[aD none, .int (ts.getD (j + 1) 0)], .cons (.r (.d _)) (.cons (.r (.d _)) .nil), ⟨rfl, _, _, rfl⟩, rfl, ?_⟩
            have ef := fin2 none (by unfold aheadI; rw [if_pos (by omega)])
            show ∃ b, Z.d (.bool (fitsB i none (ts.getD (j + 1) 0))) = _ ∧ _
            rw [ef]
            cases hb : fitAt i ts (j + 1) with
            | false =>
              repeat' walk_at "ux"
              exact fin _ _ (Eq.symm (Bool.eq_false_iff.mpr fun h => by have := hbl.mp h (j + 1) (by omega) hj; rw [hb] at this; cases this))
            | true =>
              repeat' walk_at "ux"
              exact ⟨_, ⟨fun a h1 h2 => by
                by_cases q : a = j + 1
                · rw [q]; exact hb
                · exact hf a h1 (by omega), rfl⟩, by walk_at "lessu"⟩
          · have c : ¬ j = 0 := by have := of_decide_eq_false (Bool.eq_false_iff.mpr c); omega
            repeat' walk_at "ux"
            refine ⟨_, _, _, rfl, rfl, hx0, ?_⟩
            repeat' walk_at "ux"
            refine ⟨_, _, _, rfl, rfl, hx1, ?_⟩
            repeat' walk_at "ux"
            refine ⟨[aD (some (ts.getD j 0)), .int (ts.getD (j + 1) 0)], .cons (.r (.d _)) (.cons (.r (.d _)) .nil), ⟨rfl, _, _, rfl⟩, rfl, ?_⟩
            have ef := fin2 (some (ts.getD j 0)) (by unfold aheadI; rw [if_neg (by omega)]; rfl)
            show ∃ b, Z.d (.bool (fitsB i (some (ts.getD j 0)) (ts.getD (j + 1) 0))) = _ ∧ _
            rw [ef]
            cases hb : fitAt i ts (j + 1) with
            | false =>
              repeat' walk_at "ux"
              exact fin _ _ (Eq.symm (Bool.eq_false_iff.mpr fun h => by have := hbl.mp h (j + 1) (by omega) hj; rw [hb] at this; cases this))
            | true =>
              repeat' walk_at "ux"
              exact ⟨_, ⟨fun a h1 h2 => by
                by_cases q : a = j + 1
                · rw [q]; exact hb
                · exact hf a h1 (by omega), rfl⟩, by walk_at "lessu"⟩
        · subst ey
          refine wS_next ?_
          show wS _ (tRet _) _ _
          refine wS_weak ?_ hl
          refine wS_ret (wE_bl (fin _ _ (Eq.symm (hbl.mpr fun a h1 h2 => hf a h1 (by rw [rangeD_len]; omega)))))
  | _ =>
    repeat' walk_at "ux"
    exact fin _ _ rfl
abbrev s_need_beginning : Stmt := topS 29
abbrev N_need_beginning : List Str := ["manner", "thing"]
theorem sc_need_beginning : FnScope N_need_beginning ["manner", "thing"] (defScope s_need_beginning) := ⟨rfl, rfl, rfl, by decide +kernel, rfl, by decide +kernel, by decide +kernel⟩
theorem ok_need_beginning (d : Df K mg "need_beginning" s_need_beginning ["manner", "thing"]) {C_Ceils C_Manner C_Nears C_NoRow : Addr} (x_NoRow : Xc P w K mg base "NoRow" C_NoRow) (c_is_beginning : Cal P w K mg base 2 "is_beginning" ["manner", "thing"] (Ux.sp_is_beginning K C_Manner C_Ceils C_Nears)) : CalX P w K mg base 3 "need_beginning" ["manner", "thing"] (Ux.sp_need_beginning K C_NoRow C_Manner C_Ceils C_Nears) := by
  refine okX d sc_need_beginning (bxSp_len rfl) (fun f cdv A outer s H vs Q E hr hgu h => ?_)
  refine ⟨_, (pss_one (ps_if (pt_not (pt_val (pe_cal c_is_beginning (hr.mono (by decide)) hgu (by rfl) (pa_cons (pv 0) (pa_cons (pv 1) pa_nil))))) (pss_one (ps_raiseF rfl x_NoRow (hr.mono (by decide)) (takes_of rfl rfl rfl rfl) (pa_cons (pv 1) pa_nil) (by rfl))) pss_nil)), ?_⟩
  try dsimp only [cxOf]
  refine bx_body h (fun i mm zs ds hl hres hp e hnx hrt => ?_)
  obtain ⟨z, z', d, d', rfl, rfl, rs, rs'⟩ := resOA2 hres hl
  obtain ⟨hz, hno, hb⟩ := hp
  obtain rfl : z = .ob (MnC C_Manner C_Ceils C_Nears i) [] [] := hz
  have hb : BgOk d' := hb
  have rs' : Res mm z' d' := rs'.res hno
  show wS _ _ ⟨[some ((.ob (MnC C_Manner C_Ceils C_Nears i) [] [])), some (z')], mm⟩ _
  repeat' walk_at "ux"
  refine ⟨i, _, [d'], rfl, .cons (.r rs') .nil, ⟨rfl, hb⟩, rfl, ?_⟩
  repeat' walk_at "ux"
  cases hf : bgD i d' with
  | true =>
    rw [show bgD i (a0 [d']) = true from hf]
    repeat' walk_at "ux"
    exact hnx _ ⟨hf, rfl⟩
  | false =>
    rw [show bgD i (a0 [d']) = false from hf]
    repeat' walk_at "ux"
    refine wS_raise rfl x_NoRow.oc x_NoRow.no ?_
    repeat' walk_at "ux"
    all_goals (first | exact ⟨_, rfl, hf, rfl⟩ | exact ⟨hf, rfl⟩ | exact hf | rfl)
abbrev s_cone : Stmt := topS 32
abbrev N_cone : List Str := ["terms", "manner", "kind"]
theorem sc_cone : FnScope N_cone ["terms", "manner"] (defScope s_cone) := ⟨rfl, rfl, rfl, by decide +kernel, rfl, by decide +kernel, by decide +kernel⟩
theorem ok_cone (d : DfD K mg "cone" s_cone ["terms", "manner"] (.str "floor")) {C_Ceils C_Manner C_Nears C_NoManner C_NoRow : Addr} (x_NoRow : Xc P w K mg base "NoRow" C_NoRow) (c_manner_of : CalX P w K mg base 3 "manner_of" ["word"] (Ux.sp_manner_of K C_NoManner C_Manner C_Ceils C_Nears)) (c_need_beginning : CalX P w K mg base 3 "need_beginning" ["manner", "thing"] (Ux.sp_need_beginning K C_NoRow C_Manner C_Ceils C_Nears)) (v_begins : VTab P w K mg base CX0 1 "begins" [(C_Manner, Ux.sp_begins K begF), (C_Ceils, Ux.sp_begins K begF), (C_Nears, Ux.sp_begins K begR)]) (v_cone_behind : VTab P w K mg base CX0 2 "cone_behind" [(C_Manner, Ux.sp_cone_behind K C_Manner .fl), (C_Ceils, Ux.sp_cone_behind K C_Ceils .ce), (C_Nears, Ux.sp_cone_behind K C_Nears .ne)]) (b_len : mg "len" = none) : CalD P w K mg base 4 "cone" ["terms", "manner"] (Ux.sp_cone K C_NoManner C_NoRow C_Manner C_Ceils C_Nears) (.str "floor") := by
  refine okD d sc_cone (xSp_len rfl) (fun f cdv A outer s H vs Q E hr hgu h => ?_)
  refine ⟨_, (pss_cons (ps_set (i := 2) sc_cone.nd rfl (Or.inl rfl) (pe_calX c_manner_of (hr.mono (by decide)) hgu (by rfl) (takes_of rfl rfl rfl rfl) (pa_cons (pv 1) pa_nil)))
    (pss_cons (ps_expr (pe_calX c_need_beginning (hr.mono (by decide)) hgu (by rfl) (takes_of rfl rfl rfl rfl) (pa_cons (pv 2) (pa_cons (pv 0) pa_nil))))
    (pss_cons (ps_if (pt_cmpR op_eq (pe_callB (lenK K) (by rfl) b_len (by decide +kernel) (pa_cons (pv 0) pa_nil)) pe_int (nomark _)) (pss_one (ps_raiseF rfl x_NoRow (hr.mono (by decide)) (takes_of rfl rfl rfl rfl) (pa_cons (pv 0) pa_nil) (by rfl))) pss_nil)
    (pss_one (ps_ret (pe_ifExp (pt_cmpR op_eq (pe_callB (lenK K) (by rfl) b_len (by decide +kernel) (pa_cons (pv 0) pa_nil)) pe_int (nomark _)) (pe_methU0 v_begins (hr.mono (by decide)) hgu (pv 2)) (zMC (pe_methU v_cone_behind (hr.mono (by decide)) hgu (pv 2) (pa_cons (pe_ix (ixK K) (pv 0) (pe_un un_neg pe_int) (fun _ _ => rfl)) pa_nil))))))))), ?_⟩
  try dsimp only [cxOf]
  refine x_body h (fun mm zs ds hl hres hp e hnx hrt => ?_)
  obtain ⟨z1, z2, d1, d2, rfl, rfl, rs1, rs2⟩ := resA2 hres hl
  obtain ⟨hbg, hpl⟩ := hp
  show wS _ _ ⟨[some (z1), some (z2), none], mm⟩ _
  repeat' walk_at "ux"
  refine ⟨[d2], .cons rs2 .nil, ⟨rfl, trivial⟩, fun r hr => ?_, fun ex hx => .inl hx⟩
  obtain ⟨k, hk, rfl⟩ := hr
  have hk : mnOf d2 = some k := hk
  repeat' walk_at "ux"
  refine ⟨k, [.none, d1], .cons (.ob _) (.cons (.r rs1) .nil), ⟨rfl, rfl, rs1.noOb, hbg⟩, fun r hr => ?_, fun ex hx => .inr ⟨k, hk, .inl hx.1, hx.2⟩⟩
  obtain ⟨hb, rfl⟩ := hr
  have hb : bgD k d1 = true := hb
  obtain ⟨ts, hts, hbl⟩ := bgD_some hb
  obtain rfl : z1 = .d d1 := hpl k hk hb
  have hdl := dLen_int hts
  repeat' walk_at "ux"
  refine ⟨_, _, rfl, hdl, ?_⟩
  repeat' walk_at "ux"
  refine ite2 (fun c => ?_) (fun c => ?_)
  · have c : ts = [] := List.eq_nil_of_length_eq_zero (by have := of_decide_eq_true c; omega)
    subst c
    repeat' walk_at "ux"
    refine wS_raise rfl x_NoRow.oc x_NoRow.no ?_
    repeat' walk_at "ux"
    all_goals (first | exact .inr ⟨k, hk, .inr hts, rfl⟩ | rfl)
  · have c : ts ≠ [] := fun z => by subst z; exact absurd rfl c
    have fin : ∀ d y, d = coneL k ts → e.rt (.d d) y := fun d y h => hrt _ _ ⟨k, ts, hk, hts, hbl, c, by rw [h]⟩
    have hix : dIx d1 (-1) = some (.int (ts.getLastD 0)) := dIx_last hts c
    repeat' walk_at "ux"
    refine ⟨_, _, rfl, hdl, ?_⟩
    repeat' walk_at "ux"
    refine ite2 (fun c1 => ?_) (fun c1 => ?_)
    · have c1 : ts.length = 1 := by have := of_decide_eq_true c1; omega
      repeat' walk_at "ux"
      refine ⟨_, _, _, _, rfl, begins_mem k, ?_⟩
      repeat' walk_at "ux"
      refine ⟨[], .nil, ⟨rfl, trivial⟩, by cases k <;> rfl, ?_⟩
      exact fin _ _ (by unfold coneL; rw [if_pos c1])
    · have c1 : ¬ ts.length = 1 := by have := of_decide_eq_false (Bool.eq_false_iff.mpr c1); omega
      repeat' walk_at "ux"
      refine ⟨_, _, _, _, rfl, behind_mem k, ?_⟩
      repeat' walk_at "ux"
      refine ⟨_, _, _, rfl, rfl, hix, ?_⟩
      repeat' walk_at "ux"
      refine ⟨[.int (ts.getLastD 0)], .cons (.r (.d _)) .nil, ⟨rfl, _, rfl⟩, ?_, ?_⟩
      · show scT (coneB k (ts.getLastD 0)) = true
        cases k
        · rfl
        · rfl
        · unfold coneB; dsimp only; split; rfl; split <;> rfl
      · exact fin _ _ (by unfold coneL; rw [if_neg c1]; rfl)
abbrev s_law_cones : Stmt := topS 51
abbrev N_law_cones : List Str := ["_law_found", "_law_manner", "_law_terms"]
theorem sc_law_cones : FnScope N_law_cones [] (defScope s_law_cones) := ⟨rfl, rfl, rfl, by decide +kernel, rfl, by decide +kernel, by decide +kernel⟩
theorem ok_law_cones (d : Df K mg "_law_cones" s_law_cones []) {C_Ceils C_Manner C_Nears C_NoManner C_NoRow : Addr} (c_cone : CalD P w K mg base 4 "cone" ["terms", "manner"] (Ux.sp_cone K C_NoManner C_NoRow C_Manner C_Ceils C_Nears) (.str "floor")) : Cal P w K mg base 5 "_law_cones" [] (Ux.sp_law_cones K) := by
  refine d.ok sc_law_cones (pureSp_len rfl) (fun f cdv A outer s H vs Q E hr hgu h => ?_)
  refine ⟨_, (pss_cons (ps_set (i := 0) sc_law_cones.nd rfl (Or.inl rfl) (pe_lstL pa_nil))
    (pss_cons (ps_for PassesOwn.never rfl (piL K (pe_lst (pa_cons pe_str (pa_cons pe_str (pa_cons pe_str pa_nil))))) (pg_name (i := 1) sc_law_cones.nd rfl (Or.inl rfl)) (pss_one (ps_for PassesOwn.never rfl (piL K (pe_lst (pa_cons (pe_lst (pa_cons pe_int pa_nil)) (pa_cons (pe_lst (pa_cons pe_int (pa_cons pe_int pa_nil))) (pa_cons (pe_lst (pa_cons pe_int (pa_cons pe_int pa_nil))) pa_nil))))) (pg_name (i := 2) sc_law_cones.nd rfl (Or.inl rfl)) (pss_one (ps_expr (pe_bm PySem.F.plainAttrs_list PySem.F.slot_list_append PySem.F.type_list_append mt_append (pv 0) (pa_cons (pe_calX c_cone.toX (hr.mono (by decide)) hgu (by rfl) takes0 (pa_cons (pv 2) (pa_cons (pv 1) pa_nil))) pa_nil)))))))
    (pss_one (ps_ret (pe_op (catK K) (pv 0) (pe_lst (pa_cons (pe_calX c_cone.toX (hr.mono (by decide)) hgu (by rfl) takes0 (pa_cons (pe_lst (pa_cons pe_int (pa_cons pe_int pa_nil))) (pa_cons pe_str pa_nil))) (pa_cons (pe_calX c_cone.toX (hr.mono (by decide)) hgu (by rfl) takes0 (pa_cons (pe_lst (pa_cons pe_int (pa_cons (pe_un un_neg pe_int) pa_nil))) (pa_cons pe_str pa_nil))) pa_nil)))))))), ?_⟩
  try dsimp only [cxOf]
  refine pure_body h (fun ds hl hp e hn hz => ?_)
  obtain rfl : ds = [] := List.eq_nil_of_length_eq_zero hl
  show wS _ _ ⟨[none, none, none], []⟩ _
  repeat' walk_at "ux"
  rename_i p
  refine wS_for ?_
  repeat' walk_at "ux"
  refine forJ (fun i y => y = ⟨[some (.lab p), none, none], [⟨p, true, .lst ((lawD.take (3 * i)).map Z.d)⟩]⟩) ⟨_, rfl, by walk_at "lessu"⟩ (fun i x y' hx ey => ?_) (fun y2 y' ey hl => ?_)
  · subst ey
    have hi : i < 3 := by have := (List.getElem?_eq_some_iff.mp hx).1; simpa using this
    obtain ⟨k, rfl, hk⟩ : ∃ k : Mn, x = .str k.word ∧ ((i = 0 ∧ k = .fl) ∨ (i = 1 ∧ k = .ce) ∨ (i = 2 ∧ k = .ne)) := by
      match i, hi with
      | 0, _ => cases hx; exact ⟨.fl, rfl, .inl ⟨rfl, rfl⟩⟩
      | 1, _ => cases hx; exact ⟨.ce, rfl, .inr (.inl ⟨rfl, rfl⟩)⟩
      | 2, _ => cases hx; exact ⟨.ne, rfl, .inr (.inr ⟨rfl, rfl⟩)⟩
    have hat := lawD_at hk
    clear hk hx
    have hlen : lawD.length = 11 := rfl
    generalize lawD = LD at *
    repeat' walk_at "ux"
    refine wS_for ?_
    repeat' walk_at "ux"
    refine forJ (fun j y => y = ⟨[some (.lab p), some (.d (.str k.word)), none], [⟨p, true, .lst ((LD.take (3 * i + j)).map Z.d)⟩]⟩) ⟨_, rfl, by walk_at "lessu"⟩ (fun j x y' hx ey => ?_) (fun y2 y' ey hl => ?_)
    · subst ey
      have hj : j < 3 := by have := (List.getElem?_eq_some_iff.mp hx).1; simpa using this
      obtain ⟨rfl, hn0, hb0, hl0⟩ : x = .list ((tsI j).map PyData.int) ∧ tsI j ≠ [] ∧ bgL k (tsI j) = true ∧ (tsI j).length ≤ 10 := by
        match j, hj with
        | 0, _ => cases hx; exact ⟨rfl, by decide, by cases k <;> decide +kernel, by decide⟩
        | 1, _ => cases hx; exact ⟨rfl, by decide, by cases k <;> decide +kernel, by decide⟩
        | 2, _ => cases hx; exact ⟨rfl, by decide, by cases k <;> decide +kernel, by decide⟩
      have hc := hat j hj
      clear hx
      repeat' walk_at "ux"
      refine wS_app (j := 0) rfl rfl ?_
      repeat' walk_at "ux"
      refine ⟨[.list ((tsI j).map PyData.int), .str k.word], .cons (.d _) (.cons (.d _) .nil), ⟨rfl, cone_pre hl0⟩, fun z hz' => ?_, fun ex hx => (cone_no hn0 hb0 hx).elim⟩
      obtain rfl := cone_is hz'
      refine ⟨_, rfl, sz_lt1 (by rw [List.length_map, List.length_take]; omega), ?_⟩
      refine ⟨_, rfl, ?_⟩
      rw [show 3 * i + (j + 1) = 3 * i + j + 1 by omega, List.take_add_one, hc, List.map_append]
      refine less_mk' ?_ (List.Sublist.refl _)
      repeat' (first | exact less_nil | refine less_none ?_ | refine less_some ?_)
    · subst ey
      refine ⟨_, rfl, ?_⟩
      refine Less.trans ?_ hl
      refine less_mk' ?_ (by rw [show 3 * (i + 1) = 3 * i + 3 by omega]; exact List.Sublist.refl _)
      repeat' (first | exact less_nil | refine less_none ?_ | refine less_some ?_)
  · subst ey
    refine wS_weak ?_ hl
    refine wS_frzA 0 (A := []) (B := []) rfl rfl ?_
    show wS _ _ ⟨[some (.d (.list (lawD.take 9))), none, none], []⟩ _
    have hfin : lawD.take 9 ++ [coneL .fl [5, 1], coneL .ne [5, -2]] = lawD := rfl
    have hl9 : (lawD.take 9).length = 9 := rfl
    generalize lawD.take 9 = L9 at *
    repeat' walk_at "ux"
    refine ⟨[.list ([5, 1].map PyData.int), .str (Mn.word .fl)], .cons (.d _) (.cons (.d _) .nil), ⟨rfl, cone_pre (by decide)⟩, fun z hz' => ?_, fun ex hx => (cone_no (ts := [5, 1]) (k := .fl) (by decide) (by decide +kernel) hx).elim⟩
    obtain rfl := cone_is hz'
    repeat' walk_at "ux"
    refine ⟨[.list ([5, -2].map PyData.int), .str (Mn.word .ne)], .cons (.d _) (.cons (.d _) .nil), ⟨rfl, cone_pre (by decide)⟩, fun z hz' => ?_, fun ex hx => (cone_no (ts := [5, -2]) (k := .ne) (by decide) (by decide +kernel) hx).elim⟩
    obtain rfl := cone_is hz'
    repeat' walk_at "ux"
    exact hz _ _ (by rw [hfin])
abbrev s_law_rows : Stmt := topS 52
abbrev N_law_rows : List Str := ["_law_purse_here", "_law_sides", "_law_wide", "_law_a", "_law_b", "_law_c", "_law_d", "_law_u", "_law_u_in", "_law_v", "_law_v_in", "_law_way", "_law_top", "_law_bottom", "_law_k"]
theorem sc_law_rows : FnScope N_law_rows ["_law_purse_here", "_law_sides"] (defScope s_law_rows) := ⟨rfl, rfl, rfl, by decide +kernel, rfl, by decide +kernel, by decide +kernel⟩
theorem ok_law_rows (d : Df K mg "_law_rows" s_law_rows ["_law_purse_here", "_law_sides"]) (c_law_take : Cal P w K mg base 1 "_law_take" ["_law_purse_here", "_law_many"] (sp_law_take K)) (b_range : mg "range" = none) : Cal P w K mg base 2 "_law_rows" ["_law_purse_here", "_law_sides"] (Ux.sp_law_rows K) := by
  refine d.ok sc_law_rows (puSp_len rfl) (fun f cdv A outer s H vs Q E hr hgu h => ?_)
  refine ⟨_, (pss_cons (ps_set (i := 2) sc_law_rows.nd rfl (Or.inr rfl) (pe_ix (ixK K) (pe_lst (pa_cons pe_int (pa_cons pe_int (pa_cons pe_int (pa_cons (pe_op op_pow pe_int pe_int) pa_nil))))) (pe_cal c_law_take (hr.mono (by decide)) hgu (by rfl) (pa_cons (pv 0) (pa_cons pe_int pa_nil))) (fun _ _ => rfl)))
    (pss_cons (ps_asg (pe_lc (own := [("_law_k", 14)]) (g := gName 14) rfl sc_law_rows.nd (pi_range1 (by rfl) b_range (pa_cons pe_int pa_nil)) (blkOk_by (own := [("_law_k", 14)]) (N := N_law_rows) (sc := defScope s_law_rows) (by decide +kernel)) (fun _ _ _ _ _ => (pg_name (i := 14) sc_law_rows.nd rfl (Or.inl rfl))) (fun _ _ _ _ _ => pts_nil) (fun _ _ _ _ _ => (pe_op op_sub (pe_cal c_law_take (hr.mono (by decide)) hgu (by rfl) (pa_cons (pv 0) (pa_cons (pe_op op_add (pe_op op_mulW pe_int (pv 2)) pe_int) pa_nil))) (pv 2)))) (pgL K rfl (pgs_cons (pg_name (i := 3) sc_law_rows.nd rfl (Or.inl rfl)) (pgs_cons (pg_name (i := 4) sc_law_rows.nd rfl (Or.inl rfl)) (pgs_cons (pg_name (i := 5) sc_law_rows.nd rfl (Or.inl rfl)) (pgs_cons (pg_name (i := 6) sc_law_rows.nd rfl (Or.inl rfl)) pgs_nil))))))
    (pss_cons (ps_asg (pv 1) (pgT K rfl (pgs_cons (pgT K rfl (pgs_cons (pg_name (i := 7) sc_law_rows.nd rfl (Or.inl rfl)) (pgs_cons (pg_name (i := 8) sc_law_rows.nd rfl (Or.inl rfl)) pgs_nil))) (pgs_cons (pgT K rfl (pgs_cons (pg_name (i := 9) sc_law_rows.nd rfl (Or.inl rfl)) (pgs_cons (pg_name (i := 10) sc_law_rows.nd rfl (Or.inl rfl)) pgs_nil))) pgs_nil))))
    (pss_cons (ps_set (i := 11) sc_law_rows.nd rfl (Or.inl rfl) (pe_cal c_law_take (hr.mono (by decide)) hgu (by rfl) (pa_cons (pv 0) (pa_cons pe_int pa_nil))))
    (pss_cons (ps_if (pt_cmpR op_lt (pv 11) pe_int (nomark _)) (pss_cons (ps_asg (pe_ix (ixK K) (pe_lst (pa_cons (pv 7) (pa_cons (pv 9) pa_nil))) (pv 11) (fun _ _ => rfl)) (pgT K rfl (pgs_cons (pg_name (i := 12) sc_law_rows.nd rfl (Or.inl rfl)) (pgs_cons (pg_name (i := 13) sc_law_rows.nd rfl (Or.inl rfl)) pgs_nil))))
    (pss_one (ps_par (i := 5) (j := 6) (by rfl) sc_law_rows.nd rfl rfl (by decide) rfl rfl (pa_cons (pv 13) (pa_cons (pe_un un_neg (pv 12)) pa_nil)) (by rfl)))) pss_nil)
    (pss_cons (ps_if (pt_cmpR op_eq (pe_op op_mulW (pv 3) (pv 6)) (pe_op op_mulW (pv 4) (pv 5)) (nomark _)) (pss_one (ps_par (i := 3) (j := 4) (by rfl) sc_law_rows.nd rfl rfl (by decide) rfl rfl (pa_cons (pe_op op_add (pe_op op_add (pv 3) (pv 6)) pe_int) (pa_cons (pe_op op_add (pe_op op_sub (pv 4) (pv 5)) pe_int) pa_nil)) (by rfl))) pss_nil)
    (pss_one (ps_ret (pe_ifExp (pt_cmpR op_ne (pe_op op_mulW (pv 3) (pv 6)) (pe_op op_mulW (pv 4) (pv 5)) (nomark _)) (pe_tup (pa_cons (pe_tup (pa_cons (pv 3) (pa_cons (pv 4) pa_nil))) (pa_cons (pe_tup (pa_cons (pv 5) (pa_cons (pv 6) pa_nil))) pa_nil))) (pe_tup (pa_cons (pe_tup (pa_cons pe_int (pa_cons pe_int pa_nil))) (pa_cons (pe_tup (pa_cons pe_int (pa_cons pe_int pa_nil))) pa_nil)))))))))))), ?_⟩
  try dsimp only [cxOf]
  refine pu_body h (fun ds m pp hl hp hc e hn hz => ?_)
  obtain ⟨c, rfl, c1, c2, c3, c4⟩ := hp
  have hc : 6 ≤ m := hc
  show wS _ _ ⟨[some (.lab pp), some (.d (.tuple [.tuple [.tuple [.int c.u0, .int c.u1], .bool c.ui], .tuple [.tuple [.int c.v0, .int c.v1], .bool c.vi]])), none, none, none, none, none, none, none, none, none, none, none, none, none], [⟨pp, false, .pu m⟩]⟩ _
  repeat' walk_at "ux"
  rename_i r r0 r1
  refine ixD_any r0 r1 (fun x hx => ?_)
  obtain ⟨wide, rfl, wd1, wd2⟩ : ∃ wide : Int, x = .int wide ∧ 2 ≤ wide ∧ wide ≤ 10 ^ 12 := by
    simp only [List.mem_cons, List.not_mem_nil, or_false] at hx
    rcases hx with rfl | rfl | rfl | rfl <;> exact ⟨_, rfl, by decide, by decide⟩
  have bw : Bd 13 wide := by unfold Bd; omega
  have b2 : Bd 1 2 := by unfold Bd; omega
  repeat' walk_at "ux"
  refine wE_lc ?_
  repeat' walk_at "ux"
  refine ⟨fun i acc m' => ∃ rs : List Int, acc = rs.map PyData.int ∧ rs.length = i ∧ (∀ t ∈ rs, Bd 13 t) ∧ i ≤ 4 ∧ m' = [⟨pp, false, .pu (m - 1 - i)⟩], ?_, ?_, ?_, ?_, ?_⟩
  · rw [rangeD_len]; exact sz_small (by decide)
  · rintro i acc m' ⟨rs, _, _, _, _, rfl⟩
    rfl
  · exact ⟨[], rfl, rfl, by simp, by omega, rfl⟩
  · rintro i x acc m' hx ⟨rs, rfl, hcl, hc1, hi, rfl⟩
    obtain ⟨hi2, rfl⟩ := rangeD_get hx
    have hi2 : i < 4 := hi2
    repeat' walk_at "ux"
    rename_i u h0 h1
    refine ⟨rs ++ [u - wide], ?_, ?_, ?_, ?_, ?_⟩
    · rw [List.map_append]; rfl
    · rw [List.length_append, hcl]; rfl
    · intro t ht
      rcases List.mem_append.mp ht with z | z
      · exact hc1 t z
      · rw [List.mem_singleton.mp z]; unfold Bd; omega
    · omega
    · simp only [List.set, Nat.sub_sub]
      rfl
  · rintro acc m' ⟨rs, rfl, hcl, hc1, hi, rfl⟩ _
    rw [rangeD_len] at hcl
    obtain ⟨a, b, x, d, rfl⟩ : ∃ a b x d, rs = [a, b, x, d] := by
      match rs, hcl with
      | [a, b, x, d], _ => exact ⟨a, b, x, d, rfl⟩
    have ba := hc1 a (by simp)
    have bb := hc1 b (by simp)
    have bx := hc1 x (by simp)
    have bd := hc1 d (by simp)
    clear hc1 hcl
    have hm : m - 1 - (rangeD 0 (Int.toNat 4)).length = m - 5 := by rw [rangeD_len]; show m - 1 - 4 = _; omega
    rw [hm]
    repeat' walk_at "ux"
    refine wG_lst rfl ?_
    dsimp only [List.map]
    repeat' walk_at "ux"
    rename_i way w0 w1
    refine ite_join (fun y => ∃ x' d' z12 z13, Bd 13 x' ∧ Bd 13 d' ∧ y = ⟨[some (.lab pp), some (.d (.tuple [.tuple [.tuple [.int c.u0, .int c.u1], .bool c.ui], .tuple [.tuple [.int c.v0, .int c.v1], .bool c.vi]])), some (.d (.int wide)), some (.d (.int a)), some (.d (.int b)), some (.d (.int x')), some (.d (.int d')), some (.d (.tuple [.int c.u0, .int c.u1])), some (.d (.bool c.ui)), some (.d (.tuple [.int c.v0, .int c.v1])), some (.d (.bool c.vi)), some (.d (.int way)), z12, z13, none], [⟨pp, false, .pu (m - 5 - 1)⟩]⟩) (fun hw => ?_) (fun hw => ⟨x, d, none, none, bx, bd, rfl⟩) ?_
    · have hw := of_decide_eq_true hw
      repeat' walk_at "ux"
      obtain ⟨t, s, hts, ht, hs⟩ : ∃ t s : Int, dIx (.list [.tuple [.int c.u0, .int c.u1], .tuple [.int c.v0, .int c.v1]]) way = some (.tuple [.int t, .int s]) ∧ Bd 1 t ∧ Bd 1 s := by
        rcases (show way = 0 ∨ way = 1 by omega) with rfl | rfl
        · exact ⟨_, _, rfl, c1, c2⟩
        · exact ⟨_, _, rfl, c3, c4⟩
      refine ⟨_, _, _, rfl, rfl, hts, ?_⟩
      repeat' walk_at "ux"
      exact ⟨s, -t, _, _, hs.mono (by decide), ht.neg.mono (by decide), rfl⟩
    rintro _ ⟨x', d', z12, z13, bx', bd', rfl⟩
    have l1 : Bd 1 1 := Bd.lit (by decide)
    refine seq_join (fun y => ∃ a' b', Bd 20 a' ∧ Bd 20 b' ∧ y = ⟨[some (.lab pp), some (.d (.tuple [.tuple [.tuple [.int c.u0, .int c.u1], .bool c.ui], .tuple [.tuple [.int c.v0, .int c.v1], .bool c.vi]])), some (.d (.int wide)), some (.d (.int a')), some (.d (.int b')), some (.d (.int x')), some (.d (.int d')), some (.d (.tuple [.int c.u0, .int c.u1])), some (.d (.bool c.ui)), some (.d (.tuple [.int c.v0, .int c.v1])), some (.d (.bool c.vi)), some (.d (.int way)), z12, z13, none], [⟨pp, false, .pu (m - 5 - 1)⟩]⟩) ?_ ?_
    · repeat' walk_at "ux"
      refine ite2 (fun hw => ?_) (fun hw => ?_)
      · repeat' walk_at "ux"
        exact ⟨a + d' + 1, b - x' + 1, by unfold Bd at *; omega, by unfold Bd at *; omega, rfl⟩
      · repeat' walk_at "ux"
        exact ⟨a, b, ba.mono (by decide), bb.mono (by decide), rfl⟩
    rintro _ ⟨a', b', ba', bb', rfl⟩
    have hok : MB 20 ⟨a', b', x', d'⟩ := ⟨ba', bb', bx'.mono (by decide), bd'.mono (by decide)⟩
    have fin : ∀ (m' : Mx) (y : S) (j : Nat) (o : Bool), NF m' → (⟨pp, o, .pu j⟩ : Cl) ∈ y.m → m - 6 ≤ j → e.rt (.d (mxD m')) y := fun m' y j o h1 h2 h3 => hz _ _ j o ⟨m', rfl, h1⟩ h2 h3
    repeat' walk_at "ux"
    refine ite2 (fun hw => ?_) (fun hw => ?_)
    · have hw : a' * d' ≠ b' * x' := by
        intro z
        rw [z] at hw
        simp [eqS] at hw
      repeat' walk_at "ux"
      exact fin ⟨a', b', x', d'⟩ _ _ _ ⟨hok, hw⟩ (.head _) (by omega)
    · repeat' walk_at "ux"
      exact fin ⟨1, 0, 0, 1⟩ _ _ _ ⟨⟨Bd.lit (x := 1) (by decide), Bd.lit (x := 0) (by decide), Bd.lit (x := 0) (by decide), Bd.lit (x := 1) (by decide)⟩, by decide⟩ (.head _) (by omega)
abbrev s_need_fraction : Stmt := topS 18
abbrev N_need_fraction : List Str := ["thing"]
theorem sc_need_fraction : FnScope N_need_fraction ["thing"] (defScope s_need_fraction) := ⟨rfl, rfl, rfl, by decide +kernel, rfl, by decide +kernel, by decide +kernel⟩
theorem ok_need_fraction (d : Df K mg "need_fraction" s_need_fraction ["thing"]) {C_NoFraction : Addr} (x_NoFraction : Xc P w K mg base "NoFraction" C_NoFraction) (c_is_fraction : Cal P w K mg base 2 "is_fraction" ["thing"] (sp_is_fraction K)) : CalX P w K mg base 3 "need_fraction" ["thing"] (Ux.sp_need_fraction K C_NoFraction) := by
  refine okX d sc_need_fraction (xSp_len rfl) (fun f cdv A outer s H vs Q E hr hgu h => ?_)
  refine ⟨_, (pss_one (ps_if (pt_not (pt_val (pe_calR c_is_fraction (hr.mono (by decide)) hgu (by rfl) (pa_cons (pv 0) pa_nil)))) (pss_one (ps_raiseF rfl x_NoFraction (hr.mono (by decide)) (takes_of rfl rfl rfl rfl) (pa_cons (pv 0) pa_nil) (by rfl))) pss_nil)), ?_⟩
  try dsimp only [cxOf]
  refine x_body h (fun mm zs ds hl hres hp e hnx hrt => ?_)
  obtain ⟨z, d, rfl, rfl, rs⟩ := resA1 hres hl
  show wS _ _ ⟨[some (z)], _⟩ _
  repeat' walk_at "ux"

  refine ⟨[d], .cons rs .nil, ⟨rfl, trivial⟩, rfl, ?_⟩
  repeat' walk_at "ux"
  cases hf : fracB d with
  | true =>
    rw [show fracB (a0 [d]) = true from hf]
    repeat' walk_at "ux"
    exact hnx _ ⟨hf, rfl⟩
  | false =>
    rw [show fracB (a0 [d]) = false from hf]
    repeat' walk_at "ux"
    refine wS_raise rfl x_NoFraction.oc x_NoFraction.no ?_
    repeat' walk_at "ux"
    all_goals (first | exact ⟨_, rfl, hf, rfl⟩ | exact ⟨hf, rfl⟩ | exact hf | rfl)
abbrev s_sign_of : Stmt := topS 20
abbrev N_sign_of : List Str := ["one", "other", "here", "there"]
theorem sc_sign_of : FnScope N_sign_of ["one", "other"] (defScope s_sign_of) := ⟨rfl, rfl, rfl, by decide +kernel, rfl, by decide +kernel, by decide +kernel⟩
theorem ok_sign_of (d : Df K mg "sign_of" s_sign_of ["one", "other"]) {C_NoFraction : Addr} (c_need_fraction : CalX P w K mg base 3 "need_fraction" ["thing"] (Ux.sp_need_fraction K C_NoFraction)) (b_int : mg "int" = none) : CalX P w K mg base 4 "sign_of" ["one", "other"] (Ux.sp_sign_of K C_NoFraction) := by
  refine okX d sc_sign_of (xSp_len rfl) (fun f cdv A outer s H vs Q E hr hgu h => ?_)
  refine ⟨_, (pss_cons (ps_expr (pe_calX c_need_fraction (hr.mono (by decide)) hgu (by rfl) (takes_of rfl rfl rfl rfl) (pa_cons (pv 0) pa_nil)))
    (pss_cons (ps_expr (pe_calX c_need_fraction (hr.mono (by decide)) hgu (by rfl) (takes_of rfl rfl rfl rfl) (pa_cons (pv 1) pa_nil)))
    (pss_cons (ps_set (i := 2) sc_sign_of.nd rfl (Or.inl rfl) (pe_op op_mulW (pe_ix (ixK K) (pv 0) pe_int (fun _ _ => rfl)) (pe_ix (ixK K) (pv 1) pe_int (fun _ _ => rfl))))
    (pss_cons (ps_set (i := 3) sc_sign_of.nd rfl (Or.inl rfl) (pe_op op_mulW (pe_ix (ixK K) (pv 1) pe_int (fun _ _ => rfl)) (pe_ix (ixK K) (pv 0) pe_int (fun _ _ => rfl))))
    (pss_one (ps_ret (pe_op op_sub (pe_callTy call_int1 (by rfl) b_int (by decide +kernel) (pa_cons (pe_cmpR op_gt (pv 2) (pv 3) (nomark _)) pa_nil)) (pe_callTy call_int1 (by rfl) b_int (by decide +kernel) (pa_cons (pe_cmpR op_lt (pv 2) (pv 3) (nomark _)) pa_nil))))))))), ?_⟩
  try dsimp only [cxOf]
  refine x_body h (fun mm zs ds hl hres hp e hnx hrt => ?_)
  obtain ⟨z, z', d1, d2, rfl, rfl, rs, rs'⟩ := resA2 hres hl
  obtain ⟨fb1, fb2⟩ := hp
  show wS _ _ ⟨[some (z), some (z'), none, none], _⟩ _
  repeat' walk_at "ux"
  refine ⟨[d1], .cons rs .nil, ⟨rfl, trivial⟩, fun r hr => ?_, fun ex hx => .inl hx⟩
  obtain ⟨h1, rfl⟩ := hr
  repeat' walk_at "ux"
  refine ⟨[d2], .cons rs' .nil, ⟨rfl, trivial⟩, fun r hr => ?_, fun ex hx => .inr ⟨h1, hx⟩⟩
  obtain ⟨h2, rfl⟩ := hr
  obtain ⟨a, b, rfl, f1⟩ := fr1_of h1 fb1
  obtain ⟨c, d, rfl, f2⟩ := fr1_of h2 fb2
  obtain rfl := rs.tup
  obtain rfl := rs'.tup
  obtain ⟨hb, hg, ba, bb⟩ := id f1
  obtain ⟨hd, hg', bc, bd⟩ := id f2
  repeat' walk_at "ux"

  refine .inr ⟨_, rfl, ?_⟩
  repeat' walk_at "ux"
  refine .inr ⟨_, rfl, ?_⟩
  repeat' walk_at "ux"
  refine hrt _ _ ⟨a, b, c, d, rfl, f1, f2, ?_⟩
  simp only [decide_eq_true_eq]
  rfl
abbrev s_need_rows : Stmt := topS 37
abbrev N_need_rows : List Str := ["thing"]
theorem sc_need_rows : FnScope N_need_rows ["thing"] (defScope s_need_rows) := ⟨rfl, rfl, rfl, by decide +kernel, rfl, by decide +kernel, by decide +kernel⟩
theorem ok_need_rows (d : Df K mg "need_rows" s_need_rows ["thing"]) {C_NoRows : Addr} (x_NoRows : Xc P w K mg base "NoRows" C_NoRows) (c_is_rows : Cal P w K mg base 2 "is_rows" ["thing"] (sp_is_rows K)) : CalX P w K mg base 3 "need_rows" ["thing"] (Ux.sp_need_rows K C_NoRows) := by
  refine okX d sc_need_rows (xSp_len rfl) (fun f cdv A outer s H vs Q E hr hgu h => ?_)
  refine ⟨_, (pss_one (ps_if (pt_not (pt_val (pe_calR c_is_rows (hr.mono (by decide)) hgu (by rfl) (pa_cons (pv 0) pa_nil)))) (pss_one (ps_raiseF rfl x_NoRows (hr.mono (by decide)) (takes_of rfl rfl rfl rfl) (pa_cons (pv 0) pa_nil) (by rfl))) pss_nil)), ?_⟩
  try dsimp only [cxOf]
  refine x_body h (fun mm zs ds hl hres hp e hnx hrt => ?_)
  obtain ⟨z, d, rfl, rfl, rs⟩ := resA1 hres hl
  show wS _ _ ⟨[some (z)], _⟩ _
  repeat' walk_at "ux"
  refine ⟨[d], .cons rs .nil, ⟨rfl, hp.1⟩, rfl, ?_⟩
  repeat' walk_at "ux"
  cases hf : rowsB d with
  | true =>
    rw [show rowsB (a0 [d]) = true from hf]
    repeat' walk_at "ux"
    exact hnx _ ⟨hf, rfl⟩
  | false =>
    rw [show rowsB (a0 [d]) = false from hf]
    repeat' walk_at "ux"
    refine wS_raise rfl x_NoRows.oc x_NoRows.no ?_
    repeat' walk_at "ux"
    all_goals (first | exact ⟨_, rfl, hf, rfl⟩ | exact ⟨hf, rfl⟩ | exact hf | rfl)
abbrev s_range_of : Stmt := topS 39
abbrev N_range_of : List Str := ["rows", "cone", "u", "u_in", "v", "v_in", "one", "other", "here", "there"]
theorem sc_range_of : FnScope N_range_of ["rows", "cone"] (defScope s_range_of) := ⟨rfl, rfl, rfl, by decide +kernel, rfl, by decide +kernel, by decide +kernel⟩
theorem ok_range_of (d : Df K mg "range_of" s_range_of ["rows", "cone"]) {C_Flat C_NoCone C_NoFraction C_NoRows : Addr} (x_Flat : Xc P w K mg base "Flat" C_Flat) (x_NoCone : Xc P w K mg base "NoCone" C_NoCone) (c_made : Cal P w K mg base 2 "made" ["top", "bottom"] (sp_made K)) (c_sign_of : CalX P w K mg base 4 "sign_of" ["one", "other"] (Ux.sp_sign_of K C_NoFraction)) (c_is_cone : Cal P w K mg base 6 "is_cone" ["thing"] (Ux.sp_is_cone K)) (c_need_rows : CalX P w K mg base 3 "need_rows" ["thing"] (Ux.sp_need_rows K C_NoRows)) (c_applied : Cal P w K mg base 1 "applied" ["rows", "vector"] (sp_applied K)) : CalX P w K mg base 7 "range_of" ["rows", "cone"] (Ux.sp_range_of K C_NoRows C_Flat C_NoCone) := by
  refine okX d sc_range_of (xSp_len rfl) (fun f cdv A outer s H vs Q E hr hgu h => ?_)
  refine ⟨_, (pss_cons (ps_expr (pe_calX c_need_rows (hr.mono (by decide)) hgu (by rfl) (takes_of rfl rfl rfl rfl) (pa_cons (pv 0) pa_nil)))
    (pss_cons (ps_if (pt_cmpR op_eq (pe_op op_mulW (pe_ix (ixK K) (pe_ix (ixK K) (pv 0) pe_int (fun _ _ => rfl)) pe_int (fun _ _ => rfl)) (pe_ix (ixK K) (pe_ix (ixK K) (pv 0) pe_int (fun _ _ => rfl)) pe_int (fun _ _ => rfl))) (pe_op op_mulW (pe_ix (ixK K) (pe_ix (ixK K) (pv 0) pe_int (fun _ _ => rfl)) pe_int (fun _ _ => rfl)) (pe_ix (ixK K) (pe_ix (ixK K) (pv 0) pe_int (fun _ _ => rfl)) pe_int (fun _ _ => rfl))) (nomark _)) (pss_one (ps_raiseF rfl x_Flat (hr.mono (by decide)) (takes_of rfl rfl rfl rfl) (pa_cons (pv 0) pa_nil) (by rfl))) pss_nil)
    (pss_cons (ps_if (pt_not (pt_val (pe_calR c_is_cone (hr.mono (by decide)) hgu (by rfl) (pa_cons (pv 1) pa_nil)))) (pss_one (ps_raiseF rfl x_NoCone (hr.mono (by decide)) (takes_of rfl rfl rfl rfl) (pa_cons (pv 1) pa_nil) (by rfl))) pss_nil)
    (pss_cons (ps_asg (pv 1) (pgT K rfl (pgs_cons (pgT K rfl (pgs_cons (pg_name (i := 2) sc_range_of.nd rfl (Or.inl rfl)) (pgs_cons (pg_name (i := 3) sc_range_of.nd rfl (Or.inl rfl)) pgs_nil))) (pgs_cons (pgT K rfl (pgs_cons (pg_name (i := 4) sc_range_of.nd rfl (Or.inl rfl)) (pgs_cons (pg_name (i := 5) sc_range_of.nd rfl (Or.inl rfl)) pgs_nil))) pgs_nil))))
    (pss_cons (ps_set (i := 6) sc_range_of.nd rfl (Or.inl rfl) (pe_cal c_applied (hr.mono (by decide)) hgu (by rfl) (pa_cons (pv 0) (pa_cons (pv 2) pa_nil))))
    (pss_cons (ps_set (i := 7) sc_range_of.nd rfl (Or.inl rfl) (pe_cal c_applied (hr.mono (by decide)) hgu (by rfl) (pa_cons (pv 0) (pa_cons (pv 4) pa_nil))))
    (pss_cons (ps_if (pt_cmpR op_le (pe_op op_mulW (pe_ix (ixK K) (pv 6) pe_int (fun _ _ => rfl)) (pe_ix (ixK K) (pv 7) pe_int (fun _ _ => rfl))) pe_int (nomark _)) (pss_one (ps_ret pe_non)) pss_nil)
    (pss_cons (ps_set (i := 8) sc_range_of.nd rfl (Or.inl rfl) (pe_cal c_made (hr.mono (by decide)) hgu (by rfl) (pa_cons (pe_ix (ixK K) (pv 6) pe_int (fun _ _ => rfl)) (pa_cons (pe_ix (ixK K) (pv 6) pe_int (fun _ _ => rfl)) pa_nil))))
    (pss_cons (ps_set (i := 9) sc_range_of.nd rfl (Or.inl rfl) (pe_cal c_made (hr.mono (by decide)) hgu (by rfl) (pa_cons (pe_ix (ixK K) (pv 7) pe_int (fun _ _ => rfl)) (pa_cons (pe_ix (ixK K) (pv 7) pe_int (fun _ _ => rfl)) pa_nil))))
    (pss_cons (ps_if (pt_cmpR op_lt (pe_calX c_sign_of (hr.mono (by decide)) hgu (by rfl) (takes_of rfl rfl rfl rfl) (pa_cons (pv 8) (pa_cons (pv 9) pa_nil))) pe_int (nomark _)) (pss_one (ps_ret (pe_tup (pa_cons (pv 8) (pa_cons (pv 3) (pa_cons (pv 9) (pa_cons (pv 5) pa_nil))))))) pss_nil)
    (pss_one (ps_ret (pe_tup (pa_cons (pv 9) (pa_cons (pv 5) (pa_cons (pv 8) (pa_cons (pv 3) pa_nil))))))))))))))))), ?_⟩
  try dsimp only [cxOf]
  refine x_body h (fun mm zs ds hl hres hp e hnx hrt => ?_)
  obtain ⟨z0, z1, d0, d1, rfl, rfl, hrw, hcn⟩ := hp
  obtain ⟨rs0, rs1⟩ := resA2d hres
  show wS _ _ ⟨[some (z0), some (z1), none, none, none, none, none, none, none, none], mm⟩ _
  repeat' walk_at "ux"
  refine ⟨[d0], .cons rs0 .nil, ⟨rfl, hrw⟩, fun r hr => ?_, fun ex hx => .inl hx⟩
  obtain ⟨hr, rfl⟩ := hr
  have hr : rowsB d0 = true := hr
  obtain ⟨m, rfl⟩ := rowsB_mx hr
  obtain rfl := rs0.tup
  obtain ⟨hmb, hcn⟩ := hcn m rfl
  have flat : m.a * m.d = m.b * m.c → rngX C_NoRows C_Flat C_NoCone [.d (mxD m), z1] [mxD m, d1] ⟨.ref C_Flat, .d (mxD m)⟩ := fun h => .inr (.inl ⟨m, rfl, h, rfl⟩)
  have nocone : m.a * m.d ≠ m.b * m.c → conD d1 = false → rngX C_NoRows C_Flat C_NoCone [.d (mxD m), z1] [mxD m, d1] ⟨.ref C_NoCone, z1⟩ := fun h h2 => .inr (.inr ⟨m, rfl, h, h2, rfl⟩)
  have fin : ∀ (c : Cn) (d : D) y, d1 = Cn.d c → m.a * m.d ≠ m.b * m.c → conD d1 = true → rngV m c d → e.rt (.d d) y := fun c d y h1 h2 h3 h4 => hrt _ _ ⟨m, c, d, by rw [h1], h2, by rw [← h1]; exact h3, h4, rfl⟩
  obtain ⟨b1, b2, b3, b4⟩ := id hmb
  repeat' walk_at "ux"
  by_cases hf : m.a * m.d = m.b * m.c
  · refine itb_t (decide_eq_true hf) ?_
    refine wS_raise rfl x_Flat.oc x_Flat.no ?_
    repeat' walk_at "ux"
    exact flat hf
  refine itb_f (decide_eq_false hf) ?_
  obtain ⟨hsh, hcn⟩ := hcn hf
  repeat' walk_at "ux"
  refine ⟨[d1], .cons rs1 .nil, ⟨rfl, hsh⟩, rfl, ?_⟩
  rw [show conD (a0 [d1]) = conD d1 from rfl]
  cases hc : conD d1 with
  | false =>
    repeat' walk_at "ux"
    refine wS_raise rfl x_NoCone.oc x_NoCone.no ?_
    repeat' walk_at "ux"
    all_goals first | exact nocone hf hc | exact rs1.kz
  | true =>
    obtain ⟨c, rfl, rfl, hb⟩ := hcn hc
    obtain ⟨c1, c2, c3, c4⟩ := hb
    have fin : ∀ (d : D) y, rngV m c d → e.rt (.d d) y := fun d y h => fin c d y rfl hf hc h
    unfold Cn.d
    repeat' walk_at "ux"
    refine ⟨⟨m, c.u0, c.u1, rfl, hmb, c1.mono (by decide), c2.mono (by decide)⟩, fun r hr => ?_⟩
    obtain rfl := hr m c.u0 c.u1 rfl
    repeat' walk_at "ux"
    refine ⟨⟨m, c.v0, c.v1, rfl, hmb, c3.mono (by decide), c4.mono (by decide)⟩, fun r hr => ?_⟩
    obtain rfl := hr m c.v0 c.v1 rfl
    obtain ⟨t1b, b1b⟩ := ap_bd hmb (c1.mono (k' := 2) (by decide)) (c2.mono (k' := 2) (by decide))
    obtain ⟨t2b, b2b⟩ := ap_bd hmb (c3.mono (k' := 2) (by decide)) (c4.mono (k' := 2) (by decide))
    unfold rngV at fin
    generalize apT m c.u0 c.u1 = t1 at *
    generalize apB m c.u0 c.u1 = e1 at *
    generalize apT m c.v0 c.v1 = t2 at *
    generalize apB m c.v0 c.v1 = e2 at *
    repeat' walk_at "ux"
    refine ite2 (fun h => ?_) (fun h => ?_)
    · have h := of_decide_eq_true h
      repeat' walk_at "ux"
      exact fin _ _ (.inl ⟨h, rfl⟩)
    have h : 0 < e1 * e2 := by have := of_decide_eq_false (Bool.eq_false_iff.mpr h); omega
    have n1 : e1 ≠ 0 := fun z => by rw [z, Int.zero_mul] at h; omega
    have n2 : e2 ≠ 0 := fun z => by rw [z, Int.mul_zero] at h; omega
    repeat' walk_at "ux"
    refine ⟨⟨t1, e1, rfl, n1, t1b.mono (by decide), b1b.mono (by decide)⟩, fun r hr => ?_⟩
    obtain ⟨p1, q1, rfl, M1⟩ := mdF_of (hr t1 e1 rfl)
    repeat' walk_at "ux"
    refine ⟨⟨t2, e2, rfl, n2, t2b.mono (by decide), b2b.mono (by decide)⟩, fun r hr => ?_⟩
    obtain ⟨p2, q2, rfl, M2⟩ := mdF_of (hr t2 e2 rfl)
    have fr : ∀ {t e p q : Int}, MdF t e p q → Bd 210 t → Bd 210 e → Fr1 p q := fun M ht he => by
      obtain ⟨a1, a2, _, a3, a4⟩ := M
      exact ⟨a1, a2, Bd.mono (k := 210) (Nat.lt_of_le_of_lt a3 ht) (by decide), Bd.mono (k := 210) (Nat.lt_of_le_of_lt a4 he) (by decide)⟩
    have g1 := fr M1 t1b b1b
    have g2 := fr M2 t2b b2b
    clear fr
    repeat' walk_at "ux"
    refine ⟨[Tq.fr p1 q1, Tq.fr p2 q2], .cons (.d _) (.cons (.d _) .nil), ⟨rfl, g1.frb, g2.frb⟩, fun z hz' => ?_, fun ex hx => ?_⟩
    rotate_left
    · rcases hx with ⟨h, _⟩ | ⟨_, h, _⟩
      · have h : fracB (fr p1 q1) = false := h
        rw [fracB_fr g1.1 g1.2.1] at h; cases h
      · have h : fracB (fr p2 q2) = false := h
        rw [fracB_fr g2.1 g2.2.1] at h; cases h
    obtain ⟨c', d', u', v', e1', _, _, rfl⟩ := hz'
    rw [List.cons.injEq, List.cons.injEq] at e1'
    obtain ⟨rfl, rfl⟩ := fr_inj2 e1'.1
    obtain ⟨rfl, rfl⟩ := fr_inj2 e1'.2.1
    repeat' walk_at "ux"
    rw [sgn_lt]
    have fin : ∀ d y, d = rngD p1 q1 p2 q2 c.ui c.vi → e.rt (.d d) y := fun d y h0 => fin d y (.inr ⟨h, p1, q1, p2, q2, M1, M2, h0⟩)
    by_cases hl : p1 * q2 < p2 * q1
    · refine itb_t (decide_eq_true hl) ?_
      repeat' walk_at "ux"
      exact fin _ _ (by unfold rngD; rw [if_pos hl])
    · refine itb_f (decide_eq_false hl) ?_
      repeat' walk_at "ux"
      exact fin _ _ (by unfold rngD; rw [if_neg hl])
abbrev s_law_weights : Stmt := topS 55
abbrev N_law_weights : List Str := ["_law_purse_here", "_law_sides", "_law_some"]
theorem sc_law_weights : FnScope N_law_weights ["_law_purse_here", "_law_sides"] (defScope s_law_weights) := ⟨rfl, rfl, rfl, by decide +kernel, rfl, by decide +kernel, by decide +kernel⟩
theorem ok_law_weights (d : Df K mg "_law_weights" s_law_weights ["_law_purse_here", "_law_sides"]) (c_law_take : Cal P w K mg base 1 "_law_take" ["_law_purse_here", "_law_many"] (sp_law_take K)) (b_int : mg "int" = none) : Cal P w K mg base 2 "_law_weights" ["_law_purse_here", "_law_sides"] (Ux.sp_law_weights K) := by
  refine d.ok sc_law_weights (puSp_len rfl) (fun f cdv A outer s H vs Q E hr hgu h => ?_)
  refine ⟨_, (pss_cons (ps_set (i := 2) sc_law_weights.nd rfl (Or.inl rfl) (pe_lst (pa_cons (pe_tup (pa_cons pe_int (pa_cons pe_int pa_nil))) (pa_cons (pe_tup (pa_cons pe_int (pa_cons (pe_op op_pow pe_int pe_int) pa_nil))) (pa_cons (pe_tup (pa_cons (pe_op op_pow pe_int pe_int) (pa_cons pe_int pa_nil))) (pa_cons (pe_tup (pa_cons (pe_op op_add pe_int (pe_cal c_law_take (hr.mono (by decide)) hgu (by rfl) (pa_cons (pv 0) (pa_cons pe_int pa_nil)))) (pa_cons (pe_op op_add pe_int (pe_cal c_law_take (hr.mono (by decide)) hgu (by rfl) (pa_cons (pv 0) (pa_cons pe_int pa_nil)))) pa_nil))) pa_nil))))))
    (pss_one (ps_ret (pe_op (catK K) (pe_op (catK K) (pv 2) (pe_op repLK (pe_lstL (pa_cons (pe_tup (pa_cons pe_int (pa_cons pe_int pa_nil))) pa_nil)) (pe_callTy call_int1 (by rfl) b_int (by decide +kernel) (pa_cons (pe_ix (ixK K) (pe_ix (ixK K) (pv 1) pe_int (fun _ _ => rfl)) pe_int (fun _ _ => rfl)) pa_nil)))) (pe_op repLK (pe_lstL (pa_cons (pe_tup (pa_cons pe_int (pa_cons pe_int pa_nil))) pa_nil)) (pe_callTy call_int1 (by rfl) b_int (by decide +kernel) (pa_cons (pe_ix (ixK K) (pe_ix (ixK K) (pv 1) pe_int (fun _ _ => rfl)) pe_int (fun _ _ => rfl)) pa_nil))))))), ?_⟩
  try dsimp only [cxOf]
  refine pu_body h (fun ds m pp hl hp hc e hn hz => ?_)
  obtain ⟨c, rfl⟩ := hp
  have hc : 2 ≤ m := hc
  show wS _ _ ⟨[some (.lab pp), some (.d (.tuple [.tuple [.tuple [.int c.u0, .int c.u1], .bool c.ui], .tuple [.tuple [.int c.v0, .int c.v1], .bool c.vi]])), none], [⟨pp, false, .pu m⟩]⟩ _
  repeat' walk_at "ux"
  rename_i u u0 u1 v v0 v1 q1
  have rp : ∀ (v : Bool) (x : D), (List.replicate (if v = true then (1 : Int) else 0).toNat [x]).flatten = if v then [x] else [] := fun v x => by cases v <;> rfl
  have rk : ∀ v : Bool, (-(2 ^ 63) ≤ (if v = true then (1 : Int) else 0) ∧ (if v = true then (1 : Int) else 0) < 2 ^ 63 ∧ 1 * (if v = true then (1 : Int) else 0).toNat ≤ sizeLine) := fun v => by cases v <;> exact ⟨by decide, by decide, sz_small (by decide)⟩
  have rl : ∀ (v : Bool) (x : D), (if v then [x] else []).length ≤ 1 := fun v x => by cases v <;> simp
  refine .inr ⟨c.ui, rfl, ?_⟩
  refine ⟨_, true, 1, [.tuple [.int 1, .int 0]], _, rfl, rfl, rfl, rk c.ui, ?_⟩
  rw [rp]
  have l1 := rl c.ui (.tuple [.int 1, .int 0])
  have l2 := rl c.vi (.tuple [.int 0, .int 1])
  refine ⟨_, _, rfl, rfl, sz_small (by show 4 + _ ≤ _; omega), ?_⟩
  repeat' walk_at "ux"
  refine .inr ⟨c.vi, rfl, ?_⟩
  refine ⟨_, true, 2, [.tuple [.int 0, .int 1]], _, rfl, rfl, rfl, rk c.vi, ?_⟩
  rw [rp]
  refine ⟨_, _, rfl, rfl, sz_small (by simp only [List.length_cons]; omega), ?_⟩
  exact hz _ _ (m - 1 - 1) _ ⟨c, 1 + u, 1 + v, rfl, by omega, by omega, by omega, by omega, rfl⟩ (.head _) (by omega)
abbrev s_law_none_right : Stmt := topS 56
abbrev N_law_none_right : List Str := ["_law_rows_here", "_law_sides", "_law_here", "_law_there"]
theorem sc_law_none_right : FnScope N_law_none_right ["_law_rows_here", "_law_sides"] (defScope s_law_none_right) := ⟨rfl, rfl, rfl, by decide +kernel, rfl, by decide +kernel, by decide +kernel⟩
theorem ok_law_none_right (d : Df K mg "_law_none_right" s_law_none_right ["_law_rows_here", "_law_sides"]) (c_law_value : Cal P w K mg base 1 "_law_value" ["_law_rows_here", "_law_sides", "_law_k", "_law_l"] (sp_law_value K)) (b_abs : mg "abs" = none) : Cal P w K mg base 2 "_law_none_right" ["_law_rows_here", "_law_sides"] (Ux.sp_law_none_right K) := by
  refine d.ok sc_law_none_right (pureSp_len rfl) (fun f cdv A outer s H vs Q E hr hgu h => ?_)
  refine ⟨_, (pss_cons (ps_par (i := 2) (j := 3) (by rfl) sc_law_none_right.nd rfl rfl (by decide) rfl rfl (pa_cons (pe_ix (ixK K) (pe_cal c_law_value (hr.mono (by decide)) hgu (by rfl) (pa_cons (pv 0) (pa_cons (pv 1) (pa_cons pe_int (pa_cons pe_int pa_nil))))) pe_int (fun _ _ => rfl)) (pa_cons (pe_ix (ixK K) (pe_cal c_law_value (hr.mono (by decide)) hgu (by rfl) (pa_cons (pv 0) (pa_cons (pv 1) (pa_cons pe_int (pa_cons pe_int pa_nil))))) pe_int (fun _ _ => rfl)) pa_nil)) (by rfl))
    (pss_cons (ps_if (pt_cmpR op_gt (pe_op op_mulW (pv 2) (pv 3)) pe_int (nomark _)) (pss_one (ps_ret pe_bl)) pss_nil)
    (pss_cons (ps_if (pt_cmpR op_lt (pe_op op_mulW (pv 2) (pv 3)) pe_int (nomark _)) (pss_one (ps_ret (pe_cmpR op_eq (pe_ix (ixK K) (pe_cal c_law_value (hr.mono (by decide)) hgu (by rfl) (pa_cons (pv 0) (pa_cons (pv 1) (pa_cons (pe_callB call_abs (by rfl) b_abs (by decide +kernel) (pa_cons (pv 3) pa_nil)) (pa_cons (pe_callB call_abs (by rfl) b_abs (by decide +kernel) (pa_cons (pv 2) pa_nil)) pa_nil))))) pe_int (fun _ _ => rfl)) pe_int (nomark _)))) pss_nil)
    (pss_one (ps_ret (pe_or (pe_cmpR op_eq (pv 2) pe_int (nomark _)) (pe_one (pe_cmpR op_eq (pv 3) pe_int (nomark _))))))))), ?_⟩
  try dsimp only [cxOf]
  refine pure_body h (fun ds hl hp e hn hz => ?_)
  obtain ⟨m, c, rfl, hm, hcb, hle⟩ := hp
  have l0 : Bd 50 0 := Bd.mono (Bd.lit (k := 1) (by decide)) (by decide)
  have l1 : Bd 50 1 := Bd.mono (Bd.lit (k := 1) (by decide)) (by decide)
  show wS _ _ ⟨[some (.d (mxD m)), some (.d (Cn.d c)), none, none], _⟩ _
  repeat' walk_at "ux"
  refine ⟨⟨m, c, 1, 0, rfl, hm, hcb, l1, l0⟩, fun r hr => ?_⟩
  obtain rfl := hr m c 1 0 rfl
  repeat' walk_at "ux"
  refine ⟨⟨m, c, 0, 1, rfl, hm, hcb, l0, l1⟩, fun r hr => ?_⟩
  obtain rfl := hr m c 0 1 rfl
  have bu := (ap_bd20 hm hcb.1 hcb.2.1).2
  have bv := (ap_bd20 hm hcb.2.2.1 hcb.2.2.2).2
  have eu := (va_u m c).2
  have ev := (va_v m c).2
  have lin := fun k l => (va_lin m c k l).2
  rw [← eu] at bu hle
  rw [← ev] at bv hle
  simp only [← eu, ← ev] at lin
  clear eu ev
  generalize vaB m c 1 0 = A at *
  generalize vaB m c 0 1 = B at *
  have b1 : Bd 130 A := bu.mono (by decide)
  have b2 : Bd 130 B := bv.mono (by decide)
  repeat' walk_at "ux"
  refine itb_f (decide_eq_false (by omega)) ?_
  repeat' walk_at "ux"
  by_cases hlt : A * B < 0
  · refine itb_t (decide_eq_true hlt) ?_
    repeat' walk_at "ux"
    refine ⟨⟨m, c, _, _, rfl, hm, hcb, by unfold Bd at *; split <;> omega, by unfold Bd at *; split <;> omega⟩, fun r hr => ?_⟩
    obtain rfl := hr m c _ _ rfl
    have e0 : (if B < 0 then -B else B) * A + (if A < 0 then -A else A) * B = 0 := by
      rcases Int.lt_or_le A 0 with hA | hA
      · have hB : 0 < B := by
          rcases Int.lt_or_le 0 B with z | z
          · exact z
          · have := Int.mul_nonneg_of_nonpos_of_nonpos (Int.le_of_lt hA) z
            omega
        rw [if_pos hA, if_neg (by omega), Int.neg_mul, Int.mul_comm]; omega
      · have hB : B < 0 := by
          rcases Int.lt_or_le B 0 with z | z
          · exact z
          · have := Int.mul_nonneg hA z
            omega
        rw [if_pos hB, if_neg (show ¬ A < 0 by omega), Int.neg_mul, Int.mul_comm]; omega
    repeat' walk_at "ux"
    exact hz _ _ (by rw [lin, e0]; rfl)
  · refine itb_f (decide_eq_false hlt) ?_
    have h0 : A * B = 0 := by omega
    repeat' walk_at "ux"
    by_cases hA : A = 0
    · refine itb_t (decide_eq_true hA) ?_
      exact hz _ _ rfl
    · refine itb_f (decide_eq_false hA) ?_
      have hB : B = 0 := (Int.mul_eq_zero.mp h0).resolve_left hA
      repeat' walk_at "ux"
      exact hz _ _ (by rw [hB]; rfl)
abbrev s_law_right : Stmt := topS 57
abbrev N_law_right : List Str := ["_law_purse_here", "_law_rows_here", "_law_sides", "_law_found", "_law_low", "_law_low_in", "_law_high", "_law_high_in", "_law_ends", "_law_due", "_law_k", "_law_l", "_law_value_here"]
theorem sc_law_right : FnScope N_law_right ["_law_purse_here", "_law_rows_here", "_law_sides"] (defScope s_law_right) := ⟨rfl, rfl, rfl, by decide +kernel, rfl, by decide +kernel, by decide +kernel⟩
theorem ok_law_right (d : Df K mg "_law_right" s_law_right ["_law_purse_here", "_law_rows_here", "_law_sides"]) {C_Flat C_NoCone C_NoRows : Addr} (c_range_of : CalX P w K mg base 7 "range_of" ["rows", "cone"] (Ux.sp_range_of K C_NoRows C_Flat C_NoCone)) (c_law_lowest : Cal P w K mg base 2 "_law_lowest" ["_law_top", "_law_bottom"] (sp_law_lowest K)) (c_law_value : Cal P w K mg base 1 "_law_value" ["_law_rows_here", "_law_sides", "_law_k", "_law_l"] (sp_law_value K)) (c_law_inside : Cal P w K mg base 1 "_law_inside" ["_law_found", "_law_value_here"] (sp_law_inside K)) (c_law_weights : Cal P w K mg base 2 "_law_weights" ["_law_purse_here", "_law_sides"] (Ux.sp_law_weights K)) (c_law_none_right : Cal P w K mg base 2 "_law_none_right" ["_law_rows_here", "_law_sides"] (Ux.sp_law_none_right K)) (b_isinstance : mg "isinstance" = none) (b_len : mg "len" = none) (b_repr : mg "repr" = none) (b_tuple : mg "tuple" = none) : Cal P w K mg base 8 "_law_right" ["_law_purse_here", "_law_rows_here", "_law_sides"] (Ux.sp_law_right K) := by
  refine d.ok sc_law_right (puSp_len rfl) (fun f cdv A outer s H vs Q E hr hgu h => ?_)
  refine ⟨_, (pss_cons (ps_set (i := 3) sc_law_right.nd rfl (Or.inl rfl) (pe_calX c_range_of (hr.mono (by decide)) hgu (by rfl) takes0 (pa_cons (pv 1) (pa_cons (pv 2) pa_nil))))
    (pss_cons (ps_if (pt_cmpR op_isN (pv 3) pe_non (nomark _)) (pss_one (ps_ret (pe_cal c_law_none_right (hr.mono (by decide)) hgu (by rfl) (pa_cons (pv 1) (pa_cons (pv 2) pa_nil))))) pss_nil)
    (pss_cons (ps_if (PW.pt (pw_or (pt_not (pt_val (pe_callB (isiK K) (by rfl) b_isinstance (by decide +kernel) (pa_cons (pv 3) (pa_cons (pe_bltn (v := .ty "tuple") (by rfl) b_tuple (by decide +kernel) rfl) pa_nil))))) (pw_or1 (pt_cmpR op_ne (pe_callB (lenK K) (by rfl) b_len (by decide +kernel) (pa_cons (pv 3) pa_nil)) pe_int (nomark _))))) (pss_one (ps_ret pe_bl)) pss_nil)
    (pss_cons (ps_asg (pv 3) (pgT K rfl (pgs_cons (pg_name (i := 4) sc_law_right.nd rfl (Or.inl rfl)) (pgs_cons (pg_name (i := 5) sc_law_right.nd rfl (Or.inl rfl)) (pgs_cons (pg_name (i := 6) sc_law_right.nd rfl (Or.inl rfl)) (pgs_cons (pg_name (i := 7) sc_law_right.nd rfl (Or.inl rfl)) pgs_nil))))))
    (pss_cons (ps_set (i := 8) sc_law_right.nd rfl (Or.inl rfl) (pe_lst (pa_cons (pe_cal c_law_value (hr.mono (by decide)) hgu (by rfl) (pa_cons (pv 1) (pa_cons (pv 2) (pa_cons pe_int (pa_cons pe_int pa_nil))))) (pa_cons (pe_cal c_law_value (hr.mono (by decide)) hgu (by rfl) (pa_cons (pv 1) (pa_cons (pv 2) (pa_cons pe_int (pa_cons pe_int pa_nil))))) pa_nil))))
    (pss_cons (ps_if (pt_cmpR op_le (pe_op op_mulW (pe_ix (ixK K) (pe_ix (ixK K) (pv 8) pe_int (fun _ _ => rfl)) pe_int (fun _ _ => rfl)) (pe_ix (ixK K) (pe_ix (ixK K) (pv 8) pe_int (fun _ _ => rfl)) pe_int (fun _ _ => rfl))) pe_int (nomark _)) (pss_one (ps_ret pe_bl)) pss_nil)
    (pss_cons (ps_set (i := 9) sc_law_right.nd rfl (Or.inl rfl) (pe_lst (pa_cons (pe_tup (pa_cons (pe_cal c_law_lowest (hr.mono (by decide)) hgu (by rfl) (pa_cons (pe_ix (ixK K) (pe_ix (ixK K) (pv 8) pe_int (fun _ _ => rfl)) pe_int (fun _ _ => rfl)) (pa_cons (pe_ix (ixK K) (pe_ix (ixK K) (pv 8) pe_int (fun _ _ => rfl)) pe_int (fun _ _ => rfl)) pa_nil))) (pa_cons (pe_ix (ixK K) (pe_ix (ixK K) (pv 2) pe_int (fun _ _ => rfl)) pe_int (fun _ _ => rfl)) pa_nil))) (pa_cons (pe_tup (pa_cons (pe_cal c_law_lowest (hr.mono (by decide)) hgu (by rfl) (pa_cons (pe_ix (ixK K) (pe_ix (ixK K) (pv 8) pe_int (fun _ _ => rfl)) pe_int (fun _ _ => rfl)) (pa_cons (pe_ix (ixK K) (pe_ix (ixK K) (pv 8) pe_int (fun _ _ => rfl)) pe_int (fun _ _ => rfl)) pa_nil))) (pa_cons (pe_ix (ixK K) (pe_ix (ixK K) (pv 2) pe_int (fun _ _ => rfl)) pe_int (fun _ _ => rfl)) pa_nil))) pa_nil))))
    (pss_cons (ps_if (pt_cmpR (notInK K) (pe_callB (reprK K hgu hr.units) (by rfl) b_repr (by decide +kernel) (pa_cons (pe_lst (pa_cons (pe_tup (pa_cons (pv 4) (pa_cons (pv 5) pa_nil))) (pa_cons (pe_tup (pa_cons (pv 6) (pa_cons (pv 7) pa_nil))) pa_nil))) pa_nil)) (pe_tup (pa_cons (pe_callB (reprK K hgu hr.units) (by rfl) b_repr (by decide +kernel) (pa_cons (pv 9) pa_nil)) (pa_cons (pe_callB (reprK K hgu hr.units) (by rfl) b_repr (by decide +kernel) (pa_cons (pe_rev1 K (pv 9)) pa_nil)) pa_nil))) (by rfl)) (pss_one (ps_ret pe_bl)) pss_nil)
    (pss_cons (ps_if (pt_cmpR op_ge (pe_op op_mulW (pe_ix (ixK K) (pv 4) pe_int (fun _ _ => rfl)) (pe_ix (ixK K) (pv 6) pe_int (fun _ _ => rfl))) (pe_op op_mulW (pe_ix (ixK K) (pv 6) pe_int (fun _ _ => rfl)) (pe_ix (ixK K) (pv 4) pe_int (fun _ _ => rfl))) (nomark _)) (pss_one (ps_ret pe_bl)) pss_nil)
    (pss_cons (ps_for PassesOwn.never rfl (piA K (pe_cal c_law_weights (hr.mono (by decide)) hgu (by rfl) (pa_cons (pv 0) (pa_cons (pv 2) pa_nil)))) (pgT K rfl (pgs_cons (pg_name (i := 10) sc_law_right.nd rfl (Or.inl rfl)) (pgs_cons (pg_name (i := 11) sc_law_right.nd rfl (Or.inl rfl)) pgs_nil))) (pss_cons (ps_set (i := 12) sc_law_right.nd rfl (Or.inl rfl) (pe_cal c_law_value (hr.mono (by decide)) hgu (by rfl) (pa_cons (pv 1) (pa_cons (pv 2) (pa_cons (pv 10) (pa_cons (pv 11) pa_nil))))))
    (pss_one (ps_if (PW.pt (pw_or (pt_cmpR op_eq (pe_ix (ixK K) (pv 12) pe_int (fun _ _ => rfl)) pe_int (nomark _)) (pw_or1 (pt_not (pt_val (pe_cal c_law_inside (hr.mono (by decide)) hgu (by rfl) (pa_cons (pv 3) (pa_cons (pe_cal c_law_lowest (hr.mono (by decide)) hgu (by rfl) (pa_cons (pe_ix (ixK K) (pv 12) pe_int (fun _ _ => rfl)) (pa_cons (pe_ix (ixK K) (pv 12) pe_int (fun _ _ => rfl)) pa_nil))) pa_nil)))))))) (pss_one (ps_ret pe_bl)) pss_nil))))
    (pss_one (ps_ret pe_bl)))))))))))), ?_⟩
  try dsimp only [cxOf]
  refine pu_body h (fun ds m pp hl hp hc e hn hz => ?_)
  obtain ⟨mx, c, rfl, hnf, hcb, hdet, hsh, hcon⟩ := hp
  have hc : 2 ≤ m := hc
  have fin : ∀ (r : D) (y : S) (j : Nat) (o : Bool), r = .bool true → (⟨pp, o, .pu j⟩ : Cl) ∈ y.m → m - 2 ≤ j → e.rt (.d r) y := fun r y j o h1 h2 h3 => hz _ _ j o h1 h2 h3
  obtain ⟨hm20, hflat⟩ := hnf
  have l0 : Bd 50 0 := Bd.mono (Bd.lit (k := 1) (by decide)) (by decide)
  have l1 : Bd 50 1 := Bd.mono (Bd.lit (k := 1) (by decide)) (by decide)
  show wS _ _ ⟨[some (.lab pp), some (.d (mxD mx)), some (.d (Cn.d c)), none, none, none, none, none, none, none, none, none, none], [⟨pp, false, .pu m⟩]⟩ _
  repeat' walk_at "ux"
  refine ⟨[mxD mx, Cn.d c], .cons (.d _) (.cons (.d _) .nil), ⟨rfl, _, _, _, _, rfl, rfl, rwok_mx (hm20.mono (by decide)), fun m' e' => ⟨by rw [← mxD_inj e']; exact hm20.mono (by decide), fun _ => ⟨hsh, fun _ => ⟨c, rfl, rfl, hcb⟩⟩⟩⟩, fun z hz' => ?_, fun ex hx => ?_⟩
  rotate_left
  · rcases hx with ⟨h, _⟩ | ⟨m', e', h, _⟩ | ⟨_, _, _, h, _⟩
    · rw [show rowsB (a0 [mxD mx, Cn.d c]) = true from rowsB_of mx] at h; cases h
    · rw [← mxD_inj e'] at h; exact hflat h
    · have h : conD (Cn.d c) = false := h
      rw [hcon] at h; cases h
  obtain ⟨m', c', d, e1, _, _, hv, rfl⟩ := hz'
  rw [List.cons.injEq, List.cons.injEq] at e1
  obtain rfl := mxD_inj e1.1
  obtain rfl := cn_inj e1.2.1
  clear e1
  rcases hv with ⟨hle, rfl⟩ | ⟨hgt, p1, q1, p2, q2, M1, M2, rfl⟩
  · repeat' walk_at "ux"
    all_goals first | exact hle | exact fin _ _ m _ rfl (.head _) (by omega)
  obtain ⟨P, Q, a, R, S0, b, hd, hrep, hlt, hne0, hins⟩ := rng_right hflat hdet hgt M1 M2
  rw [hd]
  clear hd
  have bu := ap_bd20 hm20 hcb.1 hcb.2.1
  have bv := ap_bd20 hm20 hcb.2.2.1 hcb.2.2.2
  have eu := va_u mx c
  have ev := va_v mx c
  rw [← eu.1, ← eu.2] at M1
  rw [← ev.1, ← ev.2] at M2
  rw [← eu.1, ← eu.2] at bu
  rw [← ev.1, ← ev.2] at bv
  rw [← eu.2, ← ev.2] at hgt
  clear eu ev
  have fb : ∀ {t e p q : Int}, MdF t e p q → Bd 22 t ∧ Bd 22 e → Bd 22 p ∧ Bd 22 q := fun M h => ⟨Nat.lt_of_le_of_lt M.2.2.2.1 h.1, Nat.lt_of_le_of_lt M.2.2.2.2 h.2⟩
  have f1 := fb M1 bu
  have f2 := fb M2 bv
  have fP : Bd 22 P ∧ Bd 22 Q ∧ Bd 22 R ∧ Bd 22 S0 := by
    rcases hrep with ⟨rfl, rfl, _, rfl, rfl, _⟩ | ⟨rfl, rfl, _, rfl, rfl, _⟩
    · exact ⟨f1.1, f1.2, f2.1, f2.2⟩
    · exact ⟨f2.1, f2.2, f1.1, f1.2⟩
  obtain ⟨bP, bQ, bR, bS⟩ := fP
  have n1 : vaB mx c 1 0 ≠ 0 := fun z => by rw [z, Int.zero_mul] at hgt; omega
  have n2 : vaB mx c 0 1 ≠ 0 := fun z => by rw [z, Int.mul_zero] at hgt; omega
  repeat' walk_at "ux"
  refine ⟨⟨mx, c, 1, 0, rfl, hm20, hcb, l1, l0⟩, fun r hr => ?_⟩
  obtain rfl := hr mx c 1 0 rfl
  clear hr
  repeat' walk_at "ux"
  refine ⟨⟨mx, c, 0, 1, rfl, hm20, hcb, l0, l1⟩, fun r hr => ?_⟩
  obtain rfl := hr mx c 0 1 rfl
  clear hr
  obtain ⟨bt1, bb1⟩ := bu
  obtain ⟨bt2, bb2⟩ := bv
  generalize hX1 : vaT mx c 1 0 = T1 at *
  generalize hX2 : vaB mx c 1 0 = B1 at *
  generalize hX3 : vaT mx c 0 1 = T2 at *
  generalize hX4 : vaB mx c 0 1 = B2 at *
  repeat' walk_at "ux"
  refine itb_f (decide_eq_false (by omega)) ?_
  repeat' walk_at "ux"
  refine ⟨⟨T1, B1, rfl, n1, bt1.mono (by decide), bb1.mono (by decide)⟩, fun r hr => ?_⟩
  obtain ⟨p', q', rfl, M'⟩ := mdF_of (hr _ _ rfl)
  obtain ⟨rfl, rfl⟩ := fr_same n1 M' M1
  clear hr M'
  repeat' walk_at "ux"
  refine ⟨⟨T2, B2, rfl, n2, bt2.mono (by decide), bb2.mono (by decide)⟩, fun r hr => ?_⟩
  obtain ⟨p2', q2', rfl, M'⟩ := mdF_of (hr _ _ rfl)
  obtain ⟨rfl, rfl⟩ := fr_same n2 M' M2
  clear hr M'
  repeat' walk_at "ux"
  have sh1 : ShOk (.list [.tuple [fr P Q, .bool a], .tuple [fr R S0, .bool b]]) := ends_sh bP bQ bR bS
  have sh2 : ShOk (.list [.tuple [fr p' q', .bool c.ui], .tuple [fr p2' q2', .bool c.vi]]) := ends_sh f1.1 f1.2 f2.1 f2.2
  have sh3 : ShOk (.list ([.tuple [fr p' q', .bool c.ui], .tuple [fr p2' q2', .bool c.vi]] : List D).reverse) := ends_sh f2.1 f2.2 f1.1 f1.2
  have hin : inD (.str (PyData.list [.tuple [fr P Q, .bool a], .tuple [fr R S0, .bool b]]).shown) [.str (PyData.list [.tuple [fr p' q', .bool c.ui], .tuple [fr p2' q2', .bool c.vi]]).shown, .str (PyData.list ([.tuple [fr p' q', .bool c.ui], .tuple [fr p2' q2', .bool c.vi]] : List D).reverse).shown] = true := by
    have eqs : ∀ t : Str, eqF (.str t) (.str t) = true := fun t => by simp [eqF]
    rcases hrep with ⟨rfl, rfl, rfl, rfl, rfl, rfl⟩ | ⟨rfl, rfl, rfl, rfl, rfl, rfl⟩
    · simp [inD, eqs]
    · simp [inD, eqs]
  refine wE_in ?_
  repeat' walk_at "ux"
  refine wE_rev1 ?_
  repeat' walk_at "ux"
  refine ⟨_, _, rfl, .inl rfl, rfl, rfl, ?_⟩
  show ∃ b_1, Z.d (.bool (!inD _ _)) = _ ∧ _
  rw [hin]
  refine ⟨_, rfl, itb_f rfl ?_⟩
  clear hin sh1 sh2 sh3
  repeat' walk_at "ux"
  refine itb_f (decide_eq_false (by omega)) ?_
  repeat' walk_at "ux"
  refine wS_for (wI_anyL ?_)
  repeat' walk_at "ux"
  refine ⟨⟨c, rfl⟩, hc, ?_⟩
  rintro r ⟨c', u, v, e1, u0, u1, v0, v1, rfl⟩
  obtain rfl := cn_inj (List.cons.inj e1).1
  clear e1
  have hW : ∀ x ∈ ([.tuple [.int 1, .int 1], .tuple [.int 1, .int (10 ^ 40)], .tuple [.int (10 ^ 40), .int 1], .tuple [.int u, .int v]] ++ (if c.ui then [.tuple [.int 1, .int 0]] else []) ++ (if c.vi then [.tuple [.int 0, .int 1]] else []) : List D), ∃ k l : Int, x = .tuple [.int k, .int l] ∧ Bd 50 k ∧ Bd 50 l ∧ alwd c.ui c.vi k l := fun x hx => by
    have b40 : Bd 50 (10 ^ 40 : Int) := by unfold Bd; decide
    have pos : ∀ k l : Int, 0 < k → 0 < l → alwd c.ui c.vi k l := fun k l h1 h2 => ⟨by omega, by omega, .inl h1, fun z => by omega, fun z => by omega⟩
    rw [List.mem_append, List.mem_append] at hx
    rcases hx with (hx | hx) | hx
    · simp only [List.mem_cons, List.not_mem_nil, or_false] at hx
      rcases hx with rfl | rfl | rfl | rfl
      · exact ⟨_, _, rfl, l1, l1, pos _ _ (by decide) (by decide)⟩
      · exact ⟨_, _, rfl, l1, b40, pos _ _ (by decide) (by decide)⟩
      · exact ⟨_, _, rfl, b40, l1, pos _ _ (by decide) (by decide)⟩
      · exact ⟨_, _, rfl, by unfold Bd; omega, by unfold Bd; omega, pos _ _ u0 v0⟩
    · cases hui : c.ui with
      | false => rw [hui] at hx; cases hx
      | true =>
        rw [hui] at hx
        rw [List.mem_singleton.mp hx]
        exact ⟨_, _, rfl, l1, l0, by decide, by decide, .inl (by decide), fun _ => rfl, fun z => absurd z (by decide)⟩
    · cases hvi : c.vi with
      | false => rw [hvi] at hx; cases hx
      | true =>
        rw [hvi] at hx
        rw [List.mem_singleton.mp hx]
        exact ⟨_, _, rfl, l0, l1, by decide, by decide, .inr (by decide), fun z => absurd z (by decide), fun _ => rfl⟩
  generalize ([.tuple [.int 1, .int 1], .tuple [.int 1, .int (10 ^ 40)], .tuple [.int (10 ^ 40), .int 1], .tuple [.int u, .int v]] ++ (if c.ui then [.tuple [.int 1, .int 0]] else []) ++ (if c.vi then [.tuple [.int 0, .int 1]] else []) : List D) = WL at *
  refine ⟨_, rfl, ?_⟩
  generalize hends : (PyData.list [.tuple [.int T1, .int B1], .tuple [.int T2, .int B2]]) = Ends
  generalize hdue : (PyData.list [.tuple [fr p' q', .bool c.ui], .tuple [fr p2' q2', .bool c.vi]]) = Due
  refine ⟨fun _ y => Less ⟨[some (.lab pp), some (.d (mxD mx)), some (.d c.d), some (.d (.tuple [fr P Q, .bool a, fr R S0, .bool b])), some (.d (fr P Q)), some (.d (.bool a)), some (.d (fr R S0)), some (.d (.bool b)), some (.d Ends), some (.d Due), none, none, none], [⟨pp, false, .pu (m - 2)⟩]⟩ y, Less.refl _, fun i x y2 hx hy => ?_, fun y2 hy => ?_⟩
  · obtain ⟨k, l, rfl, bk, bl, ha⟩ := hW x (List.mem_of_getElem? hx)
    refine wG_tup rfl (wGs_cons (wG_name (wGs_cons (wG_name (wGs_nil ?_)))))
    refine wS_weak ?_ (less_set (less_set hy))
    dsimp only [S.set, List.set]
    repeat' walk_at "ux"
    refine ⟨⟨mx, c, k, l, rfl, hm20, hcb, bk, bl⟩, fun r hr => ?_⟩
    obtain rfl := hr mx c k l rfl
    clear hr
    obtain ⟨bT, bB⟩ := va_bd hm20 hcb bk bl
    have hB := hne0 k l ha
    have hins := fun x y => hins k l x y ha
    generalize vaT mx c k l = T at *
    generalize vaB mx c k l = B at *
    repeat' walk_at "ux"
    refine itb_f (decide_eq_false hB) ?_
    repeat' walk_at "ux"
    refine ⟨⟨T, B, rfl, hB, bT.mono (by decide), bB.mono (by decide)⟩, fun r hr => ?_⟩
    obtain ⟨x, y, rfl, M'⟩ := mdF_of (hr _ _ rfl)
    clear hr
    have hi := hins x y (by have := M'.1; omega) M'.2.2.1
    have bx : Bd 200 x := Bd.mono (k := 130) (Nat.lt_of_le_of_lt M'.2.2.2.1 bT) (by decide)
    have bY : Bd 200 y := Bd.mono (k := 130) (Nat.lt_of_le_of_lt M'.2.2.2.2 bB) (by decide)
    repeat' walk_at "ux"
    refine ⟨⟨P, Q, a, R, S0, b, x, y, rfl, bP.mono (by decide), bQ.mono (by decide), bR.mono (by decide), bS.mono (by decide), bx, bY⟩, fun r hr => ?_⟩
    obtain rfl := hr P Q a R S0 b x y rfl
    clear hr
    rw [hi]
    repeat' walk_at "ux"
    refine less_mk' ?_ (List.Sublist.refl _)
    repeat' (first | exact less_nil | refine less_none ?_ | refine less_some ?_)
  · refine wS_weak ?_ hy
    repeat' walk_at "ux"
    exact fin _ _ (m - 2) _ rfl (.head _) (Nat.le_refl _)
abbrev s_law_odd : Stmt := topS 44
abbrev N_law_odd : List Str := ["_law_purse_here", "_law_some"]
theorem sc_law_odd : FnScope N_law_odd ["_law_purse_here"] (defScope s_law_odd) := ⟨rfl, rfl, rfl, by decide +kernel, rfl, by decide +kernel, by decide +kernel⟩
theorem ok_law_odd (d : Df K mg "_law_odd" s_law_odd ["_law_purse_here"]) (c_law_take : Cal P w K mg base 1 "_law_take" ["_law_purse_here", "_law_many"] (sp_law_take K)) : Cal P w K mg base 2 "_law_odd" ["_law_purse_here"] (Ux.sp_law_odd K) := by
  refine d.ok sc_law_odd oSp_len (fun f cdv A outer s H vs Q E hr hgu h => ?_)
  refine ⟨_, (pss_cons (ps_set (i := 1) sc_law_odd.nd rfl (Or.inl rfl) (pe_lstZ (pa_cons pe_non (pa_cons pe_bl (pa_cons pe_bl (pa_cons pe_int (pa_cons (pe_un un_neg pe_int) (pa_cons pe_int (pa_cons (pe_op op_pow pe_int pe_int) (pa_cons (pe_un un_neg (pe_op op_pow pe_int pe_int)) (pa_cons pe_str (pa_cons pe_str (pa_cons pe_str (pa_cons pe_str (pa_cons pe_str (pa_cons pe_str (pa_cons (pe_lstL pa_nil) (pa_cons (pe_lstL (pa_cons pe_int pa_nil)) (pa_cons (pe_lstL (pa_cons pe_str pa_nil)) pa_nil)))))))))))))))))))
    (pss_cons (ps_set (i := 1) sc_law_odd.nd rfl (Or.inl rfl) (pe_op (catZK K) (pv 1) (pe_lstZ (pa_cons (pe_tup pa_nil) (pa_cons (pe_tup (pa_cons pe_int pa_nil)) (pa_cons (pe_tup (pa_cons pe_int (pa_cons pe_int pa_nil))) (pa_cons (pe_tup (pa_cons pe_int (pa_cons pe_int pa_nil))) (pa_cons (pe_tup (pa_cons pe_int (pa_cons pe_int pa_nil))) (pa_cons (pe_tup (pa_cons pe_int (pa_cons (pe_un un_neg pe_int) pa_nil))) (pa_cons (pe_tup (pa_cons pe_bl (pa_cons pe_int pa_nil))) (pa_cons (pe_lstL (pa_cons pe_int (pa_cons pe_int pa_nil))) (pa_cons (pe_tup (pa_cons pe_int (pa_cons pe_int (pa_cons pe_int pa_nil)))) (pa_cons pe_dnewL (pa_cons (zD (pe_disp (pps_cons pe_str pe_int pps_nil) (by rfl) (by rfl) (fun z => by cases z) (by decide))) (pa_cons (zD (pe_disp (pps_cons pe_int pe_non pps_nil) (by rfl) (by rfl) (fun z => by cases z) (by decide))) pa_nil)))))))))))))))
    (pss_one (ps_ret (pe_ix (ixZK K) (pe_op (catZK K) (pv 1) (pe_lstZ (pa_cons (pe_lstL (pa_cons (pe_lst (pa_cons (pe_lst (pa_cons (pe_lst (pa_cons (pe_lst (pa_cons pe_str pa_nil)) pa_nil)) pa_nil)) pa_nil)) pa_nil)) (pa_cons (pe_tup (pa_cons (pe_tup (pa_cons pe_int (pa_cons pe_int pa_nil))) (pa_cons (pe_tup (pa_cons pe_int (pa_cons pe_int pa_nil))) pa_nil))) pa_nil)))) (pe_cal c_law_take (hr.mono (by decide)) hgu (by rfl) (pa_cons (pv 0) (pa_cons pe_int pa_nil))) (fun _ _ => rfl)))))), ?_⟩
  try dsimp only [cxOf]
  refine o_body h (fun pp mm hc e hrt => ?_)
  show wS _ _ ⟨[some (.lab pp), none], _⟩ _
  repeat' walk_at "ux"
  rename_i a1 a2 a3 a4 a5 a6 a7 a8 r r0 r1
  refine ixZ_any r0 r1 (fun u hu => ?_)
  dsimp only [List.set, List.cons_append, List.nil_append]
  simp only [List.cons_append, List.nil_append, List.mem_cons, List.not_mem_nil, or_false] at hu
  rcases hu with rfl | rfl | rfl | rfl | rfl | rfl | rfl | rfl | rfl | rfl | rfl | rfl | rfl | rfl | rfl | rfl | rfl | rfl | rfl | rfl | rfl | rfl | rfl | rfl | rfl | rfl | rfl | rfl | rfl | rfl | rfl
  all_goals first
    | exact hrt _ [] _ _ ⟨_, by unfold oddsC; simp, Th.pl _⟩ (fun _ h => nomatch h) (.cons₂ _ (List.nil_sublist _)) (Nat.le_refl _)
    | exact hrt _ [_] _ _ ⟨_, by unfold oddsC; simp, Th.ls a1 []⟩ (Th.ls a1 []).ro (.cons₂ _ (.cons₂ _ (List.nil_sublist _))) (Nat.le_refl _)
    | exact hrt _ [_] _ _ ⟨_, by unfold oddsC; simp, Th.ls a2 [.int 1]⟩ (Th.ls a2 [.int 1]).ro (.cons₂ _ (.cons _ (.cons₂ _ (List.nil_sublist _)))) (Nat.le_refl _)
    | exact hrt _ [_] _ _ ⟨_, by unfold oddsC; simp, Th.ls a3 [.str "a"]⟩ (Th.ls a3 [.str "a"]).ro (.cons₂ _ (.cons _ (.cons _ (.cons₂ _ (List.nil_sublist _))))) (Nat.le_refl _)
    | exact hrt _ [_] _ _ ⟨_, by unfold oddsC; simp, Th.ls a4 [.int 3, .int 7]⟩ (Th.ls a4 [.int 3, .int 7]).ro (.cons₂ _ (.cons _ (.cons _ (.cons _ (.cons₂ _ (List.nil_sublist _)))))) (Nat.le_refl _)
    | exact hrt _ [_] _ _ ⟨_, by unfold oddsC; simp, Th.dc a5 []⟩ (Th.dc a5 []).ro (.cons₂ _ (.cons _ (.cons _ (.cons _ (.cons _ (.cons₂ _ (List.nil_sublist _))))))) (Nat.le_refl _)
    | exact hrt _ [_] _ _ ⟨_, by unfold oddsC; simp, Th.dc a6 [(.inr "a", .int 1)]⟩ (Th.dc a6 [(.inr "a", .int 1)]).ro (.cons₂ _ (.cons _ (.cons _ (.cons _ (.cons _ (.cons _ (.cons₂ _ (List.nil_sublist _)))))))) (Nat.le_refl _)
    | exact hrt _ [_] _ _ ⟨_, by unfold oddsC; simp, Th.dc a7 [(.inl 7, .none)]⟩ (Th.dc a7 [(.inl 7, .none)]).ro (.cons₂ _ (.cons _ (.cons _ (.cons _ (.cons _ (.cons _ (.cons _ (.cons₂ _ (List.nil_sublist _))))))))) (Nat.le_refl _)
    | exact hrt _ [_] _ _ ⟨_, by unfold oddsC; simp, Th.ls a8 [.list [.list [.list [.list [.str "a"]]]]]⟩ (Th.ls a8 [.list [.list [.list [.list [.str "a"]]]]]).ro (.cons₂ _ (.cons _ (.cons _ (.cons _ (.cons _ (.cons _ (.cons _ (.cons _ (.cons₂ _ (List.nil_sublist _)))))))))) (Nat.le_refl _)
abbrev s_law_asked : Stmt := topS 58
abbrev N_law_asked : List Str := ["_law_rows_here", "_law_sides", "e"]
theorem sc_law_asked : FnScope N_law_asked ["_law_rows_here", "_law_sides"] (defScope s_law_asked) := ⟨rfl, rfl, rfl, by decide +kernel, rfl, by decide +kernel, by decide +kernel⟩
theorem ok_law_asked (d : Df K mg "_law_asked" s_law_asked ["_law_rows_here", "_law_sides"]) {C_Flat C_NoCone C_NoRows C_TermError : Addr} (x_Flat : Xc P w K mg base "Flat" C_Flat) (x_NoCone : Xc P w K mg base "NoCone" C_NoCone) (x_NoRows : Xc P w K mg base "NoRows" C_NoRows) (t_NoRows_NoRows : PySem.W.exmOne K (.ref C_NoRows) (.ref C_NoRows) = some true) (t_Flat_NoRows : PySem.W.exmOne K (.ref C_Flat) (.ref C_NoRows) = some false) (t_NoCone_NoRows : PySem.W.exmOne K (.ref C_NoCone) (.ref C_NoRows) = some false) (t_Flat_Flat : PySem.W.exmOne K (.ref C_Flat) (.ref C_Flat) = some true) (t_NoCone_Flat : PySem.W.exmOne K (.ref C_NoCone) (.ref C_Flat) = some false) (t_NoCone_NoCone : PySem.W.exmOne K (.ref C_NoCone) (.ref C_NoCone) = some true) (q_Flat : ExcC K C_Flat) (q_NoCone : ExcC K C_NoCone) (q_NoRows : ExcC K C_NoRows) (g_Flat : mg "Flat" = some (.ref C_Flat)) (g_NoRows : mg "NoRows" = some (.ref C_NoRows)) (g_TermError : mg "TermError" = some (.ref C_TermError)) (k_Flat_NoRows : PySem.W.kitOne K (.ref C_Flat) (.ref C_NoRows) = some false) (k_Flat_TermError : PySem.W.kitOne K (.ref C_Flat) (.ref C_TermError) = some true) (k_NoCone_NoRows : PySem.W.kitOne K (.ref C_NoCone) (.ref C_NoRows) = some false) (k_NoCone_TermError : PySem.W.kitOne K (.ref C_NoCone) (.ref C_TermError) = some true) (k_NoRows_Flat : PySem.W.kitOne K (.ref C_NoRows) (.ref C_Flat) = some false) (k_NoRows_TermError : PySem.W.kitOne K (.ref C_NoRows) (.ref C_TermError) = some true) (c_range_of : CalX P w K mg base 7 "range_of" ["rows", "cone"] (Ux.sp_range_of K C_NoRows C_Flat C_NoCone)) (b_isinstance : mg "isinstance" = none) : Cal P w K mg base 8 "_law_asked" ["_law_rows_here", "_law_sides"] (Ux.sp_law_asked K) := by
  refine d.ok sc_law_asked (xSp_len rfl) (fun f cdv A outer s H vs Q E hr hgu h => ?_)
  refine ⟨_, (pss_one (ps_tryN rfl rfl sc_law_asked.nd (fun W pn xe tk po => (pss_one (ps_ret (pe_lst (pa_cons pe_str (pa_cons (pe_calX c_range_of (hr.mono (by decide)) hgu (by rfl) tk (pa_cons (pv 0) (pa_cons (pv 1) pa_nil))) pa_nil)))))) (HdN.as (i := 2) ⟨rfl, by decide, Or.inl x_NoRows.gC⟩ rfl rfl (fun a oe cls d pn hz hf => (pss_one (ps_ret (pe_lstZ (pa_cons pe_str (pa_cons (pe_xf x_NoRows.xf x_NoRows.no hz hf (pv 2)) (pa_cons (pe_and (zX (pe_callB (call_isX q_NoRows hz hf) (by rfl) b_isinstance (by decide +kernel) (pa_cons (pv 2) (pa_cons (pe_glob (v := .ref C_TermError) (by rfl) g_TermError rfl) pa_nil)))) (pe_one (pe_not (zX (pe_callB (call_isX q_NoRows hz hf) (by rfl) b_isinstance (by decide +kernel) (pa_cons (pv 2) (pa_cons (pe_glob (v := .ref C_Flat) (by rfl) g_Flat rfl) pa_nil))))))) pa_nil))))))) (HdN.as (i := 2) ⟨rfl, by decide, Or.inl x_Flat.gC⟩ rfl rfl (fun a oe cls d pn hz hf => (pss_one (ps_ret (pe_lstZ (pa_cons pe_str (pa_cons (pe_xf x_Flat.xf x_Flat.no hz hf (pv 2)) (pa_cons (pe_and (zX (pe_callB (call_isX q_Flat hz hf) (by rfl) b_isinstance (by decide +kernel) (pa_cons (pv 2) (pa_cons (pe_glob (v := .ref C_TermError) (by rfl) g_TermError rfl) pa_nil)))) (pe_one (pe_not (zX (pe_callB (call_isX q_Flat hz hf) (by rfl) b_isinstance (by decide +kernel) (pa_cons (pv 2) (pa_cons (pe_glob (v := .ref C_NoRows) (by rfl) g_NoRows rfl) pa_nil))))))) pa_nil))))))) (HdN.as (i := 2) ⟨rfl, by decide, Or.inl x_NoCone.gC⟩ rfl rfl (fun a oe cls d pn hz hf => (pss_one (ps_ret (pe_lstZ (pa_cons pe_str (pa_cons (pe_xf x_NoCone.xf x_NoCone.no hz hf (pv 2)) (pa_cons (pe_and (zX (pe_callB (call_isX q_NoCone hz hf) (by rfl) b_isinstance (by decide +kernel) (pa_cons (pv 2) (pa_cons (pe_glob (v := .ref C_TermError) (by rfl) g_TermError rfl) pa_nil)))) (pe_one (pe_not (zX (pe_callB (call_isX q_NoCone hz hf) (by rfl) b_isinstance (by decide +kernel) (pa_cons (pv 2) (pa_cons (pe_glob (v := .ref C_NoRows) (by rfl) g_NoRows rfl) pa_nil))))))) pa_nil))))))) HdN.stop))))), ?_⟩
  try dsimp only [cxOf]
  refine x_body h (fun mm zs ds hl hres hp e hnx hrt => ?_)
  obtain ⟨z0, z1, d0, d1, rfl, rfl, hrw, hcn⟩ := id hp
  obtain ⟨rs0, rs1⟩ := resA2d hres
  show wS _ _ ⟨[some (z0), some (z1), none], mm⟩ _
  refine wS_try (fun W => ?_)
  repeat' walk_at "ux"
  refine ⟨[d0, d1], hres, ⟨rfl, hp⟩, fun r hr => ?_, fun ex hx => ?_⟩
  · have hr2 := hr
    obtain ⟨m, c, d, e1, _, _, _, rfl⟩ := hr
    repeat' walk_at "ux"
    exact hrt _ _ (.inl ⟨d, hr2, rfl⟩)
  · rcases hx with ⟨h1, rfl⟩ | ⟨m, e1, h1, rfl⟩ | ⟨m, e1, h1, h2, rfl⟩
    · refine ⟨true, t_NoRows_NoRows, fun _ a dd => ?_, fun z => Bool.noConfusion z⟩
      repeat' walk_at "ux"
      all_goals first | exact rs0.kz | exact hrt _ _ (.inr (.inl ⟨h1, rfl⟩))
    · refine ⟨false, t_Flat_NoRows, fun z => Bool.noConfusion z, fun _ => ?_⟩
      refine ⟨true, t_Flat_Flat, fun _ a dd => ?_, fun z => Bool.noConfusion z⟩
      repeat' walk_at "ux"
      all_goals first | exact rs0.kz | exact hrt _ _ (.inr (.inr (.inl ⟨m, e1, h1, rfl⟩)))
    · refine ⟨false, t_NoCone_NoRows, fun z => Bool.noConfusion z, fun _ => ?_⟩
      refine ⟨false, t_NoCone_Flat, fun z => Bool.noConfusion z, fun _ => ?_⟩
      refine ⟨true, t_NoCone_NoCone, fun _ a dd => ?_, fun z => Bool.noConfusion z⟩
      repeat' walk_at "ux"
      all_goals first | exact rs1.kz | exact hrt _ _ (.inr (.inr (.inr ⟨m, e1, h1, h2, rfl⟩)))
abbrev s_law_very : Stmt := topS 45
abbrev N_law_very : List Str := ["_law_found", "_law_thing"]
theorem sc_law_very : FnScope N_law_very ["_law_found", "_law_thing"] (defScope s_law_very) := ⟨rfl, rfl, rfl, by decide +kernel, rfl, by decide +kernel, by decide +kernel⟩
theorem ok_law_very (d : Df K mg "_law_very" s_law_very ["_law_found", "_law_thing"]) (b_dict : mg "dict" = none) (b_isinstance : mg "isinstance" = none) (b_list : mg "list" = none) (b_repr : mg "repr" = none) : Cal P w K mg base 1 "_law_very" ["_law_found", "_law_thing"] (Ux.sp_law_very K) := by
  refine d.ok sc_law_very vSp_len (fun f cdv A outer s H vs Q E hr hgu h => ?_)
  refine ⟨_, (pss_cons (ps_if (pt_val (zR (pe_callB (isiK K) (by rfl) b_isinstance (by decide +kernel) (pa_cons (pv 1) (pa_cons (pe_bltn (v := .ty "list") (by rfl) b_list (by decide +kernel) rfl) pa_nil))))) (pss_one (ps_expr (pe_bm PySem.F.plainAttrs_list PySem.F.slot_list_append PySem.F.type_list_append mt_append (pv 1) (pa_cons pe_str pa_nil)))) pss_nil)
    (pss_cons (ps_if (pt_val (zR (pe_callB (isiK K) (by rfl) b_isinstance (by decide +kernel) (pa_cons (pv 1) (pa_cons (pe_bltn (v := .ty "dict") (by rfl) b_dict (by decide +kernel) rfl) pa_nil))))) (pss_one (ps_asg pe_int (pg_sub (pv 1) pe_str (set_dict (hu_of hr))))) pss_nil)
    (pss_one (ps_ret (pe_cmpR op_eq (zP (pe_callB (reprK K hgu hr.units) (by rfl) b_repr (by decide +kernel) (pa_cons (pv 0) pa_nil))) (zP (pe_callB (reprK K hgu hr.units) (by rfl) b_repr (by decide +kernel) (pa_cons (pv 1) pa_nil))) (nomark _)))))), ?_⟩
  try dsimp only [cxOf]
  refine very_body h (fun z nw c th vo e hrt => ?_)
  cases th with
  | pl d =>
    have hp := vo.pl
    have hp : (!isT "list" d && !isT "dict" d) = true := hp
    rw [Bool.and_eq_true, Bool.not_eq_true', Bool.not_eq_true'] at hp
    show wS _ _ ⟨[some ((.d d)), some ((.d d))], []⟩ _
    repeat' walk_at "ux"
    refine ⟨d, .d d, _, rfl, itb_f hp.1 ?_⟩
    repeat' walk_at "ux"
    refine ⟨d, .d d, _, rfl, itb_f hp.2 ?_⟩
    repeat' walk_at "ux"
    refine ⟨d, .d d, vo.sh, ?_⟩
    repeat' walk_at "ux"
    refine ⟨d, .d d, vo.sh, ?_⟩
    repeat' walk_at "ux"
    rw [eqS_self]
    exact hrt [] _ (.pl d) (List.nil_subset _)
  | ls a ds =>
    have hn : ds.length < 1000 := vo.ln
    show wS _ _ ⟨[some (.lab a), some (.lab a)], _⟩ _
    repeat' walk_at "ux"
    refine ⟨.list ds, Res.at (j := 0) rfl (.lst ds), _, rfl, itb_t (isT_list _) ?_⟩
    refine wS_app (j := 0) rfl rfl (wE_str ⟨_, rfl, sz_lt1 (by rw [List.length_map]; omega), ?_⟩)
    have em : ds.map Z.d ++ [Z.d (.str "more")] = (ds ++ [PyData.str "more"]).map Z.d := by rw [List.map_append]; rfl
    rw [em]
    show wS _ _ ⟨_, [⟨a, false, .lst ((ds ++ [PyData.str "more"]).map Z.d)⟩]⟩ _
    repeat' walk_at "ux"
    refine ⟨.list (ds ++ [.str "more"]), Res.at (j := 0) rfl (.lst _), _, rfl, itb_f (isT_dict _) ?_⟩
    repeat' walk_at "ux"
    refine ⟨_, Res.at (j := 0) rfl (.lst _), vo.sh, ?_⟩
    repeat' walk_at "ux"
    refine ⟨_, Res.at (j := 0) rfl (.lst _), vo.sh, ?_⟩
    repeat' walk_at "ux"
    rw [eqS_self]
    exact hrt [_] _ (.ls a _) (List.Subset.refl _)
  | dc a kvs =>
    have hn : kvs.length < 1000 := vo.ln
    show wS _ _ ⟨[some (.lab a), some (.lab a)], _⟩ _
    repeat' walk_at "ux"
    refine ⟨dD kvs, Res.at (j := 0) rfl (.dic kvs), _, rfl, itb_f (isT_list _) ?_⟩
    repeat' walk_at "ux"
    refine ⟨dD kvs, Res.at (j := 0) rfl (.dic kvs), _, rfl, itb_t (isT_dict _) ?_⟩
    refine wS_dput (j := 0) (kk := .inr "more") rfl (wE_int ⟨rfl, _, rfl, sz_lt1 (by unfold kvD; rw [List.length_map]; omega), ?_⟩)
    rw [put_kvD]
    show wS _ _ ⟨_, [⟨a, false, .dic (kvD (putKD kvs (.inr "more") (.int 1)))⟩]⟩ _
    repeat' walk_at "ux"
    refine ⟨_, Res.at (j := 0) rfl (.dic _), vo.sh, ?_⟩
    repeat' walk_at "ux"
    refine ⟨_, Res.at (j := 0) rfl (.dic _), vo.sh, ?_⟩
    repeat' walk_at "ux"
    rw [eqS_self]
    exact hrt [_] _ (.dc a _) (List.Subset.refl _)
abbrev s_law_refused : Stmt := topS 59
abbrev N_law_refused : List Str := ["_law_found", "_law_word", "_law_thing"]
theorem sc_law_refused : FnScope N_law_refused ["_law_found", "_law_word", "_law_thing"] (defScope s_law_refused) := ⟨rfl, rfl, rfl, by decide +kernel, rfl, by decide +kernel, by decide +kernel⟩
theorem ok_law_refused (d : Df K mg "_law_refused" s_law_refused ["_law_found", "_law_word", "_law_thing"]) (c_law_very : Cal P w K mg base 1 "_law_very" ["_law_found", "_law_thing"] (Ux.sp_law_very K)) : Cal P w K mg base 2 "_law_refused" ["_law_found", "_law_word", "_law_thing"] (Ux.sp_law_refused K) := by
  refine d.ok sc_law_refused (mSp_len rfl) (fun f cdv A outer s H vs Q E hr hgu h => ?_)
  refine ⟨_, (pss_one (ps_ret (pe_and (pe_cmpR op_eq (pe_ix (ixZK K) (pv 0) pe_int (fun _ _ => rfl)) (pv 1) (nomark _)) (pe_and (pe_cmpR op_isBl (pe_ix (ixZK K) (pv 0) pe_int (fun _ _ => rfl)) pe_bl (nomark _)) (pe_one (pe_cal c_law_very (hr.mono (by decide)) hgu (by rfl) (pa_cons (pe_ix (ixZK K) (pv 0) pe_int (fun _ _ => rfl)) (pa_cons (pv 2) pa_nil)))))))), ?_⟩
  try dsimp only [cxOf]
  refine m_body h (fun zs m hl pw hp e hrt => ?_)
  obtain ⟨w, z, c, rfl, th, vo⟩ := hp
  show wS _ _ ⟨[some ((fndZ w z)), some (.d (.str w)), some (z)], toCl false m⟩ _
  repeat' walk_at "uy"
  refine itb_t (by show decide (w = w) = true; simp) ?_
  repeat' walk_at "ux"
  refine ⟨z, m, c, [], [], false, rfl, th, vo, (by simp), fun nw' th' => ?_⟩
  refine hrt _ nw' _ ⟨rfl, fun w' z' c' e' t' => ?_⟩ rfl (th.ad th' rfl) th'.ro (by simp)
  have e1 : z' = z := by injection e' with _ e2; injection e2 with _ e3; injection e3 with e4 _; exact e4.symm
  subst e1
  rw [th.det t']
  exact th'
abbrev s_law_odd_right : Stmt := topS 60
abbrev N_law_odd_right : List Str := ["_law_purse_here", "_law_rows_here", "_law_sides", "_law_odd_here", "_law_flat", "_law_u", "_law_u_in", "_law_v", "_law_v_in", "_law_none", "_law_thing", "_law_one"]
theorem sc_law_odd_right : FnScope N_law_odd_right ["_law_purse_here", "_law_rows_here", "_law_sides"] (defScope s_law_odd_right) := ⟨rfl, rfl, rfl, by decide +kernel, rfl, by decide +kernel, by decide +kernel⟩
theorem ok_law_odd_right (d : Df K mg "_law_odd_right" s_law_odd_right ["_law_purse_here", "_law_rows_here", "_law_sides"]) (c_is_cone : Cal P w K mg base 6 "is_cone" ["thing"] (Ux.sp_is_cone K)) (c_law_take : Cal P w K mg base 1 "_law_take" ["_law_purse_here", "_law_many"] (sp_law_take K)) (c_law_odd : Cal P w K mg base 2 "_law_odd" ["_law_purse_here"] (Ux.sp_law_odd K)) (c_law_cones : Cal P w K mg base 5 "_law_cones" [] (Ux.sp_law_cones K)) (c_law_asked : Cal P w K mg base 8 "_law_asked" ["_law_rows_here", "_law_sides"] (Ux.sp_law_asked K)) (c_law_refused : Cal P w K mg base 2 "_law_refused" ["_law_found", "_law_word", "_law_thing"] (Ux.sp_law_refused K)) (b_repr : mg "repr" = none) : Cal P w K mg base 9 "_law_odd_right" ["_law_purse_here", "_law_rows_here", "_law_sides"] (Ux.sp_law_odd_right K) := by
  refine d.ok sc_law_odd_right (puSp_len rfl) (fun f cdv A outer s H vs Q E hr hgu h => ?_)
  refine ⟨_, (pss_cons (ps_set (i := 3) sc_law_odd_right.nd rfl (Or.inl rfl) (pe_cal c_law_odd (hr.mono (by decide)) hgu (by rfl) (pa_cons (pv 0) pa_nil)))
    (pss_cons (ps_if (PW.pt (pw_and (pt_cmpR (neAK K hr.units) (pv 3) (pe_tup (pa_cons (pe_tup (pa_cons pe_int (pa_cons pe_int pa_nil))) (pa_cons (pe_tup (pa_cons pe_int (pa_cons pe_int pa_nil))) pa_nil))) (nomark _)) (pw_and1 (pt_not (pt_val (pe_cal c_law_refused (hr.mono (by decide)) hgu (by rfl) (pa_cons (pe_cal c_law_asked (hr.mono (by decide)) hgu (by rfl) (pa_cons (pv 3) (pa_cons pe_non pa_nil))) (pa_cons pe_str (pa_cons (pv 3) pa_nil))))))))) (pss_one (ps_ret pe_bl)) pss_nil)
    (pss_cons (ps_set (i := 4) sc_law_odd_right.nd rfl (Or.inl rfl) (pe_ix (ixK K) (pe_lst (pa_cons (pe_tup (pa_cons (pe_tup (pa_cons pe_int (pa_cons pe_int pa_nil))) (pa_cons (pe_tup (pa_cons pe_int (pa_cons pe_int pa_nil))) pa_nil))) (pa_cons (pe_tup (pa_cons (pe_tup (pa_cons pe_int (pa_cons pe_int pa_nil))) (pa_cons (pe_tup (pa_cons pe_int (pa_cons pe_int pa_nil))) pa_nil))) (pa_cons (pe_tup (pa_cons (pe_tup (pa_cons pe_int (pa_cons pe_int pa_nil))) (pa_cons (pe_tup (pa_cons pe_int (pa_cons pe_int pa_nil))) pa_nil))) pa_nil)))) (pe_cal c_law_take (hr.mono (by decide)) hgu (by rfl) (pa_cons (pv 0) (pa_cons pe_int pa_nil))) (fun _ _ => rfl)))
    (pss_cons (ps_if (pt_not (pt_val (pe_cal c_law_refused (hr.mono (by decide)) hgu (by rfl) (pa_cons (pe_cal c_law_asked (hr.mono (by decide)) hgu (by rfl) (pa_cons (pv 4) (pa_cons pe_non pa_nil))) (pa_cons pe_str (pa_cons (pv 4) pa_nil)))))) (pss_one (ps_ret pe_bl)) pss_nil)
    (pss_cons (ps_asg (pv 2) (pgT K rfl (pgs_cons (pgT K rfl (pgs_cons (pg_name (i := 5) sc_law_odd_right.nd rfl (Or.inl rfl)) (pgs_cons (pg_name (i := 6) sc_law_odd_right.nd rfl (Or.inl rfl)) pgs_nil))) (pgs_cons (pgT K rfl (pgs_cons (pg_name (i := 7) sc_law_odd_right.nd rfl (Or.inl rfl)) (pgs_cons (pg_name (i := 8) sc_law_odd_right.nd rfl (Or.inl rfl)) pgs_nil))) pgs_nil))))
    (pss_cons (ps_set (i := 9) sc_law_odd_right.nd rfl (Or.inl rfl) (pe_lstZ (pa_cons (pv 3) (pa_cons (pe_tup (pa_cons (pe_ix (ixK K) (pv 2) pe_int (fun _ _ => rfl)) pa_nil)) (pa_cons (pe_revT K (pv 2)) (pa_cons (pe_tup (pa_cons (pe_tup (pa_cons (pv 5) (pa_cons pe_int pa_nil))) (pa_cons (pe_tup (pa_cons (pv 7) (pa_cons (pv 8) pa_nil))) pa_nil))) (pa_cons (pe_tup (pa_cons (pv 5) (pa_cons (pv 7) pa_nil))) (pa_cons (pe_lstL (pa_cons (pe_ix (ixK K) (pv 2) pe_int (fun _ _ => rfl)) (pa_cons (pe_ix (ixK K) (pv 2) pe_int (fun _ _ => rfl)) pa_nil))) pa_nil))))))))
    (pss_cons (ps_set (i := 10) sc_law_odd_right.nd rfl (Or.inl rfl) (pe_ix (ixZK K) (pe_op (catZK K) (pv 9) (pe_lst (pa_cons (pe_tup (pa_cons (pe_tup (pa_cons (pv 5) (pa_cons (pv 6) pa_nil))) (pa_cons (pe_tup (pa_cons (pe_tup (pa_cons pe_int (pa_cons pe_int pa_nil))) (pa_cons (pv 8) pa_nil))) pa_nil))) pa_nil))) (pe_cal c_law_take (hr.mono (by decide)) hgu (by rfl) (pa_cons (pv 0) (pa_cons pe_int pa_nil))) (fun _ _ => rfl)))
    (pss_cons (ps_if (pt_cmpR (inK K) (zP (pe_callB (reprK K hgu hr.units) (by rfl) b_repr (by decide +kernel) (pa_cons (pv 10) pa_nil))) (pe_lc (own := [("_law_one", 11)]) (g := gName 11) rfl sc_law_odd_right.nd (piA K (pe_cal0 c_law_cones (hr.mono (by decide)) hgu (by rfl))) (blkOk_by (own := [("_law_one", 11)]) (N := N_law_odd_right) (sc := defScope s_law_odd_right) (by decide +kernel)) (fun _ _ _ _ _ => (pg_name (i := 11) sc_law_odd_right.nd rfl (Or.inl rfl))) (fun _ _ _ _ _ => pts_nil) (fun _ _ _ _ _ => (pe_callB (reprK K hgu hr.units) (by rfl) b_repr (by decide +kernel) (pa_cons (pv 11) pa_nil)))) (by rfl)) (pss_one (ps_ret (pe_cmpR op_isBl (pe_calR c_is_cone (hr.mono (by decide)) hgu (by rfl) (pa_cons (pv 10) pa_nil)) pe_bl (nomark _)))) pss_nil)
    (pss_one (ps_ret (pe_and (pe_cmpR op_isBl (pe_calR c_is_cone (hr.mono (by decide)) hgu (by rfl) (pa_cons (pv 10) pa_nil)) pe_bl (nomark _)) (pe_one (pe_cal c_law_refused (hr.mono (by decide)) hgu (by rfl) (pa_cons (pe_cal c_law_asked (hr.mono (by decide)) hgu (by rfl) (pa_cons (pv 1) (pa_cons (pv 10) pa_nil))) (pa_cons pe_str (pa_cons (pv 10) pa_nil)))))))))))))))), ?_⟩
  try dsimp only [cxOf]
  refine pu_body h (fun ds m pp hl hp hc e hn hz => ?_)
  obtain ⟨c, rfl, hcm⟩ := hp
  have hc : 3 ≤ m := hc
  have fin : ∀ (r : D) (y : S) (j : Nat) (o : Bool), r = .bool true → (⟨pp, o, .pu j⟩ : Cl) ∈ y.m → m - 3 ≤ j → e.rt (.d r) y := fun r y j o h1 h2 h3 => hz _ _ j o h1 h2 h3
  obtain ⟨non1, non2, non3⟩ := nonC_ok c (lawD_cs hcm)
  show wS _ _ ⟨[some (.lab pp), some (.d (mxD ⟨2, 1, 1, 1⟩)), some (.d (.tuple [.tuple [.tuple [.int c.u0, .int c.u1], .bool c.ui], .tuple [.tuple [.int c.v0, .int c.v1], .bool c.vi]])), none, none, none, none, none, none, none, none, none], [⟨pp, false, .pu m⟩]⟩ _
  repeat' walk_at "ux"
  rintro z1 nw1 ⟨c1, m1, t1⟩
  obtain ⟨rw1, sh1, ro1⟩ := odds_rw c1 m1
  show wS _ (tSeq (tIfS _ _ _) _) ⟨[some (.lab pp), some (.d (mxD ⟨2, 1, 1, 1⟩)), some (.d (.tuple [.tuple [.tuple [.int c.u0, .int c.u1], .bool c.ui], .tuple [.tuple [.int c.v0, .int c.v1], .bool c.vi]])), some z1, none, none, none, none, none, none, none, none], [⟨pp, false, .pu (m - 1)⟩] ++ toCl true nw1⟩ _
  generalize hP : (⟨pp, false, .pu (m - 1)⟩ : Cl) = P
  show wS _ (tSeq (tIfS _ _ _) _) ⟨[some (.lab pp), some (.d (mxD ⟨2, 1, 1, 1⟩)), some (.d (.tuple [.tuple [.tuple [.int c.u0, .int c.u1], .bool c.ui], .tuple [.tuple [.int c.v0, .int c.v1], .bool c.vi]])), some z1, none, none, none, none, none, none, none, none], P :: toCl true nw1⟩ _
  refine seq_join (fun y => ∃ n' i, i ≤ 1 ∧ Th z1 n' (grN i c1) ∧ y = ⟨[some (.lab pp), some (.d (mxD ⟨2, 1, 1, 1⟩)), some (.d (.tuple [.tuple [.tuple [.int c.u0, .int c.u1], .bool c.ui], .tuple [.tuple [.int c.v0, .int c.v1], .bool c.vi]])), some z1, none, none, none, none, none, none, none, none], P :: toCl true n'⟩) ?_ ?_
  · refine wS_ifN ?_
    cases hr : rowsB c1.dat with
    | true =>
      obtain rfl := ro1 hr
      cases t1 with
      | pl _ =>
        repeat' walk_at "ux"
        refine wE_neA ?_
        repeat' walk_at "ux"
        refine .inl ⟨_, .d _, by decide +kernel, ?_⟩
        refine ⟨false, by rw [show (!PyData.eqv (.tuple [.tuple [.int 1, .int 0], .tuple [.int 0, .int 1]]) (.tuple [.tuple [.int 1, .int 0], .tuple [.int 0, .int 1]])) = false from by decide +kernel], itb_f rfl ?_⟩
        exact ⟨[], 0, by decide, .pl _, rfl⟩
    | false =>
      have cmp : ∀ (Q : Z → S → Prop), (∀ b : Bool, Q (.d (.bool b)) ⟨[some (.lab pp), some (.d (mxD ⟨2, 1, 1, 1⟩)), some (.d (.tuple [.tuple [.tuple [.int c.u0, .int c.u1], .bool c.ui], .tuple [.tuple [.int c.v0, .int c.v1], .bool c.vi]])), some z1, none, none, none, none, none, none, none, none], P :: toCl true nw1⟩) → wE { K := K } (tOp (rNeA K) (tVar 3) (tTup (tCons (tTup (tCons (tC (.int 1)) (tCons (tC (.int 0)) tNil))) (tCons (tTup (tCons (tC (.int 0)) (tCons (tC (.int 1)) tNil))) tNil)))) ⟨[some (.lab pp), some (.d (mxD ⟨2, 1, 1, 1⟩)), some (.d (.tuple [.tuple [.tuple [.int c.u0, .int c.u1], .bool c.ui], .tuple [.tuple [.int c.v0, .int c.v1], .bool c.vi]])), some z1, none, none, none, none, none, none, none, none], P :: toCl true nw1⟩ Q := fun Q h => by
        refine wE_neA ?_
        repeat' walk_at "ux"
        rcases odds_shp c1 m1 with ⟨kvs, rfl⟩ | hs
        · cases t1 with
          | dc a _ => exact .inr ⟨a, true, 1, _, rfl, rfl, h true⟩
        · exact .inl ⟨c1.dat, t1.res (b := true) (List.subset_cons_self _ _), hs, h _⟩
      repeat' walk_at "ux"
      refine cmp _ (fun b => ⟨b, rfl, ?_⟩)
      cases b with
      | false => exact itb_f rfl ⟨nw1, 0, by decide, t1, rfl⟩
      | true =>
        refine itb_t rfl ?_
        repeat' walk_at "ux"
        refine ⟨[c1.dat, .none], .cons (t1.res (b := true) (List.subset_cons_self _ _)) (.cons (.d _) .nil), ⟨rfl, _, _, _, _, rfl, rfl, rw1, fun m' e' => by rw [e', rowsB_of] at hr; cases hr⟩, fun z hz' => ?_⟩
        obtain rfl := ask_rows (ds := [c1.dat, .none]) hr hz'
        repeat' walk_at "ux"
        refine ⟨[P], nw1, [], true, (by simp), t1.ro, rfl, ⟨"rows", z1, c1, rfl, t1, odds_v c1 m1 0 (by decide)⟩, ?_⟩
        rintro d3 m3' ⟨rfl, hpost⟩ hm' hr'
        have h3 := hpost "rows" z1 c1 rfl t1
        refine ⟨true, rfl, itb_f rfl ?_⟩
        exact ⟨m3', 1, by decide, h3, by simp⟩
  rintro _ ⟨n1, i1, hi1, th1, rfl⟩
  subst hP
  repeat' walk_at "ux"
  rename_i r r0 r1
  refine ixD_any r0 r1 (fun x hx => ?_)
  obtain ⟨mf, rfl, hmf⟩ : ∃ mf, x = mxD mf ∧ mf ∈ flatL := by
    simp only [List.mem_cons, List.not_mem_nil, or_false] at hx
    rcases hx with rfl | rfl | rfl
    · exact ⟨⟨2, 4, 1, 2⟩, rfl, by simp [flatL]⟩
    · exact ⟨⟨0, 0, 3, 1⟩, rfl, by simp [flatL]⟩
    · exact ⟨⟨0, 0, 0, 0⟩, rfl, by simp [flatL]⟩
  clear hx
  obtain ⟨hf1, hf2, hf3⟩ := flat_ok mf hmf
  repeat' walk_at "ux"
  refine ⟨[mxD mf, .none], .cons (.d _) (.cons (.d _) .nil), ⟨rfl, _, _, _, _, rfl, rfl, rwok_mx (hf2.mono (by decide)), fun m' e' => ⟨by rw [← mxD_inj e']; exact hf2, fun hn => absurd hf1 (by rw [mxD_inj e']; exact hn)⟩⟩, fun z hz' => ?_⟩
  obtain rfl := ask_flat hf1 hz'
  repeat' walk_at "ux"
  refine ⟨⟨pp, false, .pu (m - 1 - 1)⟩ :: toCl true n1, [], [], true, (by simp [toCl]), (fun _ h => by cases h), rfl, ⟨"flat", _, _, rfl, .pl _, hf3⟩, ?_⟩
  rintro d3 m3' ⟨rfl, hpost⟩ hm' hr'
  obtain rfl : m3' = [] := by simpa using hm'
  clear hpost hr' hm'
  repeat' walk_at "ux"
  refine wE_revT ?_
  repeat' walk_at "ux"
  rename_i q r r0 r1
  refine ixZ_any r0 r1 (fun u hu => ?_)
  obtain ⟨nw, cu, tu, vu, shu, st⟩ : ∃ nw cu, Th u nw cu ∧ VOk cu ∧ ShOk cu.dat ∧ (toCl true nw).Sublist (toCl true n1 ++ [⟨q, true, .lst ([sdU c, sdV c].map Z.d)⟩]) := by
    have pl : ∀ d ∈ nonC c, ∃ nw cu, Th (.d d) nw cu ∧ VOk cu ∧ ShOk cu.dat ∧ (toCl true nw).Sublist (toCl true n1 ++ [⟨q, true, .lst ([sdU c, sdV c].map Z.d)⟩]) := fun d hd => ⟨[], .pl d, .pl d, non1 d hd, (non1 d hd).sh, List.nil_sublist _⟩
    simp only [List.cons_append, List.nil_append, List.map_cons, List.map_nil, List.mem_cons, List.not_mem_nil, or_false] at hu
    rcases hu with rfl | rfl | rfl | rfl | rfl | rfl | rfl
    · refine ⟨n1, _, th1, odds_v c1 m1 i1 (by omega), ?_, List.sublist_append_left _ _⟩
      rcases (show i1 = 0 ∨ i1 = 1 by omega) with rfl | rfl
      · exact sh1
      · exact (odds_v c1 m1 0 (by decide)).sh
    · exact pl (.tuple [sdU c]) (by simp [nonC])
    · exact pl (.tuple [sdV c, sdU c]) (by simp [nonC])
    · exact pl (.tuple [.tuple [uD c, .int 1], sdV c]) (by simp [nonC])
    · exact pl (.tuple [uD c, vD c]) (by simp [nonC])
    · exact ⟨[(q, .lst ([sdU c, sdV c].map Z.d))], .ls [sdU c, sdV c], .ls q _, non2, non3, List.sublist_append_right _ _⟩
    · exact pl (.tuple [.tuple [uD c, .bool c.ui], .tuple [.tuple [.int 3, .int 1], .bool c.vi]]) (by simp [nonC])
  clear hu
  generalize hP : (⟨pp, false, .pu (m - 1 - 1 - 1)⟩ : Cl) = P
  generalize hCD : (PyData.tuple [.tuple [.tuple [.int c.u0, .int c.u1], .bool c.ui], .tuple [.tuple [.int c.v0, .int c.v1], .bool c.vi]]) = CD
  refine wS_weak (y' := ⟨[some (.lab pp), some (.d (mxD ⟨2, 1, 1, 1⟩)), none, none, none, none, none, none, none, none, some u, none], P :: toCl true nw⟩) ?_ ?_
  · clear hCD
    have ru : Res (P :: toCl true nw) u cu.dat := tu.res (b := true) (List.subset_cons_self _ _)
    have bM : MB 100 ⟨2, 1, 1, 1⟩ := ⟨Bd.mono (Bd.lit (k := 1) (x := 2) (by decide)) (by decide), Bd.mono (Bd.lit (k := 1) (x := 1) (by decide)) (by decide), Bd.mono (Bd.lit (k := 1) (x := 1) (by decide)) (by decide), Bd.mono (Bd.lit (k := 1) (x := 1) (by decide)) (by decide)⟩
    repeat' walk_at "ux"
    refine wE_inT ?_
    repeat' walk_at "ux"
    refine ⟨cu.dat, ru, shu, ?_⟩
    refine wE_lcF (y' := ⟨[some (.lab pp), some (.d (mxD ⟨2, 1, 1, 1⟩)), none, none, none, none, none, none, none, none, some u, none], P :: toCl true nw⟩) (fun _ => true) (fun d => .str d.shown) (wI_anyL ?_)
    repeat' walk_at "ux"
    refine ⟨fun x hx => ?_, ?_⟩
    · have hs := (lawD_con x hx).2
      dsimp only [S.set, List.set]
      refine wT_yes ⟨rfl, rfl, fun _ => ?_⟩
      repeat' walk_at "ux"
      all_goals rfl
    refine ⟨_, _, rfl, .inr rfl, rfl, ?_, ?_⟩
    · rw [List.all_map]; exact List.all_eq_true.mpr fun _ _ => rfl
    rw [filter_tt, con_law]
    cases hcon : conD cu.dat with
    | true =>
      refine ⟨_, rfl, itb_t rfl ?_⟩
      repeat' walk_at "ux"
      refine ⟨[cu.dat], .cons ru .nil, ⟨rfl, shu⟩, rfl, ?_⟩
      rw [show conD (a0 [cu.dat]) = conD cu.dat from rfl, hcon]
      repeat' walk_at "ux"
      subst hP
      exact fin _ _ _ _ rfl (.head _) (by omega)
    | false =>
      refine ⟨_, rfl, itb_f rfl ?_⟩
      repeat' walk_at "ux"
      refine ⟨[cu.dat], .cons ru .nil, ⟨rfl, shu⟩, rfl, ?_⟩
      rw [show conD (a0 [cu.dat]) = conD cu.dat from rfl, hcon]
      repeat' walk_at "ux"
      refine ⟨[mxD ⟨2, 1, 1, 1⟩, cu.dat], .cons (.d _) (.cons ru .nil), ⟨rfl, _, _, _, _, rfl, rfl, rwok_mx (bM.mono (by decide)), fun m' e' => ⟨by rw [← mxD_inj e']; exact bM, fun _ => ⟨shu, fun h => by rw [hcon] at h; cases h⟩⟩⟩, fun z hz' => ?_⟩
      obtain rfl := ask_cone (by decide) hcon hz'
      repeat' walk_at "ux"
      refine ⟨[P], nw, [], true, (by simp), tu.ro, rfl, ⟨"cone", u, cu, rfl, tu, vu⟩, ?_⟩
      rintro d4 m4' ⟨rfl, hpost⟩ hm' hr'
      subst hP
      exact fin _ _ _ _ rfl (.head _) (by omega)
  · refine less_mk' ?_ ?_
    · repeat' (first | exact less_nil | refine less_none ?_ | refine less_some ?_)
    · subst hP
      refine .cons₂ _ ?_
      simpa [toCl, sdU, sdV, uD, vD] using st
abbrev s_law : Stmt := topS 61
abbrev N_law : List Str := ["_law_script", "_law_k", "_law_purse_here", "_law_sides", "_law_some"]
theorem sc_law : FnScope N_law ["_law_script"] (defScope s_law) := ⟨rfl, rfl, rfl, by decide +kernel, rfl, by decide +kernel, by decide +kernel⟩
theorem ok_law {f : Addr} {fd : FuncData} (F : Fun K "law" "law" s_law f fd) (c_is_cone : Cal P w K mg base 6 "is_cone" ["thing"] (Ux.sp_is_cone K)) (c_law_cell : Cal P w K mg base 1 "_law_cell" ["_law_script", "_law_k"] (sp_law_cell K)) (c_law_purse : Cal P w K mg base 1 "_law_purse" ["_law_cell_here"] (sp_law_purse K)) (c_law_take : Cal P w K mg base 1 "_law_take" ["_law_purse_here", "_law_many"] (sp_law_take K)) (c_law_cones : Cal P w K mg base 5 "_law_cones" [] (Ux.sp_law_cones K)) (c_law_rows : Cal P w K mg base 2 "_law_rows" ["_law_purse_here", "_law_sides"] (Ux.sp_law_rows K)) (c_law_right : Cal P w K mg base 8 "_law_right" ["_law_purse_here", "_law_rows_here", "_law_sides"] (Ux.sp_law_right K)) (c_law_odd_right : Cal P w K mg base 9 "_law_odd_right" ["_law_purse_here", "_law_rows_here", "_law_sides"] (Ux.sp_law_odd_right K)) (b_len : mg "len" = none) (b_max : mg "max" = none) (b_min : mg "min" = none) (b_range : mg "range" = none) : FnG P w K mg base CX0 10 f fd ["_law_script"] (sp_law K) := by
  refine okG F sc_law spLaw_len (fun cdv A outer s H vs Q E hr hgu h => ?_)
  refine ⟨_, (pss_cons (ps_for PassesOwn.never rfl (pi_range1 (by rfl) b_range (pa_cons (pe_callB (call_max2 rfl) (by rfl) b_max (by decide +kernel) (pa_cons pe_int (pa_cons (pe_callB (call_min2 rfl) (by rfl) b_min (by decide +kernel) (pa_cons pe_int (pa_cons (pe_callB (lenK K) (by rfl) b_len (by decide +kernel) (pa_cons (pv 0) pa_nil)) pa_nil))) pa_nil))) pa_nil)) (pg_name (i := 1) sc_law.nd rfl (Or.inl rfl)) (pss_cons (ps_set (i := 2) sc_law.nd rfl (Or.inl rfl) (pe_cal c_law_purse (hr.mono (by decide)) hgu (by rfl) (pa_cons (pe_cal c_law_cell (hr.mono (by decide)) hgu (by rfl) (pa_cons (pv 0) (pa_cons (pv 1) pa_nil))) pa_nil)))
    (pss_cons (ps_for PassesOwn.never rfl (piA K (pe_cal0 c_law_cones (hr.mono (by decide)) hgu (by rfl))) (pg_name (i := 3) sc_law.nd rfl (Or.inl rfl)) (pss_one (ps_if (PW.pt (pw_or (pt_cmpR op_notBl (pe_cal c_is_cone (hr.mono (by decide)) hgu (by rfl) (pa_cons (pv 3) pa_nil)) pe_bl (nomark _)) (pw_or1 (pt_not (pt_val (pe_cal c_law_right (hr.mono (by decide)) hgu (by rfl) (pa_cons (pv 2) (pa_cons (pe_cal c_law_rows (hr.mono (by decide)) hgu (by rfl) (pa_cons (pv 2) (pa_cons (pv 3) pa_nil))) (pa_cons (pv 3) pa_nil))))))))) (pss_one (ps_ret pe_bl)) pss_nil)))
    (pss_cons (ps_set (i := 4) sc_law.nd rfl (Or.inl rfl) (pe_cal0 c_law_cones (hr.mono (by decide)) hgu (by rfl)))
    (pss_one (ps_if (pt_not (pt_val (pe_cal c_law_odd_right (hr.mono (by decide)) hgu (by rfl) (pa_cons (pv 2) (pa_cons (pe_tup (pa_cons (pe_tup (pa_cons pe_int (pa_cons pe_int pa_nil))) (pa_cons (pe_tup (pa_cons pe_int (pa_cons pe_int pa_nil))) pa_nil))) (pa_cons (pe_ix (ixK K) (pv 4) (pe_cal c_law_take (hr.mono (by decide)) hgu (by rfl) (pa_cons (pv 2) (pa_cons (pe_callB (lenK K) (by rfl) b_len (by decide +kernel) (pa_cons (pv 4) pa_nil)) pa_nil))) (fun _ _ => rfl)) pa_nil)))))) (pss_one (ps_ret pe_bl)) pss_nil))))))
    (pss_one (ps_ret pe_bl))), ?_⟩
  try dsimp only [cxOf]
  refine law_body h (fun ns hl e hz => ?_)
  refine law_loop (n := 3) (by decide) hz (fun k k0 k1 => ?_)
  show wS _ _ ⟨[some (.d (.list (ns.map PyData.int))), some (.d (.int k)), none, none, none], _⟩ _
  repeat' walk_at "ux"
  refine ⟨⟨ns, k, rfl, k0, k1⟩, ?_⟩
  rintro _ ⟨c, rfl⟩
  repeat' walk_at "ux"
  rename_i pp
  refine wS_for (wI_anyL ?_)
  repeat' walk_at "ux"
  refine forJ (fun i y => ∃ n, 7999990 - 8 * i ≤ n ∧ y = ⟨[some (.d (.list (ns.map PyData.int))), some (.d (.int k)), some (.lab pp), none, none], [⟨pp, true, .pu n⟩]⟩) ⟨_, ⟨_, by omega, rfl⟩, Less.refl _⟩ (fun i x y' hx ⟨n, hn, ey⟩ => ?_) (fun y2 y' ⟨n, hn, ey⟩ hl => ?_)
  · subst ey
    have hi : i < 11 := (List.getElem?_eq_some_iff.mp hx).1
    have hm := List.mem_of_getElem? hx
    obtain ⟨hcon, hsh⟩ := lawD_con x hm
    obtain ⟨c, rfl, hcb, hdet⟩ := lawD_cn x hm
    repeat' walk_at "ux"
    refine ⟨⟨rfl, hsh⟩, ?_⟩
    rw [show conD (a0 [Cn.d c]) = conD (Cn.d c) from rfl, hcon]
    repeat' walk_at "ux"
    refine ⟨⟨c, rfl, hcb⟩, by omega, ?_⟩
    rintro _ ⟨m, rfl, hnf⟩
    repeat' walk_at "ux"
    refine ⟨⟨m, c, rfl, hnf, hcb, hdet, hsh, hcon⟩, by omega, ?_⟩
    rintro _ rfl
    repeat' walk_at "ux"
    refine ⟨_, ⟨n - 6 - 2, by omega, rfl⟩, ?_⟩
    refine less_mk' ?_ (List.Sublist.refl _)
    repeat' (first | exact less_nil | refine less_none ?_ | refine less_some ?_)
  · subst ey
    have hl11 : lawD.length = 11 := rfl
    have hn : 7999900 ≤ n := by omega
    refine wS_weak ?_ hl
    clear hl
    repeat' walk_at "ux"
    rename_i r r0 r1
    refine ixD_any r0 r1 (fun x hx => ?_)
    obtain ⟨c, rfl, hcb, hdet⟩ := lawD_cn x hx
    repeat' walk_at "ux"
    refine ⟨⟨c, rfl, hx⟩, by omega, ?_⟩
    rintro _ rfl
    repeat' walk_at "ux"
    exact ⟨rfl, rfl⟩
theorem row_ok {C_NoManner C_NoRow C_NoFraction C_NoRows C_Flat C_NoCone C_Ceils C_Manner C_Nears C_TermError : Addr}
    {f_Manner_begins f_Manner_cone_behind f_Nears_begins f_Ceils_cone_behind f_Nears_cone_behind f_Manner_fits f_Ceils_fits f_Nears_fits : Addr}
    (tx : TxC K mg "TermError")
    (y_NoManner : XcT K mg "NoManner" "NoManner.__init__" s_i_NoManner C_NoManner)
    (y_NoRow : XcT K mg "NoRow" "NoRow.__init__" s_i_NoRow C_NoRow)
    (y_NoFraction : XcT K mg "NoFraction" "NoFraction.__init__" s_i_NoFraction C_NoFraction)
    (y_NoRows : XcT K mg "NoRows" "NoRows.__init__" s_i_NoRows C_NoRows)
    (y_Flat : XcT K mg "Flat" "Flat.__init__" s_i_Flat C_Flat)
    (y_NoCone : XcT K mg "NoCone" "NoCone.__init__" s_i_NoCone C_NoCone)
    (t_NoRows_NoRows : PySem.W.exmOne K (.ref C_NoRows) (.ref C_NoRows) = some true)
    (t_Flat_NoRows : PySem.W.exmOne K (.ref C_Flat) (.ref C_NoRows) = some false)
    (t_NoCone_NoRows : PySem.W.exmOne K (.ref C_NoCone) (.ref C_NoRows) = some false)
    (t_Flat_Flat : PySem.W.exmOne K (.ref C_Flat) (.ref C_Flat) = some true)
    (t_NoCone_Flat : PySem.W.exmOne K (.ref C_NoCone) (.ref C_Flat) = some false)
    (t_NoCone_NoCone : PySem.W.exmOne K (.ref C_NoCone) (.ref C_NoCone) = some true)
    (q_Flat : ExcC K C_Flat)
    (q_NoCone : ExcC K C_NoCone)
    (q_NoRows : ExcC K C_NoRows)
    (g_Ceils : mg "Ceils" = some (.ref C_Ceils))
    (g_Flat : mg "Flat" = some (.ref C_Flat))
    (g_Manner : mg "Manner" = some (.ref C_Manner))
    (g_Nears : mg "Nears" = some (.ref C_Nears))
    (g_NoRows : mg "NoRows" = some (.ref C_NoRows))
    (g_TermError : mg "TermError" = some (.ref C_TermError))
    (k_Flat_NoRows : PySem.W.kitOne K (.ref C_Flat) (.ref C_NoRows) = some false)
    (k_Flat_TermError : PySem.W.kitOne K (.ref C_Flat) (.ref C_TermError) = some true)
    (k_NoCone_NoRows : PySem.W.kitOne K (.ref C_NoCone) (.ref C_NoRows) = some false)
    (k_NoCone_TermError : PySem.W.kitOne K (.ref C_NoCone) (.ref C_TermError) = some true)
    (k_NoRows_Flat : PySem.W.kitOne K (.ref C_NoRows) (.ref C_Flat) = some false)
    (k_NoRows_TermError : PySem.W.kitOne K (.ref C_NoRows) (.ref C_TermError) = some true)
    (n_Ceils : Mk0 K C_Ceils)
    (n_Manner : Mk0 K C_Manner)
    (n_Nears : Mk0 K C_Nears)
    (cl_Ceils : Cls K C_Ceils)
    (cl_Manner : Cls K C_Manner)
    (cl_Nears : Cls K C_Nears)
    (me_Manner_begins : Meth K C_Manner "begins" f_Manner_begins)
    (me_Ceils_begins : Meth K C_Ceils "begins" f_Manner_begins)
    (me_Nears_begins : Meth K C_Nears "begins" f_Nears_begins)
    (me_Manner_cone_behind : Meth K C_Manner "cone_behind" f_Manner_cone_behind)
    (me_Ceils_cone_behind : Meth K C_Ceils "cone_behind" f_Ceils_cone_behind)
    (me_Nears_cone_behind : Meth K C_Nears "cone_behind" f_Nears_cone_behind)
    (me_Manner_fits : Meth K C_Manner "fits" f_Manner_fits)
    (me_Ceils_fits : Meth K C_Ceils "fits" f_Ceils_fits)
    (me_Nears_fits : Meth K C_Nears "fits" f_Nears_fits)
    (d_Manner_begins : MFn K "begins" "Manner.begins" s_Manner_begins ["self"] f_Manner_begins)
    (d_Manner_cone_behind : MFn K "cone_behind" "Manner.cone_behind" s_Manner_cone_behind ["self", "last"] f_Manner_cone_behind)
    (d_Nears_begins : MFn K "begins" "Nears.begins" s_Nears_begins ["self"] f_Nears_begins)
    (d_Ceils_cone_behind : MFn K "cone_behind" "Ceils.cone_behind" s_Ceils_cone_behind ["self", "last"] f_Ceils_cone_behind)
    (d_Nears_cone_behind : MFn K "cone_behind" "Nears.cone_behind" s_Nears_cone_behind ["self", "last"] f_Nears_cone_behind)
    (d_Manner_fits : MFn K "fits" "Manner.fits" s_Manner_fits ["self", "ahead", "term"] f_Manner_fits)
    (d_Ceils_fits : MFn K "fits" "Ceils.fits" s_Ceils_fits ["self", "ahead", "term"] f_Ceils_fits)
    (d_Nears_fits : MFn K "fits" "Nears.fits" s_Nears_fits ["self", "ahead", "term"] f_Nears_fits)
    (d_is_manner : Df K mg "is_manner" s_is_manner ["thing"])
    (d_manner_of : Df K mg "manner_of" s_manner_of ["word"])
    (d_all_manners : Df K mg "all_manners" s_all_manners [])
    (d_all_cones : Df K mg "all_cones" s_all_cones [])
    (d_is_cone : Df K mg "is_cone" s_is_cone ["thing"])
    (d_law_cell : Df K mg "_law_cell" s_law_cell ["_law_script", "_law_k"])
    (d_law_purse : Df K mg "_law_purse" s_law_purse ["_law_cell_here"])
    (d_law_take : Df K mg "_law_take" s_law_take ["_law_purse_here", "_law_many"])
    (d_is_number : Df K mg "is_number" s_is_number ["thing"])
    (d_is_beginning : Df K mg "is_beginning" s_is_beginning ["manner", "thing"])
    (d_need_beginning : Df K mg "need_beginning" s_need_beginning ["manner", "thing"])
    (d_cone : DfD K mg "cone" s_cone ["terms", "manner"] (.str "floor"))
    (d_law_cones : Df K mg "_law_cones" s_law_cones [])
    (d_law_rows : Df K mg "_law_rows" s_law_rows ["_law_purse_here", "_law_sides"])
    (d_common : Df K mg "common" s_common ["one", "other"])
    (d_made : Df K mg "made" s_made ["top", "bottom"])
    (d_is_fraction : Df K mg "is_fraction" s_is_fraction ["thing"])
    (d_need_fraction : Df K mg "need_fraction" s_need_fraction ["thing"])
    (d_sign_of : Df K mg "sign_of" s_sign_of ["one", "other"])
    (d_is_rows : Df K mg "is_rows" s_is_rows ["thing"])
    (d_need_rows : Df K mg "need_rows" s_need_rows ["thing"])
    (d_applied : Df K mg "applied" s_applied ["rows", "vector"])
    (d_range_of : Df K mg "range_of" s_range_of ["rows", "cone"])
    (d_law_common : Df K mg "_law_common" s_law_common ["_law_one", "_law_other"])
    (d_law_lowest : Df K mg "_law_lowest" s_law_lowest ["_law_top", "_law_bottom"])
    (d_law_value : Df K mg "_law_value" s_law_value ["_law_rows_here", "_law_sides", "_law_k", "_law_l"])
    (d_law_inside : Df K mg "_law_inside" s_law_inside ["_law_found", "_law_value_here"])
    (d_law_weights : Df K mg "_law_weights" s_law_weights ["_law_purse_here", "_law_sides"])
    (d_law_none_right : Df K mg "_law_none_right" s_law_none_right ["_law_rows_here", "_law_sides"])
    (d_law_right : Df K mg "_law_right" s_law_right ["_law_purse_here", "_law_rows_here", "_law_sides"])
    (d_law_odd : Df K mg "_law_odd" s_law_odd ["_law_purse_here"])
    (d_law_asked : Df K mg "_law_asked" s_law_asked ["_law_rows_here", "_law_sides"])
    (d_law_very : Df K mg "_law_very" s_law_very ["_law_found", "_law_thing"])
    (d_law_refused : Df K mg "_law_refused" s_law_refused ["_law_found", "_law_word", "_law_thing"])
    (d_law_odd_right : Df K mg "_law_odd_right" s_law_odd_right ["_law_purse_here", "_law_rows_here", "_law_sides"])
    (b_abs : mg "abs" = none)
    (b_all : mg "all" = none)
    (b_bool : mg "bool" = none)
    (b_dict : mg "dict" = none)
    (b_int : mg "int" = none)
    (b_isinstance : mg "isinstance" = none)
    (b_len : mg "len" = none)
    (b_list : mg "list" = none)
    (b_max : mg "max" = none)
    (b_min : mg "min" = none)
    (b_range : mg "range" = none)
    (b_repr : mg "repr" = none)
    (b_str : mg "str" = none)
    (b_tuple : mg "tuple" = none)
    {t_CEIL : Tok} (m_CEIL : mg "CEIL" = some (.str "ceil" t_CEIL))
    {a_LASTS : Addr} (m_LASTS : Tq.GD K mg "LASTS" a_LASTS (PyData.tuple [(.int 1), (.int 2), (.int (-2)), (.int 3)]))
    {a_MANNERS : Addr} (m_MANNERS : Tq.GD K mg "MANNERS" a_MANNERS (PyData.tuple [(.str "floor"), (.str "ceil"), (.str "near")]))
    {t_NEAR : Tok} (m_NEAR : mg "NEAR" = some (.str "near" t_NEAR)) :
    ∀ (base : Heap) (f : Addr) (fd : FuncData), Fun K "law" "law" s_law f fd → FnG P w K mg base CX0 10 f fd ["_law_script"] (sp_law K) := by
  intro base f fd F
  have x_NoManner : Xc P w K mg base "NoManner" C_NoManner := xc_NoManner y_NoManner tx
  have x_NoRow : Xc P w K mg base "NoRow" C_NoRow := xc_NoRow y_NoRow tx
  have x_NoFraction : Xc P w K mg base "NoFraction" C_NoFraction := xc_NoFraction y_NoFraction tx
  have x_NoRows : Xc P w K mg base "NoRows" C_NoRows := xc_NoRows y_NoRows tx
  have x_Flat : Xc P w K mg base "Flat" C_Flat := xc_Flat y_Flat tx
  have x_NoCone : Xc P w K mg base "NoCone" C_NoCone := xc_NoCone y_NoCone tx
  have c_Manner_begins : MCal P w K mg base CX0 1 ["self"] (Ux.sp_begins K begF) f_Manner_begins := ok_Manner_begins d_Manner_begins 
  have c_Manner_cone_behind : MCal P w K mg base CX0 1 ["self", "last"] (Ux.sp_cone_behind K C_Manner .fl) f_Manner_cone_behind := ok_Manner_cone_behind d_Manner_cone_behind 
  have c_Nears_begins : MCal P w K mg base CX0 1 ["self"] (Ux.sp_begins K begR) f_Nears_begins := ok_Nears_begins d_Nears_begins 
  have v_begins : VTab P w K mg base CX0 1 "begins" [(C_Manner, Ux.sp_begins K begF), (C_Ceils, Ux.sp_begins K begF), (C_Nears, Ux.sp_begins K begR)] := (.cons (.of cl_Manner me_Manner_begins c_Manner_begins (by decide)) (.cons (.of cl_Ceils me_Ceils_begins c_Manner_begins (by decide)) (.cons (.of cl_Nears me_Nears_begins c_Nears_begins (by decide)) .nil)))
  have c_Ceils_cone_behind : MCal P w K mg base CX0 2 ["self", "last"] (Ux.sp_cone_behind K C_Ceils .ce) f_Ceils_cone_behind := ok_Ceils_cone_behind d_Ceils_cone_behind v_begins
  have c_Nears_cone_behind : MCal P w K mg base CX0 2 ["self", "last"] (Ux.sp_cone_behind K C_Nears .ne) f_Nears_cone_behind := ok_Nears_cone_behind d_Nears_cone_behind v_begins
  have c_is_manner : Cal P w K mg base 1 "is_manner" ["thing"] (sp_is_manner K) := ok_is_manner d_is_manner b_isinstance b_str m_MANNERS
  have c_manner_of : CalX P w K mg base 3 "manner_of" ["word"] (Ux.sp_manner_of K C_NoManner C_Manner C_Ceils C_Nears) := ok_manner_of d_manner_of x_NoManner g_Ceils g_Manner g_Nears c_is_manner n_Ceils n_Manner n_Nears m_CEIL m_NEAR
  have c_all_manners : Cal P w K mg base 4 "all_manners" [] (Ux.sp_all_manners K C_Manner C_Ceils C_Nears) := ok_all_manners d_all_manners c_manner_of m_MANNERS
  have v_cone_behind : VTab P w K mg base CX0 2 "cone_behind" [(C_Manner, Ux.sp_cone_behind K C_Manner .fl), (C_Ceils, Ux.sp_cone_behind K C_Ceils .ce), (C_Nears, Ux.sp_cone_behind K C_Nears .ne)] := (.cons (.of cl_Manner me_Manner_cone_behind c_Manner_cone_behind (by decide)) (.cons (.of cl_Ceils me_Ceils_cone_behind c_Ceils_cone_behind (by decide)) (.cons (.of cl_Nears me_Nears_cone_behind c_Nears_cone_behind (by decide)) .nil)))
  have c_all_cones : Cal P w K mg base 5 "all_cones" [] (Ux.sp_all_cones K) := ok_all_cones d_all_cones c_all_manners v_begins v_cone_behind m_LASTS
  have c_is_cone : Cal P w K mg base 6 "is_cone" ["thing"] (Ux.sp_is_cone K) := ok_is_cone d_is_cone c_all_cones b_repr
  have c_law_cell : Cal P w K mg base 1 "_law_cell" ["_law_script", "_law_k"] (sp_law_cell K) := ok_law_cell d_law_cell b_len
  have c_law_purse : Cal P w K mg base 1 "_law_purse" ["_law_cell_here"] (sp_law_purse K) := ok_law_purse d_law_purse b_max
  have c_law_take : Cal P w K mg base 1 "_law_take" ["_law_purse_here", "_law_many"] (sp_law_take K) := ok_law_take d_law_take 
  have c_is_number : Cal P w K mg base 1 "is_number" ["thing"] (sp_is_number K) := ok_is_number d_is_number b_bool b_int b_isinstance
  have c_Manner_fits : MCal P w K mg base CX0 1 ["self", "ahead", "term"] (Ux.sp_fits K .fl) f_Manner_fits := ok_Manner_fits d_Manner_fits 
  have c_Ceils_fits : MCal P w K mg base CX0 1 ["self", "ahead", "term"] (Ux.sp_fits K .ce) f_Ceils_fits := ok_Ceils_fits d_Ceils_fits 
  have c_Nears_fits : MCal P w K mg base CX0 1 ["self", "ahead", "term"] (Ux.sp_fits K .ne) f_Nears_fits := ok_Nears_fits d_Nears_fits 
  have v_fits : VTab P w K mg base CX0 1 "fits" [(C_Manner, Ux.sp_fits K .fl), (C_Ceils, Ux.sp_fits K .ce), (C_Nears, Ux.sp_fits K .ne)] := (.cons (.of cl_Manner me_Manner_fits c_Manner_fits (by decide)) (.cons (.of cl_Ceils me_Ceils_fits c_Ceils_fits (by decide)) (.cons (.of cl_Nears me_Nears_fits c_Nears_fits (by decide)) .nil)))
  have c_is_beginning : Cal P w K mg base 2 "is_beginning" ["manner", "thing"] (Ux.sp_is_beginning K C_Manner C_Ceils C_Nears) := ok_is_beginning d_is_beginning c_is_number v_fits b_all b_isinstance b_len b_list b_range b_tuple
  have c_need_beginning : CalX P w K mg base 3 "need_beginning" ["manner", "thing"] (Ux.sp_need_beginning K C_NoRow C_Manner C_Ceils C_Nears) := ok_need_beginning d_need_beginning x_NoRow c_is_beginning
  have c_cone : CalD P w K mg base 4 "cone" ["terms", "manner"] (Ux.sp_cone K C_NoManner C_NoRow C_Manner C_Ceils C_Nears) (.str "floor") := ok_cone d_cone x_NoRow c_manner_of c_need_beginning v_begins v_cone_behind b_len
  have c_law_cones : Cal P w K mg base 5 "_law_cones" [] (Ux.sp_law_cones K) := ok_law_cones d_law_cones c_cone
  have c_law_rows : Cal P w K mg base 2 "_law_rows" ["_law_purse_here", "_law_sides"] (Ux.sp_law_rows K) := ok_law_rows d_law_rows c_law_take b_range
  have c_common : Cal P w K mg base 1 "common" ["one", "other"] (sp_common K) := ok_common d_common b_abs
  have c_made : Cal P w K mg base 2 "made" ["top", "bottom"] (sp_made K) := ok_made d_made c_common
  have c_is_fraction : Cal P w K mg base 2 "is_fraction" ["thing"] (sp_is_fraction K) := ok_is_fraction d_is_fraction c_is_number c_common b_isinstance b_len b_tuple
  have c_need_fraction : CalX P w K mg base 3 "need_fraction" ["thing"] (Ux.sp_need_fraction K C_NoFraction) := ok_need_fraction d_need_fraction x_NoFraction c_is_fraction
  have c_sign_of : CalX P w K mg base 4 "sign_of" ["one", "other"] (Ux.sp_sign_of K C_NoFraction) := ok_sign_of d_sign_of c_need_fraction b_int
  have c_is_rows : Cal P w K mg base 2 "is_rows" ["thing"] (sp_is_rows K) := ok_is_rows d_is_rows c_is_number b_all b_isinstance b_len b_tuple
  have c_need_rows : CalX P w K mg base 3 "need_rows" ["thing"] (Ux.sp_need_rows K C_NoRows) := ok_need_rows d_need_rows x_NoRows c_is_rows
  have c_applied : Cal P w K mg base 1 "applied" ["rows", "vector"] (sp_applied K) := ok_applied d_applied 
  have c_range_of : CalX P w K mg base 7 "range_of" ["rows", "cone"] (Ux.sp_range_of K C_NoRows C_Flat C_NoCone) := ok_range_of d_range_of x_Flat x_NoCone c_made c_sign_of c_is_cone c_need_rows c_applied
  have c_law_common : Cal P w K mg base 1 "_law_common" ["_law_one", "_law_other"] (sp_law_common K) := ok_law_common d_law_common b_abs
  have c_law_lowest : Cal P w K mg base 2 "_law_lowest" ["_law_top", "_law_bottom"] (sp_law_lowest K) := ok_law_lowest d_law_lowest c_law_common b_int
  have c_law_value : Cal P w K mg base 1 "_law_value" ["_law_rows_here", "_law_sides", "_law_k", "_law_l"] (sp_law_value K) := ok_law_value d_law_value 
  have c_law_inside : Cal P w K mg base 1 "_law_inside" ["_law_found", "_law_value_here"] (sp_law_inside K) := ok_law_inside d_law_inside 
  have c_law_weights : Cal P w K mg base 2 "_law_weights" ["_law_purse_here", "_law_sides"] (Ux.sp_law_weights K) := ok_law_weights d_law_weights c_law_take b_int
  have c_law_none_right : Cal P w K mg base 2 "_law_none_right" ["_law_rows_here", "_law_sides"] (Ux.sp_law_none_right K) := ok_law_none_right d_law_none_right c_law_value b_abs
  have c_law_right : Cal P w K mg base 8 "_law_right" ["_law_purse_here", "_law_rows_here", "_law_sides"] (Ux.sp_law_right K) := ok_law_right d_law_right c_range_of c_law_lowest c_law_value c_law_inside c_law_weights c_law_none_right b_isinstance b_len b_repr b_tuple
  have c_law_odd : Cal P w K mg base 2 "_law_odd" ["_law_purse_here"] (Ux.sp_law_odd K) := ok_law_odd d_law_odd c_law_take
  have c_law_asked : Cal P w K mg base 8 "_law_asked" ["_law_rows_here", "_law_sides"] (Ux.sp_law_asked K) := ok_law_asked d_law_asked x_Flat x_NoCone x_NoRows t_NoRows_NoRows t_Flat_NoRows t_NoCone_NoRows t_Flat_Flat t_NoCone_Flat t_NoCone_NoCone q_Flat q_NoCone q_NoRows g_Flat g_NoRows g_TermError k_Flat_NoRows k_Flat_TermError k_NoCone_NoRows k_NoCone_TermError k_NoRows_Flat k_NoRows_TermError c_range_of b_isinstance
  have c_law_very : Cal P w K mg base 1 "_law_very" ["_law_found", "_law_thing"] (Ux.sp_law_very K) := ok_law_very d_law_very b_dict b_isinstance b_list b_repr
  have c_law_refused : Cal P w K mg base 2 "_law_refused" ["_law_found", "_law_word", "_law_thing"] (Ux.sp_law_refused K) := ok_law_refused d_law_refused c_law_very
  have c_law_odd_right : Cal P w K mg base 9 "_law_odd_right" ["_law_purse_here", "_law_rows_here", "_law_sides"] (Ux.sp_law_odd_right K) := ok_law_odd_right d_law_odd_right c_is_cone c_law_take c_law_odd c_law_cones c_law_asked c_law_refused b_repr
  exact ok_law F c_is_cone c_law_cell c_law_purse c_law_take c_law_cones c_law_rows c_law_right c_law_odd_right b_len b_max b_min b_range
end
end Ux
open PySem PySem.W PyProof.Rows
set_option maxHeartbeats 0 in
theorem PySem.Challenge.cw_termstream_k27_whole_ranges_of_rests_holds : PySem.Challenge.rw_termstream_k27_whole_ranges_of_rests.Holds := by
  w_on; o_law
  k_head
  (case hw => w_witness2)
  k_fill
  refine Tq.walk_ofG (l := PySem.Challenge.rw_termstream_k27_whole_ranges_of_rests) (n := 63) (k := 10) (x := "_law_script") (sp := Tq.sp_law) rfl (by decide) rfl ⟨rfl, by decide, by decide⟩ (fun w h Y => PySem.W.kIn_of Y) ?F (fun K H a ns hl _ hS => ⟨a, ns, rfl, hS, hl, fun _ => rfl⟩)
  case F =>
    intro w mg fa h KX G hmg
    refine' Tq.law_mk (st := Ux.s_law) KX G hmg (Ux.row_ok
      (Ux.txc_mk KX G ?xa ?xr ?xg ?xv)
      (Ux.xct_mk KX G (fun _ _ _ _ _ _ us hl => match us, hl with | [_, _], _ => rfl) ?X0aC ?X0xL ?X0vb ?X0sa ?X0ga ?X0gg ?X0nb ?X0a1 ?X0t1 ?X0l ?X0c ?X0k ?X0kC ?X0eC ?X0tC ?X0hC)
      (Ux.xct_mk KX G (fun _ _ _ _ _ _ us hl => match us, hl with | [_, _], _ => rfl) ?X1aC ?X1xL ?X1vb ?X1sa ?X1ga ?X1gg ?X1nb ?X1a1 ?X1t1 ?X1l ?X1c ?X1k ?X1kC ?X1eC ?X1tC ?X1hC)
      (Ux.xct_mk KX G (fun _ _ _ _ _ _ us hl => match us, hl with | [_, _], _ => rfl) ?X2aC ?X2xL ?X2vb ?X2sa ?X2ga ?X2gg ?X2nb ?X2a1 ?X2t1 ?X2l ?X2c ?X2k ?X2kC ?X2eC ?X2tC ?X2hC)
      (Ux.xct_mk KX G (fun _ _ _ _ _ _ us hl => match us, hl with | [_, _], _ => rfl) ?X3aC ?X3xL ?X3vb ?X3sa ?X3ga ?X3gg ?X3nb ?X3a1 ?X3t1 ?X3l ?X3c ?X3k ?X3kC ?X3eC ?X3tC ?X3hC)
      (Ux.xct_mk KX G (fun _ _ _ _ _ _ us hl => match us, hl with | [_, _], _ => rfl) ?X4aC ?X4xL ?X4vb ?X4sa ?X4ga ?X4gg ?X4nb ?X4a1 ?X4t1 ?X4l ?X4c ?X4k ?X4kC ?X4eC ?X4tC ?X4hC)
      (Ux.xct_mk KX G (fun _ _ _ _ _ _ us hl => match us, hl with | [_, _], _ => rfl) ?X5aC ?X5xL ?X5vb ?X5sa ?X5ga ?X5gg ?X5nb ?X5a1 ?X5t1 ?X5l ?X5c ?X5k ?X5kC ?X5eC ?X5tC ?X5hC)
      (Ux.exm_mk (mg := mg) (x := "") (y := "") ?E0b ?E0t ?E0c ?E0s)
      (Ux.exm_mk (mg := mg) (x := "") (y := "") ?E1b ?E1t ?E1c ?E1s)
      (Ux.exm_mk (mg := mg) (x := "") (y := "") ?E2b ?E2t ?E2c ?E2s)
      (Ux.exm_mk (mg := mg) (x := "") (y := "") ?E3b ?E3t ?E3c ?E3s)
      (Ux.exm_mk (mg := mg) (x := "") (y := "") ?E4b ?E4t ?E4c ?E4s)
      (Ux.exm_mk (mg := mg) (x := "") (y := "") ?E5b ?E5t ?E5c ?E5s)
      (Ux.excC_mk ?Q0hg ?Q0hk ?Q0hs ?Q0hd ?Q0ha ?Q0hn ?Q0ht ?Q0hm)
      (Ux.excC_mk ?Q1hg ?Q1hk ?Q1hs ?Q1hd ?Q1ha ?Q1hn ?Q1ht ?Q1hm)
      (Ux.excC_mk ?Q2hg ?Q2hk ?Q2hs ?Q2hd ?Q2ha ?Q2hn ?Q2ht ?Q2hm)
      (PySem.W.mg_of KX G ?G0)
      (PySem.W.mg_of KX G ?G1)
      (PySem.W.mg_of KX G ?G2)
      (PySem.W.mg_of KX G ?G3)
      (PySem.W.mg_of KX G ?G4)
      (PySem.W.mg_of KX G ?G5)
      (Ux.kit_mk ?I0n ?I0t ?I0c ?I0s)
      (Ux.kit_mk ?I1n ?I1t ?I1c ?I1s)
      (Ux.kit_mk ?I2n ?I2t ?I2c ?I2s)
      (Ux.kit_mk ?I3n ?I3t ?I3c ?I3s)
      (Ux.kit_mk ?I4n ?I4t ?I4c ?I4s)
      (Ux.kit_mk ?I5n ?I5t ?I5c ?I5s)
      ⟨?M0a, ?M0b, ?M0c, ?M0d⟩
      ⟨?M1a, ?M1b, ?M1c, ?M1d⟩
      ⟨?M2a, ?M2b, ?M2c, ?M2d⟩
      ⟨?L0a, ?L0b, ?L0c, ?L0d⟩
      ⟨?L1a, ?L1b, ?L1c, ?L1d⟩
      ⟨?L2a, ?L2b, ?L2c, ?L2d⟩
      ⟨?V0a, ?V0b, ?V0c⟩
      ⟨?V1a, ?V1b, ?V1c⟩
      ⟨?V2a, ?V2b, ?V2c⟩
      ⟨?V3a, ?V3b, ?V3c⟩
      ⟨?V4a, ?V4b, ?V4c⟩
      ⟨?V5a, ?V5b, ?V5c⟩
      ⟨?V6a, ?V6b, ?V6c⟩
      ⟨?V7a, ?V7b, ?V7c⟩
      ⟨?V8a, ?V8b, ?V8c⟩
      (Ux.mfn_mk KX (fun _ _ _ _ _ _ us hl => match us, hl with | [_], _ => rfl) ?F0l ?F0c ?F0k)
      (Ux.mfn_mk KX (fun _ _ _ _ _ _ us hl => match us, hl with | [_, _], _ => rfl) ?F1l ?F1c ?F1k)
      (Ux.mfn_mk KX (fun _ _ _ _ _ _ us hl => match us, hl with | [_], _ => rfl) ?F2l ?F2c ?F2k)
      (Ux.mfn_mk KX (fun _ _ _ _ _ _ us hl => match us, hl with | [_, _], _ => rfl) ?F3l ?F3c ?F3k)
      (Ux.mfn_mk KX (fun _ _ _ _ _ _ us hl => match us, hl with | [_, _], _ => rfl) ?F4l ?F4c ?F4k)
      (Ux.mfn_mk KX (fun _ _ _ _ _ _ us hl => match us, hl with | [_, _, _], _ => rfl) ?F5l ?F5c ?F5k)
      (Ux.mfn_mk KX (fun _ _ _ _ _ _ us hl => match us, hl with | [_, _, _], _ => rfl) ?F6l ?F6c ?F6k)
      (Ux.mfn_mk KX (fun _ _ _ _ _ _ us hl => match us, hl with | [_, _, _], _ => rfl) ?F7l ?F7c ?F7k)
      (Tq.df_mk KX G (fun _ _ _ _ _ _ us hl => match us, hl with | [_], _ => rfl) ?a0 ?l0 ?c0 ?k0)
      (Tq.df_mk KX G (fun _ _ _ _ _ _ us hl => match us, hl with | [_], _ => rfl) ?a1 ?l1 ?c1 ?k1)
      (Tq.df_mk KX G (fun _ _ _ _ _ _ us hl => match us, hl with | [], _ => rfl) ?a2 ?l2 ?c2 ?k2)
      (Tq.df_mk KX G (fun _ _ _ _ _ _ us hl => match us, hl with | [], _ => rfl) ?a3 ?l3 ?c3 ?k3)
      (Tq.df_mk KX G (fun _ _ _ _ _ _ us hl => match us, hl with | [_], _ => rfl) ?a4 ?l4 ?c4 ?k4)
      (Tq.df_mk KX G (fun _ _ _ _ _ _ us hl => match us, hl with | [_, _], _ => rfl) ?a5 ?l5 ?c5 ?k5)
      (Tq.df_mk KX G (fun _ _ _ _ _ _ us hl => match us, hl with | [_], _ => rfl) ?a6 ?l6 ?c6 ?k6)
      (Tq.df_mk KX G (fun _ _ _ _ _ _ us hl => match us, hl with | [_, _], _ => rfl) ?a7 ?l7 ?c7 ?k7)
      (Tq.df_mk KX G (fun _ _ _ _ _ _ us hl => match us, hl with | [_], _ => rfl) ?a8 ?l8 ?c8 ?k8)
      (Tq.df_mk KX G (fun _ _ _ _ _ _ us hl => match us, hl with | [_, _], _ => rfl) ?a9 ?l9 ?c9 ?k9)
      (Tq.df_mk KX G (fun _ _ _ _ _ _ us hl => match us, hl with | [_, _], _ => rfl) ?a10 ?l10 ?c10 ?k10)
      (Ux.dfd_mk KX G ⟨_, rfl⟩ (fun _ _ _ _ _ _ _ us its h1 h2 => match us, its, h1, h2 with | [_, _], [_], _, _ => ⟨_, rfl, rfl⟩) (fun _ _ _ _ _ _ _ us its h1 h2 => match us, its, h1, h2 with | [_], [_], _, _ => ⟨_, rfl, rfl⟩) (fun _ _ _ _ _ _ _ us ws its h1 h2 h3 => match us, ws, its, h1, h2, h3 with | [_], [_], [_], _, _, _ => ⟨_, rfl, rfl⟩) ?a11 ?l11 ?T11 ?c11 ?k11)
      (Tq.df_mk KX G (fun _ _ _ _ _ _ us hl => match us, hl with | [], _ => rfl) ?a12 ?l12 ?c12 ?k12)
      (Tq.df_mk KX G (fun _ _ _ _ _ _ us hl => match us, hl with | [_, _], _ => rfl) ?a13 ?l13 ?c13 ?k13)
      (Tq.df_mk KX G (fun _ _ _ _ _ _ us hl => match us, hl with | [_, _], _ => rfl) ?a14 ?l14 ?c14 ?k14)
      (Tq.df_mk KX G (fun _ _ _ _ _ _ us hl => match us, hl with | [_, _], _ => rfl) ?a15 ?l15 ?c15 ?k15)
      (Tq.df_mk KX G (fun _ _ _ _ _ _ us hl => match us, hl with | [_], _ => rfl) ?a16 ?l16 ?c16 ?k16)
      (Tq.df_mk KX G (fun _ _ _ _ _ _ us hl => match us, hl with | [_], _ => rfl) ?a17 ?l17 ?c17 ?k17)
      (Tq.df_mk KX G (fun _ _ _ _ _ _ us hl => match us, hl with | [_, _], _ => rfl) ?a18 ?l18 ?c18 ?k18)
      (Tq.df_mk KX G (fun _ _ _ _ _ _ us hl => match us, hl with | [_], _ => rfl) ?a19 ?l19 ?c19 ?k19)
      (Tq.df_mk KX G (fun _ _ _ _ _ _ us hl => match us, hl with | [_], _ => rfl) ?a20 ?l20 ?c20 ?k20)
      (Tq.df_mk KX G (fun _ _ _ _ _ _ us hl => match us, hl with | [_, _], _ => rfl) ?a21 ?l21 ?c21 ?k21)
      (Tq.df_mk KX G (fun _ _ _ _ _ _ us hl => match us, hl with | [_, _], _ => rfl) ?a22 ?l22 ?c22 ?k22)
      (Tq.df_mk KX G (fun _ _ _ _ _ _ us hl => match us, hl with | [_, _], _ => rfl) ?a23 ?l23 ?c23 ?k23)
      (Tq.df_mk KX G (fun _ _ _ _ _ _ us hl => match us, hl with | [_, _], _ => rfl) ?a24 ?l24 ?c24 ?k24)
      (Tq.df_mk KX G (fun _ _ _ _ _ _ us hl => match us, hl with | [_, _, _, _], _ => rfl) ?a25 ?l25 ?c25 ?k25)
      (Tq.df_mk KX G (fun _ _ _ _ _ _ us hl => match us, hl with | [_, _], _ => rfl) ?a26 ?l26 ?c26 ?k26)
      (Tq.df_mk KX G (fun _ _ _ _ _ _ us hl => match us, hl with | [_, _], _ => rfl) ?a27 ?l27 ?c27 ?k27)
      (Tq.df_mk KX G (fun _ _ _ _ _ _ us hl => match us, hl with | [_, _], _ => rfl) ?a28 ?l28 ?c28 ?k28)
      (Tq.df_mk KX G (fun _ _ _ _ _ _ us hl => match us, hl with | [_, _, _], _ => rfl) ?a29 ?l29 ?c29 ?k29)
      (Tq.df_mk KX G (fun _ _ _ _ _ _ us hl => match us, hl with | [_], _ => rfl) ?a30 ?l30 ?c30 ?k30)
      (Tq.df_mk KX G (fun _ _ _ _ _ _ us hl => match us, hl with | [_, _], _ => rfl) ?a31 ?l31 ?c31 ?k31)
      (Tq.df_mk KX G (fun _ _ _ _ _ _ us hl => match us, hl with | [_, _], _ => rfl) ?a32 ?l32 ?c32 ?k32)
      (Tq.df_mk KX G (fun _ _ _ _ _ _ us hl => match us, hl with | [_, _, _], _ => rfl) ?a33 ?l33 ?c33 ?k33)
      (Tq.df_mk KX G (fun _ _ _ _ _ _ us hl => match us, hl with | [_, _, _], _ => rfl) ?a34 ?l34 ?c34 ?k34)
      (PySem.W.mg_none_of KX G ?z0)
      (PySem.W.mg_none_of KX G ?z1)
      (PySem.W.mg_none_of KX G ?z2)
      (PySem.W.mg_none_of KX G ?z3)
      (PySem.W.mg_none_of KX G ?z4)
      (PySem.W.mg_none_of KX G ?z5)
      (PySem.W.mg_none_of KX G ?z6)
      (PySem.W.mg_none_of KX G ?z7)
      (PySem.W.mg_none_of KX G ?z8)
      (PySem.W.mg_none_of KX G ?z9)
      (PySem.W.mg_none_of KX G ?z10)
      (PySem.W.mg_none_of KX G ?z11)
      (PySem.W.mg_none_of KX G ?z12)
      (PySem.W.mg_none_of KX G ?z13)
      (PySem.W.mg_of KX G ?y0)
      (Tq.gd_tup KX G (.cons (.int 1 _) (.cons (.int 2 _) (.cons (.int (-2) _) (.cons (.int 3 _) .nil)))) (by show 4 ≤ sizeLine; decide) ?y1 ?yl1)
      (Tq.gd_tup KX G (.cons (.str "floor" _) (.cons (.str "ceil" _) (.cons (.str "near" _) .nil))) (by show 3 ≤ sizeLine; decide) ?y2 ?yl2)
      (PySem.W.mg_of KX G ?y3)) (fun _ _ _ _ _ _ _ _ => .of_eq rfl) ?a ?l ?c ?k
    (case xa => first | k_is | decide +kernel | rfl); (case xr => first | k_is | decide +kernel | rfl); (case xg => first | k_is | decide +kernel | rfl); (case xv => first | k_is | decide +kernel | rfl); (case X0aC => first | k_is | decide +kernel | rfl); (case X0xL => first | k_is | decide +kernel | rfl); (case X0vb => first | k_is | decide +kernel | rfl); (case X0sa => first | k_is | decide +kernel | rfl)
    (case X0ga => first | k_is | decide +kernel | rfl); (case X0gg => first | k_is | decide +kernel | rfl); (case X0nb => first | k_is | decide +kernel | rfl); (case X0a1 => first | k_is | decide +kernel | rfl); (case X0t1 => first | k_is | decide +kernel | rfl); (case X0l => first | k_is | decide +kernel | rfl); (case X0c => first | k_is | decide +kernel | rfl); (case X0k => first | k_is | decide +kernel | rfl)
    (case X0kC => first | k_is | decide +kernel | rfl); (case X0eC => first | k_is | decide +kernel | rfl); (case X0tC => first | k_is | decide +kernel | rfl); (case X0hC => first | k_is | decide +kernel | rfl); (case X1aC => first | k_is | decide +kernel | rfl); (case X1xL => first | k_is | decide +kernel | rfl); (case X1vb => first | k_is | decide +kernel | rfl); (case X1sa => first | k_is | decide +kernel | rfl)
    (case X1ga => first | k_is | decide +kernel | rfl); (case X1gg => first | k_is | decide +kernel | rfl); (case X1nb => first | k_is | decide +kernel | rfl); (case X1a1 => first | k_is | decide +kernel | rfl); (case X1t1 => first | k_is | decide +kernel | rfl); (case X1l => first | k_is | decide +kernel | rfl); (case X1c => first | k_is | decide +kernel | rfl); (case X1k => first | k_is | decide +kernel | rfl)
    (case X1kC => first | k_is | decide +kernel | rfl); (case X1eC => first | k_is | decide +kernel | rfl); (case X1tC => first | k_is | decide +kernel | rfl); (case X1hC => first | k_is | decide +kernel | rfl); (case X2aC => first | k_is | decide +kernel | rfl); (case X2xL => first | k_is | decide +kernel | rfl); (case X2vb => first | k_is | decide +kernel | rfl); (case X2sa => first | k_is | decide +kernel | rfl)
    (case X2ga => first | k_is | decide +kernel | rfl); (case X2gg => first | k_is | decide +kernel | rfl); (case X2nb => first | k_is | decide +kernel | rfl); (case X2a1 => first | k_is | decide +kernel | rfl); (case X2t1 => first | k_is | decide +kernel | rfl); (case X2l => first | k_is | decide +kernel | rfl); (case X2c => first | k_is | decide +kernel | rfl); (case X2k => first | k_is | decide +kernel | rfl)
    (case X2kC => first | k_is | decide +kernel | rfl); (case X2eC => first | k_is | decide +kernel | rfl); (case X2tC => first | k_is | decide +kernel | rfl); (case X2hC => first | k_is | decide +kernel | rfl); (case X3aC => first | k_is | decide +kernel | rfl); (case X3xL => first | k_is | decide +kernel | rfl); (case X3vb => first | k_is | decide +kernel | rfl); (case X3sa => first | k_is | decide +kernel | rfl)
    (case X3ga => first | k_is | decide +kernel | rfl); (case X3gg => first | k_is | decide +kernel | rfl); (case X3nb => first | k_is | decide +kernel | rfl); (case X3a1 => first | k_is | decide +kernel | rfl); (case X3t1 => first | k_is | decide +kernel | rfl); (case X3l => first | k_is | decide +kernel | rfl); (case X3c => first | k_is | decide +kernel | rfl); (case X3k => first | k_is | decide +kernel | rfl)
    (case X3kC => first | k_is | decide +kernel | rfl); (case X3eC => first | k_is | decide +kernel | rfl); (case X3tC => first | k_is | decide +kernel | rfl); (case X3hC => first | k_is | decide +kernel | rfl); (case X4aC => first | k_is | decide +kernel | rfl); (case X4xL => first | k_is | decide +kernel | rfl); (case X4vb => first | k_is | decide +kernel | rfl); (case X4sa => first | k_is | decide +kernel | rfl)
    (case X4ga => first | k_is | decide +kernel | rfl); (case X4gg => first | k_is | decide +kernel | rfl); (case X4nb => first | k_is | decide +kernel | rfl); (case X4a1 => first | k_is | decide +kernel | rfl); (case X4t1 => first | k_is | decide +kernel | rfl); (case X4l => first | k_is | decide +kernel | rfl); (case X4c => first | k_is | decide +kernel | rfl); (case X4k => first | k_is | decide +kernel | rfl)
    (case X4kC => first | k_is | decide +kernel | rfl); (case X4eC => first | k_is | decide +kernel | rfl); (case X4tC => first | k_is | decide +kernel | rfl); (case X4hC => first | k_is | decide +kernel | rfl); (case X5aC => first | k_is | decide +kernel | rfl); (case X5xL => first | k_is | decide +kernel | rfl); (case X5vb => first | k_is | decide +kernel | rfl); (case X5sa => first | k_is | decide +kernel | rfl)
    (case X5ga => first | k_is | decide +kernel | rfl); (case X5gg => first | k_is | decide +kernel | rfl); (case X5nb => first | k_is | decide +kernel | rfl); (case X5a1 => first | k_is | decide +kernel | rfl); (case X5t1 => first | k_is | decide +kernel | rfl); (case X5l => first | k_is | decide +kernel | rfl); (case X5c => first | k_is | decide +kernel | rfl); (case X5k => first | k_is | decide +kernel | rfl)
    (case X5kC => first | k_is | decide +kernel | rfl); (case X5eC => first | k_is | decide +kernel | rfl); (case X5tC => first | k_is | decide +kernel | rfl); (case X5hC => first | k_is | decide +kernel | rfl); (case E0b => first | k_is | decide +kernel | rfl); (case E0t => first | k_is | decide +kernel | rfl); (case E0c => first | k_is | decide +kernel | rfl); (case E0s => first | k_is | decide +kernel | rfl)
    (case E1b => first | k_is | decide +kernel | rfl); (case E1t => first | k_is | decide +kernel | rfl); (case E1c => first | k_is | decide +kernel | rfl); (case E1s => first | k_is | decide +kernel | rfl); (case E2b => first | k_is | decide +kernel | rfl); (case E2t => first | k_is | decide +kernel | rfl); (case E2c => first | k_is | decide +kernel | rfl); (case E2s => first | k_is | decide +kernel | rfl)
    (case E3b => first | k_is | decide +kernel | rfl); (case E3t => first | k_is | decide +kernel | rfl); (case E3c => first | k_is | decide +kernel | rfl); (case E3s => first | k_is | decide +kernel | rfl); (case E4b => first | k_is | decide +kernel | rfl); (case E4t => first | k_is | decide +kernel | rfl); (case E4c => first | k_is | decide +kernel | rfl); (case E4s => first | k_is | decide +kernel | rfl)
    (case E5b => first | k_is | decide +kernel | rfl); (case E5t => first | k_is | decide +kernel | rfl); (case E5c => first | k_is | decide +kernel | rfl); (case E5s => first | k_is | decide +kernel | rfl); (case Q0hg => first | k_is | decide +kernel | rfl); (case Q0hk => first | k_is | decide +kernel | rfl); (case Q0hs => first | k_is | decide +kernel | rfl); (case Q0hd => first | k_is | decide +kernel | rfl)
    (case Q0ha => first | k_is | decide +kernel | rfl); (case Q0hn => first | k_is | decide +kernel | rfl); (case Q0ht => first | k_is | decide +kernel | rfl); (case Q0hm => first | k_is | decide +kernel | rfl); (case Q1hg => first | k_is | decide +kernel | rfl); (case Q1hk => first | k_is | decide +kernel | rfl); (case Q1hs => first | k_is | decide +kernel | rfl); (case Q1hd => first | k_is | decide +kernel | rfl)
    (case Q1ha => first | k_is | decide +kernel | rfl); (case Q1hn => first | k_is | decide +kernel | rfl); (case Q1ht => first | k_is | decide +kernel | rfl); (case Q1hm => first | k_is | decide +kernel | rfl); (case Q2hg => first | k_is | decide +kernel | rfl); (case Q2hk => first | k_is | decide +kernel | rfl); (case Q2hs => first | k_is | decide +kernel | rfl); (case Q2hd => first | k_is | decide +kernel | rfl)
    (case Q2ha => first | k_is | decide +kernel | rfl); (case Q2hn => first | k_is | decide +kernel | rfl); (case Q2ht => first | k_is | decide +kernel | rfl); (case Q2hm => first | k_is | decide +kernel | rfl); (case G0 => first | k_is | decide +kernel | rfl); (case G1 => first | k_is | decide +kernel | rfl); (case G2 => first | k_is | decide +kernel | rfl); (case G3 => first | k_is | decide +kernel | rfl)
    (case G4 => first | k_is | decide +kernel | rfl); (case G5 => first | k_is | decide +kernel | rfl); (case I0n => first | k_is | decide +kernel | rfl); (case I0t => first | k_is | decide +kernel | rfl); (case I0c => first | k_is | decide +kernel | rfl); (case I0s => first | k_is | decide +kernel | rfl); (case I1n => first | k_is | decide +kernel | rfl); (case I1t => first | k_is | decide +kernel | rfl)
    (case I1c => first | k_is | decide +kernel | rfl); (case I1s => first | k_is | decide +kernel | rfl); (case I2n => first | k_is | decide +kernel | rfl); (case I2t => first | k_is | decide +kernel | rfl); (case I2c => first | k_is | decide +kernel | rfl); (case I2s => first | k_is | decide +kernel | rfl); (case I3n => first | k_is | decide +kernel | rfl); (case I3t => first | k_is | decide +kernel | rfl)
    (case I3c => first | k_is | decide +kernel | rfl); (case I3s => first | k_is | decide +kernel | rfl); (case I4n => first | k_is | decide +kernel | rfl); (case I4t => first | k_is | decide +kernel | rfl); (case I4c => first | k_is | decide +kernel | rfl); (case I4s => first | k_is | decide +kernel | rfl); (case I5n => first | k_is | decide +kernel | rfl); (case I5t => first | k_is | decide +kernel | rfl)
    (case I5c => first | k_is | decide +kernel | rfl); (case I5s => first | k_is | decide +kernel | rfl); (case M0a => first | k_is | decide +kernel | rfl); (case M0b => first | k_is | decide +kernel | rfl); (case M0c => first | k_is | decide +kernel | rfl); (case M0d => first | k_is | decide +kernel | rfl); (case M1a => first | k_is | decide +kernel | rfl); (case M1b => first | k_is | decide +kernel | rfl)
    (case M1c => first | k_is | decide +kernel | rfl); (case M1d => first | k_is | decide +kernel | rfl); (case M2a => first | k_is | decide +kernel | rfl); (case M2b => first | k_is | decide +kernel | rfl); (case M2c => first | k_is | decide +kernel | rfl); (case M2d => first | k_is | decide +kernel | rfl); (case L0a => first | k_is | decide +kernel | rfl); (case L0b => first | k_is | decide +kernel | rfl)
    (case L0c => first | k_is | decide +kernel | rfl); (case L0d => first | k_is | decide +kernel | rfl); (case L1a => first | k_is | decide +kernel | rfl); (case L1b => first | k_is | decide +kernel | rfl); (case L1c => first | k_is | decide +kernel | rfl); (case L1d => first | k_is | decide +kernel | rfl); (case L2a => first | k_is | decide +kernel | rfl); (case L2b => first | k_is | decide +kernel | rfl)
    (case L2c => first | k_is | decide +kernel | rfl); (case L2d => first | k_is | decide +kernel | rfl); (case V0a => first | k_is | decide +kernel | rfl); (case V0b => first | k_is | decide +kernel | rfl); (case V0c => first | k_is | decide +kernel | rfl); (case V1a => first | k_is | decide +kernel | rfl); (case V1b => first | k_is | decide +kernel | rfl); (case V1c => first | k_is | decide +kernel | rfl)
    (case V2a => first | k_is | decide +kernel | rfl); (case V2b => first | k_is | decide +kernel | rfl); (case V2c => first | k_is | decide +kernel | rfl); (case V3a => first | k_is | decide +kernel | rfl); (case V3b => first | k_is | decide +kernel | rfl); (case V3c => first | k_is | decide +kernel | rfl); (case V4a => first | k_is | decide +kernel | rfl); (case V4b => first | k_is | decide +kernel | rfl)
    (case V4c => first | k_is | decide +kernel | rfl); (case V5a => first | k_is | decide +kernel | rfl); (case V5b => first | k_is | decide +kernel | rfl); (case V5c => first | k_is | decide +kernel | rfl); (case V6a => first | k_is | decide +kernel | rfl); (case V6b => first | k_is | decide +kernel | rfl); (case V6c => first | k_is | decide +kernel | rfl); (case V7a => first | k_is | decide +kernel | rfl)
    (case V7b => first | k_is | decide +kernel | rfl); (case V7c => first | k_is | decide +kernel | rfl); (case V8a => first | k_is | decide +kernel | rfl); (case V8b => first | k_is | decide +kernel | rfl); (case V8c => first | k_is | decide +kernel | rfl); (case F0l => first | k_is | decide +kernel | rfl); (case F0c => first | k_is | decide +kernel | rfl); (case F0k => first | k_is | decide +kernel | rfl)
    (case F1l => first | k_is | decide +kernel | rfl); (case F1c => first | k_is | decide +kernel | rfl); (case F1k => first | k_is | decide +kernel | rfl); (case F2l => first | k_is | decide +kernel | rfl); (case F2c => first | k_is | decide +kernel | rfl); (case F2k => first | k_is | decide +kernel | rfl); (case F3l => first | k_is | decide +kernel | rfl); (case F3c => first | k_is | decide +kernel | rfl)
    (case F3k => first | k_is | decide +kernel | rfl); (case F4l => first | k_is | decide +kernel | rfl); (case F4c => first | k_is | decide +kernel | rfl); (case F4k => first | k_is | decide +kernel | rfl); (case F5l => first | k_is | decide +kernel | rfl); (case F5c => first | k_is | decide +kernel | rfl); (case F5k => first | k_is | decide +kernel | rfl); (case F6l => first | k_is | decide +kernel | rfl)
    (case F6c => first | k_is | decide +kernel | rfl); (case F6k => first | k_is | decide +kernel | rfl); (case F7l => first | k_is | decide +kernel | rfl); (case F7c => first | k_is | decide +kernel | rfl); (case F7k => first | k_is | decide +kernel | rfl); (case a0 => first | k_is | decide +kernel | rfl); (case l0 => first | k_is | decide +kernel | rfl); (case c0 => first | k_is | decide +kernel | rfl)
    (case k0 => first | k_is | decide +kernel | rfl); (case a1 => first | k_is | decide +kernel | rfl); (case l1 => first | k_is | decide +kernel | rfl); (case c1 => first | k_is | decide +kernel | rfl); (case k1 => first | k_is | decide +kernel | rfl); (case a2 => first | k_is | decide +kernel | rfl); (case l2 => first | k_is | decide +kernel | rfl); (case c2 => first | k_is | decide +kernel | rfl)
    (case k2 => first | k_is | decide +kernel | rfl); (case a3 => first | k_is | decide +kernel | rfl); (case l3 => first | k_is | decide +kernel | rfl); (case c3 => first | k_is | decide +kernel | rfl); (case k3 => first | k_is | decide +kernel | rfl); (case a4 => first | k_is | decide +kernel | rfl); (case l4 => first | k_is | decide +kernel | rfl); (case c4 => first | k_is | decide +kernel | rfl)
    (case k4 => first | k_is | decide +kernel | rfl); (case a5 => first | k_is | decide +kernel | rfl); (case l5 => first | k_is | decide +kernel | rfl); (case c5 => first | k_is | decide +kernel | rfl); (case k5 => first | k_is | decide +kernel | rfl); (case a6 => first | k_is | decide +kernel | rfl); (case l6 => first | k_is | decide +kernel | rfl); (case c6 => first | k_is | decide +kernel | rfl)
    (case k6 => first | k_is | decide +kernel | rfl); (case a7 => first | k_is | decide +kernel | rfl); (case l7 => first | k_is | decide +kernel | rfl); (case c7 => first | k_is | decide +kernel | rfl); (case k7 => first | k_is | decide +kernel | rfl); (case a8 => first | k_is | decide +kernel | rfl); (case l8 => first | k_is | decide +kernel | rfl); (case c8 => first | k_is | decide +kernel | rfl)
    (case k8 => first | k_is | decide +kernel | rfl); (case a9 => first | k_is | decide +kernel | rfl); (case l9 => first | k_is | decide +kernel | rfl); (case c9 => first | k_is | decide +kernel | rfl); (case k9 => first | k_is | decide +kernel | rfl); (case a10 => first | k_is | decide +kernel | rfl); (case l10 => first | k_is | decide +kernel | rfl); (case c10 => first | k_is | decide +kernel | rfl)
    (case k10 => first | k_is | decide +kernel | rfl); (case a11 => first | k_is | decide +kernel | rfl); (case l11 => first | k_is | decide +kernel | rfl); (case T11 => first | k_is | decide +kernel | rfl); (case c11 => first | k_is | decide +kernel | rfl); (case k11 => first | k_is | decide +kernel | rfl); (case a12 => first | k_is | decide +kernel | rfl); (case l12 => first | k_is | decide +kernel | rfl)
    (case c12 => first | k_is | decide +kernel | rfl); (case k12 => first | k_is | decide +kernel | rfl); (case a13 => first | k_is | decide +kernel | rfl); (case l13 => first | k_is | decide +kernel | rfl); (case c13 => first | k_is | decide +kernel | rfl); (case k13 => first | k_is | decide +kernel | rfl); (case a14 => first | k_is | decide +kernel | rfl); (case l14 => first | k_is | decide +kernel | rfl)
    (case c14 => first | k_is | decide +kernel | rfl); (case k14 => first | k_is | decide +kernel | rfl); (case a15 => first | k_is | decide +kernel | rfl); (case l15 => first | k_is | decide +kernel | rfl); (case c15 => first | k_is | decide +kernel | rfl); (case k15 => first | k_is | decide +kernel | rfl); (case a16 => first | k_is | decide +kernel | rfl); (case l16 => first | k_is | decide +kernel | rfl)
    (case c16 => first | k_is | decide +kernel | rfl); (case k16 => first | k_is | decide +kernel | rfl); (case a17 => first | k_is | decide +kernel | rfl); (case l17 => first | k_is | decide +kernel | rfl); (case c17 => first | k_is | decide +kernel | rfl); (case k17 => first | k_is | decide +kernel | rfl); (case a18 => first | k_is | decide +kernel | rfl); (case l18 => first | k_is | decide +kernel | rfl)
    (case c18 => first | k_is | decide +kernel | rfl); (case k18 => first | k_is | decide +kernel | rfl); (case a19 => first | k_is | decide +kernel | rfl); (case l19 => first | k_is | decide +kernel | rfl); (case c19 => first | k_is | decide +kernel | rfl); (case k19 => first | k_is | decide +kernel | rfl); (case a20 => first | k_is | decide +kernel | rfl); (case l20 => first | k_is | decide +kernel | rfl)
    (case c20 => first | k_is | decide +kernel | rfl); (case k20 => first | k_is | decide +kernel | rfl); (case a21 => first | k_is | decide +kernel | rfl); (case l21 => first | k_is | decide +kernel | rfl); (case c21 => first | k_is | decide +kernel | rfl); (case k21 => first | k_is | decide +kernel | rfl); (case a22 => first | k_is | decide +kernel | rfl); (case l22 => first | k_is | decide +kernel | rfl)
    (case c22 => first | k_is | decide +kernel | rfl); (case k22 => first | k_is | decide +kernel | rfl); (case a23 => first | k_is | decide +kernel | rfl); (case l23 => first | k_is | decide +kernel | rfl); (case c23 => first | k_is | decide +kernel | rfl); (case k23 => first | k_is | decide +kernel | rfl); (case a24 => first | k_is | decide +kernel | rfl); (case l24 => first | k_is | decide +kernel | rfl)
    (case c24 => first | k_is | decide +kernel | rfl); (case k24 => first | k_is | decide +kernel | rfl); (case a25 => first | k_is | decide +kernel | rfl); (case l25 => first | k_is | decide +kernel | rfl); (case c25 => first | k_is | decide +kernel | rfl); (case k25 => first | k_is | decide +kernel | rfl); (case a26 => first | k_is | decide +kernel | rfl); (case l26 => first | k_is | decide +kernel | rfl)
    (case c26 => first | k_is | decide +kernel | rfl); (case k26 => first | k_is | decide +kernel | rfl); (case a27 => first | k_is | decide +kernel | rfl); (case l27 => first | k_is | decide +kernel | rfl); (case c27 => first | k_is | decide +kernel | rfl); (case k27 => first | k_is | decide +kernel | rfl); (case a28 => first | k_is | decide +kernel | rfl); (case l28 => first | k_is | decide +kernel | rfl)
    (case c28 => first | k_is | decide +kernel | rfl); (case k28 => first | k_is | decide +kernel | rfl); (case a29 => first | k_is | decide +kernel | rfl); (case l29 => first | k_is | decide +kernel | rfl); (case c29 => first | k_is | decide +kernel | rfl); (case k29 => first | k_is | decide +kernel | rfl); (case a30 => first | k_is | decide +kernel | rfl); (case l30 => first | k_is | decide +kernel | rfl)
    (case c30 => first | k_is | decide +kernel | rfl); (case k30 => first | k_is | decide +kernel | rfl); (case a31 => first | k_is | decide +kernel | rfl); (case l31 => first | k_is | decide +kernel | rfl); (case c31 => first | k_is | decide +kernel | rfl); (case k31 => first | k_is | decide +kernel | rfl); (case a32 => first | k_is | decide +kernel | rfl); (case l32 => first | k_is | decide +kernel | rfl)
    (case c32 => first | k_is | decide +kernel | rfl); (case k32 => first | k_is | decide +kernel | rfl); (case a33 => first | k_is | decide +kernel | rfl); (case l33 => first | k_is | decide +kernel | rfl); (case c33 => first | k_is | decide +kernel | rfl); (case k33 => first | k_is | decide +kernel | rfl); (case a34 => first | k_is | decide +kernel | rfl); (case l34 => first | k_is | decide +kernel | rfl)
    (case c34 => first | k_is | decide +kernel | rfl); (case k34 => first | k_is | decide +kernel | rfl); (case z0 => first | k_is | decide +kernel | rfl); (case z1 => first | k_is | decide +kernel | rfl); (case z2 => first | k_is | decide +kernel | rfl); (case z3 => first | k_is | decide +kernel | rfl); (case z4 => first | k_is | decide +kernel | rfl); (case z5 => first | k_is | decide +kernel | rfl)
    (case z6 => first | k_is | decide +kernel | rfl); (case z7 => first | k_is | decide +kernel | rfl); (case z8 => first | k_is | decide +kernel | rfl); (case z9 => first | k_is | decide +kernel | rfl); (case z10 => first | k_is | decide +kernel | rfl); (case z11 => first | k_is | decide +kernel | rfl); (case z12 => first | k_is | decide +kernel | rfl); (case z13 => first | k_is | decide +kernel | rfl)
    (case y0 => first | k_is | decide +kernel | rfl); (case y1 => first | k_is | decide +kernel | rfl); (case yl1 => first | k_is | decide +kernel | rfl); (case y2 => first | k_is | decide +kernel | rfl); (case yl2 => first | k_is | decide +kernel | rfl); (case y3 => first | k_is | decide +kernel | rfl); (case a => first | k_is | decide +kernel | rfl); (case l => first | k_is | decide +kernel | rfl)
    (case c => first | k_is | decide +kernel | rfl); (case k => first | k_is | decide +kernel | rfl)


