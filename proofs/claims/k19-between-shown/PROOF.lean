import PyProof.Rows.All
import Wide.All
import OpenK.AllK
import Wide.FinOn
import HandS.ForMost
import HandS.IsInst
import HandS.Wide
import HandS.Flow
import HandS.RaiseMore
import HandS.EndBits
import PyProof.ReprRoads
import HandS.TupAny
import HandS.Exc
import HandS.WordsExc
import KE.IntTextLaws
import PyProof.ReprLen
import PyProof.Rows.ReprOcc
import HandS.TryOnly
import HandS.Style
import KE.KRevSl
import HandS.Text
import PyProof.Rows.StrSplitCount
import PyProof.Rows.StrLawsPart
import PyProof.Rows.StrFirst
import PyProof.StrLawsChain
import PyProof.ReprText
import PyProof.Rows.Digits
import PyProof.StrReplace2
import HandS.ExcInit
import HandS.ExcOwn
import HandS.ExcField
import HandS.ExcIs
import HandS.ClsMeth
import HandS.Small
import KE.KExcIs
import HandS.DeepEq
import HandS.Defaults
import HandS.HotCalls
import KE.KExcInit
import HandS.Zip
import HandS.Iter
import PyProof.EqKinds
import PyProof.FactsAll.dict_1
import PyProof.FactsAll.tuple_1
import PyProof.FactsAll.subtypes_4
import PySem.Challenge.RW_termstream_k19_between_shown
set_option Elab.async false
set_option linter.all false
set_option maxRecDepth 100000
set_option maxHeartbeats 2000000
/-! Data over the heap (Rp), frames, slots, and the wp over data -/
namespace Tq
open PySem PySem.Spec PyProof.Rows L2
abbrev D := PyData
abbrev Fg := PySem.W.Frag
abbrev St := L2.St
def kD : Key → D
  | .inl i => .int i
  | .inr x => .str x
/-- a list of the written part -/
def KL (K : Fg) (a : Addr) (xs : List V) : Prop := ∃ (o : Obj) (its : Array Value) (n : Nat), K.lookup a = some o ∧ o.cls = .type "list" ∧ o.dict = none ∧ o.data = .seq its n ∧ its.size ≤ sizeLine ∧ Vals xs its.toList
def KT (K : Fg) (a : Addr) (xs : List V) : Prop := ∃ (o : Obj) (its : Array Value) (n : Nat), K.lookup a = some o ∧ o.cls = .type "tuple" ∧ o.data = .seq its n ∧ its.size ≤ sizeLine ∧ Vals xs its.toList
/-- a list, a tuple, apart from what may change -/
def LsA (K : Fg) (M : Addr → Prop) (H : Hp) (a : Addr) (xs : List V) : Prop := (¬ M a ∧ Rd H a (.lst xs)) ∨ KL K a xs
def TsA (K : Fg) (M : Addr → Prop) (H : Hp) (a : Addr) (xs : List V) : Prop := (¬ M a ∧ Rd H a (.tup xs)) ∨ KT K a xs
theorem LsA.sq {K : Fg} {M : Addr → Prop} {H : Hp} {a : Addr} {xs : List V} (h : LsA K M H a xs) : SqL K H a xs := h.elim (fun z => .inl z.2) .inr
theorem TsA.sq {K : Fg} {M : Addr → Prop} {H : Hp} {a : Addr} {xs : List V} (h : TsA K M H a xs) : SqT K H a xs := h.elim (fun z => .inl z.2) .inr
mutual
inductive Rp (K : Fg) (M : Addr → Prop) (H : Hp) : V → D → Prop
  | non : Rp K M H .non .none
  | bl (b : Bool) : Rp K M H (.bl b) (.bool b)
  | int (i : Int) : Rp K M H (.int i) (.int i)
  | str (x : Str) : Rp K M H (.str x) (.str x)
  | lst {a : Addr} {xs : List V} {ds : List D} : LsA K M H a xs → RpA K M H xs ds → Rp K M H (.ref a) (.list ds)
  | tup {a : Addr} {xs : List V} {ds : List D} : TsA K M H a xs → RpA K M H xs ds → Rp K M H (.ref a) (.tuple ds)
  | dic {a : Addr} {kvs : List (Key × V)} {ds : List (D × D)} : ¬ M a → H a = some (.dK kvs) → RpK K M H kvs ds → Rp K M H (.ref a) (.dict ds)
inductive RpA (K : Fg) (M : Addr → Prop) (H : Hp) : List V → List D → Prop
  | nil : RpA K M H [] []
  | cons {v : V} {d : D} {vs : List V} {ds : List D} : Rp K M H v d → RpA K M H vs ds → RpA K M H (v :: vs) (d :: ds)
inductive RpK (K : Fg) (M : Addr → Prop) (H : Hp) : List (Key × V) → List (D × D) → Prop
  | nil : RpK K M H [] []
  | cons {k : Key} {v : V} {d : D} {vs : List (Key × V)} {ds : List (D × D)} : Rp K M H v d → RpK K M H vs ds → RpK K M H ((k, v) :: vs) ((kD k, d) :: ds)
end
/-- what stood apart stands, and apart -/
def GoH (M : Addr → Prop) (H : Hp) (M' : Addr → Prop) (H' : Hp) : Prop := ∀ a o, ¬ M a → H a = some o → ¬ M' a ∧ H' a = some o
theorem GoH.refl {M : Addr → Prop} {H : Hp} : GoH M H M H := fun _ _ h e => ⟨h, e⟩
theorem GoH.trans {M M1 M2 : Addr → Prop} {H H1 H2 : Hp} (g : GoH M H M1 H1) (g' : GoH M1 H1 M2 H2) : GoH M H M2 H2 := fun a o h e => g' a o (g a o h e).1 (g a o h e).2
section
variable {K : Fg} {M M' : Addr → Prop} {H H' : Hp}
theorem Rd.go {a : Addr} {u : HO} (g : GoH M H M' H') (n : ¬ M a) (r : Rd H a u) : ¬ M' a ∧ Rd H' a u := by
  rcases r with r | ⟨o, r⟩
  · exact ⟨(g a _ n r).1, .inl (g a _ n r).2⟩
  · exact ⟨(g a _ n r).1, .inr ⟨o, (g a _ n r).2⟩⟩
theorem LsA.go {a : Addr} {xs : List V} (g : GoH M H M' H') (h : LsA K M H a xs) : LsA K M' H' a xs := h.elim (fun z => .inl (Rd.go g z.1 z.2)) .inr
theorem TsA.go {a : Addr} {xs : List V} (g : GoH M H M' H') (h : TsA K M H a xs) : TsA K M' H' a xs := h.elim (fun z => .inl (Rd.go g z.1 z.2)) .inr
theorem Rp.go (g : GoH M H M' H') {v : V} {d : D} (r : Rp K M H v d) : Rp K M' H' v d :=
  Rp.rec (motive_1 := fun v d _ => Rp K M' H' v d) (motive_2 := fun vs ds _ => RpA K M' H' vs ds) (motive_3 := fun vs ds _ => RpK K M' H' vs ds)
    .non .bl .int .str (fun h _ i => .lst (h.go g) i) (fun h _ i => .tup (h.go g) i) (fun n h _ i => .dic (g _ _ n h).1 (g _ _ n h).2 i)
    .nil (fun _ _ a b => .cons a b) .nil (fun _ _ a b => .cons a b) r
theorem RpA.go (g : GoH M H M' H') : ∀ {vs : List V} {ds : List D}, RpA K M H vs ds → RpA K M' H' vs ds
  | _, _, .nil => .nil
  | _, _, .cons a b => .cons (a.go g) (b.go g)
theorem RpK.go (g : GoH M H M' H') : ∀ {vs : List (Key × V)} {ds : List (D × D)}, RpK K M H vs ds → RpK K M' H' vs ds
  | _, _, .nil => .nil
  | _, _, .cons a b => .cons (a.go g) (b.go g)
theorem RpA.len : ∀ {vs : List V} {ds : List D}, RpA K M H vs ds → vs.length = ds.length
  | _, _, .nil => rfl
  | _, _, .cons _ b => congrArg (· + 1) b.len
theorem RpA.get : ∀ {vs : List V} {ds : List D} {i : Nat} {d : D}, RpA K M H vs ds → ds[i]? = some d → ∃ v, vs[i]? = some v ∧ Rp K M H v d
  | _, _, _, _, .nil, e => by simp at e
  | _, _, 0, _, .cons a _, e => by simp at e; subst e; exact ⟨_, rfl, a⟩
  | _, _, i + 1, d, .cons _ b, e => by
    obtain ⟨u, h1, h2⟩ := b.get (i := i) (d := d) (by simpa using e)
    exact ⟨u, by simpa using h1, h2⟩
theorem RpA.getV : ∀ {vs : List V} {ds : List D} {i : Nat} {v : V}, RpA K M H vs ds → vs[i]? = some v → ∃ d, ds[i]? = some d ∧ Rp K M H v d
  | _, _, _, _, .nil, e => by simp at e
  | _, _, 0, _, .cons a _, e => by simp at e; subst e; exact ⟨_, rfl, a⟩
  | _, _, i + 1, d, .cons _ b, e => by
    obtain ⟨u, h1, h2⟩ := b.getV (i := i) (v := d) (by simpa using e)
    exact ⟨u, by simpa using h1, h2⟩
theorem RpA.app : ∀ {vs us : List V} {ds es : List D}, RpA K M H vs ds → RpA K M H us es → RpA K M H (vs ++ us) (ds ++ es)
  | _, _, _, _, .nil, h => h
  | _, _, _, _, .cons a b, h => .cons a (b.app h)
theorem RpA.take : ∀ (n : Nat) {vs : List V} {ds : List D}, RpA K M H vs ds → RpA K M H (vs.take n) (ds.take n)
  | 0, _, _, _ => .nil
  | _ + 1, _, _, .nil => .nil
  | n + 1, _, _, .cons a b => .cons a (b.take n)
theorem RpA.drop : ∀ (n : Nat) {vs : List V} {ds : List D}, RpA K M H vs ds → RpA K M H (vs.drop n) (ds.drop n)
  | 0, _, _, h => h
  | _ + 1, _, _, .nil => .nil
  | n + 1, _, _, .cons _ b => b.drop n
theorem RpA.rev : ∀ {vs : List V} {ds : List D}, RpA K M H vs ds → RpA K M H vs.reverse ds.reverse
  | _, _, .nil => .nil
  | _, _, .cons a b => by
    rw [List.reverse_cons, List.reverse_cons]
    exact b.rev.app (.cons a .nil)
theorem rp_int {v : V} {i : Int} (r : Rp K M H v (.int i)) : v = .int i := by cases r; rfl
theorem rp_bl {v : V} {i : Bool} (r : Rp K M H v (.bool i)) : v = .bl i := by cases r; rfl
theorem rp_str {v : V} {i : Str} (r : Rp K M H v (.str i)) : v = .str i := by cases r; rfl
theorem rp_non {v : V} (r : Rp K M H v .none) : v = .non := by cases r; rfl
theorem rp_lst {v : V} {ds : List D} (r : Rp K M H v (.list ds)) : ∃ a xs, v = .ref a ∧ LsA K M H a xs ∧ RpA K M H xs ds := by
  cases r with | lst h1 h2 => exact ⟨_, _, rfl, h1, h2⟩
theorem rp_tup {v : V} {ds : List D} (r : Rp K M H v (.tuple ds)) : ∃ a xs, v = .ref a ∧ TsA K M H a xs ∧ RpA K M H xs ds := by
  cases r with | tup h1 h2 => exact ⟨_, _, rfl, h1, h2⟩
theorem rpA_ints : ∀ {vs : List V} {ns : List Int}, RpA K M H vs (ns.map PyData.int) → vs = ns.map V.int
  | [], [], _ => rfl
  | [], _ :: _, h => by cases h
  | _ :: _, [], h => by cases h
  | v :: vs, n :: ns, h => by
    cases h with | cons a b =>
    rw [rp_int a, rpA_ints b] <;> rfl
theorem rpA_strs : ∀ {vs : List V} {ns : List Str}, RpA K M H vs (ns.map PyData.str) → vs = ns.map V.str
  | [], [], _ => rfl
  | [], _ :: _, h => by cases h
  | _ :: _, [], h => by cases h
  | v :: vs, n :: ns, h => by
    cases h with | cons a b =>
    rw [rp_str a, rpA_strs b] <;> rfl
theorem rpA_bls : ∀ {vs : List V} {ns : List Bool}, RpA K M H vs (ns.map PyData.bool) → vs = ns.map V.bl
  | [], [], _ => rfl
  | [], _ :: _, h => by cases h
  | _ :: _, [], h => by cases h
  | v :: vs, n :: ns, h => by
    cases h with | cons a b =>
    rw [rp_bl a, rpA_bls b] <;> rfl
theorem rpA_int : ∀ (ns : List Int), RpA K M H (ns.map V.int) (ns.map PyData.int)
  | [] => .nil
  | n :: ns => .cons (.int n) (rpA_int ns)
end
/-- scalars -/
inductive Sc : V → D → Prop
  | non : Sc .non .none
  | bl (b : Bool) : Sc (.bl b) (.bool b)
  | int (i : Int) : Sc (.int i) (.int i)
  | str (x : Str) : Sc (.str x) (.str x)
theorem Sc.rp {K : Fg} {M : Addr → Prop} {H : Hp} {v : V} {d : D} (s : Sc v d) : Rp K M H v d := by
  cases s
  · exact .non
  · exact .bl _
  · exact .int _
  · exact .str _

/-! ### frames and slots -/
/-- a purse with room for n more draws -/
def PuOk (H : Hp) (a : Addr) (n : Nat) : Prop := ∃ x b c : Int, H a = some (.lst [.int x, .int b, .int c]) ∧ 0 ≤ x ∧ 0 ≤ b ∧ b < 2147483629 ∧ 0 ≤ c ∧ c + n ≤ 8000000
structure Ct where
  K : Fg
  pp : Bool
structure Fr where
  H0 : Hp
  S0 : Addr → Prop
  M0 : Addr → Prop
  p : Addr
  st : Bool
inductive Y where
  | d (d : D)
  | pu (n : Nat)
  | own (ds : List D)
def Y.o : Y → Bool
  | .d _ => false
  | _ => true
abbrev S := List (Option Y)
inductive Z where
  | d (d : D)
  | ptr (i : Nat)
def isO (y : S) (i : Nat) : Bool := match y[i]? with
  | some (some z) => z.o
  | _ => false
def Own (σ : St) (y : S) (a : Addr) : Prop := ∃ i, isO y i = true ∧ σ[i]? = some (some (.ref a))
def Mv (F : Fr) (σ : St) (y : S) (a : Addr) : Prop := F.M0 a ∨ Own σ y a
def SlotOk (K : Fg) (M : Addr → Prop) (H : Hp) (v : Option (Option V)) : Y → Prop
  | .d d => ∃ x, v = some (some x) ∧ Rp K M H x d
  | .pu n => ∃ a, v = some (some (.ref a)) ∧ PuOk H a n
  | .own ds => ∃ a xs, v = some (some (.ref a)) ∧ H a = some (.lst xs) ∧ RpA K M H xs ds
structure Wd (C : Ct) (F : Fr) (σ : St) (y : S) (H : Hp) : Prop where
  keep : ∀ a o, ¬ F.S0 a → F.H0 a = some o → H a = some o
  live0 : ∀ a, F.M0 a → F.H0 a ≠ none
  live : ∀ a, F.M0 a → H a ≠ none
  len : σ.length = y.length
  slot : ∀ (i : Nat) (z : Y), y[i]? = some (some z) → SlotOk C.K (Mv F σ y) H σ[i]? z
  dist : ∀ (i j : Nat) (a : Addr), isO y i = true → isO y j = true → σ[i]? = some (some (.ref a)) → σ[j]? = some (some (.ref a)) → i = j
  frsh : ∀ a, Own σ y a → F.S0 a ∨ F.H0 a = none
  pin : C.pp = true → σ[0]? = some (some (.ref F.p))
  sm : ∀ a, F.S0 a → F.M0 a
  nb : F.st = true → ∀ (i : Nat) (a : Addr), isO y i = true → σ[i]? = some (some (.ref a)) → F.S0 a → i = 0 ∧ C.pp = true
abbrev Go (F : Fr) (σ : St) (y : S) (H : Hp) (σ' : St) (y' : S) (H' : Hp) : Prop := GoH (Mv F σ y) H (Mv F σ' y') H'
def Sh (y y' : S) : Prop := ∀ i, isO y' i = isO y i
theorem Sh.refl (y : S) : Sh y y := fun _ => rfl
theorem Sh.trans {y y1 y2 : S} (a : Sh y y1) (b : Sh y1 y2) : Sh y y2 := fun i => (b i).trans (a i)
def Rz (C : Ct) (F : Fr) (σ : St) (y : S) (H : Hp) (v : V) : Z → Prop
  | .d d => Rp C.K (Mv F σ y) H v d
  | .ptr i => isO y i = true ∧ σ[i]? = some (some v)
inductive RzA (C : Ct) (F : Fr) (σ : St) (y : S) (H : Hp) : List V → List Z → Prop
  | nil : RzA C F σ y H [] []
  | cons {v : V} {z : Z} {vs : List V} {zs : List Z} : Rz C F σ y H v z → RzA C F σ y H vs zs → RzA C F σ y H (v :: vs) (z :: zs)
section
variable {C : Ct} {F : Fr} {σ : St} {y y' : S} {H H' : Hp}
theorem Rz.go {v : V} {z : Z} (g : Go F σ y H σ y' H') (s : Sh y y') (r : Rz C F σ y H v z) : Rz C F σ y' H' v z := by
  cases z with
  | d d => exact Rp.go g r
  | ptr i => exact ⟨(s i).trans r.1, r.2⟩
theorem RzA.go (g : Go F σ y H σ y' H') (s : Sh y y') : ∀ {vs : List V} {zs : List Z}, RzA C F σ y H vs zs → RzA C F σ y' H' vs zs
  | _, _, .nil => .nil
  | _, _, .cons a b => .cons (Rz.go g s a) (b.go g s)
theorem RzA.ds : ∀ {vs : List V} {ds : List D}, RzA C F σ y H vs (ds.map Z.d) → RpA C.K (Mv F σ y) H vs ds
  | [], [], _ => .nil
  | [], _ :: _, h => by cases h
  | _ :: _, [], h => by cases h
  | v :: vs, n :: ns, h => by
    cases h with | cons a b => exact .cons a b.ds
/-- a fresh address is apart -/
theorem Wd.new (w : Wd C F σ y H) {p : Addr} (h : H p = none) : ¬ Mv F σ y p := by
  rintro (z | ⟨i, hi, e⟩)
  · exact w.live p z h
  · cases q : y[i]? with
    | none => unfold isO at hi; rw [q] at hi; cases hi
    | some o =>
      cases o with
      | none => unfold isO at hi; rw [q] at hi; cases hi
      | some z =>
        have s := w.slot i z q
        cases z with
        | d d => unfold isO at hi; rw [q] at hi; cases hi
        | pu n =>
          obtain ⟨a, ea, x, b, c, ha, _⟩ := s
          rw [e] at ea; cases ea
          rw [h] at ha; cases ha
        | own ds =>
          obtain ⟨a, xs, ea, ha, _⟩ := s
          rw [e] at ea; cases ea
          rw [h] at ha; cases ha
/-- the heap grows, apart from what may change; what may change stays as it is -/
theorem Wd.grow (w : Wd C F σ y H) (g : ∀ a o, H a = some o → H' a = some o) : Wd C F σ y H' := by
  refine ⟨fun a o n e => g _ _ (w.keep a o n e), w.live0, fun a m e => ?_, w.len, fun i z e => ?_, w.dist, w.frsh, w.pin, w.sm, w.nb⟩
  · cases q : H a with
    | none => exact w.live a m q
    | some o => rw [g a o q] at e; cases e
  · have s := w.slot i z e
    have gg : GoH (Mv F σ y) H (Mv F σ y) H' := fun a o n e => ⟨n, g a o e⟩
    cases z with
    | d d => obtain ⟨x, h1, h2⟩ := s; exact ⟨x, h1, h2.go gg⟩
    | pu n => obtain ⟨a, h1, x, b, c, h2, h3⟩ := s; exact ⟨a, h1, x, b, c, g _ _ h2, h3⟩
    | own ds => obtain ⟨a, xs, h1, h2, h3⟩ := s; exact ⟨a, xs, h1, g _ _ h2, h3.go gg⟩
theorem go_grow (g : ∀ a o, H a = some o → H' a = some o) : Go F σ y H σ y H' := fun a o n e => ⟨n, g a o e⟩
theorem grow_upd {p : Addr} {o : HO} (h : H p = none) : ∀ a u, H a = some u → upd H p o a = some u := fun a u e => by
  rw [upd_ne (ne_of_none e h)]; exact e
end

/-! ### the wp over data -/
section
variable (C : Ct)
def wE (te : TE) (y : S) (Q : Z → S → Prop) : Prop := ∀ (F : Fr) σ H (K : VK), Wd C F σ y H → (∀ v H' z y', Wd C F σ y' H' → Go F σ y H σ y' H' → Sh y y' → Rz C F σ y' H' v z → Q z y' → K v H') → te σ H K
def wT (tt : TT) (y : S) (Q : Bool → S → Prop) : Prop := ∀ (F : Fr) σ H (K : Bool → Hp → Prop), Wd C F σ y H → (∀ b H' y', Wd C F σ y' H' → Go F σ y H σ y' H' → Sh y y' → Q b y' → K b H') → tt σ H K
def wO (to : TO) (y : S) (Q : Option Int → S → Prop) : Prop := ∀ (F : Fr) σ H (K : Option Int → Hp → Prop), Wd C F σ y H → (∀ b H' y', Wd C F σ y' H' → Go F σ y H σ y' H' → Sh y y' → Q b y' → K b H') → to σ H K
structure En where
  nx : S → Prop
  rt : Z → S → Prop
  bk : S → Prop := fun _ => False
  ct : S → Prop := fun _ => False
structure EnOk (F : Fr) (σ : St) (y : S) (H : Hp) (e : En) (E : Ends) : Prop where
  nx : ∀ σ' H' y', Wd C F σ' y' H' → Go F σ y H σ' y' H' → e.nx y' → E.nx σ' H'
  rt : ∀ σ' v H' z y', Wd C F σ' y' H' → Go F σ y H σ' y' H' → Rz C F σ' y' H' v z → e.rt z y' → E.rt v H'
  bk : ∀ σ' H' y', Wd C F σ' y' H' → Go F σ y H σ' y' H' → e.bk y' → E.bk σ' H'
  ct : ∀ σ' H' y', Wd C F σ' y' H' → Go F σ y H σ' y' H' → e.ct y' → E.ct σ' H'
def wS (ts : TS) (y : S) (e : En) : Prop := ∀ (F : Fr) σ H (E : Ends), F.st = true → Wd C F σ y H → EnOk C F σ y H e E → ts E σ H
end
end Tq

set_option maxRecDepth 100000
set_option maxHeartbeats 2000000
namespace Tq
open PySem PySem.Spec PyProof.Rows L2
/-! ### storing in a slot -/
section
variable {C : Ct} {F : Fr} {σ : St} {y y' : S} {H H' : Hp}
theorem isO_set {i j : Nat} {u : Option Y} (h : isO (y.set i u) j = true) : (j = i ∧ i < y.length ∧ ∃ z, u = some z ∧ z.o = true) ∨ (j ≠ i ∧ isO y j = true) ∨ (j = i ∧ y.length ≤ i) := by
  by_cases e : j = i
  · by_cases hl : i < y.length
    · refine .inl ⟨e, hl, ?_⟩
      subst e
      unfold isO at h
      rw [List.getElem?_set_self hl] at h
      cases u with
      | none => cases h
      | some z => exact ⟨z, rfl, h⟩
    · exact .inr (.inr ⟨e, by omega⟩)
  · refine .inr (.inl ⟨e, ?_⟩)
    unfold isO at h ⊢
    rw [List.getElem?_set_ne (Ne.symm e)] at h
    exact h
theorem isO_lt {i : Nat} (h : isO y i = true) : i < y.length := by
  unfold isO at h
  cases q : y[i]? with
  | none => rw [q] at h; cases h
  | some o => exact (List.getElem?_eq_some_iff.mp q).1
theorem isO_set_d {i j : Nat} {d : D} (h : isO (y.set i (some (.d d))) j = true) : j ≠ i ∧ isO y j = true := by
  rcases isO_set h with ⟨_, _, z, e, o⟩ | h | ⟨e, l⟩
  · cases e; cases o
  · exact h
  · have := isO_lt h; rw [List.length_set] at this; omega
theorem Mv_set_d {i : Nat} {v : Option V} {d : D} {a : Addr} (h : Mv F (σ.set i v) (y.set i (some (.d d))) a) : Mv F σ y a := by
  rcases h with h | ⟨j, hj, e⟩
  · exact .inl h
  · obtain ⟨n, o⟩ := isO_set_d hj
    rw [List.getElem?_set_ne (Ne.symm n)] at e
    exact .inr ⟨j, o, e⟩
theorem go_set_d {i : Nat} {v : Option V} {d : D} : Go F σ y H (σ.set i v) (y.set i (some (.d d))) H := fun a o n e => ⟨fun z => n (Mv_set_d z), e⟩
theorem Wd.set_d (w : Wd C F σ y H) {i : Nat} {v : V} {d : D} (hp : i ≠ 0 ∨ C.pp = false) (r : Rp C.K (Mv F σ y) H v d) : Wd C F (σ.set i (some v)) (y.set i (some (.d d))) H := by
  have g : Go F σ y H (σ.set i (some v)) (y.set i (some (.d d))) H := go_set_d
  refine ⟨w.keep, w.live0, w.live, by rw [List.length_set, List.length_set]; exact w.len, fun j z e => ?_, fun j k a h1 h2 e1 e2 => ?_, fun a h => ?_, fun e => ?_, w.sm, fun st j a h e s => ?_⟩
  · by_cases n : j = i
    · subst n
      have hl : j < y.length := by
        have := (List.getElem?_eq_some_iff.mp e).1
        rw [List.length_set] at this; exact this
      rw [List.getElem?_set_self hl] at e
      cases e
      refine ⟨v, ?_, r.go g⟩
      rw [List.getElem?_set_self (by rw [w.len]; exact hl)]
    · rw [List.getElem?_set_ne (Ne.symm n)] at e ⊢
      have s := w.slot j z e
      cases z with
      | d d => obtain ⟨x, h1, h2⟩ := s; exact ⟨x, h1, h2.go g⟩
      | pu n => exact s
      | own ds => obtain ⟨a, xs, h1, h2, h3⟩ := s; exact ⟨a, xs, h1, h2, h3.go g⟩
  · obtain ⟨n1, o1⟩ := isO_set_d h1
    obtain ⟨n2, o2⟩ := isO_set_d h2
    rw [List.getElem?_set_ne (Ne.symm n1)] at e1
    rw [List.getElem?_set_ne (Ne.symm n2)] at e2
    exact w.dist j k a o1 o2 e1 e2
  · obtain ⟨j, hj, e⟩ := h
    obtain ⟨n1, o1⟩ := isO_set_d hj
    rw [List.getElem?_set_ne (Ne.symm n1)] at e
    exact w.frsh a ⟨j, o1, e⟩
  · rcases hp with hp | hp
    · rw [List.getElem?_set_ne hp]; exact w.pin e
    · rw [hp] at e; cases e
  · obtain ⟨n1, o1⟩ := isO_set_d h
    rw [List.getElem?_set_ne (Ne.symm n1)] at e
    exact w.nb st j a o1 e s
end

/-! ### expressions -/
section
variable {C : Ct} {y : S} {ta tb tc te : TE} {Q : Z → S → Prop}
theorem wE_var {i : Nat} {d : D} (h : y[i]? = some (some (.d d))) (q : Q (.d d) y) : wE C (tVar i) y Q := fun F σ H K w k => by
  obtain ⟨x, h1, h2⟩ := w.slot i _ h
  exact ⟨x, h1, k x H (.d d) y w GoH.refl (Sh.refl y) h2 q⟩
theorem wE_ptr {i : Nat} (h : isO y i = true) (q : Q (.ptr i) y) : wE C (tVar i) y Q := fun F σ H K w k => by
  unfold isO at h
  cases e : y[i]? with
  | none => rw [e] at h; cases h
  | some o =>
    cases o with
    | none => rw [e] at h; cases h
    | some z =>
      have hO : isO y i = true := by unfold isO; rw [e]; rw [e] at h; exact h
      have s := w.slot i z e
      cases z with
      | d d => rw [e] at h; cases h
      | pu n => obtain ⟨a, h1, _⟩ := s; exact ⟨_, h1, k _ H (.ptr i) y w GoH.refl (Sh.refl y) ⟨hO, h1⟩ q⟩
      | own ds => obtain ⟨a, xs, h1, _⟩ := s; exact ⟨_, h1, k _ H (.ptr i) y w GoH.refl (Sh.refl y) ⟨hO, h1⟩ q⟩
theorem wE_sc {v : V} {d : D} (s : Sc v d) (q : Q (.d d) y) : wE C (tC v) y Q := fun F σ H K w k => k v H (.d d) y w GoH.refl (Sh.refl y) s.rp q
theorem wE_int {i : Int} (q : Q (.d (.int i)) y) : wE C (tC (.int i)) y Q := wE_sc (.int i) q
theorem wE_str {i : Str} (q : Q (.d (.str i)) y) : wE C (tC (.str i)) y Q := wE_sc (.str i) q
theorem wE_bl {i : Bool} (q : Q (.d (.bool i)) y) : wE C (tC (.bl i)) y Q := wE_sc (.bl i) q
theorem wE_non (q : Q (.d .none) y) : wE C (tC .non) y Q := wE_sc .non q
theorem wE_mono {R : Z → S → Prop} (h : wE C te y Q) (q : ∀ z y', Q z y' → R z y') : wE C te y R := fun F σ H K w k => h F σ H K w fun v H' z y' a b c d e => k v H' z y' a b c d (q z y' e)
/-- a fact over the data, a new heap that only grows -/
def OpD (K : Fg) (r : R2) (res : D → D → D → Prop) : Prop := ∀ (M : Addr → Prop) (H : Hp) (x y : V) (d e g : D) (Q : VK), (∀ a, H a = none → ¬ M a) → Rp K M H x d → Rp K M H y e → res d e g →
  (∀ v H', (∀ a o, H a = some o → H' a = some o) → Rp K M H' v g → Q v H') → r x y H Q
theorem wE_op {r : R2} {res : D → D → D → Prop} (h : OpD C.K r res) (w : wE C ta y fun z y1 => wE C tb y1 fun z' y2 => ∃ d e g, z = .d d ∧ z' = .d e ∧ res d e g ∧ Q (.d g) y2) : wE C (tOp r ta tb) y Q := by
  intro F σ H K wd k
  refine w F σ H _ wd fun x H1 z y1 w1 g1 s1 r1 q1 => ?_
  refine q1 F σ H1 _ w1 fun x2 H2 z' y2 w2 g2 s2 r2 q2 => ?_
  obtain ⟨d, e, g, rfl, rfl, hres, hq⟩ := q2
  refine h (Mv F σ y2) H2 x x2 d e g K (fun a => w2.new) (Rp.go g2 r1) r2 hres fun v H3 gr rv => ?_
  exact k v H3 (.d g) y2 (w2.grow gr) ((g1.trans g2).trans (go_grow gr)) (s1.trans s2) rv hq
theorem opD_I {C : Int → Int → Prop} {g : Int → Int → V} {gd : Int → Int → D} (hg : ∀ i j, Sc (g i j) (gd i j)) {K : Fg} : OpD K (rI C g) (fun d e r => ∃ i j, d = .int i ∧ e = .int j ∧ C i j ∧ r = gd i j) := by
  rintro M H x y d e r Q _ rx ry ⟨i, j, rfl, rfl, c, rfl⟩ k
  exact ⟨i, j, rp_int rx, rp_int ry, c, k _ H (fun _ _ e => e) (hg i j).rp⟩
theorem opD_I0 {g : Int → Int → V} {gd : Int → Int → D} (hg : ∀ i j, Sc (g i j) (gd i j)) {K : Fg} : OpD K (rI0 g) (fun d e r => ∃ i j, d = .int i ∧ e = .int j ∧ r = gd i j) := by
  rintro M H x y d e r Q _ rx ry ⟨i, j, rfl, rfl, rfl⟩ k
  exact ⟨i, j, rp_int rx, rp_int ry, k _ H (fun _ _ e => e) (hg i j).rp⟩
theorem wE_I {P : Int → Int → Prop} {g : Int → Int → V} (gd : Int → Int → D) (hg : ∀ i j, Sc (g i j) (gd i j)) (w : wE C ta y fun z y1 => wE C tb y1 fun z' y2 => ∃ i j, z = .d (.int i) ∧ z' = .d (.int j) ∧ P i j ∧ Q (.d (gd i j)) y2) : wE C (tOp (rI P g) ta tb) y Q :=
  wE_op (opD_I hg) (wE_mono w fun z y1 h => wE_mono h fun z' y2 ⟨i, j, e1, e2, c, q⟩ => ⟨_, _, _, e1, e2, ⟨i, j, rfl, rfl, c, rfl⟩, q⟩)
theorem wE_I0 {g : Int → Int → V} (gd : Int → Int → D) (hg : ∀ i j, Sc (g i j) (gd i j)) (w : wE C ta y fun z y1 => wE C tb y1 fun z' y2 => ∃ i j, z = .d (.int i) ∧ z' = .d (.int j) ∧ Q (.d (gd i j)) y2) : wE C (tOp (rI0 g) ta tb) y Q :=
  wE_op (opD_I0 hg) (wE_mono w fun z y1 h => wE_mono h fun z' y2 ⟨i, j, e1, e2, q⟩ => ⟨_, _, _, e1, e2, ⟨i, j, rfl, rfl, rfl⟩, q⟩)
theorem wE_add (w : wE C ta y fun z y1 => wE C tb y1 fun z' y2 => ∃ i j, z = .d (.int i) ∧ z' = .d (.int j) ∧ Q (.d (.int (i + j))) y2) : wE C (tOp (rI0 fun i j => .int (i + j)) ta tb) y Q := wE_I0 _ (fun _ _ => .int _) w
theorem wE_sub (w : wE C ta y fun z y1 => wE C tb y1 fun z' y2 => ∃ i j, z = .d (.int i) ∧ z' = .d (.int j) ∧ Q (.d (.int (i - j))) y2) : wE C (tOp (rI0 fun i j => .int (i - j)) ta tb) y Q := wE_I0 _ (fun _ _ => .int _) w
theorem wE_lt (w : wE C ta y fun z y1 => wE C tb y1 fun z' y2 => ∃ i j, z = .d (.int i) ∧ z' = .d (.int j) ∧ Q (.d (.bool (decide (i < j)))) y2) : wE C (tOp (rI0 fun i j => .bl (decide (i < j))) ta tb) y Q := wE_I0 (fun i j => .bool (decide (i < j))) (fun _ _ => .bl _) w
theorem wE_le (w : wE C ta y fun z y1 => wE C tb y1 fun z' y2 => ∃ i j, z = .d (.int i) ∧ z' = .d (.int j) ∧ Q (.d (.bool (decide (i ≤ j)))) y2) : wE C (tOp (rI0 fun i j => .bl (decide (i ≤ j))) ta tb) y Q := wE_I0 (fun i j => .bool (decide (i ≤ j))) (fun _ _ => .bl _) w
theorem wE_gt (w : wE C ta y fun z y1 => wE C tb y1 fun z' y2 => ∃ i j, z = .d (.int i) ∧ z' = .d (.int j) ∧ Q (.d (.bool (decide (j < i)))) y2) : wE C (tOp (rI0 fun i j => .bl (decide (j < i))) ta tb) y Q := wE_I0 (fun i j => .bool (decide (j < i))) (fun _ _ => .bl _) w
theorem wE_ge (w : wE C ta y fun z y1 => wE C tb y1 fun z' y2 => ∃ i j, z = .d (.int i) ∧ z' = .d (.int j) ∧ Q (.d (.bool (decide (j ≤ i)))) y2) : wE C (tOp (rI0 fun i j => .bl (decide (j ≤ i))) ta tb) y Q := wE_I0 (fun i j => .bool (decide (j ≤ i))) (fun _ _ => .bl _) w
theorem wE_mulW (w : wE C ta y fun z y1 => wE C tb y1 fun z' y2 => ∃ i j, z = .d (.int i) ∧ z' = .d (.int j) ∧ CMulW i j ∧ Q (.d (.int (i * j))) y2) : wE C (tOp (rI CMulW fun i j => .int (i * j)) ta tb) y Q := wE_I _ (fun _ _ => .int _) w
theorem wE_mul (w : wE C ta y fun z y1 => wE C tb y1 fun z' y2 => ∃ i j, z = .d (.int i) ∧ z' = .d (.int j) ∧ CMul i j ∧ Q (.d (.int (i * j))) y2) : wE C (tOp (rI CMul fun i j => .int (i * j)) ta tb) y Q := wE_I _ (fun _ _ => .int _) w
theorem wE_mod (w : wE C ta y fun z y1 => wE C tb y1 fun z' y2 => ∃ i j, z = .d (.int i) ∧ z' = .d (.int j) ∧ 0 < j ∧ Q (.d (.int (i % j))) y2) : wE C (tOp (rI (fun _ j => 0 < j) fun i j => .int (i % j)) ta tb) y Q := wE_I _ (fun _ _ => .int _) w
theorem wE_pow (w : wE C ta y fun z y1 => wE C tb y1 fun z' y2 => ∃ i j, z = .d (.int i) ∧ z' = .d (.int j) ∧ CPow i j ∧ Q (.d (.int (i ^ j.toNat))) y2) : wE C (tOp (rI CPow fun i j => .int (i ^ j.toNat)) ta tb) y Q := wE_I _ (fun _ _ => .int _) w
theorem wE_fdivW (w : wE C ta y fun z y1 => wE C tb y1 fun z' y2 => ∃ i j, z = .d (.int i) ∧ z' = .d (.int j) ∧ CDivW i j ∧ Q (.d (.int (i / j))) y2) : wE C (tOp (rI CDivW fun i j => .int (i / j)) ta tb) y Q := wE_I _ (fun _ _ => .int _) w
theorem wE_neg (w : wE C ta y fun z y1 => ∃ i, z = .d (.int i) ∧ Q (.d (.int (-i))) y1) : wE C (tUn (rU fun i => .int (-i)) ta) y Q := by
  intro F σ H K wd k
  refine w F σ H _ wd fun x H1 z y1 w1 g1 s1 r1 q1 => ?_
  obtain ⟨i, rfl, q⟩ := q1
  exact ⟨i, rp_int r1, k _ H1 (.d (.int (-i))) y1 w1 g1 s1 (.int _) q⟩
theorem wE_S0 {α : Type} {g : Str → Str → V} (gd : Str → Str → D) (hg : ∀ i j, Sc (g i j) (gd i j)) (w : wE C ta y fun z y1 => wE C tb y1 fun z' y2 => ∃ i j, z = .d (.str i) ∧ z' = .d (.str j) ∧ Q (.d (gd i j)) y2) : wE C (tOp (fun x y H Q => ∃ i j, x = .str i ∧ y = .str j ∧ Q (g i j) H) ta tb) y Q := by
  refine wE_op (res := fun d e r => ∃ i j, d = .str i ∧ e = .str j ∧ r = gd i j) ?_ (wE_mono w fun z y1 h => wE_mono h fun z' y2 ⟨i, j, e1, e2, q⟩ => ⟨_, _, _, e1, e2, ⟨i, j, rfl, rfl, rfl⟩, q⟩)
  rintro M H x y d e r Q _ rx ry ⟨i, j, rfl, rfl, rfl⟩ k
  exact ⟨i, j, rp_str rx, rp_str ry, k _ H (fun _ _ e => e) (hg i j).rp⟩
theorem wE_ltS (w : wE C ta y fun z y1 => wE C tb y1 fun z' y2 => ∃ i j, z = .d (.str i) ∧ z' = .d (.str j) ∧ Q (.d (.bool (decide (i.cps.toList < j.cps.toList)))) y2) :
    wE C (tOp (fun x y H Q => ∃ i j, x = .str i ∧ y = .str j ∧ Q (.bl (decide (i.cps.toList < j.cps.toList))) H) ta tb) y Q := wE_S0 (α := Unit) (fun i j => .bool (decide (i.cps.toList < j.cps.toList))) (fun _ _ => .bl _) w
theorem wE_leS (w : wE C ta y fun z y1 => wE C tb y1 fun z' y2 => ∃ i j, z = .d (.str i) ∧ z' = .d (.str j) ∧ Q (.d (.bool (!decide (j.cps.toList < i.cps.toList)))) y2) :
    wE C (tOp (fun x y H Q => ∃ i j, x = .str i ∧ y = .str j ∧ Q (.bl (!decide (j.cps.toList < i.cps.toList))) H) ta tb) y Q := wE_S0 (α := Unit) (fun i j => .bool (!decide (j.cps.toList < i.cps.toList))) (fun _ _ => .bl _) w
theorem wE_addS (w : wE C ta y fun z y1 => wE C tb y1 fun z' y2 => ∃ i j, z = .d (.str i) ∧ z' = .d (.str j) ∧ i.length + j.length ≤ sizeLine ∧ Q (.d (.str (i ++ j))) y2) :
    wE C (tOp (fun x y H Q => ∃ i j, x = .str i ∧ y = .str j ∧ i.length + j.length ≤ sizeLine ∧ Q (.str (i ++ j)) H) ta tb) y Q := by
  refine wE_op (res := fun d e r => ∃ i j, d = .str i ∧ e = .str j ∧ i.length + j.length ≤ sizeLine ∧ r = .str (i ++ j)) ?_ (wE_mono w fun z y1 h => wE_mono h fun z' y2 ⟨i, j, e1, e2, c, q⟩ => ⟨_, _, _, e1, e2, ⟨i, j, rfl, rfl, c, rfl⟩, q⟩)
  rintro M H x y d e r Q _ rx ry ⟨i, j, rfl, rfl, c, rfl⟩ k
  exact ⟨i, j, rp_str rx, rp_str ry, c, k _ H (fun _ _ e => e) (.str _)⟩
theorem wE_inSign (w : wE C ta y fun z y1 => wE C tb y1 fun z' y2 => ∃ (c : Nat) (j : Str), z = .d (.str ⟨#[c]⟩) ∧ z' = .d (.str j) ∧ Q (.d (.bool (decide (c ∈ j.cps.toList)))) y2) :
    wE C (tOp (fun x y H Q => ∃ (c : Nat) (z : Str), x = .str ⟨#[c]⟩ ∧ y = .str z ∧ Q (.bl (decide (c ∈ z.cps.toList))) H) ta tb) y Q := by
  refine wE_op (res := fun d e r => ∃ (c : Nat) (j : Str), d = .str ⟨#[c]⟩ ∧ e = .str j ∧ r = .bool (decide (c ∈ j.cps.toList))) ?_ (wE_mono w fun z y1 h => wE_mono h fun z' y2 ⟨i, j, e1, e2, q⟩ => ⟨_, _, _, e1, e2, ⟨i, j, rfl, rfl, rfl⟩, q⟩)
  rintro M H x y d e r Q _ rx ry ⟨i, j, rfl, rfl, rfl⟩ k
  exact ⟨i, j, rp_str rx, rp_str ry, k _ H (fun _ _ e => e) (.bl _)⟩
/-- data without dicts, for == -/
theorem Rp.dp {K : Fg} {M : Addr → Prop} {H : Hp} {v : V} {d : D} (r : Rp K M H v d) : d.hasDict = false → Dp K H v d :=
  Rp.rec (motive_1 := fun v d _ => d.hasDict = false → Dp K H v d) (motive_2 := fun vs ds _ => PyData.hasDictAll ds = false → DpAll K H vs ds) (motive_3 := fun _ _ _ => True)
    (fun _ => .non) (fun b _ => .bl b) (fun b _ => .int b) (fun b _ => .str b)
    (fun h _ i e => .lst h.sq (i (by simpa only [PyData.hasDict] using e))) (fun h _ i e => .tup h.sq (i (by simpa only [PyData.hasDict] using e)))
    (fun _ _ _ _ e => by simp [PyData.hasDict] at e)
    (fun _ => .nil) (fun _ _ a b e => by
      simp only [PyData.hasDictAll, Bool.or_eq_false_iff] at e
      exact .cons (a e.1) (b e.2)) trivial (fun _ _ _ _ => trivial) r
theorem canLay_noDict {d : D} (h : SeqAt.shaped d = true) : d.hasDict = false := PyData.hasDict_of_canLay d (SeqAt.canLay_of_shaped h)
theorem wE_eqD (w : wE C ta y fun z y1 => wE C tb y1 fun z' y2 => ∃ d e, z = .d d ∧ z' = .d e ∧ SeqAt.shaped d = true ∧ SeqAt.shaped e = true ∧ Q (.d (.bool (PyData.eqv d e))) y2) : wE C (tOp (rEqD C.K) ta tb) y Q := by
  refine wE_op (res := fun d e r => SeqAt.shaped d = true ∧ SeqAt.shaped e = true ∧ r = .bool (PyData.eqv d e)) ?_ (wE_mono w fun z y1 h => wE_mono h fun z' y2 ⟨d, e, e1, e2, s1, s2, q⟩ => ⟨_, _, _, e1, e2, ⟨s1, s2, rfl⟩, q⟩)
  rintro M H x y d e r Q _ rx ry ⟨s1, s2, rfl⟩ k
  exact ⟨d, e, rx.dp (canLay_noDict s1), ry.dp (canLay_noDict s2), s1, s2, k _ H (fun _ _ e => e) (.bl _)⟩
theorem wE_neD (w : wE C ta y fun z y1 => wE C tb y1 fun z' y2 => ∃ d e, z = .d d ∧ z' = .d e ∧ SeqAt.shaped d = true ∧ SeqAt.shaped e = true ∧ Q (.d (.bool (!PyData.eqv d e))) y2) : wE C (tOp (rNeD C.K) ta tb) y Q := by
  refine wE_op (res := fun d e r => SeqAt.shaped d = true ∧ SeqAt.shaped e = true ∧ r = .bool (!PyData.eqv d e)) ?_ (wE_mono w fun z y1 h => wE_mono h fun z' y2 ⟨d, e, e1, e2, s1, s2, q⟩ => ⟨_, _, _, e1, e2, ⟨s1, s2, rfl⟩, q⟩)
  rintro M H x y d e r Q _ rx ry ⟨s1, s2, rfl⟩ k
  exact ⟨d, e, rx.dp (canLay_noDict s1), ry.dp (canLay_noDict s2), s1, s2, k _ H (fun _ _ e => e) (.bl _)⟩
theorem wE_isN (w : wE C ta y fun z y1 => wE C tb y1 fun z' y2 => ∃ d, z = .d d ∧ z' = .d .none ∧ Q (.d (.bool (match d with | .none => true | _ => false))) y2) :
    wE C (tOp (fun x y H Q => y = .non ∧ Q (.bl (decide (x = .non))) H) ta tb) y Q := by
  refine wE_op (res := fun d e r => e = .none ∧ r = .bool (match d with | .none => true | _ => false)) ?_ (wE_mono w fun z y1 h => wE_mono h fun z' y2 ⟨d, e1, e2, q⟩ => ⟨_, _, _, e1, e2, ⟨rfl, rfl⟩, q⟩)
  rintro M H x y d e r Q _ rx ry ⟨rfl, rfl⟩ k
  refine ⟨rp_non ry, k _ H (fun _ _ e => e) ?_⟩
  cases rx <;> exact .bl _
theorem wE_notN (w : wE C ta y fun z y1 => wE C tb y1 fun z' y2 => ∃ d, z = .d d ∧ z' = .d .none ∧ Q (.d (.bool (match d with | .none => false | _ => true))) y2) :
    wE C (tOp (fun x y H Q => y = .non ∧ Q (.bl (!decide (x = .non))) H) ta tb) y Q := by
  refine wE_op (res := fun d e r => e = .none ∧ r = .bool (match d with | .none => false | _ => true)) ?_ (wE_mono w fun z y1 h => wE_mono h fun z' y2 ⟨d, e1, e2, q⟩ => ⟨_, _, _, e1, e2, ⟨rfl, rfl⟩, q⟩)
  rintro M H x y d e r Q _ rx ry ⟨rfl, rfl⟩ k
  refine ⟨rp_non ry, k _ H (fun _ _ e => e) ?_⟩
  cases rx <;> exact .bl _
/-! items -/
def dIx (d : D) (i : Int) : Option D := match d with
  | .list xs => atI xs i
  | .tuple xs => atI xs i
  | .str z => if z.length ≤ sizeLine then (atI z.cps.toList i).map fun c => .str ⟨#[c]⟩ else none
  | _ => none
theorem atI_rp {K : Fg} {M : Addr → Prop} {H : Hp} {vs : List V} {ds : List D} {i : Int} {d : D} (r : RpA K M H vs ds) (h : atI ds i = some d) : ∃ v, atI vs i = some v ∧ Rp K M H v d := by
  unfold atI at h ⊢
  rw [r.len]
  cases e : ixN ds.length i with
  | none => rw [e] at h; cases h
  | some j =>
    rw [e] at h
    exact r.get (i := j) h
theorem wE_ix (w : wE C ta y fun z y1 => wE C tb y1 fun z' y2 => ∃ d i g, z = .d d ∧ z' = .d (.int i) ∧ dIx d i = some g ∧ Q (.d g) y2) : wE C (tOp (rIx C.K) ta tb) y Q := by
  refine wE_op (res := fun d e r => ∃ i, e = .int i ∧ dIx d i = some r) ?_ (wE_mono w fun z y1 h => wE_mono h fun z' y2 ⟨d, i, g, e1, e2, s, q⟩ => ⟨_, _, _, e1, e2, ⟨i, rfl, s⟩, q⟩)
  rintro M H x y d e r Q _ rx ry ⟨i, rfl, h⟩ k
  have ey := rp_int ry
  cases rx with
  | non => cases h
  | bl b => cases h
  | int b => cases h
  | dic _ _ _ => cases h
  | str z =>
    simp only [dIx] at h
    by_cases hz : z.length ≤ sizeLine
    · rw [if_pos hz] at h
      cases q : atI z.cps.toList i with
      | none => rw [q] at h; cases h
      | some c =>
        rw [q] at h; cases h
        exact .inr (.inr ⟨z, i, c, rfl, ey, hz, q, k _ H (fun _ _ e => e) (.str _)⟩)
    · rw [if_neg hz] at h; cases h
  | lst h1 h2 =>
    obtain ⟨v, e, rv⟩ := atI_rp h2 h
    exact .inl ⟨_, _, i, v, rfl, ey, h1.sq, e, k _ H (fun _ _ e => e) rv⟩
  | tup h1 h2 =>
    obtain ⟨v, e, rv⟩ := atI_rp h2 h
    exact .inr (.inl ⟨_, _, i, v, rfl, ey, h1.sq, e, k _ H (fun _ _ e => e) rv⟩)
end
end Tq

set_option maxRecDepth 100000
set_option maxHeartbeats 2000000
namespace Tq
open PySem PySem.Spec PyProof.Rows L2
/-! ### further operators over HandS -/
section
variable {X : Cx}
/-- list + list, whatever the lists are -/
def rCatG (K : Fg) : R2 := fun x y H Q => ∃ l b xs zs, x = .ref l ∧ y = .ref b ∧ SqL K H l xs ∧ SqL K H b zs ∧ xs.length + zs.length ≤ sizeLine ∧ ∀ p, H p = none → Q (.ref p) (upd H p (.lst (xs ++ zs)))
theorem op_catG : OpR X (binaryOp .Add) (rCatG X.K) := by
  intro pins s σ H x y v u Q I rx ry h
  obtain ⟨l, b, xs, zs, rfl, rfl, hl, hb, hz, q⟩ := h
  cases rx
  cases ry
  obtain ⟨i1, r1, p1, z1⟩ := I.list hl
  obtain ⟨i2, r2, p2, z2⟩ := I.list hb
  obtain ⟨⟨c1, d1, t1, s1⟩, ho1, hc1, n1, hd1⟩ := p1.isList
  obtain ⟨⟨c2, d2, t2, s2⟩, ho2, hc2, n2, hd2⟩ := p2.isList
  simp only at hc1 hd1 hc2 hd2
  subst hc1 hd1 hc2 hd2
  have l1 := r1.length
  have l2 := r2.length
  refine concat_meets ⟨_, ho1, rfl⟩ ⟨_, ho2, rfl⟩ noFill_list_add seq_list_add PySem.F.slot_list_add PySem.F.entry_list_add (PySem.F.args_list_add_2 _ _)
    (list_addW l b i1.toArray i2.toArray n1 n2 d1 d2 s1 s2 (by rw [List.size_toArray, List.size_toArray]; omega)) ⟨ho1, ho2, ?_⟩
  have ea : i1.toArray ++ i2.toArray = (i1 ++ i2).toArray := by simp
  rw [ea]
  exact ⟨.ref _, _, I.lnew (t' := s.toks) (r1.append r2) (by rw [List.length_append]; omega), rfl, q _ I.fresh⟩
/-- // by any number but nought, below 2 ^ 9000 in size -/
def CDivZ (_ j : Int) : Prop := j ≠ 0 ∧ j.natAbs.log2 < 9000
end
/-! ### repr -/
def scD : D → Bool
  | .none | .bool _ | .int _ | .str _ => true
  | _ => false
/-- no dict but at the top, and there with plain values -/
def dsm (d : D) : Bool := match d with
  | .dict kvs => kvs.all fun kv => scD kv.2
  | d => !d.hasDict
abbrev M0 : Addr → Prop := fun _ => False
theorem Rp.any {K : Fg} {M : Addr → Prop} {H : Hp} {v : V} {d : D} (r : Rp K M H v d) : Rp K M0 H v d := r.go fun a o _ e => ⟨fun z => z, e⟩
section
variable {X : Cx} {pins : List (Addr × Obj)} {σ : St} {H : Hp} {s : Shared}
theorem rpk_reads : ∀ {kvs : List (Key × V)} {ds : List (D × D)} {vs : List (Key × Value)} {es : List DictEntry}, RpK X.K M0 H kvs ds → ds.all (fun kv => scD kv.2) = true → KV kvs vs → Pairs (mixKind X.prog X.w) es vs →
    ReadsAll s.heap (es.map (·.key)) (ds.map (·.1)) [] ∧ ReadsAll s.heap (es.map (·.val)) (ds.map (·.2)) []
  | _, _, _, _, .nil, _, kv, pr => by
    cases kv
    cases pr
    exact ⟨.nil, .nil⟩
  | _, _, _, _, @RpK.cons _ _ _ k v d _ _ a b, hs, kv, pr => by
    cases kv with
    | @cons _ kw _ _ r1 r2 =>
      cases pr with
      | @cons e _ es _ p1 p2 p3 =>
        rw [List.all_cons, Bool.and_eq_true] at hs
        obtain ⟨q1, q2⟩ := rpk_reads b hs.2 r2 p3
        have e1 : k = kw.1 := r1.1
        have rv : RelV v kw.2 := r1.2
        constructor
        · have rk : Reads s.heap e.key (kD k) [] := by
            rw [← e1, mixKind_is] at p1
            rcases keyIs_shape p1 with ⟨i, t, z1, z2⟩ | ⟨x, t, z1, z2⟩
            · rw [z1, z2]; exact .int i t
            · rw [z1, z2]; exact .str x t
          exact ReadsAll.cons (as := []) (bs := []) rk q1
        · have rw' : Reads s.heap e.val d [] := by
            rw [p2]
            cases a with
            | non => rw [show kw.2 = Value.none from rv]; exact .none
            | bl b => rw [show kw.2 = Value.bool b from rv]; exact .bool b
            | int b => obtain ⟨t, z⟩ := (show ∃ t, kw.2 = Value.int b t from rv); rw [z]; exact .int b t
            | str b => obtain ⟨t, z⟩ := (show ∃ t, kw.2 = Value.str b t from rv); rw [z]; exact .str b t
            | lst _ _ => cases hs.1
            | tup _ _ => cases hs.1
            | dic _ _ _ => cases hs.1
          exact ReadsAll.cons (as := []) (bs := []) rw' q2
theorem Rp.reads (I : Inv X pins σ H s) {v : V} {u : Value} {d : D} (r : Rp X.K M0 H v d) (rv : RelV v u) (hs : dsm d = true) : ∃ as, Reads s.heap u d as ∧ (d.hasDict = true → sysModules ∉ as) := by
  by_cases hd : d.hasDict = false
  · obtain ⟨as, q⟩ := Dp.reads I d v u (r.dp hd) rv
    exact ⟨as, q, fun z => by rw [hd] at z; cases z⟩
  · cases r with
    | non => exact absurd rfl hd
    | bl _ => exact absurd rfl hd
    | int _ => exact absurd rfl hd
    | str _ => exact absurd rfl hd
    | lst _ _ => simp only [dsm, Bool.not_eq_true'] at hs; exact absurd hs hd
    | tup _ _ => simp only [dsm, Bool.not_eq_true'] at hs; exact absurd hs hd
    | @dic a kvs ds _ h k =>
      cases (show u = Value.ref a from rv)
      obtain ⟨_, nsm, vs, kv, o, es, ep, ho, ex, hdt, _, pr, _⟩ := (show ObjOk X.prog X.w H s.heap a (.dK kvs) from I.hok a _ h)
      obtain ⟨q1, q2⟩ := rpk_reads (X := X) (s := s) k hs kv pr
      refine ⟨_, Reads.dict (as := []) (bs := []) ho ex.1 hdt q1 q2, fun _ z => ?_⟩
      have z' : sysModules = a := by simpa using z
      rw [z'] at nsm
      simp at nsm
def rRepr (K : Fg) : List V → Hp → VK → Prop := fun xs H Q => ∃ x d, xs = [x] ∧ Rp K M0 H x d ∧ dsm d = true ∧ d.showable = true ∧ d.depth ≤ 60 ∧ d.shown.length ≤ sizeLine ∧ Q (.str d.shown) H
end
/-! ### promises where nothing is being shown: as FnOk, with the guards told -/
structure FnG (P : Program) (w : World) (K : Fg) (mg : Str → Option Value) (base : Heap) (CX : CXT) (k : Nat) (f : Addr) (fd : FuncData) (ps : List Str) (sp : Sp) : Prop where
  len : ∀ vs H Q E, sp vs H Q E → vs.length = ps.length
  run : ∀ (A : Around) (outer : List Env) (s : Shared) (H : Hp) (args : Args) (us : List Value) (vs : List V) (Q : VK) (E : XK), Room k A → A.guards = some [] →
    Env0 P w K mg base A outer s H → BindsTo s fd args (ps.zip us) → Vals vs us → sp vs H Q E → codeAny (model P w) A (.call (.ref f) args) (CR CX outer P w H s Q E) s
theorem FnG.of {P : Program} {w : World} {K : Fg} {mg : Str → Option Value} {base : Heap} {CX : CXT} {k : Nat} {f : Addr} {fd : FuncData} {ps : List Str} {sp : Sp} (F : FnOk P w K mg base CX k f fd ps sp) :
    FnG P w K mg base CX k f fd ps sp := ⟨F.len, fun A outer s H args us vs Q E hr _ => F.run A outer s H args us vs Q E hr⟩
theorem FnG.mono {P : Program} {w : World} {K : Fg} {mg : Str → Option Value} {base : Heap} {CX : CXT} {j k : Nat} {f : Addr} {fd : FuncData} {ps : List Str} {sp : Sp} (F : FnG P w K mg base CX j f fd ps sp) (h : j ≤ k) :
    FnG P w K mg base CX k f fd ps sp := ⟨F.len, fun A outer s H args us vs Q E hr => F.run A outer s H args us vs Q E (hr.mono h)⟩
section
variable {X : Cx} {CX : CXT} {k : Nat} {f : Addr} {fd : FuncData} {ps : List Str} {sp : Sp} {dvs : List V} {ds : List Value} {E : XK} {x : Str} {p pos : Pos} {e : Expr} {es : List Expr} {t : TA}
theorem run_fnG {pins : List (Addr × Obj)} {σ : St} {H : Hp} {s : Shared} {Q : VK} {us : List Value} {vs : List V} (F : FnG X.prog X.w X.K X.mg X.base CX k f fd ps sp) (hr : Room k X.A) (hg : X.A.guards = some []) (hb : Binds X.K fd ps ds) (hd : Vals dvs ds)
    (hx : Passes CX X E) (I : Inv X pins σ H s) (r : Vals vs us) (h : sp (vs ++ dvs) H Q E) : wpAny (model X.prog X.w) X.A (call (.ref f) us) (EP X pins σ Q) X.xe s := by
  have r2 : Vals (vs ++ dvs) (us ++ ds) := r.append hd
  have hl : (us ++ ds).length = ps.length := by
    rw [← r2.length]
    exact F.len _ _ _ _ h
  refine wpAny_call (codeAny_mono (F.run X.A X.stack s H ⟨us, []⟩ (us ++ ds) (vs ++ dvs) Q E hr hg I.env0 (hb s us I.kIn hl) r2 h) fun res s2 hq => ?_)
  cases res with
  | error ev => exact hx pins σ H s ev s2 I hq
  | ok fl =>
    cases fl
    case ret u => exact I.after hq
    all_goals exact False.elim hq
theorem pe_callG (F : FnG X.prog X.w X.K X.mg X.base CX k f fd ps sp) (hr : Room k X.A) (hgu : X.A.guards = some []) (hg : Gl X x) (hm : X.mg x = some (.ref f)) (hk : PySem.W.keepIn X.K (.ref f) = true) (hb : Binds X.K fd ps ds) (hd : Vals dvs ds)
    (hx : Passes CX X E) (ha : PA X (e :: es) t) (hdb : (x == ("__debug__" : Str)) = false := by decide)
    (he : starEach (e :: es) X.env = (false, eval e X.env) :: starEach es X.env := by rfl)
    (hpl : (backTo pos (starEach es X.env)).any (·.1) = false := by rfl) : PE X (.Call (.Name x p) (e :: es) [] pos) (tCall sp dvs E t) := by
  constructor
  intro pins s σ H Q I h
  refine wpAny_Call_Name_kw (ld_glob I hg hm ?_ hdb)
  refine PySem.W.callWith_K (h₀ := X.base) I.ok.mod.kin hk (thn (ha.run pos pins s σ H _ I h) fun us s1 ⟨vs, H1, I1, r, q⟩ => ⟨I1.kIn, ?_⟩) he hpl
  exact run_fnG F hr hgu hb hd hx I1 r q
end
theorem fn_ofG {CX : CXT} {P : Program} {w : World} {K : Fg} {mg : Str → Option Value} {base : Heap} {k : Nat} {f : Addr} {name qual : Str} {params : Arguments} {body : List Stmt} {scope : Scope} {dV kV doc pm cdv ct oc : Value} {an od : Option Addr}
    {osl : Array (Option Value)} {N ps : List Str} {sp : Sp} (lk : K.lookup f = some ⟨oc, od, .func (PySem.W.fnOf name qual params body scope dV kV doc pm an cdv ct), osl⟩) (hcd : PySem.W.codeIn K cdv qual = true) (Sc : FnScope N ps scope)
    (len : ∀ vs H Q E, sp vs H Q E → vs.length = ps.length)
    (hbody : ∀ (A : Around) (outer : List Env) (s : Shared) (H : Hp) (vs : List V) (Q : VK) (E : XK), Room k (A.deeper (envOfC qual scope s.heap.objs.size f cdv)) → (A.deeper (envOfC qual scope s.heap.objs.size f cdv)).guards = some [] → sp vs H Q E →
      ∃ t, PSs (cxOf CX P w K mg base N qual scope f cdv A outer s H E) body t ∧ t { nx := fun _ H' => Q .non H', rt := Q } (start N vs) H) :
    FnG P w K mg base CX (k + 1) f (PySem.W.fnOf name qual params body scope dV kV doc pm an cdv ct) ps sp := by
  refine ⟨len, fun A outer s H args us vs Q E hr hgu e0 hb r hsp => ?_⟩
  have hl := len _ _ _ _ hsp
  have kpd : ∀ b o, base.get? b = some o → s.heap.get? b = some o := fun b o e => (e0.bs b o e).1
  have KX : K.In s.heap := e0.mod.kin.keeps kpd
  have lim : s.heap.NoLimit := e0.mod.nolimit.keeps kpd
  have hkind : ∀ z ∈ ps.zip us, scope.names.lookup z.1 = some .local ∨ (scope.names.lookup z.1 = some .cell ∧ ((cellsFrom (s.heap.objs.size + 1) scope.names []).lookup z.1).isSome = true) := by
    rintro ⟨n, v⟩ hz
    rcases Sc.par n (List.of_mem_zip hz).1 with q | q
    · exact .inl q
    · exact .inr ⟨q, PySem.W.cellsFrom_some _ _ _ (.inl q)⟩
  refine codeAny_call_function hr.depth (KX _ _ lk) rfl Sc.co Sc.gen rfl (PySem.W.codeRec_of KX hcd) (hb _ _ _ _ ?_)
  refine wpAny_newFunctionEnv_cells Sc.kind hkind fun env he s1 x => ?_
  subst he
  refine ⟨lim.keeps x.toInCall.keep, codeAny_func ?_⟩
  obtain ⟨t, ht, hq⟩ := hbody A outer s H vs Q E (hr.deeper _) hgu hsp
  have I : Inv (cxOf CX P w K mg base N qual scope f cdv A outer s H E) [] (start N vs) H s1 := inv_start Sc hr.hd e0 hl r x
  refine wpAny_mono (ht.run [] s1 (start N vs) H _ I hq) (fun fl s2 hs => ?_) fun ev s2 hs => hs
  cases fl with
  | ret u =>
    obtain ⟨v, τ, G, J, rv, q⟩ := hs
    exact ⟨v, G, J.os, J.bare, J.base, J.hok, rv, q⟩
  | next =>
    obtain ⟨τ, G, J, q⟩ := hs
    exact ⟨V.non, G, J.os, J.bare, J.base, J.hok, rfl, q⟩
  | brk =>
    obtain ⟨_, _, _, q⟩ := hs
    exact False.elim q
  | cont =>
    obtain ⟨_, _, _, q⟩ := hs
    exact False.elim q
theorem okG {P : Program} {w : World} {K : Fg} {mg : Str → Option Value} {base : Heap} {x qual : Str} {st : Stmt} {f : Addr} {fd : FuncData} {N ps : List Str} {k : Nat} {sp : Sp} (F : Fun K x qual st f fd) (Sc : FnScope N ps (defScope st))
    (len : ∀ vs H Q E, sp vs H Q E → vs.length = ps.length)
    (hbody : ∀ (cdv : Value) (A : Around) (outer : List Env) (s : Shared) (H : Hp) (vs : List V) (Q : VK) (E : XK), Room k (A.deeper (envOfC qual (defScope st) s.heap.objs.size f cdv)) →
      (A.deeper (envOfC qual (defScope st) s.heap.objs.size f cdv)).guards = some [] → sp vs H Q E →
      ∃ t, PSs (cxOf CX0 P w K mg base N qual (defScope st) f cdv A outer s H E).nox (defBody st) t ∧ t { nx := fun _ G => Q .non G, rt := Q } (start N vs) H) : FnG P w K mg base CX0 (k + 1) f fd ps sp := by
  obtain ⟨oc, od, kV, doc, pm, an, cdv, ct, osl, rfl, lk, hcd⟩ := F.ex
  refine fn_ofG lk hcd Sc len fun A outer s H vs Q E hr hgu hsp => ?_
  obtain ⟨t, h, q⟩ := hbody cdv A outer s H vs Q E hr hgu hsp
  exact ⟨t, h.nox, q⟩
end Tq

set_option maxRecDepth 100000
set_option maxHeartbeats 2000000
namespace Tq
open PySem PySem.Spec PyProof.Rows L2
/-- what the law's call is to show -/
abbrev LawEnd (s₁ : Shared) : Result → Shared → Prop := fun r s' => r = .ok (.ret (.bool true)) ∧ OldK s₁.heap s'.heap ∧ s'.os = s₁.os ∧ AllBare s'.gens
section
variable {P : Program} {w : World} {K : Fg} {mg mb : Str → Option Value} {CX : CXT} {k : Nat} {fa a : Addr} {fd : FuncData} {x : Str} {sp : Sp} {s₁ : Shared} {vs : List Value} {ns : List Int}
end
end Tq

set_option maxRecDepth 100000
set_option maxHeartbeats 2000000
namespace Tq
open PySem PySem.Spec PyProof.Rows L2
section
variable {C : Ct} {y : S} {ta tb tc te : TE} {t u : TT} {ts : TA} {Q : Z → S → Prop} {R : Bool → S → Prop}
theorem wE_catG (w : wE C ta y fun z y1 => wE C tb y1 fun z' y2 => ∃ xs ys, z = .d (.list xs) ∧ z' = .d (.list ys) ∧ xs.length + ys.length ≤ sizeLine ∧ Q (.d (.list (xs ++ ys))) y2) : wE C (tOp (rCatG C.K) ta tb) y Q := by
  refine wE_op (res := fun d e r => ∃ xs ys, d = .list xs ∧ e = .list ys ∧ xs.length + ys.length ≤ sizeLine ∧ r = .list (xs ++ ys)) ?_ (wE_mono w fun z y1 h => wE_mono h fun z' y2 ⟨xs, ys, e1, e2, c, q⟩ => ⟨_, _, _, e1, e2, ⟨xs, ys, rfl, rfl, c, rfl⟩, q⟩)
  rintro M H x y d e r Q fr rx ry ⟨xs, ys, rfl, rfl, c, rfl⟩ k
  obtain ⟨a, us, rfl, h1, h2⟩ := rp_lst rx
  obtain ⟨b, vs, rfl, h3, h4⟩ := rp_lst ry
  refine ⟨a, b, us, vs, rfl, rfl, h1.sq, h3.sq, by rw [h2.len, h4.len]; exact c, fun p hp => k _ _ (grow_upd hp) ?_⟩
  have g : GoH M H M (upd H p (.lst (us ++ vs))) := fun a o n e => ⟨n, grow_upd hp a o e⟩
  exact .lst (.inl ⟨fr p hp, .inl upd_same⟩) ((h2.go g).app (h4.go g))
theorem wE_fdivZ (w : wE C ta y fun z y1 => wE C tb y1 fun z' y2 => ∃ i j, z = .d (.int i) ∧ z' = .d (.int j) ∧ CDivZ i j ∧ Q (.d (.int (i.fdiv j))) y2) : wE C (tOp (rI CDivZ fun i j => .int (i.fdiv j)) ta tb) y Q := wE_I _ (fun _ _ => .int _) w
theorem wE_modN (w : wE C ta y fun z y1 => wE C tb y1 fun z' y2 => ∃ i j, z = .d (.int i) ∧ z' = .d (.int j) ∧ j ≠ 0 ∧ Q (.d (.int (i.fmod j))) y2) : wE C (tOp (rI (fun _ j => j ≠ 0) fun i j => .int (i.fmod j)) ta tb) y Q := wE_I _ (fun _ _ => .int _) w
/-! truth -/
theorem wE_andV (w : wE C ta y fun z y1 => ∃ b, z = .d (.bool b) ∧ if b = true then wE C tb y1 Q else Q (.d (.bool false)) y1) : wE C (tAndV ta tb) y Q := by
  intro F σ H K wd k
  refine w F σ H _ wd fun x H1 z y1 w1 g1 s1 r1 q1 => ?_
  obtain ⟨b, rfl, q⟩ := q1
  refine ⟨b, rp_bl r1, ?_⟩
  cases b with
  | true => exact q F σ H1 _ w1 fun v H2 z y2 w2 g2 s2 r2 q2 => k v H2 z y2 w2 (g1.trans g2) (s1.trans s2) r2 q2
  | false => exact k _ H1 (.d (.bool false)) y1 w1 g1 s1 (.bl _) q
theorem wE_orV (w : wE C ta y fun z y1 => ∃ b, z = .d (.bool b) ∧ if b = true then Q (.d (.bool true)) y1 else wE C tb y1 Q) : wE C (tOrV ta tb) y Q := by
  intro F σ H K wd k
  refine w F σ H _ wd fun x H1 z y1 w1 g1 s1 r1 q1 => ?_
  obtain ⟨b, rfl, q⟩ := q1
  refine ⟨b, rp_bl r1, ?_⟩
  cases b with
  | true => exact k _ H1 (.d (.bool true)) y1 w1 g1 s1 (.bl _) q
  | false => exact q F σ H1 _ w1 fun v H2 z y2 w2 g2 s2 r2 q2 => k v H2 z y2 w2 (g1.trans g2) (s1.trans s2) r2 q2
theorem wE_notV (w : wE C ta y fun z y1 => ∃ b, z = .d (.bool b) ∧ Q (.d (.bool (!b))) y1) : wE C (tNotV ta) y Q := by
  intro F σ H K wd k
  refine w F σ H _ wd fun x H1 z y1 w1 g1 s1 r1 q1 => ?_
  obtain ⟨b, rfl, q⟩ := q1
  exact ⟨b, rp_bl r1, k _ H1 (.d (.bool !b)) y1 w1 g1 s1 (.bl _) q⟩
theorem wE_if (w : wT C t y fun b y1 => if b = true then wE C ta y1 Q else wE C tb y1 Q) : wE C (tIf t ta tb) y Q := by
  intro F σ H K wd k
  refine w F σ H _ wd fun b H1 y1 w1 g1 s1 q => ?_
  cases b with
  | true => exact q F σ H1 _ w1 fun v H2 z y2 w2 g2 s2 r2 q2 => k v H2 z y2 w2 (g1.trans g2) (s1.trans s2) r2 q2
  | false => exact q F σ H1 _ w1 fun v H2 z y2 w2 g2 s2 r2 q2 => k v H2 z y2 w2 (g1.trans g2) (s1.trans s2) r2 q2
theorem wT_test (w : wE C te y fun z y1 => ∃ b, z = .d (.bool b) ∧ R b y1) : wT C (tTest te) y R := by
  intro F σ H K wd k
  refine w F σ H _ wd fun x H1 z y1 w1 g1 s1 r1 q1 => ?_
  obtain ⟨b, rfl, q⟩ := q1
  exact ⟨b, rp_bl r1, k b H1 y1 w1 g1 s1 q⟩
theorem wT_B (w : wE C te y fun z y1 => ∃ b, z = .d (.bool b) ∧ R b y1) : wT C (tB te) y R := wT_test w
theorem wT_and (w : wT C t y fun b y1 => if b = true then wT C u y1 R else R false y1) : wT C (tAnd t u) y R := by
  intro F σ H K wd k
  refine w F σ H _ wd fun b H1 y1 w1 g1 s1 q => ?_
  cases b with
  | true => exact q F σ H1 _ w1 fun v H2 y2 w2 g2 s2 q2 => k v H2 y2 w2 (g1.trans g2) (s1.trans s2) q2
  | false => exact k false H1 y1 w1 g1 s1 q
theorem wT_or (w : wT C t y fun b y1 => if b = true then R true y1 else wT C u y1 R) : wT C (tOr t u) y R := by
  intro F σ H K wd k
  refine w F σ H _ wd fun b H1 y1 w1 g1 s1 q => ?_
  cases b with
  | true => exact k true H1 y1 w1 g1 s1 q
  | false => exact q F σ H1 _ w1 fun v H2 y2 w2 g2 s2 q2 => k v H2 y2 w2 (g1.trans g2) (s1.trans s2) q2
theorem wT_not (w : wT C t y fun b y1 => R (!b) y1) : wT C (tNot t) y R := by
  intro F σ H K wd k
  exact w F σ H _ wd fun b H1 y1 w1 g1 s1 q => k (!b) H1 y1 w1 g1 s1 q
theorem wT_yes (q : R true y) : wT C tYes y R := fun F σ H K wd k => k true H y wd GoH.refl (Sh.refl y) q
theorem wT_mono {R' : Bool → S → Prop} (h : wT C t y R) (q : ∀ z y', R z y' → R' z y') : wT C t y R' := fun F σ H K w k => h F σ H K w fun z H' y' a b c e => k z H' y' a b c (q z y' e)
/-- chains -/
theorem wE_chain {r r' : R2} {res res' : D → D → D → Prop} (h : OpD C.K r res) (h' : OpD C.K r' res')
    (w : wE C ta y fun z1 y1 => wE C tb y1 fun z2 y2 => ∃ d1 d2 b, z1 = .d d1 ∧ z2 = .d d2 ∧ res d1 d2 (.bool b) ∧ if b = true then wE C tc y2 fun z3 y3 => ∃ d3 g, z3 = .d d3 ∧ res' d2 d3 g ∧ Q (.d g) y3 else Q (.d (.bool false)) y2) :
    wE C (tChain r r' ta tb tc) y Q := by
  intro F σ H K wd k
  refine w F σ H _ wd fun x H1 z y1 w1 g1 s1 r1 q1 => ?_
  refine q1 F σ H1 _ w1 fun x2 H2 z' y2 w2 g2 s2 r2 q2 => ?_
  obtain ⟨d1, d2, b, rfl, rfl, hres, hq⟩ := q2
  refine h (Mv F σ y2) H2 x x2 d1 d2 (.bool b) _ (fun a => w2.new) (Rp.go g2 r1) r2 hres fun v H3 gr rv => ?_
  have w3 := w2.grow gr
  have g3 := (g1.trans g2).trans (go_grow (F := F) (σ := σ) (y := y2) gr)
  refine ⟨b, rp_bl rv, ?_⟩
  cases b with
  | false => exact k _ H3 (.d (.bool false)) y2 w3 g3 (s1.trans s2) (.bl _) hq
  | true =>
    refine hq F σ H3 _ w3 fun x4 H4 z4 y4 w4 g4 s4 r4 q4 => ?_
    obtain ⟨d3, g, rfl, hres', hq'⟩ := q4
    refine h' (Mv F σ y4) H4 x2 x4 d2 d3 g _ (fun a => w4.new) (Rp.go g4 (Rp.go (go_grow (F := F) (σ := σ) (y := y2) gr) r2)) r4 hres' fun v5 H5 gr5 rv5 => ?_
    exact k v5 H5 (.d g) y4 (w4.grow gr5) ((g3.trans g4).trans (go_grow gr5)) ((s1.trans s2).trans s4) rv5 hq'
theorem wE_chainI {p p' : Int → Int → Bool} (w : wE C ta y fun z1 y1 => wE C tb y1 fun z2 y2 => ∃ i j, z1 = .d (.int i) ∧ z2 = .d (.int j) ∧ if p i j = true then wE C tc y2 fun z3 y3 => ∃ m, z3 = .d (.int m) ∧ Q (.d (.bool (p' j m))) y3 else Q (.d (.bool false)) y2) :
    wE C (tChain (rI0 fun i j => .bl (p i j)) (rI0 fun i j => .bl (p' i j)) ta tb tc) y Q := by
  refine wE_chain (opD_I0 (gd := fun i j => .bool (p i j)) fun _ _ => .bl _) (opD_I0 (gd := fun i j => .bool (p' i j)) fun _ _ => .bl _) (wE_mono w fun z1 y1 h => wE_mono h fun z2 y2 ⟨i, j, e1, e2, q⟩ => ⟨_, _, p i j, e1, e2, ⟨i, j, rfl, rfl, rfl⟩, ?_⟩)
  cases hb : p i j with
  | true =>
    rw [hb] at q
    exact wE_mono (show wE C tc y2 _ from q) fun z3 y3 ⟨m, e3, q3⟩ => ⟨_, _, e3, ⟨j, m, rfl, rfl, rfl⟩, q3⟩
  | false => rw [hb] at q; exact q
theorem opD_S0 {g : Str → Str → V} {gd : Str → Str → D} (hg : ∀ i j, Sc (g i j) (gd i j)) {K : Fg} : OpD K (fun x y H Q => ∃ i j, x = .str i ∧ y = .str j ∧ Q (g i j) H) (fun d e r => ∃ i j, d = .str i ∧ e = .str j ∧ r = gd i j) := by
  rintro M H x y d e r Q _ rx ry ⟨i, j, rfl, rfl, rfl⟩ k
  exact ⟨i, j, rp_str rx, rp_str ry, k _ H (fun _ _ e => e) (hg i j).rp⟩
theorem wE_chainS {p p' : Str → Str → Bool} (w : wE C ta y fun z1 y1 => wE C tb y1 fun z2 y2 => ∃ i j, z1 = .d (.str i) ∧ z2 = .d (.str j) ∧ if p i j = true then wE C tc y2 fun z3 y3 => ∃ m, z3 = .d (.str m) ∧ Q (.d (.bool (p' j m))) y3 else Q (.d (.bool false)) y2) :
    wE C (tChain (fun x y H Q => ∃ i j, x = .str i ∧ y = .str j ∧ Q (.bl (p i j)) H) (fun x y H Q => ∃ i j, x = .str i ∧ y = .str j ∧ Q (.bl (p' i j)) H) ta tb tc) y Q := by
  refine wE_chain (opD_S0 (gd := fun i j => .bool (p i j)) fun _ _ => .bl _) (opD_S0 (gd := fun i j => .bool (p' i j)) fun _ _ => .bl _) (wE_mono w fun z1 y1 h => wE_mono h fun z2 y2 ⟨i, j, e1, e2, q⟩ => ⟨_, _, p i j, e1, e2, ⟨i, j, rfl, rfl, rfl⟩, ?_⟩)
  cases hb : p i j with
  | true =>
    rw [hb] at q
    exact wE_mono (show wE C tc y2 _ from q) fun z3 y3 ⟨m, e3, q3⟩ => ⟨_, _, e3, ⟨j, m, rfl, rfl, rfl⟩, q3⟩
  | false => rw [hb] at q; exact q
/-! arguments, displays -/
def wD (C : Ct) (ta : TA) (y : S) (Q : List D → S → Prop) : Prop := ∀ (F : Fr) σ H (K : List V → Hp → Prop), Wd C F σ y H → (∀ vs H' ds y', Wd C F σ y' H' → Go F σ y H σ y' H' → Sh y y' → RpA C.K (Mv F σ y') H' vs ds → Q ds y' → K vs H') → ta σ H K
variable {q : List D → S → Prop}
theorem wD_nil (h : q [] y) : wD C tNil y q := fun F σ H K wd k => k [] H [] y wd GoH.refl (Sh.refl y) .nil h
theorem wD_cons (w : wE C ta y fun z y1 => ∃ d, z = .d d ∧ wD C ts y1 fun ds y2 => q (d :: ds) y2) : wD C (tCons ta ts) y q := by
  intro F σ H K wd k
  refine w F σ H _ wd fun x H1 z y1 w1 g1 s1 r1 q1 => ?_
  obtain ⟨d, rfl, h⟩ := q1
  exact h F σ H1 _ w1 fun vs H2 ds y2 w2 g2 s2 r2 q2 => k (x :: vs) H2 (d :: ds) y2 w2 (g1.trans g2) (s1.trans s2) (.cons (Rp.go g2 r1) r2) q2
theorem wD_mono {q' : List D → S → Prop} (h : wD C ts y q) (e : ∀ z y', q z y' → q' z y') : wD C ts y q' := fun F σ H K w k => h F σ H K w fun vs H' z y' a b c d f => k vs H' z y' a b c d (e z y' f)
theorem wE_tup (w : wD C ts y fun ds y1 => ds.length ≤ sizeLine ∧ Q (.d (.tuple ds)) y1) : wE C (tTup ts) y Q := by
  intro F σ H K wd k
  refine w F σ H _ wd fun vs H1 ds y1 w1 g1 s1 r1 ⟨hz, q1⟩ => ⟨by rw [r1.len]; exact hz, fun p hp => ?_⟩
  have gr := grow_upd (o := .tup vs) hp
  exact k _ _ (.d (.tuple ds)) y1 (w1.grow gr) (g1.trans (go_grow gr)) s1 (.tup (.inl ⟨w1.new hp, .inl upd_same⟩) (r1.go (go_grow gr))) q1
theorem wE_lst (w : wD C ts y fun ds y1 => ds.length ≤ sizeLine ∧ Q (.d (.list ds)) y1) : wE C (tLst ts) y Q := by
  intro F σ H K wd k
  refine w F σ H _ wd fun vs H1 ds y1 w1 g1 s1 r1 ⟨hz, q1⟩ => ⟨by rw [r1.len]; exact hz, fun p hp => ?_⟩
  have gr := grow_upd (o := .lst vs) hp
  exact k _ _ (.d (.list ds)) y1 (w1.grow gr) (g1.trans (go_grow gr)) s1 (.lst (.inl ⟨w1.new hp, .inl upd_same⟩) (r1.go (go_grow gr))) q1
theorem wE_dnew (h : Q (.d (.dict [])) y) : wE C tDNewK y Q := by
  intro F σ H K wd k p hp
  have gr := grow_upd (o := .dK []) hp
  exact k _ _ (.d (.dict [])) y (wd.grow gr) (go_grow gr) (Sh.refl y) (.dic (wd.new hp) upd_same .nil) h
/-- {k: v}, one written pair of scalars -/
theorem wE_disp1 {kk : Key} {v : V} {d : D} (s : Sc v d) (h : Q (.d (.dict [(kD kk, d)])) y) : wE C (tDisp [(tC (kV kk), tC v)]) y Q := by
  intro F σ H K wd k p hp
  refine ⟨upd_same, [(kk, v)], rfl, by simp, ?_⟩
  have gr : ∀ a u, H a = some u → upd (upd H p (.dK [])) p (.dK (mergeK [] [(kk, v)])) a = some u := fun a u e => by rw [upd_upd]; exact grow_upd hp a u e
  refine k _ _ (.d (.dict [(kD kk, d)])) y (wd.grow gr) (go_grow gr) (Sh.refl y) (.dic (wd.new hp) (kvs := [(kk, v)]) ?_ (.cons s.rp .nil)) h
  rw [upd_same]
  rfl
/-! built-ins -/
def CbD (K : Fg) (r : List V → Hp → VK → Prop) (res : List D → D → Prop) : Prop := ∀ (M : Addr → Prop) (H : Hp) (xs : List V) (ds : List D) (g : D) (Q : VK), (∀ a, H a = none → ¬ M a) → RpA K M H xs ds → res ds g →
  (∀ v H', (∀ a o, H a = some o → H' a = some o) → Rp K M H' v g → Q v H') → r xs H Q
theorem wE_cb {r : List V → Hp → VK → Prop} {res : List D → D → Prop} (h : CbD C.K r res) (w : wD C ts y fun ds y1 => ∃ g, res ds g ∧ Q (.d g) y1) : wE C (tCB r ts) y Q := by
  intro F σ H K wd k
  refine w F σ H _ wd fun vs H1 ds y1 w1 g1 s1 r1 q1 => ?_
  obtain ⟨g, hres, hq⟩ := q1
  exact h (Mv F σ y1) H1 vs ds g K (fun a => w1.new) r1 hres fun v H2 gr rv => k v H2 (.d g) y1 (w1.grow gr) (g1.trans (go_grow gr)) s1 rv hq
theorem rpA1 {K : Fg} {M : Addr → Prop} {H : Hp} {vs : List V} {d : D} (r : RpA K M H vs [d]) : ∃ v, vs = [v] ∧ Rp K M H v d := by
  cases r with | cons a b => cases b; exact ⟨_, rfl, a⟩
theorem rpA2 {K : Fg} {M : Addr → Prop} {H : Hp} {vs : List V} {d e : D} (r : RpA K M H vs [d, e]) : ∃ v u, vs = [v, u] ∧ Rp K M H v d ∧ Rp K M H u e := by
  cases r with | cons a b => obtain ⟨u, rfl, h⟩ := rpA1 b; exact ⟨_, u, rfl, a, h⟩
theorem wE_abs (w : wD C ts y fun ds y1 => ∃ i, ds = [.int i] ∧ Q (.d (.int (if i < 0 then -i else i))) y1) : wE C (tCB (fun xs H Q => ∃ i, xs = [.int i] ∧ Q (.int (if i < 0 then -i else i)) H) ts) y Q := by
  refine wE_cb (res := fun ds g => ∃ i, ds = [.int i] ∧ g = .int (if i < 0 then -i else i)) ?_ (wD_mono w fun ds y1 ⟨i, e, q⟩ => ⟨_, ⟨i, e, rfl⟩, q⟩)
  rintro M H xs ds g Q _ r ⟨i, rfl, rfl⟩ k
  obtain ⟨v, rfl, rv⟩ := rpA1 r
  exact ⟨i, by rw [rp_int rv], k _ H (fun _ _ e => e) (.int _)⟩
theorem wE_max2 (w : wD C ts y fun ds y1 => ∃ i j, ds = [.int i, .int j] ∧ Q (.d (.int (if j > i then j else i))) y1) : wE C (tCB (fun xs H Q => ∃ i j, xs = [.int i, .int j] ∧ Q (.int (if j > i then j else i)) H) ts) y Q := by
  refine wE_cb (res := fun ds g => ∃ i j, ds = [.int i, .int j] ∧ g = .int (if j > i then j else i)) ?_ (wD_mono w fun ds y1 ⟨i, j, e, q⟩ => ⟨_, ⟨i, j, e, rfl⟩, q⟩)
  rintro M H xs ds g Q _ r ⟨i, j, rfl, rfl⟩ k
  obtain ⟨v, u, rfl, rv, ru⟩ := rpA2 r
  exact ⟨i, j, by rw [rp_int rv, rp_int ru], k _ H (fun _ _ e => e) (.int _)⟩
theorem wE_min2 (w : wD C ts y fun ds y1 => ∃ i j, ds = [.int i, .int j] ∧ Q (.d (.int (if j < i then j else i))) y1) : wE C (tCB (fun xs H Q => ∃ i j, xs = [.int i, .int j] ∧ Q (.int (if j < i then j else i)) H) ts) y Q := by
  refine wE_cb (res := fun ds g => ∃ i j, ds = [.int i, .int j] ∧ g = .int (if j < i then j else i)) ?_ (wD_mono w fun ds y1 ⟨i, j, e, q⟩ => ⟨_, ⟨i, j, e, rfl⟩, q⟩)
  rintro M H xs ds g Q _ r ⟨i, j, rfl, rfl⟩ k
  obtain ⟨v, u, rfl, rv, ru⟩ := rpA2 r
  exact ⟨i, j, by rw [rp_int rv, rp_int ru], k _ H (fun _ _ e => e) (.int _)⟩
theorem wE_int1 (w : wD C ts y fun ds y1 => (∃ i, ds = [.int i] ∧ Q (.d (.int i)) y1) ∨ ∃ b, ds = [.bool b] ∧ Q (.d (.int (if b then 1 else 0))) y1) :
    wE C (tCB (fun xs H Q => (∃ i, xs = [.int i] ∧ Q (.int i) H) ∨ ∃ k, xs = [.bl k] ∧ Q (.int (if k then 1 else 0)) H) ts) y Q := by
  refine wE_cb (res := fun ds g => (∃ i, ds = [.int i] ∧ g = .int i) ∨ ∃ b, ds = [.bool b] ∧ g = .int (if b then 1 else 0)) ?_ (wD_mono w fun ds y1 h => ?_)
  · rintro M H xs ds g Q _ r (⟨i, rfl, rfl⟩ | ⟨b, rfl, rfl⟩) k
    · obtain ⟨v, rfl, rv⟩ := rpA1 r
      exact .inl ⟨i, by rw [rp_int rv], k _ H (fun _ _ e => e) (.int _)⟩
    · obtain ⟨v, rfl, rv⟩ := rpA1 r
      exact .inr ⟨b, by rw [rp_bl rv], k _ H (fun _ _ e => e) (.int _)⟩
  · rcases h with ⟨i, e, q⟩ | ⟨b, e, q⟩
    · exact ⟨_, .inl ⟨i, e, rfl⟩, q⟩
    · exact ⟨_, .inr ⟨b, e, rfl⟩, q⟩
theorem wE_strI (w : wD C ts y fun ds y1 => ∃ i, ds = [.int i] ∧ i.natAbs.log2 < 1920 ∧ Q (.d (.str (toString i))) y1) : wE C (tCB (fun xs H Q => ∃ i, xs = [.int i] ∧ i.natAbs.log2 < 1920 ∧ Q (.str (toString i)) H) ts) y Q := by
  refine wE_cb (res := fun ds g => ∃ i, ds = [.int i] ∧ i.natAbs.log2 < 1920 ∧ g = .str (toString i)) ?_ (wD_mono w fun ds y1 ⟨i, e, c, q⟩ => ⟨_, ⟨i, e, c, rfl⟩, q⟩)
  rintro M H xs ds g Q _ r ⟨i, rfl, c, rfl⟩ k
  obtain ⟨v, rfl, rv⟩ := rpA1 r
  exact ⟨i, by rw [rp_int rv], c, k _ H (fun _ _ e => e) (.str _)⟩
theorem wE_intS (w : wD C ts y fun ds y1 => ∃ a n, ds = [.str a] ∧ PySem.intText? a = some n ∧ a.length ≤ 640 ∧ Q (.d (.int n)) y1) : wE C (tCB (fun xs H Q => ∃ a n, xs = [.str a] ∧ PySem.intText? a = some n ∧ a.length ≤ 640 ∧ Q (.int n) H) ts) y Q := by
  refine wE_cb (res := fun ds g => ∃ a n, ds = [.str a] ∧ PySem.intText? a = some n ∧ a.length ≤ 640 ∧ g = .int n) ?_ (wD_mono w fun ds y1 ⟨i, n, e, c, l, q⟩ => ⟨_, ⟨i, n, e, c, l, rfl⟩, q⟩)
  rintro M H xs ds g Q _ r ⟨i, n, rfl, c, l, rfl⟩ k
  obtain ⟨v, rfl, rv⟩ := rpA1 r
  exact ⟨i, n, by rw [rp_str rv], c, l, k _ H (fun _ _ e => e) (.int _)⟩
def dLen (d : D) : Option Nat := match d with
  | .str z => if z.length ≤ sizeLine then some z.length else none
  | .list xs => some xs.length
  | .tuple xs => some xs.length
  | _ => none
theorem wE_len (w : wD C ts y fun ds y1 => ∃ d n, ds = [d] ∧ dLen d = some n ∧ Q (.d (.int n)) y1) : wE C (tCB (fun xs H Q => ∃ x n, xs = [x] ∧ LenV C.K x H n ∧ Q (.int (n : Nat)) H) ts) y Q := by
  refine wE_cb (res := fun ds g => ∃ d n, ds = [d] ∧ dLen d = some n ∧ g = .int n) ?_ (wD_mono w fun ds y1 ⟨d, n, e, c, q⟩ => ⟨_, ⟨d, n, e, c, rfl⟩, q⟩)
  rintro M H xs ds g Q _ r ⟨d, n, rfl, c, rfl⟩ k
  obtain ⟨v, rfl, rv⟩ := rpA1 r
  refine ⟨v, n, rfl, ?_, k _ H (fun _ _ e => e) (.int _)⟩
  cases rv with
  | non => cases c
  | bl _ => cases c
  | int _ => cases c
  | dic _ _ _ => cases c
  | str z =>
    simp only [dLen] at c
    by_cases h : z.length ≤ sizeLine
    · rw [if_pos h] at c; cases c; exact ⟨h, rfl⟩
    · rw [if_neg h] at c; cases c
  | lst h1 h2 => cases c; exact .inl ⟨_, h1.sq, h2.len.symm⟩
  | tup h1 h2 => cases c; exact .inr ⟨_, h1.sq, h2.len.symm⟩
theorem wE_all (w : wD C ts y fun ds y1 => ∃ bs : List Bool, ds = [.list (bs.map PyData.bool)] ∧ Q (.d (.bool (bs.all id))) y1) : wE C (tCB (rAll C.K) ts) y Q := by
  refine wE_cb (res := fun ds g => ∃ bs : List Bool, ds = [.list (bs.map PyData.bool)] ∧ g = .bool (bs.all id)) ?_ (wD_mono w fun ds y1 ⟨i, e, q⟩ => ⟨_, ⟨i, e, rfl⟩, q⟩)
  rintro M H xs ds g Q _ r ⟨bs, rfl, rfl⟩ k
  obtain ⟨v, rfl, rv⟩ := rpA1 r
  obtain ⟨a, us, rfl, h1, h2⟩ := rp_lst rv
  have e := rpA_bls h2
  subst e
  exact ⟨a, bs, rfl, h1.sq, k _ H (fun _ _ e => e) (.bl _)⟩
theorem wE_any (w : wD C ts y fun ds y1 => ∃ bs : List Bool, ds = [.list (bs.map PyData.bool)] ∧ Q (.d (.bool (bs.any id))) y1) : wE C (tCB (rAny C.K) ts) y Q := by
  refine wE_cb (res := fun ds g => ∃ bs : List Bool, ds = [.list (bs.map PyData.bool)] ∧ g = .bool (bs.any id)) ?_ (wD_mono w fun ds y1 ⟨i, e, q⟩ => ⟨_, ⟨i, e, rfl⟩, q⟩)
  rintro M H xs ds g Q _ r ⟨bs, rfl, rfl⟩ k
  obtain ⟨v, rfl, rv⟩ := rpA1 r
  obtain ⟨a, us, rfl, h1, h2⟩ := rp_lst rv
  have e := rpA_bls h2
  subst e
  exact ⟨a, bs, rfl, h1.sq, k _ H (fun _ _ e => e) (.bl _)⟩
theorem wE_sum (w : wD C ts y fun ds y1 => ∃ bs : List Int, ds = [.list (bs.map PyData.int)] ∧ Q (.d (.int bs.sum)) y1) : wE C (tCB (rSum C.K) ts) y Q := by
  refine wE_cb (res := fun ds g => ∃ bs : List Int, ds = [.list (bs.map PyData.int)] ∧ g = .int bs.sum) ?_ (wD_mono w fun ds y1 ⟨i, e, q⟩ => ⟨_, ⟨i, e, rfl⟩, q⟩)
  rintro M H xs ds g Q _ r ⟨bs, rfl, rfl⟩ k
  obtain ⟨v, rfl, rv⟩ := rpA1 r
  obtain ⟨a, us, rfl, h1, h2⟩ := rp_lst rv
  have e := rpA_ints h2
  subst e
  exact ⟨a, bs, rfl, h1.sq, k _ H (fun _ _ e => e) (.int _)⟩
def dItems : D → Option (List D)
  | .list xs => some xs
  | .tuple xs => some xs
  | _ => none
theorem rp_items {K : Fg} {M : Addr → Prop} {H : Hp} {v : V} {d : D} {xs : List D} (r : Rp K M H v d) (h : dItems d = some xs) : ∃ a us, v = .ref a ∧ (LsA K M H a us ∨ TsA K M H a us) ∧ RpA K M H us xs := by
  cases r with
  | non => cases h
  | bl _ => cases h
  | int _ => cases h
  | str _ => cases h
  | dic _ _ _ => cases h
  | lst h1 h2 => cases h; exact ⟨_, _, rfl, .inl h1, h2⟩
  | tup h1 h2 => cases h; exact ⟨_, _, rfl, .inr h1, h2⟩
theorem wE_listOf (w : wD C ts y fun ds y1 => ∃ d xs, ds = [d] ∧ dItems d = some xs ∧ Q (.d (.list xs)) y1) :
    wE C (tCB (fun xs H Q => ∃ p ys, xs = [.ref p] ∧ (SqL C.K H p ys ∨ SqT C.K H p ys) ∧ ∀ l, H l = none → Q (.ref l) (upd H l (.lst ys))) ts) y Q := by
  refine wE_cb (res := fun ds g => ∃ d xs, ds = [d] ∧ dItems d = some xs ∧ g = .list xs) ?_ (wD_mono w fun ds y1 ⟨i, xs, e, c, q⟩ => ⟨_, ⟨i, xs, e, c, rfl⟩, q⟩)
  rintro M H xs ds g Q fr r ⟨d, es, rfl, c, rfl⟩ k
  obtain ⟨v, rfl, rv⟩ := rpA1 r
  obtain ⟨a, us, rfl, h1, h2⟩ := rp_items rv c
  refine ⟨a, us, rfl, h1.elim (fun z => .inl z.sq) (fun z => .inr z.sq), fun p hp => k _ _ (grow_upd hp) (.lst (.inl ⟨fr p hp, .inl upd_same⟩) (h2.go fun a o n e => ⟨n, grow_upd hp a o e⟩))⟩
theorem wE_tupOf (w : wD C ts y fun ds y1 => ∃ d xs, ds = [d] ∧ dItems d = some xs ∧ Q (.d (.tuple xs)) y1) :
    wE C (tCB (fun xs H Q => ∃ p ys, xs = [.ref p] ∧ ((SqL C.K H p ys ∧ ∀ l, H l = none → Q (.ref l) (upd H l (.tup ys))) ∨ (SqT C.K H p ys ∧ Q (.ref p) H))) ts) y Q := by
  refine wE_cb (res := fun ds g => ∃ d xs, ds = [d] ∧ dItems d = some xs ∧ g = .tuple xs) ?_ (wD_mono w fun ds y1 ⟨i, xs, e, c, q⟩ => ⟨_, ⟨i, xs, e, c, rfl⟩, q⟩)
  rintro M H xs ds g Q fr r ⟨d, es, rfl, c, rfl⟩ k
  obtain ⟨v, rfl, rv⟩ := rpA1 r
  obtain ⟨a, us, rfl, h1, h2⟩ := rp_items rv c
  refine ⟨a, us, rfl, ?_⟩
  rcases h1 with h1 | h1
  · exact .inl ⟨h1.sq, fun p hp => k _ _ (grow_upd hp) (.tup (.inl ⟨fr p hp, .inl upd_same⟩) (h2.go fun a o n e => ⟨n, grow_upd hp a o e⟩))⟩
  · exact .inr ⟨h1.sq, k _ H (fun _ _ e => e) (.tup h1 h2)⟩
theorem wE_repr (w : wD C ts y fun ds y1 => ∃ d, ds = [d] ∧ dsm d = true ∧ d.showable = true ∧ d.depth ≤ 60 ∧ d.shown.length ≤ sizeLine ∧ Q (.d (.str d.shown)) y1) : wE C (tCB (rRepr C.K) ts) y Q := by
  refine wE_cb (res := fun ds g => ∃ d, ds = [d] ∧ dsm d = true ∧ d.showable = true ∧ d.depth ≤ 60 ∧ d.shown.length ≤ sizeLine ∧ g = .str d.shown) ?_ (wD_mono w fun ds y1 ⟨d, e, c1, c2, c3, c4, q⟩ => ⟨_, ⟨d, e, c1, c2, c3, c4, rfl⟩, q⟩)
  rintro M H xs ds g Q _ r ⟨d, rfl, c1, c2, c3, c4, rfl⟩ k
  obtain ⟨v, rfl, rv⟩ := rpA1 r
  exact ⟨v, d, rfl, rv.any, c1, c2, c3, c4, k _ H (fun _ _ e => e) (.str _)⟩
/-! isinstance -/
def tyN : D → String
  | .none => "NoneType"
  | .bool _ => "bool"
  | .int _ => "int"
  | .str _ => "str"
  | .list _ => "list"
  | .tuple _ => "tuple"
  | .dict _ => "dict"
def tyNames : List String := ["NoneType", "bool", "int", "str", "list", "tuple", "dict"]
def isT (T : String) (d : D) : Bool := (kitB (tyN d) T).getD false
theorem rp_ty {K : Fg} {M : Addr → Prop} {H : Hp} {v : V} {d : D} (r : Rp K M H v d) : TyX K H v (.type (tyN d)) := by
  cases r with
  | non => exact .base .non
  | bl b => exact .base (.bl b)
  | int b => exact .base (.int b)
  | str b => exact .base (.str b)
  | lst h _ =>
    rcases h with ⟨_, h | ⟨o, h⟩⟩ | ⟨o, its, n, h1, h2, _⟩
    · exact .base (.lst h)
    · exact .base (.frz h)
    · exact .kList h1 h2
  | tup h _ =>
    rcases h with ⟨_, h | ⟨o, h⟩⟩ | ⟨o, its, n, h1, h2, _⟩
    · exact .base (.tup h)
    · exact .fTuple h
    · exact .kTuple h1 h2
  | dic _ h _ => exact .base (.dK h)
theorem kit_isT {T : String} (hT : (tyNames.all fun n => (kitB n T).isSome) = true) (d : D) : kitB (tyN d) T = some (isT T d) := by
  have h : (kitB (tyN d) T).isSome = true := by
    have z := List.all_eq_true.mp hT
    exact z (tyN d) (by cases d <;> simp [tyN, tyNames])
  unfold isT
  cases e : kitB (tyN d) T with
  | none => rw [e] at h; cases h
  | some b => rfl
theorem wE_isi {T : String} (w : wE C te y fun z y1 => ∃ d, z = .d d ∧ Q (.d (.bool (isT T d))) y1) (hT : (tyNames.all fun n => (kitB n T).isSome) = true := by decide +kernel) : wE C (tCB (rIsi C.K) (tCons te (tCons (tC (.ty T)) tNil))) y Q := by
  intro F σ H K wd k
  refine w F σ H _ wd fun x H1 z y1 w1 g1 s1 r1 q1 => ?_
  obtain ⟨d, rfl, h⟩ := q1
  exact ⟨x, .ty T, _, _, isT T d, rfl, .ty T, rp_ty r1, kit_ty (kit_isT hT d), k _ H1 (.d (.bool (isT T d))) y1 w1 g1 s1 (.bl _) h⟩
theorem wE_isi2 {T U : String} (w : wE C te y fun z y1 => ∃ d, z = .d d ∧ Q (.d (.bool (isT T d || isT U d))) y1) (hT : (tyNames.all fun n => (kitB n T).isSome) = true := by decide +kernel) (hU : (tyNames.all fun n => (kitB n U).isSome) = true := by decide +kernel) :
    wE C (tCB (rIsiT C.K) (tCons te (tCons (tTup (tCons (tC (.ty T)) (tCons (tC (.ty U)) tNil))) tNil))) y Q := by
  intro F σ H K wd k
  refine w F σ H _ wd fun x H1 z y1 w1 g1 s1 r1 q1 => ?_
  obtain ⟨d, rfl, h⟩ := q1
  refine ⟨by show 2 ≤ sizeLine; decide, fun p hp => ?_⟩
  have gr := grow_upd (o := .tup [.ty T, .ty U]) hp
  refine ⟨x, p, [.ty T, .ty U], _, [.type T, .type U], isT T d || isT U d, rfl, upd_same, .cons (.ty T) (.cons (.ty U) .nil), rp_ty (Rp.go (go_grow (F := F) (σ := σ) (y := y1) gr) r1), ?_, k _ _ (.d (.bool (isT T d || isT U d))) y1 (w1.grow gr) (g1.trans (go_grow gr)) s1 (.bl _) h⟩
  refine kitAny_cons (b := isT T d) (kit_ty (kit_isT hT d)) (fun e => ?_) (fun e => by rw [e]; rfl)
  refine kitAny_cons (b := isT U d) (kit_ty (kit_isT hU d)) (fun e2 => ?_) (fun e2 => by rw [e, e2]; rfl)
  rw [e, e2]
  rfl
/-! slices -/
variable {tl th : TO}
theorem wO_no {q : Option Int → S → Prop} (h : q none y) : wO C tNoPart y q := fun F σ H K wd k => k none H y wd GoH.refl (Sh.refl y) h
theorem wO_part {q : Option Int → S → Prop} (w : wE C te y fun z y1 => ∃ i, z = .d (.int i) ∧ q (some i) y1) : wO C (tPart te) y q := by
  intro F σ H K wd k
  refine w F σ H _ wd fun x H1 z y1 w1 g1 s1 r1 q1 => ?_
  obtain ⟨i, rfl, h⟩ := q1
  exact ⟨i, rp_int r1, k (some i) H1 y1 w1 g1 s1 h⟩
def cutD {α : Type} (xs : List α) (lo hi : Option Int) : List α := (xs.drop (HT.sIx xs.length 0 lo)).take (HT.sIx xs.length xs.length hi - HT.sIx xs.length 0 lo)
theorem rpA_cut {K : Fg} {M : Addr → Prop} {H : Hp} {vs : List V} {ds : List D} (r : RpA K M H vs ds) (lo hi : Option Int) : RpA K M H (cutV vs lo hi) (cutD ds lo hi) := by
  unfold cutV cutD
  rw [r.len]
  exact (r.drop _).take _
def dCut (d : D) (lo hi : Option Int) : Option D := match d with
  | .list xs => some (.list (cutD xs lo hi))
  | .tuple xs => some (.tuple (cutD xs lo hi))
  | .str z => if z.length ≤ sizeLine then some (.str (cutS z lo hi)) else none
  | _ => none
def rSlD (K : Fg) : V → Option Int → Option Int → Hp → VK → Prop := fun x lo hi H Q => rSlL K x lo hi H Q ∨ rSlA K x lo hi H Q ∨ rSlS x lo hi H Q
theorem cutD_whole {α : Type} (xs : List α) (lo hi : Option Int) (h : HT.sIx xs.length 0 lo = 0 ∧ HT.sIx xs.length xs.length hi = xs.length) : cutD xs lo hi = xs := by
  unfold cutD
  rw [h.1, h.2, List.drop_zero, Nat.sub_zero, List.take_length]
theorem wE_sl (w : wE C te y fun z y1 => wO C tl y1 fun l y2 => wO C th y2 fun h y3 => ∃ d g, z = .d d ∧ dCut d l h = some g ∧ Q (.d g) y3) : wE C (tSl (rSlD C.K) te tl th) y Q := by
  intro F σ H K wd k
  refine w F σ H _ wd fun x H1 z y1 w1 g1 s1 r1 q1 => ?_
  refine q1 F σ H1 _ w1 fun l H2 y2 w2 g2 s2 q2 => ?_
  refine q2 F σ H2 _ w2 fun h H3 y3 w3 g3 s3 q3 => ?_
  obtain ⟨d, g, rfl, c, hq⟩ := q3
  have r3 : Rp C.K (Mv F σ y3) H3 x d := Rp.go (g2.trans g3) r1
  have G := (g1.trans g2).trans g3
  have SS := (s1.trans s2).trans s3
  cases r3 with
  | non => cases c
  | bl _ => cases c
  | int _ => cases c
  | dic _ _ _ => cases c
  | str z =>
    simp only [dCut] at c
    by_cases hz : z.length ≤ sizeLine
    · rw [if_pos hz] at c; cases c
      exact .inr (.inr ⟨z, rfl, hz, k _ H3 (.d (.str (cutS z l h))) y3 w3 G SS (.str _) hq⟩)
    · rw [if_neg hz] at c; cases c
  | @lst a xs ds h1 h2 =>
    cases c
    refine .inl ⟨a, xs, rfl, h1.sq, fun p hp => ?_⟩
    have gr := grow_upd (o := .lst (cutV xs l h)) hp
    exact k _ _ (.d (.list (cutD ds l h))) y3 (w3.grow gr) (G.trans (go_grow gr)) SS (.lst (.inl ⟨w3.new hp, .inl upd_same⟩) ((rpA_cut h2 l h).go (go_grow gr))) hq
  | @tup a xs ds h1 h2 =>
    cases c
    refine .inr (.inl ⟨a, xs, rfl, h1.sq, fun e => ?_, fun e p hp => ?_⟩)
    · rw [h2.len] at e
      rw [cutD_whole ds l h e] at hq
      exact k _ H3 (.d (.tuple ds)) y3 w3 G SS (.tup h1 h2) hq
    · have gr := grow_upd (o := .tup (cutV xs l h)) hp
      exact k _ _ (.d (.tuple (cutD ds l h))) y3 (w3.grow gr) (G.trans (go_grow gr)) SS (.tup (.inl ⟨w3.new hp, .inl upd_same⟩) ((rpA_cut h2 l h).go (go_grow gr))) hq
/-! texts' methods -/
theorem wE_starts (w : wE C ta y fun z y1 => ∃ a, z = .d (.str a) ∧ wE C tb y1 fun z' y2 => ∃ b, z' = .d (.str b) ∧ Q (.d (.bool (Txt.startswith a b))) y2) :
    wE C (tM1 (fun x xs H Q => ∃ a b, x = .str a ∧ xs = [.str b] ∧ Q (.bl (Txt.startswith a b)) H) ta tb) y Q := by
  intro F σ H K wd k
  refine w F σ H _ wd fun x H1 z y1 w1 g1 s1 r1 q1 => ?_
  obtain ⟨a, rfl, q1⟩ := q1
  have e := rp_str r1
  subst e
  refine ⟨⟨a, rfl⟩, q1 F σ H1 _ w1 fun x2 H2 z' y2 w2 g2 s2 r2 q2 => ?_⟩
  obtain ⟨b, rfl, hq⟩ := q2
  exact ⟨a, b, rfl, by rw [rp_str r2], k _ H2 (.d (.bool _)) y2 w2 (g1.trans g2) (s1.trans s2) (.bl _) hq⟩
theorem wE_join (w : wE C ta y fun z y1 => ∃ a, z = .d (.str a) ∧ wE C tb y1 fun z' y2 => ∃ (d : D) (ys : List Str), z' = .d d ∧ dItems d = some (ys.map PyData.str) ∧ (ys.map (·.length)).sum + ys.length * a.length ≤ 16777216 ∧ Q (.d (.str (Txt.join a ys))) y2) :
    wE C (tM1 (fun x xs H Q => ∃ a p, ∃ ys : List Str, x = .str a ∧ xs = [.ref p] ∧ (SqL C.K H p (ys.map V.str) ∨ SqT C.K H p (ys.map V.str)) ∧ (ys.map (·.length)).sum + ys.length * a.length ≤ 16777216 ∧ Q (.str (Txt.join a ys)) H) ta tb) y Q := by
  intro F σ H K wd k
  refine w F σ H _ wd fun x H1 z y1 w1 g1 s1 r1 q1 => ?_
  obtain ⟨a, rfl, q1⟩ := q1
  have e := rp_str r1
  subst e
  refine ⟨⟨a, rfl⟩, q1 F σ H1 _ w1 fun x2 H2 z' y2 w2 g2 s2 r2 q2 => ?_⟩
  obtain ⟨d, ys, rfl, hi, hz, hq⟩ := q2
  obtain ⟨p, us, rfl, h1, h2⟩ := rp_items r2 hi
  have e := rpA_strs h2
  subst e
  exact ⟨a, p, ys, rfl, rfl, h1.elim (fun z => .inl z.sq) (fun z => .inr z.sq), hz, k _ H2 (.d (.str _)) y2 w2 (g1.trans g2) (s1.trans s2) (.str _) hq⟩
end
end Tq

set_option maxRecDepth 100000
set_option maxHeartbeats 2000000
namespace Tq
open PySem PySem.Spec PyProof.Rows L2
section
variable {C : Ct} {y : S} {ta tb tc te : TE} {t u : TT} {tx tz : TS} {ts : TA} {e : En} {R : Bool → S → Prop}
theorem EnOk.go {σ σ' : St} {y' : S} {H H' : Hp} {E : Ends} (k : EnOk C F σ y H e E) (g : Go F σ y H σ' y' H') : EnOk C F σ' y' H' e E :=
  ⟨fun a b c w g2 q => k.nx a b c w (g.trans g2) q, fun a b c d f w g2 r q => k.rt a b c d f w (g.trans g2) r q, fun a b c w g2 q => k.bk a b c w (g.trans g2) q, fun a b c w g2 q => k.ct a b c w (g.trans g2) q⟩
theorem wS_seq (w : wS C tx y { e with nx := fun y1 => wS C tz y1 e }) : wS C (tSeq tx tz) y e := by
  intro F σ H E st wd k
  refine w F σ H _ st wd ⟨fun σ1 H1 y1 w1 g1 q => ?_, k.rt, k.bk, k.ct⟩
  exact q F σ1 H1 E st w1 (k.go g1)
theorem wS_next (h : e.nx y) : wS C tNext y e := fun F σ H E st wd k => k.nx σ H y wd GoH.refl h
theorem wS_ret (w : wE C te y fun z y1 => e.rt z y1) : wS C (tRet te) y e := by
  intro F σ H E st wd k
  exact w F σ H _ wd fun v H1 z y1 w1 g1 s1 r1 q => k.rt σ v H1 z y1 w1 g1 r1 q
theorem wS_retN (h : e.rt (.d .none) y) : wS C tRetN y e := fun F σ H E st wd k => k.rt σ .non H (.d .none) y wd GoH.refl .non h
theorem wS_drop (w : wE C te y fun z y1 => e.nx y1) : wS C (tDrop te) y e := by
  intro F σ H E st wd k
  exact w F σ H _ wd fun v H1 z y1 w1 g1 s1 r1 q => k.nx σ H1 y1 w1 g1 q
theorem wS_asg {i : Nat} (w : wE C te y fun z y1 => ∃ d, z = .d d ∧ e.nx (y1.set i (some (.d d)))) (hp : i ≠ 0 ∨ C.pp = false := by first | exact Or.inr rfl | exact Or.inl (by decide)) : wS C (tAsg te (gName i)) y e := by
  intro F σ H E st wd k
  refine w F σ H _ wd fun v H1 z y1 w1 g1 s1 r1 q => ?_
  obtain ⟨d, rfl, q⟩ := q
  exact k.nx _ H1 _ (w1.set_d hp r1) (g1.trans go_set_d) q
theorem wS_if (w : wT C t y fun b y1 => if b = true then wS C tx y1 e else wS C tz y1 e) : wS C (tIfS t tx tz) y e := by
  intro F σ H E st wd k
  refine w F σ H _ wd fun b H1 y1 w1 g1 s1 q => ?_
  cases b with
  | true => exact q F σ H1 E st w1 (k.go g1)
  | false => exact q F σ H1 E st w1 (k.go g1)
theorem wS_par {i j : Nat} (w : wD C ts y fun ds y1 => ∃ d g, ds = [d, g] ∧ e.nx ((y1.set i (some (.d d))).set j (some (.d g)))) (hp : i ≠ 0 ∨ C.pp = false := by first | exact Or.inr rfl | exact Or.inl (by decide)) (hq : j ≠ 0 ∨ C.pp = false := by first | exact Or.inr rfl | exact Or.inl (by decide)) : wS C (tPar i j ts) y e := by
  intro F σ H E st wd k
  refine w F σ H _ wd fun vs H1 ds y1 w1 g1 s1 r1 q => ?_
  obtain ⟨d, g, rfl, q⟩ := q
  obtain ⟨v, u, rfl, rv, ru⟩ := rpA2 r1
  refine ⟨v, u, rfl, k.nx _ H1 _ ((w1.set_d hp rv).set_d hq (ru.go go_set_d)) ((g1.trans go_set_d).trans go_set_d) q⟩
theorem wS_aug {i : Nat} {f : Int → Int → Int} {a : Int} (hx : y[i]? = some (some (.d (.int a)))) (w : wE C te y fun z y1 => ∃ b, z = .d (.int b) ∧ e.nx (y1.set i (some (.d (.int (f a b)))))) (hp : i ≠ 0 ∨ C.pp = false := by first | exact Or.inr rfl | exact Or.inl (by decide)) : wS C (tAug i te (ipI f)) y e := by
  intro F σ H E st wd k
  obtain ⟨x, h1, h2⟩ := wd.slot i _ hx
  refine ⟨x, h1, w F σ H _ wd fun v H1 z y1 w1 g1 s1 r1 q => ?_⟩
  obtain ⟨b, rfl, q⟩ := q
  exact ⟨a, b, rp_int h2, rp_int r1, k.nx _ H1 _ (w1.set_d hp (.int _)) (g1.trans go_set_d) q⟩
/-! ### the usual pairs -/
theorem wS_seqA {i : Nat} (w : wE C te y fun z y1 => ∃ d, z = .d d ∧ wS C tz (y1.set i (some (.d d))) e) (hp : i ≠ 0 ∨ C.pp = false := by first | exact Or.inr rfl | exact Or.inl (by decide)) : wS C (tSeq (tAsg te (gName i)) tz) y e := wS_seq (wS_asg w hp)
theorem wS_seqP {i j : Nat} (w : wD C ts y fun ds y1 => ∃ d g, ds = [d, g] ∧ wS C tz ((y1.set i (some (.d d))).set j (some (.d g))) e) (hp : i ≠ 0 ∨ C.pp = false := by first | exact Or.inr rfl | exact Or.inl (by decide)) (hq : j ≠ 0 ∨ C.pp = false := by first | exact Or.inr rfl | exact Or.inl (by decide)) : wS C (tSeq (tPar i j ts) tz) y e := wS_seq (wS_par w hp hq)
theorem wS_seqI (w : wT C t y fun b y1 => if b = true then wS C tx y1 { nx := fun y2 => wS C tz y2 e, rt := e.rt, bk := e.bk, ct := e.ct } else wS C tz y1 e) : wS C (tSeq (tIfS t tx tNext) tz) y e := by
  refine wS_seq (wS_if (wT_mono w fun b y1 h => ?_))
  cases b with
  | true => exact h
  | false => exact wS_next h
theorem wS_ifN (w : wT C t y fun b y1 => if b = true then wS C tx y1 e else e.nx y1) : wS C (tIfS t tx tNext) y e := by
  refine wS_if (wT_mono w fun b y1 h => ?_)
  cases b with
  | true => exact h
  | false => exact wS_next h
/-! ### what is walked -/
def JOk (C : Ct) (F : Fr) (J : It) (σ : St) (y : S) (H : Hp) (xs : List D) : Prop := ∀ (F1 : Fr) σ1 y1 H1, Wd C F1 σ1 y1 H1 → GoH (Mv F σ y) H (Mv F1 σ1 y1) H1 → ∀ i : Nat, (i < xs.length → J.go i H1) ∧ (xs.length ≤ i → J.stop i H1) ∧
  ∀ x, xs[i]? = some x → ∀ v H2, J.yld i H1 v H2 → (∀ a o, H1 a = some o → H2 a = some o) ∧ Rp C.K (Mv F1 σ1 y1) H2 v x
def wI (C : Ct) (wi : TI) (y : S) (Q : List D → S → Prop) : Prop := ∀ (F : Fr) σ H (R : It → Hp → Prop), Wd C F σ y H → (∀ J H' xs y', Wd C F σ y' H' → Go F σ y H σ y' H' → Sh y y' → JOk C F J σ y' H' xs → Q xs y' → R J H') → wi σ H R
variable {Qi : List D → S → Prop} {wi : TI}
theorem wI_list (w : wE C te y fun z y1 => ∃ xs, z = .d (.list xs) ∧ Qi xs y1) : wI C (iList C.K te) y Qi := by
  intro F σ H R wd k
  refine w F σ H _ wd fun v H1 z y1 w1 g1 s1 r1 q => ?_
  obtain ⟨xs, rfl, q⟩ := q
  obtain ⟨a, us, rfl, h1, h2⟩ := rp_lst r1
  refine ⟨a, rfl, ⟨us, h1.sq⟩, k _ H1 xs y1 w1 g1 s1 (fun F1 σ2 y2 H2 w2 g2 i => ?_) q⟩
  have e1 := (h1.go g2).sq
  have e2 := h2.go g2
  refine ⟨fun hi => ?_, fun hi => ⟨us, e1, by rw [h2.len]; exact hi⟩, fun x hx v H3 hy => ?_⟩
  · have : i < us.length := by rw [h2.len]; exact hi
    exact ⟨us, us[i], e1, by simp [this]⟩
  · obtain ⟨rfl, hv⟩ := hy
    obtain ⟨d, hd, rd⟩ := e2.getV (hv us e1)
    rw [hx] at hd
    cases hd
    exact ⟨fun _ _ e => e, rd⟩
theorem wI_tup (w : wE C te y fun z y1 => ∃ xs, z = .d (.tuple xs) ∧ Qi xs y1) : wI C (iTup C.K te) y Qi := by
  intro F σ H R wd k
  refine w F σ H _ wd fun v H1 z y1 w1 g1 s1 r1 q => ?_
  obtain ⟨xs, rfl, q⟩ := q
  obtain ⟨a, us, rfl, h1, h2⟩ := rp_tup r1
  refine ⟨a, rfl, ⟨us, h1.sq⟩, k _ H1 xs y1 w1 g1 s1 (fun F1 σ2 y2 H2 w2 g2 i => ?_) q⟩
  have e1 := (h1.go g2).sq
  have e2 := h2.go g2
  refine ⟨fun hi => ?_, fun hi => ⟨us, e1, by rw [h2.len]; exact hi⟩, fun x hx v H3 hy => ?_⟩
  · have : i < us.length := by rw [h2.len]; exact hi
    exact ⟨us, us[i], e1, by simp [this]⟩
  · obtain ⟨rfl, hv⟩ := hy
    obtain ⟨d, hd, rd⟩ := e2.getV (hv us e1)
    rw [hx] at hd
    cases hd
    exact ⟨fun _ _ e => e, rd⟩
/-- the signs of a text -/
def signs (z : Str) : List D := z.cps.toList.map fun c => .str ⟨#[c]⟩
theorem signs_len (z : Str) : (signs z).length = z.cps.size := by unfold signs; rw [List.length_map, Array.length_toList]
theorem wI_str (w : wE C te y fun z y1 => ∃ x, z = .d (.str x) ∧ Qi (signs x) y1) : wI C (iStr te) y Qi := by
  intro F σ H R wd k
  refine w F σ H _ wd fun v H1 z y1 w1 g1 s1 r1 q => ?_
  obtain ⟨x, rfl, q⟩ := q
  refine ⟨x, rp_str r1, k _ H1 (signs x) y1 w1 g1 s1 (fun F1 σ2 y2 H2 w2 g2 i => ⟨fun hi => ?_, fun hi => ?_, fun d hd v H3 hy => ?_⟩) q⟩
  · rw [signs_len] at hi; exact hi
  · rw [signs_len] at hi; exact hi
  · obtain ⟨rfl, c, hc, rfl⟩ := hy
    refine ⟨fun _ _ e => e, ?_⟩
    unfold signs at hd
    rw [List.getElem?_map, Array.getElem?_toList, hc] at hd
    cases hd
    exact .str _
def rangeD (lo : Int) (n : Nat) : List D := (List.range n).map fun k => .int (lo + (k : Nat))
theorem rangeD_len (lo : Int) (n : Nat) : (rangeD lo n).length = n := by unfold rangeD; rw [List.length_map, List.length_range]
theorem rangeD_get {lo : Int} {n i : Nat} {x : D} (h : (rangeD lo n)[i]? = some x) : i < n ∧ x = .int (lo + (i : Nat)) := by
  have hl : i < n := by have := (List.getElem?_eq_some_iff.mp h).1; rwa [rangeD_len] at this
  unfold rangeD at h
  rw [List.getElem?_map, List.getElem?_range hl] at h
  cases h
  exact ⟨hl, rfl⟩
theorem wI_rng1 (w : wD C ts y fun ds y1 => ∃ j : Int, ds = [.int j] ∧ -(2 ^ 62) ≤ j ∧ j < 2 ^ 62 ∧ Qi (rangeD 0 j.toNat) y1) : wI C (iRng1 ts) y Qi := by
  intro F σ H R wd k
  refine w F σ H _ wd fun vs H1 ds y1 w1 g1 s1 r1 q => ?_
  obtain ⟨j, rfl, h1, h2, q⟩ := q
  obtain ⟨v, rfl, rv⟩ := rpA1 r1
  have e := rp_int rv
  subst e
  refine ⟨j, rfl, h1, h2, k _ H1 _ y1 w1 g1 s1 (fun F1 σ2 y2 H2 w2 g2 i => ⟨fun hi => ?_, fun hi => ?_, fun d hd v H3 hy => ?_⟩) q⟩
  · rw [rangeD_len] at hi; exact hi
  · rw [rangeD_len] at hi; exact hi
  · obtain ⟨rfl, rfl⟩ := hy
    obtain ⟨_, rfl⟩ := rangeD_get hd
    exact ⟨fun _ _ e => e, .int _⟩
theorem wI_rng2 (w : wD C ts y fun ds y1 => ∃ i j : Int, ds = [.int i, .int j] ∧ (-(2 ^ 62) ≤ i ∧ i < 2 ^ 62 ∧ -(2 ^ 62) ≤ j ∧ j < 2 ^ 62) ∧ Qi (rangeD i (j - i).toNat) y1) : wI C (iRng2 ts) y Qi := by
  intro F σ H R wd k
  refine w F σ H _ wd fun vs H1 ds y1 w1 g1 s1 r1 q => ?_
  obtain ⟨i0, j, rfl, h1, q⟩ := q
  obtain ⟨v, u, rfl, rv, ru⟩ := rpA2 r1
  have e := rp_int rv
  have e' := rp_int ru
  subst e e'
  refine ⟨i0, j, rfl, h1, k _ H1 _ y1 w1 g1 s1 (fun F1 σ2 y2 H2 w2 g2 i => ⟨fun hi => ?_, fun hi => ?_, fun d hd v H3 hy => ?_⟩) q⟩
  · rw [rangeD_len] at hi; exact hi
  · rw [rangeD_len] at hi; exact hi
  · obtain ⟨rfl, rfl⟩ := hy
    obtain ⟨_, rfl⟩ := rangeD_get hd
    exact ⟨fun _ _ e => e, .int _⟩
/-! ### for, while -/
/-- the target takes a datum -/
def wG (C : Ct) (g : TG) (d : D) (y : S) (Q : S → Prop) : Prop := ∀ (F : Fr) σ H (v : V) (R : St → Hp → Prop), Wd C F σ y H → Rp C.K (Mv F σ y) H v d → (∀ σ' y', Wd C F σ' y' H → Go F σ y H σ' y' H → Q y' → R σ' H) → g v σ H R
variable {g : TG} {Qg : S → Prop}
theorem wG_name {i : Nat} {d : D} (h : Qg (y.set i (some (.d d)))) (hp : i ≠ 0 ∨ C.pp = false := by first | exact Or.inr rfl | exact Or.inl (by decide)) : wG C (gName i) d y Qg := fun F σ H v R wd r k => k _ _ (wd.set_d hp r) go_set_d h
def wGs (C : Ct) (g : TGs) (ds : List D) (y : S) (Q : S → Prop) : Prop := ∀ (F : Fr) σ H (vs : List V) (R : St → Hp → Prop), Wd C F σ y H → RpA C.K (Mv F σ y) H vs ds → (∀ σ' y', Wd C F σ' y' H → Go F σ y H σ' y' H → Q y' → R σ' H) → g vs σ H R
theorem wGs_nil (h : Qg y) : wGs C gNil [] y Qg := fun F σ H vs R wd r k => by
  cases r
  exact ⟨rfl, k σ y wd GoH.refl h⟩
theorem wGs_cons {gs : TGs} {d : D} {ds : List D} (h : wG C g d y fun y1 => wGs C gs ds y1 Qg) : wGs C (gCons g gs) (d :: ds) y Qg := fun F σ H vs R wd r k => by
  cases r with
  | @cons v _ vs _ r1 r2 =>
    refine ⟨v, vs, rfl, h F σ H v _ wd r1 fun σ1 y1 w1 g1 q1 => ?_⟩
    exact q1 F σ1 H vs R w1 (r2.go g1) fun σ2 y2 w2 g2 q2 => k σ2 y2 w2 (g1.trans g2) q2
theorem wG_tup {n : Nat} {gs : TGs} {ds : List D} (hn : ds.length = n) (h : wGs C gs ds y Qg) : wG C (gTup C.K n gs) (.tuple ds) y Qg := fun F σ H v R wd r k => by
  obtain ⟨a, us, rfl, h1, h2⟩ := rp_tup r
  exact ⟨a, us, rfl, h1.sq, by rw [h2.len]; exact hn, h F σ H us R wd h2 k⟩
theorem wS_asgG (w : wE C te y fun z y1 => ∃ d, z = .d d ∧ wG C g d y1 e.nx) : wS C (tAsg te g) y e := by
  intro F σ H E st wd k
  refine w F σ H _ wd fun v H1 z y1 w1 g1 s1 r1 q => ?_
  obtain ⟨d, rfl, q⟩ := q
  exact q F σ H1 v _ w1 r1 fun σ2 y2 w2 g2 q2 => k.nx σ2 H1 y2 w2 (g1.trans g2) q2
theorem wS_for (w : wI C wi y fun xs y1 => ∃ I : Nat → S → Prop, I 0 y1 ∧ (∀ i x y2, xs[i]? = some x → I i y2 → wG C g x y2 fun y3 => wS C tx y3 { nx := I (i + 1), ct := I (i + 1), bk := e.nx, rt := e.rt }) ∧ (∀ y2, I xs.length y2 → e.nx y2)) :
    wS C (tFor wi g tx) y e := by
  intro F σ H E st wd k
  refine w F σ H _ wd fun J H1 xs y1 w1 g1 s1 hJ ⟨I, h0, hs, hd⟩ => ?_
  refine ⟨fun i m σ2 H2 => m = xs.length - i ∧ i ≤ xs.length ∧ ∃ y2, Wd C F σ2 y2 H2 ∧ Go F σ y1 H1 σ2 y2 H2 ∧ I i y2, ⟨xs.length, by simp, Nat.zero_le _, y1, w1, GoH.refl, h0⟩, ?_⟩
  rintro i m σ2 H2 ⟨rfl, hi, y2, w2, g2, hI⟩
  obtain ⟨j1, j2, j3⟩ := hJ F σ2 y2 H2 w2 g2 i
  by_cases hlt : i < xs.length
  · refine .inr ⟨j1 hlt, fun σ3 H3 => ∃ y3, Wd C F σ3 y3 H3 ∧ Go F σ y1 H1 σ3 y3 H3 ∧ I (i + 1) y3, fun σ3 H3 ⟨y3, w3, g3, h3⟩ => ⟨xs.length - (i + 1), by omega, rfl, hlt, y3, w3, g3, h3⟩, fun v H3 hy => ?_⟩
    have ex : xs[i]? = some xs[i] := List.getElem?_eq_getElem hlt
    obtain ⟨gr, rv⟩ := j3 _ ex v H3 hy
    have w3 := w2.grow gr
    have g3 := g2.trans (go_grow (F := F) (σ := σ2) (y := y2) gr)
    refine hs i _ y2 ex hI F σ2 H3 v _ w3 rv fun σ4 y4 w4 g4 q4 => ?_
    refine q4 F σ4 H3 _ st w4 ⟨fun σ5 H5 y5 w5 g5 q5 => ⟨y5, w5, (g3.trans g4).trans g5, q5⟩, fun σ5 v5 H5 z5 y5 w5 g5 r5 q5 => k.rt σ5 v5 H5 z5 y5 w5 (((g1.trans g3).trans g4).trans g5) r5 q5,
      fun σ5 H5 y5 w5 g5 q5 => k.nx σ5 H5 y5 w5 (((g1.trans g3).trans g4).trans g5) q5, fun σ5 H5 y5 w5 g5 q5 => ⟨y5, w5, (g3.trans g4).trans g5, q5⟩⟩
  · have ei : i = xs.length := by omega
    subst ei
    exact .inl ⟨j2 (Nat.le_refl _), k.nx σ2 H2 y2 w2 (g1.trans g2) (hd y2 hI)⟩
/-- W: a word of the slots, with a measure -/
theorem wS_while (W : Nat → S → Prop) (h0 : ∃ m, W m y) (hs : ∀ m y1, W m y1 → wT C t y1 fun b y2 => if b = true then wS C tx y2 { nx := fun y3 => ∃ m', m' < m ∧ W m' y3, ct := fun y3 => ∃ m', m' < m ∧ W m' y3, bk := e.nx, rt := e.rt } else e.nx y2) :
    wS C (tWhile t tx) y e := by
  intro F σ H E st wd k
  obtain ⟨m0, h0⟩ := h0
  refine ⟨fun m σ1 H1 => ∃ y1, Wd C F σ1 y1 H1 ∧ Go F σ y H σ1 y1 H1 ∧ W m y1, ⟨m0, y, wd, GoH.refl, h0⟩, ?_⟩
  rintro m σ1 H1 ⟨y1, w1, g1, hw⟩
  refine hs m y1 hw F σ1 H1 _ w1 fun b H2 y2 w2 g2 s2 q => ?_
  cases b with
  | true =>
    refine ⟨fun σ3 H3 => ∃ m', m' < m ∧ ∃ y3, Wd C F σ3 y3 H3 ∧ Go F σ y H σ3 y3 H3 ∧ W m' y3, fun σ3 H3 ⟨m', hm, z⟩ => ⟨m', hm, z⟩, ?_⟩
    exact q F σ1 H2 _ st w2 ⟨fun σ5 H5 y5 w5 g5 ⟨m', hm, q5⟩ => ⟨m', hm, y5, w5, (g1.trans g2).trans g5, q5⟩, fun σ5 v5 H5 z5 y5 w5 g5 r5 q5 => k.rt σ5 v5 H5 z5 y5 w5 ((g1.trans g2).trans g5) r5 q5,
      fun σ5 H5 y5 w5 g5 q5 => k.nx σ5 H5 y5 w5 ((g1.trans g2).trans g5) q5, fun σ5 H5 y5 w5 g5 ⟨m', hm, q5⟩ => ⟨m', hm, y5, w5, (g1.trans g2).trans g5, q5⟩⟩
  | false => exact k.nx σ1 H2 y2 w2 (g1.trans g2) q
end
end Tq

set_option maxRecDepth 100000
set_option maxHeartbeats 2000000
namespace Tq
open PySem PySem.Spec PyProof.Rows L2
section
variable {C : Ct} {F : Fr} {σ : St} {y y' : S} {H H' : Hp}
theorem isO_none {j i : Nat} (h : isO (y.set j none) i = true) : i ≠ j ∧ isO y i = true := by
  rcases isO_set h with ⟨_, _, z, e, _⟩ | h | ⟨e, l⟩
  · cases e
  · exact h
  · have := isO_lt h; rw [List.length_set] at this; omega
/-- a slot is forgotten, its value may be another one -/
theorem Wd.unset (w : Wd C F σ y H) {j : Nat} {τ : St} (hl : τ.length = σ.length) (hτ : ∀ i, i ≠ j → τ[i]? = σ[i]?) (hp : j ≠ 0 ∨ C.pp = false) : Wd C F τ (y.set j none) H ∧ Go F σ y H τ (y.set j none) H := by
  have own : ∀ a, Own τ (y.set j none) a → Own σ y a := by
    rintro a ⟨i, hi, e⟩
    obtain ⟨n, o⟩ := isO_none hi
    rw [hτ i n] at e
    exact ⟨i, o, e⟩
  have g : Go F σ y H τ (y.set j none) H := fun a o n e => ⟨fun z => n (z.elim .inl fun z => .inr (own a z)), e⟩
  refine ⟨⟨w.keep, w.live0, w.live, by rw [hl, List.length_set]; exact w.len, fun i z e => ?_, fun i k a h1 h2 e1 e2 => ?_, fun a h => w.frsh a (own a h), fun e => ?_, w.sm, fun st i a h e s => ?_⟩, g⟩
  · have n : i ≠ j := by
      rintro rfl
      have hl := (List.getElem?_eq_some_iff.mp e).1
      rw [List.length_set] at hl
      rw [List.getElem?_set_self hl] at e
      cases e
    rw [List.getElem?_set_ne (Ne.symm n)] at e
    rw [hτ i n]
    have s := w.slot i z e
    cases z with
    | d d => obtain ⟨x, h1, h2⟩ := s; exact ⟨x, h1, h2.go g⟩
    | pu n => exact s
    | own ds => obtain ⟨a, xs, h1, h2, h3⟩ := s; exact ⟨a, xs, h1, h2, h3.go g⟩
  · obtain ⟨n1, o1⟩ := isO_none h1
    obtain ⟨n2, o2⟩ := isO_none h2
    rw [hτ i n1] at e1
    rw [hτ k n2] at e2
    exact w.dist i k a o1 o2 e1 e2
  · rcases hp with hp | hp
    · rw [hτ 0 (Ne.symm hp)]; exact w.pin e
    · rw [hp] at e; cases e
  · obtain ⟨n1, o1⟩ := isO_none h
    rw [hτ i n1] at e
    exact w.nb st i a o1 e s
theorem own_sh (s : Sh y y') {a : Addr} : Own σ y' a ↔ Own σ y a := by
  constructor
  · rintro ⟨i, hi, e⟩; exact ⟨i, by rw [← s i]; exact hi, e⟩
  · rintro ⟨i, hi, e⟩; exact ⟨i, by rw [s i]; exact hi, e⟩
theorem own_live (w : Wd C F σ y H) {a : Addr} (h : Own σ y a) : H a ≠ none := fun e => w.new e (.inr h)
/-- a frame within, at the heap as it stands: what is owned may change; l is apart -/
def sub (F : Fr) (σ : St) (y : S) (H : Hp) (l : Addr) : Fr := ⟨H, Own σ y, fun a => Mv F σ y a ∨ a = l, F.p, false⟩
theorem sub_mv {l a : Addr} {H0 : Hp} {u : S} (s : Sh u y) : Mv (sub F σ u H0 l) σ y a ↔ (Mv F σ u a ∨ a = l) := by
  constructor
  · rintro (z | z)
    · exact z
    · exact .inl (.inr ((own_sh s).mp z))
  · exact .inl
theorem slots_go {M : Addr → Prop} {z : Y} {v : Option (Option V)} (g : GoH (Mv F σ y) H M H') (hk : ∀ a o, v = some (some (.ref a)) → z.o = true → H a = some o → H' a = some o) (s : SlotOk C.K (Mv F σ y) H v z) : SlotOk C.K M H' v z := by
  cases z with
  | d d => obtain ⟨x, h1, h2⟩ := s; exact ⟨x, h1, h2.go g⟩
  | pu n => obtain ⟨b, h1, x, c, d, h2, h3⟩ := s; exact ⟨b, h1, x, c, d, hk _ _ h1 rfl h2, h3⟩
  | own ds => obtain ⟨b, xs, h1, h2, h3⟩ := s; exact ⟨b, xs, h1, hk _ _ h1 rfl h2, h3.go g⟩
theorem Wd.into (w : Wd C F σ y H) {l : Addr} {o : HO} (h : H l = none) : Wd C (sub F σ y (upd H l o) l) σ y (upd H l o) := by
  have nl : ¬ Mv F σ y l := w.new h
  have g : GoH (Mv F σ y) H (Mv (sub F σ y (upd H l o) l) σ y) (upd H l o) := fun a u n e => by
    have ne : a ≠ l := ne_of_none e h
    exact ⟨fun z => ((sub_mv (Sh.refl y)).mp z).elim n ne, by rw [upd_ne ne]; exact e⟩
  have lv : ∀ a, (Mv F σ y a ∨ a = l) → upd H l o a ≠ none := by
    rintro a (z | z) e
    · by_cases ha : a = l
      · exact nl (ha ▸ z)
      · rw [upd_ne ha] at e
        rcases z with z | z
        · exact w.live a z e
        · exact own_live w z e
    · rw [z, upd_same] at e; cases e
  exact ⟨fun a u _ e => e, lv, lv, w.len, fun i z e => slots_go g (fun a u _ _ e => grow_upd h a u e) (w.slot i z e), w.dist, fun a ha => .inl ha, w.pin, fun a z => .inl (.inr z), fun q => nomatch q⟩
end
section
variable {C : Ct} {y : S} {te : TE} {tt : TT} {wi : TI} {Q : Z → S → Prop}
end
end Tq

set_option maxRecDepth 100000
set_option maxHeartbeats 2000000
namespace Tq
open PySem PySem.Spec PyProof.Rows L2
/-! ### owned things -/
section
variable {C : Ct} {F : Fr} {σ : St} {y y' : S} {H H' : Hp}
theorem PuOk.mono {H : Hp} {a : Addr} {m n : Nat} (h : PuOk H a n) (l : m ≤ n) : PuOk H a m := by
  obtain ⟨x, b, c, h1, h2, h3, h4, h5, h6⟩ := h
  exact ⟨x, b, c, h1, h2, h3, h4, h5, by omega⟩
/-- a new thing is taken into a slot, owned -/
theorem Wd.set_own (w : Wd C F σ y H) {i : Nat} {p : Addr} {o : HO} {z : Y} (hz : z.o = true) (hn : H p = none) (hp : i ≠ 0 ∨ C.pp = false)
    (ok : ∀ M, GoH (Mv F σ y) H M (upd H p o) → SlotOk C.K M (upd H p o) (some (some (.ref p))) z) :
    Wd C F (σ.set i (some (.ref p))) (y.set i (some z)) (upd H p o) ∧ Go F σ y H (σ.set i (some (.ref p))) (y.set i (some z)) (upd H p o) := by
  have own : ∀ a, Own (σ.set i (some (.ref p))) (y.set i (some z)) a → a = p ∨ Own σ y a := by
    rintro a ⟨j, hj, e⟩
    rcases isO_set hj with ⟨rfl, hl, _⟩ | ⟨n, hO⟩ | ⟨rfl, hl⟩
    · rw [List.getElem?_set_self (by rw [w.len]; exact hl)] at e
      cases e
      exact .inl rfl
    · rw [List.getElem?_set_ne (Ne.symm n)] at e
      exact .inr ⟨j, hO, e⟩
    · have := isO_lt hj; rw [List.length_set] at this; omega
  have g : Go F σ y H (σ.set i (some (.ref p))) (y.set i (some z)) (upd H p o) := fun a u n e => by
    have ne : a ≠ p := ne_of_none e hn
    refine ⟨?_, by rw [upd_ne ne]; exact e⟩
    rintro (q | q)
    · exact n (.inl q)
    · rcases own a q with q | q
      · exact ne q
      · exact n (.inr q)
  have old : ∀ {j : Nat} {a : Addr}, isO y j = true → σ[j]? = some (some (.ref a)) → a ≠ p := fun hO e z => own_live w ⟨_, hO, e⟩ (z ▸ hn)
  refine ⟨⟨fun a u n e => grow_upd hn a u (w.keep a u n e), w.live0, fun a m e => ?_, by rw [List.length_set, List.length_set]; exact w.len, fun j x e => ?_, fun j k a h1 h2 e1 e2 => ?_, fun a h => ?_, fun e => ?_, w.sm, fun st j a h e s => ?_⟩, g⟩
  · cases q : H a with
    | none => exact w.live a m q
    | some u => rw [grow_upd hn a u q] at e; cases e
  · by_cases n : j = i
    · subst n
      have hl : j < y.length := by
        have := (List.getElem?_eq_some_iff.mp e).1
        rw [List.length_set] at this; exact this
      rw [List.getElem?_set_self hl] at e
      cases e
      rw [List.getElem?_set_self (by rw [w.len]; exact hl)]
      exact ok _ g
    · rw [List.getElem?_set_ne (Ne.symm n)] at e ⊢
      exact slots_go g (fun a u _ _ e => grow_upd hn a u e) (w.slot j x e)
  · rcases isO_set h1 with ⟨r1, l1, _⟩ | ⟨n1, o1⟩ | ⟨r1, l1⟩
    · rcases isO_set h2 with ⟨r2, l2, _⟩ | ⟨n2, o2⟩ | ⟨r2, l2⟩
      · rw [r1, r2]
      · rw [r1, List.getElem?_set_self (by rw [w.len]; exact l1)] at e1
        rw [List.getElem?_set_ne (Ne.symm n2)] at e2
        cases e1
        exact absurd rfl (old o2 e2)
      · have := isO_lt h2; rw [List.length_set] at this; omega
    · rcases isO_set h2 with ⟨r2, l2, _⟩ | ⟨n2, o2⟩ | ⟨r2, l2⟩
      · rw [r2, List.getElem?_set_self (by rw [w.len]; exact l2)] at e2
        rw [List.getElem?_set_ne (Ne.symm n1)] at e1
        cases e2
        exact absurd rfl (old o1 e1)
      · rw [List.getElem?_set_ne (Ne.symm n1)] at e1
        rw [List.getElem?_set_ne (Ne.symm n2)] at e2
        exact w.dist j k a o1 o2 e1 e2
      · have := isO_lt h2; rw [List.length_set] at this; omega
    · have := isO_lt h1; rw [List.length_set] at this; omega
  · rcases own a h with q | q
    · subst q
      by_cases s : F.S0 a
      · exact .inl s
      · refine .inr ?_
        cases e : F.H0 a with
        | none => rfl
        | some u => rw [w.keep a u s e] at hn; cases hn
    · exact w.frsh a q
  · rcases hp with hp | hp
    · rw [List.getElem?_set_ne hp]; exact w.pin e
    · rw [hp] at e; cases e
  · rcases isO_set h with ⟨r1, l1, _⟩ | ⟨n1, o1⟩ | ⟨r1, l1⟩
    · rw [r1, List.getElem?_set_self (by rw [w.len]; exact l1)] at e
      cases e
      exact absurd hn (w.live p (w.sm p s))
    · rw [List.getElem?_set_ne (Ne.symm n1)] at e
      exact w.nb st j a o1 e s
    · have := isO_lt h; rw [List.length_set] at this; omega
theorem isO_of {i : Nat} {z : Y} (h : y[i]? = some (some z)) : isO y i = z.o := by unfold isO; rw [h]
theorem sh_set {i : Nat} {z x : Y} (h : y[i]? = some (some z)) (e : x.o = z.o) : Sh y (y.set i (some x)) := fun j => by
  by_cases n : j = i
  · subst n
    have hl := (List.getElem?_eq_some_iff.mp h).1
    rw [isO_of h, isO_of (List.getElem?_set_self hl)]
    exact e
  · unfold isO
    rw [List.getElem?_set_ne (Ne.symm n)]
/-- an owned thing has changed, and no other -/
theorem Wd.set_mut (w : Wd C F σ y H) {i : Nat} {p : Addr} {z x : Y} (hi : y[i]? = some (some z)) (hz : z.o = true) (hx : x.o = true) (hσ : σ[i]? = some (some (.ref p))) (kp : ∀ a o, a ≠ p → H a = some o → H' a = some o) (hl : H' p ≠ none)
    (ok : ∀ M, GoH (Mv F σ y) H M H' → SlotOk C.K M H' (some (some (.ref p))) x) : Wd C F σ (y.set i (some x)) H' ∧ Go F σ y H σ (y.set i (some x)) H' ∧ Sh y (y.set i (some x)) := by
  have s : Sh y (y.set i (some x)) := sh_set hi (by rw [hx, hz])
  have hO : Own σ y p := ⟨i, by rw [isO_of hi]; exact hz, hσ⟩
  have mv : ∀ a, Mv F σ (y.set i (some x)) a → Mv F σ y a := fun a z => z.elim .inl fun z => .inr ((own_sh s).mp z)
  have g : Go F σ y H σ (y.set i (some x)) H' := fun a u n e => ⟨fun z => n (mv a z), kp a u (fun z => n (.inr (z ▸ hO))) e⟩
  refine ⟨⟨fun a u n e => kp a u (fun q => ?_) (w.keep a u n e), w.live0, fun a m e => ?_, by rw [List.length_set]; exact w.len, fun j v e => ?_, fun j k a h1 h2 e1 e2 => ?_, fun a h => w.frsh a ((own_sh s).mp h), w.pin, w.sm, fun q j a h e => w.nb q j a (by rw [← s j]; exact h) e⟩, g, s⟩
  · subst q
    rcases w.frsh a hO with q | q
    · exact n q
    · rw [q] at e; cases e
  · by_cases ha : a = p
    · exact hl (ha ▸ e)
    · cases q : H a with
      | none => exact w.live a m q
      | some u => rw [kp a u ha q] at e; cases e
  · by_cases n : j = i
    · subst n
      have hl := (List.getElem?_eq_some_iff.mp hi).1
      rw [List.getElem?_set_self hl] at e
      cases e
      rw [hσ]
      exact ok _ g
    · rw [List.getElem?_set_ne (Ne.symm n)] at e
      refine slots_go g (fun a u e1 e2 e3 => kp a u (fun q => n ?_) e3) (w.slot j v e)
      subst q
      exact w.dist j i a (by rw [isO_of e]; exact e2) (by rw [isO_of hi]; exact hz) e1 hσ
  · rw [s j] at h1
    rw [s k] at h2
    exact w.dist j k a h1 h2 e1 e2
end
section
variable {C : Ct} {y : S} {te : TE} {ts : TA} {tx : TS} {e : En} {Q : Z → S → Prop}
/-- x = [..], owned -/
theorem wS_own {i : Nat} (w : wD C ts y fun ds y1 => ds.length ≤ sizeLine ∧ e.nx (y1.set i (some (.own ds)))) (hp : i ≠ 0 ∨ C.pp = false := by first | exact Or.inr rfl | exact Or.inl (by decide)) : wS C (tAsg (tLst ts) (gName i)) y e := by
  intro F σ H E st wd k
  refine w F σ H _ wd fun vs H1 ds y1 w1 g1 s1 r1 ⟨hz, q⟩ => ⟨by rw [r1.len]; exact hz, fun p hn => ?_⟩
  obtain ⟨w2, g2⟩ := w1.set_own (i := i) (o := .lst vs) (z := .own ds) rfl hn hp fun M g => ⟨p, vs, rfl, upd_same, r1.go g⟩
  exact k.nx _ _ _ w2 (g1.trans g2) q
/-- x.append(e) -/
theorem wS_app {i : Nat} {ds0 : List D} (hi : y[i]? = some (some (.own ds0))) (w : wE C te y fun z y1 => ∃ d ds, z = .d d ∧ y1[i]? = some (some (.own ds)) ∧ ds.length < sizeLine ∧ e.nx (y1.set i (some (.own (ds ++ [d]))))) :
    wS C (tDrop (tBM C.K "list" rAppend (tVar i) (tCons te tNil))) y e := by
  intro F σ H E st wd k
  obtain ⟨a, xs, h1, h2, h3⟩ := wd.slot i _ hi
  refine ⟨.ref a, h1, Or.inl ⟨rfl, xs, .inl (.inl h2)⟩, w F σ H _ wd fun v H1 z y1 w1 g1 s1 r1 q => ?_⟩
  obtain ⟨d, ds, rfl, hi1, hz, q⟩ := q
  obtain ⟨b, us, e1, e2, e3⟩ := w1.slot i _ hi1
  have eb : a = b := by rw [h1] at e1; cases e1; rfl
  subst eb
  refine ⟨a, us, v, rfl, rfl, e2, by rw [e3.len]; exact hz, ?_⟩
  obtain ⟨w2, g2, s2⟩ := w1.set_mut (H' := upd H1 a (.lst (us ++ [v]))) (x := .own (ds ++ [d])) hi1 rfl rfl e1 (fun b o n e => by rw [upd_ne n]; exact e) (by rw [upd_same]; simp)
    fun M g => ⟨a, us ++ [v], rfl, upd_same, (e3.go g).app (.cons (Rp.go g r1) .nil)⟩
  exact k.nx _ _ _ w2 (g1.trans g2) q
end
/-! ### promises over data -/
def pureSp (K : Fg) (n : Nat) (pre : List D → Prop) (post : List D → D → Prop) : Sp := fun vs H Q _ => ∃ (M : Addr → Prop) (ds : List D), (∀ a, M a → H a ≠ none) ∧ RpA K M H vs ds ∧ ds.length = n ∧ pre ds ∧
  ∀ d v H', post ds d → (∀ a o, H a = some o → H' a = some o) → Rp K M H' v d → Q v H'
theorem pureSp_len {K : Fg} {n : Nat} {pre : List D → Prop} {post : List D → D → Prop} {ps : List Str} (h : ps.length = n) : ∀ vs H Q E, pureSp K n pre post vs H Q E → vs.length = ps.length := by
  rintro vs H Q E ⟨M, ds, _, r, l, _⟩
  rw [r.len, l, h]
/-- a purse ahead of the arguments; cost: the draws at most -/
def puSp (K : Fg) (n : Nat) (pre : List D → Prop) (cost : List D → Nat) (post : List D → D → Prop) : Sp := fun vs H Q _ => ∃ (M : Addr → Prop) (p : Addr) (us : List V) (ds : List D) (m : Nat), vs = .ref p :: us ∧ M p ∧ (∀ a, M a → H a ≠ none) ∧ PuOk H p m ∧
  RpA K M H us ds ∧ ds.length = n ∧ pre ds ∧ cost ds ≤ m ∧ ∀ d v H', post ds d → (∀ a o, a ≠ p → H a = some o → H' a = some o) → PuOk H' p (m - cost ds) → Rp K M H' v d → Q v H'
theorem puSp_len {K : Fg} {n : Nat} {pre : List D → Prop} {cost : List D → Nat} {post : List D → D → Prop} {ps : List Str} (h : ps.length = n + 1) : ∀ vs H Q E, puSp K n pre cost post vs H Q E → vs.length = ps.length := by
  rintro vs H Q E ⟨M, p, us, ds, m, rfl, _, _, _, r, l, _⟩
  rw [List.length_cons, r.len, l, h]
section
variable {K : Fg} {N : List Str} {t : TS} {vs : List V} {H : Hp} {Q : VK} {E : XK} {n : Nat} {pre : List D → Prop} {post : List D → D → Prop} {cost : List D → Nat}
def y0 (N : List Str) (ds : List D) : S := ds.map (fun d => some (.d d)) ++ List.replicate (N.length - ds.length) none
theorem getElem?_app_none {α : Type} {as : List (Option α)} {k i : Nat} {z : α} (h : (as ++ List.replicate k none)[i]? = some (some z)) : as[i]? = some (some z) := by
  by_cases hi : i < as.length
  · rwa [List.getElem?_append_left hi] at h
  · rw [List.getElem?_append_right (by omega), List.getElem?_replicate] at h
    split at h <;> cases h
theorem start_get {i : Nat} {v : V} (h : vs[i]? = some v) : (start N vs)[i]? = some (some v) := by
  unfold L2.start
  have hl := (List.getElem?_eq_some_iff.mp h).1
  rw [List.getElem?_append_left (by rw [List.length_map]; exact hl), List.getElem?_map, h]
  rfl
theorem y0_isO (N : List Str) (ds : List D) (j : Nat) : isO (y0 N ds) j = false := by
  unfold isO y0
  split
  · rename_i q2
    have q3 := getElem?_app_none q2
    rw [List.getElem?_map] at q3
    cases q4 : ds[j]? with
    | none => rw [q4] at q3; cases q3
    | some d => rw [q4] at q3; cases q3; rfl
  · rfl
theorem pure_body (h : pureSp K n pre post vs H Q E) (b : ∀ ds, ds.length = n → pre ds → ∀ e : En, (∀ y, post ds .none → e.nx y) → (∀ d y, post ds d → e.rt (.d d) y) → wS ⟨K, false⟩ t (y0 N ds) e) :
    t { nx := fun _ G => Q .non G, rt := Q } (start N vs) H := by
  obtain ⟨M, ds, al, r, l, hp, k⟩ := h
  refine b ds l hp { nx := fun _ => post ds .none, rt := fun z _ => ∃ d, z = .d d ∧ post ds d } (fun _ q => q) (fun d _ q => ⟨d, rfl, q⟩) ⟨H, fun _ => False, M, 0, true⟩ (start N vs) H _ rfl ⟨fun a o _ e => e, al, al, ?_, fun i z e => ?_, fun i j a h1 _ _ _ => ?_, fun a ⟨i, h1, _⟩ => ?_, fun q => (nomatch q), fun a z => z.elim, fun _ _ _ _ _ z => z.elim⟩ ⟨fun σ' H' y' w g q => ?_, fun σ' v H' z y' w g rz q => ?_, fun _ _ _ _ _ q => q.elim, fun _ _ _ _ _ q => q.elim⟩
  · unfold L2.start y0
    rw [List.length_append, List.length_append, List.length_map, List.length_map, List.length_replicate, List.length_replicate, r.len]
  · have e1 := getElem?_app_none e
    rw [List.getElem?_map] at e1
    cases q : ds[i]? with
    | none => rw [q] at e1; cases e1
    | some d =>
      rw [q] at e1
      cases e1
      obtain ⟨v, hv, rv⟩ := r.get q
      refine ⟨v, start_get hv, rv.go fun a o na e => ⟨fun z => z.elim na ?_, e⟩⟩
      rintro ⟨j, hj, _⟩
      rw [y0_isO] at hj
      cases hj
  · rw [y0_isO] at h1; cases h1
  · rw [y0_isO] at h1; cases h1
  · exact k .none .non H' q (fun a o e => w.keep a o (fun z => z) e) .non
  · obtain ⟨d, rfl, q⟩ := q
    exact k d v H' q (fun a o e => w.keep a o (fun z => z) e) (Rp.go (fun a o n e => ⟨fun z => n (.inl z), e⟩) rz)
theorem pu_body (h : puSp K n pre cost post vs H Q E) (b : ∀ ds m, ds.length = n → pre ds → cost ds ≤ m → ∀ e : En, (∀ y k, post ds .none → y[0]? = some (some (.pu k)) → m - cost ds ≤ k → e.nx y) → (∀ d y k, post ds d → y[0]? = some (some (.pu k)) → m - cost ds ≤ k → e.rt (.d d) y) → wS ⟨K, true⟩ t (some (.pu m) :: y0 (N.drop 1) ds) e)
    (hN : 0 < N.length := by decide) : t { nx := fun _ G => Q .non G, rt := Q } (start N vs) H := by
  obtain ⟨M, p, us, ds, m, rfl, mp, al, pk, r, l, hp, hc, k⟩ := h
  have isd : ∀ j, isO (y0 (N.drop 1) ds) j = false := y0_isO _ _
  have is0 : ∀ j, isO (some (.pu m) :: y0 (N.drop 1) ds) j = true → j = 0 := fun j hj => by
    cases j with
    | zero => rfl
    | succ j =>
      have : isO (some (.pu m) :: y0 (N.drop 1) ds) (j + 1) = isO (y0 (N.drop 1) ds) j := by unfold isO; rw [List.getElem?_cons_succ]
      rw [this, isd j] at hj
      cases hj
  have s0 : (start N (.ref p :: us))[0]? = some (some (.ref p)) := start_get rfl
  have own : ∀ a, Own (start N (.ref p :: us)) (some (.pu m) :: y0 (N.drop 1) ds) a → a = p := fun a ⟨j, hj, e⟩ => by
    have := is0 j hj
    subst this
    rw [s0] at e
    cases e
    rfl
  have fin : ∀ {σ' : St} {H' : Hp} {y' : S} {q : Nat}, Wd ⟨K, true⟩ ⟨H, fun a => a = p, M, p, true⟩ σ' y' H' → y'[0]? = some (some (.pu q)) → m - cost ds ≤ q → PuOk H' p (m - cost ds) := fun {σ' H' y' q} w e hq => by
    obtain ⟨a, h1, h2⟩ := w.slot 0 _ e
    rw [w.pin rfl] at h1
    cases h1
    exact h2.mono hq
  refine b ds m l hp hc { nx := fun y => post ds .none ∧ ∃ k, y[0]? = some (some (.pu k)) ∧ m - cost ds ≤ k, rt := fun z y => ∃ d k, z = .d d ∧ post ds d ∧ y[0]? = some (some (.pu k)) ∧ m - cost ds ≤ k }
    (fun y k q1 q2 q3 => ⟨q1, k, q2, q3⟩) (fun d y k q1 q2 q3 => ⟨d, k, rfl, q1, q2, q3⟩) ⟨H, fun a => a = p, M, p, true⟩ (start N (.ref p :: us)) H _ rfl ⟨fun a o _ e => e, al, al, ?_, fun i z e => ?_, fun i j a h1 h2 _ _ => (is0 i h1).trans (is0 j h2).symm, fun a h => .inl (own a h), fun _ => s0, fun a z => (show a = p from z) ▸ mp, fun _ i a h _ _ => ⟨is0 i h, rfl⟩⟩ ⟨fun σ' H' y' w g q => ?_, fun σ' v H' z y' w g rz q => ?_, fun _ _ _ _ _ q => q.elim, fun _ _ _ _ _ q => q.elim⟩
  · unfold L2.start y0
    simp only [List.length_append, List.length_cons, List.length_map, List.length_replicate, List.length_drop]
    rw [r.len]
    omega
  · cases i with
    | zero =>
      cases e
      exact ⟨p, s0, pk⟩
    | succ i =>
      rw [List.getElem?_cons_succ] at e
      have e1 := getElem?_app_none e
      rw [List.getElem?_map] at e1
      cases q : ds[i]? with
      | none => rw [q] at e1; cases e1
      | some d =>
        rw [q] at e1
        cases e1
        obtain ⟨v, hv, rv⟩ := r.get q
        refine ⟨v, start_get (by rw [List.getElem?_cons_succ]; exact hv), rv.go fun a o na e => ⟨fun z => z.elim na fun z => ?_, e⟩⟩
        exact na ((own a z) ▸ mp)
  · obtain ⟨q1, c, q2, q3⟩ := q
    exact k .none .non H' q1 (fun a o n e => w.keep a o n e) (fin w q2 q3) .non
  · obtain ⟨d, c, rfl, q1, q2, q3⟩ := q
    exact k d v H' q1 (fun a o n e => w.keep a o n e) (fin w q2 q3) (Rp.go (fun a o n e => ⟨fun z => n (.inl z), e⟩) rz)
end
section
variable {C : Ct} {y : S} {ts : TA} {Q : Z → S → Prop} {E : XK} {n : Nat} {pre : List D → Prop} {post : List D → D → Prop} {cost : List D → Nat} {e : En}
theorem wE_pure (w : wD C ts y fun ds y1 => ds.length = n ∧ pre ds ∧ ∀ d, post ds d → Q (.d d) y1) : wE C (tCall (pureSp C.K n pre post) [] E ts) y Q := by
  intro F σ H K wd k
  refine w F σ H _ wd fun vs H1 ds y1 w1 g1 s1 r1 ⟨hn, hp, q⟩ => ?_
  rw [List.append_nil]
  exact ⟨Mv F σ y1, ds, fun a m e => w1.new e m, r1, hn, hp, fun d v H2 hd gr rv => k v H2 (.d d) y1 (w1.grow gr) (g1.trans (go_grow gr)) s1 rv (q d hd)⟩
theorem wE_pu {i m0 : Nat} (hi : y[i]? = some (some (.pu m0))) (w : wD C ts y fun ds y1 => ∃ m, y1[i]? = some (some (.pu m)) ∧ ds.length = n ∧ pre ds ∧ cost ds ≤ m ∧ ∀ d, post ds d → Q (.d d) (y1.set i (some (.pu (m - cost ds))))) :
    wE C (tCall (puSp C.K n pre cost post) [] E (tCons (tVar i) ts)) y Q := by
  intro F σ H K wd k
  obtain ⟨a, h1, h2⟩ := wd.slot i _ hi
  refine ⟨.ref a, h1, w F σ H _ wd fun vs H1 ds y1 w1 g1 s1 r1 ⟨m, hi1, hn, hp, hc, q⟩ => ?_⟩
  obtain ⟨b, e1, e2⟩ := w1.slot i _ hi1
  have eb : a = b := by rw [h1] at e1; cases e1; rfl
  subst eb
  rw [List.append_nil]
  refine ⟨Mv F σ y1, a, vs, ds, m, rfl, .inr ⟨i, by rw [isO_of hi1]; rfl, e1⟩, fun a m e => w1.new e m, e2, r1, hn, hp, hc, fun d v H2 hd kp pk rv => ?_⟩
  have hl : H2 a ≠ none := by
    obtain ⟨x, b, c, z, _⟩ := pk
    rw [z]; simp
  obtain ⟨w2, g2, s2⟩ := w1.set_mut (H' := H2) (x := .pu (m - cost ds)) hi1 rfl rfl e1 kp hl fun M g => ⟨a, rfl, pk⟩
  refine k v H2 (.d d) _ w2 (g1.trans g2) (s1.trans s2) (Rp.go (fun b o nb eb => ⟨fun z => nb (z.elim .inl fun z => .inr ((own_sh s2).mp z)), eb⟩) rv) (q d hd)
end
end Tq

set_option maxRecDepth 100000
set_option maxHeartbeats 2000000
namespace Tq
open PySem PySem.Spec PyProof.Rows L2
/-! ### defs of the text by their names -/
/-- the def x of the text, behind the top -/
structure Df (K : Fg) (mg : Str → Option Value) (x : Str) (st : Stmt) (ps : List Str) : Prop where
  ex : ∃ (f : Addr) (fd : FuncData), Fun K x x st f fd ∧ mg x = some (.ref f) ∧ Binds K fd ps []
/-- the name x is a def that keeps sp -/
structure Cal (P : Program) (w : World) (K : Fg) (mg : Str → Option Value) (base : Heap) (k : Nat) (x : Str) (ps : List Str) (sp : Sp) : Prop where
  ex : ∃ (f : Addr) (fd : FuncData), FnG P w K mg base CX0 k f fd ps sp ∧ mg x = some (.ref f) ∧ PySem.W.keepIn K (.ref f) = true ∧ Binds K fd ps []
section
variable {P : Program} {w : World} {K : Fg} {mg : Str → Option Value} {base : Heap} {k : Nat} {x : Str} {ps N : List Str} {sp : Sp} {st : Stmt}
theorem Df.ok (d : Df K mg x st ps) (Sc : FnScope N ps (defScope st)) (len : ∀ vs H Q E, sp vs H Q E → vs.length = ps.length)
    (hbody : ∀ (f : Addr) (cdv : Value) (A : Around) (outer : List Env) (s : Shared) (H : Hp) (vs : List V) (Q : VK) (E : XK), Room k (A.deeper (envOfC x (defScope st) s.heap.objs.size f cdv)) →
      (A.deeper (envOfC x (defScope st) s.heap.objs.size f cdv)).guards = some [] → sp vs H Q E →
      ∃ t, PSs (cxOf CX0 P w K mg base N x (defScope st) f cdv A outer s H E).nox (defBody st) t ∧ t { nx := fun _ G => Q .non G, rt := Q } (start N vs) H) : Cal P w K mg base (k + 1) x ps sp := by
  obtain ⟨f, fd, F, hm, hb⟩ := d.ex
  exact ⟨f, fd, okG F Sc len (hbody f), hm, F.kp, hb⟩
theorem pe_cal {X : Cx} {p pos : Pos} {e : Expr} {es : List Expr} {t : TA} (c : Cal X.prog X.w X.K X.mg X.base k x ps sp) (hr : Room k X.A) (hgu : X.A.guards = some []) (hg : Gl X x) (ha : PA X (e :: es) t) (hdb : (x == ("__debug__" : Str)) = false := by decide)
    (he : starEach (e :: es) X.env = (false, eval e X.env) :: starEach es X.env := by rfl)
    (hpl : (backTo pos (starEach es X.env)).any (·.1) = false := by rfl) : PE X (.Call (.Name x p) (e :: es) [] pos) (tCall sp [] E0 t) := by
  obtain ⟨f, fd, F, hm, hk, hb⟩ := c.ex
  exact pe_callG F hr hgu hg hm hk hb .nil pass0 ha hdb he hpl
theorem Cal.mono {j : Nat} (c : Cal P w K mg base j x ps sp) (h : j ≤ k) : Cal P w K mg base k x ps sp := by
  obtain ⟨f, fd, F, hm, hk, hb⟩ := c.ex
  exact ⟨f, fd, F.mono h, hm, hk, hb⟩
end
/-! ### the law's purse -/
def spPurse : Sp := fun vs H Q _ => ∃ c : Int, vs = [.int c] ∧ ∀ (p : Addr) (x b : Int), H p = none → 0 ≤ x → 0 ≤ b → b < 2147483629 → Q (.ref p) (upd H p (.lst [.int x, .int b, .int 0]))
/-- [max(0, c - 10 ** 18), c % 2147483629, 0] -/
def t_purse : TS := tRet (tLst (tCons (tCB (fun xs H Q => ∃ i j, xs = [.int i, .int j] ∧ Q (.int (if j > i then j else i)) H) (tCons (tC (.int 0)) (tCons (tOp (rI0 fun i j => .int (i - j)) (tVar 0) (tOp (rI CPow fun i j => .int (i ^ j.toNat)) (tC (.int 10)) (tC (.int 18)))) tNil)))
  (tCons (tOp (rI (fun _ j => 0 < j) fun i j => .int (i % j)) (tVar 0) (tC (.int 2147483629))) (tCons (tC (.int 0)) tNil))))
theorem purse_read {vs : List V} {H : Hp} {Q : VK} {E : XK} {N : List Str} (hN : N.length = 1) (h : spPurse vs H Q E) : t_purse { nx := fun _ G => Q .non G, rt := Q } (start N vs) H := by
  obtain ⟨c, rfl, k⟩ := h
  have es : start N [.int c] = [some (.int c)] := by
    unfold L2.start
    rw [hN]
    rfl
  rw [es]
  have z : (10 : Int).natAbs < 2 ^ 64 := by decide
  refine ⟨_, rfl, _, _, rfl, rfl, ⟨by decide, by decide, z⟩, _, _, rfl, rfl, _, _, rfl, _, rfl, _, _, rfl, rfl, (by show (0 : Int) < 2147483629; decide), by show 3 ≤ sizeLine; decide, fun p hp => k p _ _ hp ?_ (Int.emod_nonneg _ (by decide)) (Int.emod_lt_of_pos _ (by decide))⟩
  split <;> omega
/-- r of 0 .. many - 1 -/
def postTake : List D → D → Prop := fun ds d => ∃ m r : Int, ds = [.int m] ∧ d = .int r ∧ 0 ≤ r ∧ r < m
def preTake : List D → Prop := fun ds => ∃ m : Int, ds = [.int m] ∧ 0 < m ∧ m.natAbs.log2 < 9000
abbrev spTake (K : Fg) : Sp := puSp K 1 preTake (fun _ => 1) postTake
abbrev rMd : R2 := rI (fun _ j => 0 < j) fun i j => .int (i % j)
abbrev rDv : R2 := rI CDivW fun i j => .int (i / j)
abbrev rAd : R2 := rI0 fun i j => .int (i + j)
abbrev rMu : R2 := rI CMul fun i j => .int (i * j)
abbrev rPw : R2 := rI CPow fun i j => .int (i ^ j.toNat)
theorem ix_at {K : Fg} {H : Hp} {p : Addr} {xs : List V} {i : Int} {v : V} {Q : VK} (h : H p = some (.lst xs)) (e : atI xs i = some v) (q : Q v H) : rIx K (.ref p) (.int i) H Q := .inl ⟨p, xs, i, v, rfl, rfl, .inl (.inl h), e, q⟩
theorem natAbs_lt {x : Int} {n : Nat} (h1 : 0 ≤ x) (h2 : x < (n : Int)) : x.natAbs < n := by omega
theorem div_ok {i j : Int} (h : 0 < j) (h2 : j < 1073741824) : CDivW i j := wide_div (b := 30) h (by omega) (by decide) (by decide)
/-- purse = _law_purse(c) -/
theorem wS_purse {C : Ct} {y : S} {e : En} {ts : TA} {E : XK} {i : Nat} (w : wD C ts y fun ds y1 => ∃ c : Int, ds = [.int c] ∧ e.nx (y1.set i (some (.pu 8000000)))) (hp : i ≠ 0 ∨ C.pp = false := by first | exact Or.inr rfl | exact Or.inl (by decide)) :
    wS C (tAsg (tCall spPurse [] E ts) (gName i)) y e := by
  intro F σ H E st wd k
  refine w F σ H _ wd fun vs H1 ds y1 w1 g1 s1 r1 ⟨c, hc, q⟩ => ?_
  subst hc
  obtain ⟨v, rfl, rv⟩ := rpA1 r1
  refine ⟨c, by rw [rp_int rv]; rfl, fun p x b hn hx hb hb2 => ?_⟩
  obtain ⟨w2, g2⟩ := w1.set_own (i := i) (o := .lst [.int x, .int b, .int 0]) (z := .pu 8000000) rfl hn hp fun M g => ⟨p, rfl, x, b, 0, upd_same, hx, hb, hb2, by decide, by decide⟩
  exact k.nx _ _ _ w2 (g1.trans g2) q
end Tq

set_option maxRecDepth 100000
set_option maxHeartbeats 2000000
/-! The rules that speak of the written part, with that part told (so that they serve within a comprehension's block, too) -/
namespace Tq
open PySem PySem.Spec PyProof.Rows L2
abbrev rLenD (K : Fg) : List V → Hp → VK → Prop := fun xs H Q => ∃ x n, xs = [x] ∧ LenV K x H n ∧ Q (.int (n : Nat)) H
abbrev rListD (K : Fg) : List V → Hp → VK → Prop := fun xs H Q => ∃ p ys, xs = [.ref p] ∧ (SqL K H p ys ∨ SqT K H p ys) ∧ ∀ l, H l = none → Q (.ref l) (upd H l (.lst ys))
abbrev rTupD (K : Fg) : List V → Hp → VK → Prop := fun xs H Q => ∃ p ys, xs = [.ref p] ∧ ((SqL K H p ys ∧ ∀ l, H l = none → Q (.ref l) (upd H l (.tup ys))) ∨ (SqT K H p ys ∧ Q (.ref p) H))
def iAny (K : Fg) (tl : TE) : TI := fun σ H R => iList K tl σ H R ∨ iTup K tl σ H R
section
variable {X : Cx} (K : Fg)
theorem ixK (h : X.K = K := by rfl) : IxR X (rIx K) := h ▸ ix_seq
theorem catK (h : X.K = K := by rfl) : OpR X (binaryOp .Add) (rCatG K) := h ▸ op_catG
theorem eqK (hu : X.A.units + 64 < cLine) (h : X.K = K := by rfl) : OpR X (compareOp .Eq) (rEqD K) := h ▸ op_eqD hu
theorem neK (hu : X.A.units + 64 < cLine) (h : X.K = K := by rfl) : OpR X (compareOp .NotEq) (rNeD K) := h ▸ op_neD hu
theorem lenK (h : X.K = K := by rfl) : CallR X (.builtin "len") (rLenD K) := h ▸ call_len
theorem isiK (h : X.K = K := by rfl) : CallR X (.builtin "isinstance") (rIsi K) := h ▸ call_isi
theorem piL {tg l : Expr} {tl : TE} (hl : PE X l tl) (h : X.K = K := by rfl) : PI X tg l (iList K tl) := h ▸ pi_list hl
theorem piT {tg l : Expr} {tl : TE} (hl : PE X l tl) (h : X.K = K := by rfl) : PI X tg l (iTup K tl) := h ▸ pi_tup hl
theorem pgT {pos : Pos} {es : List Expr} {k : Nat} {t : TGs} {n : Nat} (hc : X.calm = true) (g : PGs X es t) (h : X.K = K := by rfl) (hn : (assignEach es X.env).length = n := by rfl) (hst : (assignEach es X.env).findIdx? (·.1) = none := by rfl) :
    PG X (.Tuple es k pos) (gTup K n t) := h ▸ pg_tup hc g hn hst
end
section
variable {C : Ct} {y : S} {Qi : List D → S → Prop}
theorem wI_any {i : Nat} {d : D} {xs : List D} (h : y[i]? = some (some (.d d))) (hx : dItems d = some xs) (q : Qi xs y) : wI C (iAny C.K (tVar i)) y Qi := by
  intro F σ H R wd k
  cases d with
  | list us =>
    cases hx
    exact .inl (wI_list (wE_var h ⟨_, rfl, q⟩) F σ H R wd k)
  | tuple us =>
    cases hx
    exact .inr (wI_tup (wE_var h ⟨_, rfl, q⟩) F σ H R wd k)
  | _ => cases hx
end
end Tq

set_option maxRecDepth 100000
set_option maxHeartbeats 4000000
namespace Tq
open PySem PySem.Spec PyProof.Rows L2
theorem len1 {ds : List D} (h : ds.length = 1) : ∃ x, ds = [x] := match ds, h with | [x], _ => ⟨x, rfl⟩
/-! kinds -/
def isNum : D → Bool
  | .int _ => true
  | _ => false
theorem isT_int (d : D) : isT "int" d = (match d with | .int _ => true | .bool _ => true | _ => false) := by
  cases d with
  | none => show (kitB "NoneType" "int").getD false = false; decide +kernel
  | bool _ => show (kitB "bool" "int").getD false = true; decide +kernel
  | int _ => show (kitB "int" "int").getD false = true; decide +kernel
  | str _ => show (kitB "str" "int").getD false = false; decide +kernel
  | list _ => show (kitB "list" "int").getD false = false; decide +kernel
  | tuple _ => show (kitB "tuple" "int").getD false = false; decide +kernel
  | dict _ => show (kitB "dict" "int").getD false = false; decide +kernel
theorem isT_bool (d : D) : isT "bool" d = (match d with | .bool _ => true | _ => false) := by
  cases d with
  | none => show (kitB "NoneType" "bool").getD false = false; decide +kernel
  | bool _ => show (kitB "bool" "bool").getD false = true; decide +kernel
  | int _ => show (kitB "int" "bool").getD false = false; decide +kernel
  | str _ => show (kitB "str" "bool").getD false = false; decide +kernel
  | list _ => show (kitB "list" "bool").getD false = false; decide +kernel
  | tuple _ => show (kitB "tuple" "bool").getD false = false; decide +kernel
  | dict _ => show (kitB "dict" "bool").getD false = false; decide +kernel
theorem isT_list (d : D) : isT "list" d = (match d with | .list _ => true | _ => false) := by
  cases d with
  | none => show (kitB "NoneType" "list").getD false = false; decide +kernel
  | bool _ => show (kitB "bool" "list").getD false = false; decide +kernel
  | int _ => show (kitB "int" "list").getD false = false; decide +kernel
  | str _ => show (kitB "str" "list").getD false = false; decide +kernel
  | list _ => show (kitB "list" "list").getD false = true; decide +kernel
  | tuple _ => show (kitB "tuple" "list").getD false = false; decide +kernel
  | dict _ => show (kitB "dict" "list").getD false = false; decide +kernel
theorem isT_tuple (d : D) : isT "tuple" d = (match d with | .tuple _ => true | _ => false) := by
  cases d with
  | none => show (kitB "NoneType" "tuple").getD false = false; decide +kernel
  | bool _ => show (kitB "bool" "tuple").getD false = false; decide +kernel
  | int _ => show (kitB "int" "tuple").getD false = false; decide +kernel
  | str _ => show (kitB "str" "tuple").getD false = false; decide +kernel
  | list _ => show (kitB "list" "tuple").getD false = false; decide +kernel
  | tuple _ => show (kitB "tuple" "tuple").getD false = true; decide +kernel
  | dict _ => show (kitB "dict" "tuple").getD false = false; decide +kernel
theorem isNum_eq (d : D) : isNum d = (isT "int" d && !isT "bool" d) := by
  rw [isT_int, isT_bool]
  cases d <;> rfl
/-- tests on ints -/
theorem eqv_int (i j : Int) : PyData.eqv (.int i) (.int j) = decide (i = j) := by
  simp only [PyData.eqv]
  first | rfl | (by_cases h : i = j <;> simp [h])
theorem sz_small {n : Nat} (h : n ≤ 100000) : n ≤ sizeLine := Nat.le_trans h (by decide)
theorem log2_lt {x : Int} {n : Nat} (h : x.natAbs < 2 ^ n) (h0 : 0 < n) : x.natAbs.log2 < n := PySem.Flt.log2_lt_of h0 h
theorem itb_t {b : Bool} {A B : Prop} (h : b = true) (a : A) : if b = true then A else B := by rw [if_pos h]; exact a
theorem itb_f {b : Bool} {A B : Prop} (h : b = false) (a : B) : if b = true then A else B := by rw [if_neg (by rw [h]; simp)]; exact a
/-- B, then the side A -/
theorem and_sw {A B : Prop} (b : B) (a : A) : A ∧ B := ⟨a, b⟩
/-! the numbers' common divisor -/
def gcdI (a b : Int) : Int := (Nat.gcd a.natAbs b.natAbs : Nat)
theorem gcd_turn {a b : Int} (ha : 0 ≤ a) (hb : 0 < b) : gcdI b (a % b) = gcdI a b := by
  unfold gcdI
  have h1 : (a % b).natAbs = a.natAbs % b.natAbs := by
    obtain ⟨n, rfl⟩ := Int.eq_ofNat_of_zero_le ha
    obtain ⟨m, rfl⟩ := Int.eq_ofNat_of_zero_le (show 0 ≤ b by omega)
    rw [← Int.natCast_emod, Int.natAbs_natCast, Int.natAbs_natCast, Int.natAbs_natCast]
  rw [h1]
  congr 1
  rw [Nat.gcd_comm a.natAbs b.natAbs, Nat.gcd_comm b.natAbs (a.natAbs % b.natAbs)]
  exact (Nat.gcd_rec b.natAbs a.natAbs).symm
theorem gcd_zero {a : Int} (ha : 0 ≤ a) : gcdI a 0 = a := by
  unfold gcdI
  simp
  omega
theorem gcd_abs (a b : Int) : gcdI (if a < 0 then -a else a) (if b < 0 then -b else b) = gcdI a b := by
  unfold gcdI
  congr 2 <;> (split <;> omega)
/-! promises of defs whose answer is a function of what is handed in -/
abbrev a0 (ds : List D) : D := ds.getD 0 .none
abbrev a1 (ds : List D) : D := ds.getD 1 .none
abbrev a2 (ds : List D) : D := ds.getD 2 .none
abbrev detSp (K : Fg) (n : Nat) (pre : List D → Prop) (G : List D → D) : Sp := pureSp K n pre (fun ds d => d = G ds)
theorem wE_det {C : Ct} {y : S} {ts : TA} {Q : Z → S → Prop} {E : XK} {n : Nat} {pre : List D → Prop} {G : List D → D} (w : wD C ts y fun ds y1 => (ds.length = n ∧ pre ds) ∧ Q (.d (G ds)) y1) : wE C (tCall (detSp C.K n pre G) [] E ts) y Q :=
  wE_pure (wD_mono w fun ds y1 ⟨⟨h1, h2⟩, q⟩ => ⟨h1, h2, fun d e => by subst e; exact q⟩)
abbrev sp_law_cell (K : Fg) : Sp := pureSp K 2 (fun ds => ∃ (ns : List Int) (k : Int), ds = [.list (ns.map PyData.int), .int k] ∧ 0 ≤ k ∧ k < 1000) (fun _ d => ∃ n : Int, d = .int n)
abbrev sp_law_purse (K : Fg) : Sp := spPurse
abbrev sp_law_take (K : Fg) : Sp := spTake K
abbrev sp_is_number (K : Fg) : Sp := detSp K 1 (fun _ => True) (fun ds => .bool (isNum (a0 ds)))
section
variable {C : Ct} {y : S} {te : TE} {Q : Z → S → Prop} {E : XK}
/-- a draw -/
theorem wE_take {i m0 : Nat} (hi : y[i]? = some (some (.pu m0))) (w : wE C te y fun z y1 => ∃ (k : Int) (m : Nat), z = .d (.int k) ∧ y1[i]? = some (some (.pu m)) ∧ (0 < k ∧ k ≤ 10 ^ 40 ∧ 1 ≤ m) ∧ ∀ r : Int, 0 ≤ r → r < k → Q (.d (.int r)) (y1.set i (some (.pu (m - 1))))) :
    wE C (tCall (spTake C.K) [] E (tCons (tVar i) (tCons te tNil))) y Q := by
  refine wE_pu hi (wD_cons (wE_mono w fun z y1 ⟨k, m, e, hm, ⟨h0, h1, h2⟩, q⟩ => ⟨_, e, wD_nil ⟨m, hm, rfl, ⟨k, rfl, h0, ?_⟩, h2, fun d hd => ?_⟩⟩))
  · have hb : k.natAbs < 2 ^ 200 := Nat.lt_of_le_of_lt (show k.natAbs ≤ 10 ^ 40 by omega) (by decide)
    exact Nat.lt_of_lt_of_le (log2_lt hb (by decide)) (by decide)
  · obtain ⟨k', r, e1, e2, h3, h4⟩ := hd
    cases e1
    subst e2
    exact q r h3 h4
theorem wE_powN {a : Int} {n : Nat} (q : Q (.d (.int (a ^ (OfNat.ofNat n : Nat)))) y) (ha : a.natAbs < 2 ^ 64 := by decide) (hn : n ≤ 1000000 := by decide) : wE C (tOp (rI CPow fun i j => .int (i ^ j.toNat)) (tC (.int a)) (tC (.int (OfNat.ofNat n)))) y Q := by
  refine wE_pow (wE_int (wE_int ⟨_, _, rfl, rfl, ⟨?_, ?_, ha⟩, q⟩))
  · show (0 : Int) ≤ (n : Nat); omega
  · show ((n : Nat) : Int) ≤ 1000000; omega
theorem wE_dispS {k : Str} {v : V} {d : D} (s : Sc v d) (h : Q (.d (.dict [(.str k, d)])) y) : wE C (tDisp [(tC (.str k), tC v)]) y Q := wE_disp1 (kk := .inr k) s h
theorem wE_dispI {k : Int} {v : V} {d : D} (s : Sc v d) (h : Q (.d (.dict [(.int k, d)])) y) : wE C (tDisp [(tC (.int k), tC v)]) y Q := wE_disp1 (kk := .inl k) s h
end
/-! == of plain things -/
def scalD : D → D → Bool
  | .int _, .int _ => true
  | .str _, .str _ => true
  | .bool _, .bool _ => true
  | .none, .none => true
  | _, _ => false
def eqS : D → D → Bool
  | .int i, .int j => decide (i = j)
  | .str i, .str j => decide (i = j)
  | .bool i, .bool j => decide (i = j)
  | .none, .none => true
  | _, _ => false
section
variable {C : Ct} {y : S} {ta tb : TE} {Q : Z → S → Prop}
theorem eqS_ok {K : Fg} {M : Addr → Prop} {H : Hp} {x u : V} {d e : D} (rx : Rp K M H x d) (ru : Rp K M H u e) (h : scalD d e = true) : scal x u = true ∧ decide (x = u) = eqS d e := by
  cases rx <;> cases ru <;> first | (cases h; done) | (refine ⟨rfl, ?_⟩; simp [eqS])
theorem wE_eqS (w : wE C ta y fun z y1 => wE C tb y1 fun z' y2 => ∃ d e, z = .d d ∧ z' = .d e ∧ scalD d e = true ∧ Q (.d (.bool (eqS d e))) y2) : wE C (tOp rEq ta tb) y Q := by
  refine wE_op (res := fun d e r => scalD d e = true ∧ r = .bool (eqS d e)) ?_ (wE_mono w fun z y1 h => wE_mono h fun z' y2 ⟨d, e, e1, e2, s, q⟩ => ⟨_, _, _, e1, e2, ⟨s, rfl⟩, q⟩)
  rintro M H x u d e r Q _ rx ru ⟨s, rfl⟩ k
  obtain ⟨h1, h2⟩ := eqS_ok rx ru s
  refine ⟨h1, ?_⟩
  rw [h2]
  exact k _ H (fun _ _ e => e) (.bl _)
theorem wE_neS (w : wE C ta y fun z y1 => wE C tb y1 fun z' y2 => ∃ d e, z = .d d ∧ z' = .d e ∧ scalD d e = true ∧ Q (.d (.bool (!eqS d e))) y2) : wE C (tOp rNe ta tb) y Q := by
  refine wE_op (res := fun d e r => scalD d e = true ∧ r = .bool (!eqS d e)) ?_ (wE_mono w fun z y1 h => wE_mono h fun z' y2 ⟨d, e, e1, e2, s, q⟩ => ⟨_, _, _, e1, e2, ⟨s, rfl⟩, q⟩)
  rintro M H x u d e r Q _ rx ru ⟨s, rfl⟩ k
  obtain ⟨h1, h2⟩ := eqS_ok rx ru s
  refine ⟨h1, ?_⟩
  rw [h2]
  exact k _ H (fun _ _ e => e) (.bl _)
end
end Tq

set_option maxRecDepth 100000
set_option maxHeartbeats 4000000
namespace Tq
open PySem PySem.Spec PyProof.Rows L2
/-! ### the law's own promise -/
def spLaw (K : Fg) : Sp := fun vs H Q _ => ∃ (a : Addr) (ns : List Int), vs = [.ref a] ∧ SqL K H a (ns.map V.int) ∧ ns.length ≤ 63 ∧ ∀ H', Q (.bl true) H'
theorem spLaw_len {K : Fg} {x : Str} : ∀ vs H Q E, spLaw K vs H Q E → vs.length = [x].length := by
  rintro vs H Q E ⟨a, ns, rfl, _⟩
  rfl
theorem law_body {K : Fg} {N : List Str} {t : TS} {vs : List V} {H : Hp} {Q : VK} {E : XK} (h : spLaw K vs H Q E) (b : ∀ ns : List Int, ns.length ≤ 63 → ∀ e : En, (∀ y, e.rt (.d (.bool true)) y) → wS ⟨K, false⟩ t (y0 N [.list (ns.map PyData.int)]) e) :
    t { nx := fun _ G => Q .non G, rt := Q } (start N vs) H := by
  obtain ⟨a, ns, rfl, hs, hl, k⟩ := h
  refine pure_body (K := K) (n := 1) (pre := fun ds => ds = [.list (ns.map PyData.int)]) (post := fun _ d => d = .bool true) (Q := Q) (E := fun _ _ _ => False) ⟨fun _ => False, [.list (ns.map PyData.int)], fun a z => z.elim, .cons (.lst ?_ (rpA_int ns)) .nil, rfl, rfl, fun d v H' e _ r => ?_⟩ ?_
  · rcases hs with hs | hs
    · exact .inl ⟨fun z => z, hs⟩
    · exact .inr hs
  · subst e
    rw [rp_bl r]
    exact k H'
  · rintro ds _ rfl e hn hr
    exact b ns hl e fun y => hr _ y rfl
/-! ### kinds of things: the program's, the law's -/
/-- every sign is one -/
def okT (t : Str) : Prop := ∀ c ∈ t.cps.toList, c < 1114112
abbrev sp_common (K : Fg) : Sp := detSp K 2 (fun ds => ∃ a b, ds = [.int a, .int b]) (fun ds => .int (match ds with | [.int a, .int b] => gcdI a b | _ => 0))
def fracB : D → Bool
  | .tuple [.int a, .int b] => decide (1 ≤ b) && decide (gcdI a b = 1)
  | _ => false
abbrev sp_is_fraction (K : Fg) : Sp := detSp K 1 (fun _ => True) (fun ds => .bool (fracB (a0 ds)))
abbrev sp_law (K : Fg) : Sp := spLaw K
theorem atI_mem {α : Type} {xs : List α} {i : Int} (h0 : 0 ≤ i) (h1 : i < xs.length) : ∃ x, atI xs i = some x ∧ x ∈ xs := by
  obtain ⟨n, rfl⟩ := Int.eq_ofNat_of_zero_le h0
  have hn : n < xs.length := by omega
  exact ⟨xs[n], atI_nat (List.getElem?_eq_getElem hn), List.getElem_mem hn⟩
theorem dCut_str {t : Str} (h : t.length ≤ 1000) (lo hi : Option Int) : dCut (.str t) lo hi = some (.str (cutS t lo hi)) := if_pos (sz_small (by omega))
theorem strOk_of {t : Str} (h : okT t) : PyData.strOk t = true := by
  unfold PyData.strOk
  rw [Array.all_eq_true']
  intro c hc
  exact decide_eq_true (h c (by simpa using hc))
theorem shaped_strs {xs : List D} (h : ∀ d ∈ xs, ∃ t, d = .str t ∧ okT t) : SeqAt.shaped (.list xs) = true := by
  have z : PyData.canLayAll0 xs = true ∧ PyData.depthAll xs = 0 := by
    induction xs with
    | nil => exact ⟨by simp [PyData.canLayAll0], by simp [PyData.depthAll]⟩
    | cons x r ih =>
      obtain ⟨h1, h2⟩ := ih fun d hd => h d (List.mem_cons_of_mem _ hd)
      obtain ⟨t, rfl, ht⟩ := h x List.mem_cons_self
      refine ⟨?_, ?_⟩
      · simp [PyData.canLayAll0, PyData.canLay0, strOk_of ht, h1]
      · simp [PyData.depthAll, PyData.depth, h2]
  simp [SeqAt.shaped, PyData.canLay0, PyData.depth, z.1, z.2]
theorem shaped_nil : SeqAt.shaped (.list []) = true := shaped_strs (by simp)
theorem eqv_nil (xs : List D) : PyData.eqv (.list xs) (.list []) = xs.isEmpty := by
  cases xs <;> simp [PyData.eqv, PyData.eqvAll]
/-! what repr is asked of -/
def ShOk (d : D) : Prop := dsm d = true ∧ d.showable = true ∧ d.depth ≤ 60 ∧ d.shown.length ≤ sizeLine
theorem wE_reprS {C : Ct} {y : S} {te : TE} {Q : Z → S → Prop} (w : wE C te y fun z y1 => ∃ d, z = .d d ∧ ShOk d ∧ Q (.d (.str d.shown)) y1) : wE C (tCB (rRepr C.K) (tCons te tNil)) y Q :=
  wE_repr (wD_cons (wE_mono w fun z y1 ⟨d, e, ⟨h1, h2, h3, h4⟩, q⟩ => ⟨d, e, wD_nil ⟨d, rfl, h1, h2, h3, h4, q⟩⟩))
end Tq

set_option maxRecDepth 100000
set_option maxHeartbeats 4000000
namespace Tq
open PySem PySem.Spec PyProof.Rows L2
theorem sz_lt1 {n : Nat} (h : n < 100000) : n < sizeLine := Nat.lt_of_lt_of_le h (by decide)
theorem wS_norm {C : Ct} {t : TS} {y y' : S} {e : En} (h : y = y') (w : wS C t y' e) : wS C t y e := h ▸ w
/-! ### what is known of the slots may be forgotten -/
def Less (y' y : S) : Prop := y'.length = y.length ∧ ∀ (i : Nat) (z : Y), y'[i]? = some (some z) → y[i]? = some (some z)
theorem Less.isO {y' y : S} (h : Less y' y) {i : Nat} (o : Tq.isO y' i = true) : Tq.isO y i = true := by
  unfold Tq.isO at o
  cases q : y'[i]? with
  | none => rw [q] at o; cases o
  | some u =>
    cases u with
    | none => rw [q] at o; cases o
    | some z =>
      rw [q] at o
      rw [isO_of (h.2 i z q)]
      exact o
theorem Wd.weak {C : Ct} {F : Fr} {σ : St} {y y' : S} {H : Hp} (w : Wd C F σ y H) (h : Less y' y) : Wd C F σ y' H ∧ Go F σ y H σ y' H := by
  have own : ∀ a, Own σ y' a → Own σ y a := fun a ⟨i, o, e⟩ => ⟨i, h.isO o, e⟩
  have g : Go F σ y H σ y' H := fun a o n e => ⟨fun z => n (z.elim .inl fun z => .inr (own a z)), e⟩
  exact ⟨⟨w.keep, w.live0, w.live, w.len.trans h.1.symm, fun i z e => slots_go g (fun _ _ _ _ e => e) (w.slot i z (h.2 i z e)), fun i j a o1 o2 => w.dist i j a (h.isO o1) (h.isO o2), fun a o => w.frsh a (own a o), w.pin, w.sm, fun st i a o => w.nb st i a (h.isO o)⟩, g⟩
theorem wS_weak {C : Ct} {t : TS} {y y' : S} {e : En} (w : wS C t y' e) (h : Less y' y) : wS C t y e := by
  intro F σ H E st wd k
  obtain ⟨w1, g1⟩ := wd.weak h
  exact w F σ H E st w1 (k.go g1)
abbrev rMx : List V → Hp → VK → Prop := fun xs H Q => ∃ i j, xs = [.int i, .int j] ∧ Q (.int (if j > i then j else i)) H
abbrev rMn : List V → Hp → VK → Prop := fun xs H Q => ∃ i j, xs = [.int i, .int j] ∧ Q (.int (if j < i then j else i)) H
/-- what stands between two cells: the script alone is known -/
def cellEnd (n : Nat) (s : D) (y : S) : Prop := y.length = n + 2 ∧ y[0]? = some (some (.d s))
/-- for _law_k in range(max(2, min(c, len(script)))): tb; return True -/
theorem law_loop {K : Fg} {tb : TS} {e : En} {ns : List Int} {c : Int} {n : Nat} (hc : 0 ≤ c ∧ c ≤ 900) (hz : ∀ y, e.rt (.d (.bool true)) y)
    (hb : ∀ k : Int, 0 ≤ k → k < 1000 → wS ⟨K, false⟩ tb (some (.d (.list (ns.map PyData.int))) :: some (.d (.int k)) :: List.replicate n none)
      { nx := cellEnd n (.list (ns.map PyData.int)), ct := cellEnd n (.list (ns.map PyData.int)), bk := fun y1 => wS ⟨K, false⟩ (tRet (tC (.bl true))) y1 e, rt := e.rt }) :
    wS ⟨K, false⟩ (tSeq (tFor (iRng1 (tCons (tCB rMx (tCons (tC (.int 2)) (tCons (tCB rMn (tCons (tC (.int c)) (tCons (tCB (rLenD K) (tCons (tVar 0) tNil)) tNil))) tNil))) tNil)) (gName 1) tb) (tRet (tC (.bl true))))
      (some (.d (.list (ns.map PyData.int))) :: none :: List.replicate n none) e := by
  refine wS_seq (wS_for (wI_rng1 (wD_cons (wE_max2 (wD_cons (wE_int ⟨_, rfl, wD_cons (wE_min2 (wD_cons (wE_int ⟨_, rfl, wD_cons (wE_len (wD_cons (wE_var rfl ⟨_, rfl, wD_nil ⟨_, _, rfl, rfl, ?_⟩⟩))) ⟩)))⟩))))))
  refine ⟨_, rfl, wD_nil ⟨_, _, rfl, _, rfl, wD_nil ⟨_, _, rfl, _, rfl, wD_nil ⟨_, rfl, ?_⟩⟩⟩⟩
  rw [List.length_map]
  generalize hj : (if (if (ns.length : Int) < c then (ns.length : Int) else c) > 2 then (if (ns.length : Int) < c then (ns.length : Int) else c) else 2) = j
  have h1 : 2 ≤ j ∧ j ≤ 900 := by
    rw [← hj]
    constructor
    · split <;> omega
    · split
      · split <;> omega
      · omega
  refine ⟨by omega, by omega, fun _ y => cellEnd n (.list (ns.map PyData.int)) y, ⟨by simp, rfl⟩, fun i x y2 hx ⟨hy1, hy2⟩ => ?_, fun y2 _ => wS_ret (wE_bl (hz _))⟩
  obtain ⟨hi, rfl⟩ := rangeD_get hx
  refine wG_name (wS_weak (hb (0 + (i : Int)) (by omega) (by omega)) ⟨by rw [List.length_set, hy1]; simp, fun k z e => ?_⟩)
  match k, e with
  | 0, e =>
    cases e
    rw [List.getElem?_set_ne (by decide)]
    exact hy2
  | 1, e =>
    cases e
    exact List.getElem?_set_self (by omega)
  | k + 2, e =>
    have e2 : (List.replicate n (none : Option Y))[k]? = some (some z) := e
    rw [List.getElem?_replicate] at e2
    split at e2 <;> cases e2
end Tq

set_option maxRecDepth 100000
set_option maxHeartbeats 4000000
namespace Tq
open PySem PySem.Spec PyProof.Rows L2
theorem less_nil : Less [] [] := ⟨rfl, fun i z e => e⟩
theorem less_none {a b : S} {z : Option Y} (h : Less a b) : Less (none :: a) (z :: b) := by
  refine ⟨congrArg (· + 1) h.1, fun i u e => ?_⟩
  cases i with
  | zero => cases e
  | succ i => exact h.2 i u e
theorem less_some {a b : S} {z : Option Y} (h : Less a b) : Less (z :: a) (z :: b) := by
  refine ⟨congrArg (· + 1) h.1, fun i u e => ?_⟩
  cases i with
  | zero => exact e
  | succ i => exact h.2 i u e
theorem less_set {a b : S} {i : Nat} {z : Option Y} (h : Less a b) : Less (a.set i z) (b.set i z) := by
  refine ⟨by rw [List.length_set, List.length_set, h.1], fun j u e => ?_⟩
  rw [List.getElem?_set] at e ⊢
  rw [← h.1]
  split at e
  · next q => rw [if_pos q]; exact e
  · next q => rw [if_neg q]; exact h.2 j u e
theorem eqS_self (t : Str) : eqS (.str t) (.str t) = true := by simp [eqS]
end Tq

set_option maxRecDepth 100000
set_option maxHeartbeats 4000000
namespace Tq
open PySem PySem.Spec PyProof.Rows L2
/-! ### what the top has written -/
theorem df_mk {K : Fg} {h : Heap} {mg : Str → Option Value} {x : Str} {st : Stmt} {ps : List Str} {f : Addr} {od an : Option Addr} {sl : Array (Option Value)} {oc kV dc pm cd ct : Value} (X : K.In h) (G : h.Ns mainGlobals mg)
    (hb : ∀ (kV dc pm : Value) (an : Option Addr) (cd ct : Value) (us : List Value), us.length = ps.length → bindArgs (PySem.W.fnOf x x (defArgs st) (defBody st) (defScope st) .none kV dc pm an cd ct) ⟨us, []⟩ = pure (ps.zip us))
    (a : PySem.W.nsIn K mainGlobals x = some (some (.ref f))) (l : K.lookup f = some ⟨oc, od, .func (PySem.W.fnOf x x (defArgs st) (defBody st) (defScope st) .none kV dc pm an cd ct), sl⟩) (c : PySem.W.codeIn K cd x = true) (k : PySem.W.keepIn K (.ref f) = true) : Df K mg x st ps :=
  ⟨f, _, fun_mk l c k, PySem.W.mg_of X G a, (fun_mk l c k).binds hb⟩
end Tq

set_option maxRecDepth 100000
set_option maxHeartbeats 4000000
namespace Tq
open PySem PySem.Spec PyProof.Rows L2
open PySem.Builtin.Str (occurrences subAt)
open PySem.NumText (digitsVal AllDigits)
/-! ### numbers in texts -/
abbrev rIndex : V → List V → Hp → VK → Prop := fun x xs H Q => ∃ a b i r, x = .str a ∧ xs = [.str b] ∧ occurrences a b 0 a.length 1 = i :: r ∧ Q (.int (i : Nat)) H
theorem wE_index {C : Ct} {ta tb : TE} {y : S} {Q : Z → S → Prop} (w : wE C ta y fun z y1 => ∃ a, z = .d (.str a) ∧ wE C tb y1 fun z' y2 => ∃ b i r, z' = .d (.str b) ∧ occurrences a b 0 a.length 1 = i :: r ∧ Q (.d (.int (i : Nat))) y2) :
    wE C (tM1 rIndex ta tb) y Q := by
  intro F σ H K wd k
  refine w F σ H _ wd fun x H1 z y1 w1 g1 s1 r1 q1 => ?_
  obtain ⟨a, rfl, q1⟩ := q1
  have e := rp_str r1
  subst e
  refine ⟨⟨a, rfl⟩, q1 F σ H1 _ w1 fun x2 H2 z' y2 w2 g2 s2 r2 q2 => ?_⟩
  obtain ⟨b, i, r, rfl, ho, hq⟩ := q2
  exact ⟨a, b, i, r, rfl, by rw [rp_str r2], ho, k _ H2 (.d (.int _)) y2 w2 (g1.trans g2) (s1.trans s2) (.int _) hq⟩
/-- has it a bar ahead -/
def barL (cs : List Nat) : Bool := decide (cs.take 1 = [45])
def figOk (bl : Bool) (cs : List Nat) : Bool := decide (1 ≤ cs.length) && decide (cs.length ≤ 30) && cs.all (fun c => decide (48 ≤ c) && decide (c ≤ 57)) && !(decide (cs.take 1 = [48]) && (bl || decide (cs ≠ [48])))
def numOf (bl : Bool) (cs : List Nat) : D := if figOk bl cs = true then .int (if bl then -((digitsVal cs : Nat) : Int) else (digitsVal cs : Nat)) else .none
def numL (cs : List Nat) : D := if barL cs = true then numOf true (cs.drop 1) else numOf false cs
end Tq

set_option maxRecDepth 100000
set_option maxHeartbeats 4000000
namespace Tq
open PySem PySem.Spec PyProof.Rows L2
/-! ### what repr shows, bounded -/
structure Shw (b k : Nat) (d : D) : Prop where
  nd : d.hasDict = false
  sw : d.showable = true
  dp : d.depth ≤ k
  ln : d.shown.length ≤ b
theorem Shw.ok {b k : Nat} {d : D} (h : Shw b k d) (hb : b ≤ 10000000 := by decide) (hk : k ≤ 60 := by decide) : ShOk d := by
  refine ⟨?_, h.sw, Nat.le_trans h.dp hk, Nat.le_trans h.ln (Nat.le_trans hb (by decide))⟩
  have := h.nd
  cases d with
  | dict kvs => cases this
  | list xs => show (!(PyData.list xs).hasDict) = true; rw [this]; rfl
  | tuple xs => show (!(PyData.tuple xs).hasDict) = true; rw [this]; rfl
  | _ => rfl
theorem Shw.mono {b k b' k' : Nat} {d : D} (h : Shw b k d) (hb : b ≤ b') (hk : k ≤ k') : Shw b' k' d := ⟨h.nd, h.sw, Nat.le_trans h.dp hk, Nat.le_trans h.ln hb⟩
theorem shownAll_map (xs : List D) : PyData.shownAll xs = xs.map PyData.shown := by
  induction xs with
  | nil => rfl
  | cons x r ih => rw [List.map_cons, ← ih]; rfl
end Tq

set_option maxRecDepth 100000
set_option maxHeartbeats 4000000
namespace Tq
open PySem PySem.Spec PyProof.Rows L2
open PySem.NumText (digitsVal AllDigits)
/-- a loop whose turns know J alone -/
theorem forJ {C : Ct} {v : Nat} {tx : TS} {xs : List D} {y0 : S} {bk : S → Prop} {rt : Z → S → Prop} {R : S → Prop} (J : Nat → S → Prop) (hv : v ≠ 0 := by decide) (h0 : ∃ y', J 0 y' ∧ Less y' y0)
    (hb : ∀ i x y', xs[i]? = some x → J i y' → wS C tx (y'.set v (some (.d x))) { nx := fun y => ∃ y', J (i + 1) y' ∧ Less y' y, ct := fun y => ∃ y', J (i + 1) y' ∧ Less y' y, bk := bk, rt := rt }) (he : ∀ y2 y', J xs.length y' → Less y' y2 → R y2) :
    ∃ I : Nat → S → Prop, I 0 y0 ∧ (∀ i x y2, xs[i]? = some x → I i y2 → wG C (gName v) x y2 fun y3 => wS C tx y3 { nx := I (i + 1), ct := I (i + 1), bk := bk, rt := rt }) ∧ (∀ y2, I xs.length y2 → R y2) :=
  ⟨fun i y => ∃ y', J i y' ∧ Less y' y, h0, fun i x y2 hx ⟨y', hj, hl⟩ => wG_name (hp := Or.inl hv) (wS_weak (hb i x y' hx hj) (less_set hl)), fun y2 ⟨y', hj, hl⟩ => he y2 y' hj hl⟩
theorem dLen_str {t : Str} (h : t.length ≤ 1000) : dLen (.str t) = some t.length := if_pos (sz_small (by omega))
theorem ten_two (a : Nat) : (10 : Nat) ^ a ≤ 2 ^ (4 * a) := by
  rw [Nat.pow_mul]
  exact Nat.pow_le_pow_left (by decide) a
theorem mulW_ok {i j : Int} (a b : Nat) (hi : i.natAbs < 10 ^ a) (hj : j.natAbs < 10 ^ b) (h : a ≤ 50000 := by omega) (h2 : b ≤ 50000 := by omega) : CMulW i j := by
  refine wide_mul (a := 4 * a + 1) (b := 4 * b + 1) (Nat.lt_of_lt_of_le hi ?_) (Nat.lt_of_lt_of_le hj ?_) (by omega) (by omega) (by omega)
  · exact Nat.le_trans (ten_two a) (Nat.pow_le_pow_right (by decide) (by omega))
  · exact Nat.le_trans (ten_two b) (Nat.pow_le_pow_right (by decide) (by omega))
end Tq

set_option maxRecDepth 100000
set_option maxHeartbeats 4000000
namespace Tq
open PySem PySem.Spec PyProof.Rows L2
/-- the purse's second form -/
def t_take2 (K : Fg) (c1 c2 c3 : Int) : TS :=
  tSeq (tIfS (tTest (tOp (rI0 fun i j => .bl (decide (j < i))) (tOp (rIx K) (tVar 0) (tC (.int 0))) (tC (.int 0))))
    (tSeq (tAsg (tOp rMd (tOp (rIx K) (tVar 0) (tC (.int 0))) (tVar 1)) (gName 2))
    (tSeq (tAsg (tOp rDv (tOp (rIx K) (tVar 0) (tC (.int 0))) (tVar 1)) (gSub (tVar 0) (tC (.int 0)) rSetL))
    (tRet (tVar 2)))) tNext)
  (tSeq (tAsg (tOp rAd (tOp (rIx K) (tVar 0) (tC (.int 2))) (tC (.int 1))) (gSub (tVar 0) (tC (.int 2)) rSetL))
  (tSeq (tAsg (tOp rMd (tOp rPw (tOp rAd (tOp rAd (tOp (rIx K) (tVar 0) (tC (.int 1))) (tOp rMu (tC (.int c1)) (tOp (rIx K) (tVar 0) (tC (.int 2))))) (tC (.int c2))) (tC (.int 5))) (tC (.int 2147483647))) (gName 3))
  (tSeq (tAsg (tOp rMd (tOp rPw (tOp rAd (tOp rMu (tOp (rIx K) (tVar 0) (tC (.int 1))) (tOp (rIx K) (tVar 0) (tC (.int 2)))) (tC (.int c3))) (tC (.int 3))) (tC (.int 2147483587))) (gName 4))
  (tRet (tOp rMd (tOp rDv (tOp rAd (tOp rMu (tVar 3) (tC (.int 2147483587))) (tVar 4)) (tC (.int 8))) (tVar 1))))))
theorem take2_read {K : Fg} {c1 c2 c3 : Int} (hc1 : 0 ≤ c1 ∧ c1 ≤ 1000000) (hc2 : 0 ≤ c2 ∧ c2 ≤ 1000000) (hc3 : 0 ≤ c3 ∧ c3 ≤ 1000000) {vs : List V} {H : Hp} {Q : VK} {E : XK} {N : List Str} (hN : N.length = 5) (h : spTake K vs H Q E) : t_take2 K c1 c2 c3 { nx := fun _ G => Q .non G, rt := Q } (start N vs) H := by
  obtain ⟨M, p, us, ds, n, rfl, mp, al, pk, r, hl, ⟨m, rfl, m0, mb⟩, hn, k⟩ := h
  have hn : 1 ≤ n := hn
  have k : ∀ d v H', postTake [.int m] d → (∀ a o, a ≠ p → H a = some o → H' a = some o) → PuOk H' p (n - 1) → Rp K M H' v d → Q v H' := k
  obtain ⟨v, rfl, rv⟩ := rpA1 r
  have e := rp_int rv
  subst e
  have es : start N [.ref p, .int m] = [some (.ref p), some (.int m), none, none, none] := by
    unfold L2.start
    rw [hN]
    rfl
  rw [es]
  obtain ⟨x, b, q, hp, hx, hb0, hb1, hq0, hq1⟩ := pk
  refine ⟨_, rfl, ix_at hp rfl ⟨_, _, rfl, rfl, _, rfl, ite2 (fun hc => ?_) (fun hc => ?_)⟩⟩
  · refine ⟨_, rfl, ix_at hp rfl ⟨_, rfl, _, _, rfl, rfl, m0, ?_⟩⟩
    refine ⟨_, rfl, ix_at hp rfl ⟨_, rfl, _, _, rfl, rfl, ⟨m0, mb⟩, _, rfl, p, _, 0, 0, rfl, rfl, hp, rfl, ?_⟩⟩
    refine ⟨_, rfl, k (.int (x % m)) _ _ ⟨m, x % m, rfl, rfl, Int.emod_nonneg _ (by omega), Int.emod_lt_of_pos _ m0⟩ (fun a o na e => by rw [upd_ne na]; exact e) ⟨x / m, b, q, upd_same, Int.ediv_nonneg hx (by omega), hb0, hb1, hq0, by omega⟩ (.int _)⟩
  · have nn : (n : Int) ≥ 1 := by omega
    refine ⟨_, rfl, ix_at hp rfl ⟨_, _, rfl, rfl, _, rfl, p, _, 2, 2, rfl, rfl, hp, rfl, ?_⟩⟩
    generalize hH2 : upd H p (.lst ([V.int x, .int b, .int q].set 2 (.int (q + 1)))) = H2
    have hp2 : H2 p = some (.lst [.int x, .int b, .int (q + 1)]) := by rw [← hH2]; exact upd_same
    have q0 : 0 ≤ q + 1 ∧ q + 1 ≤ 8000000 := by omega
    have m1 : 0 ≤ c1 * (q + 1) := Int.mul_nonneg hc1.1 (by omega)
    have m2 : c1 * (q + 1) ≤ 1000000 * 8000000 := Int.mul_le_mul hc1.2 q0.2 q0.1 (by omega)
    have m3 : 0 ≤ b * (q + 1) := Int.mul_nonneg hb0 (by omega)
    have m4 : b * (q + 1) ≤ 2147483629 * 8000000 := Int.mul_le_mul (by omega) q0.2 q0.1 (by omega)
    have hbd : 0 ≤ b + c1 * (q + 1) + c2 ∧ b + c1 * (q + 1) + c2 < 18446744073709551616 := by constructor <;> omega
    refine ⟨_, rfl, ix_at hp2 rfl ⟨_, rfl, ix_at hp2 rfl ⟨_, _, rfl, rfl, .inl (by constructor <;> omega), _, _, rfl, rfl, _, _, rfl, rfl, _, _, rfl, rfl, ⟨by decide, by decide, natAbs_lt hbd.1 hbd.2⟩, _, _, rfl, rfl, (by show (0 : Int) < 2147483647; decide), ?_⟩⟩⟩
    obtain ⟨one, hone⟩ : ∃ o, o = (b + c1 * (q + 1) + c2) ^ (5 : Int).toNat % 2147483647 := ⟨_, rfl⟩
    have one0 : 0 ≤ one := by rw [hone]; exact Int.emod_nonneg _ (by decide)
    have one1 : one < 2147483647 := by rw [hone]; exact Int.emod_lt_of_pos _ (by decide)
    have hb2 : 0 ≤ b * (q + 1) + c3 ∧ b * (q + 1) + c3 < 18446744073709551616 := by constructor <;> omega
    refine ⟨_, rfl, ix_at hp2 rfl ⟨_, rfl, ix_at hp2 rfl ⟨_, _, rfl, rfl, .inl (by constructor <;> omega), _, _, rfl, rfl, _, _, rfl, rfl, ⟨by decide, by decide, natAbs_lt hb2.1 hb2.2⟩, _, _, rfl, rfl, (by show (0 : Int) < 2147483587; decide), ?_⟩⟩⟩
    dsimp only
    rw [← hone]
    refine ⟨_, rfl, _, _, rfl, rfl, .inl (by constructor <;> omega), _, rfl, _, _, rfl, rfl, _, _, rfl, rfl, div_ok (by decide) (by decide), _, rfl, _, _, rfl, rfl, m0, ?_⟩
    refine k _ _ _ ⟨m, _, rfl, rfl, Int.emod_nonneg _ (by omega), Int.emod_lt_of_pos _ m0⟩ (fun a o na e => by rw [← hH2, upd_ne na]; exact e) ⟨x, b, q + 1, hp2, hx, hb0, hb1, by omega, by omega⟩ (.int _)
/-- a while loop whose turns know J alone -/
theorem wS_whileJ {C : Ct} {t : TT} {tx : TS} {y : S} {e : En} (J : Nat → S → Prop) (h0 : ∃ m y', J m y' ∧ Less y' y)
    (hs : ∀ m y1, J m y1 → wT C t y1 fun b y2 => if b = true then wS C tx y2 { nx := fun y3 => ∃ m' y', m' < m ∧ J m' y' ∧ Less y' y3, ct := fun y3 => ∃ m' y', m' < m ∧ J m' y' ∧ Less y' y3, bk := e.nx, rt := e.rt } else e.nx y2) :
    wS C (tWhile t tx) y e := by
  intro F σ H E st wd k
  obtain ⟨m0, y0, h0, l0⟩ := h0
  obtain ⟨wd0, g0⟩ := wd.weak l0
  refine ⟨fun m σ1 H1 => ∃ y1, Wd C F σ1 y1 H1 ∧ Go F σ y H σ1 y1 H1 ∧ J m y1, ⟨m0, y0, wd0, g0, h0⟩, ?_⟩
  rintro m σ1 H1 ⟨y1, w1, g1, hw⟩
  refine hs m y1 hw F σ1 H1 _ w1 fun b H2 y2 w2 g2 s2 q => ?_
  have fin : ∀ σ5 H5 y5, Wd C F σ5 y5 H5 → Go F σ1 y2 H2 σ5 y5 H5 → (∃ m' y', m' < m ∧ J m' y' ∧ Less y' y5) → ∃ m', m' < m ∧ ∃ y3, Wd C F σ5 y3 H5 ∧ Go F σ y H σ5 y3 H5 ∧ J m' y3 := by
    rintro σ5 H5 y5 w5 g5 ⟨m', y', hm, q5, l5⟩
    obtain ⟨w6, g6⟩ := w5.weak l5
    exact ⟨m', hm, y', w6, ((g1.trans g2).trans g5).trans g6, q5⟩
  cases b with
  | true =>
    refine ⟨fun σ3 H3 => ∃ m', m' < m ∧ ∃ y3, Wd C F σ3 y3 H3 ∧ Go F σ y H σ3 y3 H3 ∧ J m' y3, fun σ3 H3 ⟨m', hm, z⟩ => ⟨m', hm, z⟩, ?_⟩
    exact q F σ1 H2 _ st w2 ⟨fun σ5 H5 y5 w5 g5 q5 => fin σ5 H5 y5 w5 g5 q5, fun σ5 v5 H5 z5 y5 w5 g5 r5 q5 => k.rt σ5 v5 H5 z5 y5 w5 ((g1.trans g2).trans g5) r5 q5,
      fun σ5 H5 y5 w5 g5 q5 => k.nx σ5 H5 y5 w5 ((g1.trans g2).trans g5) q5, fun σ5 H5 y5 w5 g5 q5 => fin σ5 H5 y5 w5 g5 q5⟩
  | false => exact k.nx σ1 H2 y2 w2 (g1.trans g2) q
end Tq

set_option maxRecDepth 100000
set_option maxHeartbeats 4000000
namespace Tq
open PySem PySem.Spec PyProof.Rows L2
/-! ### whole numbers of at most k figures -/
def Bd (k : Nat) (x : Int) : Prop := x.natAbs < 10 ^ k
theorem Bd.mono {k k' : Nat} {x : Int} (h : Bd k x) (hk : k ≤ k') : Bd k' x := Nat.lt_of_lt_of_le h (Nat.pow_le_pow_right (by decide) hk)
theorem Bd.add {k k' : Nat} {x y : Int} (h : Bd k x) (h' : Bd k' y) : Bd (k + k' + 1) (x + y) := by
  have h1 := h.mono (show k ≤ k + k' by omega)
  have h2 := h'.mono (show k' ≤ k + k' by omega)
  unfold Bd at *
  rw [Nat.pow_succ]
  omega
theorem Bd.neg {k : Nat} {x : Int} (h : Bd k x) : Bd k (-x) := by unfold Bd at *; omega
theorem Bd.sub {k k' : Nat} {x y : Int} (h : Bd k x) (h' : Bd k' y) : Bd (k + k' + 1) (x - y) := by
  rw [Int.sub_eq_add_neg]; exact h.add h'.neg
theorem Bd.mul {k k' : Nat} {x y : Int} (h : Bd k x) (h' : Bd k' y) : Bd (k + k') (x * y) := by
  unfold Bd at *
  rw [Int.natAbs_mul, Nat.pow_add]
  exact Nat.mul_lt_mul'' h h'
theorem Bd.div {k : Nat} {x y : Int} (h : Bd k x) (hy : 0 < y) : Bd (k + 1) (x / y) := by
  unfold Bd at *
  rw [Nat.pow_succ]
  have h1 : x / y ≤ x.natAbs := by
    rcases Int.lt_or_le x 0 with z | z
    · have := Int.ediv_neg_of_neg_of_pos z hy; omega
    · have := Int.ediv_le_self y z; omega
  have h2 : -(x.natAbs : Int) - 1 ≤ x / y := by
    rcases Int.lt_or_le x 0 with z | z
    · have e := Int.emod_add_mul_ediv x y
      have e1 := Int.emod_nonneg x (show y ≠ 0 by omega)
      have e2 := Int.emod_lt_of_pos x hy
      rcases Int.lt_or_le (x / y) (-(x.natAbs : Int) - 1) with w | w
      · have : y * (x / y) ≤ 1 * (x / y) := Int.mul_le_mul_of_nonpos_right (by omega) (by omega)
        have h3 : y * (x / y) ≤ y * (-(x.natAbs : Int) - 2) := Int.mul_le_mul_of_nonneg_left (by omega) (by omega)
        have h4 : y * (-(x.natAbs : Int) - 2) = -(y * x.natAbs) - 2 * y := by rw [Int.mul_sub, Int.mul_neg]; omega
        have h5 : 1 * (x.natAbs : Int) ≤ y * x.natAbs := Int.mul_le_mul_of_nonneg_right (by omega) (by omega)
        omega
      · exact w
    · have := Int.ediv_nonneg z (show 0 ≤ y by omega); omega
  omega
theorem Bd.mod {k : Nat} {x y : Int} (h : Bd k y) (hy : 0 < y) : Bd k (x % y) := by
  have e1 := Int.emod_nonneg x (show y ≠ 0 by omega)
  have e2 := Int.emod_lt_of_pos x hy
  unfold Bd at *
  omega
theorem Bd.lit {k : Nat} {x : Int} (h : x.natAbs < 10 ^ k) : Bd k x := h
theorem Bd.max {k k' : Nat} {x y : Int} (h : Bd k x) (h' : Bd k' y) : Bd (k + k') (if y > x then y else x) := by
  split
  · exact h'.mono (by omega)
  · exact h.mono (by omega)
theorem Bd.min {k k' : Nat} {x y : Int} (h : Bd k x) (h' : Bd k' y) : Bd (k + k') (if y < x then y else x) := by
  split
  · exact h'.mono (by omega)
  · exact h.mono (by omega)
theorem Bd.mulW {k k' : Nat} {x y : Int} (h : Bd k x) (h' : Bd k' y) (hk : k ≤ 50000 := by decide) (hk' : k' ≤ 50000 := by decide) : CMulW x y := mulW_ok k k' h h' hk hk'
theorem Bd.divW {k : Nat} {x y : Int} (h : Bd k y) (hy : 0 < y) (hk : k ≤ 2000 := by decide) : CDivW x y := wide_div (b := 4 * k + 1) hy (Nat.lt_of_lt_of_le h (Nat.le_trans (ten_two k) (Nat.pow_le_pow_right (by decide) (by omega)))) (by omega) (by omega)
/-! ### neighbours of a fraction -/
structure NB (p q N a b c d : Int) : Prop where
  b1 : 1 ≤ b
  d1 : 1 ≤ d
  bN : b ≤ N
  dN : d ≤ N
  ov : N < b + d
  one : c * b - a * d = 1
  lo : 0 < p * b - a * q
  hi : 0 < c * q - p * d
/-- the parts of a fraction between two neighbours -/
theorem nb_q {p q a b c d : Int} (h : c * b - a * d = 1) : q = b * (c * q - p * d) + d * (p * b - a * q) := by
  have : q * (c * b - a * d) = b * (c * q - p * d) + d * (p * b - a * q) := by
    simp only [Int.mul_sub, Int.sub_mul, Int.mul_assoc, Int.mul_comm, Int.mul_left_comm]
    omega
  rw [h, Int.mul_one] at this
  exact this
theorem nb_p {p q a b c d : Int} (h : c * b - a * d = 1) : p = a * (c * q - p * d) + c * (p * b - a * q) := by
  have : p * (c * b - a * d) = a * (c * q - p * d) + c * (p * b - a * q) := by
    simp only [Int.mul_sub, Int.sub_mul, Int.mul_assoc, Int.mul_comm, Int.mul_left_comm]
    omega
  rw [h, Int.mul_one] at this
  exact this
theorem le_mul {a x : Int} (ha : 0 ≤ a) (hx : 1 ≤ x) : a ≤ a * x := by
  have := Int.mul_le_mul_of_nonneg_left hx ha
  omega
theorem nb_sum {p q a b c d : Int} (h : c * b - a * d = 1) (hb : 1 ≤ b) (hd : 1 ≤ d) (hx : 0 < p * b - a * q) (hy : 0 < c * q - p * d) : b + d ≤ q := by
  have e := nb_q (p := p) (q := q) h
  have h1 := le_mul (a := b) (x := c * q - p * d) (by omega) hy
  have h2 := le_mul (a := d) (x := p * b - a * q) (by omega) hx
  omega
/-- one below the other and no smaller denominator fits between -/
theorem NB.le {p q N a b c d a' b' c' d' : Int} (h : NB p q N a b c d) (h' : NB p q N a' b' c' d') : a' * b ≤ a * b' := by
  -- a'/b' < p/q < c/d
  rcases Int.lt_or_le (a * b') (a' * b) with z | z
  · exfalso
    have q1 := nb_sum h.one h.b1 h.d1 h.lo h.hi
    have b1 := h.b1
    have d1 := h.d1
    have b1' := h'.b1
    -- a' d < c b'
    have hx := h'.lo
    have hy := h.hi
    have k1 : 0 < c * b' - a' * d := by
      have m1 : 0 < b' * (c * q - p * d) := Int.mul_pos (by omega) hy
      have m2 : 0 < d * (p * b' - a' * q) := Int.mul_pos (by omega) hx
      have e : q * (c * b' - a' * d) = b' * (c * q - p * d) + d * (p * b' - a' * q) := by
        simp only [Int.mul_sub, Int.sub_mul, Int.mul_assoc, Int.mul_comm, Int.mul_left_comm]
        omega
      rcases Int.lt_or_le 0 (c * b' - a' * d) with w | w
      · exact w
      · have : q * (c * b' - a' * d) ≤ 0 := Int.mul_nonpos_of_nonneg_of_nonpos (by omega) w
        omega
    have k2 : 0 < a' * b - a * b' := by omega
    have e := nb_q (p := a') (q := b') h.one
    have h1 := le_mul (a := b) (x := c * b' - a' * d) (by omega) k1
    have h2 := le_mul (a := d) (x := a' * b - a * b') (by omega) k2
    have := h'.bN
    have := h.ov
    omega
  · exact z
theorem NB.flip {p q N a b c d : Int} (h : NB p q N a b c d) : NB (-p) q N (-c) d (-a) b := by
  refine ⟨h.d1, h.b1, h.dN, h.bN, by have := h.ov; omega, ?_, ?_, ?_⟩
  · have := h.one; simp only [Int.neg_mul]; omega
  · have := h.hi; simp only [Int.neg_mul]; omega
  · have := h.lo; simp only [Int.neg_mul]; omega
theorem NB.low {p q N a b c d a' b' c' d' : Int} (h : NB p q N a b c d) (h' : NB p q N a' b' c' d') : a = a' ∧ b = b' := by
  have e : a' * b = a * b' := Int.le_antisymm (h.le h') (h'.le h)
  have key : ∀ {a b c d a' b' : Int}, c * b - a * d = 1 → 1 ≤ b → 1 ≤ b' → a' * b = a * b' → b ≤ b' := by
    intro a b c d a' b' h1 hb hb' e
    have e2 : b' = b * (c * b' - a' * d) := by
      have : b' * (c * b - a * d) = b * (c * b' - a' * d) := by
        have e3 : d * (a' * b) = d * (a * b') := by rw [e]
        simp only [Int.mul_sub, Int.sub_mul, Int.mul_assoc, Int.mul_comm, Int.mul_left_comm] at e3 ⊢
        omega
      rw [h1, Int.mul_one] at this
      exact this
    have h3 : 1 ≤ c * b' - a' * d := by
      rcases Int.lt_or_le (c * b' - a' * d) 1 with w | w
      · have : b * (c * b' - a' * d) ≤ 0 := Int.mul_nonpos_of_nonneg_of_nonpos (by omega) (by omega)
        omega
      · exact w
    have := le_mul (a := b) (by omega) h3
    omega
  have hb : b = b' := Int.le_antisymm (key h.one h.b1 h'.b1 e) (key h'.one h'.b1 h.b1 e.symm)
  subst hb
  exact ⟨(Int.eq_of_mul_eq_mul_right (by have := h.b1; omega) e).symm, rfl⟩
theorem NB.uniq {p q N a b c d a' b' c' d' : Int} (h : NB p q N a b c d) (h' : NB p q N a' b' c' d') : a = a' ∧ b = b' ∧ c = c' ∧ d = d' := by
  obtain ⟨e1, e2⟩ := h.low h'
  obtain ⟨e3, e4⟩ := h.flip.low h'.flip
  exact ⟨e1, e2, by omega, e4⟩
theorem gcd_one {a b c d : Int} (h : c * b - a * d = 1) : gcdI a b = 1 := by
  have h1 : gcdI a b ∣ a := Int.gcd_dvd_left a b
  have h2 : gcdI a b ∣ b := Int.gcd_dvd_right a b
  have h3 : gcdI a b ∣ 1 := by
    rw [← h]
    exact Int.dvd_sub (Int.dvd_mul_of_dvd_right h2) (Int.dvd_mul_of_dvd_left h1)
  have h4 : 0 ≤ gcdI a b := by unfold gcdI; omega
  exact Int.eq_one_of_dvd_one h4 h3
theorem gcd_dvd1 {p q y u v : Int} (h : gcdI p q = 1) (hp : p = u * y) (hq : q = v * y) (hy : 0 < y) : y = 1 := by
  have h1 : y ∣ gcdI p q := by
    unfold gcdI
    exact Int.dvd_coe_gcd ⟨u, by rw [hp, Int.mul_comm]⟩ ⟨v, by rw [hq, Int.mul_comm]⟩
  rw [h] at h1
  exact Int.eq_one_of_dvd_one (by omega) h1
/-- what stands at each turn -/
structure NI (p q N a b c d : Int) : Prop where
  b1 : 1 ≤ b
  d1 : 1 ≤ d
  bN : b ≤ N
  dN : d ≤ N
  one : c * b - a * d = 1
  lo : 0 < p * b - a * q
  hi : 0 < c * q - p * d
theorem NI.flip {p q N a b c d : Int} (h : NI p q N a b c d) : NI (-p) q N (-c) d (-a) b := by
  refine ⟨h.d1, h.b1, h.dN, h.bN, ?_, ?_, ?_⟩
  · have := h.one; simp only [Int.neg_mul]; omega
  · have := h.hi; simp only [Int.neg_mul]; omega
  · have := h.lo; simp only [Int.neg_mul]; omega
theorem ni_step {p q N a b c d m : Int} (h : NI p q N a b c d) (hg : gcdI p q = 1) (hq : N < q) (m0 : 0 ≤ m) (m1 : m ≤ (p * b - a * q) / (c * q - p * d)) (m2 : m ≤ (N - b) / d) : NI p q N (a + m * c) (b + m * d) c d := by
  have hb := h.b1
  have hd := h.d1
  have hY := h.hi
  have k1 : m * d ≤ N - b := Int.le_trans (Int.mul_le_mul_of_nonneg_right m2 (by omega)) (Int.ediv_mul_le _ (by omega))
  have k2 : m * (c * q - p * d) ≤ p * b - a * q := Int.le_trans (Int.mul_le_mul_of_nonneg_right m1 (by omega)) (Int.ediv_mul_le _ (by omega))
  have k3 : 0 ≤ m * d := Int.mul_nonneg m0 (by omega)
  have one : c * (b + m * d) - (a + m * c) * d = 1 := by
    have := h.one
    simp only [Int.mul_add, Int.add_mul, Int.mul_assoc, Int.mul_comm, Int.mul_left_comm] at this ⊢
    omega
  have ex : p * (b + m * d) - (a + m * c) * q = (p * b - a * q) - m * (c * q - p * d) := by
    simp only [Int.mul_add, Int.add_mul, Int.mul_sub, Int.mul_assoc, Int.mul_comm, Int.mul_left_comm]
    omega
  refine ⟨by omega, hd, by omega, h.dN, one, ?_, hY⟩
  rcases Int.lt_or_le 0 (p * (b + m * d) - (a + m * c) * q) with w | w
  · exact w
  · exfalso
    have z : p * (b + m * d) - (a + m * c) * q = 0 := by omega
    have e1 := nb_q (p := p) (q := q) one
    have e2 := nb_p (p := p) (q := q) one
    rw [z, Int.mul_zero, Int.add_zero] at e1 e2
    have y1 := gcd_dvd1 hg e2 e1 hY
    rw [y1, Int.mul_one] at e1
    omega
theorem Bd.of_mul {k : Nat} {a q : Int} (h : Bd k (a * q)) (hq : 1 ≤ q) : Bd k a := by
  unfold Bd at *
  rw [Int.natAbs_mul] at h
  have : a.natAbs * 1 ≤ a.natAbs * q.natAbs := Nat.mul_le_mul_left _ (by omega)
  omega
theorem NI.bd {p q N a b c d : Int} {k : Nat} (h : NI p q N a b c d) (hp : Bd k p) (hq : Bd k q) (hN : Bd k N) : Bd k b ∧ Bd k d ∧ Bd (3 * k + 1) a ∧ Bd (3 * k + 1) c ∧ (p * b - a * q) ≤ q ∧ (c * q - p * d) ≤ q ∧ 1 ≤ q := by
  have e := nb_q (p := p) (q := q) h.one
  have hb := h.b1
  have hd := h.d1
  have hX := h.lo
  have hY := h.hi
  have h1 := le_mul (a := c * q - p * d) (x := b) (by omega) hb
  have h2 := le_mul (a := p * b - a * q) (x := d) (by omega) hd
  rw [Int.mul_comm _ b] at h1
  rw [Int.mul_comm _ d] at h2
  have hXb : 0 < d * (p * b - a * q) := Int.mul_pos (by omega) hX
  have hYb : 0 < b * (c * q - p * d) := Int.mul_pos (by omega) hY
  have x1 : p * b - a * q ≤ q := by omega
  have y1 : c * q - p * d ≤ q := by omega
  have q1 : 1 ≤ q := by omega
  have bb : Bd k b := by have := h.bN; unfold Bd at *; omega
  have bd : Bd k d := by have := h.dN; unfold Bd at *; omega
  refine ⟨bb, bd, ?_, ?_, x1, y1, q1⟩
  · refine Bd.of_mul (q := q) ?_ q1
    have ex : a * q = p * b - (p * b - a * q) := by omega
    rw [ex]
    have hx : Bd k (p * b - a * q) := by unfold Bd at *; omega
    exact ((hp.mul bb).sub hx).mono (by omega)
  · refine Bd.of_mul (q := q) ?_ q1
    have ex : c * q = p * d + (c * q - p * d) := by omega
    rw [ex]
    have hx : Bd k (c * q - p * d) := by unfold Bd at *; omega
    exact ((hp.mul bd).add hx).mono (by omega)
end Tq

set_option maxRecDepth 100000
set_option maxHeartbeats 4000000
namespace Tq
open PySem PySem.Spec PyProof.Rows L2
abbrev fr (a b : Int) : D := .tuple [.int a, .int b]
abbrev sp_need_fraction (K : Fg) : Sp := detSp K 1 (fun ds => ∃ x, ds = [x] ∧ fracB x = true) (fun _ => .none)
abbrev sp_need_both (K : Fg) : Sp := detSp K 2 (fun ds => ∃ x n, ds = [x, .int n] ∧ fracB x = true ∧ 1 ≤ n) (fun _ => .none)
def movedD : List D → D
  | [.tuple [.int a, .int b], .tuple [.int c, .int d], .int m] => fr (a + m * c) (b + m * d)
  | _ => .none
abbrev sp_moved (K : Fg) : Sp := detSp K 3 (fun ds => ∃ a b c d m, ds = [fr a b, fr c d, .int m] ∧ Bd 900 c ∧ Bd 900 d ∧ Bd 900 m) movedD
def gapD : List D → D
  | [.tuple [.int a, .int b], .tuple [.int c, .int d]] => .int (c * b - a * d)
  | _ => .none
abbrev sp_gap (K : Fg) : Sp := detSp K 2 (fun ds => ∃ a b c d, ds = [fr a b, fr c d] ∧ Bd 900 a ∧ Bd 900 b ∧ Bd 900 c ∧ Bd 900 d) gapD
def NR (p q N : Int) (r : D) : Prop := (q ≤ N ∧ r = .tuple [fr p q, fr p q]) ∨ (N < q ∧ ∃ a b c d, NB p q N a b c d ∧ r = .tuple [fr a b, fr c d])
structure FN (p q N : Int) : Prop where
  q1 : 1 ≤ q
  g : gcdI p q = 1
  n1 : 1 ≤ N
  bp : Bd 65 p
  bq : Bd 65 q
  bN : Bd 65 N
abbrev sp_neighbours (K : Fg) : Sp := pureSp K 2 (fun ds => ∃ p q N, ds = [fr p q, .int N] ∧ FN p q N) (fun ds r => ∀ p q N, ds = [fr p q, .int N] → NR p q N r)
def nearF (p q a b c d : Int) : D := if (p * b - a * q) * d = (c * q - p * d) * b then (if b ≤ d then fr a b else fr c d) else if (p * b - a * q) * d < (c * q - p * d) * b then fr a b else fr c d
abbrev sp_nearest (K : Fg) : Sp := pureSp K 2 (fun ds => ∃ p q N, ds = [fr p q, .int N] ∧ FN p q N) (fun ds r => ∀ p q N, ds = [fr p q, .int N] → ∃ a b c d, NR p q N (.tuple [fr a b, fr c d]) ∧ r = nearF p q a b c d)
theorem fracB_fr {p q : Int} (h : 1 ≤ q) (g : gcdI p q = 1) : fracB (fr p q) = true := by
  show (decide (1 ≤ q) && decide (gcdI p q = 1)) = true
  rw [decide_eq_true h, decide_eq_true g]; rfl
theorem NR.uniq {p q N : Int} {r r' : D} (h : NR p q N r) (h' : NR p q N r') : r = r' := by
  rcases h with ⟨h1, e⟩ | ⟨h1, a, b, c, d, n, e⟩ <;> rcases h' with ⟨h1', e'⟩ | ⟨h1', a', b', c', d', n', e'⟩
  · rw [e, e']
  · omega
  · omega
  · obtain ⟨rfl, rfl, rfl, rfl⟩ := n.uniq n'
    rw [e, e']
theorem ni_step2 {p q N a b c d m : Int} (h : NI p q N a b c d) (hg : gcdI p q = 1) (hq : N < q) (m0 : 0 ≤ m) (m1 : m ≤ (c * q - p * d) / (p * b - a * q)) (m2 : m ≤ (N - d) / b) : NI p q N a b (c + m * a) (d + m * b) := by
  have hg' : gcdI (-p) q = 1 := by unfold gcdI at hg ⊢; rw [Int.natAbs_neg]; exact hg
  have e1 : -p * d - -c * q = c * q - p * d := by simp only [Int.neg_mul]; omega
  have e2 : -a * q - -p * b = p * b - a * q := by simp only [Int.neg_mul]; omega
  have k := (ni_step h.flip hg' hq m0 (by rw [e1, e2]; exact m1) m2).flip
  have e3 : -(-c + m * -a) = c + m * a := by simp only [Int.mul_neg]; omega
  rw [Int.neg_neg, Int.neg_neg, e3] at k
  exact k
theorem ni_start {p q N : Int} (n1 : 1 ≤ N) (hg : gcdI p q = 1) (hq : N < q) : NI p q N (p / q) 1 (p / q + 1) 1 := by
  have e := Int.emod_add_mul_ediv p q
  have e1 := Int.emod_nonneg p (show q ≠ 0 by omega)
  have e2 := Int.emod_lt_of_pos p (show 0 < q by omega)
  have e3 : p % q ≠ 0 := by
    intro z
    rw [z] at e
    have := gcd_dvd1 (p := p) (q := q) (y := q) (u := p / q) (v := 1) hg (by rw [Int.mul_comm]; omega) (by omega) (by omega)
    omega
  have e4 : p / q * q = q * (p / q) := Int.mul_comm _ _
  refine ⟨by omega, by omega, by omega, by omega, by omega, ?_, ?_⟩
  · omega
  · rw [Int.add_mul]; omega
theorem min_le {x y : Int} : (if y < x then y else x) ≤ x ∧ (if y < x then y else x) ≤ y := by split <;> constructor <;> omega
theorem NI.nb {p q N a b c d : Int} (h : NI p q N a b c d) (o : N < b + d) : NB p q N a b c d := ⟨h.b1, h.d1, h.bN, h.dN, o, h.one, h.lo, h.hi⟩
theorem NB.ni {p q N a b c d : Int} (h : NB p q N a b c d) : NI p q N a b c d := ⟨h.b1, h.d1, h.bN, h.dN, h.one, h.lo, h.hi⟩
theorem div_ge1 {x y : Int} (hy : 0 < y) (h : y ≤ x) : 1 ≤ x / y := (Int.le_ediv_iff_mul_le hy).mpr (by omega)
/-! ### what k15's law draws -/
theorem NR.bd {p q N : Int} {r : D} (h : NR p q N r) (f : FN p q N) : ∃ a b c d, r = .tuple [fr a b, fr c d] ∧ Bd 900 a ∧ Bd 900 b ∧ Bd 900 c ∧ Bd 900 d := by
  have f1 := f.bp
  have f2 := f.bq
  rcases h with ⟨h1, e⟩ | ⟨h1, a, b, c, d, n, e⟩
  · exact ⟨_, _, _, _, e, f1.mono (by decide), f2.mono (by decide), f1.mono (by decide), f2.mono (by decide)⟩
  · obtain ⟨b1, b2, b3, b4, _⟩ := n.ni.bd f.bp f.bq f.bN
    exact ⟨_, _, _, _, e, b3.mono (by decide), b1.mono (by decide), b4.mono (by decide), b2.mono (by decide)⟩
theorem shaped_fr (a b : Int) : SeqAt.shaped (fr a b) = true := by
  simp [SeqAt.shaped, PyData.canLay0, PyData.canLayAll0, PyData.depth, PyData.depthAll]
theorem NB.at {p q N N' a b c d : Int} (n : NB p q N a b c d) (h1 : b ≤ N') (h2 : d ≤ N') (h3 : N' < b + d) : NB p q N' a b c d := ⟨n.b1, n.d1, h1, h2, h3, n.one, n.lo, n.hi⟩
theorem FN.at {p q N N' : Int} (f : FN p q N) (h1 : 1 ≤ N') (h2 : N' ≤ q) : FN p q N' := ⟨f.q1, f.g, h1, f.bp, f.bq, by have := f.bq; unfold Bd at *; omega⟩
end Tq

set_option maxRecDepth 100000
set_option maxHeartbeats 4000000
namespace Tq
open PySem PySem.Spec PyProof.Rows L2
/-! ### the best fractions, by going through all bottoms -/
structure LB (p q k a b : Int) : Prop where
  b1 : 1 ≤ b
  bk : b ≤ k
  lo : a * q ≤ p * b
  best : ∀ x y, 1 ≤ y → y ≤ k → x * q ≤ p * y → x * b ≤ a * y
  less : ∀ x y, 1 ≤ y → y < b → x * q ≤ p * y → x * b < a * y
end Tq

set_option maxRecDepth 100000
set_option maxHeartbeats 4000000
namespace Tq
open PySem PySem.Spec PyProof.Rows L2
/-! ### tuples of the text's top, in, lists taken apart -/
/-- the name x is a thing of the written part that reads as d -/
structure GD (K : Fg) (mg : Str → Option Value) (x : Str) (a : Addr) (d : D) : Prop where
  m : mg x = some (.ref a)
  r : ∀ (M : Addr → Prop) (H : Hp), Rp K M H (.ref a) d
mutual
/-- a value of the written part that reads as d -/
inductive KV1 (K : Fg) : Value → V → D → Prop
  | int (i : Int) (t : Tok) : KV1 K (.int i t) (.int i) (.int i)
  | str (s : Str) (t : Tok) : KV1 K (.str s t) (.str s) (.str s)
  | tup {a : Addr} {od : Option Addr} {sl : Array (Option Value)} {us : List Value} {vs : List V} {ds : List D} {n : Nat} (hz : us.length ≤ sizeLine) (l : K.lookup a = some ⟨.type "tuple", od, .seq us.toArray n, sl⟩) (kv : KVs K us vs ds) : KV1 K (.ref a) (.ref a) (.tuple ds)
inductive KVs (K : Fg) : List Value → List V → List D → Prop
  | nil : KVs K [] [] []
  | cons {u : Value} {v : V} {d : D} {us : List Value} {vs : List V} {ds : List D} : KV1 K u v d → KVs K us vs ds → KVs K (u :: us) (v :: vs) (d :: ds)
end
theorem KVs.vals {K : Fg} : ∀ {us : List Value} {vs : List V} {ds : List D}, KVs K us vs ds → Vals vs us
  | _, _, _, .nil => .nil
  | _, _, _, .cons (.int i t) b => .cons ⟨t, rfl⟩ b.vals
  | _, _, _, .cons (.str i t) b => .cons ⟨t, rfl⟩ b.vals
  | _, _, _, .cons (.tup _ _ _) b => .cons rfl b.vals
theorem KVs.rp {K : Fg} {M : Addr → Prop} {H : Hp} : ∀ {us : List Value} {vs : List V} {ds : List D}, KVs K us vs ds → RpA K M H vs ds
  | _, _, _, .nil => .nil
  | _, _, _, .cons (.int i t) b => .cons (.int i) b.rp
  | _, _, _, .cons (.str i t) b => .cons (.str i) b.rp
  | _, _, _, .cons (.tup hz l kv) b => .cons (.tup (.inr ⟨_, _, _, l, rfl, rfl, by rw [List.size_toArray]; exact hz, by simpa using kv.vals⟩) kv.rp) b.rp
section
variable {C : Ct} {y : S} {ta tb : TE} {Q : Z → S → Prop}
/-! in, of plain things -/
end
end Tq

set_option maxRecDepth 100000
set_option maxHeartbeats 4000000
namespace Tq
open PySem PySem.Spec PyProof.Rows L2
/-! ### rows of whole terms -/
section
variable {C : Ct} {y : S} {te : TE} {Qi : List D → S → Prop}
end
theorem atI_last {α : Type} {xs : List α} (h : xs ≠ []) : atI xs (-1) = xs.getLast? := by
  have hl : 0 < xs.length := List.length_pos_iff.mpr h
  have e : ixN xs.length (-1) = some (xs.length - 1) := by
    unfold ixN
    rw [if_neg (by omega), if_pos (by omega)]
    congr 1
    omega
  unfold atI
  rw [e, List.getLast?_eq_getElem?]
  rfl
/-! ### turns -/
structure Mx where
  a : Int
  b : Int
  c : Int
  d : Int
def Mx.mul (m n : Mx) : Mx := ⟨m.a * n.a + m.b * n.c, m.a * n.b + m.b * n.d, m.c * n.a + m.d * n.c, m.c * n.b + m.d * n.d⟩
def Mx.one : Mx := ⟨1, 0, 0, 1⟩
def Mx.term (t : Int) : Mx := ⟨t, 1, 1, 0⟩
def MB (k : Nat) (m : Mx) : Prop := Bd k m.a ∧ Bd k m.b ∧ Bd k m.c ∧ Bd k m.d
def turnL (ts : List Int) : Mx := ts.foldl (fun m t => m.mul (.term t)) .one
theorem turn_snoc (ts : List Int) (t : Int) : turnL (ts ++ [t]) = (turnL ts).mul (.term t) := by
  unfold turnL
  rw [List.foldl_append]
  rfl
theorem Mx.mul_term (m : Mx) (t : Int) : m.mul (.term t) = ⟨m.a * t + m.b, m.a, m.c * t + m.d, m.c⟩ := by
  unfold Mx.mul Mx.term
  simp
theorem bd1 {k : Nat} {x y : Int} (h : Bd k x) (h' : Bd k y) : Bd (k + 1) (x + y) := by
  unfold Bd at *
  have : 10 ^ (k + 1) = 10 ^ k * 10 := Nat.pow_succ ..
  omega
theorem mb_step {k : Nat} {m : Mx} {t : Int} (h : MB k m) (ht : Bd 13 t) : MB (k + 14) (m.mul (.term t)) := by
  rw [Mx.mul_term]
  obtain ⟨h1, h2, h3, h4⟩ := h
  exact ⟨bd1 (k := k + 13) (h1.mul ht) (h2.mono (by omega)), h1.mono (by omega), bd1 (k := k + 13) (h3.mul ht) (h4.mono (by omega)), h3.mono (by omega)⟩
theorem list_snoc {P : List Int → Prop} (h0 : P []) (hs : ∀ ts t, P ts → P (ts ++ [t])) : ∀ ts, P ts := fun ts => by
  have : ∀ n (ts : List Int), ts.length = n → P ts := by
    intro n
    induction n with
    | zero => intro ts h; rw [List.eq_nil_of_length_eq_zero h]; exact h0
    | succ n ih =>
      intro ts h
      have hne : ts ≠ [] := fun z => by rw [z] at h; cases h
      rw [← List.dropLast_concat_getLast hne]
      exact hs _ _ (ih _ (by rw [List.length_dropLast]; omega))
  exact this _ ts rfl
theorem mb_turn (ts : List Int) (h : ∀ t ∈ ts, Bd 13 t) : MB (14 * ts.length + 1) (turnL ts) := by
  revert h
  refine list_snoc (P := fun ts => (∀ t ∈ ts, Bd 13 t) → MB (14 * ts.length + 1) (turnL ts)) ?_ ?_ ts
  · intro _
    show MB 1 .one
    exact ⟨Bd.lit (by decide), Bd.lit (by decide), Bd.lit (by decide), Bd.lit (by decide)⟩
  · intro ts t ih h
    rw [turn_snoc, List.length_append]
    have := mb_step (ih fun u hu => h u (List.mem_append.mpr (.inl hu))) (h t (List.mem_append.mpr (.inr (List.mem_singleton.mpr rfl))))
    rw [show 14 * (ts.length + [t].length) + 1 = 14 * ts.length + 1 + 14 by simp; omega]
    exact this
theorem MB.mono {k k' : Nat} {m : Mx} (h : MB k m) (hk : k ≤ k') : MB k' m := ⟨h.1.mono hk, h.2.1.mono hk, h.2.2.1.mono hk, h.2.2.2.mono hk⟩
/-- terms that may be handled -/
def TB (ts : List Int) : Prop := ts.length ≤ 110 ∧ ∀ t ∈ ts, Bd 13 t
theorem TB.take {ts : List Int} (h : TB ts) (n : Nat) : TB (ts.take n) := ⟨by rw [List.length_take]; have := h.1; omega, fun t ht => h.2 t (List.mem_of_mem_take ht)⟩
theorem TB.turn {ts : List Int} (h : TB ts) : MB 1600 (turnL ts) := (mb_turn ts h.2).mono (by have := h.1; omega)
/-- terms from 1 on behind the first one -/
def Pos1 (ts : List Int) : Prop := ∀ t ∈ ts.drop 1, 1 ≤ t
/-- how a row is written -/
def numT (t : Int) : Str := Str.ofString (toString t)
/-- how far two rows are alike -/
def alike : List Int → List Int → Nat
  | t :: ts, u :: us => if t = u then alike ts us + 1 else 0
  | _, _ => 0
/-! two rows side by side -/
/-! ### drawn rows -/
/-! the law's own look -/
def ElOk (xs : List D) : Prop := ∀ x ∈ xs, x.canLay0 = true ∧ x.depth ≤ 60
theorem shaped_list {xs : List D} (h : ElOk xs) : SeqAt.shaped (.list xs) = true := by
  have z : PyData.canLayAll0 xs = true ∧ PyData.depthAll xs ≤ 60 := by
    induction xs with
    | nil => exact ⟨rfl, Nat.zero_le _⟩
    | cons x r ih =>
      obtain ⟨h1, h2⟩ := ih fun y hy => h y (List.mem_cons_of_mem _ hy)
      obtain ⟨h3, h4⟩ := h x List.mem_cons_self
      refine ⟨?_, ?_⟩
      · show (x.canLay0 && PyData.canLayAll0 r) = true
        rw [h1, h3]; rfl
      · show max x.depth (PyData.depthAll r) ≤ 60
        omega
  unfold SeqAt.shaped
  show (PyData.canLayAll0 xs && decide (PyData.depthAll xs + 1 ≤ 64)) = true
  rw [z.1, decide_eq_true (by omega)]; rfl
end Tq

set_option maxRecDepth 100000
set_option maxHeartbeats 4000000
namespace Tq
open PySem PySem.Spec PyProof.Rows L2
/-! ### xs[-2::-1], xs[::-1] -/
def tRev2 (K : Fg) (te : TE) : TE := fun σ H Q => te σ H fun x H1 => ∃ a xs, x = .ref a ∧ SqL K H1 a xs ∧ ∀ p, H1 p = none → Q (.ref p) (upd H1 p (.lst xs.dropLast.reverse))
def tRev1 (K : Fg) (te : TE) : TE := tRevL K te
section
variable {C : Ct} {y : S} {te : TE} {Q : Z → S → Prop}
theorem wE_rev2 (w : wE C te y fun z y1 => ∃ xs, z = .d (.list xs) ∧ Q (.d (.list xs.dropLast.reverse)) y1) : wE C (tRev2 C.K te) y Q := by
  intro F σ H K wd k
  refine w F σ H _ wd fun x H1 z y1 w1 g1 s1 r1 ⟨xs, ez, q⟩ => ?_
  subst ez
  obtain ⟨a, us, rfl, h1, h2⟩ := rp_lst r1
  refine ⟨a, us, rfl, h1.sq, fun p hp => ?_⟩
  have gr := grow_upd (o := .lst us.dropLast.reverse) hp
  have h3 : RpA C.K (Mv F σ y1) H1 us.dropLast xs.dropLast := by
    rw [List.dropLast_eq_take, List.dropLast_eq_take, h2.len]
    exact h2.take _
  exact k _ _ (.d (.list xs.dropLast.reverse)) y1 (w1.grow gr) (g1.trans (go_grow gr)) s1 (.lst (.inl ⟨w1.new hp, .inl upd_same⟩) (h3.rev.go (go_grow gr))) q
theorem wE_rev1 (w : wE C te y fun z y1 => ∃ xs, z = .d (.list xs) ∧ Q (.d (.list xs.reverse)) y1) : wE C (tRev1 C.K te) y Q := by
  intro F σ H K wd k
  refine w F σ H _ wd fun x H1 z y1 w1 g1 s1 r1 ⟨xs, ez, q⟩ => ?_
  subst ez
  obtain ⟨a, us, rfl, h1, h2⟩ := rp_lst r1
  refine ⟨a, us, rfl, h1.sq, fun p hp => ?_⟩
  have gr := grow_upd (o := .lst us.reverse) hp
  exact k _ _ (.d (.list xs.reverse)) y1 (w1.grow gr) (g1.trans (go_grow gr)) s1 (.lst (.inl ⟨w1.new hp, .inl upd_same⟩) (h2.rev.go (go_grow gr))) q
end
/-! ### turns: products, values from behind -/
theorem Mx.ext' {m n : Mx} (h1 : m.a = n.a) (h2 : m.b = n.b) (h3 : m.c = n.c) (h4 : m.d = n.d) : m = n := by
  cases m; cases n; simp_all
theorem Mx.mul_assoc (m n o : Mx) : (m.mul n).mul o = m.mul (n.mul o) := by
  apply Mx.ext' <;> simp only [Mx.mul] <;> grind
theorem Mx.one_mul (m : Mx) : Mx.one.mul m = m := by
  apply Mx.ext' <;> simp [Mx.mul, Mx.one]
theorem Mx.mul_one (m : Mx) : m.mul .one = m := by
  apply Mx.ext' <;> simp [Mx.mul, Mx.one]
def Mx.det (m : Mx) : Int := m.a * m.d - m.b * m.c
/-! ### enumerate -/
def enumD (ds : List D) : List D := ds.zipIdx.map fun p => .tuple [.int (p.2 : Nat), p.1]
theorem enumD_get {ds : List D} {i : Nat} {x : D} (h : (enumD ds)[i]? = some x) : ∃ d, ds[i]? = some d ∧ x = .tuple [.int (i : Nat), d] := by
  unfold enumD at h
  rw [List.getElem?_map, List.getElem?_zipIdx] at h
  cases q : ds[i]? with
  | none => rw [q] at h; cases h
  | some d =>
    rw [q] at h
    simp at h
    exact ⟨d, rfl, h.symm⟩
theorem enumD_len (ds : List D) : (enumD ds).length = ds.length := by unfold enumD; rw [List.length_map, List.length_zipIdx]
/-! ### neighbours among the beginnings of a row -/
def sgE (i : Nat) : Int := if i % 2 = 0 then 1 else -1
/-- what stands at a place of a legal row -/
structure Amid (ts : List Int) (i : Nat) (a1 c1 a0 c0 p q : Int) : Prop where
  rc : ∃ rc : Int, 0 ≤ rc ∧ (rc = 0 ↔ i + 1 = ts.length) ∧ a1 * q - p * c1 = rc * sgE (i + 1) ∧ (1 ≤ i → ∃ ra, rc ≤ ra ∧ a0 * q - p * c0 = ra * sgE i)
  det : a1 * c0 - a0 * c1 = - sgE i
  cs : 1 ≤ i → 0 ≤ c0 ∧ c0 ≤ c1
end Tq

set_option maxRecDepth 100000
set_option maxHeartbeats 4000000
namespace Tq
open PySem PySem.Spec PyProof.Rows L2
/-! ### where two legal rows part, and which of their values is less -/
end Tq

set_option maxRecDepth 100000
set_option maxHeartbeats 4000000
namespace Tq
open PySem PySem.Spec PyProof.Rows L2
/-! ### floors of a fraction, one after the other -/
theorem gcd_turnZ {p q : Int} : gcdI q (p % q) = gcdI p q := by
  have e : p % q + p / q * q = p := by have := Int.mul_ediv_add_emod p q; rw [Int.mul_comm] at this; omega
  show ((Int.gcd q (p % q) : Nat) : Int) = ((Int.gcd p q : Nat) : Int)
  have h : Int.gcd (p % q + p / q * q) q = Int.gcd (p % q) q := Int.gcd_add_mul_right_left ..
  rw [e] at h
  rw [h, Int.gcd_comm]
end Tq

set_option maxRecDepth 100000
set_option maxHeartbeats 4000000
namespace Tq
open PySem PySem.Spec PyProof.Rows L2
/-! ### bounds told of every beginning and every rest of a row -/
structure TM (ts : List Int) : Prop where
  len : ts.length ≤ 220
  bd : ∀ t ∈ ts, Bd 40 t
  tk : ∀ n, MB 1600 (turnL (ts.take n))
  dr : ∀ n, MB 1600 (turnL (ts.drop n))
theorem TM.turn {ts : List Int} (h : TM ts) : MB 1600 (turnL ts) := by have := h.dr 0; rwa [List.drop_zero] at this
theorem frac_same {p q t b : Int} (hq : 1 ≤ q) (hb : 1 ≤ b) (h1 : gcdI p q = 1) (h2 : gcdI t b = 1) (h : p * b = q * t) : p = t ∧ q = b := by
  have h1 : Nat.gcd p.natAbs q.natAbs = 1 := by
    have h1 : ((Int.gcd p q : Nat) : Int) = 1 := h1
    have : Int.gcd p q = 1 := by omega
    exact this
  have h2 : Nat.gcd t.natAbs b.natAbs = 1 := by
    have h2 : ((Int.gcd t b : Nat) : Int) = 1 := h2
    have : Int.gcd t b = 1 := by omega
    exact this
  have hn : p.natAbs * b.natAbs = q.natAbs * t.natAbs := by rw [← Int.natAbs_mul, ← Int.natAbs_mul, h]
  have e1 : q ∣ b := Int.natAbs_dvd_natAbs.mp (Nat.Coprime.dvd_of_dvd_mul_left (m := p.natAbs) (by rw [Nat.Coprime, Nat.gcd_comm]; exact h1) ⟨t.natAbs, hn⟩)
  have e2 : b ∣ q := Int.natAbs_dvd_natAbs.mp (Nat.Coprime.dvd_of_dvd_mul_right (m := q.natAbs) (by rw [Nat.Coprime, Nat.gcd_comm]; exact h2) ⟨p.natAbs, by rw [← hn, Nat.mul_comm]⟩)
  have e3 : q = b := Int.le_antisymm (Int.le_of_dvd (by omega) e1) (Int.le_of_dvd (by omega) e2)
  subst e3
  refine ⟨?_, rfl⟩
  rw [Int.mul_comm] at h
  exact Int.eq_of_mul_eq_mul_left (by omega) h
end Tq

set_option maxRecDepth 100000
set_option maxHeartbeats 4000000
namespace Tq
open PySem PySem.Spec PyProof.Rows L2
def Mx.T (m : Mx) : Mx := ⟨m.a, m.c, m.b, m.d⟩
end Tq

set_option maxRecDepth 100000
set_option maxHeartbeats 4000000
namespace Tq
open PySem PySem.Spec PyProof.Rows L2
/-! ### the nearest fraction of all with bottoms up to a bound, and the row of those -/
def dst (p q x y : Int) : Int := if p * y - x * q < 0 then -(p * y - x * q) else p * y - x * q
theorem dst_nn (p q x y : Int) : 0 ≤ dst p q x y := by unfold dst; split <;> omega
structure Bst (p q N a b : Int) : Prop where
  b1 : 1 ≤ b
  bN : b ≤ N
  le : ∀ x y, 1 ≤ y → y ≤ N → dst p q a b * y < dst p q x y * b ∨ (dst p q a b * y = dst p q x y * b ∧ (b < y ∨ (b = y ∧ a ≤ x)))
theorem Bst.uniq {p q N a b a' b' : Int} (h : Bst p q N a b) (h' : Bst p q N a' b') : a = a' ∧ b = b' := by
  have h1 := h.le a' b' h'.b1 h'.bN
  have h2 := h'.le a b h.b1 h.bN
  omega
/-- at one bottom: the two about the number -/
theorem dst_lo {p q y f x : Int} (hq : 0 < q) (h0 : 0 ≤ p * y - f * q) (hx : x ≤ f) : dst p q x y = (p * y - f * q) + (f - x) * q ∧ 0 ≤ (f - x) * q ∧ (x < f → 0 < (f - x) * q) := by
  have e : (f - x) * q = f * q - x * q := Int.sub_mul ..
  have n := Int.mul_nonneg (show 0 ≤ f - x by omega) (show 0 ≤ q by omega)
  refine ⟨?_, n, fun h => Int.mul_pos (by omega) hq⟩
  unfold dst
  rw [if_neg (by omega)]
  omega
theorem dst_hi {p q y f x : Int} (hq : 0 < q) (h1 : 0 < (f + 1) * q - p * y) (hx : f + 1 ≤ x) : dst p q x y = ((f + 1) * q - p * y) + (x - (f + 1)) * q ∧ 0 ≤ (x - (f + 1)) * q ∧ (f + 1 < x → 0 < (x - (f + 1)) * q) := by
  have e : (x - (f + 1)) * q = x * q - (f + 1) * q := Int.sub_mul ..
  have n := Int.mul_nonneg (show 0 ≤ x - (f + 1) by omega) (show 0 ≤ q by omega)
  refine ⟨?_, n, fun h => Int.mul_pos (by omega) hq⟩
  unfold dst
  rw [if_pos (by omega)]
  omega
theorem flo {p q y : Int} (hq : 0 < q) : 0 ≤ p * y - p * y / q * q ∧ 0 < (p * y / q + 1) * q - p * y := by
  have h1 := Int.emod_nonneg (p * y) (show q ≠ 0 by omega)
  have h2 := Int.emod_lt_of_pos (p * y) hq
  have h3 := Int.mul_ediv_add_emod (p * y) q
  have h4 : q * (p * y / q) = p * y / q * q := Int.mul_comm _ _
  have h5 : (p * y / q + 1) * q = p * y / q * q + q := by rw [Int.add_mul, Int.one_mul]
  omega
def LexAt (p q y g : Int) : Prop := ∀ x, dst p q g y < dst p q x y ∨ (dst p q g y = dst p q x y ∧ g ≤ x)
theorem lex_lo {p q y : Int} (hq : 0 < q) (h : ¬ dst p q (p * y / q + 1) y < dst p q (p * y / q) y) : LexAt p q y (p * y / q) := by
  obtain ⟨h0, h1⟩ := flo (p := p) (y := y) hq
  generalize p * y / q = f at *
  obtain ⟨e0, _, _⟩ := dst_lo (x := f) hq h0 (Int.le_refl _)
  obtain ⟨e1, _, _⟩ := dst_hi (x := f + 1) hq h1 (Int.le_refl _)
  rw [Int.sub_self, Int.zero_mul] at e0 e1
  intro x
  rcases Int.lt_or_le f x with z | z
  · obtain ⟨e2, n2, _⟩ := dst_hi (x := x) hq h1 z
    omega
  · obtain ⟨e2, n2, p2⟩ := dst_lo (x := x) hq h0 z
    by_cases hx : x = f
    · subst hx; exact .inr ⟨rfl, Int.le_refl _⟩
    · have := p2 (by omega)
      omega
theorem lex_hi {p q y : Int} (hq : 0 < q) (h : dst p q (p * y / q + 1) y < dst p q (p * y / q) y) : LexAt p q y (p * y / q + 1) := by
  obtain ⟨h0, h1⟩ := flo (p := p) (y := y) hq
  generalize p * y / q = f at *
  obtain ⟨e0, _, _⟩ := dst_lo (x := f) hq h0 (Int.le_refl _)
  obtain ⟨e1, _, _⟩ := dst_hi (x := f + 1) hq h1 (Int.le_refl _)
  rw [Int.sub_self, Int.zero_mul] at e0 e1
  intro x
  rcases Int.lt_or_le f x with z | z
  · obtain ⟨e2, n2, p2⟩ := dst_hi (x := x) hq h1 z
    omega
  · obtain ⟨e2, n2, p2⟩ := dst_lo (x := x) hq h0 z
    omega
theorem mul_lt {a b c : Int} (h : a < b) (hc : 0 < c) : a * c < b * c := Int.mul_lt_mul_of_pos_right h hc
theorem mul_le {a b c : Int} (h : a ≤ b) (hc : 0 ≤ c) : a * c ≤ b * c := Int.mul_le_mul_of_nonneg_right h hc
theorem lt_cancel {a b c : Int} (h : a * c < b * c) (hc : 0 < c) : a < b := Int.lt_of_mul_lt_mul_right h (by omega)
theorem lex_mul {p q y g x : Int} (hy : 0 < y) (h : LexAt p q y g) : dst p q g y * y < dst p q x y * y ∨ (dst p q g y * y = dst p q x y * y ∧ (y < y ∨ (y = y ∧ g ≤ x))) := by
  rcases h x with z | ⟨z, z2⟩
  · exact .inl (mul_lt z hy)
  · exact .inr ⟨by rw [z], .inr ⟨rfl, z2⟩⟩
theorem Bst.first {p q g : Int} (h : LexAt p q 1 g) : Bst p q 1 g 1 := ⟨Int.le_refl _, Int.le_refl _, fun x y h1 h2 => by
  obtain rfl : y = 1 := by omega
  exact lex_mul (by decide) h⟩
theorem Bst.new {p q N a b g : Int} (hN : 1 ≤ N) (h : Bst p q N a b) (hl : LexAt p q (N + 1) g) (hb : dst p q g (N + 1) * b < dst p q a b * (N + 1)) : Bst p q (N + 1) g (N + 1) := by
  refine ⟨by omega, Int.le_refl _, fun x y h1 h2 => ?_⟩
  by_cases hy : y = N + 1
  · subst hy
    exact lex_mul (by omega) hl
  · refine .inl ?_
    have hle : dst p q a b * y ≤ dst p q x y * b := by
      rcases h.le x y h1 (by omega) with z | ⟨z, _⟩ <;> omega
    have s1 := mul_lt hb (show 0 < y by omega)
    have s2 := mul_le hle (show 0 ≤ N + 1 by omega)
    refine lt_cancel (c := b) ?_ (by have := h.b1; omega)
    have e1 : dst p q g (N + 1) * y * b = dst p q g (N + 1) * b * y := Int.mul_right_comm ..
    have e2 : dst p q a b * (N + 1) * y = dst p q a b * y * (N + 1) := Int.mul_right_comm ..
    have e3 : dst p q x y * (N + 1) * b = dst p q x y * b * (N + 1) := Int.mul_right_comm ..
    omega
theorem Bst.keep {p q N a b : Int} (hq : 0 < q) (hN : 1 ≤ N) (h : Bst p q N a b) (h1 : ¬ dst p q (p * (N + 1) / q) (N + 1) * b < dst p q a b * (N + 1)) (h2 : ¬ dst p q (p * (N + 1) / q + 1) (N + 1) * b < dst p q a b * (N + 1)) : Bst p q (N + 1) a b := by
  have b1 := h.b1
  have bN := h.bN
  refine ⟨b1, by omega, fun x y g1 g2 => ?_⟩
  by_cases hy : y = N + 1
  · subst hy
    have key : dst p q a b * (N + 1) ≤ dst p q x (N + 1) * b := by
      by_cases hd : dst p q (p * (N + 1) / q + 1) (N + 1) < dst p q (p * (N + 1) / q) (N + 1)
      · have : dst p q (p * (N + 1) / q + 1) (N + 1) ≤ dst p q x (N + 1) := by rcases lex_hi hq hd x with z | ⟨z, _⟩ <;> omega
        have := mul_le this (show 0 ≤ b by omega)
        omega
      · have : dst p q (p * (N + 1) / q) (N + 1) ≤ dst p q x (N + 1) := by rcases lex_lo hq hd x with z | ⟨z, _⟩ <;> omega
        have := mul_le this (show 0 ≤ b by omega)
        omega
    omega
  · exact h.le x y g1 (by omega)
/-! ### the row, step by step -/
def stepE (p q y : Int) (E : List (Int × Int × Int)) (x : Int) : List (Int × Int × Int) := match E.getLast? with
  | none => [(y, x, y)]
  | some (n, a, b) => if dst p q x y * b < dst p q a b * y then (if n = y then E.dropLast else E) ++ [(y, x, y)] else E
def rowE (p q : Int) : Nat → List (Int × Int × Int)
  | 0 => []
  | n + 1 => stepE p q ((n : Int) + 1) (stepE p q ((n : Int) + 1) (rowE p q n) (p * ((n : Int) + 1) / q)) (p * ((n : Int) + 1) / q + 1)
theorem step_some {p q y x n a b : Int} {E : List (Int × Int × Int)} (h : E.getLast? = some (n, a, b)) : stepE p q y E x = if dst p q x y * b < dst p q a b * y then (if n = y then E.dropLast else E) ++ [(y, x, y)] else E := by
  unfold stepE; rw [h]
theorem last_app (E : List (Int × Int × Int)) (e : Int × Int × Int) : (E ++ [e]).getLast? = some e := List.getLast?_concat
theorem drop_app (E : List (Int × Int × Int)) (e : Int × Int × Int) : (E ++ [e]).dropLast = E := List.dropLast_concat
theorem row_step {p q N n a b : Int} {E : List (Int × Int × Int)} (hq : 0 < q) (hN : 1 ≤ N) (hl : E.getLast? = some (n, a, b)) (hn : n = b) (h : Bst p q N a b) :
    (stepE p q (N + 1) (stepE p q (N + 1) E (p * (N + 1) / q)) (p * (N + 1) / q + 1) = E ∧ Bst p q (N + 1) a b) ∨
    ∃ g, stepE p q (N + 1) (stepE p q (N + 1) E (p * (N + 1) / q)) (p * (N + 1) / q + 1) = E ++ [(N + 1, g, N + 1)] ∧ Bst p q (N + 1) g (N + 1) := by
  have bN := h.bN
  by_cases c0 : dst p q (p * (N + 1) / q) (N + 1) * b < dst p q a b * (N + 1)
  · have e0 : stepE p q (N + 1) E (p * (N + 1) / q) = E ++ [(N + 1, p * (N + 1) / q, N + 1)] := by
      rw [step_some hl, if_pos c0, if_neg (by omega)]
    rw [e0, step_some (last_app _ _)]
    by_cases c1 : dst p q (p * (N + 1) / q + 1) (N + 1) < dst p q (p * (N + 1) / q) (N + 1)
    · rw [if_pos (mul_lt c1 (by omega)), if_pos rfl, drop_app]
      refine .inr ⟨_, rfl, h.new hN (lex_hi hq c1) ?_⟩
      have := mul_lt c1 (show 0 < b by have := h.b1; omega)
      omega
    · rw [if_neg (fun z => c1 (lt_cancel z (by omega)))]
      exact .inr ⟨_, rfl, h.new hN (lex_lo hq c1) c0⟩
  · have e0 : stepE p q (N + 1) E (p * (N + 1) / q) = E := by rw [step_some hl, if_neg c0]
    rw [e0, step_some hl]
    by_cases c1 : dst p q (p * (N + 1) / q + 1) (N + 1) * b < dst p q a b * (N + 1)
    · rw [if_pos c1, if_neg (by omega)]
      refine .inr ⟨_, rfl, h.new hN (lex_hi hq ?_) c1⟩
      refine lt_cancel (c := b) ?_ (by have := h.b1; omega)
      omega
    · rw [if_neg c1]
      exact .inl ⟨rfl, h.keep hq hN c0 c1⟩
theorem row_one {p q : Int} (hq : 0 < q) : ∃ g, rowE p q 1 = [(1, g, 1)] ∧ Bst p q 1 g 1 := by
  show ∃ g, stepE p q 1 [(1, p * 1 / q, 1)] (p * 1 / q + 1) = [(1, g, 1)] ∧ _
  rw [step_some (E := [(1, p * 1 / q, 1)]) rfl]
  by_cases c1 : dst p q (p * 1 / q + 1) 1 < dst p q (p * 1 / q) 1
  · rw [if_pos (mul_lt c1 (by decide)), if_pos rfl]
    exact ⟨_, rfl, .first (lex_hi hq c1)⟩
  · rw [if_neg (fun z => c1 (lt_cancel z (by decide)))]
    exact ⟨_, rfl, .first (lex_lo hq c1)⟩
theorem row_last {p q : Int} (hq : 0 < q) : ∀ N : Nat, 1 ≤ N → ∃ n a b, (rowE p q N).getLast? = some (n, a, b) ∧ n = b ∧ Bst p q N a b
  | 0, h => by omega
  | 1, _ => by
    obtain ⟨g, h1, h2⟩ := row_one (p := p) hq
    exact ⟨1, g, 1, by rw [h1]; rfl, rfl, h2⟩
  | N + 2, _ => by
    obtain ⟨n, a, b, h1, h2, h3⟩ := row_last hq (N + 1) (by omega)
    show ∃ n a b, (stepE p q (((N + 1 : Nat) : Int) + 1) (stepE p q (((N + 1 : Nat) : Int) + 1) (rowE p q (N + 1)) (p * (((N + 1 : Nat) : Int) + 1) / q)) (p * (((N + 1 : Nat) : Int) + 1) / q + 1)).getLast? = some (n, a, b) ∧ n = b ∧ Bst p q (((N + 1 : Nat) : Int) + 1) a b
    rcases row_step hq (by omega) h1 h2 h3 with ⟨e, k⟩ | ⟨g, e, k⟩
    · rw [e]; exact ⟨n, a, b, h1, h2, k⟩
    · rw [e]; exact ⟨_, g, _, last_app _ _, rfl, k⟩
/-- the next one: it comes in where it is another -/
theorem row_next {p q x y n a b : Int} (hq : 0 < q) {N : Nat} (hN : 1 ≤ N) (hl : (rowE p q N).getLast? = some (n, a, b)) (h : Bst p q ((N : Int) + 1) x y) :
    rowE p q (N + 1) = if a = x ∧ b = y then rowE p q N else rowE p q N ++ [((N : Int) + 1, x, y)] := by
  obtain ⟨n', a', b', h1, h2, h3⟩ := row_last (p := p) hq N hN
  rw [hl] at h1
  obtain ⟨rfl, rfl, rfl⟩ : n = n' ∧ a = a' ∧ b = b' := by cases h1; exact ⟨rfl, rfl, rfl⟩
  show stepE p q ((N : Int) + 1) (stepE p q ((N : Int) + 1) (rowE p q N) (p * ((N : Int) + 1) / q)) (p * ((N : Int) + 1) / q + 1) = _
  rcases row_step hq (by omega) hl h2 h3 with ⟨e, k⟩ | ⟨g, e, k⟩
  · rw [e, if_pos (k.uniq h)]
  · obtain ⟨r1, r2⟩ := k.uniq h
    have := h3.bN
    rw [e, if_neg (by omega), r1, r2]
/-! ### the number itself -/
theorem bst_self {p q N : Int} (hq : 1 ≤ q) (hg : gcdI p q = 1) (hN : q ≤ N) : Bst p q N p q := by
  refine ⟨hq, hN, fun x y h1 h2 => ?_⟩
  have e0 : dst p q p q = 0 := by unfold dst; rw [Int.sub_self]; rfl
  rw [e0, Int.zero_mul]
  have n := dst_nn p q x y
  by_cases hz : dst p q x y = 0
  · refine .inr ⟨by rw [hz, Int.zero_mul], ?_⟩
    have hxy : p * y = x * q := by unfold dst at hz; split at hz <;> omega
    have h1' : Nat.gcd p.natAbs q.natAbs = 1 := by
      have h1 : ((Int.gcd p q : Nat) : Int) = 1 := hg
      have : Int.gcd p q = 1 := by omega
      exact this
    have d : q ∣ y := Int.natAbs_dvd_natAbs.mp (Nat.Coprime.dvd_of_dvd_mul_left (m := p.natAbs) (by rw [Nat.Coprime, Nat.gcd_comm]; exact h1') ⟨x.natAbs, by rw [← Int.natAbs_mul, hxy, Int.natAbs_mul, Nat.mul_comm]⟩)
    have := Int.le_of_dvd (by omega) d
    by_cases hy : q = y
    · subst hy
      refine .inr ⟨rfl, ?_⟩
      have := Int.eq_of_mul_eq_mul_right (show q ≠ 0 by omega) hxy
      omega
    · exact .inl (by omega)
  · refine .inl ?_
    exact Int.mul_pos (by omega) (by omega)
theorem row_end {p q : Int} (hq : 1 ≤ q) (hg : gcdI p q = 1) (Q : Nat) (hQ : q = Q) : ∀ k : Nat, rowE p q (Q + k) = rowE p q Q
  | 0 => rfl
  | k + 1 => by
    obtain ⟨n, a, b, h1, h2, h3⟩ := row_last (p := p) (show 0 < q by omega) (Q + k) (by omega)
    obtain ⟨rfl, rfl⟩ := h3.uniq (bst_self hq hg (by omega))
    show rowE a b (Q + k + 1) = _
    rw [row_next (by omega) (by omega) h1 (bst_self hq hg (by omega)), if_pos ⟨rfl, rfl⟩, row_end hq hg Q hQ k]
end Tq

set_option maxRecDepth 100000
set_option maxHeartbeats 4000000
namespace Tq
open PySem PySem.Spec PyProof.Rows L2
/-! ### the nearer one of the two neighbours is the nearest of all -/
theorem side_low {p q a b c d x y : Int} (h1 : c * b - a * d = 1) : y = b * (c * y - x * d) + d * (x * b - a * y) ∧ x = a * (c * y - x * d) + c * (x * b - a * y) := by
  have e1 : b * (c * y - x * d) + d * (x * b - a * y) = y * (c * b - a * d) := by
    simp only [Int.mul_sub, Int.mul_assoc, Int.mul_comm, Int.mul_left_comm]; omega
  have e2 : a * (c * y - x * d) + c * (x * b - a * y) = x * (c * b - a * d) := by
    simp only [Int.mul_sub, Int.mul_assoc, Int.mul_comm, Int.mul_left_comm]; omega
  rw [e1, e2, h1]; omega
theorem key_id (t s L R b d : Int) : (t * L - s * R) * b - L * (b * t + d * s) = -s * (b * R + d * L) := by
  have e1 : (t * L - s * R) * b = t * L * b - s * R * b := Int.sub_mul ..
  have e2 : L * (b * t + d * s) = t * L * b + s * (d * L) := by
    rw [Int.mul_add, ← Int.mul_assoc, Int.mul_comm L b, Int.mul_comm (b * L) t, ← Int.mul_assoc, Int.mul_comm (t * b) L, Int.mul_comm L (d * s), Int.mul_comm d s, Int.mul_assoc s d L]
    congr 1
    rw [Int.mul_comm L, Int.mul_assoc, Int.mul_assoc, Int.mul_comm b L]
  have e3 : -s * (b * R + d * L) = -(s * R * b) - s * (d * L) := by
    rw [Int.neg_mul, Int.mul_add, Int.mul_comm b R, ← Int.mul_assoc]; omega
  omega
/-- a fraction below: it is no nearer than the low one -/
theorem low_side {p q N a b c d x y : Int} (h : NB p q N a b c d) (hy : 1 ≤ y) (hN : y ≤ N) (hs : x * b - a * y ≤ 0) :
    (p * b - a * q) * y ≤ dst p q x y * b ∧ ((p * b - a * q) * y = dst p q x y * b → b < y ∨ (b = y ∧ a = x)) := by
  obtain ⟨ey, ex⟩ := side_low (p := p) (q := q) (x := x) (y := y) h.one
  have hb := h.b1
  have hd := h.d1
  have hL := h.lo
  have hR := h.hi
  have hq := nb_q (p := p) (q := q) h.one
  generalize hS : x * b - a * y = s at *
  generalize hT : c * y - x * d = t at *
  have ds : d * s ≤ 0 := by
    have := Int.mul_nonneg (show 0 ≤ d by omega) (show 0 ≤ -s by omega)
    rw [Int.mul_neg] at this; omega
  have t1 : 1 ≤ t := by
    rcases Int.lt_or_le 0 t with z | z
    · omega
    · have := Int.mul_nonneg (show 0 ≤ b by omega) (show 0 ≤ -t by omega)
      rw [Int.mul_neg] at this; omega
  have e3 : p * y - x * q = t * (p * b - a * q) - s * (c * q - p * d) := by
    rw [← hS, ← hT]
    have o := h.one
    have : (p * y - x * q) * (c * b - a * d) = (c * y - x * d) * (p * b - a * q) - (x * b - a * y) * (c * q - p * d) := by
      simp only [Int.mul_sub, Int.sub_mul, Int.mul_assoc, Int.mul_comm, Int.mul_left_comm]; omega
    rw [o, Int.mul_one] at this
    exact this
  have tL := Int.mul_pos (show 0 < t by omega) hL
  have sR : s * (c * q - p * d) ≤ 0 := by
    have := Int.mul_nonneg (show 0 ≤ -s by omega) (show 0 ≤ c * q - p * d by omega)
    rw [Int.neg_mul] at this; omega
  have ed : dst p q x y = t * (p * b - a * q) - s * (c * q - p * d) := by
    unfold dst; rw [if_neg (by omega), e3]
  have q1 : 0 < q := by
    have := Int.mul_pos (show 0 < b by omega) hR
    have := Int.mul_pos (show 0 < d by omega) hL
    omega
  have key : dst p q x y * b - (p * b - a * q) * y = -s * q := by
    have k := key_id t s (p * b - a * q) (c * q - p * d) b d
    rw [← ey, ← hq] at k
    rw [ed]
    exact k
  have nn := Int.mul_nonneg (show 0 ≤ -s by omega) (show 0 ≤ q by omega)
  refine ⟨by omega, fun heq => ?_⟩
  have hs0 : -s * q = 0 := by omega
  have s0 : s = 0 := by
    rcases Int.mul_eq_zero.mp hs0 with z | z <;> omega
  subst s0
  rw [Int.mul_zero, Int.add_zero] at ey ex
  by_cases ht : t = 1
  · subst ht
    rw [Int.mul_one] at ey ex
    exact .inr ⟨ey.symm, ex.symm⟩
  · have := Int.mul_le_mul_of_nonneg_left (show 2 ≤ t by omega) (show 0 ≤ b by omega)
    exact .inl (by omega)
theorem dst_neg (p q x y : Int) : dst (-p) q (-x) y = dst p q x y := by
  unfold dst
  have e : -p * y - -x * q = -(p * y - x * q) := by rw [Int.neg_mul, Int.neg_mul]; omega
  rw [e]
  split <;> split <;> omega
theorem high_side {p q N a b c d x y : Int} (h : NB p q N a b c d) (hy : 1 ≤ y) (hN : y ≤ N) (hs : 0 ≤ x * d - c * y) :
    (c * q - p * d) * y ≤ dst p q x y * d ∧ ((c * q - p * d) * y = dst p q x y * d → d < y ∨ (d = y ∧ c = x)) := by
  have k := low_side (x := -x) h.flip hy hN (by rw [Int.neg_mul, Int.neg_mul]; omega)
  rw [dst_neg] at k
  have e : -p * d - -c * q = c * q - p * d := by rw [Int.neg_mul, Int.neg_mul]; omega
  rw [e] at k
  refine ⟨k.1, fun z => ?_⟩
  rcases k.2 z with z | ⟨z, z2⟩
  · exact .inl z
  · exact .inr ⟨z, by omega⟩
theorem two_sides {p q N a b c d x y : Int} (h : NB p q N a b c d) (hy : 1 ≤ y) (hN : y ≤ N) : x * b - a * y ≤ 0 ∨ 0 ≤ x * d - c * y := by
  obtain ⟨ey, _⟩ := side_low (p := p) (q := q) (x := x) (y := y) h.one
  have hb := h.b1
  have hd := h.d1
  have ov := h.ov
  by_cases h1 : x * b - a * y ≤ 0
  · exact .inl h1
  · refine .inr ?_
    have e : x * d - c * y = -(c * y - x * d) := by omega
    rw [e]
    generalize x * b - a * y = s at *
    generalize c * y - x * d = t at *
    rcases Int.lt_or_le 0 t with z | z
    · have m1 := Int.mul_le_mul_of_nonneg_left (show 1 ≤ t by omega) (show 0 ≤ b by omega)
      have m2 := Int.mul_le_mul_of_nonneg_left (show 1 ≤ s by omega) (show 0 ≤ d by omega)
      omega
    · omega
theorem dst_low {p q N a b c d : Int} (h : NB p q N a b c d) : dst p q a b = p * b - a * q ∧ dst p q c d = c * q - p * d := by
  have := h.lo
  have := h.hi
  unfold dst
  rw [if_neg (by omega), if_pos (by omega)]
  omega
/-- a chosen side holds against the other one -/
theorem side_wins {L R b d D y : Int} (hb : 1 ≤ b) (hd : 1 ≤ d) (hy : 1 ≤ y) (h : R * y ≤ D * d) (hlt : L * d < R * b) : L * y < D * b := by
  refine lt_cancel (c := d) ?_ (by omega)
  have s1 := mul_lt hlt (show 0 < y by omega)
  have s2 := mul_le h (show 0 ≤ b by omega)
  have e1 : L * y * d = L * d * y := Int.mul_right_comm ..
  have e2 : R * b * y = R * y * b := Int.mul_right_comm ..
  have e3 : D * b * d = D * d * b := Int.mul_right_comm ..
  omega
theorem side_ties {L R b d D y : Int} (hb : 1 ≤ b) (hd : 1 ≤ d) (h : R * y ≤ D * d) (he : L * d = R * b) : L * y ≤ D * b ∧ (L * y = D * b → R * y = D * d) := by
  have s2 := mul_le h (show 0 ≤ b by omega)
  have e1 : L * y * d = L * d * y := Int.mul_right_comm ..
  have e2 : R * b * y = R * y * b := Int.mul_right_comm ..
  have e3 : D * b * d = D * d * b := Int.mul_right_comm ..
  rw [he] at e1
  constructor
  · by_cases z : L * y ≤ D * b
    · exact z
    · have := mul_lt (show D * b < L * y by omega) (show 0 < d by omega)
      omega
  · intro z
    rw [z] at e1
    refine Int.eq_of_mul_eq_mul_right (show b ≠ 0 by omega) ?_
    omega
theorem near_bst {p q N a b c d : Int} (f : FN p q N) (h : NR p q N (.tuple [fr a b, fr c d])) : ∃ x y, nearF p q a b c d = fr x y ∧ Bst p q N x y := by
  rcases h with ⟨h1, e⟩ | ⟨h1, a', b', c', d', n, e⟩
  · cases e
    refine ⟨p, q, ?_, bst_self f.q1 f.g h1⟩
    unfold nearF
    rw [if_pos (by rw [Int.sub_self]), if_pos (Int.le_refl _)]
  · cases e
    have hb := n.b1
    have hd := n.d1
    obtain ⟨dl, dh⟩ := dst_low n
    have lowB : ((p * b - a * q) * d < (c * q - p * d) * b ∨ ((p * b - a * q) * d = (c * q - p * d) * b ∧ b ≤ d)) → Bst p q N a b := fun hw => by
      refine ⟨hb, n.bN, fun x y g1 g2 => ?_⟩
      rw [dl]
      rcases two_sides (x := x) n g1 g2 with z | z
      · obtain ⟨k1, k2⟩ := low_side n g1 g2 z
        by_cases he : (p * b - a * q) * y = dst p q x y * b
        · exact .inr ⟨he, (k2 he).imp id fun ⟨u, v⟩ => ⟨u, by omega⟩⟩
        · exact .inl (by omega)
      · obtain ⟨k1, k2⟩ := high_side n g1 g2 z
        rcases hw with hw | ⟨hw, hbd⟩
        · exact .inl (side_wins hb hd g1 k1 hw)
        · obtain ⟨t1, t2⟩ := side_ties hb hd k1 hw
          by_cases he : (p * b - a * q) * y = dst p q x y * b
          · refine .inr ⟨he, ?_⟩
            rcases k2 (t2 he) with u | ⟨u, v⟩
            · exact .inl (by omega)
            · by_cases hy : b = y
              · refine .inr ⟨hy, ?_⟩
                have o := n.one
                subst hy u v
                have : (c - a) * d = 1 := by rw [Int.sub_mul]; exact o
                rcases Int.lt_or_le a c with w | w
                · omega
                · have := Int.mul_nonneg (show 0 ≤ a - c by omega) (show 0 ≤ d by omega)
                  rw [Int.sub_mul] at this
                  omega
              · exact .inl (by omega)
          · exact .inl (by omega)
    have highB : ((c * q - p * d) * b < (p * b - a * q) * d ∨ ((p * b - a * q) * d = (c * q - p * d) * b ∧ d < b)) → Bst p q N c d := fun hw => by
      refine ⟨hd, n.dN, fun x y g1 g2 => ?_⟩
      rw [dh]
      rcases two_sides (x := x) n g1 g2 with z | z
      · obtain ⟨k1, k2⟩ := low_side n g1 g2 z
        rcases hw with hw | ⟨hw, hbd⟩
        · exact .inl (side_wins hd hb g1 k1 hw)
        · obtain ⟨t1, t2⟩ := side_ties hd hb k1 hw.symm
          by_cases he : (c * q - p * d) * y = dst p q x y * d
          · refine .inr ⟨he, ?_⟩
            rcases k2 (t2 he) with u | ⟨u, v⟩ <;> exact .inl (by omega)
          · exact .inl (by omega)
      · obtain ⟨k1, k2⟩ := high_side n g1 g2 z
        by_cases he : (c * q - p * d) * y = dst p q x y * d
        · exact .inr ⟨he, (k2 he).imp id fun ⟨u, v⟩ => ⟨u, by omega⟩⟩
        · exact .inl (by omega)
    unfold nearF
    by_cases c0 : (p * b - a * q) * d = (c * q - p * d) * b
    · rw [if_pos c0]
      by_cases c1 : b ≤ d
      · rw [if_pos c1]; exact ⟨a, b, rfl, lowB (.inr ⟨c0, c1⟩)⟩
      · rw [if_neg c1]; exact ⟨c, d, rfl, highB (.inr ⟨c0, by omega⟩)⟩
    · rw [if_neg c0]
      by_cases c1 : (p * b - a * q) * d < (c * q - p * d) * b
      · rw [if_pos c1]; exact ⟨a, b, rfl, lowB (.inl c1)⟩
      · rw [if_neg c1]; exact ⟨c, d, rfl, highB (.inl (by omega))⟩
end Tq

set_option maxRecDepth 100000
set_option maxHeartbeats 4000000
namespace Tq
open PySem PySem.Spec PyProof.Rows L2
/-! the fraction of the least bottom in a range -/
abbrev Bn := Option (Int × Int)
def loOk (L : Bn) (li : Bool) (x y : Int) : Prop := match L with | none => True | some (a, b) => a * y < x * b ∨ (li = true ∧ a * y = x * b)
def hiOk (H : Bn) (hi : Bool) (x y : Int) : Prop := match H with | none => True | some (c, d) => x * d < c * y ∨ (hi = true ∧ x * d = c * y)
def inR (L : Bn) (li : Bool) (H : Bn) (hi : Bool) (x y : Int) : Prop := loOk L li x y ∧ hiOk H hi x y
def BdOk (F : Bn) : Prop := ∀ a b, F = some (a, b) → 1 ≤ b ∧ gcdI a b = 1
def RgOk (L : Bn) (li : Bool) (H : Bn) (hi : Bool) : Prop := BdOk L ∧ BdOk H ∧ ∀ a b c d, L = some (a, b) → H = some (c, d) → a * d < c * b ∨ (a * d = c * b ∧ li = true ∧ hi = true)
def lwD (L : Bn) (li : Bool) : Option Int := match L with | none => none | some (a, b) => some (if b = 1 ∧ li = true then a / b else a / b + 1)
def gwD (H : Bn) (hi : Bool) : Option Int := match H with | none => none | some (c, d) => some (if d = 1 ∧ hi = true then 0 - (0 - c) / d else 0 - (0 - c) / d - 1)
def whD (f l : Option Int) : Option Int := match f, l with
  | none, none => some 0
  | some f, none => some (if 0 < f then f else 0)
  | none, some l => some (if l < 0 then l else 0)
  | some f, some l => if l < f then none else some (if 0 < f then f else if l < 0 then l else 0)
/-- a whole number above a bound -/
theorem lw_ok {L : Bn} {li : Bool} (h : BdOk L) (n : Int) : loOk L li n 1 ↔ ∀ f, lwD L li = some f → f ≤ n := by
  match L with
  | none => exact ⟨fun _ f e => (by cases e), fun _ => trivial⟩
  | some (a, b) =>
    obtain ⟨hb, hg⟩ := h a b rfl
    have h1 := Int.mul_ediv_add_emod a b
    have h2 := Int.emod_nonneg a (show b ≠ 0 by omega)
    have h3 := Int.emod_lt_of_pos a (show 0 < b by omega)
    have e1 : loOk (some (a, b)) li n 1 ↔ (a < n * b ∨ (li = true ∧ a = n * b)) := by show (a * 1 < n * b ∨ (li = true ∧ a * 1 = n * b)) ↔ _; rw [Int.mul_one]
    rw [e1]
    have e2 : (∀ f, lwD (some (a, b)) li = some f → f ≤ n) ↔ (if b = 1 ∧ li = true then a / b else a / b + 1) ≤ n := ⟨fun h => h _ rfl, fun h f e => by rw [← Option.some.inj e]; exact h⟩
    rw [e2]
    have k1 : a < n * b ↔ a / b < n := by rw [Int.ediv_lt_iff_lt_mul (by omega)]
    split
    · rename_i c
      obtain ⟨rfl, hl⟩ := c
      rw [Int.ediv_one, Int.mul_one]
      constructor
      · rintro (h | ⟨_, h⟩) <;> omega
      · intro h
        by_cases q : a = n
        · exact .inr ⟨hl, q⟩
        · exact .inl (by omega)
    · rename_i c
      constructor
      · rintro (h | ⟨hl, h⟩)
        · have := k1.mp h; omega
        · have : b = 1 := gcd_dvd1 (u := n) (v := 1) hg h (Int.one_mul _).symm (by omega)
          exact absurd ⟨this, hl⟩ c
      · intro h
        exact .inl (k1.mpr (by omega))
theorem neg_flip (H : Bn) (hi : Bool) (x y : Int) : hiOk H hi x y ↔ loOk (H.map fun p => (-p.1, p.2)) hi (-x) y := by
  match H with
  | none => exact Iff.rfl
  | some (c, d) =>
    show (x * d < c * y ∨ (hi = true ∧ x * d = c * y)) ↔ (-c * y < -x * d ∨ (hi = true ∧ -c * y = -x * d))
    rw [Int.neg_mul, Int.neg_mul]
    constructor
    · rintro (h | ⟨h1, h⟩)
      · exact .inl (by omega)
      · exact .inr ⟨h1, by omega⟩
    · rintro (h | ⟨h1, h⟩)
      · exact .inl (by omega)
      · exact .inr ⟨h1, by omega⟩
theorem BdOk.neg {H : Bn} (h : BdOk H) : BdOk (H.map fun p => (-p.1, p.2)) := by
  intro a b e
  match H with
  | none => cases e
  | some (c, d) =>
    cases e
    obtain ⟨h1, h2⟩ := h c d rfl
    refine ⟨h1, ?_⟩
    unfold gcdI at *
    rw [Int.natAbs_neg]
    exact h2
theorem gw_ok {H : Bn} {hi : Bool} (h : BdOk H) (n : Int) : hiOk H hi n 1 ↔ ∀ f, gwD H hi = some f → n ≤ f := by
  rw [neg_flip, lw_ok h.neg]
  match H with
  | none => exact ⟨fun _ f e => (by cases e), fun _ f e => by cases e⟩
  | some (c, d) =>
    have e0 : (0 : Int) - c = -c := by omega
    have e1 : lwD (some (-c, d)) hi = some (if d = 1 ∧ hi = true then -c / d else -c / d + 1) := rfl
    have e2 : gwD (some (c, d)) hi = some (if d = 1 ∧ hi = true then 0 - (-c) / d else 0 - (-c) / d - 1) := by rw [← e0]; rfl
    show (∀ f, lwD (some (-c, d)) hi = some f → f ≤ -n) ↔ _
    rw [e1, e2]
    constructor
    · intro h f e
      have := h _ rfl
      rw [← Option.some.inj e]
      split <;> (rename_i q; first | rw [if_pos q] at this | rw [if_neg q] at this) <;> omega
    · intro h f e
      have := h _ rfl
      rw [← Option.some.inj e]
      split <;> (rename_i q; first | rw [if_pos q] at this | rw [if_neg q] at this) <;> omega
/-- nearest to nought -/
def nearO (L : Bn) (li : Bool) (H : Bn) (hi : Bool) (n : Int) : Prop := n = 0 ∨ (0 < n ∧ ∀ m, 0 ≤ m → m < n → ¬ inR L li H hi m 1) ∨ (n < 0 ∧ ∀ m, m ≤ 0 → n < m → ¬ inR L li H hi m 1)
theorem wh_some {L : Bn} {li : Bool} {H : Bn} {hi : Bool} (h1 : BdOk L) (h2 : BdOk H) {n : Int} (h : whD (lwD L li) (gwD H hi) = some n) : inR L li H hi n 1 ∧ nearO L li H hi n := by
  have a1 := fun m => lw_ok (li := li) h1 m
  have a2 := fun m => gw_ok (hi := hi) h2 m
  unfold inR nearO inR
  simp only [a1, a2]
  generalize lwD L li = f at *
  generalize gwD H hi = l at *
  match f, l with
  | none, none =>
    cases h
    exact ⟨⟨fun _ e => (by cases e), fun _ e => (by cases e)⟩, .inl rfl⟩
  | some f, none =>
    cases h
    refine ⟨⟨fun _ e => by cases e; split <;> omega, fun _ e => by cases e⟩, ?_⟩
    by_cases q : 0 < f
    · rw [if_pos q]
      exact .inr (.inl ⟨q, fun m m0 m1 h => by have := h.1 f rfl; omega⟩)
    · rw [if_neg q]; exact .inl rfl
  | none, some l =>
    cases h
    refine ⟨⟨fun _ e => (by cases e), fun _ e => by cases e; split <;> omega⟩, ?_⟩
    by_cases q : l < 0
    · rw [if_pos q]
      exact .inr (.inr ⟨q, fun m m0 m1 h => by have := h.2 l rfl; omega⟩)
    · rw [if_neg q]; exact .inl rfl
  | some f, some l =>
    unfold whD at h
    dsimp only at h
    by_cases z : l < f
    · rw [if_pos z] at h; cases h
    · rw [if_neg z] at h
      cases h
      refine ⟨⟨fun _ e => by cases e; repeat' split
                             all_goals omega, fun _ e => by cases e; repeat' split
                                                            all_goals omega⟩, ?_⟩
      by_cases q : 0 < f
      · rw [if_pos q]
        exact .inr (.inl ⟨q, fun m m0 m1 h => by have := h.1 f rfl; omega⟩)
      · rw [if_neg q]
        by_cases q' : l < 0
        · rw [if_pos q']
          exact .inr (.inr ⟨q', fun m m0 m1 h => by have := h.2 l rfl; omega⟩)
        · rw [if_neg q']; exact .inl rfl
theorem wh_none {L : Bn} {li : Bool} {H : Bn} {hi : Bool} (h1 : BdOk L) (h2 : BdOk H) (h : whD (lwD L li) (gwD H hi) = none) : (∀ n, ¬ inR L li H hi n 1) ∧ ∃ a b c d, L = some (a, b) ∧ H = some (c, d) := by
  have a1 := fun m => lw_ok (li := li) h1 m
  have a2 := fun m => gw_ok (hi := hi) h2 m
  match L, H with
  | none, none => cases h
  | some (a, b), none => cases h
  | none, some (c, d) => cases h
  | some (a, b), some (c, d) =>
    refine ⟨fun n ⟨q1, q2⟩ => ?_, a, b, c, d, rfl, rfl⟩
    obtain ⟨f, ef⟩ : ∃ f, lwD (some (a, b)) li = some f := ⟨_, rfl⟩
    obtain ⟨l, el⟩ : ∃ l, gwD (some (c, d)) hi = some l := ⟨_, rfl⟩
    have q1 := (a1 n).mp q1 _ ef
    have q2 := (a2 n).mp q2 _ el
    rw [ef, el] at h
    unfold whD at h
    dsimp only at h
    by_cases z : l < f
    · omega
    · rw [if_neg z] at h; cases h

/-- one over what a bound is above a whole number -/
def overR (f : Int × Int) (w : Int) : Bn := if f.1 - w * f.2 = 0 then none else some (f.2, f.1 - w * f.2)
structure BStep (a b : Int) (li : Bool) (c d : Int) (hi : Bool) (w : Int) : Prop where
  h1 : 1 ≤ c - w * d
  h2 : c - w * d ≤ d
  l1 : 0 ≤ a - w * b
  l2 : a - w * b < b
  ok : RgOk (overR (c, d) w) hi (overR (a, b) w) li
  there : ∀ x y : Int, 1 ≤ y → inR (some (a, b)) li (some (c, d)) hi x y → 1 ≤ x - w * y ∧ x - w * y < y ∧ inR (overR (c, d) w) hi (overR (a, b) w) li y (x - w * y)
  back : ∀ p q : Int, 1 ≤ p → 1 ≤ q → inR (overR (c, d) w) hi (overR (a, b) w) li p q → inR (some (a, b)) li (some (c, d)) hi (w * p + q) p
theorem gcd_swap (a b w : Int) : gcdI b (a - w * b) = gcdI a b := by
  have e : (a - w * b) % b = a % b := by rw [show a - w * b = a + b * (-w) by grind]; exact Int.add_mul_emod_self_left ..
  have cm : gcdI b (a - w * b) = gcdI (a - w * b) b := by unfold gcdI; rw [Nat.gcd_comm]
  rw [cm, ← gcd_turnZ (p := a) (q := b), ← gcd_turnZ (p := a - w * b) (q := b), e]
theorem b_step {a b : Int} {li : Bool} {c d : Int} {hi : Bool} (ok : RgOk (some (a, b)) li (some (c, d)) hi) (no : ∀ n, ¬ inR (some (a, b)) li (some (c, d)) hi n 1) : BStep a b li c d hi (a / b) := by
  obtain ⟨o1, o2, o3⟩ := ok
  obtain ⟨hb, ga⟩ := o1 a b rfl
  obtain ⟨hd, gc⟩ := o2 c d rfl
  have o3 := o3 a b c d rfl rfl
  have g1 := Int.mul_ediv_add_emod a b
  have g2 := Int.emod_nonneg a (show b ≠ 0 by omega)
  have g3 := Int.emod_lt_of_pos a (show 0 < b by omega)
  generalize hw : a / b = w at *
  rw [Int.mul_comm] at g1
  have l1 : 0 ≤ a - w * b := by omega
  have l2 : a - w * b < b := by omega
  have lo : ∀ x y, loOk (some (a, b)) li x y ↔ (a * y < x * b ∨ (li = true ∧ a * y = x * b)) := fun x y => Iff.rfl
  have hh : ∀ x y, hiOk (some (c, d)) hi x y ↔ (x * d < c * y ∨ (hi = true ∧ x * d = c * y)) := fun x y => Iff.rfl
  have nw : ¬ ((a * 1 < w * b ∨ (li = true ∧ a * 1 = w * b)) ∧ (w * d < c * 1 ∨ (hi = true ∧ w * d = c * 1))) := no w
  have nw1 : ¬ ((a * 1 < (w + 1) * b ∨ (li = true ∧ a * 1 = (w + 1) * b)) ∧ ((w + 1) * d < c * 1 ∨ (hi = true ∧ (w + 1) * d = c * 1))) := no (w + 1)
  rw [Int.mul_one, Int.mul_one] at nw nw1
  have ew1 : (w + 1) * b = w * b + b := by rw [Int.add_mul, Int.one_mul]
  have ew2 : (w + 1) * d = w * d + d := by rw [Int.add_mul, Int.one_mul]
  rw [ew1, ew2] at nw1
  -- the greater end is above the whole number
  have cw : 0 ≤ (c - w * d) * b - (a - w * b) * d ∧ ((c - w * d) * b - (a - w * b) * d = 0 → li = true ∧ hi = true) := by
    have e : (c - w * d) * b - (a - w * b) * d = c * b - a * d := by grind
    rw [e]
    rcases o3 with h | ⟨h, h'⟩
    · exact ⟨by omega, fun z => by omega⟩
    · exact ⟨by omega, fun _ => h'⟩
  have h1 : 1 ≤ c - w * d := by
    have m1 : 0 ≤ (a - w * b) * d := Int.mul_nonneg l1 (by omega)
    by_cases q : c - w * d ≤ 0
    · exfalso
      have m2 : (c - w * d) * b ≤ 0 := Int.mul_nonpos_of_nonpos_of_nonneg q (by omega)
      obtain ⟨z1, z2⟩ := cw.2 (by omega)
      have z3 : (a - w * b) * d = 0 := by omega
      have z4 : a - w * b = 0 := by
        rcases Int.mul_eq_zero.mp z3 with h | h <;> omega
      have z5 : (c - w * d) * b = 0 := by omega
      have z6 : c - w * d = 0 := by
        rcases Int.mul_eq_zero.mp z5 with h | h <;> omega
      exact nw ⟨.inr ⟨z1, by omega⟩, .inr ⟨z2, by omega⟩⟩
    · omega
  have h2 : c - w * d ≤ d := by
    by_cases q : c - w * d ≤ d
    · exact q
    · exact absurd ⟨.inl (by omega), .inl (by omega)⟩ nw1
  have eo : overR (c, d) w = some (d, c - w * d) := if_neg (by show ¬ c - w * d = 0; omega)
  have eo2 : a - w * b ≠ 0 → overR (a, b) w = some (b, a - w * b) := fun h => if_neg h
  refine ⟨h1, h2, l1, l2, ⟨?_, ?_, ?_⟩, ?_, ?_⟩
  · intro x y e
    rw [eo] at e
    cases e
    exact ⟨h1, by rw [gcd_swap]; exact gc⟩
  · intro x y e
    by_cases q : a - w * b = 0
    · rw [show overR (a, b) w = none from if_pos q] at e; cases e
    · rw [eo2 q] at e
      cases e
      exact ⟨by omega, by rw [gcd_swap]; exact ga⟩
  · intro x y u v e1 e2
    rw [eo] at e1
    cases e1
    by_cases q : a - w * b = 0
    · rw [show overR (a, b) w = none from if_pos q] at e2; cases e2
    · rw [eo2 q] at e2
      cases e2
      by_cases z : (c - w * d) * b - (a - w * b) * d = 0
      · obtain ⟨z1, z2⟩ := cw.2 z
        exact .inr ⟨by rw [Int.mul_comm d, Int.mul_comm b]; omega, z2, z1⟩
      · exact .inl (by rw [Int.mul_comm d, Int.mul_comm b]; omega)
  · intro x y hy ⟨r1, r2⟩
    rw [lo] at r1
    rw [hh] at r2
    have wy : w * b * y = w * y * b := by grind
    have wd : w * d * y = w * y * d := by grind
    have A1 : (a - w * b) * y ≥ 0 := Int.mul_nonneg l1 (by omega)
    have A2 : (a - w * b) * y = a * y - w * y * b := by grind
    have X1 : (x - w * y) * b = x * b - w * y * b := by grind
    have X2 : (x - w * y) * d = x * d - w * y * d := by grind
    have C1 : (c - w * d) * y = c * y - w * y * d := by grind
    have p1 : 1 ≤ x - w * y := by
      by_cases q : x - w * y ≤ 0
      · exfalso
        have m2 : (x - w * y) * b ≤ 0 := Int.mul_nonpos_of_nonpos_of_nonneg q (by omega)
        rcases r1 with r1 | ⟨r0, r1⟩
        · omega
        · have z4 : (a - w * b) * y = 0 := by omega
          have z5 : a - w * b = 0 := by rcases Int.mul_eq_zero.mp z4 with h | h <;> omega
          exact nw ⟨.inr ⟨r0, by omega⟩, .inl (by omega)⟩
      · omega
    have p2 : x - w * y < y := by
      by_cases q : x - w * y < y
      · exact q
      · exfalso
        have m2 : y * d ≤ (x - w * y) * d := Int.mul_le_mul_of_nonneg_right (by omega) (by omega)
        have m3 : (c - w * d) * y ≤ d * y := Int.mul_le_mul_of_nonneg_right h2 (by omega)
        rw [Int.mul_comm d y] at m3
        rcases r2 with r2 | ⟨r0, r2⟩
        · omega
        · have z4 : (d - (c - w * d)) * y = 0 := by rw [Int.sub_mul, Int.mul_comm d y]; omega
          have z5 : c - w * d = d := by rcases Int.mul_eq_zero.mp z4 with h | h <;> omega
          exact nw1 ⟨.inl (by omega), .inr ⟨r0, by omega⟩⟩
    refine ⟨p1, p2, ?_, ?_⟩
    · rw [eo]
      show d * (x - w * y) < y * (c - w * d) ∨ (hi = true ∧ d * (x - w * y) = y * (c - w * d))
      rw [Int.mul_comm d, Int.mul_comm y]
      rcases r2 with r2 | ⟨r0, r2⟩
      · exact .inl (by omega)
      · exact .inr ⟨r0, by omega⟩
    · by_cases q : a - w * b = 0
      · rw [show overR (a, b) w = none from if_pos q]; trivial
      · rw [eo2 q]
        show y * (a - w * b) < b * (x - w * y) ∨ (li = true ∧ y * (a - w * b) = b * (x - w * y))
        rw [Int.mul_comm y, Int.mul_comm b]
        rcases r1 with r1 | ⟨r0, r1⟩
        · exact .inl (by omega)
        · exact .inr ⟨r0, by omega⟩
  · intro p q hp hq ⟨r1, r2⟩
    rw [eo] at r1
    have r1 : d * q < p * (c - w * d) ∨ (hi = true ∧ d * q = p * (c - w * d)) := r1
    have E1 : p * (c - w * d) = c * p - w * p * d := by grind
    have E2 : (w * p + q) * d = w * p * d + d * q := by grind
    have E3 : (w * p + q) * b = w * p * b + b * q := by grind
    have E4 : p * (a - w * b) = a * p - w * p * b := by grind
    refine ⟨(lo _ _).mpr ?_, (hh _ _).mpr ?_⟩
    · by_cases z : a - w * b = 0
      · have z2 : p * (a - w * b) = 0 := by rw [z, Int.mul_zero]
        have z3 : 0 < b * q := Int.mul_pos (by omega) (by omega)
        exact .inl (by omega)
      · rw [eo2 z] at r2
        have r2 : p * (a - w * b) < b * q ∨ (li = true ∧ p * (a - w * b) = b * q) := r2
        rcases r2 with r2 | ⟨r0, r2⟩
        · exact .inl (by omega)
        · exact .inr ⟨r0, by omega⟩
    · rcases r1 with r1 | ⟨r0, r1⟩
      · exact .inl (by omega)
      · exact .inr ⟨r0, by omega⟩

/-- the fraction of the least bottom, of ranges above 1, of any range -/
def GoodP (L : Bn) (li : Bool) (H : Bn) (hi : Bool) (p q : Int) : Prop := 1 ≤ q ∧ q ≤ p ∧ gcdI p q = 1 ∧ inR L li H hi p q ∧ ∀ x y : Int, 1 ≤ y → inR L li H hi x y → p ≤ x ∧ q ≤ y
def Good (L : Bn) (li : Bool) (H : Bn) (hi : Bool) (p q : Int) : Prop := 1 ≤ q ∧ gcdI p q = 1 ∧ inR L li H hi p q ∧ (∀ x y : Int, 1 ≤ y → inR L li H hi x y → q ≤ y) ∧ (q = 1 → nearO L li H hi p)
theorem gcd_o (n : Int) : gcdI n 1 = 1 := by show ((Nat.gcd n.natAbs 1 : Nat) : Int) = 1; rw [Nat.gcd_one_right]; rfl
theorem good_int {L : Bn} {li : Bool} {H : Bn} {hi : Bool} (h1 : BdOk L) (h2 : BdOk H) {n : Int} (h : whD (lwD L li) (gwD H hi) = some n) : Good L li H hi n 1 := by
  obtain ⟨a1, a2⟩ := wh_some h1 h2 h
  exact ⟨by decide, gcd_o n, a1, fun x y hy _ => hy, fun _ => a2⟩
theorem goodP_int {a b : Int} {li : Bool} {H : Bn} {hi : Bool} (h1 : BdOk (some (a, b))) (h2 : BdOk H) (hab : b ≤ a) {n : Int} (h : whD (lwD (some (a, b)) li) (gwD H hi) = some n) : GoodP (some (a, b)) li H hi n 1 := by
  obtain ⟨a1, a2⟩ := wh_some h1 h2 h
  obtain ⟨hb, _⟩ := h1 a b rfl
  have lo : ∀ x y, loOk (some (a, b)) li x y ↔ (a * y < x * b ∨ (li = true ∧ a * y = x * b)) := fun x y => Iff.rfl
  have n1 : 1 ≤ n := by
    have := (lo _ _).mp a1.1
    have : a * 1 ≤ n * b := by rcases this with h | ⟨_, h⟩ <;> omega
    by_cases q : 1 ≤ n
    · exact q
    · have : n * b ≤ 0 := Int.mul_nonpos_of_nonpos_of_nonneg (by omega) (by omega)
      omega
  refine ⟨by decide, n1, gcd_o n, a1, fun x y hy hr => ⟨?_, hy⟩⟩
  have h3 : ∀ f, lwD (some (a, b)) li = some f → f ≤ x := (lw_ok h1 x).mp ((lo _ _).mpr (by
    have r := (lo _ _).mp hr.1
    rcases Int.lt_or_le 1 y with hy1 | hy1
    · have m : a * 1 < a * y := Int.mul_lt_mul_of_pos_left hy1 (by omega)
      exact .inl (by rcases r with r | ⟨_, r⟩ <;> omega)
    · have : y = 1 := by omega
      subst this
      exact r))
  obtain ⟨f, ef⟩ : ∃ f, lwD (some (a, b)) li = some f := ⟨_, rfl⟩
  have h4 := h3 f ef
  have h5 := (lw_ok h1 n).mp a1.1 f ef
  rw [ef] at h
  generalize gwD H hi = l at h
  match l with
  | none =>
    have h : some (if 0 < f then f else 0) = some n := h
    have h := Option.some.inj h
    split at h <;> omega
  | some l =>
    unfold whD at h
    dsimp only at h
    split at h
    · cases h
    · have h := Option.some.inj h
      split at h
      · omega
      · split at h <;> omega
theorem good_step {a b : Int} {li : Bool} {c d : Int} {hi : Bool} {w p q : Int} (no : ∀ n, ¬ inR (some (a, b)) li (some (c, d)) hi n 1) (B : BStep a b li c d hi w) (g : GoodP (overR (c, d) w) hi (overR (a, b) w) li p q) : Good (some (a, b)) li (some (c, d)) hi (w * p + q) p := by
  obtain ⟨q1, qp, gc, ir, mn⟩ := g
  have ir' := B.back p q (by omega) q1 ir
  refine ⟨by omega, ?_, ir', fun x y hy hr => ?_, fun hp => ?_⟩
  · rw [← gcd_swap (w * p + q) p w, show w * p + q - w * p = q by omega]
    exact gc
  · obtain ⟨t1, t2, t3⟩ := B.there x y hy hr
    exact (mn y (x - w * y) t1 t3).1
  · rw [hp] at ir'
    exact absurd ir' (no _)
theorem goodP_step {a b : Int} {li : Bool} {c d : Int} {hi : Bool} {w p q : Int} (no : ∀ n, ¬ inR (some (a, b)) li (some (c, d)) hi n 1) (B : BStep a b li c d hi w) (w1 : 1 ≤ w) (g : GoodP (overR (c, d) w) hi (overR (a, b) w) li p q) : GoodP (some (a, b)) li (some (c, d)) hi (w * p + q) p := by
  have g0 := good_step no B g
  obtain ⟨q1, qp, gc, ir, mn⟩ := g
  have m1 : p ≤ w * p := by have := Int.mul_le_mul_of_nonneg_right w1 (show 0 ≤ p by omega); omega
  refine ⟨by omega, by omega, g0.2.1, g0.2.2.1, fun x y hy hr => ?_⟩
  obtain ⟨t1, t2, t3⟩ := B.there x y hy hr
  obtain ⟨u1, u2⟩ := mn y (x - w * y) t1 t3
  have m2 : w * p ≤ w * y := Int.mul_le_mul_of_nonneg_left u1 (by omega)
  exact ⟨by omega, u1⟩
/-- from behind -/
def unw : List Int → Int × Int → Int × Int
  | [], f => f
  | w :: ws, f => (w * (unw ws f).1 + (unw ws f).2, (unw ws f).1)
theorem unw_snoc (ws : List Int) (w p q : Int) : unw (ws ++ [w]) (p, q) = unw ws (w * p + q, p) := by
  induction ws with
  | nil => rfl
  | cons v ws ih => show (v * (unw (ws ++ [w]) (p, q)).1 + (unw (ws ++ [w]) (p, q)).2, (unw (ws ++ [w]) (p, q)).1) = _; rw [ih]; rfl
/-- how far the search has come -/
structure BInv (L0 : Bn) (l0 : Bool) (H0 : Bn) (h0 : Bool) (ws : List Int) (L : Bn) (li : Bool) (H : Bn) (hi : Bool) : Prop where
  ok : RgOk L li H hi
  tl : ∀ w ∈ ws.tail, 1 ≤ w
  go : (ws = [] ∧ L = L0 ∧ li = l0 ∧ H = H0 ∧ hi = h0) ∨ (ws ≠ [] ∧ (∃ a b, L = some (a, b) ∧ b ≤ a) ∧ ∀ p q, GoodP L li H hi p q → Good L0 l0 H0 h0 (unw ws (p, q)).1 (unw ws (p, q)).2)
theorem BInv.start {L : Bn} {li : Bool} {H : Bn} {hi : Bool} (ok : RgOk L li H hi) : BInv L li H hi [] L li H hi := ⟨ok, fun w hw => absurd hw (by simp), .inl ⟨rfl, rfl, rfl, rfl, rfl⟩⟩
theorem BInv.step {L0 : Bn} {l0 : Bool} {H0 : Bn} {h0 : Bool} {ws : List Int} {a b : Int} {li : Bool} {c d : Int} {hi : Bool} (I : BInv L0 l0 H0 h0 ws (some (a, b)) li (some (c, d)) hi) (no : ∀ n, ¬ inR (some (a, b)) li (some (c, d)) hi n 1) :
    BInv L0 l0 H0 h0 (ws ++ [a / b]) (overR (c, d) (a / b)) hi (overR (a, b) (a / b)) li ∧ BStep a b li c d hi (a / b) := by
  have B := b_step I.ok no
  obtain ⟨hb, ga⟩ := I.ok.1 a b rfl
  have eo : overR (c, d) (a / b) = some (d, c - a / b * d) := if_neg (by have := B.h1; show ¬ c - a / b * d = 0; omega)
  have up : ∃ a' b', overR (c, d) (a / b) = some (a', b') ∧ b' ≤ a' := ⟨_, _, eo, B.h2⟩
  refine ⟨⟨B.ok, fun w hw => ?_, .inr ⟨by simp, up, fun p q g => ?_⟩⟩, B⟩
  · rcases I.go with ⟨e, _⟩ | ⟨ne, ⟨a', b', e1, hab⟩, _⟩
    · subst e
      exact absurd hw (by simp)
    · cases e1
      obtain ⟨v, vs, rfl⟩ := List.exists_cons_of_ne_nil ne
      rw [List.cons_append, List.tail_cons, List.mem_append, List.mem_singleton] at hw
      rcases hw with hw | rfl
      · exact I.tl w hw
      · exact (Int.le_ediv_iff_mul_le (by omega)).mpr (by omega)
  · rw [unw_snoc]
    rcases I.go with ⟨e, e1, e2, e3, e4⟩ | ⟨ne, ⟨a', b', e1, hab⟩, go⟩
    · subst e e2 e4
      rw [← e1, ← e3]
      exact good_step no B g
    · cases e1
      exact go _ _ (goodP_step no B ((Int.le_ediv_iff_mul_le (by omega)).mpr (by omega)) g)
theorem BInv.done {L0 : Bn} {l0 : Bool} {H0 : Bn} {h0 : Bool} {ws : List Int} {L : Bn} {li : Bool} {H : Bn} {hi : Bool} (I : BInv L0 l0 H0 h0 ws L li H hi) {n : Int} (h : whD (lwD L li) (gwD H hi) = some n) : Good L0 l0 H0 h0 (unw ws (n, 1)).1 (unw ws (n, 1)).2 ∧ (ws ≠ [] → 1 ≤ n) := by
  rcases I.go with ⟨e, e1, e2, e3, e4⟩ | ⟨ne, ⟨a', b', e1, hab⟩, go⟩
  · subst e e2 e4
    rw [← e1, ← e3]
    exact ⟨good_int I.ok.1 I.ok.2.1 h, fun z => absurd rfl z⟩
  · subst e1
    have g := goodP_int I.ok.1 I.ok.2.1 hab h
    exact ⟨go _ _ g, fun _ => by have := g.2.1; omega⟩
/-- what comes on the way back is no greater than the bottom at the end -/
theorem unw_le {n : Int} (hn : 1 ≤ n) : ∀ (ws : List Int), (∀ w ∈ ws, 1 ≤ w) → ∀ j, 1 ≤ (unw (ws.drop j) (n, 1)).2 ∧ (unw (ws.drop j) (n, 1)).2 ≤ (unw (ws.drop j) (n, 1)).1 ∧ (unw (ws.drop j) (n, 1)).1 ≤ (unw ws (n, 1)).1
  | [], _, j => by
    rw [List.drop_nil]
    exact ⟨by show (1 : Int) ≤ 1; decide, hn, Int.le_refl _⟩
  | w :: ws, h, j => by
    have ih := fun j => unw_le hn ws (fun x hx => h x (List.mem_cons_of_mem _ hx)) j
    have w1 := h w List.mem_cons_self
    have i0 := ih 0
    rw [List.drop_zero] at i0
    have e : unw (w :: ws) (n, 1) = (w * (unw ws (n, 1)).1 + (unw ws (n, 1)).2, (unw ws (n, 1)).1) := rfl
    have m1 : (unw ws (n, 1)).1 ≤ w * (unw ws (n, 1)).1 := by have := Int.mul_le_mul_of_nonneg_right w1 (show 0 ≤ (unw ws (n, 1)).1 by omega); omega
    match j with
    | 0 =>
      rw [List.drop_zero, e]
      dsimp only
      omega
    | j + 1 =>
      rw [List.drop_succ_cons, e]
      dsimp only
      have := ih j
      omega
/-- the bound of the bottom -/
theorem good_le {a b : Int} {li : Bool} {c d : Int} {hi : Bool} {p q : Int} (ok : RgOk (some (a, b)) li (some (c, d)) hi) (g : Good (some (a, b)) li (some (c, d)) hi p q) : q ≤ b + d := by
  obtain ⟨o1, o2, o3⟩ := ok
  obtain ⟨hb, ga⟩ := o1 a b rfl
  obtain ⟨hd, gc⟩ := o2 c d rfl
  rcases o3 a b c d rfl rfl with h | ⟨h, h1, h2⟩
  · refine g.2.2.2.1 (a + c) (b + d) (by omega) ⟨?_, ?_⟩
    · refine .inl ?_
      show a * (b + d) < (a + c) * b
      have e1 : a * (b + d) = a * b + a * d := by grind
      have e2 : (a + c) * b = a * b + c * b := by grind
      omega
    · refine .inl ?_
      show (a + c) * d < c * (b + d)
      have e1 : (a + c) * d = a * d + c * d := by grind
      have e2 : c * (b + d) = c * b + c * d := by grind
      omega
  · have := g.2.2.2.1 a b hb ⟨.inr ⟨h1, rfl⟩, .inr ⟨h2, h⟩⟩
    omega
/-! how many steps there are -/
def potB (F : Bn) : Int := match F with | none => 0 | some (a, b) => a * b
def BnB (k : Nat) (L : Bn) : Prop := ∀ a b, L = some (a, b) → 1 ≤ b ∧ Bd k a ∧ Bd k b
theorem over_bd {k : Nat} {a b w : Int} (hb : Bd k b) (l1 : 0 ≤ a - w * b) (l2 : a - w * b ≤ b) : BnB k (overR (a, b) w) := by
  intro x y e
  by_cases q : a - w * b = 0
  · rw [show overR (a, b) w = none from if_pos q] at e; cases e
  · rw [show overR (a, b) w = some (b, a - w * b) from if_neg q] at e
    cases e
    exact ⟨by omega, hb, by unfold Bd at *; omega⟩
theorem over_pot {a b w : Int} : potB (overR (a, b) w) = b * (a - w * b) := by
  by_cases q : a - w * b = 0
  · rw [show overR (a, b) w = none from if_pos q, q, Int.mul_zero]; rfl
  · rw [show overR (a, b) w = some (b, a - w * b) from if_neg q]; rfl
theorem pot_half {a b w : Int} (hb : 1 ≤ b) (hw : 1 ≤ w) (l1 : 0 ≤ a - w * b) (l2 : a - w * b ≤ b) : 2 * potB (overR (a, b) w) ≤ a * b := by
  rw [over_pot]
  have e : a * b = w * (b * b) + b * (a - w * b) := by grind
  have m1 : 1 * (b * b) ≤ w * (b * b) := Int.mul_le_mul_of_nonneg_right hw (Int.mul_nonneg (by omega) (by omega))
  have m2 : b * (a - w * b) ≤ b * b := Int.mul_le_mul_of_nonneg_left l2 (by omega)
  omega
theorem pot_first {k : Nat} {a b w : Int} (hb : Bd k b) (b1 : 1 ≤ b) (l1 : 0 ≤ a - w * b) (l2 : a - w * b ≤ b) : potB (overR (a, b) w) ≤ 10 ^ (2 * k) ∧ 0 ≤ potB (overR (a, b) w) := by
  rw [over_pot]
  have m2 : b * (a - w * b) ≤ b * b := Int.mul_le_mul_of_nonneg_left l2 (by omega)
  have m3 : 0 ≤ b * (a - w * b) := Int.mul_nonneg (by omega) l1
  have h : Bd (k + k) (b * b) := hb.mul hb
  unfold Bd at h
  have e : (10 : Int) ^ (2 * k) = ((10 ^ (k + k) : Nat) : Int) := by rw [show 2 * k = k + k by omega]; simp
  rw [e]
  omega
/-- the steps' count -/
def Steps (M : Int) (ws : List Int) (L H : Bn) : Prop := ws = [] ∨ (ws ≠ [] ∧ 2 ^ ws.length * (potB L + potB H) ≤ 2 * M ∧ 1 ≤ potB L + potB H)
theorem Steps.len {M : Int} {ws : List Int} {L H : Bn} {n : Nat} (h : Steps M ws L H) (hM : 2 * M < 2 ^ n) : ws.length ≤ n := by
  rcases h with rfl | ⟨_, h, h1⟩
  · exact Nat.zero_le _
  · by_cases q : ws.length ≤ n
    · exact q
    · exfalso
      have e : (2 : Int) ^ n ≤ 2 ^ ws.length := by
        have := Nat.pow_le_pow_right (n := 2) (by decide) (show n ≤ ws.length by omega)
        exact_mod_cast this
      have m : (2 : Int) ^ ws.length * 1 ≤ 2 ^ ws.length * (potB L + potB H) := Int.mul_le_mul_of_nonneg_left h1 (Int.pow_nonneg (by decide))
      omega
theorem Steps.step {M : Int} {ws : List Int} {a b c d : Int} {li hi : Bool} (hM : 0 ≤ M) (B : BStep a b li c d hi (a / b)) (hb : 1 ≤ b) (hd : 1 ≤ d) (h : Steps M ws (some (a, b)) (some (c, d))) (hw : ws ≠ [] → 1 ≤ a / b)
    (hf : potB (overR (c, d) (a / b)) + potB (overR (a, b) (a / b)) ≤ M) : Steps M (ws ++ [a / b]) (overR (c, d) (a / b)) (overR (a, b) (a / b)) ∧ (ws ≠ [] → potB (overR (c, d) (a / b)) + potB (overR (a, b) (a / b)) < potB (some (a, b)) + potB (some (c, d))) := by
  have p0 : 0 ≤ potB (overR (a, b) (a / b)) := by rw [over_pot]; exact Int.mul_nonneg (by omega) B.l1
  have p1 : 1 ≤ potB (overR (c, d) (a / b)) := by
    rw [over_pot]
    have := Int.mul_le_mul_of_nonneg_left B.h1 (show 0 ≤ d by omega)
    omega
  have el : (ws ++ [a / b]).length = ws.length + 1 := by simp
  rcases h with rfl | ⟨ne, h, h1⟩
  · refine ⟨.inr ⟨by simp, ?_, by omega⟩, fun z => absurd rfl z⟩
    rw [el]
    show (2 : Int) ^ (0 + 1) * _ ≤ 2 * M
    rw [Nat.zero_add, Int.pow_succ, Int.pow_zero]
    omega
  · have w1 := hw ne
    have t1 := pot_half hd w1 (show 0 ≤ c - a / b * d by have := B.h1; omega) B.h2
    have t2 := pot_half hb w1 B.l1 (Int.le_of_lt B.l2)
    have q1 : potB (some (a, b)) = a * b := rfl
    have q2 : potB (some (c, d)) = c * d := rfl
    rw [q1, q2] at h h1 ⊢
    refine ⟨.inr ⟨by simp, ?_, by omega⟩, fun _ => by omega⟩
    rw [el, Int.pow_succ]
    have m : (2 : Int) ^ ws.length * (2 * (potB (overR (c, d) (a / b)) + potB (overR (a, b) (a / b)))) ≤ 2 ^ ws.length * (a * b + c * d) := Int.mul_le_mul_of_nonneg_left (by omega) (Int.pow_nonneg (by decide))
    rw [Int.mul_assoc]
    omega
theorem good_q {k : Nat} {L : Bn} {li : Bool} {H : Bn} {hi : Bool} {p q : Int} (ok : RgOk L li H hi) (bL : BnB k L) (bH : BnB k H) (g : Good L li H hi p q) : Bd (k + 1) q := by
  have q1 := g.1
  have small : ∀ n, whD (lwD L li) (gwD H hi) = some n → Bd (k + 1) q := fun n h => by
    have := g.2.2.2.1 n 1 (by decide) (wh_some ok.1 ok.2.1 h).1
    have e : q = 1 := by omega
    rw [e]
    have h9 : 10 ^ 1 ≤ 10 ^ (k + 1) := Nat.pow_le_pow_right (by decide) (by omega)
    unfold Bd
    omega
  match L, H with
  | none, none => exact small _ rfl
  | some (a, b), none => exact small _ rfl
  | none, some (c, d) => exact small _ rfl
  | some (a, b), some (c, d) =>
    have h := good_le ok g
    obtain ⟨b1, _, bb⟩ := bL a b rfl
    obtain ⟨d1, _, bd⟩ := bH c d rfl
    have e : 10 ^ (k + 1) = 10 * 10 ^ k := by rw [Nat.pow_succ, Nat.mul_comm]
    unfold Bd at *
    rw [e]
    omega
theorem Bd.ones {k : Nat} {x y : Int} (h : Bd k x) (hy : y.natAbs ≤ x.natAbs + 2) : Bd (k + 1) y := by
  have e : 10 ^ (k + 1) = 10 * 10 ^ k := by rw [Nat.pow_succ, Nat.mul_comm]
  unfold Bd at *
  rw [e]
  omega
theorem lw_bd {k : Nat} {L : Bn} {li : Bool} (bL : BnB k L) {f : Int} (h : lwD L li = some f) : Bd (k + 2) f := by
  match L with
  | none => cases h
  | some (a, b) =>
    obtain ⟨b1, ba, _⟩ := bL a b rfl
    have := Bd.div ba (show 0 < b by omega)
    have h : some (if b = 1 ∧ li = true then a / b else a / b + 1) = some f := h
    have h := Option.some.inj h
    refine this.ones ?_
    split at h <;> omega
theorem gw_bd {k : Nat} {H : Bn} {hi : Bool} (bH : BnB k H) {f : Int} (h : gwD H hi = some f) : Bd (k + 2) f := by
  match H with
  | none => cases h
  | some (c, d) =>
    obtain ⟨b1, ba, _⟩ := bH c d rfl
    have := Bd.div (show Bd k (0 - c) by unfold Bd at *; omega) (show 0 < d by omega)
    have h : some (if d = 1 ∧ hi = true then 0 - (0 - c) / d else 0 - (0 - c) / d - 1) = some f := h
    have h := Option.some.inj h
    refine this.ones ?_
    split at h <;> omega
theorem wh_bd {k : Nat} {L : Bn} {li : Bool} {H : Bn} {hi : Bool} (bL : BnB k L) (bH : BnB k H) {n : Int} (h : whD (lwD L li) (gwD H hi) = some n) : Bd (k + 2) n := by
  have h1 : ∀ f, lwD L li = some f → Bd (k + 2) f := fun f e => lw_bd bL e
  have h2 : ∀ f, gwD H hi = some f → Bd (k + 2) f := fun f e => gw_bd bH e
  have z : Bd (k + 2) 0 := Nat.pow_pos (by decide)
  generalize lwD L li = f at *
  generalize gwD H hi = l at *
  match f, l with
  | none, none => cases h; exact z
  | some f, none => cases h; split <;> first | exact z | exact h1 _ rfl
  | none, some l => cases h; split <;> first | exact z | exact h2 _ rfl
  | some f, some l =>
    unfold whD at h
    dsimp only at h
    split at h
    · cases h
    · cases h
      split
      · exact h1 _ rfl
      · split
        · exact h2 _ rfl
        · exact z
theorem unw_back {ws : List Int} {n : Int} {i : Nat} {w : Int} (hi : i < ws.length) (hw : ws[ws.length - 1 - i]? = some w) : unw (ws.drop (ws.length - (i + 1))) (n, 1) = (w * (unw (ws.drop (ws.length - i)) (n, 1)).1 + (unw (ws.drop (ws.length - i)) (n, 1)).2, (unw (ws.drop (ws.length - i)) (n, 1)).1) := by
  have e1 : ws.length - (i + 1) = ws.length - 1 - i := by omega
  have e2 : ws.length - i = ws.length - 1 - i + 1 := by omega
  have hl : ws.length - 1 - i < ws.length := by omega
  rw [e1, e2]
  generalize ws.length - 1 - i = j at *
  rw [List.getElem?_eq_getElem hl] at hw
  rw [List.drop_eq_getElem_cons hl, Option.some.inj hw]
  rfl
/-- on the way back all is small -/
theorem unw_small {k : Nat} {ws : List Int} {n : Int} (hn : 1 ≤ n) (ht : ∀ w ∈ ws.tail, 1 ≤ w) (hq : Bd k (unw ws (n, 1)).2) {i : Nat} (hi : i < ws.length) : Bd k (unw (ws.drop (ws.length - i)) (n, 1)).1 ∧ Bd k (unw (ws.drop (ws.length - i)) (n, 1)).2 := by
  match ws with
  | [] => exact absurd hi (by simp)
  | w :: ws =>
    have e : (w :: ws).length - i = (ws.length - i) + 1 := by rw [List.length_cons] at *; omega
    rw [e, List.drop_succ_cons]
    have := unw_le hn ws ht (ws.length - i)
    have hq : Bd k (unw ws (n, 1)).1 := hq
    unfold Bd at *
    omega
end Tq

set_option maxRecDepth 100000
set_option maxHeartbeats 4000000
/-! two fractions side by side: what lies between them -/
namespace Tq
open PySem PySem.Spec PyProof.Rows L2
structure SB (a b c d : Int) : Prop where
  b1 : 1 ≤ b
  d1 : 1 ≤ d
  one : c * b - a * d = 1
  ba : Bd 8 a
  bb : Bd 8 b
  bc : Bd 8 c
  bd : Bd 8 d
theorem SB.g1 {a b c d : Int} (h : SB a b c d) : gcdI a b = 1 := gcd_one h.one
theorem SB.g2 {a b c d : Int} (h : SB a b c d) : gcdI c d = 1 := gcd_one (c := -a) (d := -b) (by have := h.one; grind)
theorem SB.ok {a b c d : Int} (h : SB a b c d) (li hi : Bool) : RgOk (some (a, b)) li (some (c, d)) hi := by
  have := h.one
  refine ⟨fun x y e => by cases e; exact ⟨h.b1, h.g1⟩, fun x y e => by cases e; exact ⟨h.d1, h.g2⟩, fun x y u v e1 e2 => by cases e1; cases e2; exact .inl (by omega)⟩
theorem mul_one_eq {x y : Int} (hy : 1 ≤ y) (h : x * y = 1) : y = 1 ∧ x = 1 := by
  have x1 : 1 ≤ x := by
    by_cases q : 1 ≤ x
    · exact q
    · have : x * y ≤ 0 := Int.mul_nonpos_of_nonpos_of_nonneg (by omega) (by omega)
      omega
  have m : 1 * y ≤ x * y := Int.mul_le_mul_of_nonneg_right x1 (by omega)
  have y1 : y = 1 := by omega
  subst y1
  exact ⟨rfl, by omega⟩
theorem good_mid {a b c d p q : Int} (h : SB a b c d) (g : Good (some (a, b)) false (some (c, d)) false p q) : p = a + c ∧ q = b + d := by
  have hle := good_le (h.ok _ _) g
  have hb := h.b1
  have hd := h.d1
  have one := h.one
  have r1 : a * q < p * b ∨ (false = true ∧ a * q = p * b) := g.2.2.1.1
  have r2 : p * d < c * q ∨ (false = true ∧ p * d = c * q) := g.2.2.1.2
  have x1 : 0 < p * b - a * q := by rcases r1 with r | ⟨r, _⟩; (omega); cases r
  have x2 : 0 < c * q - p * d := by rcases r2 with r | ⟨r, _⟩; (omega); cases r
  have hge := nb_sum one hb hd x1 x2
  have e1 := nb_q (p := p) (q := q) one
  have e2 := nb_p (p := p) (q := q) one
  generalize p * b - a * q = x at *
  generalize c * q - p * d = y at *
  have m1 : b * 1 ≤ b * y := Int.mul_le_mul_of_nonneg_left (by omega) (by omega)
  have m2 : d * 1 ≤ d * x := Int.mul_le_mul_of_nonneg_left (by omega) (by omega)
  have y1 : y = 1 := by
    have : b * y = b * 1 := by omega
    exact Int.eq_of_mul_eq_mul_left (by omega) this
  have x1' : x = 1 := by
    have : d * x = d * 1 := by omega
    exact Int.eq_of_mul_eq_mul_left (by omega) this
  rw [y1, x1', Int.mul_one, Int.mul_one] at e1 e2
  exact ⟨e2, e1⟩
def bestF (a b c d : Int) : Int × Int := if d < b ∨ (d = b ∧ c.natAbs < a.natAbs) then (c, d) else (a, b)
theorem good_ends {a b c d p q : Int} (h : SB a b c d) (g : Good (some (a, b)) true (some (c, d)) true p q) : bestF a b c d = (p, q) := by
  have hb := h.b1
  have hd := h.d1
  have one := h.one
  have inA : inR (some (a, b)) true (some (c, d)) true a b := ⟨.inr ⟨rfl, rfl⟩, .inl (by show a * d < c * b; omega)⟩
  have inC : inR (some (a, b)) true (some (c, d)) true c d := ⟨.inl (by show a * d < c * b; omega), .inr ⟨rfl, rfl⟩⟩
  have q1 := g.1
  have mb := g.2.2.2.1 a b hb inA
  have md := g.2.2.2.1 c d hd inC
  have r1 : a * q < p * b ∨ (true = true ∧ a * q = p * b) := g.2.2.1.1
  have r2 : p * d < c * q ∨ (true = true ∧ p * d = c * q) := g.2.2.1.2
  have near := g.2.2.2.2
  by_cases s1 : a * q = p * b
  · obtain ⟨rfl, rfl⟩ := frac_same q1 hb g.2.1 h.g1 (show p * b = q * a by rw [Int.mul_comm q]; omega)
    unfold bestF
    rw [if_neg]
    rintro (z | ⟨z, z2⟩)
    · omega
    · subst z
      have hq : d = 1 := by
        have e : (c - p) * d = 1 := by rw [Int.sub_mul]; exact one
        exact (mul_one_eq hb e).1
      subst hq
      rcases near rfl with n | ⟨n, n2⟩ | ⟨n, n2⟩
      · omega
      · omega
      · exact n2 c (by omega) (by omega) inC
  · by_cases s2 : p * d = c * q
    · obtain ⟨rfl, rfl⟩ := frac_same q1 hd g.2.1 h.g2 (show p * d = q * c by rw [Int.mul_comm q]; exact s2)
      unfold bestF
      rw [if_pos]
      by_cases z : q < b
      · exact .inl z
      · have z : q = b := by omega
        subst z
        have hq : q = 1 := by
          have e : (p - a) * q = 1 := by rw [Int.sub_mul]; exact one
          exact (mul_one_eq hd e).1
        subst hq
        refine .inr ⟨rfl, ?_⟩
        rcases near rfl with n | ⟨n, n2⟩ | ⟨n, n2⟩
        · omega
        · exact absurd inA (n2 a (by omega) (by omega))
        · omega
    · have x1 : 0 < p * b - a * q := by omega
      have x2 : 0 < c * q - p * d := by omega
      have := nb_sum one hb hd x1 x2
      omega
end Tq

set_option maxRecDepth 100000
set_option maxHeartbeats 4000000
namespace Tq
open PySem PySem.Spec PyProof.Rows L2
/-! ### the row of a fraction's root -/
/-- how a root stands to a / b: the sign of this -/
def eR (A B a b : Int) : Int := A * b * b - a * a * B
def sgL (n : Nat) : Int := if n % 2 = 0 then 1 else -1
def dR (A B : Int) (n : Nat) (m : Mx) : Int := -sgL n * eR A B m.a m.c
def wR (A B : Int) (n : Nat) (m : Mx) : Int := -sgL n * (m.a * m.b * B - m.c * m.d * A)
def cR (A B : Int) (n : Nat) (m : Mx) : Int := -sgL n * eR A B m.b m.d
/-- a beginning of the row of the root -/
structure Beg (A B : Int) (n : Nat) (m : Mx) : Prop where
  det : m.a * m.d - m.b * m.c = sgL n
  near : 0 ≤ dR A B n m
  far : 1 ≤ n → dR A B n m - 2 * wR A B n m + cR A B n m < 0
  back : cR A B n m ≤ 0
theorem pos_of_mul {d q : Int} (hd : 0 < d) (h : 0 < d * q) : 0 < q := by
  by_cases hq : 0 < q
  · exact hq
  · have := Int.mul_nonneg (Int.le_of_lt hd) (by omega : 0 ≤ -q)
    have e : d * -q = -(d * q) := by grind
    omega
/-! ### the greatest whole number whose square is no greater -/
/-! ### the row -/
/-- a beginning of the root's row -/
structure BegL (A B : Int) (ts : List Int) : Prop where
  beg : Beg A B ts.length (turnL ts)
  pos : Pos1 ts
  all0 : ∀ t ∈ ts, 0 ≤ t ∧ t ≤ 2 * 10 ^ 12
  zero : ts.length = 0 → wR A B ts.length (turnL ts) = 0
  last : 2 ≤ ts.length → ts.getLast? = some 1 → dR A B ts.length (turnL ts) ≠ 0
/-! ### x *= e -/
/-! ### roots step by step -/
theorem BegL.bd {A B : Int} {ts : List Int} (h : BegL A B ts) : ∀ t ∈ ts, Bd 13 t := fun t ht => by
  have := h.all0 t ht
  unfold Bd
  omega
theorem BegL.tb {A B : Int} {ts : List Int} (h : BegL A B ts) (hl : ts.length ≤ 61) : TB ts := ⟨by omega, h.bd⟩
theorem BegL.mb {A B : Int} {ts : List Int} (h : BegL A B ts) (hl : ts.length ≤ 61) : MB 900 (turnL ts) := (mb_turn ts h.bd).mono (by omega)
/-! ### the row, also below nought -/
end Tq

set_option maxRecDepth 100000
set_option maxHeartbeats 4000000
namespace Tq
open PySem PySem.Spec PyProof.Rows L2
open PySem.Builtin.Str (occurrences subAt strSub)
/-! ### texts taken apart at a sign -/
section
variable {C : Ct} {y : S} {ta tb : TE} {Q : Z → S → Prop}
end
/-! ### what the parts are -/
theorem app_list (a b : Str) : (a ++ b).cps.toList = a.cps.toList ++ b.cps.toList := by
  show (a.cps ++ b.cps).toList = _
  exact Array.toList_append
/-- two beginnings without the sign, and what stands behind -/
theorem sign_uniq {c : Nat} : ∀ {a a' b b' : List Nat}, c ∉ a → c ∉ a' → a ++ c :: b = a' ++ c :: b' → a = a' ∧ b = b'
  | [], [], _, _, _, _, h => ⟨rfl, (List.cons.inj h).2⟩
  | [], x :: a', _, _, _, h2, h => absurd ((List.cons.inj h).1 ▸ List.mem_cons_self) h2
  | x :: a, [], _, _, h1, _, h => absurd ((List.cons.inj h).1.symm ▸ List.mem_cons_self) h1
  | x :: a, x' :: a', b, b', h1, h2, h => by
    obtain ⟨e1, e2⟩ := List.cons.inj h
    obtain ⟨r1, r2⟩ := sign_uniq (fun z => h1 (List.mem_cons_of_mem _ z)) (fun z => h2 (List.mem_cons_of_mem _ z)) e2
    exact ⟨by rw [e1, r1], r2⟩
end Tq

set_option maxRecDepth 100000
set_option maxHeartbeats 4000000
namespace Tq
open PySem PySem.Spec PyProof.Rows L2
/-! ### fractions shown -/
theorem numT_free {k : Nat} (hk : k ≠ 45 ∧ (k < 48 ∨ 57 < k)) (i : Int) : k ∉ (numT i).cps.toList := int_text_free' k hk i
theorem numT_nat (n : Nat) : (numT (n : Int)).cps.toList = TL.numL n := TL.tl_num n
theorem numT_neg (m : Nat) : (numT (Int.negSucc m)).cps.toList = 45 :: TL.numL (m + 1) := by
  have e1 : (numT (Int.negSucc m)).cps.toList = (toString (Int.negSucc m)).toList.map Char.toNat := signs_ofString _
  have e2 : (toString (Int.negSucc m)).toList = '-' :: (toString (((m + 1 : Nat) : Int))).toList := by
    show (("-" ++ Nat.repr (m + 1) : String)).toList = '-' :: (Nat.repr (m + 1)).toList
    rw [String.toList_append]
    rfl
  rw [e1, e2, List.map_cons, ← signs_ofString]
  exact congrArg _ (TL.tl_num (m + 1))
theorem numT_inj {i j : Int} (h : (numT i).cps.toList = (numT j).cps.toList) : i = j := by
  have no : ∀ n m : Nat, TL.numL n ≠ 45 :: TL.numL m := fun n m e => by
    have := TL.numL_digits n 45 (by rw [e]; exact List.mem_cons_self)
    omega
  cases i with
  | ofNat n =>
    cases j with
    | ofNat m =>
      have h : TL.numL n = TL.numL m := (numT_nat n).symm.trans (h.trans (numT_nat m))
      rw [TL.numL_inj h]
    | negSucc m => exact absurd ((numT_nat n).symm.trans (h.trans (numT_neg m))) (no _ _)
  | negSucc n =>
    cases j with
    | ofNat m => exact absurd ((numT_nat m).symm.trans (h.symm.trans (numT_neg n))) (no _ _)
    | negSucc m =>
      have h : 45 :: TL.numL (n + 1) = 45 :: TL.numL (m + 1) := (numT_neg n).symm.trans (h.trans (numT_neg m))
      have := TL.numL_inj (List.cons.inj h).2
      rw [show n = m by omega]
theorem fr_text (A B : Int) : (fr A B).shown.cps.toList = 40 :: ((numT A).cps.toList ++ 44 :: 32 :: ((numT B).cps.toList ++ [41])) := by
  have e : (fr A B).shown = "(" ++ (numT A ++ ", " ++ numT B) ++ ")" := by
    show (PyData.tuple [.int A, .int B]).shown = _
    simp only [PyData.shown, PyData.shownAll]
    rfl
  rw [e, app_list, app_list, app_list, app_list]
  show ([40] ++ ((numT A).cps.toList ++ [44, 32] ++ (numT B).cps.toList)) ++ [41] = _
  simp
theorem fr_inj {A B C D : Int} (h : (fr A B).shown = (fr C D).shown) : A = C ∧ B = D := by
  have h := congrArg (fun x : Str => x.cps.toList) h
  have h : (fr A B).shown.cps.toList = (fr C D).shown.cps.toList := h
  rw [fr_text, fr_text] at h
  obtain ⟨h1, h2⟩ := sign_uniq (numT_free (by decide) A) (numT_free (by decide) C) (List.cons.inj h).2
  have h3 := List.append_cancel_right (List.cons.inj h2).2
  exact ⟨numT_inj h1, numT_inj h3⟩
theorem fr_behind {A B : Int} {S : Str} {a b : List Nat} (hS : S.cps.toList = 40 :: (a ++ 44 :: 32 :: (b ++ [41]))) (ha : 44 ∉ a) {k : Nat} (hb : k ∈ b) (hk : k ≠ 45 ∧ (k < 48 ∨ 57 < k)) : (fr A B).shown ≠ S := fun e => by
  have e := congrArg (fun x : Str => x.cps.toList) e
  have e : (fr A B).shown.cps.toList = S.cps.toList := e
  rw [fr_text, hS] at e
  obtain ⟨_, h2⟩ := sign_uniq (numT_free (by decide) A) ha (List.cons.inj e).2
  have h3 := List.append_cancel_right (List.cons.inj h2).2
  exact numT_free hk B (h3 ▸ hb)
end Tq

set_option maxRecDepth 100000
set_option maxHeartbeats 4000000
/-! papers beside a fraction: which of them is shown as it -/
namespace Tq
open PySem PySem.Spec PyProof.Rows L2
def papersD (a b c d : Int) : List D := [fr (a + c) (b + d), fr (a + c + 1) (b + d), fr (a + c) (b + d + 1), fr (2 * (a + c)) (2 * (b + d)), fr a b, fr c d, fr (2 * a + c) (2 * b + d), fr (a + 2 * c) (b + 2 * d), .list [.int (a + c), .int (b + d)], .tuple [.int (a + c), .int (b + d), .int 1], .tuple [.int (a + c)], .none,
  .bool true, .str "", .dict [], .int (a + c), .tuple [.int (a + c), .bool true], .tuple [.str "1", .int (b + d)], fr (0 - a - c) (0 - b - d), .tuple [.none, .int 2], fr 1 0, .tuple []]
theorem fr_free {A B : Int} {S : Str} {k : Nat} (hk : k ≠ 45 ∧ (k < 48 ∨ 57 < k)) (h1 : k ≠ 40 ∧ k ≠ 41 ∧ k ≠ 44 ∧ k ≠ 32) (h : k ∈ S.cps.toList) : S ≠ (fr A B).shown := fun e => by
  have e := congrArg (fun x : Str => x.cps.toList) e
  have e : S.cps.toList = (fr A B).shown.cps.toList := e
  rw [e, fr_text] at h
  simp only [List.mem_cons, List.mem_append, List.not_mem_nil, or_false] at h
  rcases h with h | h | h | h | h | h
  · exact h1.1 h
  · exact numT_free hk A h
  · exact h1.2.2.1 h
  · exact h1.2.2.2 h
  · exact numT_free hk B h
  · exact h1.2.1 h
theorem fr_has {A B : Int} {S : Str} {k : Nat} (hk : k = 40 ∨ k = 32) (h : k ∉ S.cps.toList) : S ≠ (fr A B).shown := fun e => by
  have e := congrArg (fun x : Str => x.cps.toList) e
  have e : S.cps.toList = (fr A B).shown.cps.toList := e
  rw [e, fr_text] at h
  refine h ?_
  rcases hk with rfl | rfl <;> simp
theorem paper_same {a b c d p q : Int} (h1 : 1 ≤ q) (hg : gcdI p q = 1) : ∀ x ∈ papersD a b c d, (PyData.eqv (fr p q) x && fracB x) = decide (x.shown = (fr p q).shown) := by
  have two : ∀ u v : Int, (PyData.eqv (fr p q) (fr u v) && fracB (fr u v)) = decide ((fr u v).shown = (fr p q).shown) := fun u v => by
    have e : PyData.eqv (fr p q) (fr u v) = (decide (p = u) && decide (q = v)) := by
      show (PyData.eqv (.int p) (.int u) && (PyData.eqv (.int q) (.int v) && true)) = _
      rw [eqv_int, eqv_int, Bool.and_true]
    rw [e]
    by_cases z : p = u ∧ q = v
    · obtain ⟨rfl, rfl⟩ := z
      rw [fracB_fr h1 hg]
      simp
    · rw [decide_eq_false (show ¬ (fr u v).shown = (fr p q).shown from fun s => z (by obtain ⟨s1, s2⟩ := fr_inj s; exact ⟨s1.symm, s2.symm⟩))]
      by_cases z1 : p = u
      · rw [decide_eq_false (show ¬ q = v from fun z2 => z ⟨z1, z2⟩), Bool.and_false]; rfl
      · rw [decide_eq_false z1]; rfl
  have no : ∀ x : D, fracB x = false → x.shown ≠ (fr p q).shown → (PyData.eqv (fr p q) x && fracB x) = decide (x.shown = (fr p q).shown) := fun x hx hs => by rw [hx, Bool.and_false, decide_eq_false hs]
  intro x hx
  unfold papersD at hx
  simp only [List.mem_cons, List.not_mem_nil, or_false] at hx
  rcases hx with rfl | rfl | rfl | rfl | rfl | rfl | rfl | rfl | rfl | rfl | rfl | rfl | rfl | rfl | rfl | rfl | rfl | rfl | rfl | rfl | rfl | rfl
  all_goals first | exact two _ _ | skip
  · refine no _ rfl (fr_free (k := 91) (by decide) (by decide) ?_)
    have e : (PyData.list [.int (a + c), .int (b + d)]).shown = "[" ++ "" ++ numT (a + c) ++ ", " ++ numT (b + d) ++ "]" := by
      simp only [PyData.shown, PyData.shownAll]
      rfl
    rw [e, app_list, app_list, app_list, app_list, app_list]
    exact List.mem_append_left _ (List.mem_append_left _ (List.mem_append_left _ (List.mem_append_left _ (List.mem_append_left _ List.mem_cons_self))))
  · refine no _ rfl (fun e => fr_behind (A := p) (B := q) (a := (numT (a + c)).cps.toList) (b := (numT (b + d)).cps.toList ++ 44 :: 32 :: (numT 1).cps.toList) (k := 44) ?_ (numT_free (by decide) _) (by simp) (by decide) e.symm)
    have e : (PyData.tuple [.int (a + c), .int (b + d), .int 1]).shown = "(" ++ (numT (a + c) ++ ", " ++ (numT (b + d) ++ ", " ++ numT 1)) ++ ")" := by
      simp only [PyData.shown, PyData.shownAll]
      rfl
    rw [e, app_list, app_list, app_list, app_list, app_list, app_list]
    show ([40] ++ ((numT (a + c)).cps.toList ++ [44, 32] ++ ((numT (b + d)).cps.toList ++ [44, 32] ++ (numT 1).cps.toList))) ++ [41] = _
    simp
  · refine no _ rfl (fr_has (k := 32) (by decide) ?_)
    have e : (PyData.tuple [.int (a + c)]).shown = "(" ++ numT (a + c) ++ ",)" := by
      simp only [PyData.shown, PyData.shownAll]
      rfl
    rw [e, app_list, app_list]
    show 32 ∉ ([40] ++ (numT (a + c)).cps.toList) ++ [44, 41]
    have := numT_free (k := 32) (by decide) (a + c)
    simp [this]
  · exact no _ rfl (fr_has (k := 40) (by decide) (by decide +kernel))
  · exact no _ rfl (fr_has (k := 40) (by decide) (by decide +kernel))
  · exact no _ rfl (fr_has (k := 40) (by decide) (by decide +kernel))
  · exact no _ rfl (fr_has (k := 40) (by decide) (by decide +kernel))
  · refine no _ rfl (fr_has (k := 40) (by decide) ?_)
    have e : (PyData.int (a + c)).shown = numT (a + c) := by simp only [PyData.shown]; rfl
    rw [e]
    exact numT_free (by decide) _
  · refine no _ rfl (fr_free (k := 84) (by decide) (by decide) ?_)
    have e : (PyData.tuple [.int (a + c), .bool true]).shown = "(" ++ (numT (a + c) ++ ", " ++ "True") ++ ")" := by
      simp only [PyData.shown, PyData.shownAll]
      rfl
    rw [e, app_list, app_list, app_list]
    exact List.mem_append_left _ (List.mem_append_right _ (List.mem_append_right _ List.mem_cons_self))
  · refine no _ rfl (fr_free (k := 39) (by decide) (by decide) ?_)
    have e : (PyData.tuple [.str "1", .int (b + d)]).shown = "(" ++ (reprText "1" ++ ", " ++ numT (b + d)) ++ ")" := by
      simp only [PyData.shown, PyData.shownAll]
      rfl
    rw [e, app_list, app_list, app_list, app_list]
    exact List.mem_append_left _ (List.mem_append_right _ (List.mem_append_left _ (List.mem_append_left _ (by decide +kernel))))
  · exact no _ rfl (fr_free (k := 78) (by decide) (by decide) (by decide +kernel))
  · exact no _ rfl (fr_has (k := 32) (by decide) (by decide +kernel))
end Tq

set_option maxRecDepth 100000
set_option maxHeartbeats 4000000
namespace Tq
open PySem PySem.Spec PyProof.Rows L2
/-! ### repr of data of any kind: dicts at any depth, whole numbers of up to 3000 figures -/
mutual
def sw2 : D → Bool
  | .none | .bool _ | .str _ => true
  | .int i => decide (i.natAbs.log2 < 12000)
  | .list xs | .tuple xs => sw2A xs
  | .dict kvs => sw2K kvs
def sw2A : List D → Bool
  | [] => true
  | x :: xs => sw2 x && sw2A xs
def sw2K : List (D × D) → Bool
  | [] => true
  | (k, v) :: r => scD k && sw2 k && sw2 v && sw2K r
end
theorem big_small {i : Int} (h : i.natAbs.log2 < 12000) : i.natAbs < 10 ^ 4300 :=
  Nat.lt_of_lt_of_le (lt_of_log2 (Nat.lt_trans h (by decide))) pow_lo
section
variable {prog : Program} {w : World} {A : Around} {E : Value → Shared → Prop} {s : Shared}
theorem big_code {a : Int} {t : Tok} (ha : a.natAbs < 10 ^ 4300) : GivesAt (fun s => s.heap.NoDigits) (Builtin.«int.__repr__» ⟨[.int a t], []⟩) (.str (toString a)) := by
  intro prog w A R s hn hq
  unfold Builtin.«int.__repr__»
  show wpAny _ _ (do let r ← Builtin.overDigitLimit? a; _) _ _ s
  refine wpAny_bind (overDigitLimit_any hn (fun _ => ?_) fun hge => absurd ha (by omega))
  exact wpAny_bind (wpAny_mkStr (wpAny_pure hq.2) hq.1)
theorem big_fits {a : Int} (ha : a.natAbs < 10 ^ 4300) : (Str.ofString (toString a)).length ≤ sizeLine := int_text_fits10 ha
theorem big_obj {a : Int} {t : Tok} {Q : Value → Shared → Prop} (hn : s.heap.NoDigits) (ha : a.natAbs < 10 ^ 4300) (h : Q (.str (toString a) s.toks) { s with toks := s.toks + 1 }) : wpAny (model prog w) A (pyReprObj (.int a t)) Q E s := by
  have hv : ([Value.int a t] : List Value).any Value.onHeap = false := rfl
  unfold pyReprObj
  simp only [cRoomFor, hv, Bool.false_eq_true, if_false, pure_bind]
  refine wpAny_bind (wpAny_specialOf (T := "int") (typeIs_int s a t) (PySem.F.slot_int_repr).lookup ?_)
  refine wpAny_bind (m := callSpecialIfBound? (.int a t) _) (wpAny_callSpecialIfBound?_slot (T := "int") (typeIs_int s a t) PySem.F.slot_int_repr (call_givesAt PySem.F.slot_int_repr (typeIs_int s a t) PySem.F.entry_int_repr (PySem.F.args_int_repr_1 _) (big_code ha) hn ⟨big_fits ha, ?_⟩))
  exact wpAny_bind (wpAny_isInstance (T := "str") (b := true) rfl PySem.isSubtype_str_str (wpAny_pure h))
end
end Tq
namespace Tq
open PySem PySem.Spec PyProof.Rows L2
section
variable {prog : Program} {w : World} {A : Around} {E : Value → Shared → Prop} {s : Shared}
theorem big_call {a : Int} {t : Tok} {Q : Value → Shared → Prop} (hn : s.heap.NoDigits) (ha : a.natAbs < 10 ^ 4300) (h : Q (.str (toString a) s.toks) { s with toks := s.toks + 1 }) : wpAny (model prog w) A (call (.builtin "repr") [.int a t]) Q E s := by
  have hv : ([Value.int a t] : List Value).any Value.onHeap = false := rfl
  refine Calls.call_function_entry PySem.F.kind_repr PySem.F.plain_repr PySem.F.entry_repr (PySem.F.args_repr1 _) ?_
  unfold Builtin.«repr»
  refine wpAny_bind (m := oneArg "repr" _) (wpAny_pure ?_)
  simp only [cRoomFor, hv, Bool.false_eq_true, if_false, pure_bind]
  refine wpAny_bind (wpAny_specialOf (T := "int") (typeIs_int s a t) (PySem.F.slot_int_repr).lookup ?_)
  refine wpAny_bind (m := callSpecialIfBound? (.int a t) _) (wpAny_callSpecialIfBound?_slot (T := "int") (typeIs_int s a t) PySem.F.slot_int_repr (call_givesAt PySem.F.slot_int_repr (typeIs_int s a t) PySem.F.entry_int_repr (PySem.F.args_int_repr_1 _) (big_code ha) hn ⟨big_fits ha, ?_⟩))
  refine wpAny_bind (wpAny_isInstance (T := "str") (b := true) rfl PySem.isSubtype_str_str ?_)
  exact wpAny_pure ⟨_, rfl, h⟩
theorem big_k {a : Int} {t : Tok} {bs : List Addr} {h₀ : Heap} {d : Nat} (hn : h₀.NoDigits) (ha : a.natAbs < 10 ^ 4300) : ReprK prog w bs h₀ d (.int a t) (toString a) := by
  intro base hb A g E s Q hg hcl hu hk hQ
  have hb' : base ≤ sizeLine := by omega
  rw [pyReprUnder_leaf (v := .int a t) hb' (fun _ e => nomatch e)]
  unfold pyRepr
  exact wpAny_bind (big_obj (hn.keeps hk) ha (wpAny_pure (hQ s.heap _ fun _ _ e => e)))
end
mutual
theorem rk {X : Cx} {pins : List (Addr × Obj)} {σ : St} {H : Hp} {s : Shared} (I : Inv X pins σ H s) (hn : s.heap.NoDigits) : ∀ (d : D) (v : V) (u : Value), Rp X.K M0 H v d → RelV v u → sw2 d = true → d.shown.length ≤ sizeLine →
    ∃ as bs, Reads s.heap u d as ∧ ReadAtMost s.heap d.depth bs ∧ ReprK X.prog X.w bs s.heap d.depth u d.shown
  | .none, _, _, r, rv, _, _ => by
    cases r
    cases rv
    exact ⟨[], [], .none, (fun _ h => nomatch h), .of_is ReprIs.none _ _ _⟩
  | .bool b, _, _, r, rv, _, _ => by
    cases r
    cases rv
    exact ⟨[], [], .bool b, (fun _ h => nomatch h), .of_is (ReprIs.bool b) _ _ _⟩
  | .int i, _, _, r, rv, hs, _ => by
    cases r
    obtain ⟨t, rfl⟩ := rv
    exact ⟨[], [], .int i t, (fun _ h => nomatch h), big_k hn (big_small (of_decide_eq_true hs))⟩
  | .str x, _, _, r, rv, _, hz => by
    cases r
    obtain ⟨t, rfl⟩ := rv
    exact ⟨[], [], .str x t, (fun _ h => nomatch h), .of_is (ReprIs.str x t hz) _ _ _⟩
  | .list ds, _, _, r, rv, hs, hz => by
    cases r with
    | @lst a vs _ h1 h2 =>
      cases rv
      obtain ⟨its, rvs, ⟨o, n, ho, hc, _, hd⟩, _⟩ := I.list h1.sq
      have hz2 : (listText (PyData.shownAll ds)).length ≤ sizeLine := hz
      obtain ⟨as, bs, ra, hb, hk⟩ := rkA I hn ds vs its h2 rvs hs (fun t ht => Nat.le_trans (listText_mem_le ht) hz2)
      have rr : Reads s.heap (.ref a) (.list ds) (a :: as) := .list ho hc hd ra
      have na : a ∉ bs := not_mem_of_deeper rr (Nat.lt_succ_self _) hb
      refine ⟨_, a :: bs, rr, ReadAtMost.cons rr (Nat.le_succ _) hb, ?_⟩
      cases its with
      | nil =>
        cases ra
        exact ReprK.listEmpty ho hc hd
      | cons x l => exact ReprK.list ho hc hd na (by simpa using hk.length_eq) (fun i y e => hk.item i y (by simpa using e))
  | .tuple ds, _, _, r, rv, hs, hz => by
    cases r with
    | @tup a vs _ h1 h2 =>
      cases rv
      obtain ⟨its, rvs, ⟨o, ho, hc, n, hd⟩, _⟩ := I.tuple h1.sq
      have hz2 : (tupleText (PyData.shownAll ds)).length ≤ sizeLine := hz
      obtain ⟨as, bs, ra, hb, hk⟩ := rkA I hn ds vs its h2 rvs hs (fun t ht => Nat.le_trans (tupleText_mem_le ht) hz2)
      have rr : Reads s.heap (.ref a) (.tuple ds) as := .tuple ho hc hd ra
      have na : a ∉ bs := not_mem_of_deeper rr (Nat.lt_succ_self _) hb
      exact ⟨_, a :: bs, rr, ReadAtMost.cons rr (Nat.le_succ _) hb, ReprK.tuple ho hc hd na hk⟩
  | .dict kvs, _, _, r, rv, hs, hz => by
    cases r with
    | @dic a ks _ _ h k =>
      cases rv
      obtain ⟨_, nsm, vs, kv, o, es, ep, ho, ex, hdt, _, pr, _⟩ := (show ObjOk X.prog X.w H s.heap a (.dK ks) from I.hok a _ h)
      have hz2 : (dictText (PyData.shownKv kvs)).length ≤ sizeLine := hz
      obtain ⟨as, as', bs, bs', r1, r2, m1, m2, k1, k2⟩ := rkV I hn kvs ks vs es.toList k kv pr hs
        (fun t ht => let ⟨p, hp, hl⟩ := PyData.shownKv_key_le kvs t ht; Nat.le_trans hl (Nat.le_trans (dictText_mem_le hp) hz2))
        (fun t ht => let ⟨p, hp, hl⟩ := PyData.shownKv_val_le kvs t ht; Nat.le_trans hl (Nat.le_trans (dictText_mem_le hp) hz2))
      have rr : Reads s.heap (.ref a) (.dict kvs) _ := .dict ho ex.1 hdt r1 r2
      have hb : ReadAtMost s.heap (PyData.depthKv kvs) (bs ++ bs') := (m1.mono (PyData.depthAll_keys_le kvs)).append (m2.mono (PyData.depthAll_vals_le kvs))
      have na : a ∉ bs ++ bs' := not_mem_of_deeper rr (Nat.lt_succ_self _) hb
      have nsy : (a == sysModules) = false := by simpa using nsm
      refine ⟨_, a :: (bs ++ bs'), rr, ReadAtMost.cons rr (Nat.le_succ _) hb, ?_⟩
      show ReprK _ _ _ _ (PyData.depthKv kvs + 1) _ (dictText (PyData.shownKv kvs))
      rw [PyData.shownKv_eq]
      exact ReprK.dict ho ex.1 hdt nsy na (ReprEntriesK.of_two es.toList _ _ (k1.more_le (fun b hb => List.mem_append_left _ hb) (PyData.depthAll_keys_le kvs)) (k2.more_le (fun b hb => List.mem_append_right _ hb) (PyData.depthAll_vals_le kvs)))
theorem rkA {X : Cx} {pins : List (Addr × Obj)} {σ : St} {H : Hp} {s : Shared} (I : Inv X pins σ H s) (hn : s.heap.NoDigits) : ∀ (ds : List D) (vs : List V) (us : List Value), RpA X.K M0 H vs ds → Vals vs us → sw2A ds = true → (∀ t ∈ PyData.shownAll ds, t.length ≤ sizeLine) →
    ∃ as bs, ReadsAll s.heap us ds as ∧ ReadAtMost s.heap (PyData.depthAll ds) bs ∧ ReprAllK X.prog X.w bs s.heap (PyData.depthAll ds) us (PyData.shownAll ds)
  | [], _, _, r, rv, _, _ => by
    cases r
    cases rv
    exact ⟨[], [], .nil, (fun _ h => nomatch h), .nil⟩
  | d :: ds, _, _, r, rv, hs, hz => by
    cases r with
    | cons r1 r2 =>
      cases rv with
      | cons v1 v2 =>
        have hs : (sw2 d && sw2A ds) = true := hs
        rw [Bool.and_eq_true] at hs
        obtain ⟨as, bs, q1, q2, q3⟩ := rk I hn d _ _ r1 v1 hs.1 (hz _ List.mem_cons_self)
        obtain ⟨as', bs', q4, q5, q6⟩ := rkA I hn ds _ _ r2 v2 hs.2 (fun t ht => hz t (List.mem_cons_of_mem _ ht))
        exact ⟨_, bs ++ bs', .cons q1 q4, (q2.mono (Nat.le_max_left _ _)).append (q5.mono (Nat.le_max_right _ _)), .cons ((q3.more fun b hb => List.mem_append_left _ hb).level_le (Nat.le_max_left _ _)) (q6.more_le (fun b hb => List.mem_append_right _ hb) (Nat.le_max_right _ _))⟩
theorem rkV {X : Cx} {pins : List (Addr × Obj)} {σ : St} {H : Hp} {s : Shared} (I : Inv X pins σ H s) (hn : s.heap.NoDigits) : ∀ (kvs : List (D × D)) (ks : List (Key × V)) (vs : List (Key × Value)) (es : List DictEntry), RpK X.K M0 H ks kvs → KV ks vs → Pairs (mixKind X.prog X.w) es vs → sw2K kvs = true →
    (∀ t ∈ PyData.shownAll (kvs.map (·.1)), t.length ≤ sizeLine) → (∀ t ∈ PyData.shownAll (kvs.map (·.2)), t.length ≤ sizeLine) →
    ∃ as as' bs bs', ReadsAll s.heap (es.map (·.key)) (kvs.map (·.1)) as ∧ ReadsAll s.heap (es.map (·.val)) (kvs.map (·.2)) as' ∧ ReadAtMost s.heap (PyData.depthAll (kvs.map (·.1))) bs ∧ ReadAtMost s.heap (PyData.depthAll (kvs.map (·.2))) bs' ∧
      ReprAllK X.prog X.w bs s.heap (PyData.depthAll (kvs.map (·.1))) (es.map (·.key)) (PyData.shownAll (kvs.map (·.1))) ∧ ReprAllK X.prog X.w bs' s.heap (PyData.depthAll (kvs.map (·.2))) (es.map (·.val)) (PyData.shownAll (kvs.map (·.2)))
  | [], _, _, _, r, kv, pr, _, _, _ => by
    cases r
    cases kv
    cases pr
    exact ⟨[], [], [], [], .nil, .nil, (fun _ h => nomatch h), (fun _ h => nomatch h), .nil, .nil⟩
  | (kd, d) :: kvs, _, _, _, r, kv, pr, hs, hz1, hz2 => by
    cases r with
    | @cons k v _ _ _ a b =>
      cases kv with
      | @cons _ kw _ _ r1 r2 =>
        cases pr with
        | @cons e _ es _ p1 p2 p3 =>
          have hs : (((scD (kD k) && sw2 (kD k)) && sw2 d) && sw2K kvs) = true := hs
          rw [Bool.and_eq_true, Bool.and_eq_true, Bool.and_eq_true] at hs
          obtain ⟨⟨⟨_, s1⟩, s2⟩, s3⟩ := hs
          obtain ⟨as, as', bs, bs', q1, q2, m1, m2, k1, k2⟩ := rkV I hn kvs _ _ _ b r2 p3 s3 (fun t ht => hz1 t (List.mem_cons_of_mem _ ht)) (fun t ht => hz2 t (List.mem_cons_of_mem _ ht))
          have e1 : k = kw.1 := r1.1
          have rv : RelV v kw.2 := r1.2
          obtain ⟨av, bv, u1, u2, u3⟩ := rk I hn d v kw.2 a rv s2 (hz2 _ List.mem_cons_self)
          rw [← p2] at u1 u3
          have rk1 : Reads s.heap e.key (kD k) [] ∧ ReprK X.prog X.w [] s.heap (kD k).depth e.key (kD k).shown := by
            rw [← e1, mixKind_is] at p1
            have hz0 : (kD k).shown.length ≤ sizeLine := hz1 _ List.mem_cons_self
            rcases keyIs_shape p1 with ⟨i, t, z1, z2⟩ | ⟨x, t, z1, z2⟩
            · subst z1
              rw [z2]
              exact ⟨.int i t, big_k hn (big_small (of_decide_eq_true s1))⟩
            · subst z1
              rw [z2]
              exact ⟨.str x t, .of_is (ReprIs.str x t hz0) _ _ _⟩
          refine ⟨_, _, [] ++ bs, bv ++ bs', .cons rk1.1 q1, .cons u1 q2, ?_, (u2.mono (Nat.le_max_left _ _)).append (m2.mono (Nat.le_max_right _ _)), .cons (rk1.2.more (fun b hb => nomatch hb) |>.level_le (Nat.le_max_left _ _)) (k1.more_le (fun b hb => List.mem_append_right _ hb) (Nat.le_max_right _ _)), .cons ((u3.more fun b hb => List.mem_append_left _ hb).level_le (Nat.le_max_left _ _)) (k2.more_le (fun b hb => List.mem_append_right _ hb) (Nat.le_max_right _ _))⟩
          exact m1.mono (Nat.le_max_right _ _)
end
end Tq
namespace Tq
open PySem PySem.Spec PyProof.Rows L2
def rReprX (K : Fg) : List V → Hp → VK → Prop := fun xs H Q => ∃ x d, xs = [x] ∧ Rp K M0 H x d ∧ sw2 d = true ∧ d.depth ≤ 60 ∧ d.shown.length ≤ sizeLine ∧ Q (.str d.shown) H
theorem call_reprX {X : Cx} (hg : X.A.guards = some []) (hu : X.A.units + 64 < cLine) (hdg : X.base.NoDigits) : CallR X (.builtin "repr") (rReprX X.K) := by
  intro pins s σ H xs us Q I r h
  obtain ⟨x, d, rfl, rx, hs, hd, hz, q⟩ := h
  obtain ⟨u, rfl, rv⟩ := vals1 r
  have hn : s.heap.NoDigits := hdg.keeps fun b o e => (I.env0.bs b o e).1
  have fin : ∀ tk t h', (∀ b o, s.heap.get? b = some o → h'.get? b = some o) → EP X pins σ Q (.str d.shown t) { s with heap := h', toks := tk } := fun tk t h' k => ⟨.str d.shown, H, I.kept (t' := tk) k, ⟨t, rfl⟩, q⟩
  cases rx with
  | non =>
    cases (show u = Value.none from rv)
    exact PySem.P.repr_of_none (by have := fin (s.toks + 1) s.toks s.heap (fun _ _ e => e); simpa only [PyData.shown] using this)
  | bl b =>
    cases (show u = Value.bool b from rv)
    exact PySem.P.repr_of_bool (by have := fin (s.toks + 1) s.toks s.heap (fun _ _ e => e); simpa only [PyData.shown] using this)
  | int b =>
    obtain ⟨t, e⟩ := (show ∃ t, u = Value.int b t from rv)
    cases e
    exact big_call hn (big_small (of_decide_eq_true hs)) (fin (s.toks + 1) s.toks s.heap (fun _ _ e => e))
  | str b =>
    obtain ⟨t, e⟩ := (show ∃ t, u = Value.str b t from rv)
    cases e
    exact PySem.P.repr_of_str (by have := fin (s.toks + 1) s.toks s.heap (fun _ _ e => e); simpa only [PyData.shown] using this) (by simpa only [PyData.shown] using hz)
  | @lst a vs ds h1 h2 =>
    cases (show u = Value.ref a from rv)
    obtain ⟨its, rvs, ⟨o, n, ho, hc, _, hdt⟩, _⟩ := I.list h1.sq
    have hz2 : (listText (PyData.shownAll ds)).length ≤ sizeLine := hz
    have hd2 : PyData.depthAll ds + 1 ≤ 60 := hd
    obtain ⟨as, bs, ra, hb, hk⟩ := rkA I hn ds vs its h2 rvs hs (fun t ht => Nat.le_trans (listText_mem_le ht) hz2)
    have na : a ∉ bs := not_mem_of_deeper (.list ho hc hdt ra) (Nat.lt_succ_self _) hb
    refine call_repr_slot (by omega) ⟨o, ho, hc⟩ PySem.F.slot_list_repr.toG ?_
    cases its with
    | nil =>
      cases ra
      exact call_list_repr_empty ⟨o, ho, hc⟩ ho hdt ⟨_, _, rfl, fin _ _ s.heap fun _ _ e => e⟩
    | cons x l => exact call_list_reprK (g := []) ho hc hdt na (by simpa using hk.length_eq) (fun i y e => hk.item i y (by simpa using e)) hg (fun b _ => Clear.nil b) (by show X.A.units + 1 + (PyData.depthAll ds + 1) < cLine; omega) (fun _ _ e => e) (fun h' t tk k => ⟨_, _, rfl, fin tk t h' k⟩) hz2
  | @tup a vs ds h1 h2 =>
    cases (show u = Value.ref a from rv)
    obtain ⟨its, rvs, ⟨o, ho, hc, n, hdt⟩, _⟩ := I.tuple h1.sq
    have hz2 : (tupleText (PyData.shownAll ds)).length ≤ sizeLine := hz
    have hd2 : PyData.depthAll ds + 1 ≤ 60 := hd
    obtain ⟨as, bs, ra, hb, hk⟩ := rkA I hn ds vs its h2 rvs hs (fun t ht => Nat.le_trans (tupleText_mem_le ht) hz2)
    have na : a ∉ bs := not_mem_of_deeper (.tuple ho hc hdt ra) (Nat.lt_succ_self _) hb
    refine call_repr_slot (by omega) ⟨o, ho, hc⟩ PySem.F.slot_tuple_repr ?_
    exact call_tuple_reprK (g := []) ho hc hdt na hk hg (fun b _ => Clear.nil b) (by show X.A.units + 1 + (PyData.depthAll ds + 1) < cLine; omega) (fun _ _ e => e) (fun h' t tk k => ⟨_, _, rfl, fin tk t h' k⟩) hz2
  | @dic a ks kvs _ h k =>
    cases (show u = Value.ref a from rv)
    obtain ⟨_, nsm, vs, kv, o, es, ep, ho, ex, hdt, _, pr, _⟩ := (show ObjOk X.prog X.w H s.heap a (.dK ks) from I.hok a _ h)
    have hz2 : (dictText (PyData.shownKv kvs)).length ≤ sizeLine := hz
    have hd2 : PyData.depthKv kvs + 1 ≤ 60 := hd
    obtain ⟨as, as', bs, bs', r1, r2, m1, m2, k1, k2⟩ := rkV I hn kvs ks vs es.toList k kv pr hs
      (fun t ht => let ⟨p, hp, hl⟩ := PyData.shownKv_key_le kvs t ht; Nat.le_trans hl (Nat.le_trans (dictText_mem_le hp) hz2))
      (fun t ht => let ⟨p, hp, hl⟩ := PyData.shownKv_val_le kvs t ht; Nat.le_trans hl (Nat.le_trans (dictText_mem_le hp) hz2))
    have hb : ReadAtMost s.heap (PyData.depthKv kvs) (bs ++ bs') := (m1.mono (PyData.depthAll_keys_le kvs)).append (m2.mono (PyData.depthAll_vals_le kvs))
    have na : a ∉ bs ++ bs' := not_mem_of_deeper (.dict ho ex.1 hdt r1 r2) (Nat.lt_succ_self _) hb
    have nsy : (a == sysModules) = false := by simpa using nsm
    refine call_repr_slot (by omega) ⟨o, ho, ex.1⟩ PySem.F.slot_dict_repr ?_
    have ew : PyData.shown (.dict kvs) = dictText (List.zipWith (fun k v : Str => k ++ ": " ++ v) (PyData.shownAll (kvs.map (·.1))) (PyData.shownAll (kvs.map (·.2)))) := by show dictText (PyData.shownKv kvs) = _; rw [PyData.shownKv_eq]
    rw [ew] at fin
    exact call_dict_reprK (g := []) ho ex.1 hdt nsy na (ReprEntriesK.of_two es.toList _ _ (k1.more_le (fun b hb => List.mem_append_left _ hb) (PyData.depthAll_keys_le kvs)) (k2.more_le (fun b hb => List.mem_append_right _ hb) (PyData.depthAll_vals_le kvs))) hg (fun b _ => Clear.nil b) (by show X.A.units + 1 + (PyData.depthKv kvs + 1) < cLine; omega) (fun _ _ e => e) (fun h' t tk k => ⟨_, _, rfl, fin tk t h' k⟩) (by rw [← PyData.shownKv_eq]; exact hz2)
end Tq
namespace Tq
open PySem PySem.Spec PyProof.Rows L2
section
variable {P : Program} {w : World} {K : Fg} {mg mb : Str → Option Value} {CX : CXT} {k : Nat} {fa a : Addr} {fd : FuncData} {x : Str} {sp : Sp} {s₁ : Shared} {vs : List Value} {ns : List Int}
theorem law_coreD (KX : K.In s₁.heap) (hns : s₁.heap.Ns mainGlobals mg) (hb : s₁.heap.Ns builtinsNs mb) (hbb : ∀ x : Str, x ≠ "__name__" → mb x = bootBuiltins x) (hlim : s₁.heap.NoLimit) (hdg : s₁.heap.NoDigits) (hg : s₁.gens = #[])
    (ha : s₁.heap.get? a = some { cls := .type "list", data := .seq vs.toArray }) (hr : Room k callerA)
    (F : ∀ base : Heap, K.In base → base.Ns mainGlobals mg → base.NoDigits → FnG P w K mg base CX k fa fd [x] sp) (hbind : ∀ (s : Shared) (u : Value), BindsTo s fd ⟨[u], []⟩ [(x, u)])
    (hCX : ∀ H e s', CX [] H s₁ (fun _ _ _ => False) e s' → False)
    (H : Hp) (hsp : sp [.ref a] H (fun v _ => v = .bl true) fun _ _ _ => False) (hO : Only H) (hok : HOk P w H s₁.heap) (hA : ∀ b, H b ≠ none → b = a) (hK : H a ≠ none → K.lookup a = none) :
    codeAny (model P w) callerA (.call (.ref fa) ⟨[.ref a], []⟩) (LawEnd s₁) s₁ := by
  have isA : ∀ {b : Addr} {u : HO}, H b = some u → b = a := fun {b u} q => hA b (by rw [q]; simp)
  have noA : ∀ {b : Addr} {o : Obj} {es : Array DictEntry} {ep : Nat}, s₁.heap.get? b = some o → o.data = .dict es ep → H b = none := by
    intro b o es ep e d
    cases q : H b with
    | none => rfl
    | some u =>
      rw [isA q, ha] at e
      cases e
      cases (show Data.seq vs.toArray _ = Data.dict es ep from d)
  have nsK : ∀ {b : Addr} {m : Str → Option Value}, s₁.heap.Ns b m → (hidT s₁.heap H).Ns b m := fun {b m} ⟨o, es, ep, e, d, r⟩ => ⟨o, es, ep, hidT_get e (noA e d), d, r⟩
  have hKb : K.In (hidT s₁.heap H) := by
    intro b o e
    refine hidT_get (KX b o e) ?_
    cases q : H b with
    | none => rfl
    | some u =>
      have eb := isA q
      subst eb
      rw [hK (by rw [q]; simp)] at e
      cases e
  obtain ⟨mc, lim1, lim2⟩ := hlim
  have hM : Mod K mg (hidT s₁.heap H) := ⟨hKb, nsK hns, ⟨mb, nsK hb, hbb⟩, ⟨mc, nsK lim1, lim2⟩⟩
  have e0 : Env0 P w K mg (hidT s₁.heap H) callerA [] s₁ H :=
    ⟨rfl, hM, fun b o e => of_hidT e, Nat.le_of_eq (hidT_size _ _), trivial, fun b hb => absurd (show b ∈ ([] : List Addr) from hb) (by simp), hok, .of_eq hg⟩
  refine codeAny_mono ((F _ hKb (nsK hns) (let ⟨mc, n1, n2⟩ := hdg; ⟨mc, nsK n1, n2⟩)).run callerA [] s₁ H ⟨[.ref a], []⟩ [.ref a] [.ref a] _ _ hr rfl e0 (hbind s₁ (.ref a)) (.cons rfl .nil) hsp) fun r s' h => ?_
  cases r with
  | error e => exact (hCX H e s' h).elim
  | ok fl =>
    cases fl
    case ret u =>
      obtain ⟨v, G, os, bare, un, hok', r', q⟩ := h
      cases (show v = .bl true from q)
      cases (show u = Value.bool true from r')
      refine ⟨rfl, OldK.of_keep fun b o e => ?_, os, bare⟩
      rcases hO b with z | ⟨ob, xs, z⟩
      · exact un.keep b o e z (by intro zz; exact absurd (show b ∈ ([] : List Addr) from zz) (by simp)) (by simp)
      · obtain ⟨e1, _⟩ := hok b _ z
        obtain ⟨e2, _⟩ := hok' b _ (un.frzs b ob _ z)
        rw [e] at e1
        cases e1
        exact e2
    all_goals exact False.elim h
/-- the law's promise at the heap behind the top, the guards told -/
theorem law_callD (KX : K.In s₁.heap) (hns : s₁.heap.Ns mainGlobals mg) (hb : s₁.heap.Ns builtinsNs mb) (hbb : ∀ x : Str, x ≠ "__name__" → mb x = bootBuiltins x) (hlim : s₁.heap.NoLimit) (hdg : s₁.heap.NoDigits) (hg : s₁.gens = #[])
    (ha : s₁.heap.get? a = some { cls := .type "list", data := .seq vs.toArray }) (hi : IntsAre vs ns) (hl : ns.length ≤ sizeLine) (hr : Room k callerA)
    (F : ∀ base : Heap, K.In base → base.Ns mainGlobals mg → base.NoDigits → FnG P w K mg base CX k fa fd [x] sp) (hbind : ∀ (s : Shared) (u : Value), BindsTo s fd ⟨[u], []⟩ [(x, u)])
    (hsp : ∀ H : Hp, Only H → SqL K H a (ns.map V.int) → sp [.ref a] H (fun v _ => v = .bl true) fun _ _ _ => False)
    (hCX : ∀ H e s', CX [] H s₁ (fun _ _ _ => False) e s' → False) :
    codeAny (model P w) callerA (.call (.ref fa) ⟨[.ref a], []⟩) (LawEnd s₁) s₁ := by
  have rv := vals_ints hi
  cases hk : K.lookup a with
  | some o =>
    have e := KX a o hk
    rw [ha] at e
    cases e
    have hO : Only (fun _ => none) := fun _ => .inl rfl
    refine law_coreD KX hns hb hbb hlim hdg hg ha hr F hbind hCX (fun _ => none) (hsp _ hO ?_) hO (fun b u z => by cases z) (fun b z => absurd rfl z) fun z => absurd rfl z
    refine .inr ⟨_, vs.toArray, _, hk, rfl, rfl, rfl, ?_, by simpa using rv⟩
    rw [List.size_toArray, hi.length]
    exact hl
  | none =>
    have ob : (({ cls := .type "list", data := .seq vs.toArray } : Obj)) = { cls := .type "list", data := .seq vs.toArray } := rfl
    generalize hH : (fun b : Addr => if b = a then some (HO.frz { cls := .type "list", data := .seq vs.toArray } (.lst (ns.map V.int))) else none) = H
    have at1 : H a = some (HO.frz { cls := .type "list", data := .seq vs.toArray } (.lst (ns.map V.int))) := by rw [← hH]; exact if_pos rfl
    have at2 : ∀ b, b ≠ a → H b = none := fun b hb => by rw [← hH]; exact if_neg hb
    have hO : Only H := fun b => by
      by_cases hb : b = a
      · subst hb; exact .inr ⟨_, _, at1⟩
      · exact .inl (at2 b hb)
    refine law_coreD KX hns hb hbb hlim hdg hg ha hr F hbind hCX H (hsp _ hO (.inl (.inr ⟨_, at1⟩))) hO (fun b u z => ?_) (fun b z => ?_) fun _ => hk
    · by_cases hb : b = a
      · subst hb
        rw [at1] at z
        cases z
        exact ⟨ha, by rw [List.length_map]; exact hl, vs, _, rv, ha⟩
      · rw [at2 b hb] at z; cases z
    · by_cases hb : b = a
      · exact hb
      · exact absurd (at2 b hb) z
end
theorem walk_ofD {l : PySem.W.OpenLaw} {n k : Nat} {q : Program} {loose : List Str} {XP : (Str → Option Value) → Heap → Prop} {YP : World → Heap → Prop} {d : DefRec} {K : Params → Fg} {sp : Fg → Sp} {x : Str}
    (hn : l.most = some n) (hn2 : n ≤ sizeLine) (hdf : d.params.defaults = []) (hr : Room k callerA)
    (hY : ∀ (w : World) (h : Heap), YP w h → (K w.params).In h)
    (F : ∀ (w : World) (mg : Str → Option Value) (fa : Addr) (h : Heap), (K w.params).In h → h.Ns mainGlobals mg → mg d.name = some (.ref fa) →
      ∃ fd : FuncData, (∀ (s : Shared) (u : Value), BindsTo s fd ⟨[u], []⟩ [(x, u)]) ∧
        ∀ base : Heap, (K w.params).In base → base.Ns mainGlobals mg → base.NoDigits → FnG l.prog w (K w.params) mg base CX0 k fa fd [x] (sp (K w.params)))
    (hsp : ∀ (K : Fg) (H : Hp) (a : Addr) (ns : List Int), ns.length ≤ n → Only H → SqL K H a (ns.map V.int) → sp K [.ref a] H (fun v _ => v = .bl true) fun _ _ _ => False) :
    PySem.W.WalkO q loose XP YP l.row.toRowW d [] (fun f vs => PySem.call f vs) := by
  refine Att.attach_call hn hdf fun w s₀ s₁ mg mb fa o pm cd doc a vs ns G Y ho hd hcd hmg hobj hints hlen hg => ?_
  have KX := hY w _ Y
  obtain ⟨fd, hb, hF⟩ := F w mg fa _ KX G.T.g hmg
  exact law_callD KX G.T.g G.T.b G.T.builtins G.T.nolimit G.T.nodigits hg hobj hints (Nat.le_trans hlen hn2) hr hF hb (fun H hO hS => hsp (K w.params) H a ns hlen hO hS) fun H e s' h => h
end Tq
namespace Tq
open PySem PySem.Spec PyProof.Rows L2
theorem law_mkD {P : Program} {w : World} {K : Fg} {h : Heap} {mg : Str → Option Value} {st : Stmt} {x : Str} {f fa : Addr} {n : Nat} {sp : Sp} {od an : Option Addr} {sl : Array (Option Value)} {oc kV dc pm cd ct : Value} (X : K.In h) (G : h.Ns mainGlobals mg) (hfa : mg "law" = some (.ref fa))
    (ok : ∀ (base : Heap) (f : Addr) (fd : FuncData), base.NoDigits → Fun K "law" "law" st f fd → FnG P w K mg base CX0 n f fd [x] sp)
    (hb : ∀ (kV dc pm : Value) (an : Option Addr) (cd ct : Value) (s : Shared) (u : Value), BindsTo s (PySem.W.fnOf "law" "law" (defArgs st) (defBody st) (defScope st) .none kV dc pm an cd ct) ⟨[u], []⟩ [(x, u)])
    (a : PySem.W.nsIn K mainGlobals "law" = some (some (.ref f))) (l : K.lookup f = some ⟨oc, od, .func (PySem.W.fnOf "law" "law" (defArgs st) (defBody st) (defScope st) .none kV dc pm an cd ct), sl⟩) (c : PySem.W.codeIn K cd "law" = true) (k : PySem.W.keepIn K (.ref f) = true) :
    ∃ fd : FuncData, (∀ (s : Shared) (u : Value), BindsTo s fd ⟨[u], []⟩ [(x, u)]) ∧ ∀ base : Heap, K.In base → base.Ns mainGlobals mg → base.NoDigits → FnG P w K mg base CX0 n fa fd [x] sp := by
  have e := hfa.symm.trans (PySem.W.mg_of X G a)
  cases e
  exact ⟨_, hb kV dc pm an cd ct, fun base _ _ dg => ok base _ _ dg (fun_mk l c k)⟩
/-- what may be shown -/
structure ShX (d : D) : Prop where
  sw : sw2 d = true
  dp : d.depth ≤ 60
  ln : d.shown.length ≤ sizeLine
theorem reprXK {X : Cx} (K : Fg) (hg : X.A.guards = some []) (hu : X.A.units + 64 < cLine) (hd : X.base.NoDigits) (h : X.K = K := by rfl) : CallR X (.builtin "repr") (rReprX K) := h ▸ call_reprX hg hu hd
theorem wE_reprX {C : Ct} {y : S} {te : TE} {Q : Z → S → Prop} (w : wE C te y fun z y1 => ∃ d, z = .d d ∧ ShX d ∧ Q (.d (.str d.shown)) y1) : wE C (tCB (rReprX C.K) (tCons te tNil)) y Q := by
  intro F σ H K wd k
  refine w F σ H _ wd fun x H1 z y1 w1 g1 s1 r1 q1 => ?_
  obtain ⟨d, rfl, ⟨h1, h2, h3⟩, h⟩ := q1
  exact ⟨x, d, rfl, Rp.any r1, h1, h2, h3, k _ H1 (.d (.str d.shown)) y1 w1 g1 s1 (.str _) h⟩
end Tq

set_option maxRecDepth 100000
set_option maxHeartbeats 4000000
namespace Tq
open PySem PySem.Spec PyProof.Rows L2
/-! ### how long the text of data is that holds great whole numbers -/
structure Shx (b k : Nat) (d : D) : Prop where
  sw : sw2 d = true
  dp : d.depth ≤ k
  ln : d.shown.length ≤ b
theorem Shx.ok {b k : Nat} {d : D} (h : Shx b k d) (hb : b ≤ 10000000 := by decide) (hk : k ≤ 60 := by decide) : ShX d :=
  ⟨h.sw, Nat.le_trans h.dp hk, Nat.le_trans h.ln (Nat.le_trans hb (by decide))⟩
theorem Shx.mono {b k b' k' : Nat} {d : D} (h : Shx b k d) (hb : b ≤ b') (hk : k ≤ k') : Shx b' k' d := ⟨h.sw, Nat.le_trans h.dp hk, Nat.le_trans h.ln hb⟩
theorem rx_int {i : Int} {k : Nat} (h : i.natAbs < 10 ^ k) (hk : 0 < k := by decide) (h2 : k ≤ 3600 := by decide) : Shx (k + 1) 0 (.int i) := by
  refine ⟨?_, Nat.le_refl _, ?_⟩
  · refine decide_eq_true (log2_lt (Nat.lt_of_lt_of_le h ?_) (by decide))
    exact Nat.le_trans (Nat.pow_le_pow_right (by decide) h2) (by decide +kernel)
  · show (Str.ofString (toString i)).length ≤ _
    rw [PySem.ofString_length]
    exact int_text_length_le10 hk h
theorem rx_all {b k : Nat} {xs : List D} (h : ∀ x ∈ xs, Shx b k x) : sw2A xs = true ∧ PyData.depthAll xs ≤ k ∧ ((PyData.shownAll xs).map (·.length)).sum ≤ xs.length * b := by
  induction xs with
  | nil => exact ⟨rfl, Nat.zero_le _, Nat.zero_le _⟩
  | cons x r ih =>
    obtain ⟨h1, h2, h3⟩ := ih fun z hz => h z (List.mem_cons_of_mem _ hz)
    obtain ⟨g1, g2, g3⟩ := h x List.mem_cons_self
    refine ⟨?_, ?_, ?_⟩
    · show (sw2 x && sw2A r) = true
      rw [g1, h1]; rfl
    · show max x.depth (PyData.depthAll r) ≤ k
      omega
    · show ((x.shown :: PyData.shownAll r).map (·.length)).sum ≤ _
      rw [List.map_cons, List.sum_cons, List.length_cons, Nat.succ_mul]
      omega
theorem rx_list {b k : Nat} {xs : List D} (h : ∀ x ∈ xs, Shx b k x) : Shx (xs.length * (b + 2) + 3) (k + 1) (.list xs) := by
  obtain ⟨h2, h3, h4⟩ := rx_all h
  refine ⟨h2, Nat.succ_le_succ h3, ?_⟩
  have := listText_len_le (PyData.shownAll xs)
  have hl : (PyData.shownAll xs).length = xs.length := by rw [shownAll_map, List.length_map]
  show (listText (PyData.shownAll xs)).length ≤ _
  rw [Nat.mul_add]
  omega
theorem rx_tup {b k : Nat} {xs : List D} (h : ∀ x ∈ xs, Shx b k x) : Shx (xs.length * (b + 2) + 3) (k + 1) (.tuple xs) := by
  obtain ⟨h2, h3, h4⟩ := rx_all h
  refine ⟨h2, Nat.succ_le_succ h3, ?_⟩
  have := tupleText_len_le (PyData.shownAll xs)
  have hl : (PyData.shownAll xs).length = xs.length := by rw [shownAll_map, List.length_map]
  show (tupleText (PyData.shownAll xs)).length ≤ _
  rw [Nat.mul_add]
  omega
theorem shx_fr {a b : Int} (ha : Bd 1600 a) (hb : Bd 1600 b) : Shx 3300 1 (fr a b) := by
  have := rx_tup (b := 1601) (k := 0) (xs := [.int a, .int b]) (fun x hx => by
    simp only [List.mem_cons, List.not_mem_nil, or_false] at hx
    rcases hx with rfl | rfl
    · exact rx_int ha
    · exact rx_int hb)
  exact this.mono (by simp) (by decide)
end Tq

set_option maxRecDepth 100000
set_option maxHeartbeats 2000000
/-! Slots with labels, a store of things that may change, exceptions -/
namespace Ux
open PySem PySem.Spec PyProof.Rows L2 Tq
abbrev St := L2.St
abbrev D := PyData
inductive Z where
  | d (d : D)
  | lab (a : Addr)
  | tup (zs : List Z)
  | lst (zs : List Z)
  | exc (a dd : Addr) (z : Z)
  | ob (C : Addr) (ks : List Str) (zs : List Z)
  | nm (f : Str) (z : Z)
/-- what an exception's field is called, and holds -/
def keyZ : Z → Str
  | .nm f _ => f
  | _ => "found"
def valZ : Z → Z
  | .nm _ z => z
  | z => z
inductive Cell where
  | lst (zs : List Z)
  | ins (C : Addr) (ks : List Str) (zs : List Z)
  | dic (kvs : List (Key × Z))
  | pu (n : Nat)
  | ro (c : Cell)
def Cell.isRo : Cell → Bool
  | .ro _ => true
  | _ => false
structure Cl where
  a : Addr
  own : Bool
  c : Cell
structure S where
  l : List (Option Z)
  m : List Cl
def S.set (y : S) (i : Nat) (z : Option Z) : S := ⟨y.l.set i z, y.m⟩
structure Ex where
  cls : Value
  found : Z
structure Ct where
  K : Fg
  W : WX := fun _ _ _ _ => False
  ex : Ex → S → Prop := fun _ _ => False
structure Fr where
  H0 : Hp
  S0 : Addr → Prop
  M0 : Addr → Prop
  st : Bool
def Dom (m : List Cl) (a : Addr) : Prop := ∃ e ∈ m, e.a = a
/-- what may be written -/
def DomW (m : List Cl) (a : Addr) : Prop := ∃ e ∈ m, e.a = a ∧ e.c.isRo = false
def Mv (F : Fr) (_ : St) (y : S) (a : Addr) : Prop := F.M0 a ∨ Dom y.m a
mutual
inductive Rw (K : Fg) (M : Addr → Prop) (H : Hp) : V → Z → Prop
  | d {v : V} {d : D} : Rp K M H v d → Rw K M H v (.d d)
  | lab (a : Addr) : Rw K M H (.ref a) (.lab a)
  | tup {a : Addr} {xs : List V} {zs : List Z} : TsA K M H a xs → RwA K M H xs zs → Rw K M H (.ref a) (.tup zs)
  | lst {a : Addr} {xs : List V} {zs : List Z} : LsA K M H a xs → RwA K M H xs zs → Rw K M H (.ref a) (.lst zs)
  | exc {a dd : Addr} {v : V} {z : Z} : ¬ M dd → H dd = some (.xd [(keyZ z, v)]) → Rw K M H v (valZ z) → Rw K M H (.ref a) (.exc a dd z)
  | ob {a dx C : Addr} {ks : List Str} {xs : List V} {zs : List Z} : ¬ M a → H a = some (.ins C dx (ks.zip xs)) → ks.length = xs.length → RwA K M H xs zs → Rw K M H (.ref a) (.ob C ks zs)
inductive RwA (K : Fg) (M : Addr → Prop) (H : Hp) : List V → List Z → Prop
  | nil : RwA K M H [] []
  | cons {v : V} {z : Z} {vs : List V} {zs : List Z} : Rw K M H v z → RwA K M H vs zs → RwA K M H (v :: vs) (z :: zs)
end
section
variable {K : Fg} {M M' : Addr → Prop} {H H' : Hp}
theorem Rw.go (g : GoH M H M' H') {v : V} {z : Z} (r : Rw K M H v z) : Rw K M' H' v z :=
  Rw.rec (motive_1 := fun v z _ => Rw K M' H' v z) (motive_2 := fun vs zs _ => RwA K M' H' vs zs)
    (fun h => .d (h.go g)) .lab (fun h _ i => .tup (h.go g) i) (fun h _ i => .lst (h.go g) i) (fun n h _ i => .exc (g _ _ n h).1 (g _ _ n h).2 i) (fun n h l _ i => .ob (g _ _ n h).1 (g _ _ n h).2 l i) .nil (fun _ _ a b => .cons a b) r
theorem RwA.go (g : GoH M H M' H') : ∀ {vs : List V} {zs : List Z}, RwA K M H vs zs → RwA K M' H' vs zs
  | _, _, .nil => .nil
  | _, _, .cons a b => .cons (a.go g) (b.go g)
theorem Rw.kz {v : V} {z : Z} (r : Rw K M H v z) : keyZ z = "found" ∧ valZ z = z := by cases r <;> exact ⟨rfl, rfl⟩
theorem RwA.len : ∀ {vs : List V} {zs : List Z}, RwA K M H vs zs → vs.length = zs.length
  | _, _, .nil => rfl
  | _, _, .cons _ b => congrArg (· + 1) b.len
theorem RwA.get : ∀ {vs : List V} {zs : List Z} {i : Nat} {z : Z}, RwA K M H vs zs → zs[i]? = some z → ∃ v, vs[i]? = some v ∧ Rw K M H v z
  | _, _, _, _, .nil, e => by simp at e
  | _, _, 0, _, .cons a _, e => by simp at e; subst e; exact ⟨_, rfl, a⟩
  | _, _, i + 1, d, .cons _ b, e => by
    obtain ⟨u, h1, h2⟩ := b.get (i := i) (z := d) (by simpa using e)
    exact ⟨u, by simpa using h1, h2⟩
theorem RwA.getV : ∀ {vs : List V} {zs : List Z} {i : Nat} {v : V}, RwA K M H vs zs → vs[i]? = some v → ∃ z, zs[i]? = some z ∧ Rw K M H v z
  | _, _, _, _, .nil, e => by simp at e
  | _, _, 0, _, .cons a _, e => by simp at e; subst e; exact ⟨_, rfl, a⟩
  | _, _, i + 1, d, .cons _ b, e => by
    obtain ⟨u, h1, h2⟩ := b.getV (i := i) (v := d) (by simpa using e)
    exact ⟨u, by simpa using h1, h2⟩
theorem RwA.app : ∀ {vs us : List V} {zs es : List Z}, RwA K M H vs zs → RwA K M H us es → RwA K M H (vs ++ us) (zs ++ es)
  | _, _, _, _, .nil, h => h
  | _, _, _, _, .cons a b, h => .cons a (b.app h)
theorem RwA.set : ∀ {vs : List V} {zs : List Z} {v : V} {z : Z} (i : Nat), RwA K M H vs zs → Rw K M H v z → RwA K M H (vs.set i v) (zs.set i z)
  | _, _, _, _, _, .nil, _ => .nil
  | _, _, _, _, 0, .cons _ b, h => .cons h b
  | _, _, _, _, i + 1, .cons a b, h => .cons a (b.set i h)
theorem RwA.of : ∀ {vs : List V} {ds : List D}, RpA K M H vs ds → RwA K M H vs (ds.map Z.d)
  | _, _, .nil => .nil
  | _, _, .cons a b => .cons (.d a) (RwA.of b)
theorem RwA.ds : ∀ {vs : List V} {ds : List D}, RwA K M H vs (ds.map Z.d) → RpA K M H vs ds
  | [], [], _ => .nil
  | [], _ :: _, h => by cases h
  | _ :: _, [], h => by cases h
  | v :: vs, n :: ns, h => by
    cases h with | cons a b => cases a with | d a => exact .cons a b.ds
end
inductive RwK (K : Fg) (M : Addr → Prop) (H : Hp) : List (Key × V) → List (Key × Z) → Prop
  | nil : RwK K M H [] []
  | cons {k : Key} {v : V} {z : Z} {vs : List (Key × V)} {zs : List (Key × Z)} : Rw K M H v z → RwK K M H vs zs → RwK K M H ((k, v) :: vs) ((k, z) :: zs)
theorem RwK.go {K : Fg} {M M' : Addr → Prop} {H H' : Hp} (g : GoH M H M' H') : ∀ {vs : List (Key × V)} {zs : List (Key × Z)}, RwK K M H vs zs → RwK K M' H' vs zs
  | _, _, .nil => .nil
  | _, _, .cons a b => .cons (a.go g) (b.go g)
def CellOk (K : Fg) (M : Addr → Prop) (H : Hp) (a : Addr) : Cell → Prop
  | .lst zs => ∃ xs, H a = some (.lst xs) ∧ RwA K M H xs zs
  | .ins C ks zs => ∃ dx xs, H a = some (.ins C dx (ks.zip xs)) ∧ ks.length = xs.length ∧ RwA K M H xs zs
  | .dic kvs => ∃ ks, H a = some (.dK ks) ∧ RwK K M H ks kvs
  | .pu n => PuOk H a n
  | .ro c => CellOk K M H a c
theorem CellOk.live {K : Fg} {M : Addr → Prop} {H : Hp} {a : Addr} {c : Cell} (h : CellOk K M H a c) : H a ≠ none := by
  induction c with
  | lst zs => obtain ⟨xs, h1, _⟩ := h; rw [h1]; simp
  | ins _ _ _ => obtain ⟨_, xs, h1, _⟩ := h; rw [h1]; simp
  | dic zs => obtain ⟨xs, h1, _⟩ := h; rw [h1]; simp
  | pu n => obtain ⟨x, b, c, h1, _⟩ := h; rw [h1]; simp
  | ro c ih => exact ih h
theorem CellOk.go {K : Fg} {M M' : Addr → Prop} {H H' : Hp} {a : Addr} {c : Cell} (g : GoH M H M' H') (k : ∀ o, H a = some o → H' a = some o) (h : CellOk K M H a c) : CellOk K M' H' a c := by
  induction c with
  | lst zs => obtain ⟨xs, h1, h2⟩ := h; exact ⟨xs, k _ h1, h2.go g⟩
  | ins _ _ _ => obtain ⟨dx, xs, h1, l, h2⟩ := h; exact ⟨dx, xs, k _ h1, l, h2.go g⟩
  | dic zs => obtain ⟨xs, h1, h2⟩ := h; exact ⟨xs, k _ h1, h2.go g⟩
  | pu n => obtain ⟨x, b, c, h1, h2⟩ := h; exact ⟨x, b, c, k _ h1, h2⟩
  | ro c ih => exact ih h
def Rz (C : Ct) (F : Fr) (σ : St) (y : S) (H : Hp) (v : V) (z : Z) : Prop := match z with
  | .d d => Rp C.K (Mv F σ y) H v d
  | z => Rw C.K (Mv F σ y) H v z
abbrev Go (F : Fr) (σ : St) (y : S) (H : Hp) (σ' : St) (y' : S) (H' : Hp) : Prop := GoH (Mv F σ y) H (Mv F σ' y') H'
/-- the slots stand; the store's things stand, more may have come -/
def ao (m : List Cl) : List (Addr × Bool × Bool) := m.map fun e => (e.a, e.own, e.c.isRo)
def Sh (y y' : S) : Prop := y'.l = y.l ∧ ∃ nw : List Cl, ao y'.m = ao y.m ++ ao nw
theorem Sh.refl (y : S) : Sh y y := ⟨rfl, [], by simp [ao]⟩
theorem Sh.trans {y y1 y2 : S} (a : Sh y y1) (b : Sh y1 y2) : Sh y y2 := by
  obtain ⟨a1, n1, a2⟩ := a
  obtain ⟨b1, n2, b2⟩ := b
  exact ⟨b1.trans a1, n1 ++ n2, by rw [b2, a2, List.append_assoc]; simp [ao]⟩
section
variable {C : Ct} {F : Fr} {σ : St} {y y' : S} {H H' : Hp}
theorem Rz.w {v : V} {z : Z} (r : Rz C F σ y H v z) : Rw C.K (Mv F σ y) H v z := by
  cases z with
  | d d => exact .d r
  | _ => exact r
theorem Rw.z {v : V} {z : Z} (r : Rw C.K (Mv F σ y) H v z) : Rz C F σ y H v z := by
  cases z with
  | d d => cases r with | d r => exact r
  | _ => exact r
theorem Rz.go {v : V} {z : Z} (g : Go F σ y H σ y' H') (r : Rz C F σ y H v z) : Rz C F σ y' H' v z := (r.w.go g).z
end
structure Wd0 (K : Fg) (F : Fr) (σ : St) (y : S) (H : Hp) : Prop where
  keep : ∀ a o, ¬ F.S0 a → F.H0 a = some o → H a = some o
  live0 : ∀ a, F.M0 a → F.H0 a ≠ none
  live : ∀ a, F.M0 a → H a ≠ none
  len : σ.length = y.l.length
  slot : ∀ (i : Nat) (z : Z), y.l[i]? = some (some z) → ∃ x, σ[i]? = some (some x) ∧ Rw K (Mv F σ y) H x z
  cell : ∀ e ∈ y.m, CellOk K (Mv F σ y) H e.a e.c
  dist : y.m.Pairwise fun e e' => e.a ≠ e'.a
  frsh : ∀ e ∈ y.m, e.c.isRo = false → F.S0 e.a ∨ F.H0 e.a = none
  sm : ∀ a, F.S0 a → F.M0 a
  nb : F.st = true → ∀ e ∈ y.m, e.own = true → ¬ F.S0 e.a
/-- an exception with a thing found, its dict new -/
structure XRep (K : Fg) (F : Fr) (σ : St) (y : S) (H : Hp) (ex : Ex) (cls : Value) (d : Option Addr) : Prop where
  cls : cls = ex.cls
  dd : ∃ a v, d = some a ∧ H a = some (.xd [(keyZ ex.found, v)]) ∧ ¬ Mv F σ y a ∧ F.H0 a = none ∧ Rw K (Mv F σ y) H v (valZ ex.found)
structure Wd (C : Ct) (F : Fr) (σ : St) (y : S) (H : Hp) : Prop extends Wd0 C.K F σ y H where
  xk : ∀ σ' y' H' ex cls d, Wd0 C.K F σ' y' H' → Go F σ y H σ' y' H' → XRep C.K F σ' y' H' ex cls d → C.ex ex y' → C.W cls d σ' H'
section
variable {C : Ct} {F : Fr} {σ σ' : St} {y y' : S} {H H' : Hp}
theorem Wd.to (w : Wd C F σ y H) (w' : Wd0 C.K F σ' y' H') (g : Go F σ y H σ' y' H') : Wd C F σ' y' H' := ⟨w', fun σ2 y2 H2 ex cls d w2 g2 => w.xk σ2 y2 H2 ex cls d w2 (g.trans g2)⟩
theorem Wd0.new {K : Fg} (w : Wd0 K F σ y H) {p : Addr} (h : H p = none) : ¬ Mv F σ y p := by
  rintro (z | ⟨e, he, rfl⟩)
  · exact w.live p z h
  · exact (w.cell e he).live h
theorem Wd.new (w : Wd C F σ y H) {p : Addr} (h : H p = none) : ¬ Mv F σ y p := w.toWd0.new h
theorem Wd.newH0 (w : Wd C F σ y H) {p : Addr} (h : H p = none) : F.H0 p = none := by
  cases e : F.H0 p with
  | none => rfl
  | some o =>
    by_cases s : F.S0 p
    · exact absurd h (w.live p (w.sm p s))
    · rw [w.keep p o s e] at h; cases h
theorem go_grow (g : ∀ a o, H a = some o → H' a = some o) : Go F σ y H σ y H' := fun a o n e => ⟨n, g a o e⟩
theorem Wd.grow (w : Wd C F σ y H) (g : ∀ a o, H a = some o → H' a = some o) : Wd C F σ y H' := by
  have gg : Go F σ y H σ y H' := go_grow g
  refine w.to ⟨fun a o n e => g _ _ (w.keep a o n e), w.live0, fun a m e => ?_, w.len, fun i z e => ?_, fun e he => (w.cell e he).go gg (fun o q => g _ _ q), w.dist, w.frsh, w.sm, w.nb⟩ gg
  · cases q : H a with
    | none => exact w.live a m q
    | some o => rw [g a o q] at e; cases e
  · obtain ⟨x, h1, h2⟩ := w.slot i z e
    exact ⟨x, h1, h2.go gg⟩
end
/-! ### the wp -/
section
variable (C : Ct)
def wE (te : TE) (y : S) (Q : Z → S → Prop) : Prop := ∀ (F : Fr) σ H (K : VK), Wd C F σ y H → (∀ v H' z y', Wd C F σ y' H' → Go F σ y H σ y' H' → Sh y y' → Rz C F σ y' H' v z → Q z y' → K v H') → te σ H K
def wT (tt : TT) (y : S) (Q : Bool → S → Prop) : Prop := ∀ (F : Fr) σ H (K : Bool → Hp → Prop), Wd C F σ y H → (∀ b H' y', Wd C F σ y' H' → Go F σ y H σ y' H' → Sh y y' → Q b y' → K b H') → tt σ H K
def wO (to : TO) (y : S) (Q : Option Int → S → Prop) : Prop := ∀ (F : Fr) σ H (K : Option Int → Hp → Prop), Wd C F σ y H → (∀ b H' y', Wd C F σ y' H' → Go F σ y H σ y' H' → Sh y y' → Q b y' → K b H') → to σ H K
structure En where
  nx : S → Prop
  rt : Z → S → Prop
  bk : S → Prop := fun _ => False
  ct : S → Prop := fun _ => False
structure EnOk (F : Fr) (σ : St) (y : S) (H : Hp) (e : En) (E : Ends) : Prop where
  nx : ∀ σ' H' y', Wd C F σ' y' H' → Go F σ y H σ' y' H' → e.nx y' → E.nx σ' H'
  rt : ∀ σ' v H' z y', Wd C F σ' y' H' → Go F σ y H σ' y' H' → Rz C F σ' y' H' v z → e.rt z y' → E.rt v H'
  bk : ∀ σ' H' y', Wd C F σ' y' H' → Go F σ y H σ' y' H' → e.bk y' → E.bk σ' H'
  ct : ∀ σ' H' y', Wd C F σ' y' H' → Go F σ y H σ' y' H' → e.ct y' → E.ct σ' H'
def wS (ts : TS) (y : S) (e : En) : Prop := ∀ (F : Fr) σ H (E : Ends), F.st = true → Wd C F σ y H → EnOk C F σ y H e E → ts E σ H
end
/-! ### storing in a slot -/
section
variable {C : Ct} {F : Fr} {σ : St} {y y' : S} {H H' : Hp}
theorem go_set {σ' : St} {i : Nat} {z : Option Z} : Go F σ y H σ' (y.set i z) H := fun a o n e => ⟨n, e⟩
theorem Wd0.set_z {K : Fg} (w : Wd0 K F σ y H) {i : Nat} {v : V} {z : Z} (r : Rw K (Mv F σ y) H v z) : Wd0 K F (σ.set i (some v)) (y.set i (some z)) H := by
  refine ⟨w.keep, w.live0, w.live, by show (σ.set i _).length = (y.l.set i _).length; rw [List.length_set, List.length_set]; exact w.len, fun j x e => ?_, w.cell, w.dist, w.frsh, w.sm, w.nb⟩
  have e' : (y.l.set i (some z))[j]? = some (some x) := e
  by_cases n : j = i
  · subst n
    have hl : j < y.l.length := by
      have := (List.getElem?_eq_some_iff.mp e').1
      rw [List.length_set] at this; exact this
    rw [List.getElem?_set_self hl] at e'
    cases e'
    exact ⟨v, by rw [List.getElem?_set_self (by rw [w.len]; exact hl)], r⟩
  · rw [List.getElem?_set_ne (Ne.symm n)] at e' ⊢
    exact w.slot j x e'
theorem Wd.set_z (w : Wd C F σ y H) {i : Nat} {v : V} {z : Z} (r : Rz C F σ y H v z) : Wd C F (σ.set i (some v)) (y.set i (some z)) H := w.to (w.toWd0.set_z r.w) go_set
end
end Ux

set_option maxRecDepth 100000
set_option maxHeartbeats 4000000
namespace Ux
open PySem PySem.Spec PyProof.Rows L2 Tq
section
variable {C : Ct} {y : S} {te : TE} {Q : Z → S → Prop}
theorem wE_varZ {i : Nat} {z : Z} (h : y.l[i]? = some (some z)) (q : Q z y) : wE C (tVar i) y Q := fun F σ H K w k => by
  obtain ⟨x, h1, h2⟩ := w.slot i _ h
  exact ⟨x, h1, k x H z y w GoH.refl (Sh.refl y) h2.z q⟩
theorem wE_var {i : Nat} {z : Z} (h : y.l[i]? = some (some z)) (q : Q z y) : wE C (tVar i) y Q := wE_varZ h q
theorem grow_upd {H : Hp} {p : Addr} {o : HO} (h : H p = none) : ∀ a u, H a = some u → upd H p o a = some u := Tq.grow_upd h
end
section
variable {C : Ct} {F : Fr} {σ : St} {y y' : S} {H H' : Hp}
end

section
variable {C : Ct} {y : S} {ta tb tc te : TE} {Q : Z → S → Prop}
theorem wE_sc {v : V} {d : D} (s : Sc v d) (q : Q (.d d) y) : wE C (tC v) y Q := fun F σ H K w k => k v H (.d d) y w GoH.refl (Sh.refl y) s.rp q
theorem wE_int {i : Int} (q : Q (.d (.int i)) y) : wE C (tC (.int i)) y Q := wE_sc (.int i) q
theorem wE_str {i : Str} (q : Q (.d (.str i)) y) : wE C (tC (.str i)) y Q := wE_sc (.str i) q
theorem wE_bl {i : Bool} (q : Q (.d (.bool i)) y) : wE C (tC (.bl i)) y Q := wE_sc (.bl i) q
theorem wE_non (q : Q (.d .none) y) : wE C (tC .non) y Q := wE_sc .non q
theorem wE_mono {R : Z → S → Prop} (h : wE C te y Q) (q : ∀ z y', Q z y' → R z y') : wE C te y R := fun F σ H K w k => h F σ H K w fun v H' z y' a b c d e => k v H' z y' a b c d (q z y' e)
theorem wE_op {r : R2} {res : D → D → D → Prop} (h : OpD C.K r res) (w : wE C ta y fun z y1 => wE C tb y1 fun z' y2 => ∃ d e g, z = .d d ∧ z' = .d e ∧ res d e g ∧ Q (.d g) y2) : wE C (tOp r ta tb) y Q := by
  intro F σ H K wd k
  refine w F σ H _ wd fun x H1 z y1 w1 g1 s1 r1 q1 => ?_
  refine q1 F σ H1 _ w1 fun x2 H2 z' y2 w2 g2 s2 r2 q2 => ?_
  obtain ⟨d, e, g, rfl, rfl, hres, hq⟩ := q2
  refine h (Mv F σ y2) H2 x x2 d e g K (fun a => w2.new) (Rp.go g2 r1) r2 hres fun v H3 gr rv => ?_
  exact k v H3 (.d g) y2 (w2.grow gr) ((g1.trans g2).trans (go_grow gr)) (s1.trans s2) rv hq
theorem wE_I {P : Int → Int → Prop} {g : Int → Int → V} (gd : Int → Int → D) (hg : ∀ i j, Sc (g i j) (gd i j)) (w : wE C ta y fun z y1 => wE C tb y1 fun z' y2 => ∃ i j, z = .d (.int i) ∧ z' = .d (.int j) ∧ P i j ∧ Q (.d (gd i j)) y2) : wE C (tOp (rI P g) ta tb) y Q :=
  wE_op (opD_I hg) (wE_mono w fun z y1 h => wE_mono h fun z' y2 ⟨i, j, e1, e2, c, q⟩ => ⟨_, _, _, e1, e2, ⟨i, j, rfl, rfl, c, rfl⟩, q⟩)
theorem wE_I0 {g : Int → Int → V} (gd : Int → Int → D) (hg : ∀ i j, Sc (g i j) (gd i j)) (w : wE C ta y fun z y1 => wE C tb y1 fun z' y2 => ∃ i j, z = .d (.int i) ∧ z' = .d (.int j) ∧ Q (.d (gd i j)) y2) : wE C (tOp (rI0 g) ta tb) y Q :=
  wE_op (opD_I0 hg) (wE_mono w fun z y1 h => wE_mono h fun z' y2 ⟨i, j, e1, e2, q⟩ => ⟨_, _, _, e1, e2, ⟨i, j, rfl, rfl, rfl⟩, q⟩)
theorem wE_add (w : wE C ta y fun z y1 => wE C tb y1 fun z' y2 => ∃ i j, z = .d (.int i) ∧ z' = .d (.int j) ∧ Q (.d (.int (i + j))) y2) : wE C (tOp (rI0 fun i j => .int (i + j)) ta tb) y Q := wE_I0 _ (fun _ _ => .int _) w
theorem wE_sub (w : wE C ta y fun z y1 => wE C tb y1 fun z' y2 => ∃ i j, z = .d (.int i) ∧ z' = .d (.int j) ∧ Q (.d (.int (i - j))) y2) : wE C (tOp (rI0 fun i j => .int (i - j)) ta tb) y Q := wE_I0 _ (fun _ _ => .int _) w
theorem wE_lt (w : wE C ta y fun z y1 => wE C tb y1 fun z' y2 => ∃ i j, z = .d (.int i) ∧ z' = .d (.int j) ∧ Q (.d (.bool (decide (i < j)))) y2) : wE C (tOp (rI0 fun i j => .bl (decide (i < j))) ta tb) y Q := wE_I0 (fun i j => .bool (decide (i < j))) (fun _ _ => .bl _) w
theorem wE_le (w : wE C ta y fun z y1 => wE C tb y1 fun z' y2 => ∃ i j, z = .d (.int i) ∧ z' = .d (.int j) ∧ Q (.d (.bool (decide (i ≤ j)))) y2) : wE C (tOp (rI0 fun i j => .bl (decide (i ≤ j))) ta tb) y Q := wE_I0 (fun i j => .bool (decide (i ≤ j))) (fun _ _ => .bl _) w
theorem wE_gt (w : wE C ta y fun z y1 => wE C tb y1 fun z' y2 => ∃ i j, z = .d (.int i) ∧ z' = .d (.int j) ∧ Q (.d (.bool (decide (j < i)))) y2) : wE C (tOp (rI0 fun i j => .bl (decide (j < i))) ta tb) y Q := wE_I0 (fun i j => .bool (decide (j < i))) (fun _ _ => .bl _) w
theorem wE_ge (w : wE C ta y fun z y1 => wE C tb y1 fun z' y2 => ∃ i j, z = .d (.int i) ∧ z' = .d (.int j) ∧ Q (.d (.bool (decide (j ≤ i)))) y2) : wE C (tOp (rI0 fun i j => .bl (decide (j ≤ i))) ta tb) y Q := wE_I0 (fun i j => .bool (decide (j ≤ i))) (fun _ _ => .bl _) w
theorem wE_mulW (w : wE C ta y fun z y1 => wE C tb y1 fun z' y2 => ∃ i j, z = .d (.int i) ∧ z' = .d (.int j) ∧ CMulW i j ∧ Q (.d (.int (i * j))) y2) : wE C (tOp (rI CMulW fun i j => .int (i * j)) ta tb) y Q := wE_I _ (fun _ _ => .int _) w
theorem wE_mul (w : wE C ta y fun z y1 => wE C tb y1 fun z' y2 => ∃ i j, z = .d (.int i) ∧ z' = .d (.int j) ∧ CMul i j ∧ Q (.d (.int (i * j))) y2) : wE C (tOp (rI CMul fun i j => .int (i * j)) ta tb) y Q := wE_I _ (fun _ _ => .int _) w
theorem wE_mod (w : wE C ta y fun z y1 => wE C tb y1 fun z' y2 => ∃ i j, z = .d (.int i) ∧ z' = .d (.int j) ∧ 0 < j ∧ Q (.d (.int (i % j))) y2) : wE C (tOp (rI (fun _ j => 0 < j) fun i j => .int (i % j)) ta tb) y Q := wE_I _ (fun _ _ => .int _) w
theorem wE_pow (w : wE C ta y fun z y1 => wE C tb y1 fun z' y2 => ∃ i j, z = .d (.int i) ∧ z' = .d (.int j) ∧ CPow i j ∧ Q (.d (.int (i ^ j.toNat))) y2) : wE C (tOp (rI CPow fun i j => .int (i ^ j.toNat)) ta tb) y Q := wE_I _ (fun _ _ => .int _) w
theorem wE_fdivW (w : wE C ta y fun z y1 => wE C tb y1 fun z' y2 => ∃ i j, z = .d (.int i) ∧ z' = .d (.int j) ∧ CDivW i j ∧ Q (.d (.int (i / j))) y2) : wE C (tOp (rI CDivW fun i j => .int (i / j)) ta tb) y Q := wE_I _ (fun _ _ => .int _) w
theorem wE_neg (w : wE C ta y fun z y1 => ∃ i, z = .d (.int i) ∧ Q (.d (.int (-i))) y1) : wE C (tUn (rU fun i => .int (-i)) ta) y Q := by
  intro F σ H K wd k
  refine w F σ H _ wd fun x H1 z y1 w1 g1 s1 r1 q1 => ?_
  obtain ⟨i, rfl, q⟩ := q1
  exact ⟨i, rp_int r1, k _ H1 (.d (.int (-i))) y1 w1 g1 s1 (.int _) q⟩
theorem wE_S0 {α : Type} {g : Str → Str → V} (gd : Str → Str → D) (hg : ∀ i j, Sc (g i j) (gd i j)) (w : wE C ta y fun z y1 => wE C tb y1 fun z' y2 => ∃ i j, z = .d (.str i) ∧ z' = .d (.str j) ∧ Q (.d (gd i j)) y2) : wE C (tOp (fun x y H Q => ∃ i j, x = .str i ∧ y = .str j ∧ Q (g i j) H) ta tb) y Q := by
  refine wE_op (res := fun d e r => ∃ i j, d = .str i ∧ e = .str j ∧ r = gd i j) ?_ (wE_mono w fun z y1 h => wE_mono h fun z' y2 ⟨i, j, e1, e2, q⟩ => ⟨_, _, _, e1, e2, ⟨i, j, rfl, rfl, rfl⟩, q⟩)
  rintro M H x y d e r Q _ rx ry ⟨i, j, rfl, rfl, rfl⟩ k
  exact ⟨i, j, rp_str rx, rp_str ry, k _ H (fun _ _ e => e) (hg i j).rp⟩
theorem wE_ltS (w : wE C ta y fun z y1 => wE C tb y1 fun z' y2 => ∃ i j, z = .d (.str i) ∧ z' = .d (.str j) ∧ Q (.d (.bool (decide (i.cps.toList < j.cps.toList)))) y2) :
    wE C (tOp (fun x y H Q => ∃ i j, x = .str i ∧ y = .str j ∧ Q (.bl (decide (i.cps.toList < j.cps.toList))) H) ta tb) y Q := wE_S0 (α := Unit) (fun i j => .bool (decide (i.cps.toList < j.cps.toList))) (fun _ _ => .bl _) w
theorem wE_leS (w : wE C ta y fun z y1 => wE C tb y1 fun z' y2 => ∃ i j, z = .d (.str i) ∧ z' = .d (.str j) ∧ Q (.d (.bool (!decide (j.cps.toList < i.cps.toList)))) y2) :
    wE C (tOp (fun x y H Q => ∃ i j, x = .str i ∧ y = .str j ∧ Q (.bl (!decide (j.cps.toList < i.cps.toList))) H) ta tb) y Q := wE_S0 (α := Unit) (fun i j => .bool (!decide (j.cps.toList < i.cps.toList))) (fun _ _ => .bl _) w
theorem wE_addS (w : wE C ta y fun z y1 => wE C tb y1 fun z' y2 => ∃ i j, z = .d (.str i) ∧ z' = .d (.str j) ∧ i.length + j.length ≤ sizeLine ∧ Q (.d (.str (i ++ j))) y2) :
    wE C (tOp (fun x y H Q => ∃ i j, x = .str i ∧ y = .str j ∧ i.length + j.length ≤ sizeLine ∧ Q (.str (i ++ j)) H) ta tb) y Q := by
  refine wE_op (res := fun d e r => ∃ i j, d = .str i ∧ e = .str j ∧ i.length + j.length ≤ sizeLine ∧ r = .str (i ++ j)) ?_ (wE_mono w fun z y1 h => wE_mono h fun z' y2 ⟨i, j, e1, e2, c, q⟩ => ⟨_, _, _, e1, e2, ⟨i, j, rfl, rfl, c, rfl⟩, q⟩)
  rintro M H x y d e r Q _ rx ry ⟨i, j, rfl, rfl, c, rfl⟩ k
  exact ⟨i, j, rp_str rx, rp_str ry, c, k _ H (fun _ _ e => e) (.str _)⟩
theorem wE_inSign (w : wE C ta y fun z y1 => wE C tb y1 fun z' y2 => ∃ (c : Nat) (j : Str), z = .d (.str ⟨#[c]⟩) ∧ z' = .d (.str j) ∧ Q (.d (.bool (decide (c ∈ j.cps.toList)))) y2) :
    wE C (tOp (fun x y H Q => ∃ (c : Nat) (z : Str), x = .str ⟨#[c]⟩ ∧ y = .str z ∧ Q (.bl (decide (c ∈ z.cps.toList))) H) ta tb) y Q := by
  refine wE_op (res := fun d e r => ∃ (c : Nat) (j : Str), d = .str ⟨#[c]⟩ ∧ e = .str j ∧ r = .bool (decide (c ∈ j.cps.toList))) ?_ (wE_mono w fun z y1 h => wE_mono h fun z' y2 ⟨i, j, e1, e2, q⟩ => ⟨_, _, _, e1, e2, ⟨i, j, rfl, rfl, rfl⟩, q⟩)
  rintro M H x y d e r Q _ rx ry ⟨i, j, rfl, rfl, rfl⟩ k
  exact ⟨i, j, rp_str rx, rp_str ry, k _ H (fun _ _ e => e) (.bl _)⟩
theorem wE_eqD (w : wE C ta y fun z y1 => wE C tb y1 fun z' y2 => ∃ d e, z = .d d ∧ z' = .d e ∧ SeqAt.shaped d = true ∧ SeqAt.shaped e = true ∧ Q (.d (.bool (PyData.eqv d e))) y2) : wE C (tOp (rEqD C.K) ta tb) y Q := by
  refine wE_op (res := fun d e r => SeqAt.shaped d = true ∧ SeqAt.shaped e = true ∧ r = .bool (PyData.eqv d e)) ?_ (wE_mono w fun z y1 h => wE_mono h fun z' y2 ⟨d, e, e1, e2, s1, s2, q⟩ => ⟨_, _, _, e1, e2, ⟨s1, s2, rfl⟩, q⟩)
  rintro M H x y d e r Q _ rx ry ⟨s1, s2, rfl⟩ k
  exact ⟨d, e, rx.dp (canLay_noDict s1), ry.dp (canLay_noDict s2), s1, s2, k _ H (fun _ _ e => e) (.bl _)⟩
theorem wE_neD (w : wE C ta y fun z y1 => wE C tb y1 fun z' y2 => ∃ d e, z = .d d ∧ z' = .d e ∧ SeqAt.shaped d = true ∧ SeqAt.shaped e = true ∧ Q (.d (.bool (!PyData.eqv d e))) y2) : wE C (tOp (rNeD C.K) ta tb) y Q := by
  refine wE_op (res := fun d e r => SeqAt.shaped d = true ∧ SeqAt.shaped e = true ∧ r = .bool (!PyData.eqv d e)) ?_ (wE_mono w fun z y1 h => wE_mono h fun z' y2 ⟨d, e, e1, e2, s1, s2, q⟩ => ⟨_, _, _, e1, e2, ⟨s1, s2, rfl⟩, q⟩)
  rintro M H x y d e r Q _ rx ry ⟨s1, s2, rfl⟩ k
  exact ⟨d, e, rx.dp (canLay_noDict s1), ry.dp (canLay_noDict s2), s1, s2, k _ H (fun _ _ e => e) (.bl _)⟩
theorem wE_isN (w : wE C ta y fun z y1 => wE C tb y1 fun z' y2 => ∃ d, z = .d d ∧ z' = .d .none ∧ Q (.d (.bool (match d with | .none => true | _ => false))) y2) :
    wE C (tOp (fun x y H Q => y = .non ∧ Q (.bl (decide (x = .non))) H) ta tb) y Q := by
  refine wE_op (res := fun d e r => e = .none ∧ r = .bool (match d with | .none => true | _ => false)) ?_ (wE_mono w fun z y1 h => wE_mono h fun z' y2 ⟨d, e1, e2, q⟩ => ⟨_, _, _, e1, e2, ⟨rfl, rfl⟩, q⟩)
  rintro M H x y d e r Q _ rx ry ⟨rfl, rfl⟩ k
  refine ⟨rp_non ry, k _ H (fun _ _ e => e) ?_⟩
  cases rx <;> exact .bl _
theorem wE_notN (w : wE C ta y fun z y1 => wE C tb y1 fun z' y2 => ∃ d, z = .d d ∧ z' = .d .none ∧ Q (.d (.bool (match d with | .none => false | _ => true))) y2) :
    wE C (tOp (fun x y H Q => y = .non ∧ Q (.bl (!decide (x = .non))) H) ta tb) y Q := by
  refine wE_op (res := fun d e r => e = .none ∧ r = .bool (match d with | .none => false | _ => true)) ?_ (wE_mono w fun z y1 h => wE_mono h fun z' y2 ⟨d, e1, e2, q⟩ => ⟨_, _, _, e1, e2, ⟨rfl, rfl⟩, q⟩)
  rintro M H x y d e r Q _ rx ry ⟨rfl, rfl⟩ k
  refine ⟨rp_non ry, k _ H (fun _ _ e => e) ?_⟩
  cases rx <;> exact .bl _
theorem wE_ix (w : wE C ta y fun z y1 => wE C tb y1 fun z' y2 => ∃ d i g, z = .d d ∧ z' = .d (.int i) ∧ dIx d i = some g ∧ Q (.d g) y2) : wE C (tOp (rIx C.K) ta tb) y Q := by
  refine wE_op (res := fun d e r => ∃ i, e = .int i ∧ dIx d i = some r) ?_ (wE_mono w fun z y1 h => wE_mono h fun z' y2 ⟨d, i, g, e1, e2, s, q⟩ => ⟨_, _, _, e1, e2, ⟨i, rfl, s⟩, q⟩)
  rintro M H x y d e r Q _ rx ry ⟨i, rfl, h⟩ k
  have ey := rp_int ry
  cases rx with
  | non => cases h
  | bl b => cases h
  | int b => cases h
  | dic _ _ _ => cases h
  | str z =>
    simp only [dIx] at h
    by_cases hz : z.length ≤ sizeLine
    · rw [if_pos hz] at h
      cases q : atI z.cps.toList i with
      | none => rw [q] at h; cases h
      | some c =>
        rw [q] at h; cases h
        exact .inr (.inr ⟨z, i, c, rfl, ey, hz, q, k _ H (fun _ _ e => e) (.str _)⟩)
    · rw [if_neg hz] at h; cases h
  | lst h1 h2 =>
    obtain ⟨v, e, rv⟩ := atI_rp h2 h
    exact .inl ⟨_, _, i, v, rfl, ey, h1.sq, e, k _ H (fun _ _ e => e) rv⟩
  | tup h1 h2 =>
    obtain ⟨v, e, rv⟩ := atI_rp h2 h
    exact .inr (.inl ⟨_, _, i, v, rfl, ey, h1.sq, e, k _ H (fun _ _ e => e) rv⟩)
end
end Ux

set_option maxRecDepth 100000
set_option maxHeartbeats 4000000
namespace Ux
open PySem PySem.Spec PyProof.Rows L2 Tq
section
variable {C : Ct} {y : S} {ta tb tc te : TE} {t u : TT} {ts : TA} {Q : Z → S → Prop} {R : Bool → S → Prop}
theorem wE_catG (w : wE C ta y fun z y1 => wE C tb y1 fun z' y2 => ∃ xs ys, z = .d (.list xs) ∧ z' = .d (.list ys) ∧ xs.length + ys.length ≤ sizeLine ∧ Q (.d (.list (xs ++ ys))) y2) : wE C (tOp (rCatG C.K) ta tb) y Q := by
  refine wE_op (res := fun d e r => ∃ xs ys, d = .list xs ∧ e = .list ys ∧ xs.length + ys.length ≤ sizeLine ∧ r = .list (xs ++ ys)) ?_ (wE_mono w fun z y1 h => wE_mono h fun z' y2 ⟨xs, ys, e1, e2, c, q⟩ => ⟨_, _, _, e1, e2, ⟨xs, ys, rfl, rfl, c, rfl⟩, q⟩)
  rintro M H x y d e r Q fr rx ry ⟨xs, ys, rfl, rfl, c, rfl⟩ k
  obtain ⟨a, us, rfl, h1, h2⟩ := rp_lst rx
  obtain ⟨b, vs, rfl, h3, h4⟩ := rp_lst ry
  refine ⟨a, b, us, vs, rfl, rfl, h1.sq, h3.sq, by rw [h2.len, h4.len]; exact c, fun p hp => k _ _ (grow_upd hp) ?_⟩
  have g : GoH M H M (upd H p (.lst (us ++ vs))) := fun a o n e => ⟨n, grow_upd hp a o e⟩
  exact .lst (.inl ⟨fr p hp, .inl upd_same⟩) ((h2.go g).app (h4.go g))
theorem wE_fdivZ (w : wE C ta y fun z y1 => wE C tb y1 fun z' y2 => ∃ i j, z = .d (.int i) ∧ z' = .d (.int j) ∧ CDivZ i j ∧ Q (.d (.int (i.fdiv j))) y2) : wE C (tOp (rI CDivZ fun i j => .int (i.fdiv j)) ta tb) y Q := wE_I _ (fun _ _ => .int _) w
theorem wE_modN (w : wE C ta y fun z y1 => wE C tb y1 fun z' y2 => ∃ i j, z = .d (.int i) ∧ z' = .d (.int j) ∧ j ≠ 0 ∧ Q (.d (.int (i.fmod j))) y2) : wE C (tOp (rI (fun _ j => j ≠ 0) fun i j => .int (i.fmod j)) ta tb) y Q := wE_I _ (fun _ _ => .int _) w
theorem wE_andV (w : wE C ta y fun z y1 => ∃ b, z = .d (.bool b) ∧ if b = true then wE C tb y1 Q else Q (.d (.bool false)) y1) : wE C (tAndV ta tb) y Q := by
  intro F σ H K wd k
  refine w F σ H _ wd fun x H1 z y1 w1 g1 s1 r1 q1 => ?_
  obtain ⟨b, rfl, q⟩ := q1
  refine ⟨b, rp_bl r1, ?_⟩
  cases b with
  | true => exact q F σ H1 _ w1 fun v H2 z y2 w2 g2 s2 r2 q2 => k v H2 z y2 w2 (g1.trans g2) (s1.trans s2) r2 q2
  | false => exact k _ H1 (.d (.bool false)) y1 w1 g1 s1 (.bl _) q
theorem wE_orV (w : wE C ta y fun z y1 => ∃ b, z = .d (.bool b) ∧ if b = true then Q (.d (.bool true)) y1 else wE C tb y1 Q) : wE C (tOrV ta tb) y Q := by
  intro F σ H K wd k
  refine w F σ H _ wd fun x H1 z y1 w1 g1 s1 r1 q1 => ?_
  obtain ⟨b, rfl, q⟩ := q1
  refine ⟨b, rp_bl r1, ?_⟩
  cases b with
  | true => exact k _ H1 (.d (.bool true)) y1 w1 g1 s1 (.bl _) q
  | false => exact q F σ H1 _ w1 fun v H2 z y2 w2 g2 s2 r2 q2 => k v H2 z y2 w2 (g1.trans g2) (s1.trans s2) r2 q2
theorem wE_notV (w : wE C ta y fun z y1 => ∃ b, z = .d (.bool b) ∧ Q (.d (.bool (!b))) y1) : wE C (tNotV ta) y Q := by
  intro F σ H K wd k
  refine w F σ H _ wd fun x H1 z y1 w1 g1 s1 r1 q1 => ?_
  obtain ⟨b, rfl, q⟩ := q1
  exact ⟨b, rp_bl r1, k _ H1 (.d (.bool !b)) y1 w1 g1 s1 (.bl _) q⟩
theorem wE_if (w : wT C t y fun b y1 => if b = true then wE C ta y1 Q else wE C tb y1 Q) : wE C (tIf t ta tb) y Q := by
  intro F σ H K wd k
  refine w F σ H _ wd fun b H1 y1 w1 g1 s1 q => ?_
  cases b with
  | true => exact q F σ H1 _ w1 fun v H2 z y2 w2 g2 s2 r2 q2 => k v H2 z y2 w2 (g1.trans g2) (s1.trans s2) r2 q2
  | false => exact q F σ H1 _ w1 fun v H2 z y2 w2 g2 s2 r2 q2 => k v H2 z y2 w2 (g1.trans g2) (s1.trans s2) r2 q2
theorem wT_test (w : wE C te y fun z y1 => ∃ b, z = .d (.bool b) ∧ R b y1) : wT C (tTest te) y R := by
  intro F σ H K wd k
  refine w F σ H _ wd fun x H1 z y1 w1 g1 s1 r1 q1 => ?_
  obtain ⟨b, rfl, q⟩ := q1
  exact ⟨b, rp_bl r1, k b H1 y1 w1 g1 s1 q⟩
theorem wT_B (w : wE C te y fun z y1 => ∃ b, z = .d (.bool b) ∧ R b y1) : wT C (tB te) y R := wT_test w
theorem wT_and (w : wT C t y fun b y1 => if b = true then wT C u y1 R else R false y1) : wT C (tAnd t u) y R := by
  intro F σ H K wd k
  refine w F σ H _ wd fun b H1 y1 w1 g1 s1 q => ?_
  cases b with
  | true => exact q F σ H1 _ w1 fun v H2 y2 w2 g2 s2 q2 => k v H2 y2 w2 (g1.trans g2) (s1.trans s2) q2
  | false => exact k false H1 y1 w1 g1 s1 q
theorem wT_or (w : wT C t y fun b y1 => if b = true then R true y1 else wT C u y1 R) : wT C (tOr t u) y R := by
  intro F σ H K wd k
  refine w F σ H _ wd fun b H1 y1 w1 g1 s1 q => ?_
  cases b with
  | true => exact k true H1 y1 w1 g1 s1 q
  | false => exact q F σ H1 _ w1 fun v H2 y2 w2 g2 s2 q2 => k v H2 y2 w2 (g1.trans g2) (s1.trans s2) q2
theorem wT_not (w : wT C t y fun b y1 => R (!b) y1) : wT C (tNot t) y R := by
  intro F σ H K wd k
  exact w F σ H _ wd fun b H1 y1 w1 g1 s1 q => k (!b) H1 y1 w1 g1 s1 q
theorem wT_yes (q : R true y) : wT C tYes y R := fun F σ H K wd k => k true H y wd GoH.refl (Sh.refl y) q
theorem wT_mono {R' : Bool → S → Prop} (h : wT C t y R) (q : ∀ z y', R z y' → R' z y') : wT C t y R' := fun F σ H K w k => h F σ H K w fun z H' y' a b c e => k z H' y' a b c (q z y' e)
theorem wE_chain {r r' : R2} {res res' : D → D → D → Prop} (h : OpD C.K r res) (h' : OpD C.K r' res')
    (w : wE C ta y fun z1 y1 => wE C tb y1 fun z2 y2 => ∃ d1 d2 b, z1 = .d d1 ∧ z2 = .d d2 ∧ res d1 d2 (.bool b) ∧ if b = true then wE C tc y2 fun z3 y3 => ∃ d3 g, z3 = .d d3 ∧ res' d2 d3 g ∧ Q (.d g) y3 else Q (.d (.bool false)) y2) :
    wE C (tChain r r' ta tb tc) y Q := by
  intro F σ H K wd k
  refine w F σ H _ wd fun x H1 z y1 w1 g1 s1 r1 q1 => ?_
  refine q1 F σ H1 _ w1 fun x2 H2 z' y2 w2 g2 s2 r2 q2 => ?_
  obtain ⟨d1, d2, b, rfl, rfl, hres, hq⟩ := q2
  refine h (Mv F σ y2) H2 x x2 d1 d2 (.bool b) _ (fun a => w2.new) (Rp.go g2 r1) r2 hres fun v H3 gr rv => ?_
  have w3 := w2.grow gr
  have g3 := (g1.trans g2).trans (go_grow (F := F) (σ := σ) (y := y2) gr)
  refine ⟨b, rp_bl rv, ?_⟩
  cases b with
  | false => exact k _ H3 (.d (.bool false)) y2 w3 g3 (s1.trans s2) (.bl _) hq
  | true =>
    refine hq F σ H3 _ w3 fun x4 H4 z4 y4 w4 g4 s4 r4 q4 => ?_
    obtain ⟨d3, g, rfl, hres', hq'⟩ := q4
    refine h' (Mv F σ y4) H4 x2 x4 d2 d3 g _ (fun a => w4.new) (Rp.go g4 (Rp.go (go_grow (F := F) (σ := σ) (y := y2) gr) r2)) r4 hres' fun v5 H5 gr5 rv5 => ?_
    exact k v5 H5 (.d g) y4 (w4.grow gr5) ((g3.trans g4).trans (go_grow gr5)) ((s1.trans s2).trans s4) rv5 hq'
theorem wE_chainI {p p' : Int → Int → Bool} (w : wE C ta y fun z1 y1 => wE C tb y1 fun z2 y2 => ∃ i j, z1 = .d (.int i) ∧ z2 = .d (.int j) ∧ if p i j = true then wE C tc y2 fun z3 y3 => ∃ m, z3 = .d (.int m) ∧ Q (.d (.bool (p' j m))) y3 else Q (.d (.bool false)) y2) :
    wE C (tChain (rI0 fun i j => .bl (p i j)) (rI0 fun i j => .bl (p' i j)) ta tb tc) y Q := by
  refine wE_chain (opD_I0 (gd := fun i j => .bool (p i j)) fun _ _ => .bl _) (opD_I0 (gd := fun i j => .bool (p' i j)) fun _ _ => .bl _) (wE_mono w fun z1 y1 h => wE_mono h fun z2 y2 ⟨i, j, e1, e2, q⟩ => ⟨_, _, p i j, e1, e2, ⟨i, j, rfl, rfl, rfl⟩, ?_⟩)
  cases hb : p i j with
  | true =>
    rw [hb] at q
    exact wE_mono (show wE C tc y2 _ from q) fun z3 y3 ⟨m, e3, q3⟩ => ⟨_, _, e3, ⟨j, m, rfl, rfl, rfl⟩, q3⟩
  | false => rw [hb] at q; exact q
theorem wE_chainS {p p' : Str → Str → Bool} (w : wE C ta y fun z1 y1 => wE C tb y1 fun z2 y2 => ∃ i j, z1 = .d (.str i) ∧ z2 = .d (.str j) ∧ if p i j = true then wE C tc y2 fun z3 y3 => ∃ m, z3 = .d (.str m) ∧ Q (.d (.bool (p' j m))) y3 else Q (.d (.bool false)) y2) :
    wE C (tChain (fun x y H Q => ∃ i j, x = .str i ∧ y = .str j ∧ Q (.bl (p i j)) H) (fun x y H Q => ∃ i j, x = .str i ∧ y = .str j ∧ Q (.bl (p' i j)) H) ta tb tc) y Q := by
  refine wE_chain (opD_S0 (gd := fun i j => .bool (p i j)) fun _ _ => .bl _) (opD_S0 (gd := fun i j => .bool (p' i j)) fun _ _ => .bl _) (wE_mono w fun z1 y1 h => wE_mono h fun z2 y2 ⟨i, j, e1, e2, q⟩ => ⟨_, _, p i j, e1, e2, ⟨i, j, rfl, rfl, rfl⟩, ?_⟩)
  cases hb : p i j with
  | true =>
    rw [hb] at q
    exact wE_mono (show wE C tc y2 _ from q) fun z3 y3 ⟨m, e3, q3⟩ => ⟨_, _, e3, ⟨j, m, rfl, rfl, rfl⟩, q3⟩
  | false => rw [hb] at q; exact q
def wD (C : Ct) (ta : TA) (y : S) (Q : List D → S → Prop) : Prop := ∀ (F : Fr) σ H (K : List V → Hp → Prop), Wd C F σ y H → (∀ vs H' ds y', Wd C F σ y' H' → Go F σ y H σ y' H' → Sh y y' → RpA C.K (Mv F σ y') H' vs ds → Q ds y' → K vs H') → ta σ H K
variable {q : List D → S → Prop}
theorem wD_nil (h : q [] y) : wD C tNil y q := fun F σ H K wd k => k [] H [] y wd GoH.refl (Sh.refl y) .nil h
theorem wD_cons (w : wE C ta y fun z y1 => ∃ d, z = .d d ∧ wD C ts y1 fun ds y2 => q (d :: ds) y2) : wD C (tCons ta ts) y q := by
  intro F σ H K wd k
  refine w F σ H _ wd fun x H1 z y1 w1 g1 s1 r1 q1 => ?_
  obtain ⟨d, rfl, h⟩ := q1
  exact h F σ H1 _ w1 fun vs H2 ds y2 w2 g2 s2 r2 q2 => k (x :: vs) H2 (d :: ds) y2 w2 (g1.trans g2) (s1.trans s2) (.cons (Rp.go g2 r1) r2) q2
theorem wD_mono {q' : List D → S → Prop} (h : wD C ts y q) (e : ∀ z y', q z y' → q' z y') : wD C ts y q' := fun F σ H K w k => h F σ H K w fun vs H' z y' a b c d f => k vs H' z y' a b c d (e z y' f)
theorem wE_tup (w : wD C ts y fun ds y1 => ds.length ≤ sizeLine ∧ Q (.d (.tuple ds)) y1) : wE C (tTup ts) y Q := by
  intro F σ H K wd k
  refine w F σ H _ wd fun vs H1 ds y1 w1 g1 s1 r1 ⟨hz, q1⟩ => ⟨by rw [r1.len]; exact hz, fun p hp => ?_⟩
  have gr := grow_upd (o := .tup vs) hp
  exact k _ _ (.d (.tuple ds)) y1 (w1.grow gr) (g1.trans (go_grow gr)) s1 (.tup (.inl ⟨w1.new hp, .inl upd_same⟩) (r1.go (go_grow gr))) q1
theorem wE_lst (w : wD C ts y fun ds y1 => ds.length ≤ sizeLine ∧ Q (.d (.list ds)) y1) : wE C (tLst ts) y Q := by
  intro F σ H K wd k
  refine w F σ H _ wd fun vs H1 ds y1 w1 g1 s1 r1 ⟨hz, q1⟩ => ⟨by rw [r1.len]; exact hz, fun p hp => ?_⟩
  have gr := grow_upd (o := .lst vs) hp
  exact k _ _ (.d (.list ds)) y1 (w1.grow gr) (g1.trans (go_grow gr)) s1 (.lst (.inl ⟨w1.new hp, .inl upd_same⟩) (r1.go (go_grow gr))) q1
theorem wE_dnew (h : Q (.d (.dict [])) y) : wE C tDNewK y Q := by
  intro F σ H K wd k p hp
  have gr := grow_upd (o := .dK []) hp
  exact k _ _ (.d (.dict [])) y (wd.grow gr) (go_grow gr) (Sh.refl y) (.dic (wd.new hp) upd_same .nil) h
theorem wE_disp1 {kk : Key} {v : V} {d : D} (s : Sc v d) (h : Q (.d (.dict [(kD kk, d)])) y) : wE C (tDisp [(tC (kV kk), tC v)]) y Q := by
  intro F σ H K wd k p hp
  refine ⟨upd_same, [(kk, v)], rfl, by simp, ?_⟩
  have gr : ∀ a u, H a = some u → upd (upd H p (.dK [])) p (.dK (mergeK [] [(kk, v)])) a = some u := fun a u e => by rw [upd_upd]; exact grow_upd hp a u e
  refine k _ _ (.d (.dict [(kD kk, d)])) y (wd.grow gr) (go_grow gr) (Sh.refl y) (.dic (wd.new hp) (kvs := [(kk, v)]) ?_ (.cons s.rp .nil)) h
  rw [upd_same]
  rfl
theorem wE_cb {r : List V → Hp → VK → Prop} {res : List D → D → Prop} (h : CbD C.K r res) (w : wD C ts y fun ds y1 => ∃ g, res ds g ∧ Q (.d g) y1) : wE C (tCB r ts) y Q := by
  intro F σ H K wd k
  refine w F σ H _ wd fun vs H1 ds y1 w1 g1 s1 r1 q1 => ?_
  obtain ⟨g, hres, hq⟩ := q1
  exact h (Mv F σ y1) H1 vs ds g K (fun a => w1.new) r1 hres fun v H2 gr rv => k v H2 (.d g) y1 (w1.grow gr) (g1.trans (go_grow gr)) s1 rv hq
theorem wE_abs (w : wD C ts y fun ds y1 => ∃ i, ds = [.int i] ∧ Q (.d (.int (if i < 0 then -i else i))) y1) : wE C (tCB (fun xs H Q => ∃ i, xs = [.int i] ∧ Q (.int (if i < 0 then -i else i)) H) ts) y Q := by
  refine wE_cb (res := fun ds g => ∃ i, ds = [.int i] ∧ g = .int (if i < 0 then -i else i)) ?_ (wD_mono w fun ds y1 ⟨i, e, q⟩ => ⟨_, ⟨i, e, rfl⟩, q⟩)
  rintro M H xs ds g Q _ r ⟨i, rfl, rfl⟩ k
  obtain ⟨v, rfl, rv⟩ := rpA1 r
  exact ⟨i, by rw [rp_int rv], k _ H (fun _ _ e => e) (.int _)⟩
theorem wE_max2 (w : wD C ts y fun ds y1 => ∃ i j, ds = [.int i, .int j] ∧ Q (.d (.int (if j > i then j else i))) y1) : wE C (tCB (fun xs H Q => ∃ i j, xs = [.int i, .int j] ∧ Q (.int (if j > i then j else i)) H) ts) y Q := by
  refine wE_cb (res := fun ds g => ∃ i j, ds = [.int i, .int j] ∧ g = .int (if j > i then j else i)) ?_ (wD_mono w fun ds y1 ⟨i, j, e, q⟩ => ⟨_, ⟨i, j, e, rfl⟩, q⟩)
  rintro M H xs ds g Q _ r ⟨i, j, rfl, rfl⟩ k
  obtain ⟨v, u, rfl, rv, ru⟩ := rpA2 r
  exact ⟨i, j, by rw [rp_int rv, rp_int ru], k _ H (fun _ _ e => e) (.int _)⟩
theorem wE_min2 (w : wD C ts y fun ds y1 => ∃ i j, ds = [.int i, .int j] ∧ Q (.d (.int (if j < i then j else i))) y1) : wE C (tCB (fun xs H Q => ∃ i j, xs = [.int i, .int j] ∧ Q (.int (if j < i then j else i)) H) ts) y Q := by
  refine wE_cb (res := fun ds g => ∃ i j, ds = [.int i, .int j] ∧ g = .int (if j < i then j else i)) ?_ (wD_mono w fun ds y1 ⟨i, j, e, q⟩ => ⟨_, ⟨i, j, e, rfl⟩, q⟩)
  rintro M H xs ds g Q _ r ⟨i, j, rfl, rfl⟩ k
  obtain ⟨v, u, rfl, rv, ru⟩ := rpA2 r
  exact ⟨i, j, by rw [rp_int rv, rp_int ru], k _ H (fun _ _ e => e) (.int _)⟩
theorem wE_int1 (w : wD C ts y fun ds y1 => (∃ i, ds = [.int i] ∧ Q (.d (.int i)) y1) ∨ ∃ b, ds = [.bool b] ∧ Q (.d (.int (if b then 1 else 0))) y1) :
    wE C (tCB (fun xs H Q => (∃ i, xs = [.int i] ∧ Q (.int i) H) ∨ ∃ k, xs = [.bl k] ∧ Q (.int (if k then 1 else 0)) H) ts) y Q := by
  refine wE_cb (res := fun ds g => (∃ i, ds = [.int i] ∧ g = .int i) ∨ ∃ b, ds = [.bool b] ∧ g = .int (if b then 1 else 0)) ?_ (wD_mono w fun ds y1 h => ?_)
  · rintro M H xs ds g Q _ r (⟨i, rfl, rfl⟩ | ⟨b, rfl, rfl⟩) k
    · obtain ⟨v, rfl, rv⟩ := rpA1 r
      exact .inl ⟨i, by rw [rp_int rv], k _ H (fun _ _ e => e) (.int _)⟩
    · obtain ⟨v, rfl, rv⟩ := rpA1 r
      exact .inr ⟨b, by rw [rp_bl rv], k _ H (fun _ _ e => e) (.int _)⟩
  · rcases h with ⟨i, e, q⟩ | ⟨b, e, q⟩
    · exact ⟨_, .inl ⟨i, e, rfl⟩, q⟩
    · exact ⟨_, .inr ⟨b, e, rfl⟩, q⟩
theorem wE_strI (w : wD C ts y fun ds y1 => ∃ i, ds = [.int i] ∧ i.natAbs.log2 < 1920 ∧ Q (.d (.str (toString i))) y1) : wE C (tCB (fun xs H Q => ∃ i, xs = [.int i] ∧ i.natAbs.log2 < 1920 ∧ Q (.str (toString i)) H) ts) y Q := by
  refine wE_cb (res := fun ds g => ∃ i, ds = [.int i] ∧ i.natAbs.log2 < 1920 ∧ g = .str (toString i)) ?_ (wD_mono w fun ds y1 ⟨i, e, c, q⟩ => ⟨_, ⟨i, e, c, rfl⟩, q⟩)
  rintro M H xs ds g Q _ r ⟨i, rfl, c, rfl⟩ k
  obtain ⟨v, rfl, rv⟩ := rpA1 r
  exact ⟨i, by rw [rp_int rv], c, k _ H (fun _ _ e => e) (.str _)⟩
theorem wE_intS (w : wD C ts y fun ds y1 => ∃ a n, ds = [.str a] ∧ PySem.intText? a = some n ∧ a.length ≤ 640 ∧ Q (.d (.int n)) y1) : wE C (tCB (fun xs H Q => ∃ a n, xs = [.str a] ∧ PySem.intText? a = some n ∧ a.length ≤ 640 ∧ Q (.int n) H) ts) y Q := by
  refine wE_cb (res := fun ds g => ∃ a n, ds = [.str a] ∧ PySem.intText? a = some n ∧ a.length ≤ 640 ∧ g = .int n) ?_ (wD_mono w fun ds y1 ⟨i, n, e, c, l, q⟩ => ⟨_, ⟨i, n, e, c, l, rfl⟩, q⟩)
  rintro M H xs ds g Q _ r ⟨i, n, rfl, c, l, rfl⟩ k
  obtain ⟨v, rfl, rv⟩ := rpA1 r
  exact ⟨i, n, by rw [rp_str rv], c, l, k _ H (fun _ _ e => e) (.int _)⟩
theorem wE_len (w : wD C ts y fun ds y1 => ∃ d n, ds = [d] ∧ dLen d = some n ∧ Q (.d (.int n)) y1) : wE C (tCB (fun xs H Q => ∃ x n, xs = [x] ∧ LenV C.K x H n ∧ Q (.int (n : Nat)) H) ts) y Q := by
  refine wE_cb (res := fun ds g => ∃ d n, ds = [d] ∧ dLen d = some n ∧ g = .int n) ?_ (wD_mono w fun ds y1 ⟨d, n, e, c, q⟩ => ⟨_, ⟨d, n, e, c, rfl⟩, q⟩)
  rintro M H xs ds g Q _ r ⟨d, n, rfl, c, rfl⟩ k
  obtain ⟨v, rfl, rv⟩ := rpA1 r
  refine ⟨v, n, rfl, ?_, k _ H (fun _ _ e => e) (.int _)⟩
  cases rv with
  | non => cases c
  | bl _ => cases c
  | int _ => cases c
  | dic _ _ _ => cases c
  | str z =>
    simp only [dLen] at c
    by_cases h : z.length ≤ sizeLine
    · rw [if_pos h] at c; cases c; exact ⟨h, rfl⟩
    · rw [if_neg h] at c; cases c
  | lst h1 h2 => cases c; exact .inl ⟨_, h1.sq, h2.len.symm⟩
  | tup h1 h2 => cases c; exact .inr ⟨_, h1.sq, h2.len.symm⟩
theorem wE_all (w : wD C ts y fun ds y1 => ∃ bs : List Bool, ds = [.list (bs.map PyData.bool)] ∧ Q (.d (.bool (bs.all id))) y1) : wE C (tCB (rAll C.K) ts) y Q := by
  refine wE_cb (res := fun ds g => ∃ bs : List Bool, ds = [.list (bs.map PyData.bool)] ∧ g = .bool (bs.all id)) ?_ (wD_mono w fun ds y1 ⟨i, e, q⟩ => ⟨_, ⟨i, e, rfl⟩, q⟩)
  rintro M H xs ds g Q _ r ⟨bs, rfl, rfl⟩ k
  obtain ⟨v, rfl, rv⟩ := rpA1 r
  obtain ⟨a, us, rfl, h1, h2⟩ := rp_lst rv
  have e := rpA_bls h2
  subst e
  exact ⟨a, bs, rfl, h1.sq, k _ H (fun _ _ e => e) (.bl _)⟩
theorem wE_any (w : wD C ts y fun ds y1 => ∃ bs : List Bool, ds = [.list (bs.map PyData.bool)] ∧ Q (.d (.bool (bs.any id))) y1) : wE C (tCB (rAny C.K) ts) y Q := by
  refine wE_cb (res := fun ds g => ∃ bs : List Bool, ds = [.list (bs.map PyData.bool)] ∧ g = .bool (bs.any id)) ?_ (wD_mono w fun ds y1 ⟨i, e, q⟩ => ⟨_, ⟨i, e, rfl⟩, q⟩)
  rintro M H xs ds g Q _ r ⟨bs, rfl, rfl⟩ k
  obtain ⟨v, rfl, rv⟩ := rpA1 r
  obtain ⟨a, us, rfl, h1, h2⟩ := rp_lst rv
  have e := rpA_bls h2
  subst e
  exact ⟨a, bs, rfl, h1.sq, k _ H (fun _ _ e => e) (.bl _)⟩
theorem wE_sum (w : wD C ts y fun ds y1 => ∃ bs : List Int, ds = [.list (bs.map PyData.int)] ∧ Q (.d (.int bs.sum)) y1) : wE C (tCB (rSum C.K) ts) y Q := by
  refine wE_cb (res := fun ds g => ∃ bs : List Int, ds = [.list (bs.map PyData.int)] ∧ g = .int bs.sum) ?_ (wD_mono w fun ds y1 ⟨i, e, q⟩ => ⟨_, ⟨i, e, rfl⟩, q⟩)
  rintro M H xs ds g Q _ r ⟨bs, rfl, rfl⟩ k
  obtain ⟨v, rfl, rv⟩ := rpA1 r
  obtain ⟨a, us, rfl, h1, h2⟩ := rp_lst rv
  have e := rpA_ints h2
  subst e
  exact ⟨a, bs, rfl, h1.sq, k _ H (fun _ _ e => e) (.int _)⟩
theorem wE_listOf (w : wD C ts y fun ds y1 => ∃ d xs, ds = [d] ∧ dItems d = some xs ∧ Q (.d (.list xs)) y1) :
    wE C (tCB (fun xs H Q => ∃ p ys, xs = [.ref p] ∧ (SqL C.K H p ys ∨ SqT C.K H p ys) ∧ ∀ l, H l = none → Q (.ref l) (upd H l (.lst ys))) ts) y Q := by
  refine wE_cb (res := fun ds g => ∃ d xs, ds = [d] ∧ dItems d = some xs ∧ g = .list xs) ?_ (wD_mono w fun ds y1 ⟨i, xs, e, c, q⟩ => ⟨_, ⟨i, xs, e, c, rfl⟩, q⟩)
  rintro M H xs ds g Q fr r ⟨d, es, rfl, c, rfl⟩ k
  obtain ⟨v, rfl, rv⟩ := rpA1 r
  obtain ⟨a, us, rfl, h1, h2⟩ := rp_items rv c
  refine ⟨a, us, rfl, h1.elim (fun z => .inl z.sq) (fun z => .inr z.sq), fun p hp => k _ _ (grow_upd hp) (.lst (.inl ⟨fr p hp, .inl upd_same⟩) (h2.go fun a o n e => ⟨n, grow_upd hp a o e⟩))⟩
theorem wE_tupOf (w : wD C ts y fun ds y1 => ∃ d xs, ds = [d] ∧ dItems d = some xs ∧ Q (.d (.tuple xs)) y1) :
    wE C (tCB (fun xs H Q => ∃ p ys, xs = [.ref p] ∧ ((SqL C.K H p ys ∧ ∀ l, H l = none → Q (.ref l) (upd H l (.tup ys))) ∨ (SqT C.K H p ys ∧ Q (.ref p) H))) ts) y Q := by
  refine wE_cb (res := fun ds g => ∃ d xs, ds = [d] ∧ dItems d = some xs ∧ g = .tuple xs) ?_ (wD_mono w fun ds y1 ⟨i, xs, e, c, q⟩ => ⟨_, ⟨i, xs, e, c, rfl⟩, q⟩)
  rintro M H xs ds g Q fr r ⟨d, es, rfl, c, rfl⟩ k
  obtain ⟨v, rfl, rv⟩ := rpA1 r
  obtain ⟨a, us, rfl, h1, h2⟩ := rp_items rv c
  refine ⟨a, us, rfl, ?_⟩
  rcases h1 with h1 | h1
  · exact .inl ⟨h1.sq, fun p hp => k _ _ (grow_upd hp) (.tup (.inl ⟨fr p hp, .inl upd_same⟩) (h2.go fun a o n e => ⟨n, grow_upd hp a o e⟩))⟩
  · exact .inr ⟨h1.sq, k _ H (fun _ _ e => e) (.tup h1 h2)⟩
theorem wE_repr (w : wD C ts y fun ds y1 => ∃ d, ds = [d] ∧ dsm d = true ∧ d.showable = true ∧ d.depth ≤ 60 ∧ d.shown.length ≤ sizeLine ∧ Q (.d (.str d.shown)) y1) : wE C (tCB (rRepr C.K) ts) y Q := by
  refine wE_cb (res := fun ds g => ∃ d, ds = [d] ∧ dsm d = true ∧ d.showable = true ∧ d.depth ≤ 60 ∧ d.shown.length ≤ sizeLine ∧ g = .str d.shown) ?_ (wD_mono w fun ds y1 ⟨d, e, c1, c2, c3, c4, q⟩ => ⟨_, ⟨d, e, c1, c2, c3, c4, rfl⟩, q⟩)
  rintro M H xs ds g Q _ r ⟨d, rfl, c1, c2, c3, c4, rfl⟩ k
  obtain ⟨v, rfl, rv⟩ := rpA1 r
  exact ⟨v, d, rfl, rv.any, c1, c2, c3, c4, k _ H (fun _ _ e => e) (.str _)⟩
theorem wE_isi {T : String} (w : wE C te y fun z y1 => ∃ d, z = .d d ∧ Q (.d (.bool (isT T d))) y1) (hT : (tyNames.all fun n => (kitB n T).isSome) = true := by decide +kernel) : wE C (tCB (rIsi C.K) (tCons te (tCons (tC (.ty T)) tNil))) y Q := by
  intro F σ H K wd k
  refine w F σ H _ wd fun x H1 z y1 w1 g1 s1 r1 q1 => ?_
  obtain ⟨d, rfl, h⟩ := q1
  exact ⟨x, .ty T, _, _, isT T d, rfl, .ty T, rp_ty r1, kit_ty (kit_isT hT d), k _ H1 (.d (.bool (isT T d))) y1 w1 g1 s1 (.bl _) h⟩
theorem wE_isi2 {T U : String} (w : wE C te y fun z y1 => ∃ d, z = .d d ∧ Q (.d (.bool (isT T d || isT U d))) y1) (hT : (tyNames.all fun n => (kitB n T).isSome) = true := by decide +kernel) (hU : (tyNames.all fun n => (kitB n U).isSome) = true := by decide +kernel) :
    wE C (tCB (rIsiT C.K) (tCons te (tCons (tTup (tCons (tC (.ty T)) (tCons (tC (.ty U)) tNil))) tNil))) y Q := by
  intro F σ H K wd k
  refine w F σ H _ wd fun x H1 z y1 w1 g1 s1 r1 q1 => ?_
  obtain ⟨d, rfl, h⟩ := q1
  refine ⟨by show 2 ≤ sizeLine; decide, fun p hp => ?_⟩
  have gr := grow_upd (o := .tup [.ty T, .ty U]) hp
  refine ⟨x, p, [.ty T, .ty U], _, [.type T, .type U], isT T d || isT U d, rfl, upd_same, .cons (.ty T) (.cons (.ty U) .nil), rp_ty (Rp.go (go_grow (F := F) (σ := σ) (y := y1) gr) r1), ?_, k _ _ (.d (.bool (isT T d || isT U d))) y1 (w1.grow gr) (g1.trans (go_grow gr)) s1 (.bl _) h⟩
  refine kitAny_cons (b := isT T d) (kit_ty (kit_isT hT d)) (fun e => ?_) (fun e => by rw [e]; rfl)
  refine kitAny_cons (b := isT U d) (kit_ty (kit_isT hU d)) (fun e2 => ?_) (fun e2 => by rw [e, e2]; rfl)
  rw [e, e2]
  rfl
variable {tl th : TO}
theorem wO_no {q : Option Int → S → Prop} (h : q none y) : wO C tNoPart y q := fun F σ H K wd k => k none H y wd GoH.refl (Sh.refl y) h
theorem wO_part {q : Option Int → S → Prop} (w : wE C te y fun z y1 => ∃ i, z = .d (.int i) ∧ q (some i) y1) : wO C (tPart te) y q := by
  intro F σ H K wd k
  refine w F σ H _ wd fun x H1 z y1 w1 g1 s1 r1 q1 => ?_
  obtain ⟨i, rfl, h⟩ := q1
  exact ⟨i, rp_int r1, k (some i) H1 y1 w1 g1 s1 h⟩
theorem wE_sl (w : wE C te y fun z y1 => wO C tl y1 fun l y2 => wO C th y2 fun h y3 => ∃ d g, z = .d d ∧ dCut d l h = some g ∧ Q (.d g) y3) : wE C (tSl (rSlD C.K) te tl th) y Q := by
  intro F σ H K wd k
  refine w F σ H _ wd fun x H1 z y1 w1 g1 s1 r1 q1 => ?_
  refine q1 F σ H1 _ w1 fun l H2 y2 w2 g2 s2 q2 => ?_
  refine q2 F σ H2 _ w2 fun h H3 y3 w3 g3 s3 q3 => ?_
  obtain ⟨d, g, rfl, c, hq⟩ := q3
  have r3 : Rp C.K (Mv F σ y3) H3 x d := Rp.go (g2.trans g3) r1
  have G := (g1.trans g2).trans g3
  have SS := (s1.trans s2).trans s3
  cases r3 with
  | non => cases c
  | bl _ => cases c
  | int _ => cases c
  | dic _ _ _ => cases c
  | str z =>
    simp only [dCut] at c
    by_cases hz : z.length ≤ sizeLine
    · rw [if_pos hz] at c; cases c
      exact .inr (.inr ⟨z, rfl, hz, k _ H3 (.d (.str (cutS z l h))) y3 w3 G SS (.str _) hq⟩)
    · rw [if_neg hz] at c; cases c
  | @lst a xs ds h1 h2 =>
    cases c
    refine .inl ⟨a, xs, rfl, h1.sq, fun p hp => ?_⟩
    have gr := grow_upd (o := .lst (cutV xs l h)) hp
    exact k _ _ (.d (.list (cutD ds l h))) y3 (w3.grow gr) (G.trans (go_grow gr)) SS (.lst (.inl ⟨w3.new hp, .inl upd_same⟩) ((rpA_cut h2 l h).go (go_grow gr))) hq
  | @tup a xs ds h1 h2 =>
    cases c
    refine .inr (.inl ⟨a, xs, rfl, h1.sq, fun e => ?_, fun e p hp => ?_⟩)
    · rw [h2.len] at e
      rw [cutD_whole ds l h e] at hq
      exact k _ H3 (.d (.tuple ds)) y3 w3 G SS (.tup h1 h2) hq
    · have gr := grow_upd (o := .tup (cutV xs l h)) hp
      exact k _ _ (.d (.tuple (cutD ds l h))) y3 (w3.grow gr) (G.trans (go_grow gr)) SS (.tup (.inl ⟨w3.new hp, .inl upd_same⟩) ((rpA_cut h2 l h).go (go_grow gr))) hq
theorem wE_starts (w : wE C ta y fun z y1 => ∃ a, z = .d (.str a) ∧ wE C tb y1 fun z' y2 => ∃ b, z' = .d (.str b) ∧ Q (.d (.bool (Txt.startswith a b))) y2) :
    wE C (tM1 (fun x xs H Q => ∃ a b, x = .str a ∧ xs = [.str b] ∧ Q (.bl (Txt.startswith a b)) H) ta tb) y Q := by
  intro F σ H K wd k
  refine w F σ H _ wd fun x H1 z y1 w1 g1 s1 r1 q1 => ?_
  obtain ⟨a, rfl, q1⟩ := q1
  have e := rp_str r1
  subst e
  refine ⟨⟨a, rfl⟩, q1 F σ H1 _ w1 fun x2 H2 z' y2 w2 g2 s2 r2 q2 => ?_⟩
  obtain ⟨b, rfl, hq⟩ := q2
  exact ⟨a, b, rfl, by rw [rp_str r2], k _ H2 (.d (.bool _)) y2 w2 (g1.trans g2) (s1.trans s2) (.bl _) hq⟩
theorem wE_join (w : wE C ta y fun z y1 => ∃ a, z = .d (.str a) ∧ wE C tb y1 fun z' y2 => ∃ (d : D) (ys : List Str), z' = .d d ∧ dItems d = some (ys.map PyData.str) ∧ (ys.map (·.length)).sum + ys.length * a.length ≤ 16777216 ∧ Q (.d (.str (Txt.join a ys))) y2) :
    wE C (tM1 (fun x xs H Q => ∃ a p, ∃ ys : List Str, x = .str a ∧ xs = [.ref p] ∧ (SqL C.K H p (ys.map V.str) ∨ SqT C.K H p (ys.map V.str)) ∧ (ys.map (·.length)).sum + ys.length * a.length ≤ 16777216 ∧ Q (.str (Txt.join a ys)) H) ta tb) y Q := by
  intro F σ H K wd k
  refine w F σ H _ wd fun x H1 z y1 w1 g1 s1 r1 q1 => ?_
  obtain ⟨a, rfl, q1⟩ := q1
  have e := rp_str r1
  subst e
  refine ⟨⟨a, rfl⟩, q1 F σ H1 _ w1 fun x2 H2 z' y2 w2 g2 s2 r2 q2 => ?_⟩
  obtain ⟨d, ys, rfl, hi, hz, hq⟩ := q2
  obtain ⟨p, us, rfl, h1, h2⟩ := rp_items r2 hi
  have e := rpA_strs h2
  subst e
  exact ⟨a, p, ys, rfl, rfl, h1.elim (fun z => .inl z.sq) (fun z => .inr z.sq), hz, k _ H2 (.d (.str _)) y2 w2 (g1.trans g2) (s1.trans s2) (.str _) hq⟩
end
end Ux

set_option maxRecDepth 100000
set_option maxHeartbeats 4000000
namespace Ux
open PySem PySem.Spec PyProof.Rows L2 Tq
section
variable {C : Ct} {y : S} {ta tb tc te : TE} {t u : TT} {tx tz : TS} {ts : TA} {e : En} {Q : Z → S → Prop} {q : List Z → S → Prop}
/-! arguments of any kind -/
def wZ (C : Ct) (ta : TA) (y : S) (Q : List Z → S → Prop) : Prop := ∀ (F : Fr) σ H (K : List V → Hp → Prop), Wd C F σ y H → (∀ vs H' zs y', Wd C F σ y' H' → Go F σ y H σ y' H' → Sh y y' → RwA C.K (Mv F σ y') H' vs zs → Q zs y' → K vs H') → ta σ H K
theorem wZ_nil (h : q [] y) : wZ C tNil y q := fun F σ H K wd k => k [] H [] y wd GoH.refl (Sh.refl y) .nil h
theorem wZ_cons (w : wE C ta y fun z y1 => wZ C ts y1 fun zs y2 => q (z :: zs) y2) : wZ C (tCons ta ts) y q := by
  intro F σ H K wd k
  refine w F σ H _ wd fun x H1 z y1 w1 g1 s1 r1 h => ?_
  exact h F σ H1 _ w1 fun vs H2 ds y2 w2 g2 s2 r2 q2 => k (x :: vs) H2 (z :: ds) y2 w2 (g1.trans g2) (s1.trans s2) (.cons (r1.w.go g2) r2) q2
theorem wZ_mono {q' : List Z → S → Prop} (h : wZ C ts y q) (e : ∀ z y', q z y' → q' z y') : wZ C ts y q' := fun F σ H K w k => h F σ H K w fun vs H' z y' a b c d f => k vs H' z y' a b c d (e z y' f)
theorem wE_tupZ (w : wZ C ts y fun zs y1 => zs.length ≤ sizeLine ∧ Q (.tup zs) y1) : wE C (tTup ts) y Q := by
  intro F σ H K wd k
  refine w F σ H _ wd fun vs H1 zs y1 w1 g1 s1 r1 ⟨hz, q1⟩ => ⟨by rw [r1.len]; exact hz, fun p hp => ?_⟩
  have gr := grow_upd (o := .tup vs) hp
  exact k _ _ (.tup zs) y1 (w1.grow gr) (g1.trans (go_grow gr)) s1 (.tup (.inl ⟨w1.new hp, .inl upd_same⟩) (r1.go (go_grow (F := F) (σ := σ) (y := y1) gr))) q1
theorem wE_lstZ (w : wZ C ts y fun zs y1 => zs.length ≤ sizeLine ∧ Q (.lst zs) y1) : wE C (tLst ts) y Q := by
  intro F σ H K wd k
  refine w F σ H _ wd fun vs H1 zs y1 w1 g1 s1 r1 ⟨hz, q1⟩ => ⟨by rw [r1.len]; exact hz, fun p hp => ?_⟩
  have gr := grow_upd (o := .lst vs) hp
  exact k _ _ (.lst zs) y1 (w1.grow gr) (g1.trans (go_grow gr)) s1 (.lst (.inl ⟨w1.new hp, .inl upd_same⟩) (r1.go (go_grow (F := F) (σ := σ) (y := y1) gr))) q1
/-! storing -/
theorem wS_asg {i : Nat} (w : wE C te y fun z y1 => e.nx (y1.set i (some z))) : wS C (tAsg te (gName i)) y e := by
  intro F σ H E st wd k
  exact w F σ H _ wd fun v H1 z y1 w1 g1 s1 r1 q => k.nx _ H1 _ (w1.set_z r1) (g1.trans go_set) q
theorem wS_par {i j : Nat} (w : wZ C ts y fun zs y1 => ∃ z u, zs = [z, u] ∧ e.nx ((y1.set i (some z)).set j (some u))) : wS C (tPar i j ts) y e := by
  intro F σ H E st wd k
  refine w F σ H _ wd fun vs H1 zs y1 w1 g1 s1 r1 q => ?_
  obtain ⟨z, u, rfl, q⟩ := q
  cases r1 with | @cons v _ vs _ rv r2 =>
  cases r2 with | @cons v2 _ vs2 _ ru r3 =>
  cases r3
  refine ⟨v, v2, rfl, k.nx _ H1 _ ((w1.set_z rv.z).set_z (Rz.go (σ := σ) go_set ru.z).w.z) ((g1.trans (go_set (σ' := σ))).trans go_set) q⟩
theorem wS_aug {i : Nat} {f : Int → Int → Int} {a : Int} (hx : y.l[i]? = some (some (.d (.int a)))) (w : wE C te y fun z y1 => ∃ b, z = .d (.int b) ∧ e.nx (y1.set i (some (.d (.int (f a b)))))) : wS C (tAug i te (ipI f)) y e := by
  intro F σ H E st wd k
  obtain ⟨x, h1, h2⟩ := wd.slot i _ hx
  cases h2 with | d h2 =>
  refine ⟨x, h1, w F σ H _ wd fun v H1 z y1 w1 g1 s1 r1 q => ?_⟩
  obtain ⟨b, rfl, q⟩ := q
  exact ⟨a, b, rp_int h2, rp_int r1, k.nx _ H1 _ (w1.set_z (z := .d (.int (f a b))) (.int _)) (g1.trans go_set) q⟩
/-! targets -/
def wG (C : Ct) (g : TG) (z : Z) (y : S) (Q : S → Prop) : Prop := ∀ (F : Fr) σ H (v : V) (R : St → Hp → Prop), Wd C F σ y H → Rz C F σ y H v z → (∀ σ' y', Wd C F σ' y' H → Go F σ y H σ' y' H → Q y' → R σ' H) → g v σ H R
variable {g : TG} {Qg : S → Prop}
theorem wG_name {i : Nat} {z : Z} (h : Qg (y.set i (some z))) : wG C (gName i) z y Qg := fun F σ H v R wd r k => k _ _ (wd.set_z r) go_set h
def wGs (C : Ct) (g : TGs) (zs : List Z) (y : S) (Q : S → Prop) : Prop := ∀ (F : Fr) σ H (vs : List V) (R : St → Hp → Prop), Wd C F σ y H → RwA C.K (Mv F σ y) H vs zs → (∀ σ' y', Wd C F σ' y' H → Go F σ y H σ' y' H → Q y' → R σ' H) → g vs σ H R
theorem wGs_nil (h : Qg y) : wGs C gNil [] y Qg := fun F σ H vs R wd r k => by
  cases r
  exact ⟨rfl, k σ y wd GoH.refl h⟩
theorem wGs_cons {gs : TGs} {z : Z} {zs : List Z} (h : wG C g z y fun y1 => wGs C gs zs y1 Qg) : wGs C (gCons g gs) (z :: zs) y Qg := fun F σ H vs R wd r k => by
  cases r with
  | @cons v _ vs _ r1 r2 =>
    refine ⟨v, vs, rfl, h F σ H v _ wd r1.z fun σ1 y1 w1 g1 q1 => ?_⟩
    exact q1 F σ1 H vs R w1 (r2.go g1) fun σ2 y2 w2 g2 q2 => k σ2 y2 w2 (g1.trans g2) q2
theorem wG_tup {n : Nat} {gs : TGs} {ds : List D} (hn : ds.length = n) (h : wGs C gs (ds.map Z.d) y Qg) : wG C (gTup C.K n gs) (.d (.tuple ds)) y Qg := fun F σ H v R wd r k => by
  obtain ⟨a, us, rfl, h1, h2⟩ := rp_tup r
  exact ⟨a, us, rfl, h1.sq, by rw [h2.len]; exact hn, h F σ H us R wd (RwA.of h2) k⟩
theorem wG_tupZ {n : Nat} {gs : TGs} {zs : List Z} (hn : zs.length = n) (h : wGs C gs zs y Qg) : wG C (gTup C.K n gs) (.tup zs) y Qg := fun F σ H v R wd r k => by
  cases r.w with
  | tup h1 h2 => exact ⟨_, _, rfl, h1.sq, by rw [h2.len]; exact hn, h F σ H _ R wd h2 k⟩
theorem wS_asgG (w : wE C te y fun z y1 => wG C g z y1 e.nx) : wS C (tAsg te g) y e := by
  intro F σ H E st wd k
  exact w F σ H _ wd fun v H1 z y1 w1 g1 s1 r1 q => q F σ H1 v _ w1 r1 fun σ2 y2 w2 g2 q2 => k.nx σ2 H1 y2 w2 (g1.trans g2) q2
end
section
variable {C : Ct} {y : S} {ta tb tc te : TE} {t u : TT} {tx tz : TS} {ts : TA} {e : En} {R : Bool → S → Prop}
theorem EnOk.go {σ σ' : St} {y' : S} {H H' : Hp} {E : Ends} (k : EnOk C F σ y H e E) (g : Go F σ y H σ' y' H') : EnOk C F σ' y' H' e E :=
  ⟨fun a b c w g2 q => k.nx a b c w (g.trans g2) q, fun a b c d f w g2 r q => k.rt a b c d f w (g.trans g2) r q, fun a b c w g2 q => k.bk a b c w (g.trans g2) q, fun a b c w g2 q => k.ct a b c w (g.trans g2) q⟩
theorem wS_seq (w : wS C tx y { e with nx := fun y1 => wS C tz y1 e }) : wS C (tSeq tx tz) y e := by
  intro F σ H E st wd k
  refine w F σ H _ st wd ⟨fun σ1 H1 y1 w1 g1 q => ?_, k.rt, k.bk, k.ct⟩
  exact q F σ1 H1 E st w1 (k.go g1)
theorem wS_next (h : e.nx y) : wS C tNext y e := fun F σ H E st wd k => k.nx σ H y wd GoH.refl h
theorem wS_ret (w : wE C te y fun z y1 => e.rt z y1) : wS C (tRet te) y e := by
  intro F σ H E st wd k
  exact w F σ H _ wd fun v H1 z y1 w1 g1 s1 r1 q => k.rt σ v H1 z y1 w1 g1 r1 q
theorem wS_retN (h : e.rt (.d .none) y) : wS C tRetN y e := fun F σ H E st wd k => k.rt σ .non H (.d .none) y wd GoH.refl .non h
theorem wS_drop (w : wE C te y fun z y1 => e.nx y1) : wS C (tDrop te) y e := by
  intro F σ H E st wd k
  exact w F σ H _ wd fun v H1 z y1 w1 g1 s1 r1 q => k.nx σ H1 y1 w1 g1 q
theorem wS_if (w : wT C t y fun b y1 => if b = true then wS C tx y1 e else wS C tz y1 e) : wS C (tIfS t tx tz) y e := by
  intro F σ H E st wd k
  refine w F σ H _ wd fun b H1 y1 w1 g1 s1 q => ?_
  cases b with
  | true => exact q F σ H1 E st w1 (k.go g1)
  | false => exact q F σ H1 E st w1 (k.go g1)
theorem wS_seqA {i : Nat} (w : wE C te y fun z y1 => wS C tz (y1.set i (some z)) e) : wS C (tSeq (tAsg te (gName i)) tz) y e := wS_seq (wS_asg w)
theorem wS_seqP {i j : Nat} (w : wZ C ts y fun zs y1 => ∃ z u, zs = [z, u] ∧ wS C tz ((y1.set i (some z)).set j (some u)) e) : wS C (tSeq (tPar i j ts) tz) y e := wS_seq (wS_par w)
theorem wS_seqI (w : wT C t y fun b y1 => if b = true then wS C tx y1 { nx := fun y2 => wS C tz y2 e, rt := e.rt, bk := e.bk, ct := e.ct } else wS C tz y1 e) : wS C (tSeq (tIfS t tx tNext) tz) y e := by
  refine wS_seq (wS_if (wT_mono w fun b y1 h => ?_))
  cases b with
  | true => exact h
  | false => exact wS_next h
theorem wS_ifN (w : wT C t y fun b y1 => if b = true then wS C tx y1 e else e.nx y1) : wS C (tIfS t tx tNext) y e := by
  refine wS_if (wT_mono w fun b y1 h => ?_)
  cases b with
  | true => exact h
  | false => exact wS_next h
def JOk (C : Ct) (F : Fr) (J : It) (σ : St) (y : S) (H : Hp) (xs : List D) : Prop := ∀ (F1 : Fr) σ1 y1 H1, Wd0 C.K F1 σ1 y1 H1 → GoH (Mv F σ y) H (Mv F1 σ1 y1) H1 → ∀ i : Nat, (i < xs.length → J.go i H1) ∧ (xs.length ≤ i → J.stop i H1) ∧
  ∀ x, xs[i]? = some x → ∀ v H2, J.yld i H1 v H2 → (∀ a o, H1 a = some o → H2 a = some o) ∧ Rp C.K (Mv F1 σ1 y1) H2 v x
def wI (C : Ct) (wi : TI) (y : S) (Q : List D → S → Prop) : Prop := ∀ (F : Fr) σ H (R : It → Hp → Prop), Wd C F σ y H → (∀ J H' xs y', Wd C F σ y' H' → Go F σ y H σ y' H' → Sh y y' → JOk C F J σ y' H' xs → Q xs y' → R J H') → wi σ H R
variable {Qi : List D → S → Prop} {wi : TI}
theorem wI_list (w : wE C te y fun z y1 => ∃ xs, z = .d (.list xs) ∧ Qi xs y1) : wI C (iList C.K te) y Qi := by
  intro F σ H R wd k
  refine w F σ H _ wd fun v H1 z y1 w1 g1 s1 r1 q => ?_
  obtain ⟨xs, rfl, q⟩ := q
  obtain ⟨a, us, rfl, h1, h2⟩ := rp_lst r1
  refine ⟨a, rfl, ⟨us, h1.sq⟩, k _ H1 xs y1 w1 g1 s1 (fun F1 σ2 y2 H2 w2 g2 i => ?_) q⟩
  have e1 := (h1.go g2).sq
  have e2 := h2.go g2
  refine ⟨fun hi => ?_, fun hi => ⟨us, e1, by rw [h2.len]; exact hi⟩, fun x hx v H3 hy => ?_⟩
  · have : i < us.length := by rw [h2.len]; exact hi
    exact ⟨us, us[i], e1, by simp [this]⟩
  · obtain ⟨rfl, hv⟩ := hy
    obtain ⟨d, hd, rd⟩ := e2.getV (hv us e1)
    rw [hx] at hd
    cases hd
    exact ⟨fun _ _ e => e, rd⟩
theorem wI_tup (w : wE C te y fun z y1 => ∃ xs, z = .d (.tuple xs) ∧ Qi xs y1) : wI C (iTup C.K te) y Qi := by
  intro F σ H R wd k
  refine w F σ H _ wd fun v H1 z y1 w1 g1 s1 r1 q => ?_
  obtain ⟨xs, rfl, q⟩ := q
  obtain ⟨a, us, rfl, h1, h2⟩ := rp_tup r1
  refine ⟨a, rfl, ⟨us, h1.sq⟩, k _ H1 xs y1 w1 g1 s1 (fun F1 σ2 y2 H2 w2 g2 i => ?_) q⟩
  have e1 := (h1.go g2).sq
  have e2 := h2.go g2
  refine ⟨fun hi => ?_, fun hi => ⟨us, e1, by rw [h2.len]; exact hi⟩, fun x hx v H3 hy => ?_⟩
  · have : i < us.length := by rw [h2.len]; exact hi
    exact ⟨us, us[i], e1, by simp [this]⟩
  · obtain ⟨rfl, hv⟩ := hy
    obtain ⟨d, hd, rd⟩ := e2.getV (hv us e1)
    rw [hx] at hd
    cases hd
    exact ⟨fun _ _ e => e, rd⟩
theorem wI_str (w : wE C te y fun z y1 => ∃ x, z = .d (.str x) ∧ Qi (signs x) y1) : wI C (iStr te) y Qi := by
  intro F σ H R wd k
  refine w F σ H _ wd fun v H1 z y1 w1 g1 s1 r1 q => ?_
  obtain ⟨x, rfl, q⟩ := q
  refine ⟨x, rp_str r1, k _ H1 (signs x) y1 w1 g1 s1 (fun F1 σ2 y2 H2 w2 g2 i => ⟨fun hi => ?_, fun hi => ?_, fun d hd v H3 hy => ?_⟩) q⟩
  · rw [signs_len] at hi; exact hi
  · rw [signs_len] at hi; exact hi
  · obtain ⟨rfl, c, hc, rfl⟩ := hy
    refine ⟨fun _ _ e => e, ?_⟩
    unfold Tq.signs at hd
    rw [List.getElem?_map, Array.getElem?_toList, hc] at hd
    cases hd
    exact .str _
theorem wI_rng1 (w : wD C ts y fun ds y1 => ∃ j : Int, ds = [.int j] ∧ -(2 ^ 62) ≤ j ∧ j < 2 ^ 62 ∧ Qi (rangeD 0 j.toNat) y1) : wI C (iRng1 ts) y Qi := by
  intro F σ H R wd k
  refine w F σ H _ wd fun vs H1 ds y1 w1 g1 s1 r1 q => ?_
  obtain ⟨j, rfl, h1, h2, q⟩ := q
  obtain ⟨v, rfl, rv⟩ := rpA1 r1
  have e := rp_int rv
  subst e
  refine ⟨j, rfl, h1, h2, k _ H1 _ y1 w1 g1 s1 (fun F1 σ2 y2 H2 w2 g2 i => ⟨fun hi => ?_, fun hi => ?_, fun d hd v H3 hy => ?_⟩) q⟩
  · rw [rangeD_len] at hi; exact hi
  · rw [rangeD_len] at hi; exact hi
  · obtain ⟨rfl, rfl⟩ := hy
    obtain ⟨_, rfl⟩ := rangeD_get hd
    exact ⟨fun _ _ e => e, .int _⟩
theorem wI_rng2 (w : wD C ts y fun ds y1 => ∃ i j : Int, ds = [.int i, .int j] ∧ (-(2 ^ 62) ≤ i ∧ i < 2 ^ 62 ∧ -(2 ^ 62) ≤ j ∧ j < 2 ^ 62) ∧ Qi (rangeD i (j - i).toNat) y1) : wI C (iRng2 ts) y Qi := by
  intro F σ H R wd k
  refine w F σ H _ wd fun vs H1 ds y1 w1 g1 s1 r1 q => ?_
  obtain ⟨i0, j, rfl, h1, q⟩ := q
  obtain ⟨v, u, rfl, rv, ru⟩ := rpA2 r1
  have e := rp_int rv
  have e' := rp_int ru
  subst e e'
  refine ⟨i0, j, rfl, h1, k _ H1 _ y1 w1 g1 s1 (fun F1 σ2 y2 H2 w2 g2 i => ⟨fun hi => ?_, fun hi => ?_, fun d hd v H3 hy => ?_⟩) q⟩
  · rw [rangeD_len] at hi; exact hi
  · rw [rangeD_len] at hi; exact hi
  · obtain ⟨rfl, rfl⟩ := hy
    obtain ⟨_, rfl⟩ := rangeD_get hd
    exact ⟨fun _ _ e => e, .int _⟩
variable {g : TG} {Qg : S → Prop}
theorem wS_for (w : wI C wi y fun xs y1 => ∃ I : Nat → S → Prop, I 0 y1 ∧ (∀ i x y2, xs[i]? = some x → I i y2 → wG C g (.d x) y2 fun y3 => wS C tx y3 { nx := I (i + 1), ct := I (i + 1), bk := e.nx, rt := e.rt }) ∧ (∀ y2, I xs.length y2 → e.nx y2)) :
    wS C (tFor wi g tx) y e := by
  intro F σ H E st wd k
  refine w F σ H _ wd fun J H1 xs y1 w1 g1 s1 hJ ⟨I, h0, hs, hd⟩ => ?_
  refine ⟨fun i m σ2 H2 => m = xs.length - i ∧ i ≤ xs.length ∧ ∃ y2, Wd C F σ2 y2 H2 ∧ Go F σ y1 H1 σ2 y2 H2 ∧ I i y2, ⟨xs.length, by simp, Nat.zero_le _, y1, w1, GoH.refl, h0⟩, ?_⟩
  rintro i m σ2 H2 ⟨rfl, hi, y2, w2, g2, hI⟩
  obtain ⟨j1, j2, j3⟩ := hJ F σ2 y2 H2 w2.toWd0 g2 i
  by_cases hlt : i < xs.length
  · refine .inr ⟨j1 hlt, fun σ3 H3 => ∃ y3, Wd C F σ3 y3 H3 ∧ Go F σ y1 H1 σ3 y3 H3 ∧ I (i + 1) y3, fun σ3 H3 ⟨y3, w3, g3, h3⟩ => ⟨xs.length - (i + 1), by omega, rfl, hlt, y3, w3, g3, h3⟩, fun v H3 hy => ?_⟩
    have ex : xs[i]? = some xs[i] := List.getElem?_eq_getElem hlt
    obtain ⟨gr, rv⟩ := j3 _ ex v H3 hy
    have w3 := w2.grow gr
    have g3 := g2.trans (go_grow (F := F) (σ := σ2) (y := y2) gr)
    refine hs i _ y2 ex hI F σ2 H3 v _ w3 rv fun σ4 y4 w4 g4 q4 => ?_
    refine q4 F σ4 H3 _ st w4 ⟨fun σ5 H5 y5 w5 g5 q5 => ⟨y5, w5, (g3.trans g4).trans g5, q5⟩, fun σ5 v5 H5 z5 y5 w5 g5 r5 q5 => k.rt σ5 v5 H5 z5 y5 w5 (((g1.trans g3).trans g4).trans g5) r5 q5,
      fun σ5 H5 y5 w5 g5 q5 => k.nx σ5 H5 y5 w5 (((g1.trans g3).trans g4).trans g5) q5, fun σ5 H5 y5 w5 g5 q5 => ⟨y5, w5, (g3.trans g4).trans g5, q5⟩⟩
  · have ei : i = xs.length := by omega
    subst ei
    exact .inl ⟨j2 (Nat.le_refl _), k.nx σ2 H2 y2 w2 (g1.trans g2) (hd y2 hI)⟩
theorem wS_while (W : Nat → S → Prop) (h0 : ∃ m, W m y) (hs : ∀ m y1, W m y1 → wT C t y1 fun b y2 => if b = true then wS C tx y2 { nx := fun y3 => ∃ m', m' < m ∧ W m' y3, ct := fun y3 => ∃ m', m' < m ∧ W m' y3, bk := e.nx, rt := e.rt } else e.nx y2) :
    wS C (tWhile t tx) y e := by
  intro F σ H E st wd k
  obtain ⟨m0, h0⟩ := h0
  refine ⟨fun m σ1 H1 => ∃ y1, Wd C F σ1 y1 H1 ∧ Go F σ y H σ1 y1 H1 ∧ W m y1, ⟨m0, y, wd, GoH.refl, h0⟩, ?_⟩
  rintro m σ1 H1 ⟨y1, w1, g1, hw⟩
  refine hs m y1 hw F σ1 H1 _ w1 fun b H2 y2 w2 g2 s2 q => ?_
  cases b with
  | true =>
    refine ⟨fun σ3 H3 => ∃ m', m' < m ∧ ∃ y3, Wd C F σ3 y3 H3 ∧ Go F σ y H σ3 y3 H3 ∧ W m' y3, fun σ3 H3 ⟨m', hm, z⟩ => ⟨m', hm, z⟩, ?_⟩
    exact q F σ1 H2 _ st w2 ⟨fun σ5 H5 y5 w5 g5 ⟨m', hm, q5⟩ => ⟨m', hm, y5, w5, (g1.trans g2).trans g5, q5⟩, fun σ5 v5 H5 z5 y5 w5 g5 r5 q5 => k.rt σ5 v5 H5 z5 y5 w5 ((g1.trans g2).trans g5) r5 q5,
      fun σ5 H5 y5 w5 g5 q5 => k.nx σ5 H5 y5 w5 ((g1.trans g2).trans g5) q5, fun σ5 H5 y5 w5 g5 ⟨m', hm, q5⟩ => ⟨m', hm, y5, w5, (g1.trans g2).trans g5, q5⟩⟩
  | false => exact k.nx σ1 H2 y2 w2 (g1.trans g2) q
end
end Ux

set_option maxRecDepth 100000
set_option maxHeartbeats 2000000
namespace Ux
open PySem PySem.Spec PyProof.Rows L2 Tq
theorem own_ao {m m' : List Cl} (h : ao m = ao m') {e : Cl} (he : e ∈ m) : ∃ e' ∈ m', e'.a = e.a ∧ e'.own = e.own ∧ e'.c.isRo = e.c.isRo := by
  have : (e.a, e.own, e.c.isRo) ∈ ao m' := by rw [← h]; exact List.mem_map.mpr ⟨e, he, rfl⟩
  obtain ⟨e', h1, h2⟩ := List.mem_map.mp this
  exact ⟨e', h1, congrArg Prod.fst h2, congrArg (fun x => x.2.1) h2, congrArg (fun x => x.2.2) h2⟩
theorem DomW.dom {m : List Cl} {a : Addr} (h : DomW m a) : Dom m a := let ⟨e, h1, h2, _⟩ := h; ⟨e, h1, h2⟩
section
variable {K : Fg} {F : Fr} {σ : St} {y y' u : S} {H H' : Hp} {l : Addr}
/-- a frame within, at the heap as it stands; l is apart -/
def sub (F : Fr) (σ : St) (u : S) (H : Hp) (l : Addr) : Fr := ⟨H, DomW u.m, fun a => Mv F σ u a ∨ a = l, false⟩
end
/-- exceptions are none of our business here -/
@[reducible] def Ct.q (C : Ct) : Ct := { C with ex := fun _ _ => False }
theorem Wd0.q {C : Ct} {F : Fr} {σ : St} {y : S} {H : Hp} (w : Wd0 C.K F σ y H) : Wd C.q F σ y H := ⟨w, fun _ _ _ _ _ _ _ _ _ z => z.elim⟩
section
variable {C : Ct} {y : S} {te : TE} {tt : TT} {wi : TI} {Q : Z → S → Prop}
end
end Ux

set_option maxRecDepth 100000
set_option maxHeartbeats 2000000
namespace Ux
open PySem PySem.Spec PyProof.Rows L2 Tq
/-! ### the store changes -/
section
variable {C : Ct} {F : Fr} {σ : St} {y y' : S} {H H' : Hp}
theorem Wd.store (w : Wd C F σ y H) {m : List Cl} (kp : ∀ a o, ¬ DomW y.m a → H a = some o → H' a = some o) (lv : ∀ a, Dom y.m a → H' a ≠ none)
    (src : ∀ e ∈ m, (∃ e0 ∈ y.m, e0.a = e.a ∧ (e.own = true → e0.own = true) ∧ (e.c.isRo = false → e0.c.isRo = false)) ∨ H e.a = none) (ds : m.Pairwise fun e e' => e.a ≠ e'.a)
    (ok : GoH (Mv F σ y) H (Mv F σ ⟨y.l, m⟩) H' → ∀ e ∈ m, CellOk C.K (Mv F σ ⟨y.l, m⟩) H' e.a e.c) : Wd C F σ ⟨y.l, m⟩ H' ∧ Go F σ y H σ ⟨y.l, m⟩ H' := by
  have g : Go F σ y H σ ⟨y.l, m⟩ H' := fun a o n e => by
    refine ⟨?_, kp a o (fun z => n (.inr z.dom)) e⟩
    rintro (z | ⟨e', h1, rfl⟩)
    · exact n (.inl z)
    · rcases src e' h1 with ⟨e0, q1, q2, _⟩ | q
      · exact n (.inr ⟨e0, q1, q2⟩)
      · rw [q] at e; cases e
  refine ⟨w.to ⟨fun a o n e => kp a o (fun ⟨e0, h1, h2, hr⟩ => ?_) (w.keep a o n e), w.live0, fun a m0 e => ?_, w.len, fun i z e => ?_, ok g, ds, fun e he hr => ?_, w.sm, fun st e he ho hs => ?_⟩ g, g⟩
  · subst h2
    rcases w.frsh e0 h1 hr with q | q
    · exact n q
    · rw [q] at e; cases e
  · by_cases hd : Dom y.m a
    · exact lv a hd e
    · cases q : H a with
      | none => exact w.live a m0 q
      | some o => rw [kp a o (fun z => hd z.dom) q] at e; cases e
  · obtain ⟨x, h1, h2⟩ := w.slot i z e
    exact ⟨x, h1, h2.go g⟩
  · rcases src e he with ⟨e0, q1, q2, _, q4⟩ | q
    · rw [← q2]; exact w.frsh e0 q1 (q4 hr)
    · exact .inr (w.newH0 q)
  · rcases src e he with ⟨e0, q1, q2, q3, _⟩ | q
    · exact w.nb st e0 q1 (q3 ho) (q2 ▸ hs)
    · exact w.live _ (w.sm _ hs) q
theorem pw_snoc {m : List Cl} {e : Cl} (h : m.Pairwise fun e e' => e.a ≠ e'.a) (n : ¬ Dom m e.a) : (m ++ [e]).Pairwise fun e e' => e.a ≠ e'.a := by
  rw [List.pairwise_append]
  refine ⟨h, List.pairwise_singleton _ _, fun a ha b hb => ?_⟩
  rw [List.mem_singleton] at hb
  subst hb
  exact fun z => n ⟨a, ha, z⟩
theorem pw_set {m : List Cl} {j : Nat} {e e' : Cl} (h : m.Pairwise fun e e' => e.a ≠ e'.a) (hj : m[j]? = some e) (ea : e'.a = e.a) : (m.set j e').Pairwise fun e e' => e.a ≠ e'.a := by
  have key : (m.set j e').map (·.a) = m.map (·.a) := by
    rw [List.map_set, ea]
    apply List.ext_getElem?
    intro i
    by_cases n : i = j
    · subst n
      obtain ⟨hl, hv⟩ := List.getElem?_eq_some_iff.mp hj
      rw [List.getElem?_set_self (by simpa using hl), List.getElem?_map, hj]
      rfl
    · rw [List.getElem?_set_ne (Ne.symm n)]
  have p1 : ∀ l : List Cl, (l.Pairwise fun e e' => e.a ≠ e'.a) ↔ (l.map (·.a)).Pairwise (· ≠ ·) := fun l => by rw [List.pairwise_map]
  rw [p1, key, ← p1]
  exact h
/-- a new thing of our own -/
theorem Wd.cnew (w : Wd C F σ y H) {p : Addr} {o : HO} {c : Cell} {b : Bool} (hn : H p = none) (ok : ∀ M, GoH (Mv F σ y) H M (upd H p o) → CellOk C.K M (upd H p o) p c) :
    Wd C F σ ⟨y.l, y.m ++ [⟨p, b, c⟩]⟩ (upd H p o) ∧ Go F σ y H σ ⟨y.l, y.m ++ [⟨p, b, c⟩]⟩ (upd H p o) ∧ Sh y ⟨y.l, y.m ++ [⟨p, b, c⟩]⟩ := by
  have nd : ¬ Dom y.m p := fun z => w.new hn (.inr z)
  suffices key : Wd C F σ ⟨y.l, y.m ++ [⟨p, b, c⟩]⟩ (upd H p o) ∧ Go F σ y H σ ⟨y.l, y.m ++ [⟨p, b, c⟩]⟩ (upd H p o) from ⟨key.1, key.2, rfl, [⟨p, b, c⟩], by simp [ao]⟩
  refine w.store (fun a v n e => grow_upd hn a v e) (fun a hd z => ?_) (fun e he => ?_) (pw_snoc w.dist nd) (fun g e he => ?_)
  · obtain ⟨e, h1, h2⟩ := hd
    subst h2
    rw [upd_ne (fun q => nd ⟨e, h1, q⟩)] at z
    exact (w.cell e h1).live z
  · rcases List.mem_append.mp he with he | he
    · exact .inl ⟨e, he, rfl, fun z => z, fun z => z⟩
    · rw [List.mem_singleton] at he; subst he; exact .inr hn
  · rcases List.mem_append.mp he with he | he
    · exact (w.cell e he).go g fun o q => grow_upd hn _ _ q
    · rw [List.mem_singleton] at he; subst he; exact ok _ g
theorem mem_set_or {α : Type} {l : List α} {j : Nat} {x e : α} (h : e ∈ l.set j x) : e = x ∨ e ∈ l := by
  rcases List.mem_or_eq_of_mem_set h with h | h
  · exact .inr h
  · exact .inl h
/-- a thing of the store has changed, and no other -/
theorem Wd.cmut (w : Wd C F σ y H) {j : Nat} {p : Addr} {b : Bool} {c c' : Cell} (hj : y.m[j]? = some ⟨p, b, c⟩) (hr : c.isRo = false) (hr' : c'.isRo = false) (kp : ∀ a o, a ≠ p → H a = some o → H' a = some o) (ok : ∀ M, (∀ a, M a → Mv F σ y a) → GoH (Mv F σ y) H M H' → CellOk C.K M H' p c') :
    Wd C F σ ⟨y.l, y.m.set j ⟨p, b, c'⟩⟩ H' ∧ Go F σ y H σ ⟨y.l, y.m.set j ⟨p, b, c'⟩⟩ H' ∧ Sh y ⟨y.l, y.m.set j ⟨p, b, c'⟩⟩ := by
  have hm : (⟨p, b, c⟩ : Cl) ∈ y.m := List.mem_of_getElem? hj
  have hl' : H' p ≠ none := by
    have g0 : GoH (Mv F σ y) H (Mv F σ y) H' := fun a o n e => ⟨n, kp a o (fun z => n (.inr ⟨_, hm, z.symm⟩)) e⟩
    exact (ok _ (fun _ q => q) g0).live
  suffices key : Wd C F σ ⟨y.l, y.m.set j ⟨p, b, c'⟩⟩ H' ∧ Go F σ y H σ ⟨y.l, y.m.set j ⟨p, b, c'⟩⟩ H' by
    refine ⟨key.1, key.2, rfl, [], ?_⟩
    show ao (y.m.set j ⟨p, b, c'⟩) = ao y.m ++ []
    rw [List.append_nil]
    unfold ao
    apply List.ext_getElem?
    intro i
    by_cases n : i = j
    · subst n
      obtain ⟨hl, _⟩ := List.getElem?_eq_some_iff.mp hj
      rw [List.getElem?_map, List.getElem?_map, List.getElem?_set_self hl, hj]
      show some (p, b, c'.isRo) = some (p, b, c.isRo)
      rw [hr, hr']
    · rw [List.getElem?_map, List.getElem?_map, List.getElem?_set_ne (Ne.symm n)]
  refine w.store (fun a v n e => kp a v (fun z => n ⟨_, hm, z.symm, hr⟩) e) (fun a hd z => ?_) (fun e he => ?_) (pw_set w.dist hj rfl) (fun g e he => ?_)
  · obtain ⟨e, h1, h2⟩ := hd
    subst h2
    by_cases q : e.a = p
    · exact hl' (q ▸ z)
    · cases r : H e.a with
      | none => exact (w.cell e h1).live r
      | some o => rw [kp _ o q r] at z; cases z
  · rcases mem_set_or he with he | he
    · subst he; exact .inl ⟨_, hm, rfl, fun z => z, fun _ => hr⟩
    · exact .inl ⟨e, he, rfl, fun z => z, fun z => z⟩
  · by_cases q : e.a = p
    · have : e = ⟨p, b, c'⟩ := by
        obtain ⟨i, hi⟩ := List.getElem?_of_mem he
        have pw := pw_set w.dist hj (e' := ⟨p, b, c'⟩) rfl
        obtain ⟨hl, _⟩ := List.getElem?_eq_some_iff.mp hj
        have hjj : (y.m.set j ⟨p, b, c'⟩)[j]? = some ⟨p, b, c'⟩ := List.getElem?_set_self hl
        by_cases n : i = j
        · subst n; rw [hjj] at hi; cases hi; rfl
        · exfalso
          rw [List.pairwise_iff_getElem] at pw
          obtain ⟨hi1, hi2⟩ := List.getElem?_eq_some_iff.mp hi
          obtain ⟨hj1, hj2⟩ := List.getElem?_eq_some_iff.mp hjj
          rcases Nat.lt_or_gt_of_ne n with n | n
          · have := pw i j hi1 hj1 n; rw [hi2, hj2] at this; exact this q
          · have := pw j i hj1 hi1 n; rw [hi2, hj2] at this; exact this q.symm
      subst this
      refine ok _ (fun a z => z.elim .inl fun ⟨e0, q1, q2⟩ => .inr ?_) g
      rcases mem_set_or q1 with q1 | q1
      · subst q1; exact ⟨_, hm, q2⟩
      · exact ⟨e0, q1, q2⟩
    · rcases mem_set_or he with he | he
      · subst he; exact absurd rfl q
      · exact (w.cell e he).go g fun o r => kp _ _ q r
/-- things of the store are let go -/
theorem Wd.csub (w : Wd C F σ y H) {m : List Cl} (h : m.Sublist y.m) : Wd C F σ ⟨y.l, m⟩ H ∧ Go F σ y H σ ⟨y.l, m⟩ H := by
  refine w.store (fun a o _ e => e) (fun a ⟨e, h1, h2⟩ => h2 ▸ (w.cell e h1).live) (fun e he => .inl ⟨e, h.subset he, rfl, fun z => z, fun z => z⟩) (w.dist.sublist h) fun g e he => (w.cell e (h.subset he)).go g fun _ q => q
end
/-! ### new lists, append -/
section
variable {C : Ct} {y : S} {te : TE} {ts : TA} {tx : TS} {e : En} {Q : Z → S → Prop}
/-- [..], a thing of our own -/
theorem wE_lstL (w : wZ C ts y fun zs y1 => zs.length ≤ sizeLine ∧ ∀ p, Q (.lab p) ⟨y1.l, y1.m ++ [⟨p, true, .lst zs⟩]⟩) : wE C (tLst ts) y Q := by
  intro F σ H K wd k
  refine w F σ H _ wd fun vs H1 zs y1 w1 g1 s1 r1 ⟨hz, q⟩ => ⟨by rw [r1.len]; exact hz, fun p hn => ?_⟩
  obtain ⟨w2, g2, s2⟩ := w1.cnew (o := .lst vs) (c := .lst zs) (b := true) hn fun M g => ⟨vs, upd_same, r1.go g⟩
  exact k _ _ (.lab p) _ w2 (g1.trans g2) (s1.trans s2) (.lab p) (q p)
theorem wE_dnewL (q : ∀ p, Q (.lab p) ⟨y.l, y.m ++ [⟨p, true, .dic []⟩]⟩) : wE C tDNewK y Q := by
  intro F σ H K wd k p hp
  obtain ⟨w2, g2, s2⟩ := wd.cnew (o := .dK []) (c := .dic []) (b := true) hp fun M g => ⟨[], upd_same, .nil⟩
  exact k _ _ (.lab p) _ w2 g2 s2 (.lab p) (q p)
theorem wE_dispL {kk : Key} {v : V} {d : D} (s : Sc v d) (q : ∀ p, Q (.lab p) ⟨y.l, y.m ++ [⟨p, true, .dic [(kk, .d d)]⟩]⟩) : wE C (tDisp [(tC (kV kk), tC v)]) y Q := by
  intro F σ H K wd k p hp
  refine ⟨upd_same, [(kk, v)], rfl, by simp, ?_⟩
  rw [upd_upd]
  obtain ⟨w2, g2, s2⟩ := wd.cnew (o := .dK (mergeK [] [(kk, v)])) (c := .dic [(kk, .d d)]) (b := true) hp fun M g => ⟨[(kk, v)], by rw [upd_same]; rfl, .cons (.d s.rp) .nil⟩
  exact k _ _ (.lab p) _ w2 g2 s2 (.lab p) (q p)
/-- x.append(e) -/
theorem wS_app {i j : Nat} {a : Addr} {b : Bool} {zs0 : List Z} (hi : y.l[i]? = some (some (.lab a))) (hj : y.m[j]? = some ⟨a, b, .lst zs0⟩) (w : wE C te y fun z y1 => ∃ zs, y1.m[j]? = some ⟨a, b, .lst zs⟩ ∧ zs.length < sizeLine ∧ e.nx ⟨y1.l, y1.m.set j ⟨a, b, .lst (zs ++ [z])⟩⟩) :
    wS C (tDrop (tBM C.K "list" rAppend (tVar i) (tCons te tNil))) y e := by
  intro F σ H E st wd k
  obtain ⟨x, h1, h2⟩ := wd.slot i _ hi
  cases h2
  obtain ⟨xs, c1, c2⟩ := (wd.cell _ (List.mem_of_getElem? hj) : CellOk C.K (Mv F σ y) H a (.lst zs0))
  refine ⟨.ref a, h1, Or.inl ⟨rfl, xs, .inl (.inl c1)⟩, w F σ H _ wd fun v H1 z y1 w1 g1 s1 r1 q => ?_⟩
  obtain ⟨zs, hj1, hz, q⟩ := q
  obtain ⟨us, e2, e3⟩ := (w1.cell _ (List.mem_of_getElem? hj1) : CellOk C.K (Mv F σ y1) H1 a (.lst zs))
  refine ⟨a, us, v, rfl, rfl, e2, by rw [e3.len]; exact hz, ?_⟩
  obtain ⟨w2, g2, s2⟩ := w1.cmut (H' := upd H1 a (.lst (us ++ [v]))) (c' := .lst (zs ++ [z])) hj1 rfl rfl (fun b o n e => by rw [upd_ne n]; exact e) fun M _ g => ⟨us ++ [v], upd_same, (e3.go g).app (.cons (r1.w.go g) .nil)⟩
  exact k.nx _ _ _ w2 (g1.trans g2) q
end
/-! ### a list of our own is a list like others from here on -/
section
variable {C : Ct} {y : S} {tx : TS} {e : En}
end
/-! ### less is known -/
def Less (y' y : S) : Prop := y'.l.length = y.l.length ∧ (∀ (i : Nat) (z : Z), y'.l[i]? = some (some z) → y.l[i]? = some (some z)) ∧ y'.m.Sublist y.m
theorem Wd.weak {C : Ct} {F : Fr} {σ : St} {y y' : S} {H : Hp} (w : Wd C F σ y H) (h : Less y' y) : Wd C F σ y' H ∧ Go F σ y H σ y' H := by
  obtain ⟨w1, g1⟩ := w.csub h.2.2
  have g2 : Go F σ ⟨y.l, y'.m⟩ H σ y' H := fun b o n e => ⟨n, e⟩
  exact ⟨w1.to ⟨w1.keep, w1.live0, w1.live, w.len.trans h.1.symm, fun i z e => w1.slot i z (h.2.1 i z e), w1.cell, w1.dist, w1.frsh, w1.sm, w1.nb⟩ g2, g1.trans g2⟩
theorem wS_weak {C : Ct} {t : TS} {y y' : S} {e : En} (w : wS C t y' e) (h : Less y' y) : wS C t y e := by
  intro F σ H E st wd k
  obtain ⟨w1, g1⟩ := wd.weak h
  exact w F σ H E st w1 (k.go g1)
theorem wS_norm {C : Ct} {t : TS} {y y' : S} {e : En} (h : y = y') (w : wS C t y' e) : wS C t y e := h ▸ w
end Ux

set_option maxRecDepth 100000
set_option maxHeartbeats 2000000
/-! exceptions over HandS: own classes with a field found, raise, several clauses -/
namespace Ux
open PySem PySem.Spec PyProof.Rows L2
abbrev Fg := PySem.W.Frag
/-! ### T.__init__(self, ..), T an own class without own __init__, over ValueError -/
structure TxC (K : Fg) (mg : Str → Option Value) (x : Str) : Prop where
  ex : ∃ T : Addr, mg x = some (.ref T) ∧ PySem.W.readsIn K T (.type "type") = true ∧ PySem.W.specialIn K (.ref T) "__getattribute__" = some (some (.builtin "type.__getattribute__")) ∧
    PySem.W.findCls K (.ref T) (.type "type") "__init__" = some (.val (.builtin "ValueError.__init__"))
theorem pe_tinit {X : Cx} {x : Str} {e : Expr} {es : List Expr} {ta : TA} {p1 p2 pos : Pos} {pl : Sem Bool} (hg : Gl X x) (T : TxC X.K X.mg x) (ha : PA X (e :: es) ta) (hdb : (x == ("__debug__" : Str)) = false := by decide)
    (hc : eval (.Call (.Attribute (.Name x p1) "__init__" p2) (e :: es) [] pos) X.env = (do
      let ov ← eval (.Name x p1) X.env
      standAt p2.atName
      let (f, first) ← holding [ov] (getMethod ov "__init__" pl)
      callWith pos f first (backTo pos (starEach (e :: es) X.env)) (backToKw pos (keywordEach [] X.env))) := by rfl)
    (he : starEach (e :: es) X.env = (false, eval e X.env) :: starEach es X.env := by rfl) (hpl : (backTo pos (starEach es X.env)).any (·.1) = false := by rfl) :
    PE X (.Call (.Attribute (.Name x p1) "__init__" p2) (e :: es) [] pos) (tVeI X.K ta) := by
  obtain ⟨T, hm, hrd, hga, hv⟩ := T.ex
  refine ⟨fun pins s σ H Q I h => ?_⟩
  refine PySem.W.methodCall_KW (ld_glob I hg hm ?_ hdb) hc
  refine PySem.W.method_cls I.kIn hga (PySem.W.cls_value I.kIn hrd hv (by decide +kernel) ?_)
  show wpAny _ _ (callWith pos (Value.builtin "ValueError.__init__") [] (backTo pos (starEach (e :: es) X.env)) []) _ _ _
  refine PyProof.Rows.callWith_method1 (thn (ha.run pos pins _ σ H _ (I.tok _) h) fun us s1 ⟨vs, H1, I1, r1, a, C, ws, ev, hl, T, ea, q⟩ => ?_) he hpl
  subst ev
  cases r1 with
  | @cons _ u0 _ ur ra rw' =>
    obtain rfl : u0 = Value.ref a := ra
    have hlen : ur.length ≤ sizeLine := by
      rw [← Paired.length rw', sizeLine_eq]
      omega
    exact oinit_ok T I1 ea hlen fun s' J => ⟨.non, H1, J, rfl, q⟩
/-! ### an own class with __init__(self, found): T.__init__(self, 'text'); self.found = found -/
def spInit (K : Fg) (C : Addr) : Sp := fun vs H Q _ => ∃ (a : Addr) (v : V), vs = [.ref a, v] ∧ OexC K C ∧ PySem.W.findIn K (.ref C) "found" = some none ∧ H a = some (exo a C none) ∧ ∀ dx, H dx = none → dx ≠ a → Q .non (upd (upd H dx (exd dx [(("found" : Str), v)])) a (exo a C (some dx)))
def t_init (K : Fg) (m : Str) : TS := tSeq (tDrop (tVeI K (tCons (tVar 0) (tCons (tC (.str m)) tNil)))) (tOst K "found" (tVar 0) (tVar 1))
theorem init_read {K : Fg} {C : Addr} {m : Str} {vs : List V} {H : Hp} {Q : VK} {E : XK} (h : spInit K C vs H Q E) : t_init K m { nx := fun _ G => Q .non G, rt := Q } (start ["self", "found"] vs) H := by
  obtain ⟨a, v, rfl, T, hn, e, k⟩ := h
  exact ⟨_, rfl, a, C, [.str m], rfl, by simp, T, e, _, rfl, _, rfl, a, C, rfl, T, hn, .inl ⟨e, fun dx h1 h2 => k dx h1 h2⟩⟩
/-- the class x, at C: its instances hold what was found -/
structure Xc (P : Program) (w : World) (K : Fg) (mg : Str → Option Value) (base : Heap) (x : Str) (C : Addr) : Prop where
  gC : mg x = some (.ref C)
  oc : OexC K C
  xf : XfC K C
  no : PySem.W.findIn K (.ref C) "found" = some none
  ini : ∃ (fI : Addr) (fd : FuncData), PySem.W.findIn K (.ref C) "__init__" = some (some (.ref fI)) ∧ PySem.W.typeIn K (.ref fI) = some (.type "function") ∧ FnOk P w K mg base CX0 1 fI fd ["self", "found"] (spInit K C) ∧ Binds K fd ["self", "found"] []
theorem mkO_of {K : Fg} {C : Addr} {H1 : Hp} {v : V} {Q : XK} (oc : OexC K C) (no : PySem.W.findIn K (.ref C) "found" = some none) (q : ∀ d, H1 d = none → Q (.ref C) (some d) (upd H1 d (.xd [(("found" : Str), v)]))) :
    [v].length ≤ 1000 ∧ ∀ a, H1 a = none → spInit K C (.ref a :: ([v] ++ [])) (upd H1 a (exo a C none))
      (fun u H2 => u = .non ∧ ∃ (d : Addr) (fs : List (Str × V)), H2 a = some (exo a C (some d)) ∧ H2 d = some (exd d fs) ∧ H1 d = none ∧ Q (.ref C) (some d) (upd (del H2 a) d (.xd fs))) (fun _ _ _ => False) := by
  refine ⟨by simp, fun b hb => ⟨b, v, rfl, oc, no, upd_same, fun dx h1 h2 => ?_⟩⟩
  have h1' : H1 dx = none := by rw [upd_ne h2] at h1; exact h1
  refine ⟨rfl, dx, [(("found" : Str), v)], upd_same, by rw [upd_ne h2]; exact upd_same, h1', ?_⟩
  have eH : upd (del (upd (upd (upd H1 b (exo b C none)) dx (exd dx [(("found" : Str), v)])) b (exo b C (some dx))) b) dx (.xd [(("found" : Str), v)]) = upd H1 dx (.xd [(("found" : Str), v)]) := by
    funext c
    by_cases hc : c = dx
    · rw [hc, upd_same, upd_same]
    · rw [upd_ne hc, upd_ne hc]
      by_cases hcb : c = b
      · rw [hcb, del_same, hb]
      · rw [del_ne hcb, upd_ne hcb, upd_ne hc, upd_ne hcb]
  rw [eH]
  exact q dx h1'
def tRaiseF (K : Fg) (C : Addr) (W : WX) (ta : TA) : TS := fun _ σ H => tMkO C (spInit K C) [] ta σ H fun cls d H' => W cls d σ H'
section
variable {X : Cx} {x : Str} {C : Addr} {a : Expr} {ta : TA} {p pos pos2 : Pos}
theorem ps_raiseF {W : WX} (hc : X.calm = true) (T : Xc X.prog X.w X.K X.mg X.base x C) (hr : Room 2 X.A) (tk : Takes X W) (ha : PA X [a] ta) (hg : Gl X x) (hdb : (x == ("__debug__" : Str)) = false := by decide)
    (he : starEach (a :: []) X.env = (false, eval a X.env) :: starEach [] X.env := by rfl) (hpl : (backTo pos (starEach [] X.env)).any (·.1) = false := by rfl) :
    PS X (.Raise (some (.Call (.Name x p) [a] [] pos)) none pos2) (tRaiseF X.K C W ta) := by
  obtain ⟨fI, fd, i1, i2, i3, i4⟩ := T.ini
  exact ps_raise hc tk (pmk_oex (dvs := []) (ds := []) T.oc i1 i2 i3 hr i4 .nil pass0 hg T.gC ha hdb he hpl)
end
/-! ### several clauses, with or without a name; the last ones may never be asked -/
def clE (i : Option Nat) (D : Ends) : Ends := match i with
  | none => D
  | some i => { nx := fun σ' H' => D.nx (σ'.set i none) H', rt := D.rt, bk := fun σ' H' => D.bk (σ'.set i none) H', ct := fun σ' H' => D.ct (σ'.set i none) H' }
def clS (i : Option Nat) (a : Addr) (σ : L2.St) : L2.St := match i with
  | none => σ
  | some i => σ.set i (some (.ref a))
def wN (K : Fg) (D : Ends) : List (Value × Option Nat × (Addr → Value → Option Addr → TS)) → WX
  | [] => fun _ _ _ _ => False
  | (c, i, ts) :: r => fun cls d σ H => ∃ b, PySem.W.exmOne K cls c = some b ∧ (b = true → ∀ a, H a = none → ts a cls d (clE i D) (clS i a σ) H) ∧ (b = false → wN K D r cls d σ H)
def tTry (K : Fg) (l : List (Value × Option Nat × (Addr → Value → Option Addr → TS))) (tb : WX → TS) : TS := fun D σ H => tb (wN K D l) D σ H
inductive HdN (X : Cx) : List ExceptHandler → List (Value × Option Nat × (Addr → Value → Option Addr → TS)) → Prop
  | stop {hds : List ExceptHandler} : HdN X hds []
  | cons {x : Str} {c : Value} {ts : Addr → Value → Option Addr → TS} {b₀ : Stmt} {suite : List Stmt} {np pos' : Pos} {hds : List ExceptHandler} {l : List (Value × Option Nat × (Addr → Value → Option Addr → TS))} (hc : Names X x c)
      (hsu : ∀ (a : Addr) (oe : Obj) (cls : Value) (d : Option Addr) (pn : List (Addr × Obj)), Zc cls d oe → (∃ vs, oe.data = .fields vs) → PSs (X.suite a ((a, oe) :: pn)) (b₀ :: suite) (ts a cls d)) (r : HdN X hds l) :
      HdN X (.ExceptHandler (some (.Name x np)) none (b₀ :: suite) pos' :: hds) ((c, none, ts) :: l)
  | as {x n : Str} {i : Nat} {c : Value} {ts : Addr → Value → Option Addr → TS} {b₀ : Stmt} {suite : List Stmt} {np pos' : Pos} {hds : List ExceptHandler} {l : List (Value × Option Nat × (Addr → Value → Option Addr → TS))} (hc : Names X x c)
      (hi : X.N[i]? = some n) (hln : X.env.kindOf n = some .local)
      (hsu : ∀ (a : Addr) (oe : Obj) (cls : Value) (d : Option Addr) (pn : List (Addr × Obj)), Zc cls d oe → (∃ vs, oe.data = .fields vs) → PSs (X.suite a ((a, oe) :: pn)) (b₀ :: suite) (ts a cls d)) (r : HdN X hds l) :
      HdN X (.ExceptHandler (some (.Name x np)) (some n) (b₀ :: suite) pos' :: hds) ((c, some i, ts) :: l)
section
variable {X : Cx} {body : List Stmt} {h₀ : ExceptHandler} {hds : List ExceptHandler} {l : List (Value × Option Nat × (Addr → Value → Option Addr → TS))} {pos : Pos} {tb : WX → TS}
theorem ps_tryN (hs : X.stack = X.env :: X.outer) (hf : X.env.frame = some X.env.locals) (hN : X.N.Nodup)
    (hb : ∀ (W : WX) (pn : List (Addr × Obj)) (xe : Value → Shared → Prop), Takes (X.tr pn xe) W → PassesOwn (model X.prog X.w) X.A X.env xe → PSs (X.tr pn xe) body (tb W))
    (hh : HdN X (h₀ :: hds) l) : PS X (.Try body (h₀ :: hds) [] [] pos) (tTry X.K l tb) := by
  refine ⟨fun pins s σ H D I h => ?_⟩
  have ok := I.ok
  have hfr : X.A.frames = some (X.env :: X.outer) := by rw [ok.frames, hs]
  refine wpAny_Try_except ?_
  refine wpAny_mono ((hb (wN X.K D l) (X.pn ++ pins) (fun e s₁ => wpAny (model X.prog X.w) X.A (noteFrame e X.env) (fun _ s₂ => wpAny (model X.prog X.w) X.A (setFlight e none) (fun _ s₃ =>
    wpAny (model X.prog X.w) X.A (handleBy e X.env (h₀ :: hds)) (SP X pins D) X.xe s₃) X.xe s₂) X.xe s₁) (fun u s' xx => ?_) PassesOwn.looking).run [] s σ H D (I.toTry _) h) (fun f s1 hsp => ?_) (fun e s1 he => he)
  · obtain ⟨a, B, sI, pins', σ', H', cls, d, rfl, J', nb, up, sky, na, os, ag, w⟩ := xx
    have J : Inv X pins σ' H' sI := J'.ofTry ok
    have sky' : Sky B (X.env :: X.outer) a (Zc cls d) X.env.locals s'.heap := by rw [← hs]; exact sky
    show wpAny (model X.prog X.w) X.A (noteFrame (.ref a) X.env) _ _ _
    refine Sky.land Zc.steady hfr hf sky' fun h3 fl3 up3 => ?_
    have J3 : Inv X pins σ' H' { s' with heap := h3 } := J.landed nb fl3.1 (up.trans up3) os ag
    obtain ⟨oe3, vs3, he3, hz3, hd3⟩ := fl3.there
    have notFr : ∀ {h : Heap} {o : Obj} {vs : Array Value}, h.FunFrames B (X.env :: X.outer) → h.get? a = some o → o.data = .fields vs → a ∉ frs (X.env :: X.outer) := fun {h o vs} ff e dd hm => by
      obtain ⟨_, o', e', hnf⟩ := ff.mem hm
      rw [e] at e'; cases e'
      exact hnf _ dd
    have nfr := notFr fl3.2.2.1 he3 hd3
    have nL : a ≠ X.env.locals := fun z => nfr (List.mem_filterMap.mpr ⟨X.env, List.mem_cons_self, by rw [hf, z]⟩)
    have nF : a ∉ X.fs := fun hm => by
      obtain ⟨e, he, q⟩ := List.mem_filterMap.mp hm
      exact nfr (List.mem_filterMap.mpr ⟨e, List.mem_cons_of_mem _ he, q⟩)
    have S3 := J3.suite he3 hd3 na nL nF
    have LT : PySem.W.Looks (model X.prog X.w) h3 (typeOf (.ref a)) cls := fun A Q E s k q => wpAny_typeOf_ref (k _ _ he3) (by rw [hz3.1]; exact q)
    have test : ∀ {x : Str} {c : Value} {np : Pos} {Q : Value → Shared → Prop} {E : Value → Shared → Prop}, Names X x c → Q c { s' with heap := h3 } → wpAny (model X.prog X.w) (X.A.mark (some (.ref a))) (eval (.Name x np) X.env) Q E { s' with heap := h3 } := fun {x c np Q E} hc q => by
      obtain ⟨hg, hdbg, hm | ⟨hm, hv, hnn⟩⟩ := hc
      · exact ld_glob (X := X.suite a ((a, oe3) :: (X.pn ++ pins))) S3 hg hm q hdbg
      · exact ld_blt (X := X.suite a ((a, oe3) :: (X.pn ++ pins))) S3 hg hm hv q hnn hdbg
    have go : ∀ {hds' : List ExceptHandler} {l' : List (Value × Option Nat × (Addr → Value → Option Addr → TS))}, HdN X hds' l' → wN X.K D l' cls d σ' H' →
        wpAny (model X.prog X.w) X.A (handleBy (.ref a) X.env hds') (SP X pins D) X.xe { s' with heap := h3 } := by
      intro hds' l' hk
      induction hk with
      | stop => intro w; exact w.elim
      | @cons x c ts b₀ suite np pos' hds2 l2 hc hsu r ih =>
        intro w
        obtain ⟨b, hb1, hyes, hno⟩ := w
        refine wpAny_handleBy_cons (codeAny_handlers_test ?_) (by intro q; cases q)
        have LM := PySem.W.exm_one (M := model X.prog X.w) (J3.kIn) LT hb1
        refine test hc (LM.here ?_)
        cases b with
        | true =>
          refine codeAny_handlers_suite ?_
          refine HandSPX.lands_againZ fl3 fun h4 fl4 up4 => ?_
          have J4 : Inv X pins σ' H' { s' with heap := h4 } := J.landed nb fl4.1 ((up.trans up3).trans up4) os ag
          obtain ⟨oe4, vs4, he4, hz4, hd4⟩ := fl4.there
          have S4 := J4.suite he4 hd4 na nL nF
          refine wpAny_mono ((hsu a oe4 cls d (X.pn ++ pins) hz4 ⟨_, hd4⟩).run [] _ _ H' _ S4 (hyes rfl a na)) (fun f s6 hsp => ?_) (fun _ _ z => False.elim z)
          cases f with
          | next =>
            obtain ⟨σ6, H6, S6, q6⟩ := hsp
            exact ⟨_, _, S6.unsuite ok, q6⟩
          | brk =>
            obtain ⟨σ6, H6, S6, q6⟩ := hsp
            exact ⟨_, _, S6.unsuite ok, q6⟩
          | cont =>
            obtain ⟨σ6, H6, S6, q6⟩ := hsp
            exact ⟨_, _, S6.unsuite ok, q6⟩
          | ret u =>
            obtain ⟨v6, σ6, H6, S6, r6, q6⟩ := hsp
            exact ⟨_, _, _, S6.unsuite ok, r6, q6⟩
        | false =>
          show wpAny _ X.A (handleBy (.ref a) X.env hds2) _ _ _
          exact ih (hno rfl)
      | @as x n i c ts b₀ suite np pos' hds2 l2 hc hi hln hsu r ih =>
        intro w
        obtain ⟨b, hb1, hyes, hno⟩ := w
        have hloc : Loc X.env.scope n := .inl hln
        refine wpAny_handleBy_cons (codeAny_handlers_test ?_) (by intro q; cases q)
        have LM := PySem.W.exm_one (M := model X.prog X.w) (J3.kIn) LT hb1
        refine test hc (LM.here ?_)
        cases b with
        | true =>
          refine codeAny_handlers_suite_as ?_
          refine HandSPX.lands_againZ fl3 fun h4 fl4 up4 => ?_
          have J4 : Inv X pins σ' H' { s' with heap := h4 } := J.landed nb fl4.1 ((up.trans up3).trans up4) os ag
          obtain ⟨oe4, vs4, he4, hz4, hd4⟩ := fl4.there
          have S4 := J4.suite he4 hd4 na nL nF
          refine store_ok (X := X.suite a ((a, oe4) :: (X.pn ++ pins))) (v := .ref a) S4 hN hi hloc rfl (fun s5 S5 => ?_) (.inr hln)
          refine wpAny_mono ((hsu a oe4 cls d (X.pn ++ pins) hz4 ⟨_, hd4⟩).run [] s5 _ H' _ S5 (hyes rfl a na)) (fun f s6 hsp => ?_) (fun _ _ z => False.elim z)
          have end_ : ∀ {σ6 : L2.St} {H6 : Hp} {Q : Shared → Prop}, Inv (X.suite a ((a, oe4) :: (X.pn ++ pins))) [] σ6 H6 s6 → (∀ s7, Inv X pins (σ6.set i none) H6 s7 → Q s7) →
              wpAny (model X.prog X.w) X.A (do bindName X.env n .none; unbindBehindTheSuite X.env n pos') (fun _ s7 => Q s7) X.xe s6 := fun {σ6 H6 Q} S6 hq => gone_ok (S6.unsuite ok) hN hi hln hq
          cases f with
          | next =>
            obtain ⟨σ6, H6, S6, q6⟩ := hsp
            exact end_ S6 fun s7 J7 => ⟨_, _, J7, q6⟩
          | brk =>
            obtain ⟨σ6, H6, S6, q6⟩ := hsp
            exact end_ S6 fun s7 J7 => ⟨_, _, J7, q6⟩
          | cont =>
            obtain ⟨σ6, H6, S6, q6⟩ := hsp
            exact end_ S6 fun s7 J7 => ⟨_, _, J7, q6⟩
          | ret u =>
            obtain ⟨v6, σ6, H6, S6, r6, q6⟩ := hsp
            exact end_ S6 fun s7 J7 => ⟨_, _, _, J7, r6, q6⟩
        | false =>
          show wpAny _ X.A (handleBy (.ref a) X.env hds2) _ _ _
          exact ih (hno rfl)
    exact go hh w
  · cases f with
    | next =>
      obtain ⟨σ', H', J', q⟩ := hsp
      exact wpAny_execs_nil ⟨σ', H', J'.ofTry ok, q⟩
    | brk =>
      obtain ⟨σ', H', J', q⟩ := hsp
      exact ⟨σ', H', J'.ofTry ok, q⟩
    | cont =>
      obtain ⟨σ', H', J', q⟩ := hsp
      exact ⟨σ', H', J'.ofTry ok, q⟩
    | ret u =>
      obtain ⟨v, σ', H', J', r, q⟩ := hsp
      exact ⟨v, σ', H', J'.ofTry ok, r, q⟩
end
/-! ### defs that may raise, the guards told -/
structure CalX (P : Program) (w : World) (K : Fg) (mg : Str → Option Value) (base : Heap) (k : Nat) (x : Str) (ps : List Str) (sp : Sp) : Prop where
  ex : ∃ (f : Addr) (fd : FuncData), Tq.FnG P w K mg base (L2.CX P w) k f fd ps sp ∧ mg x = some (.ref f) ∧ PySem.W.keepIn K (.ref f) = true ∧ Binds K fd ps []
section
variable {P : Program} {w : World} {K : Fg} {mg : Str → Option Value} {base : Heap} {k : Nat} {x : Str} {ps N : List Str} {sp : Sp} {st : Stmt}
theorem okX (d : Tq.Df K mg x st ps) (Sc : FnScope N ps (defScope st)) (len : ∀ vs H Q E, sp vs H Q E → vs.length = ps.length)
    (hbody : ∀ (f : Addr) (cdv : Value) (A : Around) (outer : List Env) (s : Shared) (H : Hp) (vs : List V) (Q : VK) (E : XK), Room k (A.deeper (envOfC x (defScope st) s.heap.objs.size f cdv)) →
      (A.deeper (envOfC x (defScope st) s.heap.objs.size f cdv)).guards = some [] → sp vs H Q E →
      ∃ t, PSs (cxOf (L2.CX P w) P w K mg base N x (defScope st) f cdv A outer s H E) (defBody st) t ∧ t { nx := fun _ G => Q .non G, rt := Q } (start N vs) H) : CalX P w K mg base (k + 1) x ps sp := by
  obtain ⟨f, fd, F, hm, hb⟩ := d.ex
  have kp := F.kp
  obtain ⟨oc, od, kV, doc, pm, an, cdv, ct, osl, rfl, lk, hcd⟩ := F.ex
  exact ⟨f, _, Tq.fn_ofG lk hcd Sc len fun A outer s H vs Q E hr hgu hsp => hbody f cdv A outer s H vs Q E hr hgu hsp, hm, kp, hb⟩
theorem run_fnSG {X : Cx} {CX : CXT} {f : Addr} {fd : FuncData} {E : L2.St → XK} {pins : List (Addr × Obj)} {σ : L2.St} {H : Hp} {s : Shared} {Q : VK} {us : List Value} {vs : List V} (F : Tq.FnG X.prog X.w X.K X.mg X.base CX k f fd ps sp) (hr : Room k X.A) (hgu : X.A.guards = some []) (hb : Binds X.K fd ps []) (hx : PassesAt CX X σ (E σ))
    (I : Inv X pins σ H s) (r : Vals vs us) (h : sp vs H Q (E σ)) : wpAny (model X.prog X.w) X.A (call (.ref f) us) (EP X pins σ Q) X.xe s := by
  have hl : us.length = ps.length := by rw [← r.length]; exact F.len _ _ _ _ h
  have b := hb s us I.kIn (by rw [List.append_nil]; exact hl)
  rw [List.append_nil] at b
  refine wpAny_call (codeAny_mono (F.run X.A X.stack s H ⟨us, []⟩ us vs Q (E σ) hr hgu I.env0 b r h) fun r s' hq => ?_)
  cases r with
  | error e => exact hx pins H s e s' I hq
  | ok fl =>
    cases fl with
    | ret u => exact I.after hq
    | next => exact False.elim hq
    | brk => exact False.elim hq
    | cont => exact False.elim hq
theorem pe_calX {X : Cx} {W : WX} {p pos : Pos} {e : Expr} {es : List Expr} {t : TA} (c : CalX X.prog X.w X.K X.mg X.base k x ps sp) (hr : Room k X.A) (hgu : X.A.guards = some []) (hg : Gl X x) (tk : Takes X W) (ha : PA X (e :: es) t) (hdb : (x == ("__debug__" : Str)) = false := by decide)
    (he : starEach (e :: es) X.env = (false, eval e X.env) :: starEach es X.env := by rfl)
    (hpl : (backTo pos (starEach es X.env)).any (·.1) = false := by rfl) : PE X (.Call (.Name x p) (e :: es) [] pos) (tCallS sp (WE W) t) := by
  obtain ⟨f, fd, F, hm, hk, hb⟩ := c.ex
  refine ⟨fun pins s σ H Q I h => ?_⟩
  refine wpAny_Call_Name_kw (ld_glob I hg hm ?_ hdb)
  refine PySem.W.callWith_K (h₀ := X.base) I.ok.mod.kin hk (thn (ha.run pos pins s σ H _ I h) fun us s1 ⟨vs, H1, I1, r, q⟩ => ⟨I1.kIn, ?_⟩) he hpl
  exact run_fnSG (E := WE W) F hr hgu hb (passAt tk σ) I1 r q
end
end Ux

set_option maxRecDepth 100000
set_option maxHeartbeats 2000000
namespace Ux
open PySem PySem.Spec PyProof.Rows L2 Tq
/-! ### what a thing is at present -/
def kvD (kvs : List (Key × D)) : List (Key × Z) := kvs.map fun p => (p.1, .d p.2)
def dD (kvs : List (Key × D)) : D := .dict (kvs.map fun p => (kD p.1, p.2))
inductive ResC : Cell → D → Prop
  | lst (ds : List D) : ResC (.lst (ds.map Z.d)) (.list ds)
  | dic (kvs : List (Key × D)) : ResC (.dic (kvD kvs)) (dD kvs)
  | ro {c : Cell} {d : D} : ResC c d → ResC (.ro c) d
inductive Res (m : List Cl) : Z → D → Prop
  | d (d : D) : Res m (.d d) d
  | lab {e : Cl} {d : D} : e ∈ m → ResC e.c d → Res m (.lab e.a) d
inductive ResA (m : List Cl) : List Z → List D → Prop
  | nil : ResA m [] []
  | cons {z : Z} {d : D} {zs : List Z} {ds : List D} : Res m z d → ResA m zs ds → ResA m (z :: zs) (d :: ds)
theorem ResA.ds {m : List Cl} : ∀ (ds : List D), ResA m (ds.map Z.d) ds
  | [] => .nil
  | d :: ds => .cons (.d d) (ResA.ds ds)
theorem ResA.len {m : List Cl} : ∀ {zs : List Z} {ds : List D}, ResA m zs ds → zs.length = ds.length
  | _, _, .nil => rfl
  | _, _, .cons _ b => congrArg (· + 1) b.len
/-- all are for reading alone -/
def Cell.toRo : Cell → Cell
  | .ro c => .ro c
  | c => .ro c
def roM (m : List Cl) : List Cl := m.map fun e => ⟨e.a, false, e.c.toRo⟩
theorem toRo_ro (c : Cell) : c.toRo.isRo = true := by cases c <;> rfl
theorem toRo_ok {K : Fg} {M : Addr → Prop} {H : Hp} {a : Addr} {c : Cell} (h : CellOk K M H a c) : CellOk K M H a c.toRo := by cases c <;> exact h
theorem toRo_res {c : Cell} {d : D} (h : ResC c d) : ResC c.toRo d := by
  cases h with
  | lst ds => exact .ro (.lst ds)
  | dic ds => exact .ro (.dic ds)
  | ro h => exact .ro h
theorem Res.rom {m : List Cl} {z : Z} {d : D} (h : Res m z d) : Res (roM m) z d := by
  cases h with
  | d d => exact .d d
  | @lab e d he hc => exact .lab (e := ⟨e.a, false, e.c.toRo⟩) (List.mem_map.mpr ⟨e, he, rfl⟩) (toRo_res hc)
theorem ResA.rom {m : List Cl} : ∀ {zs : List Z} {ds : List D}, ResA m zs ds → ResA (roM m) zs ds
  | _, _, .nil => .nil
  | _, _, .cons a b => .cons a.rom b.rom
theorem dom_roM {m : List Cl} {a : Addr} : Dom (roM m) a ↔ Dom m a := by
  constructor
  · rintro ⟨e, h1, h2⟩
    obtain ⟨e', h3, rfl⟩ := List.mem_map.mp h1
    exact ⟨e', h3, h2⟩
  · rintro ⟨e, h1, h2⟩
    exact ⟨_, List.mem_map.mpr ⟨e, h1, rfl⟩, h2⟩
def MvX (F : Fr) (σ : St) (y : S) (a : Addr) : Prop := Mv F σ y a ∧ ¬ Dom y.m a
theorem rpk_of {K : Fg} {M : Addr → Prop} {H : Hp} : ∀ {ks : List (Key × V)} {kvs : List (Key × D)}, RwK K M H ks (kvD kvs) → RpK K M H ks (kvs.map fun p => (kD p.1, p.2))
  | [], [], _ => .nil
  | _ :: _, [], h => by cases h
  | [], _ :: _, h => by cases h
  | _ :: _, (k, d) :: r, h => by
    cases h with | cons a b => cases a with | d a => exact .cons a (rpk_of b)
theorem ResC.rp {K : Fg} {M N : Addr → Prop} {H : Hp} {a : Addr} {c : Cell} {d : D} (h : ResC c d) (g : GoH M H N H) (n : ¬ N a) (ok : CellOk K M H a c) : Rp K N H (.ref a) d := by
  induction h with
  | lst ds =>
    obtain ⟨xs, h1, h2⟩ := ok
    exact .lst (.inl ⟨n, .inl h1⟩) (h2.ds.go g)
  | dic kvs =>
    obtain ⟨ks, h1, h2⟩ := ok
    exact .dic n h1 ((rpk_of h2).go g)
  | ro _ ih => exact ih ok
theorem Res.rp {K : Fg} {F : Fr} {σ : St} {y : S} {H : Hp} {v : V} {z : Z} {d : D} (w : Wd0 K F σ y H) (h : Res y.m z d) (r : Rw K (Mv F σ y) H v z) : Rp K (MvX F σ y) H v d := by
  have g : GoH (Mv F σ y) H (MvX F σ y) H := fun a o n e => ⟨fun q => n q.1, e⟩
  cases h with
  | d d => cases r with | d r => exact r.go g
  | @lab e d he hc =>
    cases r
    exact hc.rp g (fun q => q.2 ⟨e, he, rfl⟩) (w.cell e he)
theorem ResA.rp {K : Fg} {F : Fr} {σ : St} {y : S} {H : Hp} (w : Wd0 K F σ y H) : ∀ {vs : List V} {zs : List Z} {ds : List D}, ResA y.m zs ds → RwA K (Mv F σ y) H vs zs → RpA K (MvX F σ y) H vs ds
  | _, _, _, .nil, .nil => .nil
  | _, _, _, .cons a b, .cons c d => .cons (a.rp w c) (b.rp w d)
theorem sc_rp {K : Fg} {M N : Addr → Prop} {H : Hp} {v : V} {d : D} (h : scD d = true) (r : Rp K M H v d) : Rp K N H v d := by
  cases r with
  | non => exact .non
  | bl b => exact .bl b
  | int b => exact .int b
  | str b => exact .str b
  | lst _ _ => cases h
  | tup _ _ => cases h
  | dic _ _ _ => cases h
/-! ### calls of defs over data -/
section
variable {C : Ct} {y : S} {ts : TA} {te : TE} {Q : Z → S → Prop} {E : XK} {n : Nat} {pre : List D → Prop} {post : List D → D → Prop} {cost : List D → Nat} {e : En}
theorem wE_pure (w : wD C ts y fun ds y1 => ds.length = n ∧ pre ds ∧ ∀ d, post ds d → Q (.d d) y1) : wE C (tCall (pureSp C.K n pre post) [] E ts) y Q := by
  intro F σ H K wd k
  refine w F σ H _ wd fun vs H1 ds y1 w1 g1 s1 r1 ⟨hn, hp, q⟩ => ?_
  rw [List.append_nil]
  exact ⟨Mv F σ y1, ds, fun a m e => w1.new e m, r1, hn, hp, fun d v H2 hd gr rv => k v H2 (.d d) y1 (w1.grow gr) (g1.trans (go_grow gr)) s1 rv (q d hd)⟩
theorem wE_det {G : List D → D} (w : wD C ts y fun ds y1 => (ds.length = n ∧ pre ds) ∧ Q (.d (G ds)) y1) : wE C (tCall (detSp C.K n pre G) [] E ts) y Q :=
  wE_pure (wD_mono w fun ds y1 ⟨⟨h1, h2⟩, q⟩ => ⟨h1, h2, fun d e => by subst e; exact q⟩)
/-- what is handed in is taken as it is at present; the answer is plain -/
theorem wE_pureR (w : wZ C ts y fun zs y1 => ∃ ds, ResA y1.m zs ds ∧ ds.length = n ∧ pre ds ∧ ∀ d, post ds d → scD d = true ∧ Q (.d d) y1) : wE C (tCall (pureSp C.K n pre post) [] E ts) y Q := by
  intro F σ H K wd k
  refine w F σ H _ wd fun vs H1 zs y1 w1 g1 s1 r1 ⟨ds, hr, hn, hp, q⟩ => ?_
  rw [List.append_nil]
  exact ⟨MvX F σ y1, ds, fun a m e => w1.new e m.1, hr.rp w1.toWd0 r1, hn, hp, fun d v H2 hd gr rv => k v H2 (.d d) y1 (w1.grow gr) (g1.trans (go_grow gr)) s1 (sc_rp (q d hd).1 rv) (q d hd).2⟩
theorem wE_detR {G : List D → D} (w : wZ C ts y fun zs y1 => ∃ ds, ResA y1.m zs ds ∧ (ds.length = n ∧ pre ds) ∧ scD (G ds) = true ∧ Q (.d (G ds)) y1) : wE C (tCall (detSp C.K n pre G) [] E ts) y Q :=
  wE_pureR (wZ_mono w fun zs y1 ⟨ds, h0, ⟨h1, h2⟩, hs, q⟩ => ⟨ds, h0, h1, h2, fun d e => by subst e; exact ⟨hs, q⟩⟩)
theorem wE_pu {i j : Nat} {p : Addr} {b : Bool} {m0 : Nat} (hi : y.l[i]? = some (some (.lab p))) (hj : y.m[j]? = some ⟨p, b, .pu m0⟩)
    (w : wD C ts y fun ds y1 => ∃ m, y1.m[j]? = some ⟨p, b, .pu m⟩ ∧ ds.length = n ∧ pre ds ∧ cost ds ≤ m ∧ ∀ d, post ds d → Q (.d d) ⟨y1.l, y1.m.set j ⟨p, b, .pu (m - cost ds)⟩⟩) :
    wE C (tCall (puSp C.K n pre cost post) [] E (tCons (tVar i) ts)) y Q := by
  intro F σ H K wd k
  obtain ⟨x, h1, h2⟩ := wd.slot i _ hi
  cases h2
  refine ⟨.ref p, h1, w F σ H _ wd fun vs H1 ds y1 w1 g1 s1 r1 ⟨m, hj1, hn, hp, hc, q⟩ => ?_⟩
  show puSp C.K n pre cost post ((.ref p :: vs) ++ []) H1 K E
  rw [List.append_nil]
  have hm : (⟨p, b, .pu m⟩ : Cl) ∈ y1.m := List.mem_of_getElem? hj1
  refine ⟨Mv F σ y1, p, vs, ds, m, rfl, .inr ⟨_, hm, rfl⟩, fun a m e => w1.new e m, w1.cell _ hm, r1, hn, hp, hc, fun d v H2 hd kp pk rv => ?_⟩
  obtain ⟨w2, g2, s2⟩ := w1.cmut (H' := H2) (c' := .pu (m - cost ds)) hj1 rfl rfl kp fun M _ g => pk
  refine k v H2 (.d d) _ w2 (g1.trans g2) (s1.trans s2) (Rp.go (fun a o na e => ⟨fun z => na (z.elim .inl fun ⟨e', q1, q2⟩ => .inr ?_), e⟩) rv) (q d hd)
  rcases mem_set_or q1 with q1 | q1
  · subst q1; exact ⟨_, hm, q2⟩
  · exact ⟨e', q1, q2⟩
/-- a draw -/
theorem wE_take {i j : Nat} {p : Addr} {b : Bool} {m0 : Nat} (hi : y.l[i]? = some (some (.lab p))) (hj : y.m[j]? = some ⟨p, b, .pu m0⟩)
    (w : wE C te y fun z y1 => ∃ (k : Int) (m : Nat), z = .d (.int k) ∧ y1.m[j]? = some ⟨p, b, .pu m⟩ ∧ (0 < k ∧ k ≤ 10 ^ 40 ∧ 1 ≤ m) ∧ ∀ r : Int, 0 ≤ r → r < k → Q (.d (.int r)) ⟨y1.l, y1.m.set j ⟨p, b, .pu (m - 1)⟩⟩) :
    wE C (tCall (spTake C.K) [] E (tCons (tVar i) (tCons te tNil))) y Q := by
  refine wE_pu hi hj (wD_cons (wE_mono w fun z y1 ⟨k, m, e, hm, ⟨h0, h1, h2⟩, q⟩ => ⟨_, e, wD_nil ⟨m, hm, rfl, ⟨k, rfl, h0, ?_⟩, h2, fun d hd => ?_⟩⟩))
  · have hb : k.natAbs < 2 ^ 200 := Nat.lt_of_le_of_lt (show k.natAbs ≤ 10 ^ 40 by omega) (by decide)
    exact Nat.lt_of_lt_of_le (log2_lt hb (by decide)) (by decide)
  · obtain ⟨k', r, e1, e2, h3, h4⟩ := hd
    cases e1
    subst e2
    exact q r h3 h4
/-- purse = _law_purse(c) -/
theorem wE_purse (w : wD C ts y fun ds y1 => ∃ c : Int, ds = [.int c] ∧ ∀ p, Q (.lab p) ⟨y1.l, y1.m ++ [⟨p, true, .pu 8000000⟩]⟩) : wE C (tCall spPurse [] E ts) y Q := by
  intro F σ H K wd k
  refine w F σ H _ wd fun vs H1 ds y1 w1 g1 s1 r1 ⟨c, hc, q⟩ => ?_
  subst hc
  obtain ⟨v, rfl, rv⟩ := rpA1 r1
  refine ⟨c, by rw [rp_int rv]; rfl, fun p x b hn hx hb hb2 => ?_⟩
  obtain ⟨w2, g2, s2⟩ := w1.cnew (o := .lst [.int x, .int b, .int 0]) (c := .pu 8000000) (b := true) hn fun M g => ⟨x, b, 0, upd_same, hx, hb, hb2, by decide, by decide⟩
  exact k _ _ (.lab p) _ w2 (g1.trans g2) (s1.trans s2) (.lab p) (q p)
end
/-! ### bodies -/
section
variable {K : Fg} {N : List Str} {t : TS} {vs : List V} {H : Hp} {Q : VK} {E : XK} {n : Nat} {pre : List D → Prop} {post : List D → D → Prop} {cost : List D → Nat}
def l0 (N : List Str) (zs : List Z) : List (Option Z) := zs.map some ++ List.replicate (N.length - zs.length) none
theorem l0_slot {M : Addr → Prop} {zs : List Z} {i : Nat} {z : Z} (r : RwA K M H vs zs) (e : (l0 N zs)[i]? = some (some z)) : ∃ x, (start N vs)[i]? = some (some x) ∧ Rw K M H x z := by
  have e1 := getElem?_app_none e
  rw [List.getElem?_map] at e1
  cases q : zs[i]? with
  | none => rw [q] at e1; cases e1
  | some d =>
    rw [q] at e1
    cases e1
    obtain ⟨v, hv, rv⟩ := r.get q
    exact ⟨v, start_get hv, rv⟩
theorem l0_len {M : Addr → Prop} {zs : List Z} (r : RwA K M H vs zs) : (start N vs).length = (l0 N zs).length := by
  unfold L2.start l0
  rw [List.length_append, List.length_append, List.length_map, List.length_map, List.length_replicate, List.length_replicate, r.len]
theorem pure_body (h : pureSp K n pre post vs H Q E) (b : ∀ ds, ds.length = n → pre ds → ∀ e : En, (∀ y, post ds .none → e.nx y) → (∀ d y, post ds d → e.rt (.d d) y) → wS { K := K } t ⟨l0 N (ds.map Z.d), []⟩ e) :
    t { nx := fun _ G => Q .non G, rt := Q } (start N vs) H := by
  obtain ⟨M, ds, al, r, l, hp, k⟩ := h
  refine b ds l hp { nx := fun _ => post ds .none, rt := fun z _ => ∃ d, z = .d d ∧ post ds d } (fun _ q => q) (fun d _ q => ⟨d, rfl, q⟩) ⟨H, fun _ => False, M, true⟩ (start N vs) H _ rfl
    ⟨⟨fun a o _ e => e, al, al, l0_len (RwA.of r), fun i z e => ?_, fun e he => (nomatch he), List.Pairwise.nil, fun e he => (nomatch he), fun a z => z.elim, fun _ e he => (nomatch he)⟩, fun _ _ _ _ _ _ _ _ _ z => z.elim⟩
    ⟨fun σ' H' y' w g q => ?_, fun σ' v H' z y' w g rz q => ?_, fun _ _ _ _ _ q => q.elim, fun _ _ _ _ _ q => q.elim⟩
  · obtain ⟨x, h1, h2⟩ := l0_slot (RwA.of r) e
    exact ⟨x, h1, h2.go fun a o na e => ⟨fun z => z.elim na fun ⟨_, q, _⟩ => (nomatch q), e⟩⟩
  · exact k .none .non H' q (fun a o e => w.keep a o (fun z => z) e) .non
  · obtain ⟨d, rfl, q⟩ := q
    exact k d v H' q (fun a o e => w.keep a o (fun z => z) e) (Rp.go (fun a o n e => ⟨fun z => n (.inl z), e⟩) rz)
theorem pu_body (h : puSp K n pre cost post vs H Q E) (b : ∀ ds m p, ds.length = n → pre ds → cost ds ≤ m → ∀ e : En, (∀ y k o, post ds .none → (⟨p, o, .pu k⟩ : Cl) ∈ y.m → m - cost ds ≤ k → e.nx y) → (∀ d y k o, post ds d → (⟨p, o, .pu k⟩ : Cl) ∈ y.m → m - cost ds ≤ k → e.rt (.d d) y) →
      wS { K := K } t ⟨l0 N (.lab p :: ds.map Z.d), [⟨p, false, .pu m⟩]⟩ e) : t { nx := fun _ G => Q .non G, rt := Q } (start N vs) H := by
  obtain ⟨M, p, us, ds, m, rfl, mp, al, pk, r, l, hp, hc, k⟩ := h
  have rr : RwA K M H (.ref p :: us) (.lab p :: ds.map Z.d) := .cons (.lab p) (RwA.of r)
  have hM : ∀ {a : Addr}, Mv ⟨H, fun a => a = p, M, true⟩ (start N (.ref p :: us)) ⟨l0 N (.lab p :: ds.map Z.d), [⟨p, false, .pu m⟩]⟩ a → M a := fun {a} z => z.elim (fun z => z) fun ⟨e, q1, q2⟩ => by
    rw [List.mem_singleton] at q1; subst q1; exact q2 ▸ mp
  have fin : ∀ {σ' : St} {H' : Hp} {y' : S} {q : Nat} {o : Bool}, Wd { K := K } ⟨H, fun a => a = p, M, true⟩ σ' y' H' → (⟨p, o, .pu q⟩ : Cl) ∈ y'.m → m - cost ds ≤ q → PuOk H' p (m - cost ds) := fun {σ' H' y' q o} w e hq => PuOk.mono (w.cell _ e) hq
  refine b ds m p l hp hc { nx := fun y => post ds .none ∧ ∃ k o, (⟨p, o, .pu k⟩ : Cl) ∈ y.m ∧ m - cost ds ≤ k, rt := fun z y => ∃ d k o, z = .d d ∧ post ds d ∧ (⟨p, o, .pu k⟩ : Cl) ∈ y.m ∧ m - cost ds ≤ k }
    (fun y k o q1 q2 q3 => ⟨q1, k, o, q2, q3⟩) (fun d y k o q1 q2 q3 => ⟨d, k, o, rfl, q1, q2, q3⟩) ⟨H, fun a => a = p, M, true⟩ (start N (.ref p :: us)) H _ rfl
    ⟨⟨fun a o _ e => e, al, al, l0_len rr, fun i z e => ?_, fun e he => ?_, List.pairwise_singleton _ _, fun e he _ => ?_, fun a z => (show a = p from z) ▸ mp, fun _ e he ho => ?_⟩, fun _ _ _ _ _ _ _ _ _ z => z.elim⟩
    ⟨fun σ' H' y' w g q => ?_, fun σ' v H' z y' w g rz q => ?_, fun _ _ _ _ _ q => q.elim, fun _ _ _ _ _ q => q.elim⟩
  · obtain ⟨x, h1, h2⟩ := l0_slot rr e
    exact ⟨x, h1, h2.go fun a o na e => ⟨fun z => na (hM z), e⟩⟩
  · rw [List.mem_singleton] at he; subst he; exact pk
  · rw [List.mem_singleton] at he; subst he; exact .inl rfl
  · rw [List.mem_singleton] at he; subst he; cases ho
  · obtain ⟨q1, c, o, q2, q3⟩ := q
    exact k .none .non H' q1 (fun a o n e => w.keep a o n e) (fin w q2 q3) .non
  · obtain ⟨d, c, o, rfl, q1, q2, q3⟩ := q
    exact k d v H' q1 (fun a o n e => w.keep a o n e) (fin w q2 q3) (Rp.go (fun a o n e => ⟨fun z => n (.inl z), e⟩) rz)
theorem law_body (h : spLaw K vs H Q E) (b : ∀ ns : List Int, ns.length ≤ 63 → ∀ e : En, (∀ y, e.rt (.d (.bool true)) y) → wS { K := K } t ⟨l0 N [.d (.list (ns.map PyData.int))], []⟩ e) :
    t { nx := fun _ G => Q .non G, rt := Q } (start N vs) H := by
  obtain ⟨a, ns, rfl, hs, hl, k⟩ := h
  refine pure_body (K := K) (n := 1) (pre := fun ds => ds = [.list (ns.map PyData.int)]) (post := fun _ d => d = .bool true) (Q := Q) (E := fun _ _ _ => False) ⟨fun _ => False, [.list (ns.map PyData.int)], fun a z => z.elim, .cons (.lst ?_ (rpA_int ns)) .nil, rfl, rfl, fun d v H' e _ r => ?_⟩ ?_
  · rcases hs with hs | hs
    · exact .inl ⟨fun z => z, hs⟩
    · exact .inr hs
  · subst e
    rw [rp_bl r]
    exact k H'
  · rintro ds _ rfl e hn hr
    exact b ns hl e fun y => hr _ y rfl
end
/-! ### defs that read, and may raise -/
def xSp (K : Fg) (n : Nat) (pre : List Z → List D → Prop) (post : List Z → List D → Z → Prop) (xp : List Z → List D → Ex → Prop) : Sp := fun vs H Q E => ∃ (M : Addr → Prop) (m : List Cl) (zs : List Z) (ds : List D),
  (∀ a, M a → H a ≠ none) ∧ RwA K M H vs zs ∧ (∀ e ∈ m, M e.a ∧ CellOk K M H e.a e.c) ∧ (m.Pairwise fun e e' => e.a ≠ e'.a) ∧ ResA m zs ds ∧ zs.length = n ∧ pre zs ds ∧
  (∀ z v H', post zs ds z → (∀ a o, H a = some o → H' a = some o) → Rw K M H' v z → Q v H') ∧
  (∀ ex a v H', xp zs ds ex → (∀ a o, H a = some o → H' a = some o) → H a = none → H' a = some (.xd [(keyZ ex.found, v)]) → Rw K M H' v (valZ ex.found) → E ex.cls (some a) H')
theorem xSp_len {K : Fg} {n : Nat} {pre : List Z → List D → Prop} {post : List Z → List D → Z → Prop} {xp : List Z → List D → Ex → Prop} {ps : List Str} (h : ps.length = n) : ∀ vs H Q E, xSp K n pre post xp vs H Q E → vs.length = ps.length := by
  rintro vs H Q E ⟨M, m, zs, ds, _, r, _, _, _, l, _⟩
  rw [r.len, l, h]
section
variable {K : Fg} {N : List Str} {t : TS} {vs : List V} {H : Hp} {Q : VK} {E : XK} {n : Nat} {pre : List Z → List D → Prop} {post : List Z → List D → Z → Prop} {xp : List Z → List D → Ex → Prop}
theorem x_body (h : xSp K n pre post xp vs H Q E) (b : ∀ m zs ds, zs.length = n → ResA m zs ds → pre zs ds → ∀ e : En, (∀ y, post zs ds (.d .none) → e.nx y) → (∀ z y, post zs ds z → e.rt z y) →
      wS { K := K, W := fun cls d _ H' => E cls d H', ex := fun ex _ => xp zs ds ex } t ⟨l0 N zs, m⟩ e) : t { nx := fun _ G => Q .non G, rt := Q } (start N vs) H := by
  obtain ⟨M, m, zs, ds, al, r, cs, pw, rs, l, hp, k1, k2⟩ := h
  have hM : ∀ {a : Addr} {σ : St} {l : List (Option Z)}, Mv ⟨H, fun _ => False, M, true⟩ σ ⟨l, roM m⟩ a → M a := fun {a σ l} z => z.elim (fun z => z) fun q => by
    obtain ⟨e, q1, q2⟩ := dom_roM.mp q
    exact q2 ▸ (cs e q1).1
  have gM : GoH M H (Mv ⟨H, fun _ => False, M, true⟩ (start N vs) ⟨l0 N zs, roM m⟩) H := fun a o na e => ⟨fun z => na (hM z), e⟩
  refine b (roM m) zs ds l rs.rom hp { nx := fun _ => post zs ds (.d .none), rt := fun z _ => post zs ds z } (fun _ q => q) (fun d _ q => q) ⟨H, fun _ => False, M, true⟩ (start N vs) H _ rfl
    ⟨⟨fun a o _ e => e, al, al, l0_len r, fun i z e => ?_, fun e he => ?_, ?_, fun e he hr => ?_, fun a z => z.elim, fun _ e he ho => ?_⟩, fun σ' y' H' ex cls d w g x q => ?_⟩
    ⟨fun σ' H' y' w g q => ?_, fun σ' v H' z y' w g rz q => ?_, fun _ _ _ _ _ q => q.elim, fun _ _ _ _ _ q => q.elim⟩
  · obtain ⟨x, h1, h2⟩ := l0_slot r e
    exact ⟨x, h1, h2.go gM⟩
  · obtain ⟨e', q1, rfl⟩ := List.mem_map.mp he
    exact toRo_ok ((cs e' q1).2.go gM fun _ q => q)
  · unfold roM
    rw [List.pairwise_map]
    exact pw
  · obtain ⟨e', q1, rfl⟩ := List.mem_map.mp he
    rw [toRo_ro] at hr; cases hr
  · obtain ⟨e', q1, rfl⟩ := List.mem_map.mp he
    cases ho
  · obtain ⟨rfl, a, v, rfl, x1, x2, x3, x4⟩ := x
    exact k2 ex a v H' q (fun a o e => w.keep a o (fun z => z) e) x3 x1 (x4.go fun a o n e => ⟨fun z => n (.inl z), e⟩)
  · exact k1 (.d .none) .non H' q (fun a o e => w.keep a o (fun z => z) e) (.d .non)
  · exact k1 z v H' q (fun a o e => w.keep a o (fun z => z) e) (rz.w.go fun a o n e => ⟨fun z => n (.inl z), e⟩)
end
section
variable {C : Ct} {y : S} {ts : TA} {te : TE} {Q : Z → S → Prop} {n : Nat} {pre : List Z → List D → Prop} {post : List Z → List D → Z → Prop} {xp : List Z → List D → Ex → Prop} {e : En}
theorem wE_x (w : wZ C ts y fun zs y1 => ∃ ds, ResA y1.m zs ds ∧ (zs.length = n ∧ pre zs ds) ∧ (∀ z, post zs ds z → Q z y1) ∧ ∀ ex, xp zs ds ex → C.ex ex y1) : wE C (tCallS (xSp C.K n pre post xp) (WE C.W) ts) y Q := by
  intro F σ H K wd k
  refine w F σ H _ wd fun vs H1 zs y1 w1 g1 s1 r1 ⟨ds, hr, ⟨hn, hp⟩, q, x⟩ => ?_
  refine ⟨Mv F σ y1, y1.m, zs, ds, fun a m e => w1.new e m, r1, fun e he => ⟨.inr ⟨e, he, rfl⟩, w1.cell e he⟩, w1.dist, hr, hn, hp, fun z v H2 hz gr rv => k v H2 z y1 (w1.grow gr) (g1.trans (go_grow gr)) s1 rv.z (q z hz), fun ex a v H2 hx gr ha ha2 rv => ?_⟩
  exact w1.xk σ y1 H2 ex ex.cls (some a) (w1.grow gr).toWd0 (go_grow gr) ⟨rfl, a, v, rfl, ha2, w1.new ha, w1.newH0 ha, rv⟩ (x ex hx)
theorem wS_raise {K : Fg} {Cc : Addr} (hK : K = C.K) (oc : OexC C.K Cc) (no : PySem.W.findIn C.K (.ref Cc) "found" = some none) (w : wZ C ts y fun zs y1 => ∃ z, zs = [z] ∧ C.ex ⟨.ref Cc, z⟩ y1) : wS C (tRaiseF K Cc C.W ts) y e := by
  subst hK
  intro F σ H E st wd k
  refine w F σ H _ wd fun vs H1 zs y1 w1 g1 s1 r1 ⟨z, ez, x⟩ => ?_
  subst ez
  cases r1 with | @cons v _ vs _ rv r2 =>
  cases r2
  refine mkO_of (Q := fun cls d H' => C.W cls d σ H') oc no fun d hd => ?_
  have gr := grow_upd (o := .xd [(("found" : Str), v)]) hd
  exact w1.xk σ y1 _ ⟨.ref Cc, z⟩ (.ref Cc) (some d) (w1.grow gr).toWd0 (go_grow gr) ⟨rfl, d, v, rfl, by rw [rv.kz.1]; exact upd_same, w1.new hd, w1.newH0 hd, by rw [rv.kz.2]; exact rv.go (go_grow (F := F) (σ := σ) (y := y1) gr)⟩ x
/-- e.found in a suite -/
theorem wE_found {a dd Cc : Addr} {i : Nat} {z : Z} {cls : Value} (hc : cls = .ref Cc) (hi : y.l[i]? = some (some (.exc a dd z))) (kz : keyZ z = "found" ∧ valZ z = z) (q : Q z y) : wE C (tXf a cls (some dd) Cc "found" (tVar i)) y Q := by
  intro F σ H K wd k
  obtain ⟨x, h1, h2⟩ := wd.slot i _ hi
  cases h2 with
  | @exc _ _ v _ n c1 c2 =>
    rw [kz.1] at c1
    rw [kz.2] at c2
    exact ⟨.ref a, h1, rfl, hc, dd, _, v, rfl, c1, by simp [List.lookup], k v H z y wd GoH.refl (Sh.refl y) c2.z q⟩
/-- e.f in a suite -/
theorem wE_field {a dd Cc : Addr} {i : Nat} {z : Z} {f : Str} {cls : Value} (hc : cls = .ref Cc) (hi : y.l[i]? = some (some (.exc a dd (.nm f z)))) (q : Q z y) : wE C (tXf a cls (some dd) Cc f (tVar i)) y Q := by
  intro F σ H K wd k
  obtain ⟨x, h1, h2⟩ := wd.slot i _ hi
  cases h2 with
  | @exc _ _ v _ n c1 c2 =>
    have c1 : H dd = some (.xd [(f, v)]) := c1
    exact ⟨.ref a, h1, rfl, hc, dd, _, v, rfl, c1, by simp [List.lookup], k v H z y wd GoH.refl (Sh.refl y) (Rw.z (z := z) c2) q⟩
end
/-! ### try -/
def Hd (C : Ct) (K : Fg) (e : En) : List (Value × Option Nat × (Addr → Value → Option Addr → TS)) → Ex → S → Prop
  | [], _, _ => False
  | (c, none, ts) :: r, ex, y => ∃ b, PySem.W.exmOne K ex.cls c = some b ∧ (b = true → ∀ a dd : Addr, wS C (ts a ex.cls (some dd)) y e) ∧ (b = false → Hd C K e r ex y)
  | (c, some i, ts) :: r, ex, y => ∃ b, PySem.W.exmOne K ex.cls c = some b ∧ (b = true → ∀ a dd : Addr, wS C (ts a ex.cls (some dd)) (y.set i (some (.exc a dd ex.found)))
      { nx := fun y' => e.nx (y'.set i none), rt := e.rt, bk := fun y' => e.bk (y'.set i none), ct := fun y' => e.ct (y'.set i none) }) ∧ (b = false → Hd C K e r ex y)
theorem Wd.unset {C : Ct} {F : Fr} {σ : St} {y : S} {H : Hp} (w : Wd C F σ y H) (i : Nat) : Wd C F (σ.set i none) (y.set i none) H := by
  refine w.to ⟨w.keep, w.live0, w.live, by show (σ.set i _).length = (y.l.set i _).length; rw [List.length_set, List.length_set]; exact w.len, fun j z e => ?_, w.cell, w.dist, w.frsh, w.sm, w.nb⟩ go_set
  have e' : (y.l.set i none)[j]? = some (some z) := e
  by_cases n : j = i
  · subst n
    have hl : j < y.l.length := by
      have := (List.getElem?_eq_some_iff.mp e').1
      rw [List.length_set] at this; exact this
    rw [List.getElem?_set_self hl] at e'
    cases e'
  · rw [List.getElem?_set_ne (Ne.symm n)] at e' ⊢
    exact w.slot j z e'
theorem wS_try {C : Ct} {y : S} {e : En} {tb : WX → TS} {l : List (Value × Option Nat × (Addr → Value → Option Addr → TS))} (w : ∀ W, wS { C with W := W, ex := Hd C C.K e l } (tb W) y e) : wS C (tTry C.K l tb) y e := by
  intro F σ H D st wd k
  have chg : ∀ {σ' : St} {y' : S} {H' : Hp}, Wd { C with W := wN C.K D l, ex := Hd C C.K e l } F σ' y' H' → Go F σ y H σ' y' H' → Wd C F σ' y' H' := fun {σ' y' H'} w' g => wd.to w'.toWd0 g
  refine w (wN C.K D l) F σ H D st ⟨wd.toWd0, fun σ' y' H' ex cls d w0 g x q => ?_⟩ ⟨fun σ' H' y' w' g q => k.nx σ' H' y' (chg w' g) g q, fun σ' v H' z y' w' g r q => k.rt σ' v H' z y' (chg w' g) g r q, fun σ' H' y' w' g q => k.bk σ' H' y' (chg w' g) g q, fun σ' H' y' w' g q => k.ct σ' H' y' (chg w' g) g q⟩
  have w1 : Wd C F σ' y' H' := wd.to w0 g
  obtain ⟨rfl, dd, v, rfl, x1, x2, x3, x4⟩ := x
  have key : ∀ l : List (Value × Option Nat × (Addr → Value → Option Addr → TS)), Hd C C.K e l ex y' → wN C.K D l ex.cls (some dd) σ' H' := by
    intro l
    induction l with
    | nil => exact fun z => z
    | cons cl r ih =>
      obtain ⟨c, i, ts⟩ := cl
      cases i with
      | none =>
        rintro ⟨b, hb, hy, hn⟩
        refine ⟨b, hb, fun hbt a ha => ?_, fun hbf => ih (hn hbf)⟩
        exact hy hbt a dd F σ' H' D st w1 ⟨fun σ3 H3 y3 w3 g3 q => k.nx σ3 H3 y3 w3 (g.trans g3) q, fun σ3 v3 H3 z3 y3 w3 g3 r q => k.rt σ3 v3 H3 z3 y3 w3 (g.trans g3) r q, fun σ3 H3 y3 w3 g3 q => k.bk σ3 H3 y3 w3 (g.trans g3) q, fun σ3 H3 y3 w3 g3 q => k.ct σ3 H3 y3 w3 (g.trans g3) q⟩
      | some i =>
        rintro ⟨b, hb, hy, hn⟩
        refine ⟨b, hb, fun hbt a ha => ?_, fun hbf => ih (hn hbf)⟩
        have w3 := w1.set_z (i := i) (v := .ref a) (z := .exc a dd ex.found) (.exc x2 x1 x4)
        have g3 : Go F σ y H (σ'.set i (some (.ref a))) (y'.set i (some (.exc a dd ex.found))) H' := g.trans (go_set (σ := σ'))
        refine hy hbt a dd F _ H' _ st w3 ⟨fun σ4 H4 y4 w4 g4 q => k.nx _ H4 _ (w4.unset i) ((g3.trans g4).trans (go_set (σ := σ4))) q, fun σ4 v4 H4 z4 y4 w4 g4 r q => k.rt σ4 v4 H4 z4 y4 w4 (g3.trans g4) r q, fun σ4 H4 y4 w4 g4 q => k.bk _ H4 _ (w4.unset i) ((g3.trans g4).trans (go_set (σ := σ4))) q, fun σ4 H4 y4 w4 g4 q => k.ct _ H4 _ (w4.unset i) ((g3.trans g4).trans (go_set (σ := σ4))) q⟩
  exact key l q
end Ux

set_option maxRecDepth 100000
set_option maxHeartbeats 4000000
namespace Ux
open PySem PySem.Spec PyProof.Rows L2 Tq
open PySem.Builtin.Str (occurrences subAt)
section
variable {C : Ct} {y : S} {te : TE} {Q : Z → S → Prop} {E : XK}
theorem wE_powN {a : Int} {n : Nat} (q : Q (.d (.int (a ^ (OfNat.ofNat n : Nat)))) y) (ha : a.natAbs < 2 ^ 64 := by decide) (hn : n ≤ 1000000 := by decide) : wE C (tOp (rI CPow fun i j => .int (i ^ j.toNat)) (tC (.int a)) (tC (.int (OfNat.ofNat n)))) y Q := by
  refine wE_pow (wE_int (wE_int ⟨_, _, rfl, rfl, ⟨?_, ?_, ha⟩, q⟩))
  · show (0 : Int) ≤ (n : Nat); omega
  · show ((n : Nat) : Int) ≤ 1000000; omega
theorem wE_dispS {k : Str} {v : V} {d : D} (s : Sc v d) (h : Q (.d (.dict [(.str k, d)])) y) : wE C (tDisp [(tC (.str k), tC v)]) y Q := wE_disp1 (kk := .inr k) s h
theorem wE_dispI {k : Int} {v : V} {d : D} (s : Sc v d) (h : Q (.d (.dict [(.int k, d)])) y) : wE C (tDisp [(tC (.int k), tC v)]) y Q := wE_disp1 (kk := .inl k) s h
end
section
variable {C : Ct} {y : S} {ta tb : TE} {Q : Z → S → Prop}
theorem wE_eqS (w : wE C ta y fun z y1 => wE C tb y1 fun z' y2 => ∃ d e, z = .d d ∧ z' = .d e ∧ scalD d e = true ∧ Q (.d (.bool (eqS d e))) y2) : wE C (tOp rEq ta tb) y Q := by
  refine wE_op (res := fun d e r => scalD d e = true ∧ r = .bool (eqS d e)) ?_ (wE_mono w fun z y1 h => wE_mono h fun z' y2 ⟨d, e, e1, e2, s, q⟩ => ⟨_, _, _, e1, e2, ⟨s, rfl⟩, q⟩)
  rintro M H x u d e r Q _ rx ru ⟨s, rfl⟩ k
  obtain ⟨h1, h2⟩ := eqS_ok rx ru s
  refine ⟨h1, ?_⟩
  rw [h2]
  exact k _ H (fun _ _ e => e) (.bl _)
theorem wE_neS (w : wE C ta y fun z y1 => wE C tb y1 fun z' y2 => ∃ d e, z = .d d ∧ z' = .d e ∧ scalD d e = true ∧ Q (.d (.bool (!eqS d e))) y2) : wE C (tOp rNe ta tb) y Q := by
  refine wE_op (res := fun d e r => scalD d e = true ∧ r = .bool (!eqS d e)) ?_ (wE_mono w fun z y1 h => wE_mono h fun z' y2 ⟨d, e, e1, e2, s, q⟩ => ⟨_, _, _, e1, e2, ⟨s, rfl⟩, q⟩)
  rintro M H x u d e r Q _ rx ru ⟨s, rfl⟩ k
  obtain ⟨h1, h2⟩ := eqS_ok rx ru s
  refine ⟨h1, ?_⟩
  rw [h2]
  exact k _ H (fun _ _ e => e) (.bl _)
end
theorem wE_reprS {C : Ct} {y : S} {te : TE} {Q : Z → S → Prop} (w : wE C te y fun z y1 => ∃ d, z = .d d ∧ ShOk d ∧ Q (.d (.str d.shown)) y1) : wE C (tCB (rRepr C.K) (tCons te tNil)) y Q :=
  wE_repr (wD_cons (wE_mono w fun z y1 ⟨d, e, ⟨h1, h2, h3, h4⟩, q⟩ => ⟨d, e, wD_nil ⟨d, rfl, h1, h2, h3, h4, q⟩⟩))
theorem wE_index {C : Ct} {ta tb : TE} {y : S} {Q : Z → S → Prop} (w : wE C ta y fun z y1 => ∃ a, z = .d (.str a) ∧ wE C tb y1 fun z' y2 => ∃ b i r, z' = .d (.str b) ∧ occurrences a b 0 a.length 1 = i :: r ∧ Q (.d (.int (i : Nat))) y2) :
    wE C (tM1 rIndex ta tb) y Q := by
  intro F σ H K wd k
  refine w F σ H _ wd fun x H1 z y1 w1 g1 s1 r1 q1 => ?_
  obtain ⟨a, rfl, q1⟩ := q1
  have e := rp_str r1
  subst e
  refine ⟨⟨a, rfl⟩, q1 F σ H1 _ w1 fun x2 H2 z' y2 w2 g2 s2 r2 q2 => ?_⟩
  obtain ⟨b, i, r, rfl, ho, hq⟩ := q2
  exact ⟨a, b, i, r, rfl, by rw [rp_str r2], ho, k _ H2 (.d (.int _)) y2 w2 (g1.trans g2) (s1.trans s2) (.int _) hq⟩

/-! ### things as they are at present -/
section
variable {C : Ct} {y : S} {te ta tb : TE} {Q : Z → S → Prop} {Qi : List D → S → Prop}
theorem wE_isiR {T : String} (w : wE C te y fun z y1 => ∃ d, Res y1.m z d ∧ Q (.d (.bool (isT T d))) y1) (hT : (tyNames.all fun n => (kitB n T).isSome) = true := by decide +kernel) : wE C (tCB (rIsi C.K) (tCons te (tCons (tC (.ty T)) tNil))) y Q := by
  intro F σ H K wd k
  refine w F σ H _ wd fun x H1 z y1 w1 g1 s1 r1 q1 => ?_
  obtain ⟨d, hr, h⟩ := q1
  exact ⟨x, .ty T, _, _, isT T d, rfl, .ty T, rp_ty (hr.rp w1.toWd0 r1.w), kit_ty (kit_isT hT d), k _ H1 (.d (.bool (isT T d))) y1 w1 g1 s1 (.bl _) h⟩
theorem wE_reprR (w : wE C te y fun z y1 => ∃ d, Res y1.m z d ∧ ShOk d ∧ Q (.d (.str d.shown)) y1) : wE C (tCB (rRepr C.K) (tCons te tNil)) y Q := by
  intro F σ H K wd k
  refine w F σ H _ wd fun x H1 z y1 w1 g1 s1 r1 q1 => ?_
  obtain ⟨d, hr, ⟨h1, h2, h3, h4⟩, h⟩ := q1
  exact ⟨x, d, rfl, (hr.rp w1.toWd0 r1.w).any, h1, h2, h3, h4, k _ H1 (.d (.str d.shown)) y1 w1 g1 s1 (.str _) h⟩
def seqZ : Z → Option (List Z)
  | .d (.list ds) => some (ds.map Z.d)
  | .d (.tuple ds) => some (ds.map Z.d)
  | .lst zs => some zs
  | .tup zs => some zs
  | _ => none
theorem atI_rw {K : Fg} {M : Addr → Prop} {H : Hp} {vs : List V} {zs : List Z} {i : Int} {z : Z} (r : RwA K M H vs zs) (h : atI zs i = some z) : ∃ v, atI vs i = some v ∧ Rw K M H v z := by
  unfold atI at h ⊢
  rw [r.len]
  cases e : ixN zs.length i with
  | none => rw [e] at h; cases h
  | some j =>
    rw [e] at h
    exact r.get (i := j) h
theorem rw_seq {K : Fg} {M : Addr → Prop} {H : Hp} {v : V} {z : Z} {zs : List Z} (r : Rw K M H v z) (h : seqZ z = some zs) : ∃ a us, v = .ref a ∧ (LsA K M H a us ∨ TsA K M H a us) ∧ RwA K M H us zs := by
  cases r with
  | lab a => cases h
  | exc _ _ _ => cases h
  | ob _ _ _ _ => cases h
  | tup h1 h2 => cases h; exact ⟨_, _, rfl, .inr h1, h2⟩
  | lst h1 h2 => cases h; exact ⟨_, _, rfl, .inl h1, h2⟩
  | d r =>
    cases r with
    | lst h1 h2 => cases h; exact ⟨_, _, rfl, .inl h1, RwA.of h2⟩
    | tup h1 h2 => cases h; exact ⟨_, _, rfl, .inr h1, RwA.of h2⟩
    | _ => cases h
theorem wE_ixZ (w : wE C ta y fun z y1 => wE C tb y1 fun z' y2 => ∃ zs i u, seqZ z = some zs ∧ z' = .d (.int i) ∧ atI zs i = some u ∧ Q u y2) : wE C (tOp (rIx C.K) ta tb) y Q := by
  intro F σ H K wd k
  refine w F σ H _ wd fun x H1 z y1 w1 g1 s1 r1 q1 => ?_
  refine q1 F σ H1 _ w1 fun x2 H2 z' y2 w2 g2 s2 r2 q2 => ?_
  obtain ⟨zs, i, u, hs, rfl, hi, hq⟩ := q2
  have ey := rp_int r2
  obtain ⟨a, us, rfl, h1, h2⟩ := rw_seq (r1.w.go g2) hs
  obtain ⟨v, e, rv⟩ := atI_rw h2 hi
  rcases h1 with h1 | h1
  · exact .inl ⟨_, _, i, v, rfl, ey, h1.sq, e, k _ H2 u y2 w2 (g1.trans g2) (s1.trans s2) rv.z hq⟩
  · exact .inr (.inl ⟨_, _, i, v, rfl, ey, h1.sq, e, k _ H2 u y2 w2 (g1.trans g2) (s1.trans s2) rv.z hq⟩)
def lstZ : Z → Option (List Z)
  | .d (.list ds) => some (ds.map Z.d)
  | .lst zs => some zs
  | _ => none
theorem rw_lst {K : Fg} {M : Addr → Prop} {H : Hp} {v : V} {z : Z} {zs : List Z} (r : Rw K M H v z) (h : lstZ z = some zs) : ∃ a us, v = .ref a ∧ LsA K M H a us ∧ RwA K M H us zs := by
  cases r with
  | lab a => cases h
  | exc _ _ _ => cases h
  | ob _ _ _ _ => cases h
  | tup h1 h2 => cases h
  | lst h1 h2 => cases h; exact ⟨_, _, rfl, h1, h2⟩
  | d r =>
    cases r with
    | lst h1 h2 => cases h; exact ⟨_, _, rfl, h1, RwA.of h2⟩
    | _ => cases h
theorem wE_catZ (w : wE C ta y fun z y1 => wE C tb y1 fun z' y2 => ∃ xs zs, lstZ z = some xs ∧ lstZ z' = some zs ∧ xs.length + zs.length ≤ sizeLine ∧ Q (.lst (xs ++ zs)) y2) : wE C (tOp (rCatG C.K) ta tb) y Q := by
  intro F σ H K wd k
  refine w F σ H _ wd fun x H1 z y1 w1 g1 s1 r1 q1 => ?_
  refine q1 F σ H1 _ w1 fun x2 H2 z' y2 w2 g2 s2 r2 q2 => ?_
  obtain ⟨xs, zs, e1, e2, hl, hq⟩ := q2
  obtain ⟨a, us, rfl, h1, h2⟩ := rw_lst (r1.w.go g2) e1
  obtain ⟨b, vs, rfl, h3, h4⟩ := rw_lst r2.w e2
  refine ⟨a, b, us, vs, rfl, rfl, h1.sq, h3.sq, by rw [h2.len, h4.len]; exact hl, fun p hp => ?_⟩
  have gr := grow_upd (o := .lst (us ++ vs)) hp
  exact k _ _ (.lst (xs ++ zs)) y2 (w2.grow gr) ((g1.trans g2).trans (go_grow gr)) (s1.trans s2) (.lst (.inl ⟨w2.new hp, .inl upd_same⟩) ((h2.app h4).go (go_grow (F := F) (σ := σ) (y := y2) gr))) hq
theorem wI_any {i : Nat} {d : D} {xs : List D} (h : y.l[i]? = some (some (.d d))) (hx : dItems d = some xs) (q : Qi xs y) : wI C (iAny C.K (tVar i)) y Qi := by
  intro F σ H R wd k
  cases d with
  | list us =>
    cases hx
    exact .inl (wI_list (wE_var h ⟨_, rfl, q⟩) F σ H R wd k)
  | tuple us =>
    cases hx
    exact .inr (wI_tup (wE_var h ⟨_, rfl, q⟩) F σ H R wd k)
  | _ => cases hx
end
/-! ### less is known -/
def LsL (a b : List (Option Z)) : Prop := a.length = b.length ∧ ∀ (i : Nat) (z : Z), a[i]? = some (some z) → b[i]? = some (some z)
theorem less_mk' {a b : List (Option Z)} {m n : List Cl} (h : LsL a b) (s : m.Sublist n) : Less ⟨a, m⟩ ⟨b, n⟩ := ⟨h.1, h.2, s⟩
theorem less_nil : LsL [] [] := ⟨rfl, fun i z e => e⟩
theorem less_none {a b : List (Option Z)} {z : Option Z} (h : LsL a b) : LsL (none :: a) (z :: b) := by
  refine ⟨congrArg (· + 1) h.1, fun i u e => ?_⟩
  cases i with
  | zero => cases e
  | succ i => exact h.2 i u e
theorem less_some {a b : List (Option Z)} {z : Option Z} (h : LsL a b) : LsL (z :: a) (z :: b) := by
  refine ⟨congrArg (· + 1) h.1, fun i u e => ?_⟩
  cases i with
  | zero => exact e
  | succ i => exact h.2 i u e
theorem less_set {a b : S} {i : Nat} {z : Option Z} (h : Less a b) : Less (a.set i z) (b.set i z) := by
  refine ⟨by show (a.l.set i z).length = (b.l.set i z).length; rw [List.length_set, List.length_set, h.1], fun j u e => ?_, h.2.2⟩
  have e : (a.l.set i z)[j]? = some (some u) := e
  show (b.l.set i z)[j]? = some (some u)
  rw [List.getElem?_set] at e ⊢
  rw [← h.1]
  split at e
  · next q => rw [if_pos q]; exact e
  · next q => rw [if_neg q]; exact h.2.1 j u e
theorem Less.refl (y : S) : Less y y := ⟨rfl, fun _ _ e => e, List.Sublist.refl _⟩
/-- a loop whose turns know J alone -/
theorem forJ {C : Ct} {v : Nat} {tx : TS} {xs : List D} {y0 : S} {bk : S → Prop} {rt : Z → S → Prop} {R : S → Prop} (J : Nat → S → Prop) (h0 : ∃ y', J 0 y' ∧ Less y' y0)
    (hb : ∀ i x y', xs[i]? = some x → J i y' → wS C tx (y'.set v (some (.d x))) { nx := fun y => ∃ y', J (i + 1) y' ∧ Less y' y, ct := fun y => ∃ y', J (i + 1) y' ∧ Less y' y, bk := bk, rt := rt }) (he : ∀ y2 y', J xs.length y' → Less y' y2 → R y2) :
    ∃ I : Nat → S → Prop, I 0 y0 ∧ (∀ i x y2, xs[i]? = some x → I i y2 → wG C (gName v) (.d x) y2 fun y3 => wS C tx y3 { nx := I (i + 1), ct := I (i + 1), bk := bk, rt := rt }) ∧ (∀ y2, I xs.length y2 → R y2) :=
  ⟨fun i y => ∃ y', J i y' ∧ Less y' y, h0, fun i x y2 hx ⟨y', hj, hl⟩ => wG_name (wS_weak (hb i x y' hx hj) (less_set hl)), fun y2 ⟨y', hj, hl⟩ => he y2 y' hj hl⟩
/-- what stands between two cells of the script: it alone is known -/
def cellEnd (n : Nat) (s : D) (y : S) : Prop := y.l.length = n + 2 ∧ y.l[0]? = some (some (.d s))
/-- for _law_k in range(max(2, min(c, len(script)))): tb; return True -/
theorem law_loop {K : Fg} {tb : TS} {e : En} {ns : List Int} {c : Int} {n : Nat} (hc : 0 ≤ c ∧ c ≤ 900) (hz : ∀ y, e.rt (.d (.bool true)) y)
    (hb : ∀ k : Int, 0 ≤ k → k < 1000 → wS { K := K } tb ⟨some (.d (.list (ns.map PyData.int))) :: some (.d (.int k)) :: List.replicate n none, []⟩
      { nx := cellEnd n (.list (ns.map PyData.int)), ct := cellEnd n (.list (ns.map PyData.int)), bk := fun y1 => wS { K := K } (tRet (tC (.bl true))) y1 e, rt := e.rt }) :
    wS { K := K } (tSeq (tFor (iRng1 (tCons (tCB rMx (tCons (tC (.int 2)) (tCons (tCB rMn (tCons (tC (.int c)) (tCons (tCB (rLenD K) (tCons (tVar 0) tNil)) tNil))) tNil))) tNil)) (gName 1) tb) (tRet (tC (.bl true))))
      ⟨some (.d (.list (ns.map PyData.int))) :: none :: List.replicate n none, []⟩ e := by
  refine wS_seq (wS_for (wI_rng1 (wD_cons (wE_max2 (wD_cons (wE_int ⟨_, rfl, wD_cons (wE_min2 (wD_cons (wE_int ⟨_, rfl, wD_cons (wE_len (wD_cons (wE_var rfl ⟨_, rfl, wD_nil ⟨_, _, rfl, rfl, ?_⟩⟩))) ⟩)))⟩))))))
  refine ⟨_, rfl, wD_nil ⟨_, _, rfl, _, rfl, wD_nil ⟨_, _, rfl, _, rfl, wD_nil ⟨_, rfl, ?_⟩⟩⟩⟩
  rw [List.length_map]
  generalize hj : (if (if (ns.length : Int) < c then (ns.length : Int) else c) > 2 then (if (ns.length : Int) < c then (ns.length : Int) else c) else 2) = j
  have h1 : 2 ≤ j ∧ j ≤ 900 := by
    rw [← hj]
    constructor
    · split <;> omega
    · split
      · split <;> omega
      · omega
  refine ⟨by omega, by omega, fun _ y => cellEnd n (.list (ns.map PyData.int)) y, ⟨by simp, rfl⟩, fun i x y2 hx ⟨hy1, hy2⟩ => ?_, fun y2 _ => wS_ret (wE_bl (hz _))⟩
  obtain ⟨hi, rfl⟩ := rangeD_get hx
  refine wG_name (wS_weak (hb (0 + (i : Int)) (by omega) (by omega)) ⟨by show _ = (y2.l.set 1 _).length; rw [List.length_set, hy1]; simp, fun k z e => ?_, List.nil_sublist _⟩)
  show (y2.l.set 1 _)[k]? = some (some z)
  match k, e with
  | 0, e =>
    cases e
    rw [List.getElem?_set_ne (by decide)]
    exact hy2
  | 1, e =>
    cases e
    exact List.getElem?_set_self (by omega)
  | k + 2, e =>
    have e2 : (List.replicate n (none : Option Z))[k]? = some (some z) := e
    rw [List.getElem?_replicate] at e2
    split at e2 <;> cases e2
theorem wS_whileJ {C : Ct} {t : TT} {tx : TS} {y : S} {e : En} (J : Nat → S → Prop) (h0 : ∃ m y', J m y' ∧ Less y' y)
    (hs : ∀ m y1, J m y1 → wT C t y1 fun b y2 => if b = true then wS C tx y2 { nx := fun y3 => ∃ m' y', m' < m ∧ J m' y' ∧ Less y' y3, ct := fun y3 => ∃ m' y', m' < m ∧ J m' y' ∧ Less y' y3, bk := e.nx, rt := e.rt } else e.nx y2) :
    wS C (tWhile t tx) y e := by
  intro F σ H E st wd k
  obtain ⟨m0, y0, h0, l0⟩ := h0
  obtain ⟨wd0, g0⟩ := wd.weak l0
  refine ⟨fun m σ1 H1 => ∃ y1, Wd C F σ1 y1 H1 ∧ Go F σ y H σ1 y1 H1 ∧ J m y1, ⟨m0, y0, wd0, g0, h0⟩, ?_⟩
  rintro m σ1 H1 ⟨y1, w1, g1, hw⟩
  refine hs m y1 hw F σ1 H1 _ w1 fun b H2 y2 w2 g2 s2 q => ?_
  have fin : ∀ σ5 H5 y5, Wd C F σ5 y5 H5 → Go F σ1 y2 H2 σ5 y5 H5 → (∃ m' y', m' < m ∧ J m' y' ∧ Less y' y5) → ∃ m', m' < m ∧ ∃ y3, Wd C F σ5 y3 H5 ∧ Go F σ y H σ5 y3 H5 ∧ J m' y3 := by
    rintro σ5 H5 y5 w5 g5 ⟨m', y', hm, q5, l5⟩
    obtain ⟨w6, g6⟩ := w5.weak l5
    exact ⟨m', hm, y', w6, ((g1.trans g2).trans g5).trans g6, q5⟩
  cases b with
  | true =>
    refine ⟨fun σ3 H3 => ∃ m', m' < m ∧ ∃ y3, Wd C F σ3 y3 H3 ∧ Go F σ y H σ3 y3 H3 ∧ J m' y3, fun σ3 H3 ⟨m', hm, z⟩ => ⟨m', hm, z⟩, ?_⟩
    exact q F σ1 H2 _ st w2 ⟨fun σ5 H5 y5 w5 g5 q5 => fin σ5 H5 y5 w5 g5 q5, fun σ5 v5 H5 z5 y5 w5 g5 r5 q5 => k.rt σ5 v5 H5 z5 y5 w5 ((g1.trans g2).trans g5) r5 q5,
      fun σ5 H5 y5 w5 g5 q5 => k.nx σ5 H5 y5 w5 ((g1.trans g2).trans g5) q5, fun σ5 H5 y5 w5 g5 q5 => fin σ5 H5 y5 w5 g5 q5⟩
  | false => exact k.nx σ1 H2 y2 w2 (g1.trans g2) q
end Ux

set_option maxRecDepth 100000
set_option maxHeartbeats 2000000
/-! what the top has written of the exceptions' classes -/
namespace Ux
open PySem PySem.Spec PyProof.Rows L2
/-- the first def of a class -/
def clsFn : Stmt → Stmt
  | .ClassDef _ _ _ (b :: _) _ _ _ _ _ _ _ => b
  | s => s
structure XcT (K : Fg) (mg : Str → Option Value) (x qual : Str) (st : Stmt) (C : Addr) : Prop where
  gC : mg x = some (.ref C)
  oc : OexC K C
  xf : XfC K C
  no : PySem.W.findIn K (.ref C) "found" = some none
  ini : ∃ (fI : Addr) (fd : FuncData), PySem.W.findIn K (.ref C) "__init__" = some (some (.ref fI)) ∧ PySem.W.typeIn K (.ref fI) = some (.type "function") ∧ Fun K "__init__" qual st fI fd ∧ Binds K fd ["self", "found"] []
theorem spInit_len {K : Fg} {C : Addr} : ∀ vs H Q E, spInit K C vs H Q E → vs.length = (["self", "found"] : List Str).length := by
  rintro vs H Q E ⟨a, v, rfl, _⟩
  rfl
theorem xc_ok {P : Program} {w : World} {K : Fg} {mg : Str → Option Value} {base : Heap} {x qual : Str} {st : Stmt} {C : Addr} (T : XcT K mg x qual st C) (Sc : FnScope ["self", "found"] ["self", "found"] (defScope st)) (m : Str)
    (hb : ∀ (fI : Addr) (cdv : Value) (A : Around) (outer : List Env) (s : Shared) (H : Hp) (E : XK), PSs (cxOf CX0 P w K mg base ["self", "found"] qual (defScope st) fI cdv A outer s H E).nox (defBody st) (t_init K m)) : Xc P w K mg base x C := by
  obtain ⟨fI, fd, i1, i2, i3, i4⟩ := T.ini
  exact ⟨T.gC, T.oc, T.xf, T.no, fI, fd, i1, i2, i3.ok Sc spInit_len fun cdv A outer s H vs Q E hr h => ⟨_, hb fI cdv A outer s H E, init_read h⟩, i4⟩
theorem xct_mk {K : Fg} {h : Heap} {mg : Str → Option Value} {x qual : Str} {st : Stmt} {C f : Addr} (X : K.In h) (G : h.Ns mainGlobals mg)
    {nm q : Str} {N : Addr} {bs bm : List Value} {sn : List Str} {sub : List Value} {ab : Bool} {col : Option Bool} {dd : Option Addr} {m0 m1 m2 m3 m5 : Option Value} {od an : Option Addr} {sl : Array (Option Value)} {oc kV dc pm cd ct : Value}
    (hb : ∀ (kV dc pm : Value) (an : Option Addr) (cd ct : Value) (us : List Value), us.length = (["self", "found"] : List Str).length → bindArgs (PySem.W.fnOf "__init__" qual (defArgs st) (defBody st) (defScope st) .none kV dc pm an cd ct) ⟨us, []⟩ = pure ((["self", "found"] : List Str).zip us))
    (aC : PySem.W.nsIn K mainGlobals x = some (some (.ref C)))
    (xL : K.lookup C = some (excClassObj nm q C N bs bm true sn sub ab col dd m0 m1 m2 m3 m5 "ValueError.__new__"))
    (vb : PySem.HandSPX.refsVE bm = true)
    (sa : PySem.W.findIn K (.ref C) "__setattr__" = some (some (.builtin "object.__setattr__"))) (ga : PySem.W.findIn K (.ref C) "__getattribute__" = some (some (.builtin "BaseException.__getattribute__"))) (gg : PySem.W.findIn K (.ref C) "__getattr__" = some none) (nb : PySem.W.findIn K (.ref C) "found" = some none)
    (a1 : PySem.W.findIn K (.ref C) "__init__" = some (some (.ref f))) (t1 : PySem.W.typeIn K (.ref f) = some (.type "function"))
    (l : K.lookup f = some ⟨oc, od, .func (PySem.W.fnOf "__init__" qual (defArgs st) (defBody st) (defScope st) .none kV dc pm an cd ct), sl⟩) (c : PySem.W.codeIn K cd qual = true) (k : PySem.W.keepIn K (.ref f) = true)
    (kC : PySem.W.keepIn K (.ref C) = true) (eC : PySem.W.subIn K (.ref C) (.type "BaseException") = some true) (tC : PySem.W.typeIn K (.ref C) = some (.type "type")) (hC : PySem.W.hasDictIn K C = true) : XcT K mg x qual st C :=
  ⟨PySem.W.mg_of X G aC, ⟨⟨nm, q, N, bs, bm, sn, sub, ab, col, dd, m0, m1, m2, m3, m5, xL, vb⟩, sa, eC, tC, kC⟩, ⟨ga, gg, eC, hC⟩, nb, f, _, a1, t1, fun_mk l c k, (fun_mk l c k).binds hb⟩
theorem txc_mk {K : Fg} {h : Heap} {mg : Str → Option Value} {x : Str} {T : Addr} (X : K.In h) (G : h.Ns mainGlobals mg) (a : PySem.W.nsIn K mainGlobals x = some (some (.ref T))) (r : PySem.W.readsIn K T (.type "type") = true)
    (g : PySem.W.specialIn K (.ref T) "__getattribute__" = some (some (.builtin "type.__getattribute__"))) (v : PySem.W.findCls K (.ref T) (.type "type") "__init__" = some (.val (.builtin "ValueError.__init__"))) : TxC K mg x :=
  ⟨T, PySem.W.mg_of X G a, r, g, v⟩
/-- an exception of the class A, asked of the class B -/
theorem exm_mk {K : Fg} {mg : Str → Option Value} {x y : Str} {A B : Addr} {b : Bool} (hb : PySem.W.subIn K (.ref B) (.type "BaseException") = some true) (ht : PySem.W.typeIn K (.ref B) = some (.type "type")) (hc : PySem.W.isClsIn K B = true) (hs : PySem.W.subIn K (.ref A) (.ref B) = some b) :
    PySem.W.exmOne K (.ref A) (.ref B) = some b := by
  have e1 : (PySem.W.subIn K (.ref B) (.type "BaseException") == some true) = true := by rw [hb] <;> rfl
  have e2 : ((PySem.W.clsIn K B).isSome && PySem.W.typeIn K (.ref B) == some (.type "type")) = true := by
    have h2' : (PySem.W.clsIn K B).isSome = true := hc
    rw [h2', ht] <;> rfl
  show (if (PySem.W.subIn K (.ref B) (.type "BaseException") == some true) = true then (if ((PySem.W.clsIn K B).isSome && PySem.W.typeIn K (.ref B) == some (.type "type")) = true then PySem.W.subIn K (.ref A) (.ref B) else none) else none) = some b
  rw [if_pos e1, if_pos e2]
  exact hs
end Ux

set_option maxRecDepth 100000
set_option maxHeartbeats 2000000
namespace Ux
open PySem PySem.Spec PyProof.Rows L2 Tq
/-! displays by the kind in which they are wanted -/
def tTupZ : TA → TE := tTup
def tLstZ : TA → TE := tLst
def tLstL : TA → TE := tLst
def tDNewL : TE := tDNewK
section
variable {X : Cx} {ts : TA} {es : List Expr} {k : Nat} {pos : Pos}
theorem pe_lstL (h : PA X es ts) : PE X (.List es pos) (tLstL ts) := pe_lst h
end
theorem Res.at {m : List Cl} {j : Nat} {a : Addr} {b : Bool} {c : Cell} {d : D} (h : m[j]? = some ⟨a, b, c⟩) (r : ResC c d) : Res m (.lab a) d := .lab (e := ⟨a, b, c⟩) (List.mem_of_getElem? h) r
end Ux
namespace Ux
open PySem PySem.Spec PyProof.Rows L2 Tq
/-- a def over things of any kind that lets nothing out -/
theorem wE_xc {C : Ct} {y : S} {ts : TA} {Q : Z → S → Prop} {E : XK} {n : Nat} {pre : List Z → List D → Prop} {post : List Z → List D → Z → Prop} {xp : List Z → List D → Ex → Prop}
    (w : wZ C ts y fun zs y1 => ∃ ds, ResA y1.m zs ds ∧ (zs.length = n ∧ pre zs ds) ∧ (∀ z, post zs ds z → Q z y1)) (hx : ∀ zs ds ex, ¬ xp zs ds ex) : wE C (tCall (xSp C.K n pre post xp) [] E ts) y Q := by
  intro F σ H K wd k
  refine w F σ H _ wd fun vs H1 zs y1 w1 g1 s1 r1 ⟨ds, hr, ⟨hn, hp⟩, q⟩ => ?_
  show xSp C.K n pre post xp (vs ++ []) H1 K E
  rw [List.append_nil]
  exact ⟨Mv F σ y1, y1.m, zs, ds, fun a m e => w1.new e m, r1, fun e he => ⟨.inr ⟨e, he, rfl⟩, w1.cell e he⟩, w1.dist, hr, hn, hp, fun z v H2 hz gr rv => k v H2 z y1 (w1.grow gr) (g1.trans (go_grow gr)) s1 rv.z (q z hz), fun ex _ _ _ h => (hx _ _ _ h).elim⟩
abbrev asSp (K : Fg) (n : Nat) (pre : List Z → List D → Prop) (post : List Z → List D → Z → Prop) : Sp := xSp K n pre post fun _ _ _ => False
theorem wE_as {C : Ct} {y : S} {ts : TA} {Q : Z → S → Prop} {E : XK} {n : Nat} {pre : List Z → List D → Prop} {post : List Z → List D → Z → Prop}
    (w : wZ C ts y fun zs y1 => ∃ ds, ResA y1.m zs ds ∧ (zs.length = n ∧ pre zs ds) ∧ (∀ z, post zs ds z → Q z y1)) : wE C (tCall (asSp C.K n pre post) [] E ts) y Q := wE_xc w fun _ _ _ h => h
/-! what a thing is, by what it is at present -/
theorem ResC.nsc {c : Cell} {d : D} (h : ResC c d) : (∃ ds, d = .list ds) ∨ ∃ kvs, d = .dict kvs := by
  induction h with
  | lst ds => exact .inl ⟨ds, rfl⟩
  | dic kvs => exact .inr ⟨_, rfl⟩
  | ro _ ih => exact ih
theorem Res.int {m : List Cl} {z : Z} {n : Int} (h : Res m z (.int n)) : z = .d (.int n) := by
  cases h with
  | d => rfl
  | lab _ hc => rcases hc.nsc with ⟨_, e⟩ | ⟨_, e⟩ <;> cases e
theorem Res.tup {m : List Cl} {z : Z} {ds : List D} (h : Res m z (.tuple ds)) : z = .d (.tuple ds) := by
  cases h with
  | d => rfl
  | lab _ hc => rcases hc.nsc with ⟨_, e⟩ | ⟨_, e⟩ <;> cases e
theorem resA1 {m : List Cl} {zs : List Z} {ds : List D} (h : ResA m zs ds) (l : zs.length = 1) : ∃ z d, zs = [z] ∧ ds = [d] ∧ Res m z d := by
  cases h with
  | nil => cases l
  | cons a b => cases b with
    | nil => exact ⟨_, _, rfl, rfl, a⟩
    | cons _ _ => simp at l
theorem resA2 {m : List Cl} {zs : List Z} {ds : List D} (h : ResA m zs ds) (l : zs.length = 2) : ∃ z z' d d', zs = [z, z'] ∧ ds = [d, d'] ∧ Res m z d ∧ Res m z' d' := by
  cases h with
  | nil => cases l
  | cons a b =>
    obtain ⟨z, d, rfl, rfl, r⟩ := resA1 b (by simpa using l)
    exact ⟨_, _, _, _, rfl, rfl, a, r⟩
def rCatZ (K : Fg) : R2 := rCatG K
def rIxZ (K : Fg) : R2 := rIx K
section
variable {X : Cx} (K : Fg)
end
def nOk : D → Bool
  | .int n => decide (1 ≤ n)
  | _ => false
theorem fracB_tup {d : D} (h : fracB d = true) : ∃ p q : Int, d = .tuple [.int p, .int q] ∧ 1 ≤ q ∧ gcdI p q = 1 := by
  unfold fracB at h
  split at h
  · next a b =>
    rw [Bool.and_eq_true] at h
    exact ⟨a, b, rfl, of_decide_eq_true h.1, of_decide_eq_true h.2⟩
  · cases h
end Ux
namespace Ux
open PySem PySem.Spec PyProof.Rows L2 Tq
def tCallR (sp : Sp) (E : XK) (t : TA) : TE := tCall sp [] E t
def tIsiR (K : Fg) (t : TA) : TE := tCB (rIsi K) t
def tReprR (K : Fg) (t : TA) : TE := tCB (rRepr K) t
section
variable {X : Cx} {k : Nat} {x : Str} {ps : List Str} {sp : Sp} {p pos : Pos} {e : Expr} {es : List Expr} {t : TA}
theorem pe_calR (c : Cal X.prog X.w X.K X.mg X.base k x ps sp) (hr : Room k X.A) (hgu : X.A.guards = some []) (hg : Gl X x) (ha : PA X (e :: es) t) (hdb : (x == ("__debug__" : Str)) = false := by decide)
    (he : starEach (e :: es) X.env = (false, eval e X.env) :: starEach es X.env := by rfl)
    (hpl : (backTo pos (starEach es X.env)).any (·.1) = false := by rfl) : PE X (.Call (.Name x p) (e :: es) [] pos) (tCallR sp E0 t) := pe_cal c hr hgu hg ha hdb he hpl
end
end Ux
namespace Ux
open PySem PySem.Spec PyProof.Rows L2 Tq
section
variable {C : Ct} {y : S} {ts : TA} {te ta tb : TE} {Q : Z → S → Prop} {E : XK} {n : Nat} {pre : List D → Prop} {post : List D → D → Prop}
theorem xE_detR {G : List D → D} (w : wZ C ts y fun zs y1 => ∃ ds, ResA y1.m zs ds ∧ (ds.length = n ∧ pre ds) ∧ scD (G ds) = true ∧ Q (.d (G ds)) y1) : wE C (tCallR (detSp C.K n pre G) E ts) y Q := wE_detR w
theorem xE_pureR (w : wZ C ts y fun zs y1 => ∃ ds, ResA y1.m zs ds ∧ ds.length = n ∧ pre ds ∧ ∀ d, post ds d → scD d = true ∧ Q (.d d) y1) : wE C (tCallR (pureSp C.K n pre post) E ts) y Q := wE_pureR w
theorem xE_isiR {T : String} (w : wE C te y fun z y1 => ∃ d, Res y1.m z d ∧ Q (.d (.bool (isT T d))) y1) (hT : (tyNames.all fun n => (kitB n T).isSome) = true := by decide +kernel) : wE C (tIsiR C.K (tCons te (tCons (tC (.ty T)) tNil))) y Q := wE_isiR w hT
theorem xE_reprR (w : wE C te y fun z y1 => ∃ d, Res y1.m z d ∧ ShOk d ∧ Q (.d (.str d.shown)) y1) : wE C (tReprR C.K (tCons te tNil)) y Q := wE_reprR w
theorem xE_tupZ (w : wZ C ts y fun zs y1 => zs.length ≤ sizeLine ∧ Q (.tup zs) y1) : wE C (tTupZ ts) y Q := wE_tupZ w
theorem xE_lstZ (w : wZ C ts y fun zs y1 => zs.length ≤ sizeLine ∧ Q (.lst zs) y1) : wE C (tLstZ ts) y Q := wE_lstZ w
theorem xE_lstL (w : wZ C ts y fun zs y1 => zs.length ≤ sizeLine ∧ ∀ p, Q (.lab p) ⟨y1.l, y1.m ++ [⟨p, true, .lst zs⟩]⟩) : wE C (tLstL ts) y Q := wE_lstL w
theorem xE_dnewL (q : ∀ p, Q (.lab p) ⟨y.l, y.m ++ [⟨p, true, .dic []⟩]⟩) : wE C tDNewL y Q := wE_dnewL q
theorem xE_ixZ (w : wE C ta y fun z y1 => wE C tb y1 fun z' y2 => ∃ zs i u, seqZ z = some zs ∧ z' = .d (.int i) ∧ atI zs i = some u ∧ Q u y2) : wE C (tOp (rIxZ C.K) ta tb) y Q := wE_ixZ w
theorem xE_catZ (w : wE C ta y fun z y1 => wE C tb y1 fun z' y2 => ∃ xs zs, lstZ z = some xs ∧ lstZ z' = some zs ∧ xs.length + zs.length ≤ sizeLine ∧ Q (.lst (xs ++ zs)) y2) : wE C (tOp (rCatZ C.K) ta tb) y Q := wE_catZ w
end
end Ux

set_option maxRecDepth 100000
set_option maxHeartbeats 4000000
namespace Ux
open PySem PySem.Spec PyProof.Rows L2 Tq
/-! ### odd things that may grow -/
abbrev sev (k : Nat) : List D := List.replicate k (.int 7)
inductive OT (P : D → Bool) (k : Nat) : Z → List Cl → D → Prop
  | pl (d : D) (h1 : isT "list" d = false) (h2 : ShOk d) (h3 : P d = false) : OT P k (.d d) [] d
  | ls (a : Addr) (ds : List D) (h : ∀ j ≤ 4, ShOk (.list (ds ++ sev j))) (h3 : ∀ xs, P (.list xs) = false) (h4 : ds.length ≤ 10) : OT P k (.lab a) [⟨a, true, .lst ((ds ++ sev k).map Z.d)⟩] (.list (ds ++ sev k))
  | dc (a : Addr) (h3 : ∀ xs, P (.dict xs) = false) : OT P k (.lab a) [⟨a, true, .dic []⟩] (.dict [])
theorem OT.no {P : D → Bool} {k : Nat} {z : Z} {m : List Cl} {d : D} (h : OT P k z m d) : P d = false := by
  cases h with
  | pl h1 h2 h3 => assumption
  | ls _ _ _ h3 _ => exact h3 _
  | dc _ h3 => exact h3 _
theorem sh_dict0 : ShOk (.dict []) := ⟨by decide +kernel, by decide +kernel, by decide +kernel, by decide +kernel⟩
theorem OT.sh {P : D → Bool} {k : Nat} {z : Z} {m : List Cl} {d : D} (h : OT P k z m d) (hk : k ≤ 4) : ShOk d := by
  cases h with
  | pl h1 h2 h3 => assumption
  | ls _ _ h _ _ => exact h k hk
  | dc _ _ => exact sh_dict0
theorem OT.res {P : D → Bool} {k : Nat} {z : Z} {m n : List Cl} {d : D} (h : OT P k z m d) (hs : m ⊆ n) : Res n z d := by
  cases h with
  | pl h1 h2 h3 => exact .d _
  | ls a ds _ _ _ => exact .lab (e := ⟨a, true, .lst ((ds ++ sev k).map Z.d)⟩) (hs List.mem_cons_self) (.lst _)
  | dc a _ => exact .lab (e := ⟨a, true, .dic []⟩) (hs List.mem_cons_self) (.dic [])
theorem OT.up {P : D → Bool} {k : Nat} {z : Z} {m : List Cl} {d : D} (h : OT P k z m d) (hl : isT "list" d = false) : OT P (k + 1) z m d := by
  cases h with
  | pl h1 h2 h3 => exact .pl _ ‹_› ‹_› ‹_›
  | ls a ds _ _ _ => rw [isT_list] at hl; cases hl
  | dc a h => exact .dc a h
end Ux
namespace Ux
open PySem PySem.Spec PyProof.Rows L2 Tq
end Ux
namespace Ux
open PySem PySem.Spec PyProof.Rows L2 Tq
end Ux

namespace Ux
end Ux
namespace Ux
end Ux
namespace Ux
open PySem PySem.Spec PyProof.Rows L2 Tq
end Ux

set_option maxRecDepth 100000
set_option maxHeartbeats 4000000
namespace Ux
open PySem PySem.Spec PyProof.Rows L2 Tq
/-! ### isinstance(e, C) of the exception that a suite holds -/
def rIsX (K : Fg) (cls : Value) (d : Option Addr) (D a : Addr) : List V → Hp → VK → Prop := fun xs H Q => ∃ (T dd : Addr) (fs : List (Str × V)) (b : Bool), cls = .ref D ∧ d = some dd ∧ H dd = some (.xd fs) ∧ xs = [.ref a, .ref T] ∧ PySem.W.kitOne K (.ref D) (.ref T) = some b ∧ Q (.bl b) H
def tIsX (K : Fg) (cls : Value) (d : Option Addr) (D a T : Addr) (te : TE) : TE := tCB (rIsX K cls d D a) (tCons te (tCons (tC (.ref T)) tNil))
theorem wE_isX {C : Ct} {y : S} {Q : Z → S → Prop} {a dd D T : Addr} {i : Nat} {z : Z} {cls : Value} {b : Bool} (hk : PySem.W.kitOne C.K (.ref D) (.ref T) = some b) (hc : cls = .ref D) (hi : y.l[i]? = some (some (.exc a dd z))) (q : Q (.d (.bool b)) y) : wE C (tIsX C.K cls (some dd) D a T (tVar i)) y Q := by
  intro F σ H K wd k
  obtain ⟨x, h1, h2⟩ := wd.slot i _ hi
  cases h2 with
  | @exc _ _ v _ n c1 c2 => exact ⟨.ref a, h1, T, dd, _, b, hc, rfl, c1, rfl, hk, k _ H (.d (.bool b)) y wd GoH.refl (Sh.refl y) (.bl b) q⟩
/-! ### is True -/
section
variable {C : Ct} {y : S} {ta tb : TE} {Q : Z → S → Prop}
theorem wE_isB (w : wE C ta y fun z y1 => wE C tb y1 fun z' y2 => ∃ a b, z = .d (.bool a) ∧ z' = .d (.bool b) ∧ Q (.d (.bool (decide (a = b)))) y2) : wE C (tOp rIsB ta tb) y Q := by
  refine wE_op (res := fun d e r => ∃ a b, d = .bool a ∧ e = .bool b ∧ r = .bool (decide (a = b))) ?_ (wE_mono w fun z y1 h => wE_mono h fun z' y2 ⟨a, b, e1, e2, q⟩ => ⟨_, _, _, e1, e2, ⟨a, b, rfl, rfl, rfl⟩, q⟩)
  rintro M H x u d e r Q _ rx ru ⟨a, b, rfl, rfl, rfl⟩ k
  exact ⟨a, b, rp_bl rx, rp_bl ru, k _ H (fun _ _ e => e) (.bl _)⟩
theorem wE_notB (w : wE C ta y fun z y1 => wE C tb y1 fun z' y2 => ∃ a b, z = .d (.bool a) ∧ z' = .d (.bool b) ∧ Q (.d (.bool (!decide (a = b)))) y2) : wE C (tOp rNotB ta tb) y Q := by
  refine wE_op (res := fun d e r => ∃ a b, d = .bool a ∧ e = .bool b ∧ r = .bool (!decide (a = b))) ?_ (wE_mono w fun z y1 h => wE_mono h fun z' y2 ⟨a, b, e1, e2, q⟩ => ⟨_, _, _, e1, e2, ⟨a, b, rfl, rfl, rfl⟩, q⟩)
  rintro M H x u d e r Q _ rx ru ⟨a, b, rfl, rfl, rfl⟩ k
  exact ⟨a, b, rp_bl rx, rp_bl ru, k _ H (fun _ _ e => e) (.bl _)⟩
end
end Ux
namespace Ux
open PySem PySem.Spec PyProof.Rows L2 Tq
/-! ### d[k] = v -/
theorem RwK.len {K : Fg} {M : Addr → Prop} {H : Hp} : ∀ {vs : List (Key × V)} {zs : List (Key × Z)}, RwK K M H vs zs → vs.length = zs.length
  | _, _, .nil => rfl
  | _, _, .cons _ b => congrArg (· + 1) b.len
end Ux
namespace Ux
open PySem PySem.Spec PyProof.Rows L2 Tq
def putKD (kvs : List (Key × D)) (k : Key) (d : D) : List (Key × D) :=
  if (kvs.any fun kv => decide (kv.1 = k)) = true then kvs.map (fun kv => if kv.1 = k then (kv.1, d) else kv) else kvs ++ [(k, d)]
/-! ### odd things, handed on as they are -/
inductive Cont where
  | pl (d : D)
  | ls (ds : List D)
  | dc (kvs : List (Key × D))
def Cont.dat : Cont → D
  | .pl d => d
  | .ls ds => .list ds
  | .dc kvs => dD kvs
def Cont.gr : Cont → Cont
  | .pl d => .pl d
  | .ls ds => .ls (ds ++ [.str "more"])
  | .dc kvs => .dc (putKD kvs (.inr "more") (.int 1))
def Cont.len : Cont → Nat
  | .pl _ => 0
  | .ls ds => ds.length
  | .dc kvs => kvs.length
def Cont.plain : Cont → Bool
  | .pl d => !isT "list" d && !isT "dict" d
  | _ => true
inductive Th : Z → List (Addr × Cell) → Cont → Prop
  | pl (d : D) : Th (.d d) [] (.pl d)
  | ls (a : Addr) (ds : List D) : Th (.lab a) [(a, .lst (ds.map Z.d))] (.ls ds)
  | dc (a : Addr) (kvs : List (Key × D)) : Th (.lab a) [(a, .dic (kvD kvs))] (.dc kvs)
def toCl (b : Bool) (nw : List (Addr × Cell)) : List Cl := nw.map fun e => ⟨e.1, b, e.2⟩
/-- a draw that hands out a thing, new where it may change -/
def oSp (K : Fg) (cost : Nat) (post : Z → List (Addr × Cell) → Prop) : Sp := fun vs H Q _ => ∃ (M : Addr → Prop) (p : Addr) (m : Nat), vs = [.ref p] ∧ M p ∧ (∀ a, M a → H a ≠ none) ∧ PuOk H p m ∧ cost ≤ m ∧
  ∀ z nw v H', post z nw → (∀ a o, a ≠ p → H a = some o → H' a = some o) → PuOk H' p (m - cost) → (∀ e ∈ nw, H e.1 = none) → (nw.Pairwise fun e e' => e.1 ≠ e'.1) →
    (∀ e ∈ nw, CellOk K (fun a => M a ∨ ∃ e ∈ nw, e.1 = a) H' e.1 e.2) → Rw K (fun a => M a ∨ ∃ e ∈ nw, e.1 = a) H' v z → Q v H'
end Ux

namespace Ux
open PySem PySem.Spec PyProof.Rows L2 Tq
theorem Th.ro {z : Z} {nw : List (Addr × Cell)} {c : Cont} (h : Th z nw c) : ∀ e ∈ nw, e.2.isRo = false := by
  cases h with
  | pl d => intro e he; cases he
  | ls a ds => intro e he; rw [List.mem_singleton] at he; subst he; rfl
  | dc a kvs => intro e he; rw [List.mem_singleton] at he; subst he; rfl
/-- the call of such a draw -/
theorem wE_odd {C : Ct} {y : S} {E : XK} {cost : Nat} {post : Z → List (Addr × Cell) → Prop} {Q : Z → S → Prop} {i j : Nat} {p : Addr} {b : Bool} {m0 : Nat} (hi : y.l[i]? = some (some (.lab p))) (hj : y.m[j]? = some ⟨p, b, .pu m0⟩) (hm : cost ≤ m0)
    (q : ∀ z nw, post z nw → Q z ⟨y.l, y.m.set j ⟨p, b, .pu (m0 - cost)⟩ ++ toCl true nw⟩) : wE C (tCall (oSp C.K cost post) [] E (tCons (tVar i) tNil)) y Q := by
  intro F σ H K wd k
  obtain ⟨x, h1, h2⟩ := wd.slot i _ hi
  cases h2
  have hmm : (⟨p, b, .pu m0⟩ : Cl) ∈ y.m := List.mem_of_getElem? hj
  refine ⟨.ref p, h1, ?_⟩
  show oSp C.K cost post ([.ref p] ++ []) H K E
  rw [List.append_nil]
  refine ⟨Mv F σ y, p, m0, rfl, .inr ⟨_, hmm, rfl⟩, fun a m e => wd.new e m, wd.cell _ hmm, hm, fun z nw v H' hp kp pk fr pw cs rv => ?_⟩
  have pd : DomW y.m p := ⟨_, hmm, rfl, rfl⟩
  have lvp : H' p ≠ none := by
    obtain ⟨x, b, c, e, _⟩ := pk
    rw [e]; simp
  have inset : ∀ e ∈ y.m.set j ⟨p, b, .pu (m0 - cost)⟩, e.a = p → e = ⟨p, b, .pu (m0 - cost)⟩ := fun e he hq => by
    obtain ⟨i', hi'⟩ := List.getElem?_of_mem he
    have pws := pw_set wd.dist hj (e' := ⟨p, b, .pu (m0 - cost)⟩) rfl
    obtain ⟨hl, _⟩ := List.getElem?_eq_some_iff.mp hj
    have hjj : (y.m.set j ⟨p, b, .pu (m0 - cost)⟩)[j]? = some ⟨p, b, .pu (m0 - cost)⟩ := List.getElem?_set_self hl
    by_cases n : i' = j
    · subst n; rw [hjj] at hi'; cases hi'; rfl
    · exfalso
      rw [List.pairwise_iff_getElem] at pws
      obtain ⟨hi1, hi2⟩ := List.getElem?_eq_some_iff.mp hi'
      obtain ⟨hj1, hj2⟩ := List.getElem?_eq_some_iff.mp hjj
      rcases Nat.lt_or_gt_of_ne n with n | n
      · have := pws i' j hi1 hj1 n; rw [hi2, hj2] at this; exact this hq
      · have := pws j i' hj1 hi1 n; rw [hi2, hj2] at this; exact this hq.symm
  have old : ∀ e ∈ y.m.set j ⟨p, b, .pu (m0 - cost)⟩, ∃ e0 ∈ y.m, e0.a = e.a ∧ (e.own = true → e0.own = true) ∧ (e.c.isRo = false → e0.c.isRo = false) := fun e he => by
    rcases mem_set_or he with he | he
    · subst he; exact ⟨_, hmm, rfl, fun z => z, fun _ => rfl⟩
    · exact ⟨e, he, rfl, fun z => z, fun z => z⟩
  have key := wd.store (m := y.m.set j ⟨p, b, .pu (m0 - cost)⟩ ++ toCl true nw) (H' := H') (fun a o n e => kp a o (fun z => n (z ▸ pd)) e)
    (fun a ⟨e, h1, h2⟩ z => by
      by_cases ha : a = p
      · exact lvp (ha ▸ z)
      · cases r : H a with
        | none => exact (wd.cell e h1).live (h2 ▸ r)
        | some o => rw [kp a o ha r] at z; cases z)
    (fun e he => by
      rcases List.mem_append.mp he with he | he
      · exact .inl (old e he)
      · obtain ⟨e', h1, rfl⟩ := List.mem_map.mp he
        exact .inr (fr e' h1))
    (by
      rw [List.pairwise_append]
      refine ⟨pw_set wd.dist hj rfl, by unfold toCl; rw [List.pairwise_map]; exact pw, fun e he e2 he2 z => ?_⟩
      obtain ⟨e', h1', rfl⟩ := List.mem_map.mp he2
      obtain ⟨e0, q1, q2, _⟩ := old e he
      exact (wd.cell e0 q1).live (by rw [q2, z]; exact fr e' h1'))
    (fun g e he => by
      rcases List.mem_append.mp he with he | he
      · by_cases hq : e.a = p
        · rw [inset e he hq]; exact pk
        · rcases mem_set_or he with he | he
          · subst he; exact absurd rfl hq
          · exact (wd.cell e he).go g fun o r => kp _ _ hq r
      · obtain ⟨e', h1', rfl⟩ := List.mem_map.mp he
        refine (cs e' h1').go (fun a o n e => ⟨fun z => n ?_, e⟩) fun _ r => r
        rcases z with z | ⟨e2, h2, h3⟩
        · exact .inl (.inl z)
        · rcases List.mem_append.mp h2 with h2 | h2
          · obtain ⟨e0, q1, q2, _⟩ := old e2 h2
            exact .inl (.inr ⟨e0, q1, q2.trans h3⟩)
          · obtain ⟨e3, h4, rfl⟩ := List.mem_map.mp h2
            exact .inr ⟨e3, h4, h3⟩)
  refine k v H' z _ key.1 key.2 ⟨rfl, toCl true nw, ?_⟩ (Rw.z (rv.go fun a o n e => ⟨fun z => n ?_, e⟩)) (q z nw hp)
  · show ao (y.m.set j ⟨p, b, .pu (m0 - cost)⟩ ++ toCl true nw) = ao y.m ++ ao (toCl true nw)
    unfold ao
    rw [List.map_append]
    congr 1
    apply List.ext_getElem?
    intro i'
    by_cases n : i' = j
    · subst n
      obtain ⟨hl, _⟩ := List.getElem?_eq_some_iff.mp hj
      rw [List.getElem?_map, List.getElem?_map, List.getElem?_set_self hl, hj]
      rfl
    · rw [List.getElem?_map, List.getElem?_map, List.getElem?_set_ne (Ne.symm n)]
  · rcases z with z | ⟨e2, h2, h3⟩
    · exact .inl (.inl z)
    · rcases List.mem_append.mp h2 with h2 | h2
      · obtain ⟨e0, q1, q2, _⟩ := old e2 h2
        exact .inl (.inr ⟨e0, q1, q2.trans h3⟩)
      · obtain ⟨e3, h4, rfl⟩ := List.mem_map.mp h2
        exact .inr ⟨e3, h4, h3⟩
end Ux
namespace Ux
open PySem PySem.Spec PyProof.Rows L2 Tq
/-! ### the very same thing: it grows, and is shown alike -/
structure VOk (c : Cont) : Prop where
  pl : c.plain = true
  ln : c.len < 1000
  sh : ShOk c.gr.dat
def vSp (K : Fg) : Sp := fun vs H Q _ => ∃ (M : Addr → Prop) (z : Z) (nw : List (Addr × Cell)) (c : Cont) (v v' : V), vs = [v, v'] ∧ (∀ a, M a → H a ≠ none) ∧ (∀ e ∈ nw, M e.1 ∧ CellOk K M H e.1 e.2) ∧ Rw K M H v z ∧ Rw K M H v' z ∧ Th z nw c ∧ VOk c ∧
  ∀ nw' H', Th z nw' c.gr → (∀ a o, (∀ e ∈ nw, e.1 ≠ a) → H a = some o → H' a = some o) → (∀ e ∈ nw', CellOk K M H' e.1 e.2) → Q (.bl true) H'
def setN (m : List Cl) (j : Nat) (b : Bool) : List (Addr × Cell) → List Cl
  | [] => m
  | (a, c) :: _ => m.set j ⟨a, b, c⟩
theorem wE_very {C : Ct} {y : S} {ts : TA} {E : XK} {Q : Z → S → Prop} (w : wZ C ts y fun zs y1 => ∃ z nw c j b, zs = [z, z] ∧ Th z nw c ∧ VOk c ∧ (∀ e ∈ nw, y1.m[j]? = some ⟨e.1, b, e.2⟩) ∧ ∀ nw', Th z nw' c.gr → Q (.d (.bool true)) ⟨y1.l, setN y1.m j b nw'⟩) :
    wE C (tCall (vSp C.K) [] E ts) y Q := by
  intro F σ H K wd k
  refine w F σ H _ wd fun vs H1 zs y1 w1 g1 s1 r1 ⟨z, nw, c, j, b, ez, th, vo, hj, q⟩ => ?_
  subst ez
  cases r1 with | @cons v _ vs _ rv r2 =>
  cases r2 with | @cons v2 _ vs2 _ rv2 r3 =>
  cases r3
  refine ⟨Mv F σ y1, z, nw, c, v, v2, rfl, fun a m e => w1.new e m, fun e he => ?_, rv, rv2, th, vo, fun nw' H' th' kp cs => ?_⟩
  · have hm := List.mem_of_getElem? (hj e he)
    exact ⟨.inr ⟨_, hm, rfl⟩, w1.cell _ hm⟩
  · cases th with
    | pl d =>
      cases th' with
      | pl _ =>
        have gr : ∀ a o, H1 a = some o → H' a = some o := fun a o e => kp a o (fun _ z => nomatch z) e
        exact k _ H' (.d (.bool true)) y1 (w1.grow gr) (g1.trans (go_grow gr)) s1 (.bl true) (q [] (.pl d))
    | ls a ds =>
      cases th' with
      | ls _ ds' =>
        have hc := cs _ List.mem_cons_self
        obtain ⟨w2, g2, s2⟩ := w1.cmut (H' := H') (c' := .lst ((ds ++ [PyData.str "more"]).map Z.d)) (hj _ List.mem_cons_self) rfl rfl (fun x o n e => kp x o (fun e' he => by rw [List.mem_singleton] at he; subst he; exact fun z => n z.symm) e)
          fun M sb g => hc.go (fun a o n e => ⟨fun z => n (sb a z), e⟩) fun _ r => r
        exact k _ H' (.d (.bool true)) _ w2 (g1.trans g2) (s1.trans s2) (.bl true) (q _ (.ls a _))
    | dc a kvs =>
      cases th' with
      | dc _ kvs' =>
        have hc := cs _ List.mem_cons_self
        obtain ⟨w2, g2, s2⟩ := w1.cmut (H' := H') (c' := .dic (kvD (putKD kvs (.inr "more") (.int 1)))) (hj _ List.mem_cons_self) rfl rfl (fun x o n e => kp x o (fun e' he => by rw [List.mem_singleton] at he; subst he; exact fun z => n z.symm) e)
          fun M sb g => hc.go (fun a o n e => ⟨fun z => n (sb a z), e⟩) fun _ r => r
        exact k _ H' (.d (.bool true)) _ w2 (g1.trans g2) (s1.trans s2) (.bl true) (q _ (.dc a _))
end Ux
namespace Ux
open PySem PySem.Spec PyProof.Rows L2 Tq
def tDispL : List (TE × TE) → TE := tDisp
section
variable {C : Ct} {y : S} {Q : Z → S → Prop}
theorem xE_dispS {k : Str} {v : V} {d : D} (s : Sc v d) (q : ∀ p, Q (.lab p) ⟨y.l, y.m ++ [⟨p, true, .dic [(.inr k, .d d)]⟩]⟩) : wE C (tDispL [(tC (.str k), tC v)]) y Q := wE_dispL (kk := .inr k) s q
theorem xE_dispI {k : Int} {v : V} {d : D} (s : Sc v d) (q : ∀ p, Q (.lab p) ⟨y.l, y.m ++ [⟨p, true, .dic [(.inl k, .d d)]⟩]⟩) : wE C (tDispL [(tC (.int k), tC v)]) y Q := wE_dispL (kk := .inl k) s q
end
end Ux
namespace Ux
open PySem PySem.Spec PyProof.Rows L2 Tq
end Ux

set_option maxRecDepth 100000
set_option maxHeartbeats 4000000
namespace Ux
open PySem PySem.Spec PyProof.Rows L2 Tq
/-! ### x == [] -/
def rEqNil (K : Fg) : R2 := fun x y H Q => ∃ a b xs, x = .ref a ∧ y = .ref b ∧ SqL K H a xs ∧ SqL K H b [] ∧ Q (.bl (decide (xs.length = 0))) H
section
variable {C : Ct} {y : S} {ta tb te : TE} {tt : TT} {tx : TS} {e : En} {Q : Z → S → Prop}
theorem wE_eqNil (w : wE C ta y fun z y1 => wE C tb y1 fun z' y2 => ∃ xs, lstZ z = some xs ∧ z' = .d (.list []) ∧ Q (.d (.bool (decide (xs.length = 0)))) y2) : wE C (tOp (rEqNil C.K) ta tb) y Q := by
  intro F σ H K wd k
  refine w F σ H _ wd fun x H1 z y1 w1 g1 s1 r1 q1 => ?_
  refine q1 F σ H1 _ w1 fun x2 H2 z' y2 w2 g2 s2 r2 q2 => ?_
  obtain ⟨xs, e1, rfl, hq⟩ := q2
  obtain ⟨a, us, rfl, h1, h2⟩ := rw_lst (r1.w.go g2) e1
  obtain ⟨b, vs, rfl, h3, h4⟩ := rp_lst r2
  cases h4
  exact ⟨a, b, us, rfl, rfl, h1.sq, h3.sq, k _ H2 (.d (.bool _)) y2 w2 (g1.trans g2) (s1.trans s2) (.bl _) (by rw [h2.len]; exact hq)⟩
/-! ### lists with labels gone through -/
def JOkZ (C : Ct) (F : Fr) (J : It) (σ : St) (y : S) (H : Hp) (xs : List Z) : Prop := ∀ (F1 : Fr) σ1 y1 H1, Wd0 C.K F1 σ1 y1 H1 → GoH (Mv F σ y) H (Mv F1 σ1 y1) H1 → ∀ i : Nat, (i < xs.length → J.go i H1) ∧ (xs.length ≤ i → J.stop i H1) ∧
  ∀ x, xs[i]? = some x → ∀ v H2, J.yld i H1 v H2 → (∀ a o, H1 a = some o → H2 a = some o) ∧ Rw C.K (Mv F1 σ1 y1) H2 v x
def wIZ (C : Ct) (wi : TI) (y : S) (Q : List Z → S → Prop) : Prop := ∀ (F : Fr) σ H (R : It → Hp → Prop), Wd C F σ y H → (∀ J H' xs y', Wd C F σ y' H' → Go F σ y H σ y' H' → Sh y y' → JOkZ C F J σ y' H' xs → Q xs y' → R J H') → wi σ H R
variable {Qi : List Z → S → Prop} {wi : TI}
theorem wIZ_list (w : wE C te y fun z y1 => ∃ xs, lstZ z = some xs ∧ Qi xs y1) : wIZ C (iList C.K te) y Qi := by
  intro F σ H R wd k
  refine w F σ H _ wd fun v H1 z y1 w1 g1 s1 r1 q => ?_
  obtain ⟨xs, ez, q⟩ := q
  obtain ⟨a, us, rfl, h1, h2⟩ := rw_lst r1.w ez
  refine ⟨a, rfl, ⟨us, h1.sq⟩, k _ H1 xs y1 w1 g1 s1 (fun F1 σ2 y2 H2 w2 g2 i => ?_) q⟩
  have e1 := (h1.go g2).sq
  have e2 := h2.go g2
  refine ⟨fun hi => ?_, fun hi => ⟨us, e1, by rw [h2.len]; exact hi⟩, fun x hx v H3 hy => ?_⟩
  · have : i < us.length := by rw [h2.len]; exact hi
    exact ⟨us, us[i], e1, by simp [this]⟩
  · obtain ⟨rfl, hv⟩ := hy
    obtain ⟨d, hd, rd⟩ := e2.getV (hv us e1)
    rw [hx] at hd
    cases hd
    exact ⟨fun _ _ e => e, rd⟩
variable {g : TG}
end
/-! ### defs that change what they are handed -/
def mSp (K : Fg) (n : Nat) (pre : List (Addr × Cell) → List Z → Prop) (post : List (Addr × Cell) → List Z → D → List (Addr × Cell) → Prop) : Sp := fun vs H Q _ => ∃ (M : Addr → Prop) (m : List (Addr × Cell)) (zs : List Z), (∀ a, M a → H a ≠ none) ∧ RwA K M H vs zs ∧ (∀ e ∈ m, M e.1 ∧ CellOk K M H e.1 e.2 ∧ e.2.isRo = false) ∧ (m.Pairwise fun e e' => e.1 ≠ e'.1) ∧ zs.length = n ∧ pre m zs ∧
  ∀ d v m' H', post m zs d m' → scD d = true → m'.map (·.1) = m.map (·.1) → (∀ e ∈ m', e.2.isRo = false) → (∀ a o, (∀ e ∈ m, e.1 ≠ a) → H a = some o → H' a = some o) → (∀ e ∈ m', CellOk K M H' e.1 e.2) → Rp K M H' v d → Q v H'
theorem wE_m {C : Ct} {y : S} {ts : TA} {E : XK} {Q : Z → S → Prop} {n : Nat} {pre : List (Addr × Cell) → List Z → Prop} {post : List (Addr × Cell) → List Z → D → List (Addr × Cell) → Prop}
    (w : wZ C ts y fun zs y1 => ∃ A m B b, y1.m = A ++ toCl b m ++ B ∧ (∀ e ∈ m, e.2.isRo = false) ∧ zs.length = n ∧ pre m zs ∧ ∀ d m', post m zs d m' → m'.map (·.1) = m.map (·.1) → (∀ e ∈ m', e.2.isRo = false) → Q (.d d) ⟨y1.l, A ++ toCl b m' ++ B⟩) :
    wE C (tCall (mSp C.K n pre post) [] E ts) y Q := by
  intro F σ H K wd k
  refine w F σ H _ wd fun vs H1 zs y1 w1 g1 s1 r1 ⟨A, m, B, b, em, ro, hn, hp, q⟩ => ?_
  show mSp C.K n pre post (vs ++ []) H1 K E
  rw [List.append_nil]
  have mem : ∀ e ∈ m, (⟨e.1, b, e.2⟩ : Cl) ∈ y1.m := fun e he => by
    rw [em]; exact List.mem_append.mpr (.inl (List.mem_append.mpr (.inr (List.mem_map.mpr ⟨e, he, rfl⟩))))
  have dist := w1.dist
  rw [em] at dist
  have pwm : m.Pairwise fun e e' => e.1 ≠ e'.1 := by
    have := (List.pairwise_append.mp (List.pairwise_append.mp dist).1).2.1
    unfold toCl at this
    rw [List.pairwise_map] at this
    exact this
  refine ⟨Mv F σ y1, m, zs, fun a m e => w1.new e m, r1, fun e he => ⟨.inr ⟨_, mem e he, rfl⟩, w1.cell _ (mem e he), ro e he⟩, pwm, hn, hp, fun d v m' H' hq hs ha ro' kp cs rv => ?_⟩
  have aeq : (A ++ toCl b m' ++ B).map (·.a) = y1.m.map (·.a) := by
    rw [em]
    simp only [List.map_append, toCl, List.map_map]
    congr 2
  have aoeq : ao (A ++ toCl b m' ++ B) = ao y1.m := by
    rw [em]
    unfold ao
    simp only [List.map_append]
    congr 2
    unfold toCl
    rw [List.map_map, List.map_map]
    have e1 : ∀ l : List (Addr × Cell), (∀ e ∈ l, e.2.isRo = false) → l.map ((fun e : Cl => (e.a, e.own, e.c.isRo)) ∘ fun e => (⟨e.1, b, e.2⟩ : Cl)) = (l.map (·.1)).map fun a => (a, b, false) := fun l hl => by
      rw [List.map_map]
      exact List.map_congr_left fun e he => by show (e.1, b, e.2.isRo) = (e.1, b, false); rw [hl e he]
    rw [e1 m' ro', e1 m ro, ha]
  have inm : ∀ a, (∃ e ∈ m, e.1 = a) ↔ ∃ e ∈ m', e.1 = a := fun a => by
    have e1 : ∀ l : List (Addr × Cell), (∃ e ∈ l, e.1 = a) ↔ a ∈ l.map (·.1) := fun l => List.mem_map.symm
    rw [e1, e1, ha]
  have old : ∀ e ∈ A ++ toCl b m' ++ B, ∃ e0 ∈ y1.m, e0.a = e.a ∧ (e.own = true → e0.own = true) ∧ (e.c.isRo = false → e0.c.isRo = false) := fun e he => by
    obtain ⟨e', h1, h2, h3, h4⟩ := own_ao aoeq he
    exact ⟨e', h1, h2, fun z => h3.trans z, fun z => h4.trans z⟩
  have lv : ∀ a, Dom y1.m a → H' a ≠ none := fun a ⟨e, h1, h2⟩ z => by
    by_cases ha : ∃ e ∈ m, e.1 = a
    · obtain ⟨e', q1, q2⟩ := (inm a).mp ha
      exact (cs e' q1).live (q2 ▸ z)
    · cases r : H1 a with
      | none => exact (w1.cell e h1).live (h2 ▸ r)
      | some o => rw [kp a o (fun e he q => ha ⟨e, he, q⟩) r] at z; cases z
  have key := w1.store (m := A ++ toCl b m' ++ B) (H' := H') (fun a o n e => kp a o (fun e' he' z => n ⟨_, mem e' he', z, ro e' he'⟩) e) lv (fun e he => .inl (old e he))
    (by
      have p1 : ∀ l : List Cl, (l.Pairwise fun e e' => e.a ≠ e'.a) ↔ (l.map (·.a)).Pairwise (· ≠ ·) := fun l => by rw [List.pairwise_map]
      rw [p1, aeq, ← p1]
      exact w1.dist)
    (fun g e he => by
      by_cases hq : ∃ e' ∈ m', (⟨e'.1, b, e'.2⟩ : Cl) = e
      · obtain ⟨e', h1', rfl⟩ := hq
        refine (cs e' h1').go (fun a o n e => ⟨fun z => n ?_, e⟩) fun _ r => r
        rcases z with z | ⟨e2, h2, h3⟩
        · exact .inl z
        · obtain ⟨e0, q1, q2, _⟩ := old e2 h2
          exact .inr ⟨e0, q1, q2.trans h3⟩
      · have hAB : e ∈ A ∨ e ∈ B := by
          rcases List.mem_append.mp he with he | he
          · rcases List.mem_append.mp he with he | he
            · exact .inl he
            · obtain ⟨e', h1', rfl⟩ := List.mem_map.mp he
              exact absurd ⟨e', h1', rfl⟩ hq
          · exact .inr he
        have hy : e ∈ y1.m := by
          rw [em]
          rcases hAB with h | h
          · exact List.mem_append.mpr (.inl (List.mem_append.mpr (.inl h)))
          · exact List.mem_append.mpr (.inr h)
        refine (w1.cell e hy).go g fun o r => kp _ _ (fun e' he' z => ?_) r
        have m1 : (⟨e'.1, b, e'.2⟩ : Cl) ∈ toCl b m := List.mem_map.mpr ⟨e', he', rfl⟩
        rcases hAB with h | h
        · exact (List.pairwise_append.mp (List.pairwise_append.mp dist).1).2.2 e h _ m1 z.symm
        · exact (List.pairwise_append.mp dist).2.2 _ (List.mem_append.mpr (.inr m1)) e h z)
  exact k v H' (.d d) _ key.1 (g1.trans key.2) (s1.trans ⟨rfl, [], by rw [show ao ([] : List Cl) = [] from rfl, List.append_nil]; exact aoeq⟩) (sc_rp hs rv) (q d m' hq ha ro')
/-- the very thing, wherever it lies in the store -/
theorem wE_veryA {C : Ct} {y : S} {ts : TA} {E : XK} {Q : Z → S → Prop} (w : wZ C ts y fun zs y1 => ∃ z nw c A B b, zs = [z, z] ∧ Th z nw c ∧ VOk c ∧ y1.m = A ++ toCl b nw ++ B ∧ ∀ nw', Th z nw' c.gr → Q (.d (.bool true)) ⟨y1.l, A ++ toCl b nw' ++ B⟩) :
    wE C (tCall (vSp C.K) [] E ts) y Q := by
  refine wE_very (wZ_mono w fun zs y1 ⟨z, nw, c, A, B, b, e1, th, vo, em, q⟩ => ⟨z, nw, c, A.length, b, e1, th, vo, fun e he => ?_, fun nw' th' => ?_⟩)
  · cases th with
    | pl d => cases he
    | ls a ds => rw [List.mem_singleton] at he; subst he; rw [em]; simp [toCl]
    | dc a ds => rw [List.mem_singleton] at he; subst he; rw [em]; simp [toCl]
  · have h := q nw' th'
    cases th with
    | pl d =>
      cases th' with
      | pl _ => rw [show y1.m = A ++ toCl b [] ++ B from em]; exact h
    | ls a ds =>
      cases th' with
      | ls _ _ =>
        rw [em]
        show Q _ ⟨_, (A ++ [_] ++ B).set A.length _⟩
        rw [List.append_assoc, List.set_append_right _ _ (Nat.le_refl _), Nat.sub_self]
        simpa [toCl] using h
    | dc a ds =>
      cases th' with
      | dc _ _ =>
        rw [em]
        show Q _ ⟨_, (A ++ [_] ++ B).set A.length _⟩
        rw [List.append_assoc, List.set_append_right _ _ (Nat.le_refl _), Nat.sub_self]
        simpa [toCl] using h
end Ux

set_option maxRecDepth 100000
set_option maxHeartbeats 4000000
namespace Ux
open PySem PySem.Spec PyProof.Rows L2 Tq
/-! ### defs with one default, keywords -/
structure DfD (K : Fg) (mg : Str → Option Value) (x : Str) (st : Stmt) (ps : List Str) (dv : V) : Prop where
  ex : ∃ (f : Addr) (fd : FuncData), FunD K x x (defArgs st) (defBody st) (defScope st) [dv] [] f fd ∧ mg x = some (.ref f) ∧ Binds K fd ps [] ∧ (∃ ds, Vals [dv] ds ∧ Binds K fd ps ds) ∧
    ∀ (s : Shared) (us ws : List Value), K.In s.heap → us.length + 1 = ps.length → ws.length = 1 → BindsTo s fd ⟨us, (ps.drop us.length).zip ws⟩ (ps.zip (us ++ ws))
structure CalD (P : Program) (w : World) (K : Fg) (mg : Str → Option Value) (base : Heap) (k : Nat) (x : Str) (ps : List Str) (sp : Sp) (dv : V) : Prop where
  ex : ∃ (f : Addr) (fd : FuncData), Tq.FnG P w K mg base (L2.CX P w) k f fd ps sp ∧ mg x = some (.ref f) ∧ PySem.W.keepIn K (.ref f) = true ∧ Binds K fd ps [] ∧ (∃ ds, Vals [dv] ds ∧ Binds K fd ps ds) ∧
    ∀ (s : Shared) (us ws : List Value), K.In s.heap → us.length + 1 = ps.length → ws.length = 1 → BindsTo s fd ⟨us, (ps.drop us.length).zip ws⟩ (ps.zip (us ++ ws))
section
variable {P : Program} {w : World} {K : Fg} {mg : Str → Option Value} {base : Heap} {k : Nat} {x : Str} {ps N : List Str} {sp : Sp} {st : Stmt} {dv : V}
theorem okD (d : DfD K mg x st ps dv) (Sc : FnScope N ps (defScope st)) (len : ∀ vs H Q E, sp vs H Q E → vs.length = ps.length)
    (hbody : ∀ (f : Addr) (cdv : Value) (A : Around) (outer : List Env) (s : Shared) (H : Hp) (vs : List V) (Q : VK) (E : XK), Room k (A.deeper (envOfC x (defScope st) s.heap.objs.size f cdv)) →
      (A.deeper (envOfC x (defScope st) s.heap.objs.size f cdv)).guards = some [] → sp vs H Q E →
      ∃ t, PSs (cxOf (L2.CX P w) P w K mg base N x (defScope st) f cdv A outer s H E) (defBody st) t ∧ t { nx := fun _ G => Q .non G, rt := Q } (start N vs) H) : CalD P w K mg base (k + 1) x ps sp dv := by
  obtain ⟨f, fd, F, hm, hb⟩ := d.ex
  have kp := F.kp
  obtain ⟨oc, od, dV, kV, doc, pm, an, cdv, ct, osl, rfl, lk, hcd, _, _⟩ := F.ex
  exact ⟨f, _, Tq.fn_ofG lk hcd Sc len fun A outer s H vs Q E hr hgu hsp => hbody f cdv A outer s H vs Q E hr hgu hsp, hm, kp, hb⟩
theorem run_fnSD {X : Cx} {CX : CXT} {f : Addr} {fd : FuncData} {E : L2.St → XK} {pins : List (Addr × Obj)} {σ : L2.St} {H : Hp} {s : Shared} {Q : VK} {us all : List Value} {kw : List (Str × Value)} {vs : List V} (F : Tq.FnG X.prog X.w X.K X.mg X.base CX k f fd ps sp) (hr : Room k X.A) (hgu : X.A.guards = some []) (hx : PassesAt CX X σ (E σ))
    (I : Inv X pins σ H s) (r : Vals vs all) (b : BindsTo s fd ⟨us, kw⟩ (ps.zip all)) (h : sp vs H Q (E σ)) : wpAny (model X.prog X.w) X.A (call (.ref f) us kw) (EP X pins σ Q) X.xe s := by
  refine wpAny_call (codeAny_mono (F.run X.A X.stack s H ⟨us, kw⟩ all vs Q (E σ) hr hgu I.env0 b r h) fun r s' hq => ?_)
  cases r with
  | error e => exact hx pins H s e s' I hq
  | ok fl =>
    cases fl with
    | ret u => exact I.after hq
    | next => exact False.elim hq
    | brk => exact False.elim hq
    | cont => exact False.elim hq
/-- f(e, k = v) -/
theorem pe_calDk {X : Cx} {W : WX} {p pos : Pos} {e : Expr} {kws : List Keyword} {te tk2 : TE} {a b : Str} (c : CalD X.prog X.w X.K X.mg X.base k x [a, b] sp dv) (hr : Room k X.A) (hgu : X.A.guards = some []) (hg : Gl X x) (tk : Takes X W) (ha : PA X [e] (tCons te tNil)) (hkw : PK X kws (tCons tk2 tNil))
    (hall : (backToKw pos (keywordEach kws X.env)).all (·.1.isSome) = true := by rfl) (hks : (backToKw pos (keywordEach kws X.env)).filterMap (·.1) = [b] := by rfl)
    (hdb : (x == ("__debug__" : Str)) = false := by decide) (he : starEach [e] X.env = (false, eval e X.env) :: starEach [] X.env := by rfl)
    (hpl : ((backTo pos (starEach [e] X.env)).any (·.1) || (backToKw pos (keywordEach kws X.env)).any (·.1.isNone)) = false := by rfl) : PE X (.Call (.Name x p) [e] kws pos) (tCallS sp (WE W) (tCons te (tCons tk2 tNil))) := by
  obtain ⟨f, fd, F, hm, hk, _, _, hb⟩ := c.ex
  refine ⟨fun pins s σ H Q I h => ?_⟩
  refine wpAny_Call_Name_kw (ld_glob I hg hm ?_ hdb)
  have h' : tCons te tNil σ H fun vs H1 => tCons tk2 tNil σ H1 fun zs H2 => (∃ v, vs = [v]) ∧ (∃ u, zs = [u]) ∧ sp (vs ++ zs) H2 Q (WE W σ) := by
    show te σ H fun v H1 => tk2 σ H1 fun u H2 => (∃ v', [v] = [v']) ∧ (∃ u', [u] = [u']) ∧ sp [v, u] H2 Q (WE W σ)
    have h : te σ H fun v H1 => tk2 σ H1 fun u H2 => sp [v, u] H2 Q (WE W σ) := h
    have e1 : (fun (v : V) (H1 : Hp) => tk2 σ H1 fun u H2 => (∃ v', [v] = [v']) ∧ (∃ u', [u] = [u']) ∧ sp [v, u] H2 Q (WE W σ)) = fun v H1 => tk2 σ H1 fun u H2 => sp [v, u] H2 Q (WE W σ) := by
      funext v H1
      congr 1
      funext u H2
      exact propext ⟨fun z => z.2.2, fun z => ⟨⟨v, rfl⟩, ⟨u, rfl⟩, z⟩⟩
    rw [e1]
    exact h
  refine PySem.W.callWith_KW (h₀ := X.base) I.ok.mod.kin hk hall (thn (ha.run pos pins s σ H _ I h') fun us s1 ⟨vs, H1, I1, r, q⟩ => ?_) hpl he
  refine thn (hkw.run pos pins s1 σ H1 _ I1 q) fun ws s2 ⟨zs, H2, I2, rz, ⟨v, ev⟩, ⟨u, eu⟩, q2⟩ => ⟨I2.kIn, ?_⟩
  subst ev eu
  rw [hks]
  have l1 : us.length = 1 := r.length.symm
  have l2 : ws.length = 1 := rz.length.symm
  have bb := hb s2 us ws I2.kIn (by rw [l1]; rfl) l2
  rw [l1] at bb
  exact run_fnSD (E := WE W) F hr hgu (passAt tk σ) I2 (r.append rz) bb q2
end
theorem dfd_mk {K : Fg} {h : Heap} {mg : Str → Option Value} {x a b : Str} {st : Stmt} {f T : Addr} {od od2 an : Option Addr} {sl sl2 : Array (Option Value)} {oc oc2 kV dc pm cd ct du : Value} {dv : V} {n : Nat} (X : K.In h) (G : h.Ns mainGlobals mg) (rv : RelV dv du)
    (hb2 : ∀ (T : Addr) (kV doc pm : Value) (an : Option Addr) (cdv ct : Value) (us its : List Value), us.length = 2 → its.length = 1 → ∃ k, bindArgs (PySem.W.fnOf x x (defArgs st) (defBody st) (defScope st) (.ref T) kV doc pm an cdv ct) ⟨us, []⟩ = seqItems? (.ref T) >>= k ∧ k (some its.toArray) = pure ([a, b].zip us))
    (hb1 : ∀ (T : Addr) (kV doc pm : Value) (an : Option Addr) (cdv ct : Value) (us its : List Value), us.length = 1 → its.length = 1 → ∃ k, bindArgs (PySem.W.fnOf x x (defArgs st) (defBody st) (defScope st) (.ref T) kV doc pm an cdv ct) ⟨us, []⟩ = seqItems? (.ref T) >>= k ∧ k (some its.toArray) = pure ([a, b].zip (us ++ its)))
    (hbk : ∀ (T : Addr) (kV doc pm : Value) (an : Option Addr) (cdv ct : Value) (us ws its : List Value), us.length = 1 → ws.length = 1 → its.length = 1 → ∃ k, bindArgs (PySem.W.fnOf x x (defArgs st) (defBody st) (defScope st) (.ref T) kV doc pm an cdv ct) ⟨us, [b].zip ws⟩ = seqItems? (.ref T) >>= k ∧ k (some its.toArray) = pure ([a, b].zip (us ++ ws)))
    (ax : PySem.W.nsIn K mainGlobals x = some (some (.ref f))) (l : K.lookup f = some ⟨oc, od, .func (PySem.W.fnOf x x (defArgs st) (defBody st) (defScope st) (.ref T) kV dc pm an cd ct), sl⟩) (lT : K.lookup T = some ⟨oc2, od2, .seq [du].toArray n, sl2⟩)
    (c : PySem.W.codeIn K cd x = true) (k : PySem.W.keepIn K (.ref f) = true) : DfD K mg x st [a, b] dv := by
  have F : FunD K x x (defArgs st) (defBody st) (defScope st) [dv] [] f (PySem.W.fnOf x x (defArgs st) (defBody st) (defScope st) (.ref T) kV dc pm an cd ct) :=
    ⟨⟨oc, od, .ref T, kV, dc, pm, an, cd, ct, sl, rfl, l, c, .inr ⟨by simp, T, _, [du], n, rfl, lT, rfl, .cons rv .nil⟩, .inl rfl⟩, k⟩
  refine ⟨f, _, F, PySem.W.mg_of X G ax, ?_, ?_, ?_⟩
  · obtain ⟨ds, hv, hb⟩ := F.binds1 (ps := [a, b]) 2 1 (by simp) rfl (fun T kV doc pm an cdv ct us its h1 h2 => by
      obtain ⟨k, e1, e2⟩ := hb2 T kV doc pm an cdv ct us its h1 h2
      refine ⟨k, e1, ?_⟩
      rw [e2]
      match its, h2 with
      | [_], _ => simp)
    cases hv
    exact hb
  · obtain ⟨ds, hv, hb⟩ := F.binds1 (ps := [a, b]) 1 0 (by simp) rfl (fun T kV doc pm an cdv ct us its h1 h2 => hb1 T kV doc pm an cdv ct us its h1 h2)
    exact ⟨ds, hv, hb⟩
  · intro s us ws X l1 l2
    have l1 : us.length = 1 := by
      have : us.length + 1 = 2 := l1
      omega
    rw [l1]
    obtain ⟨k, e1, e2⟩ := hbk T kV dc pm an cd ct us ws [du] l1 l2 rfl
    refine BindsTo.of_looks fun M => ?_
    show PySem.W.Looks M s.heap (bindArgs _ ⟨us, [b].zip ws⟩) _
    rw [e1]
    exact looks_items X lT rfl (.of_pure e2)
/-! ### comprehensions of things told beforehand; lists taken apart -/
section
variable {C : Ct} {y : S} {ta tb tc te : TE} {tt : TT} {wi : TI} {Q : Z → S → Prop}
variable {g : TG} {Qg : S → Prop}
end
theorem Res.str {m : List Cl} {z : Z} {s : Str} (h : Res m z (.str s)) : z = .d (.str s) := by
  cases h with
  | d => rfl
  | lab _ hc => rcases hc.nsc with ⟨_, e⟩ | ⟨_, e⟩ <;> cases e
end Ux

set_option maxRecDepth 100000
set_option maxHeartbeats 4000000
namespace Ux
open PySem PySem.Spec PyProof.Rows L2 Tq
/-! ### defs that may raise and hand out things that are new -/
def xnSp (K : Fg) (n : Nat) (pre : List Z → List D → Prop) (post : List Z → List D → Z → List (Addr × Cell) → Prop) (xp : List Z → List D → Ex → Prop) : Sp := fun vs H Q E => ∃ (M : Addr → Prop) (m : List Cl) (zs : List Z) (ds : List D),
  (∀ a, M a → H a ≠ none) ∧ RwA K M H vs zs ∧ (∀ e ∈ m, M e.a ∧ CellOk K M H e.a e.c) ∧ (m.Pairwise fun e e' => e.a ≠ e'.a) ∧ ResA m zs ds ∧ zs.length = n ∧ pre zs ds ∧
  (∀ z nw v H', post zs ds z nw → (∀ a o, H a = some o → H' a = some o) → (∀ e ∈ nw, H e.1 = none) → (nw.Pairwise fun e e' => e.1 ≠ e'.1) → (∀ e ∈ nw, CellOk K (fun a => M a ∨ ∃ e ∈ nw, e.1 = a) H' e.1 e.2) → Rw K (fun a => M a ∨ ∃ e ∈ nw, e.1 = a) H' v z → Q v H') ∧
  (∀ ex a v H', xp zs ds ex → (∀ a o, H a = some o → H' a = some o) → H a = none → H' a = some (.xd [(keyZ ex.found, v)]) → Rw K M H' v (valZ ex.found) → E ex.cls (some a) H')
theorem xnSp_len {K : Fg} {n : Nat} {pre : List Z → List D → Prop} {post : List Z → List D → Z → List (Addr × Cell) → Prop} {xp : List Z → List D → Ex → Prop} {ps : List Str} (h : ps.length = n) : ∀ vs H Q E, xnSp K n pre post xp vs H Q E → vs.length = ps.length := by
  rintro vs H Q E ⟨M, m, zs, ds, _, r, _, _, _, l, _⟩
  rw [r.len, l, h]
section
variable {K : Fg} {N : List Str} {t : TS} {vs : List V} {H : Hp} {Q : VK} {E : XK} {n : Nat} {pre : List Z → List D → Prop} {post : List Z → List D → Z → List (Addr × Cell) → Prop} {xp : List Z → List D → Ex → Prop}
theorem xn_body (h : xnSp K n pre post xp vs H Q E) (b : ∀ m zs ds, zs.length = n → ResA m zs ds → pre zs ds → ∀ e : En, (∀ z nw y, post zs ds z nw → (∀ e ∈ nw, e.2.isRo = false) → (toCl true nw).Sublist y.m → e.rt z y) →
      wS { K := K, W := fun cls d _ H' => E cls d H', ex := fun ex _ => xp zs ds ex } t ⟨l0 N zs, m⟩ e) : t { nx := fun _ G => Q .non G, rt := Q } (start N vs) H := by
  obtain ⟨M, m, zs, ds, al, r, cs, pw, rs, l, hp, k1, k2⟩ := h
  have hM : ∀ {a : Addr} {σ : St} {l : List (Option Z)}, Mv ⟨H, fun _ => False, M, true⟩ σ ⟨l, roM m⟩ a → M a := fun {a σ l} z => z.elim (fun z => z) fun q => by
    obtain ⟨e, q1, q2⟩ := dom_roM.mp q
    exact q2 ▸ (cs e q1).1
  have gM : GoH M H (Mv ⟨H, fun _ => False, M, true⟩ (start N vs) ⟨l0 N zs, roM m⟩) H := fun a o na e => ⟨fun z => na (hM z), e⟩
  refine b (roM m) zs ds l rs.rom hp { nx := fun _ => False, rt := fun z y => ∃ nw, post zs ds z nw ∧ (∀ e ∈ nw, e.2.isRo = false) ∧ (toCl true nw).Sublist y.m } (fun z nw y q1 q2 q3 => ⟨nw, q1, q2, q3⟩) ⟨H, fun _ => False, M, true⟩ (start N vs) H _ rfl
    ⟨⟨fun a o _ e => e, al, al, l0_len r, fun i z e => ?_, fun e he => ?_, ?_, fun e he hr => ?_, fun a z => z.elim, fun _ e he ho => ?_⟩, fun σ' y' H' ex cls d w g x q => ?_⟩
    ⟨fun _ _ _ _ _ q => q.elim, fun σ' v H' z y' w g rz q => ?_, fun _ _ _ _ _ q => q.elim, fun _ _ _ _ _ q => q.elim⟩
  · obtain ⟨x, h1, h2⟩ := l0_slot r e
    exact ⟨x, h1, h2.go gM⟩
  · obtain ⟨e', q1, rfl⟩ := List.mem_map.mp he
    exact toRo_ok ((cs e' q1).2.go gM fun _ q => q)
  · unfold roM
    rw [List.pairwise_map]
    exact pw
  · obtain ⟨e', q1, rfl⟩ := List.mem_map.mp he
    rw [toRo_ro] at hr; cases hr
  · obtain ⟨e', q1, rfl⟩ := List.mem_map.mp he
    cases ho
  · obtain ⟨rfl, a, v, rfl, x1, x2, x3, x4⟩ := x
    exact k2 ex a v H' q (fun a o e => w.keep a o (fun z => z) e) x3 x1 (x4.go fun a o n e => ⟨fun z => n (.inl z), e⟩)
  · obtain ⟨nw, q1, q0, q2⟩ := q
    have mem : ∀ e ∈ nw, (⟨e.1, true, e.2⟩ : Cl) ∈ y'.m := fun e he => q2.subset (List.mem_map.mpr ⟨e, he, rfl⟩)
    have gM' : GoH (Mv ⟨H, fun _ => False, M, true⟩ σ' y') H' (fun a => M a ∨ ∃ e ∈ nw, e.1 = a) H' := fun a o n e => ⟨fun z => n (z.elim .inl fun ⟨e', h1, h2⟩ => .inr ⟨_, mem e' h1, h2⟩), e⟩
    refine k1 z nw v H' q1 (fun a o e => w.keep a o (fun z => z) e) (fun e he => ?_) ?_ (fun e he => (w.cell _ (mem e he)).go gM' fun _ q => q) (rz.w.go gM')
    · rcases w.frsh _ (mem e he) (q0 e he) with q | q
      · exact q.elim
      · exact q
    · have := w.dist.sublist q2
      unfold toCl at this
      rw [List.pairwise_map] at this
      exact this
end
section
variable {C : Ct} {y : S} {ts : TA} {te : TE} {Q : Z → S → Prop} {n : Nat} {pre : List Z → List D → Prop} {post : List Z → List D → Z → List (Addr × Cell) → Prop} {xp : List Z → List D → Ex → Prop} {e : En} {E : XK}
theorem xn_call {y1 : S} {F : Fr} {σ : St} {H1 H2 : Hp} {nw : List (Addr × Cell)} (w1 : Wd C F σ y1 H1) (gr : ∀ a o, H1 a = some o → H2 a = some o) (fr : ∀ e ∈ nw, H1 e.1 = none) (pw : nw.Pairwise fun e e' => e.1 ≠ e'.1)
    (cs : ∀ e ∈ nw, CellOk C.K (fun a => Mv F σ y1 a ∨ ∃ e ∈ nw, e.1 = a) H2 e.1 e.2) : Wd C F σ ⟨y1.l, y1.m ++ toCl true nw⟩ H2 ∧ Go F σ y1 H1 σ ⟨y1.l, y1.m ++ toCl true nw⟩ H2 :=
  w1.store (m := y1.m ++ toCl true nw) (H' := H2) (fun a o _ e => gr a o e)
    (fun a ⟨e, h1, h2⟩ z => by
      cases r : H1 a with
      | none => exact (w1.cell e h1).live (h2 ▸ r)
      | some o => rw [gr a o r] at z; cases z)
    (fun e he => by
      rcases List.mem_append.mp he with he | he
      · exact .inl ⟨e, he, rfl, fun z => z, fun z => z⟩
      · obtain ⟨e', h1, rfl⟩ := List.mem_map.mp he
        exact .inr (fr e' h1))
    (by
      rw [List.pairwise_append]
      refine ⟨w1.dist, by unfold toCl; rw [List.pairwise_map]; exact pw, fun e he e2 he2 z => ?_⟩
      obtain ⟨e', h1', rfl⟩ := List.mem_map.mp he2
      exact (w1.cell e he).live (by rw [z]; exact fr e' h1'))
    (fun g e he => by
      rcases List.mem_append.mp he with he | he
      · exact (w1.cell e he).go g fun o r => gr _ _ r
      · obtain ⟨e', h1', rfl⟩ := List.mem_map.mp he
        refine (cs e' h1').go (fun a o n e => ⟨fun z => n ?_, e⟩) fun _ r => r
        rcases z with z | ⟨e2, h2, h3⟩
        · exact .inl (.inl z)
        · rcases List.mem_append.mp h2 with h2 | h2
          · exact .inl (.inr ⟨e2, h2, h3⟩)
          · obtain ⟨e3, h4, rfl⟩ := List.mem_map.mp h2
            exact .inr ⟨e3, h4, h3⟩)
theorem xn_rw {y1 : S} {F : Fr} {σ : St} {H2 : Hp} {nw : List (Addr × Cell)} {v : V} {z : Z} (rv : Rw C.K (fun a => Mv F σ y1 a ∨ ∃ e ∈ nw, e.1 = a) H2 v z) : Rw C.K (Mv F σ ⟨y1.l, y1.m ++ toCl true nw⟩) H2 v z := by
  refine rv.go fun a o n e => ⟨fun z => n ?_, e⟩
  rcases z with z | ⟨e2, h2, h3⟩
  · exact .inl (.inl z)
  · rcases List.mem_append.mp h2 with h2 | h2
    · exact .inl (.inr ⟨e2, h2, h3⟩)
    · obtain ⟨e3, h4, rfl⟩ := List.mem_map.mp h2
      exact .inr ⟨e3, h4, h3⟩
theorem wE_xn (w : wZ C ts y fun zs y1 => ∃ ds, ResA y1.m zs ds ∧ (zs.length = n ∧ pre zs ds) ∧ (∀ z nw, post zs ds z nw → Q z ⟨y1.l, y1.m ++ toCl true nw⟩) ∧ ∀ ex, xp zs ds ex → C.ex ex y1) : wE C (tCallS (xnSp C.K n pre post xp) (WE C.W) ts) y Q := by
  intro F σ H K wd k
  refine w F σ H _ wd fun vs H1 zs y1 w1 g1 s1 r1 ⟨ds, hr, ⟨hn, hp⟩, q, x⟩ => ?_
  refine ⟨Mv F σ y1, y1.m, zs, ds, fun a m e => w1.new e m, r1, fun e he => ⟨.inr ⟨e, he, rfl⟩, w1.cell e he⟩, w1.dist, hr, hn, hp, fun z nw v H2 hz gr fr pw cs rv => ?_, fun ex a v H2 hx gr ha ha2 rv => ?_⟩
  · obtain ⟨w2, g2⟩ := xn_call w1 gr fr pw cs
    exact k v H2 z _ w2 (g1.trans g2) (s1.trans ⟨rfl, toCl true nw, by unfold ao; rw [List.map_append]⟩) (Rw.z (xn_rw rv)) (q z nw hz)
  · exact w1.xk σ y1 H2 ex ex.cls (some a) (w1.grow gr).toWd0 (go_grow gr) ⟨rfl, a, v, rfl, ha2, w1.new ha, w1.newH0 ha, rv⟩ (x ex hx)
abbrev anSp (K : Fg) (n : Nat) (pre : List Z → List D → Prop) (post : List Z → List D → Z → List (Addr × Cell) → Prop) : Sp := xnSp K n pre post fun _ _ _ => False
theorem wE_an (w : wZ C ts y fun zs y1 => ∃ ds, ResA y1.m zs ds ∧ (zs.length = n ∧ pre zs ds) ∧ (∀ z nw, post zs ds z nw → Q z ⟨y1.l, y1.m ++ toCl true nw⟩)) : wE C (tCall (anSp C.K n pre post) [] E ts) y Q := by
  intro F σ H K wd k
  refine w F σ H _ wd fun vs H1 zs y1 w1 g1 s1 r1 ⟨ds, hr, ⟨hn, hp⟩, q⟩ => ?_
  show anSp C.K n pre post (vs ++ []) H1 K E
  rw [List.append_nil]
  refine ⟨Mv F σ y1, y1.m, zs, ds, fun a m e => w1.new e m, r1, fun e he => ⟨.inr ⟨e, he, rfl⟩, w1.cell e he⟩, w1.dist, hr, hn, hp, fun z nw v H2 hz gr fr pw cs rv => ?_, fun ex a v H2 hx => hx.elim⟩
  obtain ⟨w2, g2⟩ := xn_call w1 gr fr pw cs
  exact k v H2 z _ w2 (g1.trans g2) (s1.trans ⟨rfl, toCl true nw, by unfold ao; rw [List.map_append]⟩) (Rw.z (xn_rw rv)) (q z nw hz)
end
/-! ### an own list is frozen -/
theorem wS_frzA {C : Ct} {t : TS} {y : S} {e : En} (i : Nat) {p : Addr} {ds : List D} {A B : List Cl} (hi : y.l[i]? = some (some (.lab p))) (hm : y.m = A ++ ⟨p, true, .lst (ds.map Z.d)⟩ :: B) (w : wS C t ⟨y.l.set i (some (.d (.list ds))), A ++ B⟩ e) : wS C t y e := by
  intro F σ H E st wd k
  obtain ⟨yl, ym⟩ := y
  have hm : ym = A ++ ⟨p, true, .lst (ds.map Z.d)⟩ :: B := hm
  subst hm
  have pm : (⟨p, true, .lst (ds.map Z.d)⟩ : Cl) ∈ A ++ ⟨p, true, .lst (ds.map Z.d)⟩ :: B := List.mem_append.mpr (.inr List.mem_cons_self)
  have hs : (A ++ B).Sublist (A ++ ⟨p, true, .lst (ds.map Z.d)⟩ :: B) := List.Sublist.append_left (List.sublist_cons_self _ _) A
  have nS : ¬ F.S0 p := wd.nb st _ pm rfl
  have h0 : F.H0 p = none := by
    rcases wd.frsh _ pm rfl with q | q
    · exact absurd q nS
    · exact q
  have nM : ¬ F.M0 p := fun z => wd.live0 p z h0
  have dist := wd.dist
  have nAB : ∀ e ∈ A ++ B, e.a ≠ p := by
    have d := List.pairwise_append.mp dist
    intro e he
    rcases List.mem_append.mp he with he | he
    · exact d.2.2 e he _ List.mem_cons_self
    · exact fun z => (List.pairwise_cons.mp d.2.1).1 e he z.symm
  have sub : ∀ {l : List (Option Z)} {a : Addr}, Mv F σ ⟨l, A ++ B⟩ a → Mv F σ ⟨yl, A ++ ⟨p, true, .lst (ds.map Z.d)⟩ :: B⟩ a := fun z => z.elim .inl fun ⟨e, h1, h2⟩ => .inr ⟨e, hs.subset h1, h2⟩
  have g : Go F σ ⟨yl, A ++ ⟨p, true, .lst (ds.map Z.d)⟩ :: B⟩ H σ ⟨yl.set i (some (.d (.list ds))), A ++ B⟩ H := fun a o n e => ⟨fun z => n (sub z), e⟩
  have np : ¬ Mv F σ ⟨yl.set i (some (.d (.list ds))), A ++ B⟩ p := fun z => z.elim nM fun ⟨e, h1, h2⟩ => nAB e h1 h2
  obtain ⟨xs, c1, c2⟩ := (wd.cell _ pm : CellOk C.K _ H p (.lst (ds.map Z.d)))
  refine w F σ H E st (wd.to ⟨wd.keep, wd.live0, wd.live, by show σ.length = (yl.set i _).length; rw [List.length_set]; exact wd.len, fun j z e => ?_, fun e he => (wd.cell e (hs.subset he)).go g fun _ q => q, dist.sublist hs, fun e he => wd.frsh e (hs.subset he), wd.sm, fun st e he => wd.nb st e (hs.subset he)⟩ g) (k.go g)
  have e' : (yl.set i (some (.d (.list ds))))[j]? = some (some z) := e
  by_cases n : j = i
  · subst n
    have hl := (List.getElem?_eq_some_iff.mp (show yl[j]? = _ from hi)).1
    rw [List.getElem?_set_self hl] at e'
    cases e'
    obtain ⟨x, h1, h2⟩ := wd.slot j _ hi
    cases h2
    exact ⟨_, h1, .d (.lst (.inl ⟨np, .inl c1⟩) (c2.go g).ds)⟩
  · rw [List.getElem?_set_ne (Ne.symm n)] at e'
    obtain ⟨x, h1, h2⟩ := wd.slot j z e'
    exact ⟨x, h1, h2.go g⟩
end Ux
namespace Ux
open PySem PySem.Spec PyProof.Rows L2 Tq
section
variable {C : Ct} {y : S} {te : TE} {Qi : List D → S → Prop}
end
end Ux
namespace Ux
theorem at_end {α : Type} (A : List α) (c : α) : (A ++ [c])[A.length]? = some c := by simp
theorem set_at_end {α : Type} (A : List α) (c d : α) : (A ++ [c]).set A.length d = A ++ [d] := by simp [List.set_append_right]
end Ux
namespace Ux
open PySem PySem.Spec PyProof.Rows L2 Tq
end Ux
namespace Ux
open PySem PySem.Spec PyProof.Rows L2 Tq
/-! ### lists of our own: made by +, list(..); read by slices, len, tuple(..), reversed -/
def rCatL (K : Fg) : R2 := rCatG K
def rSlLab (K : Fg) : V → Option Int → Option Int → Hp → VK → Prop := rSlD K
def tLenL (K : Fg) (t : TA) : TE := tCB (rLenD K) t
def tListL (K : Fg) (t : TA) : TE := tCB (rListD K) t
def tTupL (K : Fg) (t : TA) : TE := tCB (rTupD K) t
section
variable {X : Cx} (K : Fg)
end
section
variable {C : Ct} {y : S} {ta tb te : TE} {tl th : TO} {Q : Z → S → Prop}
theorem xE_catL (w : wE C ta y fun z y1 => wE C tb y1 fun z' y2 => ∃ xs zs, lstZ z = some xs ∧ lstZ z' = some zs ∧ xs.length + zs.length ≤ sizeLine ∧ ∀ p, Q (.lab p) ⟨y2.l, y2.m ++ [⟨p, true, .lst (xs ++ zs)⟩]⟩) : wE C (tOp (rCatL C.K) ta tb) y Q := by
  intro F σ H K wd k
  refine w F σ H _ wd fun x H1 z y1 w1 g1 s1 r1 q1 => ?_
  refine q1 F σ H1 _ w1 fun x2 H2 z' y2 w2 g2 s2 r2 q2 => ?_
  obtain ⟨xs, zs, e1, e2, hl, hq⟩ := q2
  obtain ⟨a, us, rfl, h1, h2⟩ := rw_lst (r1.w.go g2) e1
  obtain ⟨b, vs, rfl, h3, h4⟩ := rw_lst r2.w e2
  refine ⟨a, b, us, vs, rfl, rfl, h1.sq, h3.sq, by rw [h2.len, h4.len]; exact hl, fun p hp => ?_⟩
  obtain ⟨w3, g3, s3⟩ := w2.cnew (o := .lst (us ++ vs)) (c := .lst (xs ++ zs)) (b := true) hp fun M g => ⟨us ++ vs, upd_same, (h2.app h4).go g⟩
  exact k _ _ (.lab p) _ w3 ((g1.trans g2).trans g3) ((s1.trans s2).trans s3) (.lab p) (hq p)
/-- a list of ours, as it is at present -/
theorem lab_lst {F : Fr} {σ : St} {H : Hp} {v : V} {p : Addr} {b : Bool} {j : Nat} {zs : List Z} (wd : Wd C F σ y H) (r : Rz C F σ y H v (.lab p)) (hj : y.m[j]? = some ⟨p, b, .lst zs⟩) : v = .ref p ∧ ∃ xs, H p = some (.lst xs) ∧ RwA C.K (Mv F σ y) H xs zs := by
  cases r
  obtain ⟨xs, c1, c2⟩ := (wd.cell _ (List.mem_of_getElem? hj) : CellOk C.K (Mv F σ y) H p (.lst zs))
  exact ⟨rfl, xs, c1, c2⟩
theorem xE_lenL (w : wE C te y fun z y1 => ∃ (p : Addr) (b : Bool) (j : Nat) (zs : List Z), z = .lab p ∧ y1.m[j]? = some (⟨p, b, .lst zs⟩ : Cl) ∧ Q (.d (.int zs.length)) y1) : wE C (tLenL C.K (tCons te tNil)) y Q := by
  intro F σ H K wd k
  refine w F σ H _ wd fun x H1 z y1 w1 g1 s1 r1 q1 => ?_
  obtain ⟨p, b, j, zs, rfl, hj, hq⟩ := q1
  obtain ⟨rfl, xs, c1, c2⟩ := lab_lst w1 r1 hj
  exact ⟨_, zs.length, rfl, .inl ⟨xs, .inl (.inl c1), c2.len.symm⟩, k _ H1 (.d (.int zs.length)) y1 w1 g1 s1 (.int _) hq⟩
theorem xE_listL (w : wE C te y fun z y1 => ∃ d xs, z = .d d ∧ dItems d = some xs ∧ ∀ p, Q (.lab p) ⟨y1.l, y1.m ++ [⟨p, true, .lst (xs.map Z.d)⟩]⟩) : wE C (tListL C.K (tCons te tNil)) y Q := by
  intro F σ H K wd k
  refine w F σ H _ wd fun x H1 z y1 w1 g1 s1 r1 q1 => ?_
  obtain ⟨d, xs, rfl, hx, hq⟩ := q1
  obtain ⟨a, us, rfl, h1, h2⟩ := rp_items r1 hx
  refine ⟨a, us, rfl, h1.elim (fun z => .inl z.sq) (fun z => .inr z.sq), fun p hp => ?_⟩
  obtain ⟨w2, g2, s2⟩ := w1.cnew (o := .lst us) (c := .lst (xs.map Z.d)) (b := true) hp fun M g => ⟨us, upd_same, (RwA.of h2).go g⟩
  exact k _ _ (.lab p) _ w2 (g1.trans g2) (s1.trans s2) (.lab p) (hq p)
theorem xE_tupL (w : wE C te y fun z y1 => ∃ (p : Addr) (b : Bool) (j : Nat) (ds : List D), z = .lab p ∧ y1.m[j]? = some (⟨p, b, .lst (ds.map Z.d)⟩ : Cl) ∧ Q (.d (.tuple ds)) y1) : wE C (tTupL C.K (tCons te tNil)) y Q := by
  intro F σ H K wd k
  refine w F σ H _ wd fun x H1 z y1 w1 g1 s1 r1 q1 => ?_
  obtain ⟨p, b, j, ds, rfl, hj, hq⟩ := q1
  obtain ⟨rfl, xs, c1, c2⟩ := lab_lst w1 r1 hj
  refine ⟨p, xs, rfl, .inl ⟨.inl (.inl c1), fun l hl => ?_⟩⟩
  have gr := grow_upd (o := .tup xs) hl
  exact k _ _ (.d (.tuple ds)) y1 (w1.grow gr) (g1.trans (go_grow gr)) s1 (.tup (.inl ⟨w1.new hl, .inl upd_same⟩) (c2.ds.go (go_grow (F := F) (σ := σ) (y := y1) gr))) hq
theorem xE_slL (w : wE C te y fun z y1 => wO C tl y1 fun l y2 => wO C th y2 fun h y3 => ∃ (p : Addr) (b : Bool) (j : Nat) (ds : List D), z = .lab p ∧ y3.m[j]? = some (⟨p, b, .lst (ds.map Z.d)⟩ : Cl) ∧ Q (.d (.list (cutD ds l h))) y3) : wE C (tSl (rSlLab C.K) te tl th) y Q := by
  intro F σ H K wd k
  refine w F σ H _ wd fun x H1 z y1 w1 g1 s1 r1 q1 => ?_
  refine q1 F σ H1 _ w1 fun l H2 y2 w2 g2 s2 q2 => ?_
  refine q2 F σ H2 _ w2 fun h H3 y3 w3 g3 s3 q3 => ?_
  obtain ⟨p, b, j, ds, rfl, hj, hq⟩ := q3
  have r3 : Rz C F σ y3 H3 x (.lab p) := Rz.go (g2.trans g3) r1
  obtain ⟨rfl, xs, c1, c2⟩ := lab_lst w3 r3 hj
  refine .inl ⟨p, xs, rfl, .inl (.inl c1), fun q hp => ?_⟩
  have gr := grow_upd (o := .lst (cutV xs l h)) hp
  exact k _ _ (.d (.list (cutD ds l h))) y3 (w3.grow gr) (((g1.trans g2).trans g3).trans (go_grow gr)) ((s1.trans s2).trans s3) (.lst (.inl ⟨w3.new hp, .inl upd_same⟩) ((rpA_cut c2.ds l h).go (go_grow (F := F) (σ := σ) (y := y3) gr))) hq
end
/-! ### draws with further arguments that hand out things that are new -/
def oaSp (K : Fg) (n : Nat) (pre : List D → Prop) (cost : Nat) (post : List D → Z → List (Addr × Cell) → Prop) : Sp := fun vs H Q _ => ∃ (M : Addr → Prop) (p : Addr) (m : Nat) (us : List V) (ds : List D), vs = .ref p :: us ∧ M p ∧ (∀ a, M a → H a ≠ none) ∧ PuOk H p m ∧ cost ≤ m ∧ RpA K M H us ds ∧ ds.length = n ∧ pre ds ∧
  ∀ z nw v H', post ds z nw → (∀ a o, a ≠ p → H a = some o → H' a = some o) → PuOk H' p (m - cost) → (∀ e ∈ nw, H e.1 = none) → (nw.Pairwise fun e e' => e.1 ≠ e'.1) →
    (∀ e ∈ nw, CellOk K (fun a => M a ∨ ∃ e ∈ nw, e.1 = a) H' e.1 e.2) → Rw K (fun a => M a ∨ ∃ e ∈ nw, e.1 = a) H' v z → Q v H'
theorem oa_call {C : Ct} {F : Fr} {σ : St} {y : S} {H H' : Hp} {p : Addr} {b : Bool} {m0 k : Nat} {j : Nat} {nw : List (Addr × Cell)} (wd : Wd C F σ y H) (hj : y.m[j]? = some ⟨p, b, .pu m0⟩) (kp : ∀ a o, a ≠ p → H a = some o → H' a = some o) (pk : PuOk H' p k) (fr : ∀ e ∈ nw, H e.1 = none) (pw : nw.Pairwise fun e e' => e.1 ≠ e'.1)
    (cs : ∀ e ∈ nw, CellOk C.K (fun a => Mv F σ y a ∨ ∃ e ∈ nw, e.1 = a) H' e.1 e.2) : Wd C F σ ⟨y.l, y.m.set j ⟨p, b, .pu k⟩ ++ toCl true nw⟩ H' ∧ Go F σ y H σ ⟨y.l, y.m.set j ⟨p, b, .pu k⟩ ++ toCl true nw⟩ H' ∧ Sh y ⟨y.l, y.m.set j ⟨p, b, .pu k⟩ ++ toCl true nw⟩ ∧
      ∀ {v : V} {z : Z}, Rw C.K (fun a => Mv F σ y a ∨ ∃ e ∈ nw, e.1 = a) H' v z → Rw C.K (Mv F σ ⟨y.l, y.m.set j ⟨p, b, .pu k⟩ ++ toCl true nw⟩) H' v z := by
  have hmm : (⟨p, b, .pu m0⟩ : Cl) ∈ y.m := List.mem_of_getElem? hj
  have pd : DomW y.m p := ⟨_, hmm, rfl, rfl⟩
  have lvp : H' p ≠ none := by
    obtain ⟨x, b, c, e, _⟩ := pk
    rw [e]; simp
  have inset : ∀ e ∈ y.m.set j ⟨p, b, .pu k⟩, e.a = p → e = ⟨p, b, .pu k⟩ := fun e he hq => by
    obtain ⟨i', hi'⟩ := List.getElem?_of_mem he
    have pws := pw_set wd.dist hj (e' := ⟨p, b, .pu k⟩) rfl
    obtain ⟨hl, _⟩ := List.getElem?_eq_some_iff.mp hj
    have hjj : (y.m.set j ⟨p, b, .pu k⟩)[j]? = some ⟨p, b, .pu k⟩ := List.getElem?_set_self hl
    by_cases n : i' = j
    · subst n; rw [hjj] at hi'; cases hi'; rfl
    · exfalso
      rw [List.pairwise_iff_getElem] at pws
      obtain ⟨hi1, hi2⟩ := List.getElem?_eq_some_iff.mp hi'
      obtain ⟨hj1, hj2⟩ := List.getElem?_eq_some_iff.mp hjj
      rcases Nat.lt_or_gt_of_ne n with n | n
      · have := pws i' j hi1 hj1 n; rw [hi2, hj2] at this; exact this hq
      · have := pws j i' hj1 hi1 n; rw [hi2, hj2] at this; exact this hq.symm
  have old : ∀ e ∈ y.m.set j ⟨p, b, .pu k⟩, ∃ e0 ∈ y.m, e0.a = e.a ∧ (e.own = true → e0.own = true) ∧ (e.c.isRo = false → e0.c.isRo = false) := fun e he => by
    rcases mem_set_or he with he | he
    · subst he; exact ⟨_, hmm, rfl, fun z => z, fun _ => rfl⟩
    · exact ⟨e, he, rfl, fun z => z, fun z => z⟩
  have mvs : ∀ a, Mv F σ ⟨y.l, y.m.set j ⟨p, b, .pu k⟩ ++ toCl true nw⟩ a → Mv F σ y a ∨ ∃ e ∈ nw, e.1 = a := fun a z => by
    rcases z with z | ⟨e2, h2, h3⟩
    · exact .inl (.inl z)
    · rcases List.mem_append.mp h2 with h2 | h2
      · obtain ⟨e0, q1, q2, _⟩ := old e2 h2
        exact .inl (.inr ⟨e0, q1, q2.trans h3⟩)
      · obtain ⟨e3, h4, rfl⟩ := List.mem_map.mp h2
        exact .inr ⟨e3, h4, h3⟩
  have key := wd.store (m := y.m.set j ⟨p, b, .pu k⟩ ++ toCl true nw) (H' := H') (fun a o n e => kp a o (fun z => n (z ▸ pd)) e)
    (fun a ⟨e, h1, h2⟩ z => by
      by_cases ha : a = p
      · exact lvp (ha ▸ z)
      · cases r : H a with
        | none => exact (wd.cell e h1).live (h2 ▸ r)
        | some o => rw [kp a o ha r] at z; cases z)
    (fun e he => by
      rcases List.mem_append.mp he with he | he
      · exact .inl (old e he)
      · obtain ⟨e', h1, rfl⟩ := List.mem_map.mp he
        exact .inr (fr e' h1))
    (by
      rw [List.pairwise_append]
      refine ⟨pw_set wd.dist hj rfl, by unfold toCl; rw [List.pairwise_map]; exact pw, fun e he e2 he2 z => ?_⟩
      obtain ⟨e', h1', rfl⟩ := List.mem_map.mp he2
      obtain ⟨e0, q1, q2, _⟩ := old e he
      exact (wd.cell e0 q1).live (by rw [q2, z]; exact fr e' h1'))
    (fun g e he => by
      rcases List.mem_append.mp he with he | he
      · by_cases hq : e.a = p
        · rw [inset e he hq]; exact pk
        · rcases mem_set_or he with he | he
          · subst he; exact absurd rfl hq
          · exact (wd.cell e he).go g fun o r => kp _ _ hq r
      · obtain ⟨e', h1', rfl⟩ := List.mem_map.mp he
        exact (cs e' h1').go (fun a o n e => ⟨fun z => n (mvs a z), e⟩) fun _ r => r)
  refine ⟨key.1, key.2, ⟨rfl, toCl true nw, ?_⟩, fun rv => rv.go fun a o n e => ⟨fun z => n (mvs a z), e⟩⟩
  show ao (y.m.set j ⟨p, b, .pu k⟩ ++ toCl true nw) = ao y.m ++ ao (toCl true nw)
  unfold ao
  rw [List.map_append]
  congr 1
  apply List.ext_getElem?
  intro i'
  by_cases n : i' = j
  · subst n
    obtain ⟨hl, _⟩ := List.getElem?_eq_some_iff.mp hj
    rw [List.getElem?_map, List.getElem?_map, List.getElem?_set_self hl, hj]
    rfl
  · rw [List.getElem?_map, List.getElem?_map, List.getElem?_set_ne (Ne.symm n)]
theorem wE_oa {C : Ct} {y : S} {ts : TA} {E : XK} {Q : Z → S → Prop} {n : Nat} {pre : List D → Prop} {cost : Nat} {post : List D → Z → List (Addr × Cell) → Prop}
    (w : wZ C ts y fun zs y1 => ∃ (p : Addr) (ds : List D) (j : Nat) (b : Bool) (m0 : Nat), zs = .lab p :: ds.map Z.d ∧ y1.m[j]? = some (⟨p, b, .pu m0⟩ : Cl) ∧ cost ≤ m0 ∧ ds.length = n ∧ pre ds ∧ ∀ z nw, post ds z nw → Q z ⟨y1.l, y1.m.set j ⟨p, b, .pu (m0 - cost)⟩ ++ toCl true nw⟩) : wE C (tCall (oaSp C.K n pre cost post) [] E ts) y Q := by
  intro F σ H K wd k
  refine w F σ H _ wd fun vs H1 zs y1 w1 g1 s1 r1 ⟨p, ds, j, b, m0, e1, hj, hm, hn, hp, q⟩ => ?_
  subst e1
  cases r1 with | @cons v _ us _ ra rb =>
  cases ra
  have hmm : (⟨p, b, .pu m0⟩ : Cl) ∈ y1.m := List.mem_of_getElem? hj
  show oaSp C.K n pre cost post ((.ref p :: us) ++ []) H1 K E
  rw [List.append_nil]
  refine ⟨Mv F σ y1, p, m0, us, ds, rfl, .inr ⟨_, hmm, rfl⟩, fun a m e => w1.new e m, w1.cell _ hmm, hm, rb.ds, hn, hp, fun z nw v H' hz kp pk fr pw cs rv => ?_⟩
  obtain ⟨w2, g2, s2, rw2⟩ := oa_call w1 hj kp pk fr pw cs
  exact k v H' z _ w2 (g1.trans g2) (s1.trans s2) (Rw.z (rw2 rv)) (q z nw hz)
end Ux
namespace Ux
theorem Less.trans {a b c : S} (h : Less a b) (h' : Less b c) : Less a c := ⟨h.1.trans h'.1, fun i z e => h'.2.1 i z (h.2.1 i z e), h.2.2.trans h'.2.2⟩
end Ux

set_option maxRecDepth 100000
set_option maxHeartbeats 4000000
namespace Ux
open PySem PySem.Spec PyProof.Rows L2 Tq
def tReprRX (K : Fg) (t : TA) : TE := tCB (rReprX K) t
theorem zPX {X : Cx} {e : Expr} {K : Fg} {t : TA} (h : PE X e (tCB (rReprX K) t)) : PE X e (tReprRX K t) := h
section
variable {C : Ct} {y : S} {te : TE} {Q : Z → S → Prop}
theorem wE_reprX (w : wE C te y fun z y1 => ∃ d, z = .d d ∧ ShX d ∧ Q (.d (.str d.shown)) y1) : wE C (tCB (rReprX C.K) (tCons te tNil)) y Q := by
  intro F σ H K wd k
  refine w F σ H _ wd fun x H1 z y1 w1 g1 s1 r1 q1 => ?_
  obtain ⟨d, rfl, ⟨h1, h2, h3⟩, h⟩ := q1
  exact ⟨x, d, rfl, Rp.any r1, h1, h2, h3, k _ H1 (.d (.str d.shown)) y1 w1 g1 s1 (.str _) h⟩
theorem xE_reprRX (w : wE C te y fun z y1 => ∃ d, Res y1.m z d ∧ ShX d ∧ Q (.d (.str d.shown)) y1) : wE C (tReprRX C.K (tCons te tNil)) y Q := by
  intro F σ H K wd k
  refine w F σ H _ wd fun x H1 z y1 w1 g1 s1 r1 q1 => ?_
  obtain ⟨d, hr, ⟨h1, h2, h3⟩, h⟩ := q1
  exact ⟨x, d, rfl, (hr.rp w1.toWd0 r1.w).any, h1, h2, h3, k _ H1 (.d (.str d.shown)) y1 w1 g1 s1 (.str _) h⟩
end
end Ux

set_option maxRecDepth 100000
set_option maxHeartbeats 4000000
/-! ### defs that raise nothing, called in an except suite -/
namespace Ux
open PySem PySem.Spec PyProof.Rows L2 Tq
/-- room where an exception may be handled -/
structure RoomW (k : Nat) (A : Around) : Prop where
  dp : A.depth + 3 * k + 5 < recursionLimit
  un : A.units + 16 * k + 200 < cLine
theorem RoomW.mono {j k : Nat} {A : Around} (r : RoomW k A) (h : j ≤ k) : RoomW j A := ⟨by have := r.dp; omega, by have := r.un; omega⟩
theorem RoomW.deeper {k : Nat} {A : Around} (r : RoomW (k + 1) A) (env : Env) : RoomW k (A.deeper env) :=
  ⟨by have := r.dp; show A.depth + 1 + 3 * k + 5 < _; omega, by have := r.un; show A.units + 3 + 16 * k + 200 < _; omega⟩
theorem RoomW.depth {k : Nat} {A : Around} (r : RoomW k A) : A.depth < recursionLimit := by have := r.dp; omega
theorem RoomW.units {k : Nat} {A : Around} (r : RoomW k A) : A.units + 64 < cLine := by have := r.un; omega
theorem Room.w {k : Nat} {A : Around} (r : Room k A) : RoomW k A := ⟨r.dp, r.un⟩
structure FnW (P : Program) (w : World) (K : Fg) (mg : Str → Option Value) (base : Heap) (k : Nat) (f : Addr) (fd : FuncData) (ps : List Str) (sp : Sp) : Prop where
  len : ∀ vs H Q E, sp vs H Q E → vs.length = ps.length
  run : ∀ (A : Around) (outer : List Env) (s : Shared) (H : Hp) (args : Args) (us : List Value) (vs : List V) (Q : VK) (E : XK), RoomW k A → A.guards = some [] →
    Env0 P w K mg base A outer s H → BindsTo s fd args (ps.zip us) → Vals vs us → sp vs H Q E → codeAny (model P w) A (.call (.ref f) args) (CR CX0 outer P w H s Q E) s
/-- the name x is a def that keeps sp, in a suite too -/
structure CalW (P : Program) (w : World) (K : Fg) (mg : Str → Option Value) (base : Heap) (k : Nat) (x : Str) (ps : List Str) (sp : Sp) : Prop where
  ex : ∃ (f : Addr) (fd : FuncData), FnW P w K mg base k f fd ps sp ∧ mg x = some (.ref f) ∧ PySem.W.keepIn K (.ref f) = true ∧ Binds K fd ps []
section
variable {P : Program} {w : World} {K : Fg} {mg : Str → Option Value} {base : Heap} {k : Nat} {x : Str} {ps N : List Str} {sp : Sp} {st : Stmt}
end
end Ux

set_option maxRecDepth 100000
set_option maxHeartbeats 4000000
/-! ### a def that asks, catches, and makes the thing grow: it answers True -/
namespace Ux
open PySem PySem.Spec PyProof.Rows L2 Tq
end Ux

set_option maxRecDepth 100000
set_option maxHeartbeats 4000000
namespace Ux
open PySem PySem.Spec PyProof.Rows L2 Tq
/-! ### divmod -/
section
variable {C : Ct} {y : S} {ts : TA} {ta tb : TE} {Q : Z → S → Prop}
end
end Ux

set_option maxRecDepth 100000
set_option maxHeartbeats 4000000
namespace Ux
open PySem PySem.Spec PyProof.Rows L2 Tq
/-! ### a thing of the store lent as it is at present, to a test that changes nothing -/
theorem wT_cut {C : Ct} {tt : TT} {y : S} {A B : Prop} (p : Bool) (hA : p = true → A) (hB : p = false → B) (w : wT C tt y fun b _ => b = p) : wT C tt y fun b _ => if b = true then A else B :=
  fun F σ H K wd k => w F σ H _ wd fun b H1 y1 w1 g1 s1 q => k b H1 y1 w1 g1 s1 (by
    subst q
    cases b with
    | true => exact hA rfl
    | false => exact hB rfl)
section
variable {C : Ct} {y : S} {te : TE} {Q : Z → S → Prop}
theorem wE_rev2 (w : wE C te y fun z y1 => ∃ xs, z = .d (.list xs) ∧ Q (.d (.list xs.dropLast.reverse)) y1) : wE C (tRev2 C.K te) y Q := by
  intro F σ H K wd k
  refine w F σ H _ wd fun x H1 z y1 w1 g1 s1 r1 ⟨xs, ez, q⟩ => ?_
  subst ez
  obtain ⟨a, us, rfl, h1, h2⟩ := rp_lst r1
  refine ⟨a, us, rfl, h1.sq, fun p hp => ?_⟩
  have gr := grow_upd (o := .lst us.dropLast.reverse) hp
  have h3 : RpA C.K (Mv F σ y1) H1 us.dropLast xs.dropLast := by
    rw [List.dropLast_eq_take, List.dropLast_eq_take, h2.len]
    exact h2.take _
  exact k _ _ (.d (.list xs.dropLast.reverse)) y1 (w1.grow gr) (g1.trans (go_grow gr)) s1 (.lst (.inl ⟨w1.new hp, .inl upd_same⟩) (h3.rev.go (go_grow (F := F) (σ := σ) (y := y1) gr))) q
theorem wE_rev1 (w : wE C te y fun z y1 => ∃ xs, z = .d (.list xs) ∧ Q (.d (.list xs.reverse)) y1) : wE C (tRev1 C.K te) y Q := by
  intro F σ H K wd k
  refine w F σ H _ wd fun x H1 z y1 w1 g1 s1 r1 ⟨xs, ez, q⟩ => ?_
  subst ez
  obtain ⟨a, us, rfl, h1, h2⟩ := rp_lst r1
  refine ⟨a, us, rfl, h1.sq, fun p hp => ?_⟩
  have gr := grow_upd (o := .lst us.reverse) hp
  exact k _ _ (.d (.list xs.reverse)) y1 (w1.grow gr) (g1.trans (go_grow gr)) s1 (.lst (.inl ⟨w1.new hp, .inl upd_same⟩) (h2.rev.go (go_grow (F := F) (σ := σ) (y := y1) gr))) q
end
end Ux

set_option maxRecDepth 100000
set_option maxHeartbeats 4000000
namespace Ux
open PySem PySem.Spec PyProof.Rows L2 Tq
/-! ### [e for a, b in .. if ..], plain things alone -/
def plZ : Option Z → Option Z
  | some (.d d) => some (.d d)
  | _ => none
end Ux

set_option maxRecDepth 100000
set_option maxHeartbeats 4000000
namespace Ux
open PySem PySem.Spec PyProof.Rows L2 Tq
section
variable {K : Fg} {M : Addr → Prop} {H : Hp}
end
section
variable {C : Ct} {y : S} {e : En}
end
end Ux

set_option maxRecDepth 100000
set_option maxHeartbeats 4000000
namespace Ux
open PySem PySem.Spec PyProof.Rows L2 Tq
/-! ### a thing lent to a test, the plain slots told too -/
def lentA (y : S) (i : Nat) (d : D) : S := ⟨(y.l.map plZ).set i (some (.d d)), []⟩
theorem plZ_some {o : Option Z} {z : Z} (h : plZ o = some z) : ∃ d, o = some (.d d) ∧ z = .d d := by
  cases o with
  | none => cases h
  | some x =>
    cases x with
    | d d => cases h; exact ⟨d, rfl, rfl⟩
    | _ => cases h
theorem Wd.lentA {C : Ct} {F : Fr} {σ : St} {y : S} {H : Hp} (wd : Wd C F σ y H) {i : Nat} {z : Z} {d : D} (hi : y.l[i]? = some (some z)) (hr : Res y.m z d) :
    Wd C.q ⟨H, fun _ => False, MvX F σ y, F.st⟩ σ (lentA y i d) H := by
  have lv : ∀ a, MvX F σ y a → H a ≠ none := fun a m e => wd.new e m.1
  refine ⟨⟨fun a o _ e => e, lv, lv, ?_, fun j u e => ?_, fun e he => (by cases he), List.Pairwise.nil, fun e he => (by cases he), fun a z => z.elim, fun _ e he => (by cases he)⟩, fun _ _ _ _ _ _ _ _ _ q => q.elim⟩
  · show σ.length = ((y.l.map plZ).set i (some (Z.d d))).length
    rw [List.length_set, List.length_map]; exact wd.len
  · have e : ((y.l.map plZ).set i (some (Z.d d)))[j]? = some (some u) := e
    have hl := (List.getElem?_eq_some_iff.mp hi).1
    by_cases n : j = i
    · subst n
      rw [List.getElem?_set_self (by rw [List.length_map]; exact hl)] at e
      cases e
      obtain ⟨x, h1, h2⟩ := wd.slot j _ hi
      exact ⟨x, h1, .d ((Res.rp wd.toWd0 hr h2).go fun a o n e => ⟨fun z => n (z.elim (fun z => z) fun ⟨e', h, _⟩ => by cases h), e⟩)⟩
    · rw [List.getElem?_set_ne (Ne.symm n), List.getElem?_map] at e
      obtain ⟨v, hv, rfl⟩ : ∃ v, y.l[j]? = some (some (.d v)) ∧ u = .d v := by
        cases q : y.l[j]? with
        | none => rw [q] at e; cases e
        | some o =>
          rw [q] at e
          obtain ⟨v, h1, h2⟩ := plZ_some (Option.some.inj e)
          exact ⟨v, by rw [h1], h2⟩
      obtain ⟨x, h1, h2⟩ := wd.slot j _ hv
      cases h2 with
      | d h2 => exact ⟨x, h1, .d (h2.go fun a o n e => ⟨fun z => n (z.elim (fun z => z.1) fun ⟨e', h, _⟩ => by cases h), e⟩)⟩
theorem wT_lendA {C : Ct} {tt : TT} {y : S} {Q : Bool → S → Prop} {i : Nat} {z : Z} {d : D} (hi : y.l[i]? = some (some z)) (hr : Res y.m z d) (w : wT C.q tt (lentA y i d) fun b _ => Q b y) : wT C tt y Q :=
  fun F σ H K wd k => w _ σ H _ (wd.lentA hi hr) fun b H1 y1 w1 g1 s1 q => by
    have gr : ∀ a o, H a = some o → H1 a = some o := fun a o e => w1.keep a o (fun z => z) e
    exact k b H1 y (wd.grow gr) (go_grow gr) (Sh.refl y) q
/-! ### x.pop() -/
/-! ### x[n].append(e) -/
/-! ### repr of a tuple, a list, with labels in it -/
inductive ResT (m : List Cl) : Z → D → Prop
  | r {z : Z} {d : D} : Res m z d → ResT m z d
  | tup {zs : List Z} {ds : List D} : ResA m zs ds → ResT m (.tup zs) (.tuple ds)
  | lst {zs : List Z} {ds : List D} : ResA m zs ds → ResT m (.lst zs) (.list ds)
theorem ResT.rp {K : Fg} {F : Fr} {σ : St} {y : S} {H : Hp} {v : V} {z : Z} {d : D} (w : Wd0 K F σ y H) (h : ResT y.m z d) (r : Rw K (Mv F σ y) H v z) : Rp K (MvX F σ y) H v d := by
  have g : GoH (Mv F σ y) H (MvX F σ y) H := fun a o n e => ⟨fun z => n z.1, e⟩
  cases h with
  | r h => exact Res.rp w h r
  | tup h =>
    cases r with
    | tup h1 h2 => exact .tup (h1.go g) (ResA.rp w h h2)
  | lst h =>
    cases r with
    | lst h1 h2 => exact .lst (h1.go g) (ResA.rp w h h2)
end Ux

set_option maxRecDepth 100000
set_option maxHeartbeats 4000000
namespace Ux
open PySem PySem.Spec PyProof.Rows L2 Tq
/-! ### tuples with labels in them handed to defs over data; tuples told by them -/
mutual
def scT : D → Bool
  | .tuple ds => scTs ds
  | .list _ | .dict _ => false
  | _ => true
def scTs : List D → Bool
  | [] => true
  | d :: ds => scT d && scTs ds
end
inductive ResTA (m : List Cl) : List Z → List D → Prop
  | nil : ResTA m [] []
  | cons {z : Z} {d : D} {zs : List Z} {ds : List D} : ResT m z d → ResTA m zs ds → ResTA m (z :: zs) (d :: ds)
theorem ResTA.rp {K : Fg} {F : Fr} {σ : St} {y : S} {H : Hp} (w : Wd0 K F σ y H) : ∀ {vs : List V} {zs : List Z} {ds : List D}, ResTA y.m zs ds → RwA K (Mv F σ y) H vs zs → RpA K (MvX F σ y) H vs ds
  | _, _, _, .nil, .nil => .nil
  | _, _, _, .cons a b, .cons c d => .cons (a.rp w c) (b.rp w d)
theorem cell_notup {K : Fg} {M : Addr → Prop} {H : Hp} {a : Addr} {c : Cell} (h : CellOk K M H a c) (xs : List V) : ¬ Rd H a (.tup xs) := by
  induction c with
  | lst zs => obtain ⟨us, h1, _⟩ := h; rintro (q | ⟨o, q⟩) <;> (rw [h1] at q; cases q)
  | dic kvs => obtain ⟨us, h1, _⟩ := h; rintro (q | ⟨o, q⟩) <;> (rw [h1] at q; cases q)
  | ins _ _ _ => obtain ⟨_, us, h1, _⟩ := h; rintro (q | ⟨o, q⟩) <;> (rw [h1] at q; cases q)
  | pu n => obtain ⟨_, _, _, h1, _⟩ := h; rintro (q | ⟨o, q⟩) <;> (rw [h1] at q; cases q)
  | ro _ ih => exact ih h
mutual
theorem sct_rp {K : Fg} {F : Fr} {σ : St} {y : S} {H : Hp} (w : Wd0 K F σ y H) : ∀ {v : V} {d : D}, scT d = true → Rp K (MvX F σ y) H v d → Rp K (Mv F σ y) H v d
  | _, _, _, .non => .non
  | _, _, _, .bl b => .bl b
  | _, _, _, .int b => .int b
  | _, _, _, .str b => .str b
  | _, _, h, .lst _ _ => by cases h
  | _, _, h, .dic _ _ _ => by cases h
  | _, _, h, .tup h1 h2 => by
    refine .tup (h1.elim (fun q => .inl ⟨fun hm => q.1 ⟨hm, fun ⟨e, he, ea⟩ => ?_⟩, q.2⟩) .inr) (sct_rpA w h h2)
    subst ea
    exact cell_notup (w.cell e he) _ q.2
theorem sct_rpA {K : Fg} {F : Fr} {σ : St} {y : S} {H : Hp} (w : Wd0 K F σ y H) : ∀ {vs : List V} {ds : List D}, scTs ds = true → RpA K (MvX F σ y) H vs ds → RpA K (Mv F σ y) H vs ds
  | _, _, _, .nil => .nil
  | _, _, h, .cons a b => by
    have h := h
    rw [scTs, Bool.and_eq_true] at h
    exact .cons (sct_rp w h.1 a) (sct_rpA w h.2 b)
end
section
variable {X : Cx} {k : Nat} {x : Str} {ps : List Str} {sp : Sp} {p pos : Pos} {e : Expr} {es : List Expr} {t : TA}
end
section
variable {C : Ct} {y : S} {ts : TA} {te ta tb : TE} {Q : Z → S → Prop} {E : XK} {n : Nat} {pre : List D → Prop} {post : List D → D → Prop}
end
/-! ### a list of our own, read by places -/
end Ux

set_option maxRecDepth 100000
set_option maxHeartbeats 4000000
namespace Ux
open PySem PySem.Spec PyProof.Rows L2 Tq
section
variable {C : Ct} {y : S} {ta tb : TE} {Q : Z → S → Prop}
end
section
variable {C : Ct} {y : S} {ta tb : TE} {Q : Z → S → Prop}
end
end Ux

set_option maxRecDepth 100000
set_option maxHeartbeats 4000000
namespace Ux
open PySem PySem.Spec PyProof.Rows L2 Tq
/-! ### things that may grow by a 9 -/
abbrev nin (k : Nat) : List D := List.replicate k (.int 9)
def shXB (d : D) : Bool := sw2 d && decide (d.depth ≤ 60) && decide (d.shown.length ≤ sizeLine)
theorem shXB_ok {d : D} (h : shXB d = true) : ShX d := by
  unfold shXB at h
  rw [Bool.and_eq_true, Bool.and_eq_true] at h
  exact ⟨h.1.1, of_decide_eq_true h.1.2, of_decide_eq_true h.2⟩
def sh3 (d : D) : Prop := ShX d ∧ ShX (.tuple [.str "fraction", d]) ∧ ShX (.tuple [.str "number", d])
theorem sh3_ok {d : D} (h : (shXB d && shXB (.tuple [.str "fraction", d]) && shXB (.tuple [.str "number", d])) = true) : sh3 d := by
  rw [Bool.and_eq_true, Bool.and_eq_true] at h
  exact ⟨shXB_ok h.1.1, shXB_ok h.1.2, shXB_ok h.2⟩
inductive OV (k : Nat) : Z → List Cl → D → Prop
  | pl (d : D) (h1 : isT "list" d = false) (h2 : sh3 d) : OV k (.d d) [] d
  | ls (a : Addr) (ds : List D) (h : ∀ j ≤ 1, sh3 (.list (ds ++ nin j))) (h4 : ds.length ≤ 10) : OV k (.lab a) [⟨a, true, .lst ((ds ++ nin k).map Z.d)⟩] (.list (ds ++ nin k))
  | dc (a : Addr) : OV k (.lab a) [⟨a, true, .dic []⟩] (.dict [])
theorem sh3_dict0 : sh3 (.dict []) := sh3_ok (by decide +kernel)
theorem OV.sh {k : Nat} {z : Z} {m : List Cl} {d : D} (h : OV k z m d) (hk : k ≤ 1) : sh3 d := by
  cases h with
  | pl _ h1 h2 => exact h2
  | ls _ _ h _ => exact h k hk
  | dc _ => exact sh3_dict0
theorem OV.up {k : Nat} {z : Z} {m : List Cl} {d : D} (h : OV k z m d) (hl : isT "list" d = false) : OV (k + 1) z m d := by
  cases h with
  | pl d h1 h2 => exact .pl _ h1 h2
  | ls a ds _ _ => rw [isT_list] at hl; cases hl
  | dc a => exact .dc a
/-! ### x != y, labels in both -/
end Ux
namespace Ux
open PySem PySem.Spec PyProof.Rows L2 Tq
end Ux

set_option maxRecDepth 100000
set_option maxHeartbeats 4000000
/-! own objects without fields, or that never change: made, their methods called -/
namespace Ux
open PySem PySem.Spec PyProof.Rows L2 Tq
/-- what a class without __init__ must have to be made -/
structure Mk0 (K : Fg) (C : Addr) : Prop where
  makes : PySem.W.makesIn K C = true
  init : PySem.W.findIn K (.ref C) "__init__" = some (some (.builtin "object.__init__"))
  po : PySem.W.plainOver K C = true
  kp : PySem.W.keepIn K (.ref C) = true
/-! ### methods, by the class that an object has -/
structure VMeth (P : Program) (w : World) (K : Fg) (mg : Str → Option Value) (base : Heap) (CX : CXT) (k : Nat) (m : Str) (C : Addr) (sp : Sp) : Prop where
  cls : Cls K C
  ex : ∃ (f : Addr) (fd : FuncData) (ps : List Str), Meth K C m f ∧ FnG P w K mg base CX k f fd ps sp ∧ Binds K fd ps []
def VTab (P : Program) (w : World) (K : Fg) (mg : Str → Option Value) (base : Heap) (CX : CXT) (k : Nat) (m : Str) (tab : List (Addr × Sp)) : Prop := ∀ e ∈ tab, VMeth P w K mg base CX k m e.1 e.2
theorem VTab.nil {P : Program} {w : World} {K : Fg} {mg : Str → Option Value} {base : Heap} {CX : CXT} {k : Nat} {m : Str} : VTab P w K mg base CX k m [] := fun _ h => nomatch h
theorem VTab.cons {P : Program} {w : World} {K : Fg} {mg : Str → Option Value} {base : Heap} {CX : CXT} {k : Nat} {m : Str} {C : Addr} {sp : Sp} {tab : List (Addr × Sp)} (a : VMeth P w K mg base CX k m C sp) (b : VTab P w K mg base CX k m tab) : VTab P w K mg base CX k m ((C, sp) :: tab) := fun e h => by
  rcases List.mem_cons.mp h with rfl | h
  · exact a
  · exact b e h
/-- a def of a class, as the top has it -/
structure MFn (K : Fg) (x qual : Str) (st : Stmt) (ps : List Str) (f : Addr) : Prop where
  ex : ∃ fd : FuncData, Fun K x qual st f fd ∧ Binds K fd ps []
structure MCal (P : Program) (w : World) (K : Fg) (mg : Str → Option Value) (base : Heap) (CX : CXT) (k : Nat) (ps : List Str) (sp : Sp) (f : Addr) : Prop where
  ex : ∃ fd : FuncData, FnG P w K mg base CX k f fd ps sp ∧ Binds K fd ps []
section
variable {P : Program} {w : World} {K : Fg} {mg : Str → Option Value} {base : Heap} {CX : CXT} {j k : Nat} {x qual : Str} {ps N : List Str} {sp : Sp} {st : Stmt} {C f : Addr}
theorem VMeth.of (c : Cls K C) (m : Meth K C x f) (F : MCal P w K mg base CX j ps sp f) (h : j ≤ k) : VMeth P w K mg base CX k x C sp :=
  let ⟨fd, h1, h2⟩ := F.ex
  ⟨c, f, fd, ps, m, h1.mono h, h2⟩
theorem MFn.ok (d : MFn K x qual st ps f) (Sc : FnScope N ps (defScope st)) (len : ∀ vs H Q E, sp vs H Q E → vs.length = ps.length)
    (hbody : ∀ (cdv : Value) (A : Around) (outer : List Env) (s : Shared) (H : Hp) (vs : List V) (Q : VK) (E : XK), Room k (A.deeper (envOfC qual (defScope st) s.heap.objs.size f cdv)) →
      (A.deeper (envOfC qual (defScope st) s.heap.objs.size f cdv)).guards = some [] → sp vs H Q E →
      ∃ t, PSs (cxOf CX0 P w K mg base N qual (defScope st) f cdv A outer s H E).nox (defBody st) t ∧ t { nx := fun _ G => Q .non G, rt := Q } (start N vs) H) : MCal P w K mg base CX0 (k + 1) ps sp f := by
  obtain ⟨fd, F, hb⟩ := d.ex
  exact ⟨fd, okG F Sc len hbody, hb⟩
theorem MFn.okX (d : MFn K x qual st ps f) (Sc : FnScope N ps (defScope st)) (len : ∀ vs H Q E, sp vs H Q E → vs.length = ps.length)
    (hbody : ∀ (cdv : Value) (A : Around) (outer : List Env) (s : Shared) (H : Hp) (vs : List V) (Q : VK) (E : XK), Room k (A.deeper (envOfC qual (defScope st) s.heap.objs.size f cdv)) →
      (A.deeper (envOfC qual (defScope st) s.heap.objs.size f cdv)).guards = some [] → sp vs H Q E →
      ∃ t, PSs (cxOf (L2.CX P w) P w K mg base N qual (defScope st) f cdv A outer s H E) (defBody st) t ∧ t { nx := fun _ G => Q .non G, rt := Q } (start N vs) H) : MCal P w K mg base (L2.CX P w) (k + 1) ps sp f := by
  obtain ⟨fd, F, hb⟩ := d.ex
  obtain ⟨oc, od, kV, doc, pm, an, cdv, ct, osl, rfl, lk, hcd⟩ := F.ex
  exact ⟨_, Tq.fn_ofG lk hcd Sc len fun A outer s H vs Q E hr hgu hsp => hbody cdv A outer s H vs Q E hr hgu hsp, hb⟩
end
section
variable {X : Cx} {o e : Expr} {es : List Expr} {ta : TE} {t : TA} {k : Nat} {m : Str} {tab : List (Addr × Sp)} {p pos apos : Pos}
end
/-! ### objects as values -/
section
variable {C : Ct} {y : S} {te : TE} {ts : TA} {Q : Z → S → Prop}
end
section
variable {ι : Type} {cl : ι → Addr} {C : Ct} {y : S} {te : TE} {ts : TA} {E : XK} {Q : Z → S → Prop} {n : Nat} {pre : ι → List D → Prop} {post : ι → List D → D → Prop}
end
section
variable {C : Ct} {y : S} {te : TE} {ts : TA} {E : XK} {Q : Z → S → Prop}
end
/-! ### defs of objects and of things of any kind, that may raise -/
inductive ResO (m : List Cl) : Z → D → Prop
  | r {z : Z} {d : D} : Res m z d → ResO m z d
  | ob (C : Addr) : ResO m (.ob C [] []) .none
inductive ResOA (m : List Cl) : List Z → List D → Prop
  | nil : ResOA m [] []
  | cons {z : Z} {d : D} {zs : List Z} {ds : List D} : ResO m z d → ResOA m zs ds → ResOA m (z :: zs) (d :: ds)
section
variable {K : Fg} {N : List Str} {t : TS} {vs : List V} {H : Hp} {Q : VK} {E : XK} {n : Nat} {ι : Type} {pre : ι → List Z → List D → Prop} {post : ι → List Z → List D → Z → Prop} {xp : ι → List Z → List D → Ex → Prop}
end
/-! ### defs that change what they are handed, by an index -/
/-! ### the store in another order -/
/-! ### a slice of a list of ours, as a new list of ours -/
/-! ### three parameters, the last one by its default -/
section
variable {P : Program} {w : World} {K : Fg} {mg : Str → Option Value} {base : Heap} {k : Nat} {x : Str} {ps N : List Str} {sp : Sp} {st : Stmt} {dv : V}
end
/-! ### list(x) of a thing, as data -/
end Ux

set_option maxRecDepth 100000
set_option maxHeartbeats 4000000
/-! exceptions whose field has another name; keywords for the third parameter -/
namespace Ux
open PySem PySem.Spec PyProof.Rows L2 Tq
/-! ### an own class with __init__(self, found): T.__init__(self, 'text'); self.found = found -/
def spInitN (f : Str) (K : Fg) (C : Addr) : Sp := fun vs H Q _ => ∃ (a : Addr) (v : V), vs = [.ref a, v] ∧ OexC K C ∧ PySem.W.findIn K (.ref C) f = some none ∧ H a = some (exo a C none) ∧ ∀ dx, H dx = none → dx ≠ a → Q .non (upd (upd H dx (exd dx [(f, v)])) a (exo a C (some dx)))
/-- the class x, at C: its instances hold what was found -/
structure XcN (P : Program) (w : World) (K : Fg) (mg : Str → Option Value) (base : Heap) (f x : Str) (C : Addr) : Prop where
  gC : mg x = some (.ref C)
  oc : OexC K C
  xf : XfC K C
  no : PySem.W.findIn K (.ref C) f = some none
  ini : ∃ (fI : Addr) (fd : FuncData), PySem.W.findIn K (.ref C) "__init__" = some (some (.ref fI)) ∧ PySem.W.typeIn K (.ref fI) = some (.type "function") ∧ FnOk P w K mg base CX0 1 fI fd ["self", f] (spInitN f K C) ∧ Binds K fd ["self", f] []
section
variable {X : Cx} {f x : Str} {C : Addr} {a : Expr} {ta : TA} {p pos pos2 : Pos}
end
structure XcTN (K : Fg) (mg : Str → Option Value) (f x qual : Str) (st : Stmt) (C : Addr) : Prop where
  gC : mg x = some (.ref C)
  oc : OexC K C
  xf : XfC K C
  no : PySem.W.findIn K (.ref C) f = some none
  ini : ∃ (fI : Addr) (fd : FuncData), PySem.W.findIn K (.ref C) "__init__" = some (some (.ref fI)) ∧ PySem.W.typeIn K (.ref fI) = some (.type "function") ∧ Fun K "__init__" qual st fI fd ∧ Binds K fd ["self", f] []
section
variable {C : Ct} {y : S} {ts : TA} {e : En}
end
theorem Res.kz {m : List Cl} {z : Z} {d : D} (r : Res m z d) : keyZ z = "found" ∧ valZ z = z := by cases r <;> exact ⟨rfl, rfl⟩
section
variable {P : Program} {w : World} {K : Fg} {mg : Str → Option Value} {base : Heap} {k : Nat} {x : Str} {ps N : List Str} {sp : Sp} {st : Stmt} {dv : V}
end

/-! ### new lists that nobody changes: plain data at once -/
/-! ### methods of one class, that call others of it -/
/-! ### a list of ours, many times -/
end Ux

set_option maxRecDepth 100000
set_option maxHeartbeats 4000000
/-! own exceptions over a built-in one other than ValueError -/
namespace Ux
open PySem PySem.Spec PyProof.Rows L2 Tq
/-- a built-in exception: its name, its two special methods, its line of classes -/
structure BaseI where
  B : String
  newId : String
  initId : String
  tl : List Value
structure BaseF (b : BaseI) : Prop where
  F : ExcBaseFacts b.B b.newId b.initId b.tl
  st : ∀ self, refuseLoop self "__setattr__" b.tl = pure ()
  ob : b.tl.contains (.type "object") = true
  ne : b.tl.isEmpty = false
def refsTo (tl l : List Value) : Prop := ∃ cs : List Addr, l = cs.map Value.ref ++ tl
theorem refsTo_pass {tl l : List Value} {self : Value} (h : refsTo tl l) (st : refuseLoop self "__setattr__" tl = pure ()) : refuseLoop self "__setattr__" l = pure () := by
  obtain ⟨cs, rfl⟩ := h
  induction cs with
  | nil => exact st
  | cons c cs ih =>
    show refuseLoop self "__setattr__" (Value.ref c :: (cs.map Value.ref ++ tl)) = _
    rw [refuseLoop_ref]
    exact ih
theorem refsTo_has {tl l : List Value} (h : refsTo tl l) (Y : String) : l.contains (.type Y) = tl.contains (.type Y) := by
  obtain ⟨cs, rfl⟩ := h
  induction cs with
  | nil => rfl
  | cons c cs ih =>
    show (Value.ref c :: (cs.map Value.ref ++ tl)).contains (.type Y) = _
    rw [List.contains_cons, ih]; rfl
theorem refsTo_ne {tl l : List Value} (h : refsTo tl l) (n : tl.isEmpty = false) : l.isEmpty = false := by
  obtain ⟨cs, rfl⟩ := h
  cases cs with
  | nil => exact n
  | cons c cs => rfl
structure OexB (b : BaseI) (K : Fg) (C : Addr) : Prop where
  bf : BaseF b
  cls : ∃ nm q N bs bm sn sub ab col dd k0 k1 k2 k3 k5, K.lookup C = some (excClassObj nm q C N bs bm true sn sub ab col dd k0 k1 k2 k3 k5 b.newId) ∧ refsTo b.tl bm
  sa : PySem.W.findIn K (.ref C) "__setattr__" = some (some (.builtin "object.__setattr__"))
  exC : PySem.W.subIn K (.ref C) (.type "BaseException") = some true
  tyC : PySem.W.typeIn K (.ref C) = some (.type "type")
  kC : PySem.W.keepIn K (.ref C) = true
end Ux
namespace PySem
namespace UxOsa
open Builtin Builtin.ObjectAttr PySem.HandSPX
/-- the first field of an exception that has no dict yet -/
theorem osa {prog : Program} {w : World} {A : Around} {R : Result → Shared → Prop} {hp : Heap} {g : Array GenState} {d : Drawn} {t : Nat} {os : OsState}
    {b : Ux.BaseI} {K : W.Frag} {name : Str} {tk : Tok} {v : Value} {x C : Addr} {fv : Array Value} {cd : ClassData}
    (bf : Ux.BaseF b) (X : K.In hp) (hx : hp.get? x = some { cls := .ref C, data := .fields fv }) (hcd : W.clsIn K C = some cd) (hm : Ux.refsTo b.tl cd.mro) (hh : cd.hasDict = true) (ha : W.findIn K (.ref C) name = some none)
    (hq : ∀ h' tk' dx, (∀ b o, b ≠ x → hp.get? b = some o → h'.get? b = some o) → hp.objs.size ≤ dx → dx ≠ x → h'.get? x = some { cls := .ref C, dict := some dx, data := .fields fv } →
      h'.Ns1 dx (fun y => if y = name then some v else none) → R (.ok (.ret .none)) ⟨h', g, d, tk', os⟩) :
    codeAny (model prog w) A (.call (.builtin "object.__setattr__") ⟨[.ref x, .str name tk, v], []⟩) R ⟨hp, g, d, t, os⟩ := by
  have I : W.InstAt hp x { cls := .ref C, data := .fields fv } C none := ⟨hx, rfl, rfl, trivial⟩
  have SF := F.store_object
  have ne := Ux.refsTo_ne hm bf.ne
  have hob : cd.mro.contains (.type "object") = true := (Ux.refsTo_has hm "object").trans bf.ob
  have hxs : x ≠ hp.objs.size := Nat.ne_of_lt (Heap.lt_size hx)
  have sub : W.Looks (model prog w) hp (isInstance (.ref x) (.type "object")) true := I.type.andThen (W.looks_mroIn X (by unfold W.mroIn; rw [hcd, Option.bind_some, if_neg (by rw [ne]; decide), hob]))
  refine codeAny_call_builtin SF.slot.plain SF.entry (@W.check_slot (model prog w) _ _ ⟨hp, g, d, t, os⟩ "object.__setattr__" "object" "__setattr__" (.ref x) [.str name tk, v] [] _ SF.kind SF.split sub (SF.args (.ref x) (.str name tk) v) ?_)
  have hmr : W.Looks (model prog w) hp (mroOf (.ref C)) cd.mro := (W.looks_clsIn X hcd).andThen .now
  have L3 : W.Looks (model prog w) hp (storeTaker? none) none := .now
  have hcls : W.Looks (model prog w) hp (classData C) cd := W.looks_clsIn X hcd
  rw [W.osa_eq, refuse_eq]
  refine wpAny_bind (wpAny_bind (I.type.at (wpAny_bind (hmr.at ?_))))
  rw [Ux.refsTo_pass hm (bf.st _)]
  refine wpAny_pure (wpAny_bind (I.type.at (wpAny_bind ((W.looks_findIn X ha).at (wpAny_bind (L3.at ?_))))))
  show wpAny _ _ (storeInOwnDict (.ref x) (.ref C) (.str name tk) name v false) _ _ _
  obtain ⟨nm, bs, mro, ns, qn, hd, sn, sb, ab, col, del⟩ := cd
  dsimp only at hh
  subst hh
  unfold storeInOwnDict ownDictForStores
  repeat (first | with_reducible refine store_in_new ?_ ?_ | with_reducible refine wpAny_loadPart_at hx ?_ | with_reducible refine hcls.at ?_ | wp_step)
  · exact ⟨_, #[], _, (Heap.get?_update_ne _ _ _ _ hxs.symm).trans (Heap.get?_push_at rfl rfl), rfl, fun e he => absurd he (by simp), fun _ => rfl⟩
  · intro h' tk' hn' hs
    have hx₁ : (hp.push { cls := .type "dict", data := .dict #[] }).get? x = some { cls := .ref C, data := .fields fv } := Heap.get?_push_of_some _ hx
    refine hq h' tk' hp.objs.size (fun b o hb ho => ?_) (Nat.le_refl _) hxs.symm ?_ hn'
    · exact (hs.2 b (Nat.ne_of_lt (Heap.lt_size ho))).trans ((Heap.get?_update_ne _ _ _ _ hb).trans (Heap.get?_push_of_some _ ho))
    · exact (hs.2 x hxs).trans (Heap.get?_update_self _ hx₁ rfl)
end UxOsa
end PySem
namespace Ux
open PySem PySem.Spec PyProof.Rows L2 Tq
section
variable {X : Cx} {pins : List (Addr × Obj)} {σ : L2.St} {H : Hp} {s : Shared} {a C dx : Addr} {f : Str} {v : V} {u : Value} {b : BaseI} {E : Value → Shared → Prop} {A : Around}
theorem OexB.at (T : OexB b X.K C) : ∃ cd : ClassData, PySem.W.clsIn X.K C = some cd ∧ refsTo b.tl cd.mro ∧ cd.hasDict = true := by
  obtain ⟨nm, q, N, bs, bm, sn, sub, ab, col, dd, k0, k1, k2, k3, k5, hC, cs, hbm⟩ := T.cls
  exact ⟨{ name := nm, bases := bs, mro := .ref C :: bm, ns := N, qualname := q, hasDict := true, slotNames := sn, subclasses := sub, abstract := ab, collection := col, hasDel := false }, by unfold PySem.W.clsIn; rw [hC] <;> rfl, ⟨C :: cs, by rw [hbm]; rfl⟩, rfl⟩
/-- self.f = v, the first field -/
theorem ost_newB {Q : Unit → Shared → Prop} (T : OexB b X.K C) (I : Inv X pins σ H s) (e : H a = some (exo a C none)) (hno : PySem.W.findIn X.K (.ref C) f = some none) (rv : RelV v u)
    (h : ∀ dx s', H dx = none → dx ≠ a → Inv X pins σ (upd (upd H dx (exd dx [(f, v)])) a (exo a C (some dx))) s' → Q () s') : wpAny (model X.prog X.w) A (setAttr (.ref a) f u) Q E s := by
  obtain ⟨cd, hcl, hm, hd⟩ := T.at
  obtain ⟨t1, ho⟩ := exo_at I.hok e
  obtain ⟨hp, g, d, t, os⟩ := s
  refine PySem.W.set_plain I.kIn (ox := { cls := .ref C, dict := none, data := .fields #[.ref t1, .none, .none, .none, .bool false, .none] }) (od := none) ⟨ho, rfl, rfl, trivial⟩ T.sa ?_
  refine PySem.UxOsa.osa T.bf I.kIn ho hcl hm hd hno fun h' tk' dx k dn dne hx hn => ?_
  have fresh : H dx = none := I.hok.fresh dn
  have old : ∀ {c : Addr} {o : Obj}, hp.get? c = some o → c ≠ dx := fun {c o} q => Nat.ne_of_lt (Nat.lt_of_lt_of_le (Heap.lt_size q) dn)
  have not_a : ∀ {c : Addr}, H c = none → c ≠ a := fun {c} n z => by rw [z, e] at n; cases n
  have U : Un X.fs [] H (upd (upd H dx (exd dx [(f, v)])) a (exo a C (some dx))) hp h' := {
    keep := fun c o q n _ _ => k c o (not_a n) q
    slot := fun c o q n _ _ => ⟨o.slots, k c o (not_a n) q⟩
    free := fun c o q n _ => by rw [upd_ne (not_a n), upd_ne (old q)]; exact n
    there := fun c o q _ => by
      rcases Classical.em (c = a) with z | z
      · exact ⟨_, by rw [z]; exact hx⟩
      · exact ⟨o, k c o z q⟩
    tups := fun c xs q => by rw [upd_ne (at_ne e q exo_tup), upd_ne (ne_of_none q fresh)]; exact q
    frzs := fun c o u q => by rw [upd_ne (at_ne e q exo_frz), upd_ne (ne_of_none q fresh)]; exact q
    tbls := fun c ps q => ⟨#[], by rw [upd_ne (at_ne e q exo_tbl), upd_ne (ne_of_none q fresh), q]; simp⟩ }
  refine h dx _ fresh dne (I.un (t' := tk') U fun c o q => ?_)
  rcases Classical.em (c = a) with rfl | ca
  · rw [upd_same] at q; cases q; exact exo_ok hx
  rw [upd_ne ca] at q
  rcases Classical.em (c = dx) with rfl | cd'
  · rw [upd_same] at q; cases q
    exact exd_ok hn (relO_put (fs := []) rv fun _ => trivial)
  rw [upd_ne cd'] at q
  refine (I.hok c o q).stay (fun x v hc z => k x v ?_ z) (fun x hc => by rw [upd_ne (at_ne e hc exo_own), upd_ne (ne_of_none hc fresh)]; exact hc) fun x xs hc => by rw [upd_ne (at_ne e hc exo_tup), upd_ne (ne_of_none hc fresh)]; exact hc
  rcases hc with rfl | hc
  · exact ca
  · exact at_ne e hc exo_own
/-- B.__init__(self, ..): nothing of it is told -/
theorem oinitB {us : List Value} {Q : Value → Shared → Prop} (T : OexB b X.K C) (I : Inv X pins σ H s) (e : H a = some (exo a C none)) (hl : us.length ≤ sizeLine) (h : ∀ s', Inv X pins σ H s' → Q .none s') :
    wpAny (model X.prog X.w) A (call (.builtin b.initId) (.ref a :: us)) Q E s := by
  obtain ⟨nm, q, N, bs, bm, sn, sub, ab, col, dd, k0, k1, k2, k3, k5, hC, hbm⟩ := T.cls
  obtain ⟨t1, ho⟩ := exo_at I.hok e
  obtain ⟨hp, g, d, t, os⟩ := s
  refine wpAny_call (PySem.HandSPX.init_base T.bf.F (fun Y => refsTo_has hbm Y) (I.kIn _ _ hC) ho hl fun h' t2 k hx => ?_)
  have J := I.write (t' := t) (x := a) (e := a) (o := exo a C none) (by rw [e]; exact True.intro) (.inl rfl) k ⟨_, hx⟩ (exo_ok hx)
  have eu : upd H a (exo a C none) = H := funext fun c => (Classical.em (c = a)).elim (fun z => by rw [z, upd_same, e]) fun z => by rw [upd_ne z]
  rw [eu] at J
  exact h _ J
def tVeIB (b : BaseI) (K : Fg) (ta : TA) : TE := fun σ H Q => ta σ H fun vs H1 => ∃ (a C : Addr) (ws : List V), vs = .ref a :: ws ∧ ws.length ≤ 1000 ∧ OexB b K C ∧ H1 a = some (exo a C none) ∧ Q .non H1
def tOstB (b : BaseI) (K : Fg) (f : Str) (to te : TE) : TS := fun D σ H => te σ H fun y H1 => to σ H1 fun x H2 => ∃ a C : Addr, x = .ref a ∧ OexB b K C ∧ PySem.W.findIn K (.ref C) f = some none ∧
  H2 a = some (exo a C none) ∧ ∀ dx, H2 dx = none → dx ≠ a → D.nx σ (upd (upd H2 dx (exd dx [(f, y)])) a (exo a C (some dx)))
structure TxB (b : BaseI) (K : Fg) (mg : Str → Option Value) (x : Str) : Prop where
  ex : ∃ T : Addr, mg x = some (.ref T) ∧ PySem.W.readsIn K T (.type "type") = true ∧ PySem.W.specialIn K (.ref T) "__getattribute__" = some (some (.builtin "type.__getattribute__")) ∧
    PySem.W.findCls K (.ref T) (.type "type") "__init__" = some (.val (.builtin b.initId))
theorem pe_tinitB {x : Str} {e : Expr} {es : List Expr} {ta : TA} {p1 p2 pos : Pos} {pl : Sem Bool} (hg : Gl X x) (T : TxB b X.K X.mg x) (ha : PA X (e :: es) ta) (hcl : PySem.W.handedIn (.builtin b.initId) = true) (hdb : (x == ("__debug__" : Str)) = false := by decide)
    (hc : eval (.Call (.Attribute (.Name x p1) "__init__" p2) (e :: es) [] pos) X.env = (do
      let ov ← eval (.Name x p1) X.env
      standAt p2.atName
      let (f, first) ← holding [ov] (getMethod ov "__init__" pl)
      callWith pos f first (backTo pos (starEach (e :: es) X.env)) (backToKw pos (keywordEach [] X.env))) := by rfl)
    (he : starEach (e :: es) X.env = (false, eval e X.env) :: starEach es X.env := by rfl) (hpl : (backTo pos (starEach es X.env)).any (·.1) = false := by rfl) :
    PE X (.Call (.Attribute (.Name x p1) "__init__" p2) (e :: es) [] pos) (tVeIB b X.K ta) := by
  obtain ⟨T, hm, hrd, hga, hv⟩ := T.ex
  refine ⟨fun pins s σ H Q I h => ?_⟩
  refine PySem.W.methodCall_KW (ld_glob I hg hm ?_ hdb) hc
  refine PySem.W.method_cls I.kIn hga (PySem.W.cls_value I.kIn hrd hv hcl ?_)
  show wpAny _ _ (callWith pos (Value.builtin b.initId) [] (backTo pos (starEach (e :: es) X.env)) []) _ _ _
  refine PyProof.Rows.callWith_method1 (thn (ha.run pos pins _ σ H _ (I.tok _) h) fun us s1 ⟨vs, H1, I1, r1, a, C, ws, ev, hl, T, ea, q⟩ => ?_) he hpl
  subst ev
  cases r1 with
  | @cons _ u0 _ ur ra rw' =>
    obtain rfl : u0 = Value.ref a := ra
    have hlen : ur.length ≤ sizeLine := by
      rw [← Paired.length rw', sizeLine_eq]
      omega
    exact oinitB T I1 ea hlen fun s' J => ⟨.non, H1, J, rfl, q⟩
theorem ps_ostB {o e : Expr} {to te : TE} {p' pos : Pos} (ho : PE X o to) (he : PE X e te) (hs : swapsWith e (some (.Attribute o f p')) pos.line X.env = pure false := by rfl) : PS X (.Assign [.Attribute o f p'] e pos) (tOstB b X.K f to te) := by
  refine ⟨fun pins s σ H D I h => ?_⟩
  refine plainObj_wpAny_Assign_Attribute (thn (he.run pins s σ H _ I h) fun v s1 ⟨y, H1, I1, r1, q1⟩ => thn (ho.run pins s1 σ H1 _ I1 q1) fun u s2 ⟨x, H2, I2, r2, a, C, ex, T, hno, ea, q⟩ => ?_) hs
  subst ex
  obtain rfl : u = Value.ref a := r2
  exact ost_newB T I2 ea hno r1 fun dx s' n ne J => ⟨σ, _, J, q dx n ne⟩
end
section
variable {X : Cx} {e : Expr} {es : List Expr} {ta : TA} {p pos : Pos} {b : BaseI}
/-- C(e, ..), the exception being made -/
theorem pmk_oexB {CX : CXT} {x : Str} {C fI : Addr} {k : Nat} {fd : FuncData} {ps : List Str} {sp : Sp} (T : OexB b X.K C) (iC : PySem.W.findIn X.K (.ref C) "__init__" = some (some (.ref fI))) (tI : PySem.W.typeIn X.K (.ref fI) = some (.type "function"))
    (F1 : FnOk X.prog X.w X.K X.mg X.base CX k fI fd ps sp) (hr : Room (k + 1) X.A) (hb : Binds X.K fd ps []) (hx : Passes CX X (fun _ _ _ => False)) (hg : Gl X x) (hm : X.mg x = some (.ref C)) (ha : PA X (e :: es) ta)
    (hdb : (x == ("__debug__" : Str)) = false := by decide) (he : starEach (e :: es) X.env = (false, eval e X.env) :: starEach es X.env := by rfl) (hpl : (backTo pos (starEach es X.env)).any (·.1) = false := by rfl) :
    PMk X (.Call (.Name x p) (e :: es) [] pos) (tMkO C sp [] ta) := by
  intro pins s σ H Q I h
  obtain ⟨nm, q, N, bs, bm, sn, sub, ab, col, dd, k0, k1, k2, k3, k5, hC, hbm⟩ := T.cls
  refine wpAny_Call_Name_kw (ld_glob I hg hm ?_ hdb)
  refine PySem.W.callWith_K (h₀ := X.base) I.ok.mod.kin T.kC (thn (ha.run pos pins s σ H _ I h) fun us s1 ⟨vs, H1, I1, r1, hz, q1⟩ => ⟨I1.kIn, ?_⟩) he hpl
  show wpAny _ _ (call (.ref C) us) _ _ _
  obtain ⟨hp, g, dr, tk, os⟩ := s1
  have hsz : hp.objs.size ≤ hp.objs.size + 1 := Nat.le_succ _
  have hq := q1 (hp.objs.size + 1) (I1.hok.fresh hsz)
  rw [List.append_nil] at hq
  have kk : ∀ c o, hp.get? c = some o → ((hp.push (PySem.W.kdv_tup us)).push (PySem.HandSPX.excO C hp.objs.size)).get? c = some o := fun c o e => Heap.get?_push_of_some _ (Heap.get?_push_of_some _ e)
  have hget : ((hp.push (PySem.W.kdv_tup us)).push (PySem.HandSPX.excO C hp.objs.size)).get? (hp.objs.size + 1) = some (PySem.HandSPX.excO C hp.objs.size) := by heap_get
  have I2 : Inv X pins σ (upd H1 (hp.objs.size + 1) (exo (hp.objs.size + 1) C none)) ⟨(hp.push (PySem.W.kdv_tup us)).push (PySem.HandSPX.excO C hp.objs.size), g, dr, tk, os⟩ :=
    I1.laid (t' := tk) (a := hp.objs.size + 1) (o := exo (hp.objs.size + 1) C none) (h' := (hp.push (PySem.W.kdv_tup us)).push (PySem.HandSPX.excO C hp.objs.size)) kk hsz (exo_ok hget)
  have r2 : Vals (V.ref (hp.objs.size + 1) :: vs) (Value.ref (hp.objs.size + 1) :: us) := .cons rfl r1
  have hl : (Value.ref (hp.objs.size + 1) :: us ++ []).length = ps.length := by
    have e := r2.length
    rw [F1.len _ _ _ _ hq] at e
    rw [List.append_nil]
    exact e.symm
  have hus : us.length ≤ sizeLine := by
    rw [← Paired.length r1, sizeLine_eq]
    omega
  have hbn := hb _ (Value.ref (hp.objs.size + 1) :: us) I2.kIn hl
  rw [List.append_nil] at hbn
  refine wpAny_call (PySem.HandSPX.call_own T.bf.F (fun Y => refsTo_has hbm Y) (I1.kIn _ _ hC) (PySem.W.looks_findIn I1.kIn iC) (fun self => PySem.W.bind_fn I1.kIn self tI) hus
    (codeAny_mono (F1.run _ X.stack _ _ ⟨Value.ref (hp.objs.size + 1) :: us, []⟩ (Value.ref (hp.objs.size + 1) :: us) _ _ (fun _ _ _ => False) (hr.make C us []) (I2.env0.make C us []) hbn r2 hq) fun r s' hq' => ?_))
  cases r with
  | error er => exact hx pins σ _ _ er s' I2 hq'
  | ok fl =>
    cases fl with
    | ret u =>
      obtain ⟨v, H2, os2, bare2, un2, hok2, rv, ev, d, fs, ea, ed, hd1, q2⟩ := hq'
      subst ev
      obtain ⟨h2, g2, d2, t2, os'⟩ := s'
      exact ⟨rv, mk_end (raises_own T.exC T.tyC) I1 hsz kk un2 hok2 os2 bare2 ea ed hd1 q2⟩
    | next => exact False.elim hq'
    | brk => exact False.elim hq'
    | cont => exact False.elim hq'
end
/-! ### T.__init__(self, 'text'); self.found = found -/
def spInitB (b : BaseI) (K : Fg) (C : Addr) : Sp := fun vs H Q _ => ∃ (a : Addr) (v : V), vs = [.ref a, v] ∧ OexB b K C ∧ PySem.W.findIn K (.ref C) "found" = some none ∧ H a = some (exo a C none) ∧ ∀ dx, H dx = none → dx ≠ a → Q .non (upd (upd H dx (exd dx [(("found" : Str), v)])) a (exo a C (some dx)))
def t_initB (b : BaseI) (K : Fg) (m : Str) : TS := tSeq (tDrop (tVeIB b K (tCons (tVar 0) (tCons (tC (.str m)) tNil)))) (tOstB b K "found" (tVar 0) (tVar 1))
theorem init_readB {b : BaseI} {K : Fg} {C : Addr} {m : Str} {vs : List V} {H : Hp} {Q : VK} {E : XK} (h : spInitB b K C vs H Q E) : t_initB b K m { nx := fun _ G => Q .non G, rt := Q } (start ["self", "found"] vs) H := by
  obtain ⟨a, v, rfl, T, hn, e, k⟩ := h
  exact ⟨_, rfl, a, C, [.str m], rfl, by simp, T, e, _, rfl, _, rfl, a, C, rfl, T, hn, e, fun dx h1 h2 => k dx h1 h2⟩
structure XcB (b : BaseI) (P : Program) (w : World) (K : Fg) (mg : Str → Option Value) (base : Heap) (x : Str) (C : Addr) : Prop where
  gC : mg x = some (.ref C)
  oc : OexB b K C
  xf : XfC K C
  no : PySem.W.findIn K (.ref C) "found" = some none
  ini : ∃ (fI : Addr) (fd : FuncData), PySem.W.findIn K (.ref C) "__init__" = some (some (.ref fI)) ∧ PySem.W.typeIn K (.ref fI) = some (.type "function") ∧ FnOk P w K mg base CX0 1 fI fd ["self", "found"] (spInitB b K C) ∧ Binds K fd ["self", "found"] []
theorem mkO_ofB {b : BaseI} {K : Fg} {C : Addr} {H1 : Hp} {v : V} {Q : XK} (oc : OexB b K C) (no : PySem.W.findIn K (.ref C) "found" = some none) (q : ∀ d, H1 d = none → Q (.ref C) (some d) (upd H1 d (.xd [(("found" : Str), v)]))) :
    [v].length ≤ 1000 ∧ ∀ a, H1 a = none → spInitB b K C (.ref a :: ([v] ++ [])) (upd H1 a (exo a C none))
      (fun u H2 => u = .non ∧ ∃ (d : Addr) (fs : List (Str × V)), H2 a = some (exo a C (some d)) ∧ H2 d = some (exd d fs) ∧ H1 d = none ∧ Q (.ref C) (some d) (upd (del H2 a) d (.xd fs))) (fun _ _ _ => False) := by
  refine ⟨by simp, fun c hb => ⟨c, v, rfl, oc, no, upd_same, fun dx h1 h2 => ?_⟩⟩
  have h1' : H1 dx = none := by rw [upd_ne h2] at h1; exact h1
  refine ⟨rfl, dx, [(("found" : Str), v)], upd_same, by rw [upd_ne h2]; exact upd_same, h1', ?_⟩
  have eH : upd (del (upd (upd (upd H1 c (exo c C none)) dx (exd dx [(("found" : Str), v)])) c (exo c C (some dx))) c) dx (.xd [(("found" : Str), v)]) = upd H1 dx (.xd [(("found" : Str), v)]) := by
    funext y
    by_cases hc : y = dx
    · rw [hc, upd_same, upd_same]
    · rw [upd_ne hc, upd_ne hc]
      by_cases hcb : y = c
      · rw [hcb, del_same, hb]
      · rw [del_ne hcb, upd_ne hcb, upd_ne hc, upd_ne hcb]
  rw [eH]
  exact q dx h1'
def tRaiseB (b : BaseI) (K : Fg) (C : Addr) (W : WX) (ta : TA) : TS := fun _ σ H => tMkO C (spInitB b K C) [] ta σ H fun cls d H' => W cls d σ H'
section
variable {b : BaseI} {X : Cx} {x : Str} {C : Addr} {a : Expr} {ta : TA} {p pos pos2 : Pos}
theorem ps_raiseB {W : WX} (hc : X.calm = true) (T : XcB b X.prog X.w X.K X.mg X.base x C) (hr : Room 2 X.A) (tk : Takes X W) (ha : PA X [a] ta) (hg : Gl X x) (hdb : (x == ("__debug__" : Str)) = false := by decide)
    (he : starEach (a :: []) X.env = (false, eval a X.env) :: starEach [] X.env := by rfl) (hpl : (backTo pos (starEach [] X.env)).any (·.1) = false := by rfl) :
    PS X (.Raise (some (.Call (.Name x p) [a] [] pos)) none pos2) (tRaiseB b X.K C W ta) := by
  obtain ⟨fI, fd, i1, i2, i3, i4⟩ := T.ini
  exact ps_raise hc tk (pmk_oexB T.oc i1 i2 i3 hr i4 pass0 hg T.gC ha hdb he hpl)
end
structure XcTB (b : BaseI) (K : Fg) (mg : Str → Option Value) (x qual : Str) (st : Stmt) (C : Addr) : Prop where
  gC : mg x = some (.ref C)
  oc : OexB b K C
  xf : XfC K C
  no : PySem.W.findIn K (.ref C) "found" = some none
  ini : ∃ (fI : Addr) (fd : FuncData), PySem.W.findIn K (.ref C) "__init__" = some (some (.ref fI)) ∧ PySem.W.typeIn K (.ref fI) = some (.type "function") ∧ Fun K "__init__" qual st fI fd ∧ Binds K fd ["self", "found"] []
theorem spInitB_len {b : BaseI} {K : Fg} {C : Addr} : ∀ vs H Q E, spInitB b K C vs H Q E → vs.length = (["self", "found"] : List Str).length := by
  rintro vs H Q E ⟨a, v, rfl, _⟩
  rfl
theorem xcb_ok {b : BaseI} {P : Program} {w : World} {K : Fg} {mg : Str → Option Value} {base : Heap} {x qual : Str} {st : Stmt} {C : Addr} (T : XcTB b K mg x qual st C) (Sc : FnScope ["self", "found"] ["self", "found"] (defScope st)) (m : Str)
    (hb : ∀ (fI : Addr) (cdv : Value) (A : Around) (outer : List Env) (s : Shared) (H : Hp) (E : XK), PSs (cxOf CX0 P w K mg base ["self", "found"] qual (defScope st) fI cdv A outer s H E).nox (defBody st) (t_initB b K m)) : XcB b P w K mg base x C := by
  obtain ⟨fI, fd, i1, i2, i3, i4⟩ := T.ini
  exact ⟨T.gC, T.oc, T.xf, T.no, fI, fd, i1, i2, i3.ok Sc spInitB_len fun cdv A outer s H vs Q E hr h => ⟨_, hb fI cdv A outer s H E, init_readB h⟩, i4⟩
theorem xctb_mk {b : BaseI} (bf : BaseF b) {K : Fg} {h : Heap} {mg : Str → Option Value} {x qual : Str} {st : Stmt} {C f : Addr} (X : K.In h) (G : h.Ns mainGlobals mg)
    {nm q : Str} {N : Addr} {bs bm : List Value} {sn : List Str} {sub : List Value} {ab : Bool} {col : Option Bool} {dd : Option Addr} {m0 m1 m2 m3 m5 : Option Value} {od an : Option Addr} {sl : Array (Option Value)} {oc kV dc pm cd ct : Value}
    (hb : ∀ (kV dc pm : Value) (an : Option Addr) (cd ct : Value) (us : List Value), us.length = (["self", "found"] : List Str).length → bindArgs (PySem.W.fnOf "__init__" qual (defArgs st) (defBody st) (defScope st) .none kV dc pm an cd ct) ⟨us, []⟩ = pure ((["self", "found"] : List Str).zip us))
    (aC : PySem.W.nsIn K mainGlobals x = some (some (.ref C)))
    (xL : K.lookup C = some (excClassObj nm q C N bs bm true sn sub ab col dd m0 m1 m2 m3 m5 b.newId))
    (vb : refsTo b.tl bm)
    (sa : PySem.W.findIn K (.ref C) "__setattr__" = some (some (.builtin "object.__setattr__"))) (ga : PySem.W.findIn K (.ref C) "__getattribute__" = some (some (.builtin "BaseException.__getattribute__"))) (gg : PySem.W.findIn K (.ref C) "__getattr__" = some none) (nb : PySem.W.findIn K (.ref C) "found" = some none)
    (a1 : PySem.W.findIn K (.ref C) "__init__" = some (some (.ref f))) (t1 : PySem.W.typeIn K (.ref f) = some (.type "function"))
    (l : K.lookup f = some ⟨oc, od, .func (PySem.W.fnOf "__init__" qual (defArgs st) (defBody st) (defScope st) .none kV dc pm an cd ct), sl⟩) (c : PySem.W.codeIn K cd qual = true) (k : PySem.W.keepIn K (.ref f) = true)
    (kC : PySem.W.keepIn K (.ref C) = true) (eC : PySem.W.subIn K (.ref C) (.type "BaseException") = some true) (tC : PySem.W.typeIn K (.ref C) = some (.type "type")) (hC : PySem.W.hasDictIn K C = true) : XcTB b K mg x qual st C :=
  ⟨PySem.W.mg_of X G aC, ⟨bf, ⟨nm, q, N, bs, bm, sn, sub, ab, col, dd, m0, m1, m2, m3, m5, xL, vb⟩, sa, eC, tC, kC⟩, ⟨ga, gg, eC, hC⟩, nb, f, _, a1, t1, fun_mk l c k, (fun_mk l c k).binds hb⟩
theorem txb_mk {b : BaseI} {K : Fg} {h : Heap} {mg : Str → Option Value} {x : Str} {T : Addr} (X : K.In h) (G : h.Ns mainGlobals mg) (a : PySem.W.nsIn K mainGlobals x = some (some (.ref T))) (r : PySem.W.readsIn K T (.type "type") = true)
    (g : PySem.W.specialIn K (.ref T) "__getattribute__" = some (some (.builtin "type.__getattribute__"))) (v : PySem.W.findCls K (.ref T) (.type "type") "__init__" = some (.val (.builtin b.initId))) : TxB b K mg x :=
  ⟨T, PySem.W.mg_of X G a, r, g, v⟩
section
variable {C : Ct} {y : S} {ts : TA} {e : En}
theorem wS_raiseB {b : BaseI} {K : Fg} {Cc : Addr} (hK : K = C.K) (oc : OexB b C.K Cc) (no : PySem.W.findIn C.K (.ref Cc) "found" = some none) (w : wZ C ts y fun zs y1 => ∃ z, zs = [z] ∧ C.ex ⟨.ref Cc, z⟩ y1) : wS C (tRaiseB b K Cc C.W ts) y e := by
  subst hK
  intro F σ H E st wd k
  refine w F σ H _ wd fun vs H1 zs y1 w1 g1 s1 r1 ⟨z, ez, x⟩ => ?_
  subst ez
  cases r1 with | @cons v _ vs _ rv r2 =>
  cases r2
  refine mkO_ofB (Q := fun cls d H' => C.W cls d σ H') oc no fun d hd => ?_
  have gr := grow_upd (o := .xd [(("found" : Str), v)]) hd
  exact w1.xk σ y1 _ ⟨.ref Cc, z⟩ (.ref Cc) (some d) (w1.grow gr).toWd0 (go_grow gr) ⟨rfl, d, v, rfl, by rw [rv.kz.1]; exact upd_same, w1.new hd, w1.newH0 hd, by rw [rv.kz.2]; exact rv.go (go_grow (F := F) (σ := σ) (y := y1) gr)⟩ x
end
def beL : BaseI := ⟨"LookupError", "LookupError.__new__", "LookupError.__init__", [.type "LookupError", .type "Exception", .type "BaseException", .type "object"]⟩
theorem beL_ok : BaseF beL := ⟨PySem.F.excBase_LookupError, fun self => PySem.F.store_LookupError.passes self, by decide +kernel, rfl⟩
end Ux

set_option maxRecDepth 100000
set_option maxHeartbeats 4000000
namespace Tq
open PySem PySem.Spec PyProof.Rows L2
/-! ### terms that look like a beginning are one -/
/-- how a place stands to a root: U, V the fraction's parts in one order or the other -/
def fQ (U V p p' q q' y : Int) : Int := U * (y * p + p') * (y * p + p') - V * (y * q + q') * (y * q + q')
structure FOk (U V p p' q q' : Int) : Prop where
  u0 : 0 ≤ U
  v0 : 0 ≤ V
  one : 1 ≤ U + V
  p0 : 0 ≤ p
  p'0 : 0 ≤ p'
  q0 : 0 ≤ q
  q'0 : 0 ≤ q'
  det : p * q' - p' * q = 1
theorem FOk.pos {U V p p' q q' : Int} (h : FOk U V p p' q q') : 1 ≤ p ∧ 1 ≤ q' := by
  have h1 := h.det
  have h2 : 0 ≤ p' * q := Int.mul_nonneg h.p'0 h.q0
  constructor
  · by_cases z : 1 ≤ p
    · exact z
    · have : p = 0 := by have := h.p0; omega
      rw [this] at h1
      omega
  · by_cases z : 1 ≤ q'
    · exact z
    · have : q' = 0 := by have := h.q'0; omega
      rw [this] at h1
      omega
theorem sq_lt {x y : Int} (h0 : 0 ≤ x) (h : x < y) : x * x < y * y := by
  have h1 : 0 < (y - x) * (y + x) := Int.mul_pos (by omega) (by omega)
  have e : (y - x) * (y + x) = y * y - x * x := by grind
  omega
/-- two places: what is above stays above -/
theorem fq_cross {U V X X' Y Y' : Int} (hU : 0 ≤ U) (hX : 0 ≤ X) (hX' : 1 ≤ X') (hY : 0 ≤ Y) (hY' : 1 ≤ Y') (h : X * Y' < Y * X') :
    (0 ≤ U * X * X - V * X' * X' → 0 < U → 0 < U * Y * Y - V * Y' * Y') ∧ (U * Y * Y - V * Y' * Y' ≤ 0 → 0 < U → U * X * X - V * X' * X' < 0) := by
  have h1 := sq_lt (Int.mul_nonneg hX (by omega)) h
  have e1 : X * Y' * (X * Y') = (X * X) * (Y' * Y') := by grind
  have e2 : Y * X' * (Y * X') = (Y * Y) * (X' * X') := by grind
  rw [e1, e2] at h1
  have px : 0 < X' * X' := Int.mul_pos (by omega) (by omega)
  have py : 0 < Y' * Y' := Int.mul_pos (by omega) (by omega)
  have h2 : ∀ U, 0 < U → U * ((X * X) * (Y' * Y')) < U * ((Y * Y) * (X' * X')) := fun U hU => Int.mul_lt_mul_of_pos_left h1 hU
  constructor
  · intro h3 h4
    have h5 := h2 U h4
    have h6 : 0 ≤ (U * X * X - V * X' * X') * (Y' * Y') := Int.mul_nonneg h3 (by omega)
    have e3 : (U * X * X - V * X' * X') * (Y' * Y') = U * ((X * X) * (Y' * Y')) - V * ((X' * X') * (Y' * Y')) := by grind
    have e4 : (U * Y * Y - V * Y' * Y') * (X' * X') = U * ((Y * Y) * (X' * X')) - V * ((X' * X') * (Y' * Y')) := by grind
    have h7 : 0 < (X' * X') * (U * Y * Y - V * Y' * Y') := by rw [Int.mul_comm]; omega
    exact pos_of_mul px h7
  · intro h3 h4
    have h5 := h2 U h4
    have h6 : 0 ≤ -(U * Y * Y - V * Y' * Y') * (X' * X') := Int.mul_nonneg (by omega) (by omega)
    have e3 : (U * X * X - V * X' * X') * (Y' * Y') = U * ((X * X) * (Y' * Y')) - V * ((X' * X') * (Y' * Y')) := by grind
    have e4 : -(U * Y * Y - V * Y' * Y') * (X' * X') = V * ((X' * X') * (Y' * Y')) - U * ((Y * Y) * (X' * X')) := by grind
    have h7 : 0 < (Y' * Y') * -(U * X * X - V * X' * X') := by
      have e5 : (Y' * Y') * -(U * X * X - V * X' * X') = -((U * X * X - V * X' * X') * (Y' * Y')) := by grind
      omega
    have := pos_of_mul py h7
    omega
theorem FOk.at {U V p p' q q' : Int} (h : FOk U V p p' q q') {y : Int} (hy : 0 ≤ y) : 0 ≤ y * p + p' ∧ 1 ≤ y * q + q' := by
  have h1 := Int.mul_nonneg hy h.p0
  have h2 := Int.mul_nonneg hy h.q0
  have := h.p'0
  have := h.pos
  omega
theorem FOk.turn {U V p p' q q' : Int} (h : FOk U V p p' q q') (x y : Int) : (y * p + p') * (x * q + q') - (x * p + p') * (y * q + q') = y - x := by
  have e : (y * p + p') * (x * q + q') - (x * p + p') * (y * q + q') = (y - x) * (p * q' - p' * q) := by grind
  rw [e, h.det]
  omega
/-- the looks at t: t is the floor, 1 lies within, the leading one is above nought -/
theorem FOk.look {U V p p' q q' : Int} (h : FOk U V p p' q q') {t : Int} (ht : 1 ≤ t) (h1 : fQ U V p p' q q' t ≤ 0) (h2 : fQ U V p p' q q' t = 0 → 1 < t) (h3 : fQ U V p p' q q' t ≠ 0 → 0 < fQ U V p p' q q' (t + 1)) :
    0 < U * p * p - V * q * q ∧ fQ U V p p' q q' 1 < 0 ∧ 0 < fQ U V p p' q q' (t + 1) := by
  have hpos := h.pos
  have U1 : 0 < U := by
    by_cases z : 0 < U
    · exact z
    · have hu := h.u0
      have hv : 1 ≤ V := by have := h.one; omega
      have U0 : U = 0 := by omega
      have neg : ∀ y, 0 ≤ y → fQ U V p p' q q' y < 0 := fun y hy => by
        obtain ⟨_, y1⟩ := h.at hy
        have : 0 < V * (y * q + q') * (y * q + q') := Int.mul_pos (Int.mul_pos (by omega) (by omega)) (by omega)
        unfold fQ
        rw [U0, Int.zero_mul, Int.zero_mul]
        omega
      have n1 := neg t (by omega)
      have n2 := neg (t + 1) (by omega)
      have := h3 (by omega)
      omega
  obtain ⟨t0, t1⟩ := h.at (y := t) (by omega)
  obtain ⟨s0, s1⟩ := h.at (y := t + 1) (by omega)
  obtain ⟨o0, o1⟩ := h.at (y := 1) (by omega)
  have far : 0 < fQ U V p p' q q' (t + 1) := by
    by_cases z : fQ U V p p' q q' t = 0
    · have ht := h.turn t (t + 1)
      exact (fq_cross h.u0 t0 t1 s0 s1 (by omega)).1 (show 0 ≤ fQ U V p p' q q' t by omega) U1
    · exact h3 z
  refine ⟨?_, ?_, far⟩
  · by_cases z : q = 0
    · rw [z]
      have : 0 < U * p * p := Int.mul_pos (Int.mul_pos U1 (by omega)) (by omega)
      omega
    · have hq := h.q0
      have e : p * ((t + 1) * q + q') - ((t + 1) * p + p') * q = 1 := by
        have e : p * ((t + 1) * q + q') - ((t + 1) * p + p') * q = p * q' - p' * q := by grind
        rw [e, h.det]
      exact (fq_cross (V := V) h.u0 s0 s1 h.p0 (show 1 ≤ q by omega) (by omega)).1 (show 0 ≤ fQ U V p p' q q' (t + 1) by omega) U1
  · by_cases z : t = 1
    · subst z
      by_cases z2 : fQ U V p p' q q' 1 = 0
      · have := h2 z2
        omega
      · omega
    · have ht := h.turn 1 t
      exact (fq_cross h.u0 o0 o1 t0 t1 (by omega)).2 h1 U1
/-! ### by the law's own look -/
/-- the law's own look at some terms -/
structure LookL (A B : Int) (ts : List Int) : Prop where
  pos : Pos1 ts
  nn : ∀ t ∈ ts, 0 ≤ t
  near : 0 ≤ dR A B ts.length (turnL ts)
  last : ts ≠ [] → dR A B ts.length (turnL ts) = 0 → ts.length = 1 ∨ ∃ l, ts.getLast? = some l ∧ 1 < l
  far : ts ≠ [] → dR A B ts.length (turnL ts) ≠ 0 → dR A B ts.length (turnL ts) - 2 * wR A B ts.length (turnL ts) + cR A B ts.length (turnL ts) < 0
/-! ### whether a row begins so -/
end Tq

set_option maxRecDepth 100000
set_option maxHeartbeats 4000000
namespace Tq
open PySem PySem.Spec PyProof.Rows L2
/-! ### what stands behind given terms -/
/-! ### given terms -/
structure GN (n : Nat) (ts : List Int) : Prop where
  len : ts.length ≤ 13 + n
  bd : ∀ t ∈ ts, -(5 + (n : Int)) ≤ t ∧ t ≤ 2 * 10 ^ 12 + n
theorem GN.tb {n : Nat} {ts : List Int} (h : GN n ts) (hn : n ≤ 40) : TB ts := ⟨by have := h.len; omega, fun t ht => by have := h.bd t ht; unfold Bd; omega⟩
theorem GN.mono {n m : Nat} {ts : List Int} (h : GN n ts) (hn : n ≤ m) : GN m ts := ⟨by have := h.len; omega, fun t ht => by have := h.bd t ht; omega⟩
theorem GN.app {n : Nat} {ts us vs : List Int} (h : GN n ts) (h1 : ∀ t ∈ us, t ∈ ts) (h2 : ∀ t ∈ vs, t ∈ ts) (l : us.length + vs.length ≤ ts.length) {t : Int} (ht : -(6 + (n : Int)) ≤ t ∧ t ≤ 2 * 10 ^ 12 + n + 1) : GN (n + 1) (us ++ t :: vs) := by
  refine ⟨by rw [List.length_append, List.length_cons]; have := h.len; omega, fun u hu => ?_⟩
  rcases List.mem_append.mp hu with q | q
  · have := h.bd u (h1 u q)
    omega
  · rcases List.mem_cons.mp q with rfl | q
    · omega
    · have := h.bd u (h2 u q)
      omega
end Tq

set_option maxRecDepth 100000
set_option maxHeartbeats 4000000
/-! ### enumerate of a list or of a tuple -/
namespace UEn
open PySem
theorem drawsT {prog : Program} {w : World} {A : Around} (hh : A.handled = none) (it l : Addr) (hne : l ≠ it) (items : Array Value) :
    Draws prog w A it [it, l] items.size (fun i v => items[i]? = some v) (fun i h => h.IsTupleIter it l i ∧ h.IsTuple l items) where
  live := fun _ _ st => let ⟨o, ho, _⟩ := st.1; ⟨o, ho⟩
  frame := fun _ _ _ st hk => ⟨st.1.at fun o e => hk it (by simp) o e, st.2.at fun o e => hk l (by simp) o e⟩
  item := fun i s Q E hi st hQ => by
    refine RZ.nextOf_tuple_item st.1 st.2 (x := items[i]) (by simp [hi]) fun h' hit' hs' => ?_
    exact hQ _ h' s.toks (by simp [hi]) ⟨hit', st.2.extBut hs'.extBut hne⟩ hs'
  done := fun s Q E st hE => RZ.nextOf_tuple_end hh st.1 st.2 (by simp) hE
theorem meets_enumT (l : Addr) (items : Array Value) :
    Meets (Builtin.«enumerate.__new__» ⟨[.type "enumerate", .ref l], []⟩) (fun _ R s => s.heap.IsTuple l items ∧
      R (.ok (.ret (.ref (s.heap.push { cls := .type "tuple_iterator", data := .fields #[.ref l, .int 0 0] }).objs.size)))
        { s with heap := (s.heap.push { cls := .type "tuple_iterator", data := .fields #[.ref l, .int 0 0] }).push { cls := .type "enumerate", data := .fields #[.none, .bool false, .ref s.heap.objs.size, rawInt 0, .none, .none] } }) :=
  .of_wp fun prog w A R s h => by
    obtain ⟨hp, g, d, tk, os⟩ := s; obtain ⟨hl, h⟩ := h
    have hsub := sub_enumerate
    have hL : Heap.IsTuple (Shared.heap ⟨hp, g, d, tk, os⟩) l items := hl
    wp_walk using wpAny_pyIter_tuple hL
    refine wpAny_stack_any fun st => wpAny_pure ?_
    split
    · rename_i c _ _ _ _ _
      cases (c == Value.type "enumerate")
      · wp_walk using wpAny_pyIter_tuple hL
        exact ⟨_, rfl, h⟩
      · wp_walk using wpAny_pyIter_tuple hL
        exact ⟨_, rfl, h⟩
    · wp_walk using wpAny_pyIter_tuple hL
      exact ⟨_, rfl, h⟩
theorem call_enumT {prog : Program} {w : World} {A : Around} {E : Value → Shared → Prop} {s : Shared} {l : Addr} {items : Array Value} {Q : Value → Shared → Prop} (hL : s.heap.IsTuple l items)
    (h : ∀ h', IsEnum h' (s.heap.objs.size + 1) s.heap.objs.size 0 .none → h'.IsTupleIter s.heap.objs.size l 0 → h'.objs.size = s.heap.objs.size + 2 →
      (∀ b o, s.heap.get? b = some o → h'.get? b = some o) → Q (.ref (s.heap.objs.size + 1)) { s with heap := h' }) :
    wpAny (model prog w) A (call (.type "enumerate") [.ref l]) Q E s := by
  refine callType_new F.called_enumerate (by decide) (F.typeCall_enumerate_1 _) (F.newCall_enumerate_1 _) (fun obj => F.args_object_init_2 obj _) F.entry_enumerate_new
    (meets_enumT l items) ⟨hL, ?_⟩
  have hz : (s.heap.push { cls := .type "tuple_iterator", data := .fields #[.ref l, .int 0 0] }).objs.size = s.heap.objs.size + 1 := Heap.size_push ..
  show _ ∧ _
  rw [hz]
  have he : IsEnum ((s.heap.push { cls := .type "tuple_iterator", data := .fields #[.ref l, .int 0 0] }).push
      { cls := .type "enumerate", data := .fields #[.none, .bool false, .ref s.heap.objs.size, rawInt 0, .none, .none] }) (s.heap.objs.size + 1) s.heap.objs.size 0 .none := by
    have := Heap.get?_push_size (s.heap.push { cls := .type "tuple_iterator", data := .fields #[.ref l, .int 0 0] })
      (o := { cls := .type "enumerate", data := .fields #[.none, .bool false, .ref s.heap.objs.size, rawInt 0, .none, .none] }) rfl
    rw [hz] at this; exact this
  refine ⟨⟨_, he, rfl⟩, h _ he ⟨_, Heap.get?_push_of_some _ (Heap.get?_push_size _ rfl), rfl, rfl⟩ (by rw [Heap.size_push, hz]) fun b o x => Heap.get?_push_of_some _ (Heap.get?_push_of_some _ x)⟩
theorem enumT_end {prog : Program} {w : World} {A : Around} {E : Value → Shared → Prop} {s : Shared} {e it l : Addr} {items : Array Value} {k : Nat} {i : Int} {old : Value} {Q : Option Value → Shared → Prop}
    (hh : A.handled = none) (he : IsEnum s.heap e it i old) (hit : s.heap.IsTupleIter it l k) (hl : s.heap.IsTuple l items) (hx : items[k]? = none)
    (hQ : ∀ h', Heap.ExtBut it s.heap h' → Q none { s with heap := h' }) : wpAny (model prog w) A (pyNext (.ref e)) Q E s := by
  have hT : s.TypeIs (.ref e) "enumerate" := ⟨_, he, rfl⟩
  unfold pyNext
  refine wpAny_bind (wpAny_attempt (wpAny_callSpecial?_slot (name := Str.ofString "__next__") hT F.slot_enumerate_next
    (wpAny_call_entry F.slot_enumerate_next hT F.entry_enumerate_next ?_ (F.args_enumerate_next_1 _))))
  show wpAny _ _ (field (.ref e) 2 >>= _) _ _ _
  refine wpAny_bind (wpAny_field he rfl (x := .ref it) rfl ?_)
  refine wpAny_bind (RZ.nextOf_tuple_end (A := A.in1) hh hit hl hx fun h' x he' hx' => ?_)
  obtain ⟨o, ho, hc⟩ := hx'
  refine wpAny_bind (wpAny_isInstance (T := "StopIteration") (b := true) ⟨o, ho, hc⟩ isSubtype_stop ?_)
  exact wpAny_pure (hQ _ he')
end UEn
namespace Ux
open PySem PySem.Spec PyProof.Rows L2 Tq
/-- the tuple at a, each thing in a new pair -/
def IteT (K : PySem.W.Frag) (a : Addr) : It :=
  ⟨fun i H => ∃ (xs : List V) (x : V), SqT K H a xs ∧ xs[i]? = some x, fun i H v H' => ∃ T x, v = .ref T ∧ H T = none ∧ H' = upd H T (.tup [.int (i : Nat), x]) ∧ ∀ xs, SqT K H a xs → xs[i]? = some x, fun i H => ∃ xs : List V, SqT K H a xs ∧ xs.length ≤ i⟩
theorem turn_enumT {P : Program} {w : World} {K : PySem.W.Frag} {elts : List Expr} {kk : Nat} {tpos : Pos} (a e it : Addr) (hai : a ≠ it) (hae : a ≠ e) :
    Turn P w K (.Tuple elts kk tpos) (IteT K a) [e, it] e (fun i h => (∃ old, IsEnum h e it ((i : Nat) : Int) old) ∧ h.IsTupleIter it a i ∧ e ≠ it) where
  mem := by simp
  obj := fun i h st b hb => by
    obtain ⟨⟨old, he⟩, ⟨o, ho, hc, hd⟩, _⟩ := st
    have e' : b = e ∨ b = it := by simpa using hb
    rcases e' with z | z
    · rw [z]; exact ⟨_, he, fun v q => nomatch q⟩
    · rw [z]; exact ⟨o, ho, fun v q => by rw [hd] at q; cases q⟩
  keep := fun i h h' st k => let ⟨⟨old, he⟩, hi, hne⟩ := st; ⟨⟨old, k e (by simp) _ he⟩, hi.at fun o q => k it (by simp) o q, hne⟩
  item := by
    intro X hP hw hK hc i pins s σ H E I hf st hg
    subst hP hw hK
    obtain ⟨⟨old, he⟩, hit, hne⟩ := st
    obtain ⟨xs, x, hq, hx⟩ := hg
    obtain ⟨its, rv, p, hz⟩ := I.tuple hq
    obtain ⟨u, hu, ru⟩ := rv.get hx
    have hel : e < s.heap.objs.size := Heap.lt_size he
    have hil : it < s.heap.objs.size := by obtain ⟨_, q, _⟩ := hit; exact Heap.lt_size q
    have hi : i < its.toArray.size := by
      have := (List.getElem?_eq_some_iff.mp hu).1
      simpa using this
    refine wpAny_pyNext_enum_itemD (UEn.drawsT (A := X.A.in1) (show X.A.in1.handled = none from I.ok.hd hc) it a hai its.toArray) he ⟨hit, p⟩ hi hne (by simp; exact ⟨hne, Ne.symm hae⟩) fun u' h' tk hP ho hs' hT hsz hk => ?_
    obtain ⟨hit', _⟩ := hs'
    obtain rfl : u' = u := by
      have h1 : its[i]? = some u' := by simpa using hP
      rw [hu] at h1
      exact (Option.some.inj h1).symm
    refine ⟨_, rfl, wpAny_letOwnedTupleGo_enum (s := { s with heap := h', toks := tk + 1 }) ho fun h'' he' sb => ?_⟩
    have hT2 : h''.get? s.heap.objs.size = some { cls := .type "tuple", data := .seq #[.int i tk, u'] } := (sb.2 _ (Nat.ne_of_gt hel)).trans hT
    have new : ObjOk X.prog X.w (upd H s.heap.objs.size (.tup [.int (i : Nat), x])) h'' s.heap.objs.size (.tup [.int (i : Nat), x]) :=
      ⟨by show 2 ≤ sizeLine; decide, [.int i tk, u'], .cons ⟨_, rfl⟩ (.cons ru .nil), ⟨_, hT2, rfl, _, rfl⟩⟩
    have I1 : Inv X pins σ (upd H s.heap.objs.size (.tup [.int (i : Nat), x])) { s with heap := h'', toks := tk + 1 } :=
      I.turnedNew (ch := [e, it]) (fun b ob hb q => (sb.2 b (fun z => hb (by simp [z]))).trans (hk b ob (fun z => hb (by simp [z])) (fun z => hb (by simp [z])) q)) hf (Nat.le_refl _) new
    refine ⟨.ref s.heap.objs.size, _, I1, rfl, ⟨_, x, rfl, I.hok.fresh (Nat.le_refl _), rfl, fun ys hy => by rw [I.tuple_inj hy hq]; exact hx⟩, ⟨⟨u', ?_⟩, hit'.at fun o q => (sb.2 it (Ne.symm hne)).trans q, hne⟩, fun b hb => ?_⟩
    · have e1 : ((i + 1 : Nat) : Int) = (i : Int) + 1 := by omega
      rw [e1]; exact he'
    · have hb' : b < s.heap.objs.size := by
        have e' : b = e ∨ b = it := by simpa using hb
        rcases e' with z | z
        · rw [z]; exact hel
        · rw [z]; exact hil
      rw [upd_ne (Nat.ne_of_lt hb')]
      exact (hf b hb).1
  done := by
    intro X hP hw hK hc i pins s σ H E I hf st hg
    subst hP hw hK
    obtain ⟨⟨old, he⟩, hit, hne⟩ := st
    obtain ⟨xs, hq, hx⟩ := hg
    obtain ⟨its, rv, p, hz⟩ := I.tuple hq
    obtain ⟨f0, f1, f2, f3, f4, f5⟩ := hf it (by simp)
    have hl := rv.length
    exact UEn.enumT_end (I.ok.hd hc) he hit p (by simp; omega) fun h' eb => ⟨rfl, I.turned (t' := s.toks) (fun b o hb q => eb b o hb q) f0 f1 f3 f4 f5⟩
  self := fun A i s Q E st h => let ⟨⟨_, he⟩, _⟩ := st; wpAny_pyIter_enum he h
def iEnumA (K : PySem.W.Frag) (ta : TA) : TI := fun σ H R => ta σ H fun vs H1 => ∃ a xs, vs = [.ref a] ∧ ((SqL K H1 a xs ∧ R (Ite K a) H1) ∨ (SqT K H1 a xs ∧ R (IteT K a) H1))
theorem pi_enumA {X : Cx} {e : Expr} {ta : TA} {p pos tpos : Pos} {elts : List Expr} {kk : Nat} (hg : Gl X "enumerate") (hm : X.mg "enumerate" = none) (ha : PA X [e] ta) (hs : starEach [e] X.env = [(false, eval e X.env)] := by rfl) :
    PI X (.Tuple elts kk tpos) (.Call (.Name "enumerate" p) [e] [] pos) (iEnumA X.K ta) := by
  refine ⟨fun pins s σ H R I h => ?_⟩
  refine Call_ (ld_blt I hg hm boot_enumerate (PyProof.Rows.callWith_type1 (thn (ha.run pos pins s σ H _ I h) fun us s1 ⟨vs, H1, I1, r1, q1⟩ => ?_) hs rfl))
  obtain ⟨a, xs, ex, q1⟩ := q1
  subst ex
  cases r1 with
  | cons r rr =>
    cases rr
    cases r
    have fp : ∀ b, b ∈ [s1.heap.objs.size + 1, s1.heap.objs.size] → FpOk X pins H1 b := fun b hb => by
      have e' : b = s1.heap.objs.size + 1 ∨ b = s1.heap.objs.size := by simpa using hb
      have hle : s1.heap.objs.size ≤ b := by
        rcases e' with z | z
        · rw [z]; exact Nat.le_add_right _ _
        · rw [z]; exact Nat.le_refl _
      exact I1.fpOk hle (I1.hok.fresh hle)
    rcases q1 with ⟨hq, q⟩ | ⟨hq, q⟩
    · obtain ⟨its, rv, p', hz⟩ := I1.list hq
      refine call_enumerate_list p'.isList fun h' he hit hsz hk => wpAny_pyIter_enum he ?_
      have I2 : Inv X pins σ H1 { s1 with heap := h' } := I1.kept (t' := s1.toks) hk
      exact ⟨s1.heap.objs.size + 1, [s1.heap.objs.size + 1, s1.heap.objs.size], _, _, H1, rfl, I2, turn_enum a (s1.heap.objs.size + 1) s1.heap.objs.size, ⟨⟨.none, he⟩, hit, Nat.succ_ne_self _⟩, fp, q⟩
    · obtain ⟨its, rv, p', hz⟩ := I1.tuple hq
      obtain ⟨o1, ho1, _⟩ := id p'
      have hal : a < s1.heap.objs.size := Heap.lt_size ho1
      refine UEn.call_enumT (show s1.heap.IsTuple a its.toArray from p') fun h' he hit hsz hk => wpAny_pyIter_enum he ?_
      have I2 : Inv X pins σ H1 { s1 with heap := h' } := I1.kept (t' := s1.toks) hk
      exact ⟨s1.heap.objs.size + 1, [s1.heap.objs.size + 1, s1.heap.objs.size], _, _, H1, rfl, I2, turn_enumT a (s1.heap.objs.size + 1) s1.heap.objs.size (Nat.ne_of_lt hal) (Nat.ne_of_lt (Nat.lt_succ_of_lt hal)), ⟨⟨.none, he⟩, hit, Nat.succ_ne_self _⟩, fp, q⟩
theorem piEA {X : Cx} (K : Fg) {e : Expr} {ta : TA} {p pos tpos : Pos} {elts : List Expr} {kk : Nat} (hg : Gl X "enumerate") (hm : X.mg "enumerate" = none) (ha : PA X [e] ta) (h : X.K = K := by rfl) (hs : starEach [e] X.env = [(false, eval e X.env)] := by rfl) :
    PI X (.Tuple elts kk tpos) (.Call (.Name "enumerate" p) [e] [] pos) (iEnumA K ta) := h ▸ pi_enumA hg hm ha hs
theorem wI_enumA {C : Ct} {y : S} {te : TE} {Qi : List D → S → Prop} (w : wE C te y fun z y1 => ∃ d xs, z = .d d ∧ dItems d = some xs ∧ Qi (enumD xs) y1) : wI C (iEnumA C.K (tCons te tNil)) y Qi := by
  intro F σ H R wd k
  refine w F σ H _ wd fun v H1 z y1 w1 g1 s1 r1 q => ?_
  obtain ⟨d, xs, rfl, hd, q⟩ := q
  cases d with
  | list us0 =>
    obtain rfl : us0 = xs := Option.some.inj hd
    obtain ⟨a, us, rfl, h1, h2⟩ := rp_lst r1
    refine ⟨a, us, rfl, .inl ⟨h1.sq, k _ H1 (enumD us0) y1 w1 g1 s1 (fun F1 σ2 y2 H2 w2 g2 i => ?_) q⟩⟩
    have e1 := (h1.go g2).sq
    have e2 := h2.go g2
    rw [enumD_len]
    refine ⟨fun hi => ?_, fun hi => ⟨us, e1, by rw [h2.len]; exact hi⟩, fun x hx v H3 hy => ?_⟩
    · have : i < us.length := by rw [h2.len]; exact hi
      exact ⟨us, us[i], e1, by simp [this]⟩
    · obtain ⟨T, u, rfl, hT, rfl, hv⟩ := hy
      obtain ⟨d, hd, rfl⟩ := enumD_get hx
      obtain ⟨d', hd', rd⟩ := e2.getV (hv us e1)
      rw [hd] at hd'
      cases hd'
      have gr := grow_upd (o := .tup [.int (i : Nat), u]) hT
      exact ⟨gr, .tup (.inl ⟨w2.new hT, .inl upd_same⟩) (.cons (.int _) (.cons (rd.go fun a o n e => ⟨n, gr a o e⟩) .nil))⟩
  | tuple us0 =>
    obtain rfl : us0 = xs := Option.some.inj hd
    obtain ⟨a, us, rfl, h1, h2⟩ := rp_tup r1
    refine ⟨a, us, rfl, .inr ⟨h1.sq, k _ H1 (enumD us0) y1 w1 g1 s1 (fun F1 σ2 y2 H2 w2 g2 i => ?_) q⟩⟩
    have e1 := (h1.go g2).sq
    have e2 := h2.go g2
    rw [enumD_len]
    refine ⟨fun hi => ?_, fun hi => ⟨us, e1, by rw [h2.len]; exact hi⟩, fun x hx v H3 hy => ?_⟩
    · have : i < us.length := by rw [h2.len]; exact hi
      exact ⟨us, us[i], e1, by simp [this]⟩
    · obtain ⟨T, u, rfl, hT, rfl, hv⟩ := hy
      obtain ⟨d, hd, rfl⟩ := enumD_get hx
      obtain ⟨d', hd', rd⟩ := e2.getV (hv us e1)
      rw [hd] at hd'
      cases hd'
      have gr := grow_upd (o := .tup [.int (i : Nat), u]) hT
      exact ⟨gr, .tup (.inl ⟨w2.new hT, .inl upd_same⟩) (.cons (.int _) (.cons (rd.go fun a o n e => ⟨n, gr a o e⟩) .nil))⟩
  | _ => cases hd
/-! ### x == y, labels in both -/
/-! ### things that may grow by a None -/
abbrev nons (k : Nat) : List D := List.replicate k .none
def sh4 (d : D) : Prop := ShX (.tuple [.str "fraction", d]) ∧ ShX (.tuple [.str "row", d])
theorem sh4_ok {d : D} (h : (shXB (.tuple [.str "fraction", d]) && shXB (.tuple [.str "row", d])) = true) : sh4 d := by
  rw [Bool.and_eq_true] at h
  exact ⟨shXB_ok h.1, shXB_ok h.2⟩
inductive ON (k : Nat) : Z → List Cl → D → Prop
  | pl (d : D) (h1 : isT "list" d = false) (h2 : sh4 d) : ON k (.d d) [] d
  | ls (a : Addr) (ds : List D) (h : ∀ j ≤ 1, sh4 (.list (ds ++ nons j))) (h4 : ds.length ≤ 100) : ON k (.lab a) [⟨a, true, .lst ((ds ++ nons k).map Z.d)⟩] (.list (ds ++ nons k))
  | dc (a : Addr) : ON k (.lab a) [⟨a, true, .dic []⟩] (.dict [])
theorem sh4_dict0 : sh4 (.dict []) := sh4_ok (by decide +kernel)
theorem ON.sh {k : Nat} {z : Z} {m : List Cl} {d : D} (h : ON k z m d) (hk : k ≤ 1) : sh4 d := by
  cases h with
  | pl _ h1 h2 => exact h2
  | ls _ _ h _ => exact h k hk
  | dc _ => exact sh4_dict0
end Ux

set_option maxRecDepth 100000
set_option maxHeartbeats 4000000
/-! for x in reversed(list), the list being data -/
namespace Ux
open PySem PySem.Spec PyProof.Rows L2 Tq
theorem piRvK {X : Cx} (K : Fg) {tg e : Expr} {ta : TA} {p pos : Pos} (hg : Gl X "reversed") (hm : X.mg "reversed" = none) (ha : PA X [e] ta) (h : X.K = K := by rfl) (hs : starEach [e] X.env = [(false, eval e X.env)] := by rfl) : PI X tg (.Call (.Name "reversed" p) [e] [] pos) (iRev K ta) := h ▸ pi_reversed hg hm ha hs
theorem wI_revD {C : Ct} {y : S} {te : TE} {Qi : List D → S → Prop} (w : wE C te y fun z y1 => ∃ xs, z = .d (.list xs) ∧ Qi xs.reverse y1) : wI C (iRev C.K (tCons te tNil)) y Qi := by
  intro F σ H R wd k
  refine w F σ H _ wd fun v H1 z y1 w1 g1 s1 r1 q => ?_
  obtain ⟨xs, rfl, q⟩ := q
  obtain ⟨a, us, rfl, h1, h2⟩ := rp_lst r1
  have hlen : us.length = xs.length := h2.len
  refine ⟨a, us, rfl, h1.sq, k _ H1 xs.reverse y1 w1 g1 s1 (fun F1 σ2 y2 H2 w2 g2 i => ?_) q⟩
  have e1 := (h1.go g2).sq
  have e2 := h2.go g2
  rw [List.length_reverse]
  refine ⟨fun hi => ?_, fun hi => by show us.length ≤ i; omega, fun x hx v H3 hy => ?_⟩
  · have hl : us.length - 1 - i < us.length := by omega
    exact ⟨by omega, us, us[us.length - 1 - i], e1, by simp [hl]⟩
  · obtain ⟨rfl, hv⟩ := hy
    obtain ⟨d, hd, rd⟩ := e2.getV (hv us e1)
    have hi : i < xs.length := by
      have := (List.getElem?_eq_some_iff.mp hx).1
      rw [List.length_reverse] at this; exact this
    rw [List.getElem?_reverse hi, ← hlen, hd] at hx
    cases hx
    exact ⟨fun _ _ e => e, rd⟩
end Ux

set_option maxRecDepth 100000
set_option maxHeartbeats 4000000
/-! defs with several truths as defaults, called in any way: by places, by names in any order, left out -/
namespace Ux
open PySem PySem.Spec PyProof.Rows L2 Tq
/-- what a parameter is handed: the thing told at a place, a default -/
inductive Sl
  | at (i : Nat)
  | df (j : Nat) (b : Bool)
def Sl.ok (n : Nat) (dbs : List Bool) : Sl → Bool
  | .at i => decide (i < n)
  | .df j b => decide (dbs[j]? = some b)
def permU (sel : List Sl) (us its : List Value) : List Value := sel.map fun
  | .at i => us.getD i .none
  | .df j _ => its.getD j .none
def permV (sel : List Sl) (vs : List V) : List V := sel.map fun
  | .at i => vs.getD i .non
  | .df _ b => .bl b
def permZ (sel : List Sl) (zs : List Z) : List Z := sel.map fun
  | .at i => zs.getD i (.d .none)
  | .df _ b => .d (.bool b)
structure Shp where
  m : Nat
  ks : List Str
  sel : List Sl
def dfU (dbs : List Bool) : List Value := dbs.map Value.bool
structure DfM (K : Fg) (mg : Str → Option Value) (x : Str) (st : Stmt) (ps : List Str) (dbs : List Bool) (shs : List Shp) : Prop where
  ex : ∃ (f : Addr) (fd : FuncData), FunD K x x (defArgs st) (defBody st) (defScope st) (dbs.map V.bl) [] f fd ∧ mg x = some (.ref f) ∧
    ∀ sh ∈ shs, sh.sel.all (Sl.ok (sh.m + sh.ks.length) dbs) = true ∧ ∀ (s : Shared) (us ws : List Value), K.In s.heap → us.length = sh.m → ws.length = sh.ks.length → BindsTo s fd ⟨us, sh.ks.zip ws⟩ (ps.zip (permU sh.sel (us ++ ws) (dfU dbs)))
structure CalM (P : Program) (w : World) (K : Fg) (mg : Str → Option Value) (base : Heap) (k : Nat) (x : Str) (ps : List Str) (sp : Sp) (dbs : List Bool) (shs : List Shp) : Prop where
  ex : ∃ (f : Addr) (fd : FuncData), Tq.FnG P w K mg base (L2.CX P w) k f fd ps sp ∧ mg x = some (.ref f) ∧ PySem.W.keepIn K (.ref f) = true ∧
    ∀ sh ∈ shs, sh.sel.all (Sl.ok (sh.m + sh.ks.length) dbs) = true ∧ ∀ (s : Shared) (us ws : List Value), K.In s.heap → us.length = sh.m → ws.length = sh.ks.length → BindsTo s fd ⟨us, sh.ks.zip ws⟩ (ps.zip (permU sh.sel (us ++ ws) (dfU dbs)))
def tCalP (sh : Shp) (sp : Sp) (W : L2.St → XK) (te tk : TA) : TE := fun σ H Q => te σ H fun vs H1 => tk σ H1 fun zs H2 => vs.length = sh.m ∧ zs.length = sh.ks.length ∧ sp (permV sh.sel (vs ++ zs)) H2 Q (W σ)
theorem getD_rel {vs : List V} {us : List Value} (r : Vals vs us) (i : Nat) (h : i < vs.length) : RelV (vs.getD i .non) (us.getD i .none) := by
  induction r generalizing i with
  | nil => exact absurd h (by simp)
  | @cons v u vs us rv r ih =>
    cases i with
    | zero => exact rv
    | succ i => exact ih i (by simpa using h)
theorem perm_rel {n : Nat} {dbs : List Bool} {vs : List V} {us : List Value} (r : Vals vs us) (hn : vs.length = n) : ∀ sel : List Sl, sel.all (Sl.ok n dbs) = true → Vals (permV sel vs) (permU sel us (dfU dbs))
  | [], _ => .nil
  | s :: sel, h => by
    rw [List.all_cons, Bool.and_eq_true] at h
    refine .cons ?_ (perm_rel r hn sel h.2)
    cases s with
    | «at» i => exact getD_rel r i (by rw [hn]; exact of_decide_eq_true h.1)
    | df j b =>
      have h1 : dbs[j]? = some b := of_decide_eq_true h.1
      show RelV (.bl b) ((dfU dbs).getD j .none)
      unfold dfU
      rw [List.getD_eq_getElem?_getD, List.getElem?_map, h1]
      rfl
section
variable {P : Program} {w : World} {K : Fg} {mg : Str → Option Value} {base : Heap} {k : Nat} {x : Str} {ps N : List Str} {sp : Sp} {st : Stmt} {dbs : List Bool} {shs : List Shp}
theorem okM (d : DfM K mg x st ps dbs shs) (Sc : FnScope N ps (defScope st)) (len : ∀ vs H Q E, sp vs H Q E → vs.length = ps.length)
    (hbody : ∀ (f : Addr) (cdv : Value) (A : Around) (outer : List Env) (s : Shared) (H : Hp) (vs : List V) (Q : VK) (E : XK), Room k (A.deeper (envOfC x (defScope st) s.heap.objs.size f cdv)) →
      (A.deeper (envOfC x (defScope st) s.heap.objs.size f cdv)).guards = some [] → sp vs H Q E →
      ∃ t, PSs (cxOf (L2.CX P w) P w K mg base N x (defScope st) f cdv A outer s H E) (defBody st) t ∧ t { nx := fun _ G => Q .non G, rt := Q } (start N vs) H) : CalM P w K mg base (k + 1) x ps sp dbs shs := by
  obtain ⟨f, fd, F, hm, hb⟩ := d.ex
  have kp := F.kp
  obtain ⟨oc, od, dV, kV, doc, pm, an, cdv, ct, osl, rfl, lk, hcd, _, _⟩ := F.ex
  exact ⟨f, _, Tq.fn_ofG lk hcd Sc len fun A outer s H vs Q E hr hgu hsp => hbody f cdv A outer s H vs Q E hr hgu hsp, hm, kp, hb⟩
/-- f(es, kws) -/
theorem pe_calP {X : Cx} {W : WX} {p pos : Pos} {e : Expr} {es : List Expr} {kws : List Keyword} {te tk2 : TA} (sh : Shp) (c : CalM X.prog X.w X.K X.mg X.base k x ps sp dbs shs) (hs : sh ∈ shs) (hr : Room k X.A) (hgu : X.A.guards = some []) (hg : Gl X x) (tk : Takes X W) (ha : PA X (e :: es) te) (hkw : PK X kws tk2)
    (hall : (backToKw pos (keywordEach kws X.env)).all (·.1.isSome) = true := by rfl) (hks : (backToKw pos (keywordEach kws X.env)).filterMap (·.1) = sh.ks := by rfl)
    (hdb : (x == ("__debug__" : Str)) = false := by decide) (he : starEach (e :: es) X.env = (false, eval e X.env) :: starEach es X.env := by rfl)
    (hpl : ((backTo pos (starEach (e :: es) X.env)).any (·.1) || (backToKw pos (keywordEach kws X.env)).any (·.1.isNone)) = false := by rfl) : PE X (.Call (.Name x p) (e :: es) kws pos) (tCalP sh sp (WE W) te tk2) := by
  obtain ⟨f, fd, F, hm, hk, hb⟩ := c.ex
  obtain ⟨ho, hb⟩ := hb sh hs
  refine ⟨fun pins s σ H Q I h => ?_⟩
  refine wpAny_Call_Name_kw (ld_glob I hg hm ?_ hdb)
  refine PySem.W.callWith_KW (h₀ := X.base) I.ok.mod.kin hk hall (thn (ha.run pos pins s σ H _ I h) fun us s1 ⟨vs, H1, I1, r, q⟩ => ?_) hpl he
  refine thn (hkw.run pos pins s1 σ H1 _ I1 q) fun ws s2 ⟨zs, H2, I2, rz, l1, l2, q2⟩ => ⟨I2.kIn, ?_⟩
  rw [hks]
  have rr := r.append rz
  refine run_fnSD (E := WE W) F hr hgu (passAt tk σ) I2 (perm_rel rr (by rw [List.length_append, l1, l2]) sh.sel ho) (hb s2 us ws I2.kIn (by rw [← r.length]; exact l1) (by rw [← rz.length]; exact l2)) q2
end
theorem dfm_mk {K : Fg} {h : Heap} {mg : Str → Option Value} {x : Str} {ps : List Str} {st : Stmt} {f T : Addr} {od od2 an : Option Addr} {sl sl2 : Array (Option Value)} {oc oc2 kV dc pm cd ct : Value} {dbs : List Bool} {shs : List Shp} {n : Nat} (X : K.In h) (G : h.Ns mainGlobals mg)
    (hd : dbs ≠ [])
    (hb : ∀ sh ∈ shs, sh.sel.all (Sl.ok (sh.m + sh.ks.length) dbs) = true ∧ ∀ (T : Addr) (kV doc pm : Value) (an : Option Addr) (cdv ct : Value) (us ws its : List Value), us.length = sh.m → ws.length = sh.ks.length → its.length = dbs.length →
      ∃ k, bindArgs (PySem.W.fnOf x x (defArgs st) (defBody st) (defScope st) (.ref T) kV doc pm an cdv ct) ⟨us, sh.ks.zip ws⟩ = seqItems? (.ref T) >>= k ∧ k (some its.toArray) = pure (ps.zip (permU sh.sel (us ++ ws) its)))
    (ax : PySem.W.nsIn K mainGlobals x = some (some (.ref f))) (l : K.lookup f = some ⟨oc, od, .func (PySem.W.fnOf x x (defArgs st) (defBody st) (defScope st) (.ref T) kV dc pm an cd ct), sl⟩) (lT : K.lookup T = some ⟨oc2, od2, .seq (dfU dbs).toArray n, sl2⟩)
    (c : PySem.W.codeIn K cd x = true) (k : PySem.W.keepIn K (.ref f) = true) : DfM K mg x st ps dbs shs := by
  have rv : ∀ l : List Bool, Vals (l.map V.bl) (dfU l) := fun l => by
    induction l with
    | nil => exact .nil
    | cons b l ih => exact .cons rfl ih
  have F : FunD K x x (defArgs st) (defBody st) (defScope st) (dbs.map V.bl) [] f (PySem.W.fnOf x x (defArgs st) (defBody st) (defScope st) (.ref T) kV dc pm an cd ct) :=
    ⟨⟨oc, od, .ref T, kV, dc, pm, an, cd, ct, sl, rfl, l, c, .inr ⟨by intro z; exact hd (List.map_eq_nil_iff.mp z), T, _, dfU dbs, n, rfl, lT, rfl, rv dbs⟩, .inl rfl⟩, k⟩
  refine ⟨f, _, F, PySem.W.mg_of X G ax, fun sh hs => ⟨(hb sh hs).1, fun s us ws X l1 l2 => ?_⟩⟩
  obtain ⟨k, e1, e2⟩ := (hb sh hs).2 T kV dc pm an cd ct us ws (dfU dbs) l1 l2 (by unfold dfU; rw [List.length_map])
  refine BindsTo.of_looks fun M => ?_
  show PySem.W.Looks M s.heap (bindArgs _ ⟨us, sh.ks.zip ws⟩) _
  rw [e1]
  exact looks_items X lT rfl (.of_pure e2)
section
variable {C : Ct} {y : S} {te tk : TA} {Q : Z → S → Prop} {n : Nat} {pre : List Z → List D → Prop} {post : List Z → List D → Z → Prop} {xp : List Z → List D → Ex → Prop} {sh : Shp}
def Sl.lt (n : Nat) : Sl → Bool
  | .at i => decide (i < n)
  | .df _ _ => true
theorem sl_lt {n : Nat} {sel : List Sl} (h : sel.all (Sl.lt n) = true) : ∀ i, Sl.at i ∈ sel → i < n := fun i hi => of_decide_eq_true (List.all_eq_true.mp h _ hi)
theorem rw_at {K : Fg} {M : Addr → Prop} {H : Hp} {vs : List V} {zs : List Z} (r : RwA K M H vs zs) {i : Nat} (h : i < zs.length) : Rw K M H (vs.getD i .non) (zs.getD i (.d .none)) := by
  obtain ⟨v, h1, h2⟩ := r.get (i := i) (z := zs[i]) (by simp [h])
  rw [List.getD_eq_getElem?_getD, List.getD_eq_getElem?_getD, h1]
  simp [h]
  exact h2
theorem rw_perm {K : Fg} {M : Addr → Prop} {H : Hp} {vs : List V} {zs : List Z} (r : RwA K M H vs zs) : ∀ sel : List Sl, (∀ i, Sl.at i ∈ sel → i < zs.length) → RwA K M H (permV sel vs) (permZ sel zs)
  | [], _ => .nil
  | s :: sel, h => by
    refine .cons ?_ (rw_perm r sel fun i hi => h i (List.mem_cons_of_mem _ hi))
    cases s with
    | «at» i => exact rw_at r (h i List.mem_cons_self)
    | df j b => exact .d (.bl b)
theorem wE_xP (w : wZ C te y fun zs1 y1 => wZ C tk y1 fun zs2 y2 => zs1.length = sh.m ∧ zs2.length = sh.ks.length ∧ (∀ i, Sl.at i ∈ sh.sel → i < sh.m + sh.ks.length) ∧ ∃ ds, ResA y2.m (permZ sh.sel (zs1 ++ zs2)) ds ∧ ((permZ sh.sel (zs1 ++ zs2)).length = n ∧ pre (permZ sh.sel (zs1 ++ zs2)) ds) ∧ (∀ z, post (permZ sh.sel (zs1 ++ zs2)) ds z → Q z y2) ∧ ∀ ex, xp (permZ sh.sel (zs1 ++ zs2)) ds ex → C.ex ex y2) : wE C (tCalP sh (xSp C.K n pre post xp) (WE C.W) te tk) y Q := by
  intro F σ H K wd k
  refine w F σ H _ wd fun vs1 H1 zs1 y1 w1 g1 s1 r1 w' => ?_
  refine w' F σ H1 _ w1 fun vs2 H2 zs2 y2 w2 g2 s2 r2 ⟨l1, l2, hi, ds, hr, ⟨hn, hp⟩, q, x⟩ => ?_
  have r12 := (r1.go g2).app r2
  have rp := rw_perm r12 sh.sel fun i h => by rw [List.length_append, l1, l2]; exact hi i h
  refine ⟨by rw [r1.len]; exact l1, by rw [r2.len]; exact l2, ?_⟩
  refine ⟨Mv F σ y2, y2.m, _, ds, fun a m e => w2.new e m, rp, fun e he => ⟨.inr ⟨e, he, rfl⟩, w2.cell e he⟩, w2.dist, hr, hn, hp, fun z v H3 hz gr rv => k v H3 z y2 (w2.grow gr) ((g1.trans g2).trans (go_grow gr)) (s1.trans s2) rv.z (q z hz), fun ex a v H3 hx gr ha ha2 rv => ?_⟩
  exact w2.xk σ y2 H3 ex ex.cls (some a) (w2.grow gr).toWd0 (go_grow gr) ⟨rfl, a, v, rfl, ha2, w2.new ha, w2.newH0 ha, rv⟩ (x ex hx)
end
end Ux

set_option maxRecDepth 100000
set_option maxHeartbeats 4000000
/-! t == x, t a tuple, x data, a dict too -/
namespace PySem.SeqAt
open PySem PyProof.Rows PySem.AutoSeq1 PySem.MeetsSeq PySem.MeetsSeq2 PySem.MeetsSeq3
theorem dict_awayE {l b : Addr} {dt : Data} {its : Array Value} {n : Nat} {dd ee : Option Addr} {sl tl : Array (Option Value)} :
    Meets (Builtin.«dict.__eq__» ⟨[.ref l, .ref b], []⟩) (fun _ R s => s.heap.get? l = some { cls := .type "dict", dict := dd, data := dt, slots := sl } ∧ s.heap.get? b = some { cls := .type "tuple", dict := ee, data := .seq its n, slots := tl } ∧ R (.ok (.ret .notImplemented)) s) :=
  .of_wp fun prog w A R s h => by
    obtain ⟨hp, g, d, tk, os⟩ := s
    obtain ⟨h1, h2, h⟩ := h
    have f1 := F.sub_tuple_dict
    wp_walk using wpAny_loadPart' h1, wpAny_loadPart' h2
    exact ⟨_, rfl, h⟩
theorem tuple_awayE {l b : Addr} {dt : Data} {its : Array Value} {n : Nat} {dd ee : Option Addr} {sl tl : Array (Option Value)} :
    Meets (Builtin.«tuple.__eq__» ⟨[.ref b, .ref l], []⟩) (fun _ R s => s.heap.get? b = some { cls := .type "tuple", dict := ee, data := .seq its n, slots := tl } ∧ s.heap.get? l = some { cls := .type "dict", dict := dd, data := dt, slots := sl } ∧ R (.ok (.ret .notImplemented)) s) :=
  .of_wp fun prog w A R s h => by
    obtain ⟨hp, g, d, tk, os⟩ := s
    obtain ⟨h1, h2, h⟩ := h
    have f1 := F.sub_dict_tuple
    wp_walk using wpAny_loadPart' h1, wpAny_loadPart' h2
    exact ⟨_, rfl, h⟩
end PySem.SeqAt
namespace Ux
open PySem PySem.Spec PyProof.Rows L2 Tq PySem.MeetsSeq PySem.MeetsSeq2 PySem.MeetsSeq3 PySem.AutoSeq1
def rEqTk (K : Fg) : R2 := fun x y H Q => ∃ a b ks xs, x = .ref b ∧ y = .ref a ∧ H a = some (.dK ks) ∧ SqT K H b xs ∧ Q (.bl false) H
theorem op_eqTk {X : Cx} (hu : X.A.units < cLine) : OpR X (compareOp .Eq) (rEqTk X.K) := by
  intro pins s σ H x y v u Q I rx ry h
  obtain ⟨a, b, ks, xs, rfl, rfl, ha, hb, q⟩ := h
  obtain rfl : v = Value.ref b := rx
  obtain rfl : u = Value.ref a := ry
  obtain ⟨_, ya, va, ra, da⟩ := (show ObjOk X.prog X.w H s.heap a (.dK ks) from I.hok a _ ha)
  obtain ⟨its, r, ht, hz⟩ := I.tuple hb
  obtain ⟨⟨c1, d1, t1, s1⟩, g1, g2⟩ := id da.typeIs
  obtain ⟨⟨c2, d2, t2, s2⟩, h1, h2, n2, h3⟩ := id ht
  simp only at g2 h2 h3
  subst g2 h2 h3
  have hne : b ≠ a := by
    intro e
    subst e
    have h9 := g1.symm.trans h1
    exact absurd (show Value.type "dict" = .type "tuple" from congrArg Obj.cls (Option.some.inj h9)) (by decide)
  show wpAny _ _ (richCompare .Eq (.ref b) (.ref a)) _ _ s
  refine SeqAt.rc_eq_decline_or (k := false) ⟨_, h1, rfl⟩ ⟨_, g1, rfl⟩ (by decide) F.sub_dict_tuple F.slot_tuple_eq F.slot_dict_eq_refl (fun _ hq => ?_) (fun _ hq => ?_) (fun _ hq => ?_) (.inr hu) ⟨.bl false, H, I, rfl, q⟩
  · exact call_meets F.slot_tuple_eq ⟨_, h1, rfl⟩ F.entry_tuple_eq (F.args_tuple_eq_2 _ _) SeqAt.tuple_awayE ⟨h1, g1, hq⟩
  · exact call_meets F.slot_dict_eq_refl ⟨_, g1, rfl⟩ F.entry_dict_eq (F.args_dict_eq_2 _ _) SeqAt.dict_awayE ⟨g1, h1, hq⟩
  · exact SeqAt.wpAny_isSame_ref_other' hne h1 g1 (by simp) hq
def rEqA (K : Fg) : R2 := fun x y H Q => rEqD K x y H Q ∨ rEqTk K x y H Q
theorem eqAK {X : Cx} (K : Fg) (hu : X.A.units + 64 < cLine) (h : X.K = K := by rfl) : OpR X (compareOp .Eq) (rEqA K) := by
  subst h
  intro pins s σ H x y v u Q I rx ry q
  rcases q with q | q
  · exact eqK X.K hu rfl pins s σ H x y v u Q I rx ry q
  · exact op_eqTk (by omega) pins s σ H x y v u Q I rx ry q
def isDict : D → Bool
  | .dict _ => true
  | _ => false
theorem wE_eqA {C : Ct} {y : S} {ta tb : TE} {Q : Z → S → Prop} (w : wE C ta y fun z y1 => wE C tb y1 fun z' y2 => ∃ es e, z = .d (.tuple es) ∧ z' = .d e ∧ SeqAt.shaped (.tuple es) = true ∧ (isDict e = true ∨ SeqAt.shaped e = true) ∧ Q (.d (.bool (PyData.eqv (.tuple es) e))) y2) : wE C (tOp (rEqA C.K) ta tb) y Q := by
  intro F σ H K wd k
  refine w F σ H _ wd fun x H1 z y1 w1 g1 s1 r1 q1 => ?_
  refine q1 F σ H1 _ w1 fun x2 H2 z' y2 w2 g2 s2 r2 q2 => ?_
  obtain ⟨es, e, rfl, rfl, sd, se, hq⟩ := q2
  have r1' : Rp _ _ _ _ _ := Rz.go g2 r1
  have r2' : Rp _ _ _ _ _ := r2
  by_cases hd : isDict e = true
  · cases e with
    | dict kvs =>
      obtain ⟨a, us, rfl, h1, h2⟩ := rp_tup r1'
      cases r2' with
      | dic hn hH hk => exact .inr ⟨_, a, _, us, rfl, rfl, hH, h1.sq, k _ H2 (.d (.bool false)) y2 w2 (g1.trans g2) (s1.trans s2) (.bl _) hq⟩
    | _ => cases hd
  · have se : SeqAt.shaped e = true := se.resolve_left hd
    exact .inl ⟨.tuple es, e, r1'.dp (canLay_noDict sd), r2'.dp (canLay_noDict se), sd, se, k _ H2 (.d (.bool _)) y2 w2 (g1.trans g2) (s1.trans s2) (.bl _) hq⟩
end Ux

set_option maxRecDepth 100000
set_option maxHeartbeats 4000000
namespace Tq
open PySem PySem.Spec PyProof.Rows L2
open PySem.NumText (digitsVal AllDigits)
def topS (i : Nat) : Stmt := PySem.Challenge.pw_termstream_k19_between_shown.main.body.getD i (.Pass ⟨0, 0, 0, 0⟩)
local macro_rules | `(tactic| walk_at "less") => `(tactic| (repeat' (first | exact less_nil | refine less_none ?_ | refine less_some ?_)))
local macro_rules | `(tactic| walk_at "bd") => `(tactic| (repeat' (first | assumption | with_reducible apply Bd.mul | with_reducible apply Bd.add | with_reducible apply Bd.sub | with_reducible apply Bd.neg | (with_reducible apply Bd.div; rotate_left; omega) | exact Bd.lit (k := 40) (by first | decide | omega))))
local macro_rules | `(tactic| walk_at "dq") => `(tactic| (first
  | (with_reducible show wS _ _ (List.set _ _ _) _; refine wS_norm (by simp only [List.set]; first | done | exact rfl) ?_)
  | (with_reducible show wE _ (tVar _) _ _; first | refine wE_var rfl ?_ | refine wE_ptr rfl ?_)
  | (with_reducible show wE _ (tC (.int _)) _ _; refine wE_int ?_)
  | (with_reducible show wE _ (tC (.str _)) _ _; refine wE_str ?_)
  | (with_reducible show wE _ (tC (.bl _)) _ _; refine wE_bl ?_)
  | (with_reducible show wE _ (tC .non) _ _; refine wE_non ?_)
  | (with_reducible show wD _ (tCons _ _) _ _; refine wD_cons ?_)
  | (with_reducible show wD _ tNil _ _; refine wD_nil ?_)
  | (with_reducible show wE _ (tOp (rI0 _) _ _) _ _; first | with_reducible refine wE_add ?_ | with_reducible refine wE_sub ?_ | with_reducible refine wE_lt ?_ | with_reducible refine wE_le ?_ | with_reducible refine wE_gt ?_ | with_reducible refine wE_ge ?_)
  | (with_reducible show wE _ (tOp (rI CPow _) (tC _) (tC _)) _ _; refine wE_powN ?_)
  | (with_reducible show wE _ (tDisp _) _ _; first | refine wE_dispS (by constructor) ?_ | refine wE_dispI (by constructor) ?_)
  | (with_reducible show wE _ (tCall (spTake _) _ _ _) _ _; refine wE_take rfl ?_)
  | (with_reducible show wE _ (tOp (rI _ _) _ _) _ _; first | with_reducible refine wE_mod ?_ | with_reducible refine wE_fdivW ?_ | with_reducible refine wE_mulW ?_ | with_reducible refine wE_pow ?_ | with_reducible refine wE_fdivZ ?_ | with_reducible refine wE_modN ?_ | with_reducible refine wE_mul ?_)
  | (with_reducible show wE _ (tOp (rIx _) _ _) _ _; refine wE_ix ?_)
  | (with_reducible show wE _ (tOp (rCatG _) _ _) _ _; refine wE_catG ?_)
  | (with_reducible show wE _ (tOp rEq _ _) _ _; refine wE_eqS ?_)
  | (with_reducible show wE _ (tOp rNe _ _) _ _; refine wE_neS ?_)
  | (with_reducible show wE _ (tOp (rEqD _) _ _) _ _; refine wE_eqD ?_)
  | (with_reducible show wE _ (tOp (rNeD _) _ _) _ _; refine wE_neD ?_)
  | (with_reducible show wE _ (tOp _ _ _) _ _; first | with_reducible refine wE_addS ?_ | with_reducible refine wE_isN ?_ | with_reducible refine wE_notN ?_ | with_reducible refine wE_inSign ?_ | with_reducible refine wE_ltS ?_ | with_reducible refine wE_leS ?_)
  | (with_reducible show wE _ (tUn _ _) _ _; refine wE_neg ?_)
  | (with_reducible show wE _ (tLst _) _ _; refine wE_lst ?_)
  | (with_reducible show wE _ (tTup _) _ _; refine wE_tup ?_)
  | (with_reducible show wE _ tDNewK _ _; refine wE_dnew ?_)
  | (with_reducible show wE _ (tCB (rIsi _) _) _ _; refine wE_isi ?_)
  | (with_reducible show wE _ (tCB (rIsiT _) _) _ _; refine wE_isi2 ?_)
  | (with_reducible show wE _ (tCB (rAll _) _) _ _; refine wE_all ?_)
  | (with_reducible show wE _ (tCB (rAny _) _) _ _; refine wE_any ?_)
  | (with_reducible show wE _ (tCB (rSum _) _) _ _; refine wE_sum ?_)
  | (with_reducible show wE _ (tCB (rReprX _) _) _ _; refine wE_reprX ?_)
  | (with_reducible show wE _ (tRev2 _ _) _ _; refine wE_rev2 ?_)
  | (with_reducible show wE _ (tRev1 _ _) _ _; refine wE_rev1 ?_)
  | (with_reducible show wE _ (tCB (rRepr _) _) _ _; refine wE_reprS ?_)
  | (with_reducible show wE _ (tCB _ _) _ _; first | refine wE_len ?_ | with_reducible refine wE_abs ?_ | with_reducible refine wE_max2 ?_ | with_reducible refine wE_min2 ?_ | with_reducible refine wE_strI ?_ | with_reducible refine wE_intS ?_ | with_reducible refine wE_int1 ?_ | refine wE_listOf ?_ | refine wE_tupOf ?_)
  | (with_reducible show wE _ (tCall (detSp _ _ _ _) _ _ _) _ _; refine wE_det ?_)
  | (with_reducible show wE _ (tCall (pureSp _ _ _ _) _ _ _) _ _; refine wE_pure ?_)
  | (with_reducible show wE _ (tCall (puSp _ _ _ _ _) _ _ _) _ _; refine wE_pu rfl ?_)
  | (with_reducible show wE _ (tSl _ _ _ _) _ _; refine wE_sl ?_)
  | (with_reducible show wO _ tNoPart _ _; refine wO_no ?_)
  | (with_reducible show wO _ (tPart _) _ _; refine wO_part ?_)
  | (with_reducible show wE _ (tChain _ _ _ _ _) _ _; first | with_reducible refine wE_chainI ?_ | with_reducible refine wE_chainS ?_)
  | (with_reducible show wE _ (tAndV _ _) _ _; refine wE_andV ?_)
  | (with_reducible show wE _ (tOrV _ _) _ _; refine wE_orV ?_)
  | (with_reducible show wE _ (tNotV _) _ _; refine wE_notV ?_)
  | (with_reducible show wE _ (tIf _ _ _) _ _; refine wE_if ?_)
  | (with_reducible show wE _ (tM1 _ _ _) _ _; first | with_reducible refine wE_starts ?_ | with_reducible refine wE_index ?_ | refine wE_join ?_)
  | (with_reducible show wT _ (tTest _) _ _; refine wT_test ?_)
  | (with_reducible show wT _ (tB _) _ _; refine wT_B ?_)
  | (with_reducible show wT _ (tAnd _ _) _ _; refine wT_and ?_)
  | (with_reducible show wT _ (tOr _ _) _ _; refine wT_or ?_)
  | (with_reducible show wT _ (tNot _) _ _; refine wT_not ?_)
  | (with_reducible show wT _ tYes _ _; refine wT_yes ?_)
  | (with_reducible show wS _ (tSeq (tAsg (tLst _) (gName _)) (tSeq (tDrop (tBM _ _ rAppend _ _)) _)) _ _; refine wS_seq (wS_own ?_))
  | (with_reducible show wS _ (tSeq (tDrop (tBM _ _ rAppend (tVar _) _)) _) _ _; refine wS_seq (wS_app rfl ?_))
  | (with_reducible show wS _ (tSeq (tAsg (tCall spPurse _ _ _) _) _) _ _; refine wS_seq (wS_purse ?_))
  | (with_reducible show wS _ (tSeq (tAsg _ (gName _)) _) _ _; refine wS_seqA ?_)
  | (with_reducible show wS _ (tSeq (tPar _ _ _) _) _ _; refine wS_seqP ?_)
  | (with_reducible show wS _ (tSeq (tIfS _ _ tNext) _) _ _; refine wS_seqI ?_)
  | (with_reducible show wS _ (tDrop (tCall _ _ _ _)) _ _; refine wS_drop ?_)
  | (with_reducible show wS _ (tSeq _ _) _ _; refine wS_seq ?_)
  | (with_reducible show wS _ (tAsg _ (gName _)) _ _; refine wS_asg ?_)
  | (with_reducible show wS _ (tAsg _ _) _ _; refine wS_asgG ?_)
  | (with_reducible show wS _ (tPar _ _ _) _ _; refine wS_par ?_)
  | (with_reducible show wS _ (tIfS _ _ tNext) _ _; refine wS_ifN ?_)
  | (with_reducible show wS _ (tIfS _ _ _) _ _; refine wS_if ?_)
  | (with_reducible show wS _ (tRet _) _ _; refine wS_ret ?_)
  | (with_reducible show wS _ tRetN _ _; refine wS_retN ?_)
  | (with_reducible show wS _ tNext _ _; refine wS_next ?_)
  | (with_reducible show wS _ (tAug _ _ _) _ _; refine wS_aug rfl ?_)
  | (with_reducible show wI _ (iList _ _) _ _; refine wI_list ?_)
  | (with_reducible show wI _ (iTup _ _) _ _; refine wI_tup ?_)
  | (with_reducible show wI _ (iAny _ _) _ _; refine wI_any rfl rfl ?_)
  | (with_reducible show wI _ (iStr _) _ _; refine wI_str ?_)
  | (with_reducible show wI _ (iRng1 _) _ _; refine wI_rng1 ?_)
  | (with_reducible show wI _ (iRng2 _) _ _; refine wI_rng2 ?_)
  | (with_reducible show wG _ (gName _) _ _ _; refine wG_name ?_)
  | (with_reducible show wG _ (gTup _ _ _) _ _ _; refine wG_tup rfl ?_)
  | (with_reducible show wGs _ (gCons _ _) _ _ _; refine wGs_cons ?_)
  | (with_reducible show wGs _ gNil _ _ _; refine wGs_nil ?_)
  | (with_reducible show ite _ _ _; first | refine itb_t rfl ?_ | refine itb_f rfl ?_)
  | (with_reducible show @Exists _ _; first | refine ⟨_, _, rfl, rfl, by omega, fun r h0 h1 => ?_⟩ | refine ⟨_, rfl, ?_⟩ | refine ⟨_, _, rfl, dLen_str (by first | omega | decide), ?_⟩ | refine ⟨_, _, rfl, dCut_str (by first | omega | decide) _ _, ?_⟩ | refine ⟨_, _, rfl, rfl, sz_small (by first | omega | (simp only [strLen_append]; omega)), ?_⟩ | refine ⟨_, _, rfl, rfl, ?_⟩ | refine ⟨_, _, rfl, ?_⟩ | refine ⟨_, _, _, rfl, rfl, rfl, ?_⟩ | refine ⟨_, _, _, rfl, rfl, ?_⟩)
  | (with_reducible show CMulW _ _ ∧ _; refine ⟨Bd.mulW (by walk_at "bd") (by walk_at "bd"), ?_⟩)
  | (with_reducible show CDivW _ _ ∧ _; refine ⟨Bd.divW (by walk_at "bd") (by omega), ?_⟩)
  | (with_reducible show _ ∧ _; first | (refine ⟨sz_small ?_, ?_⟩; focus first | (simp; done) | (simp only [List.length_map, List.length_append, List.length_take, List.length_drop, List.length_cons, List.length_nil]; omega)) | (refine ⟨sz_lt1 ?_, ?_⟩; focus first | (simp; done) | (simp only [List.length_map, List.length_append, List.length_take, List.length_drop, List.length_cons, List.length_nil]; omega)) | refine and_sw ?_ ⟨rfl, trivial⟩ | refine and_sw ?_ ⟨rfl, ⟨_, rfl⟩⟩ | refine and_sw ?_ ⟨rfl, ⟨_, _, rfl⟩⟩ | refine and_sw ?_ ⟨rfl, ⟨_, _, _, rfl⟩⟩ | refine and_sw ?_ ⟨rfl, ⟨_, rfl, ?_⟩⟩ | refine and_sw ?_ ⟨rfl, ⟨_, _, rfl, ?_⟩⟩ | refine ⟨rfl, ?_⟩ | refine ⟨trivial, ?_⟩ | refine ⟨by omega, ?_⟩)
  | (with_reducible show _ ≤ sizeLine; exact sz_small (by omega))
  | fail))

def rowD (E : List (Int × Int × Int)) : List D := E.map fun e => .tuple [.int e.1, fr e.2.1 e.2.2]
def EB (E : List (Int × Int × Int)) : Prop := ∀ e ∈ E, Bd 40 e.1 ∧ Bd 40 e.2.1 ∧ Bd 40 e.2.2
theorem EB.step {p q y x : Int} {E : List (Int × Int × Int)} (h : EB E) (hy : Bd 40 y) (hx : Bd 40 x) : EB (stepE p q y E x) := by
  have one : ∀ {F : List (Int × Int × Int)}, EB F → EB (F ++ [(y, x, y)]) := fun hF e he => by
    rcases List.mem_append.mp he with he | he
    · exact hF e he
    · rw [List.mem_singleton.mp he]; exact ⟨hy, hx, hy⟩
  unfold stepE
  split
  · exact one (F := []) (fun e he => by cases he)
  · split
    · split
      · exact one fun e he => h e (List.dropLast_subset _ he)
      · exact one h
    · exact h
theorem step_len (p q y x : Int) (E : List (Int × Int × Int)) : (stepE p q y E x).length ≤ E.length + 1 := by
  unfold stepE
  split
  · show 1 ≤ _; omega
  · split
    · split
      · rw [List.length_append, List.length_dropLast]; show _ + 1 ≤ _; omega
      · rw [List.length_append]; exact Nat.le_refl _
    · omega
def bnD : Bn → D
  | none => .none
  | some (a, b) => fr a b
def oD : Option Int → D
  | none => .none
  | some n => .int n
theorem bnD_inj {L L' : Bn} (h : bnD L = bnD L') : L = L' := by
  match L, L' with
  | none, none => rfl
  | none, some (a, b) => cases h
  | some (a, b), none => cases h
  | some (a, b), some (c, d) => cases h; rfl
theorem oD_inj {f f' : Option Int} (h : oD f = oD f') : f = f' := by
  match f, f' with
  | none, none => rfl
  | none, some a => cases h
  | some a, none => cases h
  | some a, some c => cases h; rfl
abbrev sp_least_whole (K : Fg) : Sp := pureSp K 2 (fun ds => ∃ L li, ds = [bnD L, .bool li] ∧ BnB 60 L) (fun ds r => ∀ L li, ds = [bnD L, .bool li] → r = oD (lwD L li))
abbrev sp_greatest_whole (K : Fg) : Sp := pureSp K 2 (fun ds => ∃ L li, ds = [bnD L, .bool li] ∧ BnB 60 L) (fun ds r => ∀ L li, ds = [bnD L, .bool li] → r = oD (gwD L li))
abbrev sp_whole_in (K : Fg) : Sp := pureSp K 2 (fun ds => ∃ f l, ds = [oD f, oD l]) (fun ds r => ∀ f l, ds = [oD f, oD l] → r = oD (whD f l))
abbrev sp_over_rest (K : Fg) : Sp := pureSp K 2 (fun ds => ∃ a b w, ds = [fr a b, .int w] ∧ Bd 60 a ∧ Bd 60 b ∧ Bd 61 w) (fun ds r => ∀ a b w, ds = [fr a b, .int w] → r = bnD (overR (a, b) w))

abbrev sp_law_pair (K : Fg) : Sp := puSp K 0 (fun _ => True) (fun _ => 3) (fun _ r => ∃ a b c d, r = .tuple [fr a b, fr c d] ∧ SB a b c d)

abbrev sp_law_papers (K : Fg) : Sp := pureSp K 2 (fun ds => ∃ a b c d, ds = [fr a b, fr c d] ∧ SB a b c d) (fun ds r => ∀ a b c d, ds = [fr a b, fr c d] → r = .list (papersD a b c d))
def bestD (a b c d : Int) : D := fr (bestF a b c d).1 (bestF a b c d).2

section
variable {P : Program} {w : World} {K : Fg} {mg : Str → Option Value} {base : Heap}
abbrev s_is_number : Stmt := topS 9
abbrev N_is_number : List Str := ["thing"]
theorem sc_is_number : FnScope N_is_number ["thing"] (defScope s_is_number) := ⟨rfl, rfl, rfl, by decide +kernel, rfl, by decide +kernel, by decide +kernel⟩
theorem ok_is_number (d : Df K mg "is_number" s_is_number ["thing"]) (b_bool : mg "bool" = none) (b_int : mg "int" = none) (b_isinstance : mg "isinstance" = none) : Cal P w K mg base 1 "is_number" ["thing"] (sp_is_number K) := by
  refine d.ok sc_is_number (pureSp_len rfl) (fun f cdv A outer s H vs Q E hr hgu h => ?_)
  refine ⟨_, (pss_one (ps_ret (pe_and (pe_callB (isiK K) (by rfl) b_isinstance (by decide +kernel) (pa_cons (pv 0) (pa_cons (pe_bltn (v := .ty "int") (by rfl) b_int (by decide +kernel) rfl) pa_nil))) (pe_one (pe_not (pe_callB (isiK K) (by rfl) b_isinstance (by decide +kernel) (pa_cons (pv 0) (pa_cons (pe_bltn (v := .ty "bool") (by rfl) b_bool (by decide +kernel) rfl) pa_nil)))))))), ?_⟩
  try dsimp only [cxOf]
  refine pure_body h (fun ds hl hp e hn hz => ?_)
  obtain ⟨x, rfl⟩ : ∃ x, ds = [x] := len1 hl
  show wS _ _ [some (.d x)] _
  repeat' walk_at "dq"
  refine ite2 (fun b => ?_) (fun b => ?_)
  · repeat' walk_at "dq"
    refine hz _ _ ?_
    show PyData.bool (!isT "bool" x) = .bool (isNum x)
    rw [isNum_eq, b]; rfl
  · refine hz _ _ ?_
    show PyData.bool false = .bool (isNum x)
    rw [isNum_eq, Bool.eq_false_iff.mpr b]; rfl
abbrev s_common : Stmt := topS 11
abbrev N_common : List Str := ["one", "other"]
theorem sc_common : FnScope N_common ["one", "other"] (defScope s_common) := ⟨rfl, rfl, rfl, by decide +kernel, rfl, by decide +kernel, by decide +kernel⟩
theorem ok_common (d : Df K mg "common" s_common ["one", "other"]) (b_abs : mg "abs" = none) : Cal P w K mg base 1 "common" ["one", "other"] (sp_common K) := by
  refine d.ok sc_common (pureSp_len rfl) (fun f cdv A outer s H vs Q E hr hgu h => ?_)
  refine ⟨_, (pss_cons (ps_set (i := 0) sc_common.nd rfl (Or.inl rfl) (pe_callB call_abs (by rfl) b_abs (by decide +kernel) (pa_cons (pv 0) pa_nil)))
    (pss_cons (ps_set (i := 1) sc_common.nd rfl (Or.inl rfl) (pe_callB call_abs (by rfl) b_abs (by decide +kernel) (pa_cons (pv 1) pa_nil)))
    (pss_cons (ps_while PassesOwn.never (pt_cmpR op_ne (pv 1) pe_int (nomark _)) (pss_one (ps_par (i := 0) (j := 1) (by rfl) sc_common.nd rfl rfl (by decide) rfl rfl (pa_cons (pv 1) (pa_cons (pe_op op_mod (pv 0) (pv 1)) pa_nil)) (by rfl))))
    (pss_one (ps_ret (pv 0)))))), ?_⟩
  try dsimp only [cxOf]
  refine pure_body h (fun ds hl hp e hn hz => ?_)
  obtain ⟨a, b, rfl⟩ := hp
  show wS _ _ [some (.d (.int a)), some (.d (.int b))] _
  repeat' walk_at "dq"
  refine wS_while (fun m y => ∃ u v : Int, y = [some (.d (.int u)), some (.d (.int v))] ∧ 0 ≤ u ∧ 0 ≤ v ∧ gcdI u v = gcdI a b ∧ m = v.toNat) ⟨_, _, _, rfl, by split <;> omega, by split <;> omega, gcd_abs a b, rfl⟩ ?_
  rintro m y ⟨u, v, rfl, hu, hv, hg, rfl⟩
  repeat' walk_at "dq"
  refine ite2 (fun e1 => ?_) (fun e1 => ?_)
  · have hv0 : v ≠ 0 := fun z => by rw [z] at e1; exact absurd e1 (by decide)
    have hv1 : 0 < v := by omega
    have h1 := Int.emod_nonneg u hv0
    have h2 := Int.emod_lt_of_pos u hv1
    repeat' walk_at "dq"
    refine ⟨_, ?_, _, _, rfl, hv, h1, (gcd_turn hu hv1).trans hg, rfl⟩
    omega
  · have hv0 : v = 0 := by
      by_cases z : v = 0
      · exact z
      · exact absurd (show (!eqS (.int v) (.int 0)) = true by simp [eqS, z]) e1
    subst hv0
    repeat' walk_at "dq"
    refine hz _ _ ?_
    show PyData.int u = .int (gcdI a b)
    rw [← hg, gcd_zero hu]
abbrev s_is_fraction : Stmt := topS 12
abbrev N_is_fraction : List Str := ["thing"]
theorem sc_is_fraction : FnScope N_is_fraction ["thing"] (defScope s_is_fraction) := ⟨rfl, rfl, rfl, by decide +kernel, rfl, by decide +kernel, by decide +kernel⟩
theorem ok_is_fraction (d : Df K mg "is_fraction" s_is_fraction ["thing"]) (c_is_number : Cal P w K mg base 1 "is_number" ["thing"] (sp_is_number K)) (c_common : Cal P w K mg base 1 "common" ["one", "other"] (sp_common K)) (b_isinstance : mg "isinstance" = none) (b_len : mg "len" = none) (b_tuple : mg "tuple" = none) : Cal P w K mg base 2 "is_fraction" ["thing"] (sp_is_fraction K) := by
  refine d.ok sc_is_fraction (pureSp_len rfl) (fun f cdv A outer s H vs Q E hr hgu h => ?_)
  refine ⟨_, (pss_cons (ps_if (PW.pt (pw_or (pt_not (pt_val (pe_callB (isiK K) (by rfl) b_isinstance (by decide +kernel) (pa_cons (pv 0) (pa_cons (pe_bltn (v := .ty "tuple") (by rfl) b_tuple (by decide +kernel) rfl) pa_nil))))) (pw_or (pt_cmpR op_ne (pe_callB (lenK K) (by rfl) b_len (by decide +kernel) (pa_cons (pv 0) pa_nil)) pe_int (nomark _)) (pw_or (pt_not (pt_val (pe_cal c_is_number (hr.mono (by decide)) hgu (by rfl) (pa_cons (pe_ix (ixK K) (pv 0) pe_int (fun _ _ => rfl)) pa_nil)))) (pw_or1 (pt_not (pt_val (pe_cal c_is_number (hr.mono (by decide)) hgu (by rfl) (pa_cons (pe_ix (ixK K) (pv 0) pe_int (fun _ _ => rfl)) pa_nil))))))))) (pss_one (ps_ret pe_bl)) pss_nil)
    (pss_one (ps_ret (pe_and (pe_cmpR op_ge (pe_ix (ixK K) (pv 0) pe_int (fun _ _ => rfl)) pe_int (nomark _)) (pe_one (pe_cmpR op_eq (pe_cal c_common (hr.mono (by decide)) hgu (by rfl) (pa_cons (pe_ix (ixK K) (pv 0) pe_int (fun _ _ => rfl)) (pa_cons (pe_ix (ixK K) (pv 0) pe_int (fun _ _ => rfl)) pa_nil))) pe_int (nomark _))))))), ?_⟩
  try dsimp only [cxOf]
  refine pure_body h (fun ds hl hp e hn hz => ?_)
  obtain ⟨x, rfl⟩ : ∃ x, ds = [x] := len1 hl
  show wS _ _ [some (.d x)] _
  repeat' walk_at "dq"
  rw [isT_tuple]
  cases x with
  | tuple xs =>
    match xs with
    | [] => repeat' (first | walk_at "dq" | (exact hz _ _ rfl))
    | [u] => repeat' (first | walk_at "dq" | (exact hz _ _ (by cases u <;> rfl)))
    | [u, v] =>
      repeat' walk_at "dq"
      cases u with
      | int i =>
        cases v with
        | int j =>
          repeat' walk_at "dq"
          refine ite2 (fun b => ?_) (fun b => ?_)
          · repeat' walk_at "dq"
            refine hz _ _ ?_
            show PyData.bool (decide (gcdI i j = 1)) = .bool (decide (1 ≤ j) && decide (gcdI i j = 1))
            rw [b]; rfl
          · refine hz _ _ ?_
            show PyData.bool false = .bool (decide (1 ≤ j) && decide (gcdI i j = 1))
            rw [Bool.eq_false_iff.mpr b]; rfl
        | _ => repeat' (first | walk_at "dq" | (exact hz _ _ rfl))
      | _ => repeat' (first | walk_at "dq" | (exact hz _ _ rfl))
    | u :: v :: z :: r =>
      repeat' (first | walk_at "dq" | (exact hz _ _ (by cases u <;> first | rfl | (cases v <;> rfl))))
  | _ => repeat' (first | walk_at "dq" | (exact hz _ _ rfl))
abbrev s_gap : Stmt := topS 18
abbrev N_gap : List Str := ["lesser", "greater"]
theorem sc_gap : FnScope N_gap ["lesser", "greater"] (defScope s_gap) := ⟨rfl, rfl, rfl, by decide +kernel, rfl, by decide +kernel, by decide +kernel⟩
theorem ok_gap (d : Df K mg "gap" s_gap ["lesser", "greater"])  : Cal P w K mg base 1 "gap" ["lesser", "greater"] (sp_gap K) := by
  refine d.ok sc_gap (pureSp_len rfl) (fun f cdv A outer s H vs Q E hr hgu h => ?_)
  refine ⟨_, (pss_one (ps_ret (pe_op op_sub (pe_op op_mulW (pe_ix (ixK K) (pv 1) pe_int (fun _ _ => rfl)) (pe_ix (ixK K) (pv 0) pe_int (fun _ _ => rfl))) (pe_op op_mulW (pe_ix (ixK K) (pv 0) pe_int (fun _ _ => rfl)) (pe_ix (ixK K) (pv 1) pe_int (fun _ _ => rfl)))))), ?_⟩
  try dsimp only [cxOf]
  refine pure_body h (fun ds hl hp e hn hz => ?_)
  obtain ⟨a, b, c, d, rfl, ba, bb, bc, bd⟩ := hp
  show wS _ _ [some (.d (fr a b)), some (.d (fr c d))] _
  repeat' walk_at "dq"
  exact hz _ _ rfl
abbrev s_moved : Stmt := topS 17
abbrev N_moved : List Str := ["one", "other", "many"]
theorem sc_moved : FnScope N_moved ["one", "other", "many"] (defScope s_moved) := ⟨rfl, rfl, rfl, by decide +kernel, rfl, by decide +kernel, by decide +kernel⟩
theorem ok_moved (d : Df K mg "moved" s_moved ["one", "other", "many"])  : Cal P w K mg base 1 "moved" ["one", "other", "many"] (sp_moved K) := by
  refine d.ok sc_moved (pureSp_len rfl) (fun f cdv A outer s H vs Q E hr hgu h => ?_)
  refine ⟨_, (pss_one (ps_ret (pe_tup (pa_cons (pe_op op_add (pe_ix (ixK K) (pv 0) pe_int (fun _ _ => rfl)) (pe_op op_mulW (pv 2) (pe_ix (ixK K) (pv 1) pe_int (fun _ _ => rfl)))) (pa_cons (pe_op op_add (pe_ix (ixK K) (pv 0) pe_int (fun _ _ => rfl)) (pe_op op_mulW (pv 2) (pe_ix (ixK K) (pv 1) pe_int (fun _ _ => rfl)))) pa_nil))))), ?_⟩
  try dsimp only [cxOf]
  refine pure_body h (fun ds hl hp e hn hz => ?_)
  obtain ⟨a, b, c, d, m, rfl, bc, bd, bm⟩ := hp
  show wS _ _ [some (.d (fr a b)), some (.d (fr c d)), some (.d (.int m))] _
  repeat' walk_at "dq"
  exact hz _ _ rfl
abbrev s_law_cell : Stmt := topS 33
abbrev N_law_cell : List Str := ["_law_script", "_law_k"]
theorem sc_law_cell : FnScope N_law_cell ["_law_script", "_law_k"] (defScope s_law_cell) := ⟨rfl, rfl, rfl, by decide +kernel, rfl, by decide +kernel, by decide +kernel⟩
theorem ok_law_cell (d : Df K mg "_law_cell" s_law_cell ["_law_script", "_law_k"]) (b_len : mg "len" = none) : Cal P w K mg base 1 "_law_cell" ["_law_script", "_law_k"] (sp_law_cell K) := by
  refine d.ok sc_law_cell (pureSp_len rfl) (fun f cdv A outer s H vs Q E hr hgu h => ?_)
  refine ⟨_, (pss_cons (ps_if (pt_cmpR op_lt (pv 1) (pe_callB (lenK K) (by rfl) b_len (by decide +kernel) (pa_cons (pv 0) pa_nil)) (nomark _)) (pss_one (ps_ret (pe_ix (ixK K) (pv 0) (pv 1) (fun _ _ => rfl)))) pss_nil)
    (pss_one (ps_ret (pe_op op_add (pe_op op_mulW pe_int (pv 1)) pe_int)))), ?_⟩
  try dsimp only [cxOf]
  refine pure_body h (fun ds hl hp e hn hz => ?_)
  obtain ⟨ns, k, rfl, k0, k1⟩ := hp
  show wS _ _ [some (.d (.list (ns.map PyData.int))), some (.d (.int k))] _
  repeat' walk_at "dq"
  refine ite2 (fun b => ?_) (fun b => ?_)
  · repeat' walk_at "dq"
    obtain ⟨x, hx, hm⟩ := atI_mem (xs := ns.map PyData.int) k0 (of_decide_eq_true b)
    refine ⟨_, _, x, rfl, rfl, hx, hz _ _ ?_⟩
    obtain ⟨n, _, rfl⟩ := List.mem_map.mp hm
    exact ⟨n, rfl⟩
  · repeat' walk_at "dq"
    exact hz _ _ ⟨_, rfl⟩
abbrev s_law_purse : Stmt := topS 34
abbrev N_law_purse : List Str := ["_law_cell_here"]
theorem sc_law_purse : FnScope N_law_purse ["_law_cell_here"] (defScope s_law_purse) := ⟨rfl, rfl, rfl, by decide +kernel, rfl, by decide +kernel, by decide +kernel⟩
theorem ok_law_purse (d : Df K mg "_law_purse" s_law_purse ["_law_cell_here"]) (b_max : mg "max" = none) : Cal P w K mg base 1 "_law_purse" ["_law_cell_here"] (sp_law_purse K) := by
  refine d.ok sc_law_purse (fun vs H Q E z => by obtain ⟨c, rfl, _⟩ := z; rfl) (fun f cdv A outer s H vs Q E hr hgu h => ?_)
  exact ⟨t_purse, (pss_one (ps_ret (pe_lst (pa_cons (pe_callB (call_max2 rfl) (by rfl) b_max (by decide +kernel) (pa_cons pe_int (pa_cons (pe_op op_sub (pv 0) (pe_op op_pow pe_int pe_int)) pa_nil))) (pa_cons (pe_op op_mod (pv 0) pe_int) (pa_cons pe_int pa_nil)))))), purse_read rfl h⟩
abbrev s_law_take : Stmt := topS 35
abbrev N_law_take : List Str := ["_law_purse_here", "_law_many", "_law_digit", "_law_one", "_law_other"]
theorem sc_law_take : FnScope N_law_take ["_law_purse_here", "_law_many"] (defScope s_law_take) := ⟨rfl, rfl, rfl, by decide +kernel, rfl, by decide +kernel, by decide +kernel⟩
theorem ok_law_take (d : Df K mg "_law_take" s_law_take ["_law_purse_here", "_law_many"])  : Cal P w K mg base 1 "_law_take" ["_law_purse_here", "_law_many"] (sp_law_take K) := by
  refine d.ok sc_law_take (puSp_len rfl) (fun f cdv A outer s H vs Q E hr hgu h => ?_)
  exact ⟨t_take2 K _ _ _, (pss_cons (ps_if (pt_cmpR op_gt (pe_ix (ixK K) (pv 0) pe_int (fun _ _ => rfl)) pe_int (nomark _)) (pss_cons (ps_set (i := 2) sc_law_take.nd rfl (Or.inl rfl) (pe_op op_mod (pe_ix (ixK K) (pv 0) pe_int (fun _ _ => rfl)) (pv 1)))
    (pss_cons (ps_asg (pe_op op_fdivW (pe_ix (ixK K) (pv 0) pe_int (fun _ _ => rfl)) (pv 1)) (pg_sub (pv 0) pe_int set_list))
    (pss_one (ps_ret (pv 2))))) pss_nil)
    (pss_cons (ps_asg (pe_op op_add (pe_ix (ixK K) (pv 0) pe_int (fun _ _ => rfl)) pe_int) (pg_sub (pv 0) pe_int set_list))
    (pss_cons (ps_set (i := 3) sc_law_take.nd rfl (Or.inl rfl) (pe_op op_mod (pe_op op_pow (pe_op op_add (pe_op op_add (pe_ix (ixK K) (pv 0) pe_int (fun _ _ => rfl)) (pe_op op_mul pe_int (pe_ix (ixK K) (pv 0) pe_int (fun _ _ => rfl)))) pe_int) pe_int) pe_int))
    (pss_cons (ps_set (i := 4) sc_law_take.nd rfl (Or.inl rfl) (pe_op op_mod (pe_op op_pow (pe_op op_add (pe_op op_mul (pe_ix (ixK K) (pv 0) pe_int (fun _ _ => rfl)) (pe_ix (ixK K) (pv 0) pe_int (fun _ _ => rfl))) pe_int) pe_int) pe_int))
    (pss_one (ps_ret (pe_op op_mod (pe_op op_fdivW (pe_op op_add (pe_op op_mul (pv 3) pe_int) (pv 4)) pe_int) (pv 1)))))))), take2_read (by decide) (by decide) (by decide) rfl h⟩
abbrev s_law_pair : Stmt := topS 38
abbrev N_law_pair : List Str := ["_law_purse_here", "_law_whole", "_law_low", "_law_high", "_law_turns", "_law_k", "_law_more"]
theorem sc_law_pair : FnScope N_law_pair ["_law_purse_here"] (defScope s_law_pair) := ⟨rfl, rfl, rfl, by decide +kernel, rfl, by decide +kernel, by decide +kernel⟩
theorem ok_law_pair (d : Df K mg "_law_pair" s_law_pair ["_law_purse_here"]) (c_law_take : Cal P w K mg base 1 "_law_take" ["_law_purse_here", "_law_many"] (sp_law_take K)) (b_range : mg "range" = none) : Cal P w K mg base 2 "_law_pair" ["_law_purse_here"] (sp_law_pair K) := by
  refine d.ok sc_law_pair (puSp_len rfl) (fun f cdv A outer s H vs Q E hr hgu h => ?_)
  refine ⟨_, (pss_cons (ps_set (i := 1) sc_law_pair.nd rfl (Or.inl rfl) (pe_op op_sub (pe_cal c_law_take (hr.mono (by decide)) hgu (by rfl) (pa_cons (pv 0) (pa_cons pe_int pa_nil))) pe_int))
    (pss_cons (ps_par (i := 2) (j := 3) (by rfl) sc_law_pair.nd rfl rfl (by decide) rfl rfl (pa_cons (pe_tup (pa_cons (pv 1) (pa_cons pe_int pa_nil))) (pa_cons (pe_tup (pa_cons (pe_op op_add (pv 1) pe_int) (pa_cons pe_int pa_nil))) pa_nil)) (by rfl))
    (pss_cons (ps_set (i := 4) sc_law_pair.nd rfl (Or.inl rfl) (pe_cal c_law_take (hr.mono (by decide)) hgu (by rfl) (pa_cons (pv 0) (pa_cons (pe_op op_pow pe_int pe_int) pa_nil))))
    (pss_cons (ps_for PassesOwn.never rfl (pi_range1 (by rfl) b_range (pa_cons (pe_cal c_law_take (hr.mono (by decide)) hgu (by rfl) (pa_cons (pv 0) (pa_cons pe_int pa_nil))) pa_nil)) (pg_name (i := 5) sc_law_pair.nd rfl (Or.inl rfl)) (pss_cons (ps_set (i := 6) sc_law_pair.nd rfl (Or.inl rfl) (pe_tup (pa_cons (pe_op op_add (pe_ix (ixK K) (pv 2) pe_int (fun _ _ => rfl)) (pe_ix (ixK K) (pv 3) pe_int (fun _ _ => rfl))) (pa_cons (pe_op op_add (pe_ix (ixK K) (pv 2) pe_int (fun _ _ => rfl)) (pe_ix (ixK K) (pv 3) pe_int (fun _ _ => rfl))) pa_nil))))
    (pss_cons (ps_if (pt_cmpR op_eq (pe_op op_mod (pv 4) pe_int) pe_int (nomark _)) (pss_one (ps_set (i := 2) sc_law_pair.nd rfl (Or.inl rfl) (pv 6))) (pss_one (ps_set (i := 3) sc_law_pair.nd rfl (Or.inl rfl) (pv 6))))
    (pss_one (ps_set (i := 4) sc_law_pair.nd rfl (Or.inl rfl) (pe_op op_fdivW (pv 4) pe_int))))))
    (pss_one (ps_ret (pe_tup (pa_cons (pv 2) (pa_cons (pv 3) pa_nil))))))))), ?_⟩
  try dsimp only [cxOf]
  refine pu_body h (fun ds m hl hp hc e hn hz => ?_)
  obtain rfl : ds = [] := List.eq_nil_of_length_eq_zero hl
  have hc : 3 ≤ m := hc
  show wS _ _ [some (.pu m), none, none, none, none, none, none] _
  repeat' walk_at "dq"
  rename_i w0 w1 w2 t t0 t1
  refine wS_for ?_
  repeat' walk_at "dq"
  rename_i n n0 n1
  refine forJ (fun i y => ∃ a b c d t : Int, y = [some (.pu (m - 1 - 1 - 1)), some (.d (.int (w0 - 20))), some (.d (fr a b)), some (.d (fr c d)), some (.d (.int t)), none, none] ∧ 1 ≤ b ∧ 1 ≤ d ∧ c * b - a * d = 1 ∧ a.natAbs ≤ 21 * 2 ^ i ∧ c.natAbs ≤ 21 * 2 ^ i ∧ b ≤ 2 ^ i ∧ d ≤ 2 ^ i ∧ 0 ≤ t ∧ t < 2 ^ 16) (by decide) ⟨_, ⟨w0 - 20, 1, w0 - 20 + 1, 1, t, rfl, by decide, by decide, by omega, by omega, by omega, by decide, by decide, t0, t1⟩, by walk_at "less"⟩ ?_ ?_
  · rintro i x y hx ⟨a, b, c, d, t, rfl, hb, hd, h1, qa, qc, qb, qd, ht0, ht1⟩
    obtain ⟨hi, rfl⟩ := rangeD_get hx
    have e1 : (2 : Nat) ^ (i + 1) = 2 * 2 ^ i := by rw [Nat.pow_succ, Nat.mul_comm]
    have e2 : (2 : Int) ^ (i + 1) = 2 * 2 ^ i := by rw [Int.pow_succ, Int.mul_comm]
    have m1 : (a + c) * b - a * (b + d) = c * b - a * d := by grind
    have m2 : c * (b + d) - (a + c) * d = c * b - a * d := by grind
    repeat' walk_at "dq"
    refine ite2 (fun c0 => ?_) (fun c0 => ?_)
    · repeat' walk_at "dq"
      exact ⟨_, ⟨a + c, b + d, c, d, t / 2, rfl, by omega, hd, by rw [m2]; exact h1, by omega, by omega, by omega, by omega, by omega, by omega⟩, by walk_at "less"⟩
    · repeat' walk_at "dq"
      exact ⟨_, ⟨a, b, a + c, b + d, t / 2, rfl, hb, by omega, by rw [m1]; exact h1, by omega, by omega, by omega, by omega, by omega, by omega⟩, by walk_at "less"⟩
  · rintro y2 y' ⟨a, b, c, d, t, rfl, hb, hd, h1, qa, qc, qb, qd, _, _⟩ hl
    refine wS_weak ?_ hl
    rw [rangeD_len] at qa qc qb qd
    have hn : n.toNat ≤ 16 := by omega
    have p1 : (2 : Nat) ^ n.toNat ≤ 2 ^ 16 := Nat.pow_le_pow_right (by decide) hn
    have p2 : (2 : Int) ^ n.toNat ≤ 2 ^ 16 := by exact_mod_cast p1
    repeat' walk_at "dq"
    exact hz _ _ _ ⟨a, b, c, d, rfl, hb, hd, h1, by unfold Bd; omega, by unfold Bd; omega, by unfold Bd; omega, by unfold Bd; omega⟩ rfl (by show m - 3 ≤ _; omega)
abbrev s_least_whole : Stmt := topS 24
abbrev N_least_whole : List Str := ["low", "low_in", "whole"]
theorem sc_least_whole : FnScope N_least_whole ["low", "low_in"] (defScope s_least_whole) := ⟨rfl, rfl, rfl, by decide +kernel, rfl, by decide +kernel, by decide +kernel⟩
theorem ok_least_whole (d : Df K mg "least_whole" s_least_whole ["low", "low_in"])  : Cal P w K mg base 1 "least_whole" ["low", "low_in"] (sp_least_whole K) := by
  refine d.ok sc_least_whole (pureSp_len rfl) (fun f cdv A outer s H vs Q E hr hgu h => ?_)
  refine ⟨_, (pss_cons (ps_if (pt_cmpR op_isN (pv 0) pe_non (nomark _)) (pss_one (ps_ret pe_non)) pss_nil)
    (pss_cons (ps_set (i := 2) sc_least_whole.nd rfl (Or.inl rfl) (pe_op op_fdivW (pe_ix (ixK K) (pv 0) pe_int (fun _ _ => rfl)) (pe_ix (ixK K) (pv 0) pe_int (fun _ _ => rfl))))
    (pss_one (ps_ret (pe_ifExp (PW.pt (pw_and (pt_cmpR op_eq (pe_ix (ixK K) (pv 0) pe_int (fun _ _ => rfl)) pe_int (nomark _)) (pw_and1 (pt_val (pv 1))))) (pv 2) (pe_op op_add (pv 2) pe_int)))))), ?_⟩
  try dsimp only [cxOf]
  refine pure_body h (fun ds hl hp e hn hz => ?_)
  obtain ⟨L, li, rfl, hb⟩ := hp
  have fin : ∀ (d : D) y, d = oD (lwD L li) → e.rt (.d d) y := fun d y h => hz _ _ (fun L' li' e' => by
    rw [List.cons.injEq, List.cons.injEq] at e'
    obtain ⟨e1, e2, _⟩ := e'
    obtain rfl := bnD_inj e1
    cases e2
    exact h)
  match L with
  | none =>
    show wS _ _ [some (.d (PyData.none)), some (.d (.bool li)), none] _
    repeat' walk_at "dq"
    exact fin _ _ rfl
  | some (a, b) =>
    obtain ⟨b1, ba, bb⟩ := hb a b rfl
    have fin : ∀ (n : Int) y, n = (if b = 1 ∧ li = true then a / b else a / b + 1) → e.rt (.d (.int n)) y := fun n y h => fin _ y (by rw [h]; rfl)
    show wS _ _ [some (.d (fr a b)), some (.d (.bool li)), none] _
    repeat' walk_at "dq"
    refine ite2 (fun c => ?_) (fun c => ?_)
    · have c := of_decide_eq_true c
      cases li with
      | true =>
        repeat' walk_at "dq"
        exact fin _ _ (by rw [if_pos ⟨c, rfl⟩])
      | false =>
        repeat' walk_at "dq"
        exact fin _ _ (by rw [if_neg (fun z => by cases z.2)])
    · have c := of_decide_eq_false (Bool.eq_false_iff.mpr c)
      repeat' walk_at "dq"
      exact fin _ _ (by rw [if_neg (fun z => c z.1)])
abbrev s_greatest_whole : Stmt := topS 25
abbrev N_greatest_whole : List Str := ["high", "high_in", "whole"]
theorem sc_greatest_whole : FnScope N_greatest_whole ["high", "high_in"] (defScope s_greatest_whole) := ⟨rfl, rfl, rfl, by decide +kernel, rfl, by decide +kernel, by decide +kernel⟩
theorem ok_greatest_whole (d : Df K mg "greatest_whole" s_greatest_whole ["high", "high_in"])  : Cal P w K mg base 1 "greatest_whole" ["high", "high_in"] (sp_greatest_whole K) := by
  refine d.ok sc_greatest_whole (pureSp_len rfl) (fun f cdv A outer s H vs Q E hr hgu h => ?_)
  refine ⟨_, (pss_cons (ps_if (pt_cmpR op_isN (pv 0) pe_non (nomark _)) (pss_one (ps_ret pe_non)) pss_nil)
    (pss_cons (ps_set (i := 2) sc_greatest_whole.nd rfl (Or.inl rfl) (pe_op op_sub pe_int (pe_op op_fdivW (pe_op op_sub pe_int (pe_ix (ixK K) (pv 0) pe_int (fun _ _ => rfl))) (pe_ix (ixK K) (pv 0) pe_int (fun _ _ => rfl)))))
    (pss_one (ps_ret (pe_ifExp (PW.pt (pw_and (pt_cmpR op_eq (pe_ix (ixK K) (pv 0) pe_int (fun _ _ => rfl)) pe_int (nomark _)) (pw_and1 (pt_val (pv 1))))) (pv 2) (pe_op op_sub (pv 2) pe_int)))))), ?_⟩
  try dsimp only [cxOf]
  refine pure_body h (fun ds hl hp e hn hz => ?_)
  obtain ⟨L, li, rfl, hb⟩ := hp
  have fin : ∀ (d : D) y, d = oD (gwD L li) → e.rt (.d d) y := fun d y h => hz _ _ (fun L' li' e' => by
    rw [List.cons.injEq, List.cons.injEq] at e'
    obtain ⟨e1, e2, _⟩ := e'
    obtain rfl := bnD_inj e1
    cases e2
    exact h)
  match L with
  | none =>
    show wS _ _ [some (.d (PyData.none)), some (.d (.bool li)), none] _
    repeat' walk_at "dq"
    exact fin _ _ rfl
  | some (a, b) =>
    obtain ⟨b1, ba, bb⟩ := hb a b rfl
    have fin : ∀ (n : Int) y, n = (if b = 1 ∧ li = true then 0 - (0 - a) / b else 0 - (0 - a) / b - 1) → e.rt (.d (.int n)) y := fun n y h => fin _ y (by rw [h]; rfl)
    show wS _ _ [some (.d (fr a b)), some (.d (.bool li)), none] _
    repeat' walk_at "dq"
    refine ite2 (fun c => ?_) (fun c => ?_)
    · have c := of_decide_eq_true c
      cases li with
      | true =>
        repeat' walk_at "dq"
        exact fin _ _ (by rw [if_pos ⟨c, rfl⟩])
      | false =>
        repeat' walk_at "dq"
        exact fin _ _ (by rw [if_neg (fun z => by cases z.2)])
    · have c := of_decide_eq_false (Bool.eq_false_iff.mpr c)
      repeat' walk_at "dq"
      exact fin _ _ (by rw [if_neg (fun z => c z.1)])
abbrev s_whole_in : Stmt := topS 26
abbrev N_whole_in : List Str := ["first", "last"]
theorem sc_whole_in : FnScope N_whole_in ["first", "last"] (defScope s_whole_in) := ⟨rfl, rfl, rfl, by decide +kernel, rfl, by decide +kernel, by decide +kernel⟩
theorem ok_whole_in (d : Df K mg "whole_in" s_whole_in ["first", "last"])  : Cal P w K mg base 1 "whole_in" ["first", "last"] (sp_whole_in K) := by
  refine d.ok sc_whole_in (pureSp_len rfl) (fun f cdv A outer s H vs Q E hr hgu h => ?_)
  refine ⟨_, (pss_cons (ps_if (PW.pt (pw_and (pt_cmpR op_notN (pv 0) pe_non (nomark _)) (pw_and (pt_cmpR op_notN (pv 1) pe_non (nomark _)) (pw_and1 (pt_cmpR op_gt (pv 0) (pv 1) (nomark _)))))) (pss_one (ps_ret pe_non)) pss_nil)
    (pss_cons (ps_if (PW.pt (pw_and (pt_cmpR op_notN (pv 0) pe_non (nomark _)) (pw_and1 (pt_cmpR op_gt (pv 0) pe_int (nomark _))))) (pss_one (ps_ret (pv 0))) pss_nil)
    (pss_cons (ps_if (PW.pt (pw_and (pt_cmpR op_notN (pv 1) pe_non (nomark _)) (pw_and1 (pt_cmpR op_lt (pv 1) pe_int (nomark _))))) (pss_one (ps_ret (pv 1))) pss_nil)
    (pss_one (ps_ret pe_int))))), ?_⟩
  try dsimp only [cxOf]
  refine pure_body h (fun ds hl hp e hn hz => ?_)
  obtain ⟨f, l, rfl⟩ := hp
  have fin : ∀ (d : D) y, d = oD (whD f l) → e.rt (.d d) y := fun d y h => hz _ _ (fun L' li' e' => by
    rw [List.cons.injEq, List.cons.injEq] at e'
    obtain ⟨e1, e2, _⟩ := e'
    obtain rfl := oD_inj e1
    obtain rfl := oD_inj e2
    exact h)
  match f, l with
  | none, none =>
    show wS _ _ [some (.d (PyData.none)), some (.d (PyData.none))] _
    repeat' walk_at "dq"
    exact fin _ _ rfl
  | some f, none =>
    have fin : ∀ (n : Int) y, n = (if 0 < f then f else 0) → e.rt (.d (.int n)) y := fun n y h => fin _ y (by rw [h]; rfl)
    show wS _ _ [some (.d (.int f)), some (.d (PyData.none))] _
    repeat' walk_at "dq"
    refine ite2 (fun c => ?_) (fun c => ?_)
    · have c := of_decide_eq_true c
      repeat' walk_at "dq"
      exact fin _ _ (by rw [if_pos c])
    · have c := of_decide_eq_false (Bool.eq_false_iff.mpr c)
      repeat' walk_at "dq"
      exact fin _ _ (by rw [if_neg c])
  | none, some l =>
    have fin : ∀ (n : Int) y, n = (if l < 0 then l else 0) → e.rt (.d (.int n)) y := fun n y h => fin _ y (by rw [h]; rfl)
    show wS _ _ [some (.d (PyData.none)), some (.d (.int l))] _
    repeat' walk_at "dq"
    refine ite2 (fun c => ?_) (fun c => ?_)
    · have c := of_decide_eq_true c
      repeat' walk_at "dq"
      exact fin _ _ (by rw [if_pos c])
    · have c := of_decide_eq_false (Bool.eq_false_iff.mpr c)
      repeat' walk_at "dq"
      exact fin _ _ (by rw [if_neg c])
  | some f, some l =>
    have fin : ∀ (d : D) y, d = oD (if l < f then none else some (if 0 < f then f else if l < 0 then l else 0)) → e.rt (.d d) y := fun d y h => fin d y h
    show wS _ _ [some (.d (.int f)), some (.d (.int l))] _
    repeat' walk_at "dq"
    refine ite2 (fun c => ?_) (fun c => ?_)
    · have c := of_decide_eq_true c
      repeat' walk_at "dq"
      exact fin _ _ (by rw [if_pos c]; rfl)
    · have c := of_decide_eq_false (Bool.eq_false_iff.mpr c)
      rw [if_neg c] at fin
      repeat' walk_at "dq"
      refine ite2 (fun c => ?_) (fun c => ?_)
      · have c := of_decide_eq_true c
        repeat' walk_at "dq"
        exact fin _ _ (by rw [if_pos c]; rfl)
      · have c := of_decide_eq_false (Bool.eq_false_iff.mpr c)
        rw [if_neg c] at fin
        repeat' walk_at "dq"
        refine ite2 (fun c => ?_) (fun c => ?_)
        · have c := of_decide_eq_true c
          repeat' walk_at "dq"
          exact fin _ _ (by rw [if_pos c]; rfl)
        · have c := of_decide_eq_false (Bool.eq_false_iff.mpr c)
          repeat' walk_at "dq"
          exact fin _ _ (by rw [if_neg c]; rfl)
abbrev s_over_rest : Stmt := topS 27
abbrev N_over_rest : List Str := ["bound", "whole", "top"]
theorem sc_over_rest : FnScope N_over_rest ["bound", "whole"] (defScope s_over_rest) := ⟨rfl, rfl, rfl, by decide +kernel, rfl, by decide +kernel, by decide +kernel⟩
theorem ok_over_rest (d : Df K mg "over_rest" s_over_rest ["bound", "whole"])  : Cal P w K mg base 1 "over_rest" ["bound", "whole"] (sp_over_rest K) := by
  refine d.ok sc_over_rest (pureSp_len rfl) (fun f cdv A outer s H vs Q E hr hgu h => ?_)
  refine ⟨_, (pss_cons (ps_set (i := 2) sc_over_rest.nd rfl (Or.inl rfl) (pe_op op_sub (pe_ix (ixK K) (pv 0) pe_int (fun _ _ => rfl)) (pe_op op_mulW (pv 1) (pe_ix (ixK K) (pv 0) pe_int (fun _ _ => rfl)))))
    (pss_one (ps_ret (pe_ifExp (pt_cmpR op_eq (pv 2) pe_int (nomark _)) pe_non (pe_tup (pa_cons (pe_ix (ixK K) (pv 0) pe_int (fun _ _ => rfl)) (pa_cons (pv 2) pa_nil))))))), ?_⟩
  try dsimp only [cxOf]
  refine pure_body h (fun ds hl hp e hn hz => ?_)
  obtain ⟨a, b, w, rfl, ba, bb, bw⟩ := hp
  have fin : ∀ (d : D) y, d = bnD (overR (a, b) w) → e.rt (.d d) y := fun d y h => hz _ _ (fun a' b' w' e' => by cases e'; exact h)
  have bwb : Bd 121 (w * b) := Bd.mul bw bb
  show wS _ _ [some (.d (fr a b)), some (.d (.int w)), none] _
  repeat' walk_at "dq"
  have eo : overR (a, b) w = if a - w * b = 0 then none else some (b, a - w * b) := rfl
  rw [eo] at fin
  refine ite2 (fun c => ?_) (fun c => ?_)
  · have c := of_decide_eq_true c
    repeat' walk_at "dq"
    exact fin _ _ (by rw [if_pos c]; rfl)
  · have c := of_decide_eq_false (Bool.eq_false_iff.mpr c)
    repeat' walk_at "dq"
    exact fin _ _ (by rw [if_neg c]; rfl)
abbrev s_law_papers : Stmt := topS 40
abbrev N_law_papers : List Str := ["_law_low", "_law_high", "_law_a", "_law_b", "_law_c", "_law_d", "_law_found"]
theorem sc_law_papers : FnScope N_law_papers ["_law_low", "_law_high"] (defScope s_law_papers) := ⟨rfl, rfl, rfl, by decide +kernel, rfl, by decide +kernel, by decide +kernel⟩
theorem ok_law_papers (d : Df K mg "_law_papers" s_law_papers ["_law_low", "_law_high"])  : Cal P w K mg base 1 "_law_papers" ["_law_low", "_law_high"] (sp_law_papers K) := by
  refine d.ok sc_law_papers (pureSp_len rfl) (fun f cdv A outer s H vs Q E hr hgu h => ?_)
  refine ⟨_, (pss_cons (ps_asg (pv 0) (pgT K rfl (pgs_cons (pg_name (i := 2) sc_law_papers.nd rfl (Or.inl rfl)) (pgs_cons (pg_name (i := 3) sc_law_papers.nd rfl (Or.inl rfl)) pgs_nil))))
    (pss_cons (ps_asg (pv 1) (pgT K rfl (pgs_cons (pg_name (i := 4) sc_law_papers.nd rfl (Or.inl rfl)) (pgs_cons (pg_name (i := 5) sc_law_papers.nd rfl (Or.inl rfl)) pgs_nil))))
    (pss_cons (ps_set (i := 6) sc_law_papers.nd rfl (Or.inl rfl) (pe_lst (pa_cons (pe_tup (pa_cons (pe_op op_add (pv 2) (pv 4)) (pa_cons (pe_op op_add (pv 3) (pv 5)) pa_nil))) (pa_cons (pe_tup (pa_cons (pe_op op_add (pe_op op_add (pv 2) (pv 4)) pe_int) (pa_cons (pe_op op_add (pv 3) (pv 5)) pa_nil))) (pa_cons (pe_tup (pa_cons (pe_op op_add (pv 2) (pv 4)) (pa_cons (pe_op op_add (pe_op op_add (pv 3) (pv 5)) pe_int) pa_nil))) (pa_cons (pe_tup (pa_cons (pe_op op_mulW pe_int (pe_op op_add (pv 2) (pv 4))) (pa_cons (pe_op op_mulW pe_int (pe_op op_add (pv 3) (pv 5))) pa_nil))) (pa_cons (pv 0) (pa_cons (pv 1) pa_nil))))))))
    (pss_cons (ps_set (i := 6) sc_law_papers.nd rfl (Or.inl rfl) (pe_op (catK K) (pv 6) (pe_lst (pa_cons (pe_tup (pa_cons (pe_op op_add (pe_op op_mulW pe_int (pv 2)) (pv 4)) (pa_cons (pe_op op_add (pe_op op_mulW pe_int (pv 3)) (pv 5)) pa_nil))) (pa_cons (pe_tup (pa_cons (pe_op op_add (pv 2) (pe_op op_mulW pe_int (pv 4))) (pa_cons (pe_op op_add (pv 3) (pe_op op_mulW pe_int (pv 5))) pa_nil))) (pa_cons (pe_lst (pa_cons (pe_op op_add (pv 2) (pv 4)) (pa_cons (pe_op op_add (pv 3) (pv 5)) pa_nil))) (pa_cons (pe_tup (pa_cons (pe_op op_add (pv 2) (pv 4)) (pa_cons (pe_op op_add (pv 3) (pv 5)) (pa_cons pe_int pa_nil)))) (pa_cons (pe_tup (pa_cons (pe_op op_add (pv 2) (pv 4)) pa_nil)) (pa_cons pe_non pa_nil)))))))))
    (pss_one (ps_ret (pe_op (catK K) (pv 6) (pe_lst (pa_cons pe_bl (pa_cons pe_str (pa_cons pe_dnewK (pa_cons (pe_op op_add (pv 2) (pv 4)) (pa_cons (pe_tup (pa_cons (pe_op op_add (pv 2) (pv 4)) (pa_cons pe_bl pa_nil))) (pa_cons (pe_tup (pa_cons pe_str (pa_cons (pe_op op_add (pv 3) (pv 5)) pa_nil))) (pa_cons (pe_tup (pa_cons (pe_op op_sub (pe_op op_sub pe_int (pv 2)) (pv 4)) (pa_cons (pe_op op_sub (pe_op op_sub pe_int (pv 3)) (pv 5)) pa_nil))) (pa_cons (pe_tup (pa_cons pe_non (pa_cons pe_int pa_nil))) (pa_cons (pe_tup (pa_cons pe_int (pa_cons pe_int pa_nil))) (pa_cons (pe_tup pa_nil) pa_nil)))))))))))))))))), ?_⟩
  try dsimp only [cxOf]
  refine pure_body h (fun ds hl hp e hn hz => ?_)
  obtain ⟨a, b, c, d, rfl, h⟩ := hp
  obtain ⟨b1, d1, one, ba, bb, bc, bd⟩ := h
  have fin : ∀ (r : D) y, r = .list (papersD a b c d) → e.rt (.d r) y := fun r y h => hz _ _ (fun a' b' c' d' e' => by cases e'; exact h)
  show wS _ _ [some (.d (fr a b)), some (.d (fr c d)), none, none, none, none, none] _
  repeat' walk_at "dq"
  exact fin _ _ rfl
end
end Tq
namespace Ux
open PySem PySem.Spec PyProof.Rows L2 Tq
open PySem.NumText (digitsVal AllDigits)
local macro_rules | `(tactic| walk_at "lessu") => `(tactic| (refine less_mk' ?_ ?_; (repeat' (first | exact less_nil | refine less_none ?_ | refine less_some ?_)); (first | exact List.nil_sublist _ | exact List.Sublist.refl _ | decide)))
local macro_rules | `(tactic| walk_at "bd") => `(tactic| (repeat' (first | assumption | with_reducible apply Bd.mul | with_reducible apply Bd.add | with_reducible apply Bd.sub | with_reducible apply Bd.neg | (with_reducible apply Bd.div; rotate_left; omega) | exact Bd.lit (k := 40) (by first | decide | omega))))
local macro_rules | `(tactic| walk_at "uy") => `(tactic| (first
  | (with_reducible show wS _ _ (S.set _ _ _) _; refine wS_norm (by simp only [S.set, List.set]; first | done | exact rfl) ?_)
  | (with_reducible show wE _ (tVar _) _ _; refine wE_var rfl ?_)
  | (with_reducible show wE _ (tC (.int _)) _ _; refine wE_int ?_)
  | (with_reducible show wE _ (tC (.str _)) _ _; refine wE_str ?_)
  | (with_reducible show wE _ (tC (.bl _)) _ _; refine wE_bl ?_)
  | (with_reducible show wE _ (tC .non) _ _; refine wE_non ?_)
  | (with_reducible show wD _ (tCons _ _) _ _; refine wD_cons ?_)
  | (with_reducible show wZ _ (tCons _ _) _ _; refine wZ_cons ?_)
  | (with_reducible show wZ _ tNil _ _; refine wZ_nil ?_)
  | (with_reducible show wE _ (tTupZ _) _ _; refine xE_tupZ ?_)
  | (with_reducible show wE _ (tLstZ _) _ _; refine xE_lstZ ?_)
  | (with_reducible show wE _ (tLstL _) _ _; refine xE_lstL ?_)
  | (with_reducible show wE _ tDNewL _ _; refine xE_dnewL ?_)
  | (with_reducible show wE _ (tDispL _) _ _; first | refine xE_dispS (by constructor) ?_ | refine xE_dispI (by constructor) ?_)
  | (with_reducible show wE _ (tIsX _ _ _ _ _ _ (tVar _)) _ _; refine wE_isX (by assumption) rfl rfl ?_)
  | (with_reducible show wE _ (tOp (rEqNil _) _ _) _ _; refine wE_eqNil ?_)
  | (with_reducible show wIZ _ (iList _ _) _ _; refine wIZ_list ?_)
  | (with_reducible show wE _ (tCall (mSp _ _ _ _) _ _ _) _ _; refine wE_m ?_)
  | (with_reducible show wE _ (tOp rIsB _ _) _ _; refine wE_isB ?_)
  | (with_reducible show wE _ (tOp rNotB _ _) _ _; refine wE_notB ?_)
  | (with_reducible show wE _ (tCall (vSp _) _ _ _) _ _; refine wE_veryA ?_)
  | (with_reducible show wE _ (tCall (oSp _ _ _) _ _ _) _ _; first | refine wE_odd (j := 0) rfl rfl (by omega) ?_ | refine wE_odd (j := 1) rfl rfl (by omega) ?_ | refine wE_odd (j := 2) rfl rfl (by omega) ?_)
  | (with_reducible show wE _ (tXf _ _ _ _ _ (tVar _)) _ _; first | refine wE_field rfl rfl ?_ | refine wE_found rfl rfl ⟨rfl, rfl⟩ ?_ | refine wE_found rfl rfl (Res.kz (by assumption)) ?_ | refine wE_found rfl rfl ?_ ?_)
  | (with_reducible show wE _ (tOp (rCatL _) _ _) _ _; refine xE_catL ?_)
  | (with_reducible show wE _ (tLenL _ _) _ _; refine xE_lenL ?_)
  | (with_reducible show wE _ (tListL _ _) _ _; refine xE_listL ?_)
  | (with_reducible show wE _ (tTupL _ _) _ _; refine xE_tupL ?_)
  | (with_reducible show wE _ (tSl (rSlLab _) _ _ _) _ _; refine xE_slL ?_)
  | (with_reducible show wE _ (tCall (oaSp _ _ _ _ _) _ _ _) _ _; refine wE_oa ?_)
  | (with_reducible show wE _ (tCall (anSp _ _ _ _) _ _ _) _ _; refine wE_an ?_)
  | (with_reducible show wE _ (tCB (rReprX _) _) _ _; refine wE_reprX ?_)
  | (with_reducible show wE _ (tReprRX _ _) _ _; refine xE_reprRX ?_)
  | (with_reducible show wE _ (tCallS (xnSp _ _ _ _ _) _ _) _ _; refine wE_xn ?_)
  | (with_reducible show wE _ (tCallS _ _ _) _ _; refine wE_x ?_)
  | (with_reducible show wD _ tNil _ _; refine wD_nil ?_)
  | (with_reducible show wE _ (tOp (rI0 _) _ _) _ _; first | with_reducible refine wE_add ?_ | with_reducible refine wE_sub ?_ | with_reducible refine wE_lt ?_ | with_reducible refine wE_le ?_ | with_reducible refine wE_gt ?_ | with_reducible refine wE_ge ?_)
  | (with_reducible show wE _ (tOp (rI CPow _) (tC _) (tC _)) _ _; refine wE_powN ?_)
  | (with_reducible show wE _ (tDisp _) _ _; first | refine wE_dispS (by constructor) ?_ | refine wE_dispI (by constructor) ?_)
  | (with_reducible show wE _ (tCall (spTake _) _ _ _) _ _; first | refine wE_take (j := 0) rfl rfl ?_ | refine wE_take (j := 1) rfl rfl ?_ | refine wE_take (j := 2) rfl rfl ?_ | refine wE_take (j := 3) rfl rfl ?_)
  | (with_reducible show wE _ (tOp (rI _ _) _ _) _ _; first | with_reducible refine wE_mod ?_ | with_reducible refine wE_fdivW ?_ | with_reducible refine wE_mulW ?_ | with_reducible refine wE_pow ?_ | with_reducible refine wE_fdivZ ?_ | with_reducible refine wE_modN ?_ | with_reducible refine wE_mul ?_)
  | (with_reducible show wE _ (tCallR (detSp _ _ _ _) _ _) _ _; refine xE_detR ?_)
  | (with_reducible show wE _ (tCallR (pureSp _ _ _ _) _ _) _ _; refine xE_pureR ?_)
  | (with_reducible show wE _ (tIsiR _ _) _ _; refine xE_isiR ?_)
  | (with_reducible show wE _ (tReprR _ _) _ _; refine xE_reprR ?_)
  | (with_reducible show wE _ (tOp (rIxZ _) _ _) _ _; refine xE_ixZ ?_)
  | (with_reducible show wE _ (tOp (rCatZ _) _ _) _ _; refine xE_catZ ?_)
  | (with_reducible show wE _ (tCall (asSp _ _ _ _) _ _ _) _ _; refine wE_as ?_)
  | (with_reducible show wE _ (tOp (rIx _) _ _) _ _; refine wE_ix ?_)
  | (with_reducible show wE _ (tOp (rCatG _) _ _) _ _; refine wE_catG ?_)
  | (with_reducible show wE _ (tOp rEq _ _) _ _; refine wE_eqS ?_)
  | (with_reducible show wE _ (tOp rNe _ _) _ _; refine wE_neS ?_)
  | (with_reducible show wE _ (tOp (rEqD _) _ _) _ _; refine wE_eqD ?_)
  | (with_reducible show wE _ (tOp (rNeD _) _ _) _ _; refine wE_neD ?_)
  | (with_reducible show wE _ (tOp _ _ _) _ _; first | with_reducible refine wE_addS ?_ | with_reducible refine wE_isN ?_ | with_reducible refine wE_notN ?_ | with_reducible refine wE_inSign ?_ | with_reducible refine wE_ltS ?_ | with_reducible refine wE_leS ?_)
  | (with_reducible show wE _ (tUn _ _) _ _; refine wE_neg ?_)
  | (with_reducible show wE _ (tLst _) _ _; refine wE_lst ?_)
  | (with_reducible show wE _ (tTup _) _ _; refine wE_tup ?_)
  | (with_reducible show wE _ tDNewK _ _; refine wE_dnew ?_)
  | (with_reducible show wE _ (tCB (rIsi _) _) _ _; refine wE_isi ?_)
  | (with_reducible show wE _ (tCB (rIsiT _) _) _ _; refine wE_isi2 ?_)
  | (with_reducible show wE _ (tCB (rAll _) _) _ _; refine wE_all ?_)
  | (with_reducible show wE _ (tCB (rAny _) _) _ _; refine wE_any ?_)
  | (with_reducible show wE _ (tCB (rSum _) _) _ _; refine wE_sum ?_)
  | (with_reducible show wE _ (tCB (rRepr _) _) _ _; refine wE_reprS ?_)
  | (with_reducible show wE _ (tCB _ _) _ _; first | refine wE_len ?_ | with_reducible refine wE_abs ?_ | with_reducible refine wE_max2 ?_ | with_reducible refine wE_min2 ?_ | with_reducible refine wE_strI ?_ | with_reducible refine wE_intS ?_ | with_reducible refine wE_int1 ?_ | refine wE_listOf ?_ | refine wE_tupOf ?_)
  | (with_reducible show wE _ (tCall (detSp _ _ _ _) _ _ _) _ _; refine wE_det ?_)
  | (with_reducible show wE _ (tCall (pureSp _ _ _ _) _ _ _) _ _; refine wE_pure ?_)
  | (with_reducible show wE _ (tCall (puSp _ _ _ _ _) _ _ _) _ _; first | refine wE_pu (j := 0) rfl rfl ?_ | refine wE_pu (j := 1) rfl rfl ?_ | refine wE_pu (j := 2) rfl rfl ?_ | refine wE_pu (j := 3) rfl rfl ?_)
  | (with_reducible show wE _ (tSl _ _ _ _) _ _; refine wE_sl ?_)
  | (with_reducible show wO _ tNoPart _ _; refine wO_no ?_)
  | (with_reducible show wO _ (tPart _) _ _; refine wO_part ?_)
  | (with_reducible show wE _ (tChain _ _ _ _ _) _ _; first | with_reducible refine wE_chainI ?_ | with_reducible refine wE_chainS ?_)
  | (with_reducible show wE _ (tAndV _ _) _ _; refine wE_andV ?_)
  | (with_reducible show wE _ (tOrV _ _) _ _; refine wE_orV ?_)
  | (with_reducible show wE _ (tNotV _) _ _; refine wE_notV ?_)
  | (with_reducible show wE _ (tIf _ _ _) _ _; refine wE_if ?_)
  | (with_reducible show wE _ (tM1 _ _ _) _ _; first | with_reducible refine wE_starts ?_ | with_reducible refine wE_index ?_ | refine wE_join ?_)
  | (with_reducible show wT _ (tTest _) _ _; refine wT_test ?_)
  | (with_reducible show wT _ (tB _) _ _; refine wT_B ?_)
  | (with_reducible show wT _ (tAnd _ _) _ _; refine wT_and ?_)
  | (with_reducible show wT _ (tOr _ _) _ _; refine wT_or ?_)
  | (with_reducible show wT _ (tNot _) _ _; refine wT_not ?_)
  | (with_reducible show wT _ tYes _ _; refine wT_yes ?_)
  | (with_reducible show wS _ (tSeq (tDrop (tBM _ _ rAppend (tVar _) _)) _) _ _; first | refine wS_seq (wS_app (j := 0) rfl rfl ?_) | refine wS_seq (wS_app (j := 1) rfl rfl ?_) | refine wS_seq (wS_app (j := 2) rfl rfl ?_) | refine wS_seq (wS_app (j := 3) rfl rfl ?_))
  | (with_reducible show wE _ (tCall spPurse _ _ _) _ _; refine wE_purse ?_)
  | (with_reducible show wS _ (tSeq (tAsg _ (gName _)) _) _ _; refine wS_seqA ?_)
  | (with_reducible show wS _ (tSeq (tPar _ _ _) _) _ _; refine wS_seqP ?_)
  | (with_reducible show wS _ (tSeq (tIfS _ _ tNext) _) _ _; refine wS_seqI ?_)
  | (with_reducible show wS _ (tDrop (tCall _ _ _ _)) _ _; refine wS_drop ?_)
  | (with_reducible show wS _ (tDrop (tCallS _ _ _)) _ _; refine wS_drop ?_)
  | (with_reducible show wS _ (tSeq _ _) _ _; refine wS_seq ?_)
  | (with_reducible show wS _ (tAsg _ (gName _)) _ _; refine wS_asg ?_)
  | (with_reducible show wS _ (tAsg _ _) _ _; refine wS_asgG ?_)
  | (with_reducible show wS _ (tPar _ _ _) _ _; refine wS_par ?_)
  | (with_reducible show wS _ (tIfS _ _ tNext) _ _; refine wS_ifN ?_)
  | (with_reducible show wS _ (tIfS _ _ _) _ _; refine wS_if ?_)
  | (with_reducible show wS _ (tRet _) _ _; refine wS_ret ?_)
  | (with_reducible show wS _ tRetN _ _; refine wS_retN ?_)
  | (with_reducible show wS _ tNext _ _; refine wS_next ?_)
  | (with_reducible show wS _ (tAug _ _ _) _ _; refine wS_aug rfl ?_)
  | (with_reducible show wI _ (iList _ _) _ _; refine wI_list ?_)
  | (with_reducible show wI _ (iTup _ _) _ _; refine wI_tup ?_)
  | (with_reducible show wI _ (iAny _ _) _ _; refine wI_any rfl rfl ?_)
  | (with_reducible show wI _ (iStr _) _ _; refine wI_str ?_)
  | (with_reducible show wI _ (iRng1 _) _ _; refine wI_rng1 ?_)
  | (with_reducible show wI _ (iRng2 _) _ _; refine wI_rng2 ?_)
  | (with_reducible show wG _ (gName _) _ _ _; refine wG_name ?_)
  | (with_reducible show wG _ (gTup _ _ _) _ _ _; first | (refine wG_tup rfl ?_; dsimp only [List.map]) | refine wG_tupZ rfl ?_)
  | (with_reducible show wGs _ (gCons _ _) _ _ _; refine wGs_cons ?_)
  | (with_reducible show wGs _ gNil _ _ _; refine wGs_nil ?_)
  | (with_reducible show ∀ (_ : Addr), _; intro _; try dsimp only [List.cons_append, List.nil_append])
  | (with_reducible show @Exists _ _; first | refine ⟨_, _, rfl, rfl, by omega, fun r h0 h1 => ?_⟩ | refine ⟨_, rfl, ?_⟩ | refine ⟨_, _, rfl, dLen_str (by first | omega | decide), ?_⟩ | refine ⟨_, _, rfl, dCut_str (by first | omega | decide) _ _, ?_⟩ | refine ⟨_, _, rfl, rfl, sz_small (by first | omega | (simp only [strLen_append]; omega)), ?_⟩ | refine ⟨_, _, rfl, rfl, ?_⟩ | refine ⟨_, _, rfl, ?_⟩ | refine ⟨_, _, _, rfl, rfl, rfl, ?_⟩ | refine ⟨_, _, _, rfl, rfl, ?_⟩)
  | (with_reducible show CMulW _ _ ∧ _; refine ⟨Bd.mulW (by walk_at "bd") (by walk_at "bd"), ?_⟩)
  | (with_reducible show CDivW _ _ ∧ _; refine ⟨Bd.divW (by walk_at "bd") (by omega), ?_⟩)
  | (with_reducible show ShOk _ ∧ _; refine ⟨by assumption, ?_⟩)
  | (with_reducible show _ ∧ _; first | (refine ⟨sz_small ?_, ?_⟩; focus first | (simp; done) | (simp only [List.length_map, List.length_append, List.length_take, List.length_drop, List.length_cons, List.length_nil]; omega)) | (refine ⟨sz_lt1 ?_, ?_⟩; focus first | (simp; done) | (simp only [List.length_map, List.length_append, List.length_take, List.length_drop, List.length_cons, List.length_nil]; omega)) | refine and_sw ?_ ⟨rfl, trivial⟩ | refine and_sw ?_ ⟨rfl, ⟨_, rfl⟩⟩ | refine and_sw ?_ ⟨rfl, ⟨_, _, rfl⟩⟩ | refine and_sw ?_ ⟨rfl, ⟨_, _, _, rfl⟩⟩ | refine and_sw ?_ ⟨rfl, ⟨_, rfl, ?_⟩⟩ | refine and_sw ?_ ⟨rfl, ⟨_, _, rfl, ?_⟩⟩ | refine ⟨rfl, ?_⟩ | refine ⟨trivial, ?_⟩ | refine ⟨by omega, ?_⟩)
  | (with_reducible show _ ≤ sizeLine; exact sz_small (by omega))
  | fail))
local macro_rules | `(tactic| walk_at "ux") => `(tactic| (first | walk_at "uy"| (with_reducible show ite _ _ _; first | refine itb_t rfl ?_ | refine itb_f rfl ?_)))
abbrev sh_shows_between_0 : Shp := ⟨3, [], [.at 0, .at 1, .at 2, .df 0 false, .df 1 false]⟩
abbrev sh_shows_between_1 : Shp := ⟨3, ["high_in", "low_in"], [.at 0, .at 1, .at 2, .at 4, .at 3]⟩
abbrev shs_shows_between : List Shp := [sh_shows_between_0, sh_shows_between_1]
abbrev sh_between_0 : Shp := ⟨2, [], [.at 0, .at 1, .df 0 false, .df 1 false]⟩
abbrev sh_between_1 : Shp := ⟨4, [], [.at 0, .at 1, .at 2, .at 3]⟩
abbrev shs_between : List Shp := [sh_between_0, sh_between_1]

abbrev sp_need_fraction (K : Fg) (C : Addr) : Sp := xSp K 1 (fun _ _ => True) (fun _ ds z => fracB (a0 ds) = true ∧ z = .d .none) (fun zs ds ex => fracB (a0 ds) = false ∧ ex = ⟨.ref C, zs.getD 0 (.d .none)⟩)
def nbX (CF CN : Addr) (zs : List Z) (ds : List D) (ex : Ex) : Prop := (fracB (a0 ds) = false ∧ ex = ⟨.ref CF, zs.getD 0 (.d .none)⟩) ∨ (fracB (a0 ds) = true ∧ nOk (a1 ds) = false ∧ ex = ⟨.ref CN, zs.getD 1 (.d .none)⟩)
abbrev sp_need_both (K : Fg) (CF CN : Addr) : Sp := xSp K 2 (fun _ _ => True) (fun _ ds z => fracB (a0 ds) = true ∧ nOk (a1 ds) = true ∧ z = .d .none) (nbX CF CN)
abbrev sp_neighbours (K : Fg) (CF CN : Addr) : Sp := xSp K 2 (fun _ ds => fracB (a0 ds) = true → nOk (a1 ds) = true → ∃ p q N, ds = [fr p q, .int N] ∧ FN p q N) (fun _ ds z => ∃ p q N r, ds = [fr p q, .int N] ∧ FN p q N ∧ z = .d r ∧ NR p q N r) (nbX CF CN)

theorem row_len {p q : Int} : ∀ N : Nat, (rowE p q N).length ≤ 2 * N
  | 0 => Nat.le_refl _
  | N + 1 => by
    have h1 := step_len p q ((N : Int) + 1) (p * ((N : Int) + 1) / q + 1) (stepE p q ((N : Int) + 1) (rowE p q N) (p * ((N : Int) + 1) / q))
    have h2 := step_len p q ((N : Int) + 1) (p * ((N : Int) + 1) / q) (rowE p q N)
    have := row_len (p := p) (q := q) N
    show (stepE p q _ _ _).length ≤ _
    omega

abbrev sp_nearest (K : Fg) (CF CN : Addr) : Sp := xSp K 2 (fun _ ds => fracB (a0 ds) = true → nOk (a1 ds) = true → ∃ p q N, ds = [fr p q, .int N] ∧ FN p q N) (fun _ ds z => ∃ p q N x y, ds = [fr p q, .int N] ∧ FN p q N ∧ z = .d (fr x y) ∧ Bst p q N x y) (nbX CF CN)
def nOk2 : D → Bool
  | .int n => decide (1 ≤ n) && decide (n ≤ 200)
  | _ => false
def nrX (CF CN : Addr) (zs : List Z) (ds : List D) (ex : Ex) : Prop := (fracB (a0 ds) = false ∧ ex = ⟨.ref CF, zs.getD 0 (.d .none)⟩) ∨ (fracB (a0 ds) = true ∧ nOk2 (a1 ds) = false ∧ ex = ⟨.ref CN, zs.getD 1 (.d .none)⟩)
abbrev sp_nearest_row (K : Fg) (CF CN : Addr) : Sp := xnSp K 2 (fun _ ds => ∀ p q, a0 ds = fr p q → Bd 20 p ∧ Bd 20 q) (fun _ ds z nw => ∃ (p q : Int) (N : Nat) (l : Addr), ds = [fr p q, .int N] ∧ 1 ≤ q ∧ gcdI p q = 1 ∧ 1 ≤ N ∧ N ≤ 200 ∧ z = .lab l ∧ nw = [(l, .lst ((rowD (rowE p q N)).map Z.d))]) (nrX CF CN)
def nxB (x y : Int) : Option (Int × Int × Int) → Bool
  | none => true
  | some (_, a, b) => !(decide (a = x) && decide (b = y))
theorem row_nx {p q x y : Int} (hq : 0 < q) (i : Nat) (h : Bst p q ((i : Int) + 1) x y) : (nxB x y (rowE p q i).getLast? = true → rowE p q (i + 1) = rowE p q i ++ [((i : Int) + 1, x, y)]) ∧ (nxB x y (rowE p q i).getLast? = false → rowE p q (i + 1) = rowE p q i) := by
  cases i with
  | zero =>
    obtain ⟨g, h1, h2⟩ := row_one (p := p) hq
    obtain ⟨rfl, rfl⟩ := h2.uniq h
    exact ⟨fun _ => h1, fun z => by cases z⟩
  | succ i =>
    obtain ⟨n, a, b, h1, _, _⟩ := row_last (p := p) hq (i + 1) (by omega)
    have k := row_next hq (by omega) h1 h
    rw [h1, k]
    constructor
    · intro z
      have z : (!(decide (a = x) && decide (b = y))) = true := z
      rw [if_neg]
      rintro ⟨rfl, rfl⟩
      simp at z
    · intro z
      have z : (!(decide (a = x) && decide (b = y))) = false := z
      simp at z
      rw [if_pos z]
theorem rowd_app (E : List (Int × Int × Int)) (e : Int × Int × Int) : rowD (E ++ [e]) = rowD E ++ [.tuple [.int e.1, fr e.2.1 e.2.2]] := by unfold rowD; rw [List.map_append]; rfl
theorem rowd_last {E : List (Int × Int × Int)} {n a b : Int} (h : E.getLast? = some (n, a, b)) : dIx (.list (rowD E)) (-1) = some (.tuple [.int n, fr a b]) := by
  show atI (rowD E) (-1) = _
  have hne : E ≠ [] := fun z => by rw [z] at h; cases h
  rw [Tq.atI_last (by unfold rowD; intro z; exact hne (List.map_eq_nil_iff.mp z))]
  unfold rowD
  rw [List.getLast?_map, h]; rfl
theorem rowd_full {E : List (Int × Int × Int)} {e : Int × Int × Int} (h : E.getLast? = some e) : (rowD E).isEmpty = false := by
  cases E with
  | nil => cases h
  | cons _ _ => rfl
theorem elok_row (E : List (Int × Int × Int)) : ElOk (rowD E) := fun x hx => by
  obtain ⟨e, _, rfl⟩ := List.mem_map.mp hx
  exact ⟨rfl, by show max 0 (max (max 0 (max 0 0 ) + 1) 0) + 1 ≤ 60; decide⟩
theorem fr_inj {a b c d : Int} : PyData.eqv (fr a b) (fr c d) = (decide (a = c) && decide (b = d)) := by
  show (PyData.eqv (.int a) (.int c) && (PyData.eqv (.int b) (.int d) && true)) = _
  rw [eqv_int, eqv_int, Bool.and_true]

def bdB (d : D) : Bool := (match d with | .none => true | _ => false) || fracB d
theorem bdB_bn {d : D} (h : bdB d = true) : ∃ L, d = bnD L ∧ BdOk L := by
  cases d with
  | none => exact ⟨none, rfl, fun a b e => by cases e⟩
  | tuple xs =>
    have h : fracB (.tuple xs) = true := h
    obtain ⟨p, q, e, h1, h2⟩ := fracB_tup h
    rw [e]
    exact ⟨some (p, q), rfl, fun a b e => by cases e; exact ⟨h1, h2⟩⟩
  | _ => cases h
theorem bdB_of {L : Bn} (h : BdOk L) : bdB (bnD L) = true := by
  match L with
  | none => rfl
  | some (a, b) => exact fracB_fr (h a b rfl).1 (h a b rfl).2
def FB (k : Nat) (d : D) : Prop := ∀ a b, d = fr a b → Bd k a ∧ Bd k b
def rgX (CF CB : Addr) (d0 d1 : D) (li hi : Bool) (ex : Ex) : Prop := (bdB d0 = false ∧ ex = ⟨.ref CF, .d d0⟩) ∨ (bdB d0 = true ∧ bdB d1 = false ∧ ex = ⟨.ref CF, .d d1⟩) ∨ (∃ L H, d0 = bnD L ∧ d1 = bnD H ∧ BdOk L ∧ BdOk H ∧ ¬ RgOk L li H hi ∧ ex = ⟨.ref CB, .d (.tuple [d0, d1])⟩)
def rgP (zs : List Z) (ds : List D) : Prop := ∃ d0 d1 li hi, ds = [d0, d1, .bool li, .bool hi] ∧ zs = [.d d0, .d d1, .d (.bool li), .d (.bool hi)] ∧ FB 40 d0 ∧ FB 40 d1
abbrev sp_need_range (K : Fg) (CF CB : Addr) : Sp := xSp K 4 rgP (fun _ ds z => (∃ L H li hi, ds = [bnD L, bnD H, .bool li, .bool hi] ∧ RgOk L li H hi) ∧ z = .d .none) (fun _ ds ex => ∃ d0 d1 li hi, ds = [d0, d1, .bool li, .bool hi] ∧ rgX CF CB d0 d1 li hi ex)
abbrev sp_between (K : Fg) (CF CB : Addr) : Sp := xSp K 4 rgP (fun _ ds z => ∃ L H li hi p q, ds = [bnD L, bnD H, .bool li, .bool hi] ∧ RgOk L li H hi ∧ Good L li H hi p q ∧ Bd 130 p ∧ Bd 130 q ∧ z = .d (fr p q)) (fun _ ds ex => ∃ d0 d1 li hi, ds = [d0, d1, .bool li, .bool hi] ∧ rgX CF CB d0 d1 li hi ex)
theorem RgOk.not_of {L H : Bn} {li hi : Bool} {a b c d : Int} (e1 : L = some (a, b)) (e2 : H = some (c, d)) (h : ¬ (a * d < c * b ∨ (a * d = c * b ∧ li = true ∧ hi = true))) : ¬ RgOk L li H hi := fun z => h (z.2.2 a b c d e1 e2)

def shwP (zs : List Z) (ds : List D) : Prop := ∃ d0 d1 x li hi, ds = [d0, d1, x, .bool li, .bool hi] ∧ zs = [.d d0, .d d1, .d x, .d (.bool li), .d (.bool hi)] ∧ FB 40 d0 ∧ FB 40 d1 ∧ (isDict x = true ∨ SeqAt.shaped x = true)
def shwB (p q : Int) (x : D) : Bool := PyData.eqv (fr p q) x && fracB x
abbrev sp_shows_between (K : Fg) (CF CB : Addr) : Sp := xSp K 5 shwP (fun _ ds z => ∃ L H x li hi p q, ds = [bnD L, bnD H, x, .bool li, .bool hi] ∧ RgOk L li H hi ∧ Good L li H hi p q ∧ z = .d (.bool (shwB p q x))) (fun _ ds ex => ∃ d0 d1 x li hi, ds = [d0, d1, x, .bool li, .bool hi] ∧ rgX CF CB d0 d1 li hi ex)
def mdX (CF CB : Addr) (d0 d1 : D) (ex : Ex) : Prop := (fracB d0 = false ∧ ex = ⟨.ref CF, .d d0⟩) ∨ (fracB d0 = true ∧ fracB d1 = false ∧ ex = ⟨.ref CF, .d d1⟩) ∨ (∃ a b c d, d0 = fr a b ∧ d1 = fr c d ∧ fracB d0 = true ∧ fracB d1 = true ∧ c * b - a * d ≠ 1 ∧ ex = ⟨.ref CB, .d (.tuple [d0, d1])⟩)
abbrev sp_middle (K : Fg) (CF CB : Addr) : Sp := xSp K 2 (fun zs ds => ∃ d0 d1, ds = [d0, d1] ∧ zs = [.d d0, .d d1] ∧ FB 130 d0 ∧ FB 130 d1) (fun _ ds z => ∃ a b c d, ds = [fr a b, fr c d] ∧ c * b - a * d = 1 ∧ (fracB (fr a b) = true ∧ fracB (fr c d) = true) ∧ z = .d (fr (a + c) (b + d))) (fun _ ds ex => ∃ d0 d1, ds = [d0, d1] ∧ mdX CF CB d0 d1 ex)
def prX (CF CN : Addr) (d0 : D) (ex : Ex) : Prop := (fracB d0 = false ∧ ex = ⟨.ref CF, .d d0⟩) ∨ (∃ p, d0 = fr p 1 ∧ ex = ⟨.ref CN, .d d0⟩)
abbrev sp_parents (K : Fg) (CF CN : Addr) : Sp := xSp K 1 (fun zs ds => ∃ d0, ds = [d0] ∧ zs = [.d d0] ∧ FB 64 d0) (fun _ ds z => ∃ p q r, ds = [fr p q] ∧ FN p q (q - 1) ∧ z = .d r ∧ NR p q (q - 1) r) (fun _ ds ex => ∃ d0, ds = [d0] ∧ prX CF CN d0 ex)

def wrd (t : Str) (d : D) : D := .tuple [.str t, d]
def rgR (d0 d1 : D) (li hi : Bool) (r : D) : Prop := (bdB d0 = false ∧ r = wrd "fraction" d0) ∨ (bdB d0 = true ∧ bdB d1 = false ∧ r = wrd "fraction" d1) ∨ (∃ L H, d0 = bnD L ∧ d1 = bnD H ∧ BdOk L ∧ BdOk H ∧ ¬ RgOk L li H hi ∧ r = wrd "bounds" (.tuple [d0, d1]))
def mdR (d0 d1 : D) (r : D) : Prop := (fracB d0 = false ∧ r = wrd "fraction" d0) ∨ (fracB d0 = true ∧ fracB d1 = false ∧ r = wrd "fraction" d1) ∨ (∃ a b c d, d0 = fr a b ∧ d1 = fr c d ∧ fracB d0 = true ∧ fracB d1 = true ∧ c * b - a * d ≠ 1 ∧ r = wrd "bounds" (.tuple [d0, d1])) ∨ (∃ a b c d, d0 = fr a b ∧ d1 = fr c d ∧ c * b - a * d = 1 ∧ (fracB d0 = true ∧ fracB d1 = true) ∧ r = wrd "told" (fr (a + c) (b + d)))
def prR (d0 : D) (r : D) : Prop := (fracB d0 = false ∧ r = wrd "fraction" d0) ∨ (∃ p, d0 = fr p 1 ∧ r = wrd "none" d0) ∨ (∃ p q r', d0 = fr p q ∧ FN p q (q - 1) ∧ NR p q (q - 1) r' ∧ r = wrd "told" r')
def btR (d0 d1 : D) (b : Bool) (r : D) : Prop := rgR d0 d1 b true r ∨ (∃ L H p q, d0 = bnD L ∧ d1 = bnD H ∧ RgOk L b H true ∧ r = wrd "told" (fr p q))
def shR (d0 d1 x : D) (r : D) : Prop := rgR d0 d1 false false r ∨ (∃ L H p q, d0 = bnD L ∧ d1 = bnD H ∧ RgOk L false H false ∧ Good L false H false p q ∧ r = wrd "told" (.bool (shwB p q x)))
def askR (w : Int) (d0 d1 x : D) (r : D) : Prop := (w = 0 → ∀ b, x = .bool b → btR d0 d1 b r) ∧ (w = 1 → shR d0 d1 x r) ∧ (w = 2 → mdR d0 d1 r) ∧ (w = 3 → prR d0 r)
def askP (zs : List Z) (ds : List D) : Prop := ∃ w d0 d1 x, ds = [.int w, d0, d1, x] ∧ zs = [.d (.int w), .d d0, .d d1, .d x] ∧ 0 ≤ w ∧ w ≤ 3 ∧ FB 40 d0 ∧ FB 40 d1 ∧ (w = 0 → ∃ b, x = .bool b) ∧ (w = 1 → isDict x = true ∨ SeqAt.shaped x = true)
abbrev sp_law_asked (K : Fg) : Sp := asSp K 4 askP (fun _ ds z => ∃ w d0 d1 x r, ds = [.int w, d0, d1, x] ∧ z = .d r ∧ askR w d0 d1 x r)

abbrev sp_law_ends (K : Fg) : Sp := pureSp K 3 (fun ds => ∃ a b c d x, ds = [fr a b, fr c d, x] ∧ SB a b c d ∧ ShX x) (fun ds r => ∀ a b c d x, ds = [fr a b, fr c d, x] → r = .bool (decide (x.shown = (bestD a b c d).shown)))

theorem sb_l {a b c d : Int} {L H : Bn} (h0 : fr a b = bnD L) (h1 : fr c d = bnD H) : L = some (a, b) ∧ H = some (c, d) := ⟨(bnD_inj (L := some (a, b)) h0).symm, (bnD_inj (L := some (c, d)) h1).symm⟩
theorem sb_bd {a b c d : Int} (h : SB a b c d) : bdB (fr a b) = true ∧ bdB (fr c d) = true := ⟨fracB_fr h.b1 h.g1, fracB_fr h.d1 h.g2⟩
theorem sb_rg {a b c d : Int} (h : SB a b c d) {li hi : Bool} {r : D} : ¬ rgR (fr a b) (fr c d) li hi r := by
  rintro (⟨q, _⟩ | ⟨_, q, _⟩ | ⟨L, H, e0, e1, _, _, q, _⟩)
  · rw [(sb_bd h).1] at q; cases q
  · rw [(sb_bd h).2] at q; cases q
  · obtain ⟨rfl, rfl⟩ := sb_l e0 e1
    exact q (h.ok _ _)
theorem sb_rgX {a b c d : Int} (h : SB a b c d) {CF CB : Addr} {li hi : Bool} {ex : Ex} : ¬ rgX CF CB (fr a b) (fr c d) li hi ex := by
  rintro (⟨q, _⟩ | ⟨_, q, _⟩ | ⟨L, H, e0, e1, _, _, q, _⟩)
  · rw [(sb_bd h).1] at q; cases q
  · rw [(sb_bd h).2] at q; cases q
  · obtain ⟨rfl, rfl⟩ := sb_l e0 e1
    exact q (h.ok _ _)
theorem sh_told {a b c d : Int} (h : SB a b c d) {x r : D} (hr : shR (fr a b) (fr c d) x r) : r = wrd "told" (.bool (shwB (a + c) (b + d) x)) := by
  rcases hr with q | ⟨L, H, p, q, e0, e1, _, g, e⟩
  · exact absurd q (sb_rg h)
  · obtain ⟨rfl, rfl⟩ := sb_l e0 e1
    obtain ⟨rfl, rfl⟩ := good_mid h g
    exact e
theorem eqv_fr4 (p q u v : Int) : PyData.eqv (fr p q) (fr u v) = (decide (p = u) && decide (q = v)) := by
  show (PyData.eqv (.int p) (.int u) && (PyData.eqv (.int q) (.int v) && true)) = _
  rw [eqv_int, eqv_int, Bool.and_true]
theorem papers_first {a b c d : Int} (h : SB a b c d) {i : Nat} {x : D} (hx : (papersD a b c d)[i]? = some x) : shwB (a + c) (b + d) x = decide (i = 0) := by
  have h1 := h.b1
  have h2 := h.d1
  have g : gcdI (a + c) (b + d) = 1 := gcd_one (c := c) (d := d) (by have := h.one; grind)
  have no : ∀ {u v : Int} {n : Nat}, n ≠ 0 → ¬ (a + c = u ∧ b + d = v) → shwB (a + c) (b + d) (fr u v) = decide (n = 0) := fun {u v n} hn hz => by
    unfold shwB
    rw [eqv_fr4, decide_eq_false hn]
    by_cases z : a + c = u
    · rw [decide_eq_false (show ¬ b + d = v from fun z2 => hz ⟨z, z2⟩), Bool.and_false]; rfl
    · rw [decide_eq_false z]; rfl
  have nf : ∀ {x : D} {n : Nat}, n ≠ 0 → fracB x = false → shwB (a + c) (b + d) x = decide (n = 0) := fun hn hz => by
    unfold shwB
    rw [hz, Bool.and_false, decide_eq_false hn]
  rcases i with _ | _ | _ | _ | _ | _ | _ | _ | _ | _ | _ | _ | _ | _ | _ | _ | _ | _ | _ | _ | _ | _ | i
  all_goals first
    | (cases hx; exact no (by omega) (by omega))
    | (cases hx; exact nf (by omega) rfl)
    | skip
  · cases hx
    unfold shwB
    rw [eqv_fr4, fracB_fr (by omega) g]
    simp
  · simp [papersD] at hx
theorem papers_kind {a b c d : Int} (h : SB a b c d) : ∀ x ∈ papersD a b c d, (isDict x = true ∨ SeqAt.shaped x = true) ∧ ShX x := by
  obtain ⟨_, _, _, ba, bb, bc, bd⟩ := h
  have f : ∀ {u v : Int}, Bd 40 u → Bd 40 v → (isDict (fr u v) = true ∨ SeqAt.shaped (fr u v) = true) ∧ ShX (fr u v) := fun hu hv => ⟨.inr (shaped_fr _ _), (shx_fr (hu.mono (by decide)) (hv.mono (by decide))).ok⟩
  have n1 : Bd 30 (a + c) := (Bd.add ba bc).mono (by decide)
  have n2 : Bd 30 (b + d) := (Bd.add bb bd).mono (by decide)
  have si : ∀ {n : Int}, Bd 30 n → Shx 40 2 (.int n) := fun h => (rx_int (k := 30) h).mono (by decide) (by decide)
  have pl : ∀ {x : D}, SeqAt.shaped x = true → Shx 400 10 x → (isDict x = true ∨ SeqAt.shaped x = true) ∧ ShX x := fun h1 h2 => ⟨.inr h1, h2.ok⟩
  intro x hx
  unfold papersD at hx
  simp only [List.mem_cons, List.not_mem_nil, or_false] at hx
  have l0 : ∀ n : Int, n.natAbs < 10 → Bd 1 n := fun n h => h
  rcases hx with rfl | rfl | rfl | rfl | rfl | rfl | rfl | rfl | rfl | rfl | rfl | rfl | rfl | rfl | rfl | rfl | rfl | rfl | rfl | rfl | rfl | rfl
  · exact f (n1.mono (by decide)) (n2.mono (by decide))
  · exact f ((Bd.add n1 (l0 1 (by decide))).mono (by decide)) (n2.mono (by decide))
  · exact f (n1.mono (by decide)) ((Bd.add n2 (l0 1 (by decide))).mono (by decide))
  · exact f ((Bd.mul (l0 2 (by decide)) n1).mono (by decide)) ((Bd.mul (l0 2 (by decide)) n2).mono (by decide))
  · exact f (ba.mono (by decide)) (bb.mono (by decide))
  · exact f (bc.mono (by decide)) (bd.mono (by decide))
  · exact f ((Bd.add (Bd.mul (l0 2 (by decide)) ba) bc).mono (by decide)) ((Bd.add (Bd.mul (l0 2 (by decide)) bb) bd).mono (by decide))
  · exact f ((Bd.add ba (Bd.mul (l0 2 (by decide)) bc)).mono (by decide)) ((Bd.add bb (Bd.mul (l0 2 (by decide)) bd)).mono (by decide))
  · exact pl rfl ((rx_list (b := 40) (k := 2) (fun y hy => by
      simp only [List.mem_cons, List.not_mem_nil, or_false] at hy
      rcases hy with rfl | rfl <;> exact si (by assumption))).mono (by simp) (by decide))
  · exact pl rfl ((rx_tup (b := 40) (k := 2) (fun y hy => by
      simp only [List.mem_cons, List.not_mem_nil, or_false] at hy
      rcases hy with rfl | rfl | rfl <;> first | exact si (by assumption) | exact si (l0 1 (by decide) |>.mono (by decide)))).mono (by simp) (by decide))
  · exact pl rfl ((rx_tup (b := 40) (k := 2) (fun y hy => by
      simp only [List.mem_cons, List.not_mem_nil, or_false] at hy
      rcases hy with rfl
      exact si n1)).mono (by simp) (by decide))
  · exact ⟨.inr rfl, shXB_ok (by decide +kernel)⟩
  · exact ⟨.inr rfl, shXB_ok (by decide +kernel)⟩
  · exact ⟨.inr (by decide +kernel), shXB_ok (by decide +kernel)⟩
  · exact ⟨.inl rfl, shXB_ok (by decide +kernel)⟩
  · exact pl rfl ((si n1).mono (by decide) (by decide))
  · exact pl rfl ((rx_tup (b := 40) (k := 2) (fun y hy => by
      simp only [List.mem_cons, List.not_mem_nil, or_false] at hy
      rcases hy with rfl | rfl <;> first | exact si (by assumption) | exact ⟨by decide +kernel, by decide +kernel, by decide +kernel⟩)).mono (by simp) (by decide))
  · exact pl ((show SeqAt.shaped (.tuple [.str "1", .int (b + d)]) = SeqAt.shaped (.tuple [.str "1", .int 0]) from rfl).trans (by decide +kernel)) ((rx_tup (b := 40) (k := 2) (fun y hy => by
      simp only [List.mem_cons, List.not_mem_nil, or_false] at hy
      rcases hy with rfl | rfl <;> first | exact si (by assumption) | exact ⟨by decide +kernel, by decide +kernel, by decide +kernel⟩)).mono (by simp) (by decide))
  · exact f ((Bd.sub (Bd.sub (l0 0 (by decide)) ba) bc).mono (by decide)) ((Bd.sub (Bd.sub (l0 0 (by decide)) bb) bd).mono (by decide))
  · exact ⟨.inr rfl, shXB_ok (by decide +kernel)⟩
  · exact ⟨.inr rfl, shXB_ok (by decide +kernel)⟩
  · exact ⟨.inr rfl, shXB_ok (by decide +kernel)⟩
theorem sb_fb {a b c d : Int} (h : SB a b c d) : FB 40 (fr a b) ∧ FB 40 (fr c d) := ⟨fun u v e => by cases e; exact ⟨h.ba.mono (by decide), h.bb.mono (by decide)⟩, fun u v e => by cases e; exact ⟨h.bc.mono (by decide), h.bd.mono (by decide)⟩⟩
theorem shx_told (b : Bool) : ShX (wrd "told" (.bool b)) := by cases b <;> exact shXB_ok (by decide +kernel)
theorem shx_bool (b : Bool) : ShX (.bool b) := by cases b <;> exact shXB_ok (by decide +kernel)

abbrev sp_law_shown_right (K : Fg) : Sp := detSp K 2 (fun ds => ∃ a b c d, ds = [fr a b, fr c d] ∧ SB a b c d) (fun _ => .bool true)
abbrev sp_law_middle_right (K : Fg) : Sp := detSp K 2 (fun ds => ∃ a b c d, ds = [fr a b, fr c d] ∧ SB a b c d) (fun _ => .bool true)
abbrev sp_law_refused_right (K : Fg) : Sp := puSp K 2 (fun ds => ∃ a b c d, ds = [fr a b, fr c d] ∧ SB a b c d) (fun _ => 2) (fun _ r => r = .bool true)

theorem md_told {a b c d : Int} (h : SB a b c d) {r : D} (hr : mdR (fr a b) (fr c d) r) : r = wrd "told" (fr (a + c) (b + d)) := by
  rcases hr with ⟨q, _⟩ | ⟨_, q, _⟩ | ⟨a', b', c', d', e0, e1, _, _, q, _⟩ | ⟨a', b', c', d', e0, e1, _, _, e⟩
  · rw [fracB_fr h.b1 h.g1] at q; cases q
  · rw [fracB_fr h.d1 h.g2] at q; cases q
  · cases e0; cases e1
    exact absurd h.one q
  · cases e0; cases e1
    exact e
theorem md_not {a b c d : Int} (h1 : fracB (fr a b) = true) (h2 : fracB (fr c d) = true) (h : c * b - a * d ≠ 1) {r : D} (hr : mdR (fr a b) (fr c d) r) : r = wrd "bounds" (.tuple [fr a b, fr c d]) := by
  rcases hr with ⟨q, _⟩ | ⟨_, q, _⟩ | ⟨a', b', c', d', e0, e1, _, _, q, e⟩ | ⟨a', b', c', d', e0, e1, q, _, e⟩
  · rw [h1] at q; cases q
  · rw [h2] at q; cases q
  · exact e
  · cases e0; cases e1
    exact absurd q h
theorem pr_told {a b c d : Int} (h : SB a b c d) {r : D} (hr : prR (fr (a + c) (b + d)) r) : r = wrd "told" (.tuple [fr a b, fr c d]) := by
  have h1 := h.b1
  have h2 := h.d1
  have one := h.one
  have g : gcdI (a + c) (b + d) = 1 := gcd_one (c := c) (d := d) (by grind)
  rcases hr with ⟨q, _⟩ | ⟨p, e0, _⟩ | ⟨p, q, r', e0, _, nr, e⟩
  · rw [fracB_fr (by omega) g] at q; cases q
  · have := (PyData.int.inj (List.cons.inj (List.cons.inj (PyData.tuple.inj e0)).2).1)
    omega
  · cases e0
    have m1 : (a + c) * b - a * (b + d) = c * b - a * d := by grind
    have m2 : c * (b + d) - (a + c) * d = c * b - a * d := by grind
    have nb : NR (a + c) (b + d) (b + d - 1) (.tuple [fr a b, fr c d]) := .inr ⟨by omega, a, b, c, d, ⟨h1, h2, by omega, by omega, by omega, one, by omega, by omega⟩, rfl⟩
    rw [e, nr.uniq nb]
theorem pr_none {p : Int} {r : D} (hr : prR (fr p 1) r) : r = wrd "none" (fr p 1) := by
  rcases hr with ⟨q, _⟩ | ⟨p', e0, e⟩ | ⟨p', q, r', e0, f, _, _⟩
  · rw [fracB_fr (by decide) (gcd_o p)] at q; cases q
  · exact e
  · cases e0
    have := f.n1
    omega
theorem pr_bad {x r : D} (h : fracB x = false) (hr : prR x r) : r = wrd "fraction" x := by
  rcases hr with ⟨_, e⟩ | ⟨p', e0, _⟩ | ⟨p', q, r', e0, f, _, _⟩
  · exact e
  · rw [e0, fracB_fr (by decide) (gcd_o p')] at h; cases h
  · rw [e0, fracB_fr f.q1 f.g] at h; cases h
theorem shx_pair {x y : D} (hx : Shx 3300 1 x) (hy : Shx 3300 1 y) : Shx 7000 2 (.tuple [x, y]) := (rx_tup (b := 3300) (k := 1) (fun z hz => by
  simp only [List.mem_cons, List.not_mem_nil, or_false] at hz
  rcases hz with rfl | rfl <;> assumption)).mono (by simp) (by decide)
theorem shx_wrd {t : Str} {x : D} (ht : Shx 7000 2 (.str t)) (hx : Shx 7000 2 x) : ShX (wrd t x) := ((rx_tup (b := 7000) (k := 2) (xs := [.str t, x]) (fun z hz => by
  simp only [List.mem_cons, List.not_mem_nil, or_false] at hz
  rcases hz with rfl | rfl <;> assumption))).ok (by simp)
theorem shx_t : Shx 7000 2 (.str "told") ∧ Shx 7000 2 (.str "bounds") ∧ Shx 7000 2 (.str "none") ∧ Shx 7000 2 (.str "fraction") := ⟨⟨by decide +kernel, by decide +kernel, by decide +kernel⟩, ⟨by decide +kernel, by decide +kernel, by decide +kernel⟩, ⟨by decide +kernel, by decide +kernel, by decide +kernel⟩, ⟨by decide +kernel, by decide +kernel, by decide +kernel⟩⟩

def oddD : List D := [.bool true, .int 3, .str "1/2", .list [.int 1, .int 2], fr 2 4, fr 1 0, .tuple [.int 1], .tuple [.bool true, .int 2], .dict [], .str "", fr 1 (-2), .tuple [.str "1", .int 2], .list [], .bool false]
def OddT (x : D) : Prop := fracB x = false ∧ bdB x = false ∧ (isDict x = true ∨ SeqAt.shaped x = true) ∧ Shx 7000 2 x ∧ FB 40 x
theorem odd_t : ∀ x ∈ oddD, OddT x := by
  have fb : ∀ {u v : Int}, Bd 40 u → Bd 40 v → FB 40 (fr u v) := fun h1 h2 a b e => by cases e; exact ⟨h1, h2⟩
  intro x hx
  unfold oddD at hx
  simp only [List.mem_cons, List.not_mem_nil, or_false] at hx
  rcases hx with rfl | rfl | rfl | rfl | rfl | rfl | rfl | rfl | rfl | rfl | rfl | rfl | rfl | rfl
  all_goals refine ⟨by decide +kernel, by decide +kernel, by first | exact .inr (by decide +kernel) | exact .inl rfl, ⟨by decide +kernel, by decide +kernel, by decide +kernel⟩, ?_⟩
  all_goals first
    | exact fb (Bd.lit (by decide)) (Bd.lit (by decide))
    | exact fun _ _ e => by cases e
theorem ixD19 {ds : List D} {r : Int} {R : D → Prop} (h0 : 0 ≤ r) (h1 : r < ds.length) (h : ∀ n ∈ ds, R n) : ∃ d i g, Z.d (.list ds) = Z.d d ∧ Z.d (.int r) = Z.d (.int i) ∧ dIx d i = some g ∧ R g := by
  obtain ⟨u, hu, hm⟩ := atI_mem (xs := ds) h0 h1
  exact ⟨_, _, u, rfl, rfl, hu, h u hm⟩
theorem rg_bad {d0 d1 t r : D} {li hi : Bool} (h : d0 = t ∨ (bdB d0 = true ∧ d1 = t)) (ht : bdB t = false) (hr : rgR d0 d1 li hi r) : r = wrd "fraction" t := by
  rcases hr with ⟨q, e⟩ | ⟨q0, q1, e⟩ | ⟨L, H, e0, e1, o0, o1, _, _⟩
  · rcases h with rfl | ⟨z, _⟩
    · exact e
    · rw [q] at z; cases z
  · rcases h with rfl | ⟨_, rfl⟩
    · rw [q0] at ht; cases ht
    · exact e
  · rcases h with rfl | ⟨_, rfl⟩
    · rw [e0, bdB_of o0] at ht; cases ht
    · rw [e1, bdB_of o1] at ht; cases ht
theorem rg_no {d0 d1 t : D} {L H : Bn} {li hi : Bool} (h : d0 = t ∨ (bdB d0 = true ∧ d1 = t)) (ht : bdB t = false) (e0 : d0 = bnD L) (e1 : d1 = bnD H) (ok : RgOk L li H hi) : False := by
  rcases h with rfl | ⟨_, rfl⟩
  · rw [e0, bdB_of ok.1] at ht; cases ht
  · rw [e1, bdB_of ok.2.1] at ht; cases ht
theorem bt_bad {d0 d1 t r : D} {b : Bool} (h : d0 = t ∨ (bdB d0 = true ∧ d1 = t)) (ht : bdB t = false) (hr : btR d0 d1 b r) : r = wrd "fraction" t := by
  rcases hr with hr | ⟨L, H, p, q, e0, e1, ok, _⟩
  · exact rg_bad h ht hr
  · exact (rg_no h ht e0 e1 ok).elim
theorem sh_bad {d0 d1 t x r : D} (h : d0 = t ∨ (bdB d0 = true ∧ d1 = t)) (ht : bdB t = false) (hr : shR d0 d1 x r) : r = wrd "fraction" t := by
  rcases hr with hr | ⟨L, H, p, q, e0, e1, ok, _⟩
  · exact rg_bad h ht hr
  · exact (rg_no h ht e0 e1 ok).elim
theorem rg_nots {L H : Bn} {li hi : Bool} {r : D} (o0 : BdOk L) (o1 : BdOk H) (hr : rgR (bnD L) (bnD H) li hi r) : r = wrd "bounds" (.tuple [bnD L, bnD H]) := by
  rcases hr with ⟨q, e⟩ | ⟨q0, q1, e⟩ | ⟨_, _, _, _, _, _, _, e⟩
  · rw [bdB_of o0] at q; cases q
  · rw [bdB_of o1] at q1; cases q1
  · exact e
theorem bt_not {L H : Bn} {b : Bool} {r : D} (o0 : BdOk L) (o1 : BdOk H) (no : ¬ RgOk L b H true) (hr : btR (bnD L) (bnD H) b r) : r = wrd "bounds" (.tuple [bnD L, bnD H]) := by
  rcases hr with hr | ⟨L', H', p, q, e0, e1, ok, _⟩
  · exact rg_nots o0 o1 hr
  · obtain rfl := bnD_inj e0
    obtain rfl := bnD_inj e1
    exact absurd ok no
theorem sh_not {L H : Bn} {x r : D} (o0 : BdOk L) (o1 : BdOk H) (no : ¬ RgOk L false H false) (hr : shR (bnD L) (bnD H) x r) : r = wrd "bounds" (.tuple [bnD L, bnD H]) := by
  rcases hr with hr | ⟨L', H', p, q, e0, e1, ok, _⟩
  · exact rg_nots o0 o1 hr
  · obtain rfl := bnD_inj e0
    obtain rfl := bnD_inj e1
    exact absurd ok no
theorem sb_not {a b c d : Int} (h : SB a b c d) (li hi : Bool) : ¬ RgOk (some (c, d)) li (some (a, b)) hi := fun z => by
  have := z.2.2 c d a b rfl rfl
  have := h.one
  omega
theorem same_not {a b : Int} {li hi : Bool} (h : li = false) : ¬ RgOk (some (a, b)) li (some (a, b)) hi := fun z => by
  rcases z.2.2 a b a b rfl rfl with z | ⟨_, z, _⟩
  · omega
  · rw [h] at z; cases z
theorem rv_told {a b c d w : Int} {r : D} (h : SB a b c d) (hw : w = 0 ∨ w = 1) (hr : askR w (fr c d) (fr a b) (.bool true) r) : r = wrd "bounds" (.tuple [fr c d, fr a b]) := by
  have o0 : BdOk (some (c, d)) := fun x y e => by cases e; exact ⟨h.d1, h.g2⟩
  have o1 : BdOk (some (a, b)) := fun x y e => by cases e; exact ⟨h.b1, h.g1⟩
  rcases hw with rfl | rfl
  · exact bt_not (L := some (c, d)) (H := some (a, b)) o0 o1 (sb_not h _ _) (hr.1 rfl _ rfl)
  · exact sh_not (L := some (c, d)) (H := some (a, b)) o0 o1 (sb_not h _ _) (hr.2.1 rfl)
theorem sm_told {a b c d w : Int} {r : D} (h : SB a b c d) (hw : w = 0 ∨ w = 1) (hr : askR w (fr a b) (fr a b) (.bool false) r) : r = wrd "bounds" (.tuple [fr a b, fr a b]) := by
  have o1 : BdOk (some (a, b)) := fun x y e => by cases e; exact ⟨h.b1, h.g1⟩
  rcases hw with rfl | rfl
  · exact bt_not (L := some (a, b)) (H := some (a, b)) o1 o1 (same_not rfl) (hr.1 rfl _ rfl)
  · exact sh_not (L := some (a, b)) (H := some (a, b)) o1 o1 (same_not rfl) (hr.2.1 rfl)
theorem md_bad {d0 d1 t r : D} (h : d0 = t ∨ (fracB d0 = true ∧ d1 = t)) (ht : fracB t = false) (hr : mdR d0 d1 r) : r = wrd "fraction" t := by
  rcases hr with ⟨q, e⟩ | ⟨q0, q1, e⟩ | ⟨a', b', c', d', e0, e1, f0, f1, _, _⟩ | ⟨a', b', c', d', e0, e1, q, ⟨f0, f1⟩, e⟩
  · rcases h with rfl | ⟨z, _⟩
    · exact e
    · rw [q] at z; cases z
  · rcases h with rfl | ⟨_, rfl⟩
    · rw [q0] at ht; cases ht
    · exact e
  · rcases h with rfl | ⟨_, rfl⟩
    · rw [f0] at ht; cases ht
    · rw [f1] at ht; cases ht
  · rcases h with rfl | ⟨h1, rfl⟩
    · rw [f0] at ht; cases ht
    · rw [f1] at ht; cases ht

theorem row_third (L : Int) : rowE (1 + 3 * L) 3 2 = [(1, L, 1), (2, 2 * L + 1, 2)] := by
  show stepE (1 + 3 * L) 3 2 (stepE (1 + 3 * L) 3 2 (stepE (1 + 3 * L) 3 1 [(1, (1 + 3 * L) * 1 / 3, 1)] ((1 + 3 * L) * 1 / 3 + 1)) ((1 + 3 * L) * 2 / 3)) ((1 + 3 * L) * 2 / 3 + 1) = _
  have e1 : (1 + 3 * L) * 1 / 3 = L := by omega
  have e2 : (1 + 3 * L) * 2 / 3 = 2 * L := by omega
  have d1 : dst (1 + 3 * L) 3 L 1 = 1 := by unfold dst; split <;> omega
  have d2 : dst (1 + 3 * L) 3 (L + 1) 1 = 2 := by unfold dst; split <;> omega
  have d3 : dst (1 + 3 * L) 3 (2 * L) 2 = 2 := by unfold dst; split <;> omega
  have d4 : dst (1 + 3 * L) 3 (2 * L + 1) 2 = 1 := by unfold dst; split <;> omega
  rw [e1, e2, step_some (E := [(1, L, 1)]) rfl, if_neg (by rw [d1, d2]; decide), step_some (E := [(1, L, 1)]) rfl, if_neg (by rw [d1, d3]; decide), step_some (E := [(1, L, 1)]) rfl, if_pos (by rw [d1, d4]; decide), if_neg (by decide)]
  rfl

section
variable {P : Program} {w : World} {K : Fg} {mg : Str → Option Value} {base : Heap}
abbrev s_i_NoFraction : Stmt := clsFn (topS 5)
theorem sc_i_NoFraction : FnScope ["self", "found"] ["self", "found"] (defScope s_i_NoFraction) := ⟨rfl, rfl, rfl, by decide +kernel, rfl, by decide +kernel, by decide +kernel⟩
theorem xc_NoFraction {C : Addr} (T : XcT K mg "NoFraction" "NoFraction.__init__" s_i_NoFraction C) (tx : TxC K mg "TermError") : Xc P w K mg base "NoFraction" C :=
  xc_ok T sc_i_NoFraction "no fraction" fun fI cdv A outer s H E => pss_cons (ps_expr (pe_tinit (by rfl) tx (pa_cons (pv 0) (pa_cons pe_str pa_nil)))) (pss_one (ps_ost (pv 0) (pv 1)))
abbrev s_i_NoNumber : Stmt := clsFn (topS 4)
theorem sc_i_NoNumber : FnScope ["self", "found"] ["self", "found"] (defScope s_i_NoNumber) := ⟨rfl, rfl, rfl, by decide +kernel, rfl, by decide +kernel, by decide +kernel⟩
theorem xc_NoNumber {C : Addr} (T : XcT K mg "NoNumber" "NoNumber.__init__" s_i_NoNumber C) (tx : TxC K mg "TermError") : Xc P w K mg base "NoNumber" C :=
  xc_ok T sc_i_NoNumber "no whole number that may be there" fun fI cdv A outer s H E => pss_cons (ps_expr (pe_tinit (by rfl) tx (pa_cons (pv 0) (pa_cons pe_str pa_nil)))) (pss_one (ps_ost (pv 0) (pv 1)))
abbrev s_i_NoBounds : Stmt := clsFn (topS 6)
theorem sc_i_NoBounds : FnScope ["self", "found"] ["self", "found"] (defScope s_i_NoBounds) := ⟨rfl, rfl, rfl, by decide +kernel, rfl, by decide +kernel, by decide +kernel⟩
theorem xc_NoBounds {C : Addr} (T : XcT K mg "NoBounds" "NoBounds.__init__" s_i_NoBounds C) (tx : TxC K mg "TermError") : Xc P w K mg base "NoBounds" C :=
  xc_ok T sc_i_NoBounds "no bounds" fun fI cdv A outer s H E => pss_cons (ps_expr (pe_tinit (by rfl) tx (pa_cons (pv 0) (pa_cons pe_str pa_nil)))) (pss_one (ps_ost (pv 0) (pv 1)))
abbrev s_i_NoneThere : Stmt := clsFn (topS 7)
theorem sc_i_NoneThere : FnScope ["self", "found"] ["self", "found"] (defScope s_i_NoneThere) := ⟨rfl, rfl, rfl, by decide +kernel, rfl, by decide +kernel, by decide +kernel⟩
theorem xc_NoneThere {C : Addr} (T : XcTB beL K mg "NoneThere" "NoneThere.__init__" s_i_NoneThere C) (tx : TxB beL K mg "Lost") : XcB beL P w K mg base "NoneThere" C :=
  xcb_ok T sc_i_NoneThere "there is none" fun fI cdv A outer s H E => pss_cons (ps_expr (pe_tinitB (by rfl) tx (pa_cons (pv 0) (pa_cons pe_str pa_nil)) (by decide +kernel))) (pss_one (ps_ostB (pv 0) (pv 1)))
abbrev s_need_fraction : Stmt := topS 15
abbrev N_need_fraction : List Str := ["thing"]
theorem sc_need_fraction : FnScope N_need_fraction ["thing"] (defScope s_need_fraction) := ⟨rfl, rfl, rfl, by decide +kernel, rfl, by decide +kernel, by decide +kernel⟩
theorem ok_need_fraction (d : Df K mg "need_fraction" s_need_fraction ["thing"]) {C_NoFraction : Addr} (x_NoFraction : Xc P w K mg base "NoFraction" C_NoFraction) (c_is_fraction : Cal P w K mg base 2 "is_fraction" ["thing"] (sp_is_fraction K)) : CalX P w K mg base 3 "need_fraction" ["thing"] (Ux.sp_need_fraction K C_NoFraction) := by
  refine okX d sc_need_fraction (xSp_len rfl) (fun f cdv A outer s H vs Q E hr hgu h => ?_)
  refine ⟨_, (pss_one (ps_if (pt_not (pt_val (pe_calR c_is_fraction (hr.mono (by decide)) hgu (by rfl) (pa_cons (pv 0) pa_nil)))) (pss_one (ps_raiseF rfl x_NoFraction (hr.mono (by decide)) (takes_of rfl rfl rfl rfl) (pa_cons (pv 0) pa_nil) (by rfl))) pss_nil)), ?_⟩
  try dsimp only [cxOf]
  refine x_body h (fun mm zs ds hl hres hp e hnx hrt => ?_)
  obtain ⟨z, d, rfl, rfl, rs⟩ := resA1 hres hl
  show wS _ _ ⟨[some (z)], _⟩ _
  repeat' walk_at "ux"

  refine ⟨[d], .cons rs .nil, ⟨rfl, trivial⟩, rfl, ?_⟩
  repeat' walk_at "ux"
  cases hf : fracB d with
  | true =>
    rw [show fracB (a0 [d]) = true from hf]
    repeat' walk_at "ux"
    exact hnx _ ⟨hf, rfl⟩
  | false =>
    rw [show fracB (a0 [d]) = false from hf]
    repeat' walk_at "ux"
    refine wS_raise rfl x_NoFraction.oc x_NoFraction.no ?_
    repeat' walk_at "ux"
    all_goals (first | exact ⟨_, rfl, hf, rfl⟩ | exact ⟨hf, rfl⟩ | exact hf | rfl)
abbrev s_need_both : Stmt := topS 16
abbrev N_need_both : List Str := ["fraction", "bound"]
theorem sc_need_both : FnScope N_need_both ["fraction", "bound"] (defScope s_need_both) := ⟨rfl, rfl, rfl, by decide +kernel, rfl, by decide +kernel, by decide +kernel⟩
theorem ok_need_both (d : Df K mg "need_both" s_need_both ["fraction", "bound"]) {C_NoFraction C_NoNumber : Addr} (x_NoNumber : Xc P w K mg base "NoNumber" C_NoNumber) (c_is_number : Cal P w K mg base 1 "is_number" ["thing"] (sp_is_number K)) (c_need_fraction : CalX P w K mg base 3 "need_fraction" ["thing"] (Ux.sp_need_fraction K C_NoFraction)) : CalX P w K mg base 4 "need_both" ["fraction", "bound"] (Ux.sp_need_both K C_NoFraction C_NoNumber) := by
  refine okX d sc_need_both (xSp_len rfl) (fun f cdv A outer s H vs Q E hr hgu h => ?_)
  refine ⟨_, (pss_cons (ps_expr (pe_calX c_need_fraction (hr.mono (by decide)) hgu (by rfl) (takes_of rfl rfl rfl rfl) (pa_cons (pv 0) pa_nil)))
    (pss_one (ps_if (PW.pt (pw_or (pt_not (pt_val (pe_calR c_is_number (hr.mono (by decide)) hgu (by rfl) (pa_cons (pv 1) pa_nil)))) (pw_or1 (pt_cmpR op_lt (pv 1) pe_int (nomark _))))) (pss_one (ps_raiseF rfl x_NoNumber (hr.mono (by decide)) (takes_of rfl rfl rfl rfl) (pa_cons (pv 1) pa_nil) (by rfl))) pss_nil))), ?_⟩
  try dsimp only [cxOf]
  refine x_body h (fun mm zs ds hl hres hp e hnx hrt => ?_)
  obtain ⟨z, z', d, d', rfl, rfl, rs, rs'⟩ := resA2 hres hl
  show wS _ _ ⟨[some (z), some (z')], _⟩ _
  repeat' walk_at "ux"
  refine ⟨[d], .cons rs .nil, ⟨rfl, trivial⟩, fun r hr => ?_, fun ex hx => .inl hx⟩
  obtain ⟨hf, rfl⟩ := hr
  repeat' walk_at "ux"
  refine ⟨[d'], .cons rs' .nil, ⟨rfl, trivial⟩, rfl, ?_⟩
  repeat' walk_at "ux"
  cases hn : isNum d' with
  | true =>
    obtain ⟨n, rfl⟩ : ∃ n : Int, d' = .int n := by cases d' <;> first | exact ⟨_, rfl⟩ | cases hn
    obtain rfl := rs'.int
    rw [show isNum (a0 [PyData.int n]) = true from rfl]
    repeat' walk_at "ux"
    refine ite2 (fun b => ?_) (fun b => ?_)
    · have b := of_decide_eq_true b
      refine wS_raise rfl x_NoNumber.oc x_NoNumber.no ?_
      repeat' walk_at "ux"
      all_goals (first | rfl | exact .inr ⟨hf, decide_eq_false (by omega), rfl⟩)
    · have b := of_decide_eq_false (Bool.eq_false_iff.mpr b)
      exact hnx _ ⟨hf, decide_eq_true (by omega), rfl⟩
  | false =>
    rw [show isNum (a0 [d']) = false from hn]
    repeat' walk_at "ux"
    refine wS_raise rfl x_NoNumber.oc x_NoNumber.no ?_
    repeat' walk_at "ux"
    all_goals (first | rfl | exact .inr ⟨hf, (by cases d' <;> first | rfl | (cases hn)), rfl⟩)
abbrev s_neighbours : Stmt := topS 19
abbrev N_neighbours : List Str := ["fraction", "bound", "whole", "low", "high", "many"]
theorem sc_neighbours : FnScope N_neighbours ["fraction", "bound"] (defScope s_neighbours) := ⟨rfl, rfl, rfl, by decide +kernel, rfl, by decide +kernel, by decide +kernel⟩
theorem ok_neighbours (d : Df K mg "neighbours" s_neighbours ["fraction", "bound"]) {C_NoFraction C_NoNumber : Addr} (c_need_both : CalX P w K mg base 4 "need_both" ["fraction", "bound"] (Ux.sp_need_both K C_NoFraction C_NoNumber)) (c_moved : Cal P w K mg base 1 "moved" ["one", "other", "many"] (sp_moved K)) (c_gap : Cal P w K mg base 1 "gap" ["lesser", "greater"] (sp_gap K)) (b_min : mg "min" = none) : CalX P w K mg base 5 "neighbours" ["fraction", "bound"] (Ux.sp_neighbours K C_NoFraction C_NoNumber) := by
  refine okX d sc_neighbours (xSp_len rfl) (fun f cdv A outer s H vs Q E hr hgu h => ?_)
  refine ⟨_, (pss_cons (ps_expr (pe_calX c_need_both (hr.mono (by decide)) hgu (by rfl) (takes_of rfl rfl rfl rfl) (pa_cons (pv 0) (pa_cons (pv 1) pa_nil))))
    (pss_cons (ps_if (pt_cmpR op_le (pe_ix (ixK K) (pv 0) pe_int (fun _ _ => rfl)) (pv 1) (nomark _)) (pss_one (ps_ret (pe_tup (pa_cons (pv 0) (pa_cons (pv 0) pa_nil))))) pss_nil)
    (pss_cons (ps_set (i := 2) sc_neighbours.nd rfl (Or.inl rfl) (pe_op op_fdivW (pe_ix (ixK K) (pv 0) pe_int (fun _ _ => rfl)) (pe_ix (ixK K) (pv 0) pe_int (fun _ _ => rfl))))
    (pss_cons (ps_par (i := 3) (j := 4) (by rfl) sc_neighbours.nd rfl rfl (by decide) rfl rfl (pa_cons (pe_tup (pa_cons (pv 2) (pa_cons pe_int pa_nil))) (pa_cons (pe_tup (pa_cons (pe_op op_add (pv 2) pe_int) (pa_cons pe_int pa_nil))) pa_nil)) (by rfl))
    (pss_cons (ps_while (passes_of rfl) (pt_cmpR op_le (pe_op op_add (pe_ix (ixK K) (pv 3) pe_int (fun _ _ => rfl)) (pe_ix (ixK K) (pv 4) pe_int (fun _ _ => rfl))) (pv 1) (nomark _)) (pss_cons (ps_set (i := 5) sc_neighbours.nd rfl (Or.inl rfl) (pe_op op_fdivW (pe_cal c_gap (hr.mono (by decide)) hgu (by rfl) (pa_cons (pv 3) (pa_cons (pv 0) pa_nil))) (pe_cal c_gap (hr.mono (by decide)) hgu (by rfl) (pa_cons (pv 0) (pa_cons (pv 4) pa_nil)))))
    (pss_cons (ps_set (i := 3) sc_neighbours.nd rfl (Or.inl rfl) (pe_cal c_moved (hr.mono (by decide)) hgu (by rfl) (pa_cons (pv 3) (pa_cons (pv 4) (pa_cons (pe_callB (call_min2 rfl) (by rfl) b_min (by decide +kernel) (pa_cons (pv 5) (pa_cons (pe_op op_fdivW (pe_op op_sub (pv 1) (pe_ix (ixK K) (pv 3) pe_int (fun _ _ => rfl))) (pe_ix (ixK K) (pv 4) pe_int (fun _ _ => rfl))) pa_nil))) pa_nil)))))
    (pss_cons (ps_set (i := 5) sc_neighbours.nd rfl (Or.inl rfl) (pe_op op_fdivW (pe_cal c_gap (hr.mono (by decide)) hgu (by rfl) (pa_cons (pv 0) (pa_cons (pv 4) pa_nil))) (pe_cal c_gap (hr.mono (by decide)) hgu (by rfl) (pa_cons (pv 3) (pa_cons (pv 0) pa_nil)))))
    (pss_one (ps_set (i := 4) sc_neighbours.nd rfl (Or.inl rfl) (pe_cal c_moved (hr.mono (by decide)) hgu (by rfl) (pa_cons (pv 4) (pa_cons (pv 3) (pa_cons (pe_callB (call_min2 rfl) (by rfl) b_min (by decide +kernel) (pa_cons (pv 5) (pa_cons (pe_op op_fdivW (pe_op op_sub (pv 1) (pe_ix (ixK K) (pv 4) pe_int (fun _ _ => rfl))) (pe_ix (ixK K) (pv 3) pe_int (fun _ _ => rfl))) pa_nil))) pa_nil))))))))))
    (pss_one (ps_ret (pe_tup (pa_cons (pv 3) (pa_cons (pv 4) pa_nil)))))))))), ?_⟩
  try dsimp only [cxOf]
  refine x_body h (fun mm zs ds hl hres hp e hnx hrt => ?_)
  obtain ⟨z, z', d, d', rfl, rfl, rs, rs'⟩ := resA2 hres hl
  show wS _ _ ⟨[some (z), some (z'), none, none, none, none], _⟩ _
  repeat' walk_at "ux"
  refine ⟨[d, d'], .cons rs (.cons rs' .nil), ⟨rfl, trivial⟩, fun r hr => ?_, fun ex hx => hx⟩
  obtain ⟨h1, h2, rfl⟩ := hr
  obtain ⟨p, q, N, e1, hf⟩ := hp h1 h2
  cases e1
  obtain rfl := rs.tup
  obtain rfl := rs'.int
  have hz : ∀ r y, (∀ p' q' N', [fr p q, .int N] = [fr p' q', .int N'] → NR p' q' N' r) → e.rt (.d r) y := fun r y h => hrt _ _ ⟨p, q, N, r, rfl, hf, rfl, h p q N rfl⟩
  have q1 := hf.q1
  have n1 := hf.n1
  have bp := hf.bp
  have bq := hf.bq
  have bN := hf.bN
  repeat' walk_at "ux"
  refine ite2 (fun b => ?_) (fun b => ?_)
  · have b := of_decide_eq_true b
    repeat' walk_at "ux"
    refine hz _ _ (fun p' q' N' e => ?_)
    cases e
    exact .inl ⟨b, rfl⟩
  · have b : N < q := by
      have := of_decide_eq_false (Bool.eq_false_iff.mpr b)
      omega
    repeat' walk_at "ux"
    refine wS_whileJ (fun m y => ∃ (a b c d : Int), y = ⟨[some (.d (fr p q)), some (.d (.int N)), some (.d (.int (p / q))), some (.d (fr a b)), some (.d (fr c d)), none], mm⟩ ∧ NI p q N a b c d ∧ m = (2 * N - b - d).toNat) ⟨_, _, ⟨_, _, _, _, rfl, ni_start n1 hf.g b, rfl⟩, by walk_at "lessu"⟩ ?_
    rintro m y ⟨a, b', c, d, rfl, hi, rfl⟩
    obtain ⟨bb, bd, ba, bc, x1, y1, _⟩ := hi.bd bp bq bN
    have hX := hi.lo
    have hY := hi.hi
    have hb1 := hi.b1
    have hd1 := hi.d1
    have hbN := hi.bN
    have hdN := hi.dN
    have big : ∀ {z : Int}, Bd 65 z → Bd 900 z := fun h => h.mono (by decide)
    have big' : ∀ {z : Int}, Bd (3 * 65 + 1) z → Bd 900 z := fun h => h.mono (by decide)
    repeat' walk_at "ux"
    refine ite2 (fun e1 => ?_) (fun e1 => ?_)
    · have e1 := of_decide_eq_true e1
      have bX : Bd 65 (p * b' - a * q) := by unfold Bd at *; omega
      have bY : Bd 65 (c * q - p * d) := by unfold Bd at *; omega
      repeat' walk_at "ux"
      refine ⟨⟨rfl, _, _, _, _, rfl, big' ba, big bb, big bp, big bq⟩, ?_⟩
      repeat' walk_at "ux"
      refine ⟨⟨rfl, _, _, _, _, rfl, big bp, big bq, big' bc, big bd⟩, ?_⟩
      refine ⟨_, _, rfl, rfl, bY.divW hY, ?_⟩
      repeat' walk_at "ux"
      generalize hm : (if (N - b') / d < (p * b' - a * q) / (c * q - p * d) then (N - b') / d else (p * b' - a * q) / (c * q - p * d)) = m1
      have hml := min_le (x := (p * b' - a * q) / (c * q - p * d)) (y := (N - b') / d)
      rw [hm] at hml
      have m0 : 0 ≤ m1 := by
        rw [← hm]
        have k1 : 0 ≤ (N - b') / d := Int.ediv_nonneg (by omega) (by omega)
        have k2 : 0 ≤ (p * b' - a * q) / (c * q - p * d) := Int.ediv_nonneg (by omega) (by omega)
        split <;> assumption
      have bm : Bd 65 m1 := by
        have := Int.ediv_le_self d (show 0 ≤ N - b' by omega)
        unfold Bd at *; omega
      have h2 := ni_step hi hf.g b m0 hml.1 hml.2
      have hpr : b' + 1 ≤ b' + m1 * d ∨ (m1 = 0 ∧ p * b' - a * q < c * q - p * d) := by
        rcases Int.lt_or_le m1 1 with z | z
        · right
          have z : m1 = 0 := by omega
          refine ⟨z, ?_⟩
          rcases Int.lt_or_le (p * b' - a * q) (c * q - p * d) with w | w
          · exact w
          · have k1 := div_ge1 hY w
            have k2 := div_ge1 (show 0 < d by omega) (show d ≤ N - b' by omega)
            rw [z] at hm
            split at hm <;> omega
        · left
          have := Int.mul_le_mul z (show 1 ≤ d by omega) (by omega) (by omega)
          omega
      refine ⟨⟨rfl, _, _, _, _, _, rfl, big' bc, big bd, big bm⟩, ?_⟩
      show wS _ _ (S.set _ _ (some (Z.d (fr (a + m1 * c) (b' + m1 * d))))) _
      have hmd : 0 ≤ m1 * d := Int.mul_nonneg m0 (by omega)
      have hz2 : m1 = 0 → a + m1 * c = a ∧ b' + m1 * d = b' := by rintro rfl; constructor <;> omega
      generalize a + m1 * c = a2 at h2 hz2 ⊢
      obtain ⟨b2, hb2⟩ : ∃ b2, b2 = b' + m1 * d := ⟨_, rfl⟩
      rw [← hb2] at h2 hz2 hpr ⊢
      obtain ⟨bb2, _, ba2, _, x12, _, _⟩ := h2.bd bp bq bN
      have hX2 := h2.lo
      have hb12 := h2.b1
      have hbN2 := h2.bN
      have bX2 : Bd 65 (p * b2 - a2 * q) := by unfold Bd at *; omega
      repeat' walk_at "ux"
      refine ⟨⟨rfl, _, _, _, _, rfl, big bp, big bq, big' bc, big bd⟩, ?_⟩
      repeat' walk_at "ux"
      refine ⟨⟨rfl, _, _, _, _, rfl, big' ba2, big bb2, big bp, big bq⟩, ?_⟩
      refine ⟨_, _, rfl, rfl, bX2.divW hX2, ?_⟩
      repeat' walk_at "ux"
      generalize hn2 : (if (N - d) / b2 < (c * q - p * d) / (p * b2 - a2 * q) then (N - d) / b2 else (c * q - p * d) / (p * b2 - a2 * q)) = m2
      have hnl := min_le (x := (c * q - p * d) / (p * b2 - a2 * q)) (y := (N - d) / b2)
      rw [hn2] at hnl
      have n0 : 0 ≤ m2 := by
        rw [← hn2]
        have k1 : 0 ≤ (N - d) / b2 := Int.ediv_nonneg (by omega) (by omega)
        have k2 : 0 ≤ (c * q - p * d) / (p * b2 - a2 * q) := Int.ediv_nonneg (by omega) (by omega)
        split <;> assumption
      have bm2 : Bd 65 m2 := by
        have := Int.ediv_le_self b2 (show 0 ≤ N - d by omega)
        unfold Bd at *; omega
      have h3 := ni_step2 h2 hf.g b n0 hnl.1 hnl.2
      refine ⟨⟨rfl, _, _, _, _, _, rfl, big' ba2, big bb2, big bm2⟩, ?_⟩
      show ∃ m' y', _ ∧ _ ∧ Less y' (S.set _ _ (some (Z.d (fr (c + m2 * a2) (d + m2 * b2)))))
      try dsimp only [S.set, List.set]
      repeat' walk_at "ux"
      refine ⟨_, _, ?_, ⟨_, _, _, _, rfl, h3, rfl⟩, by walk_at "lessu"⟩
      have k1 : 0 ≤ m2 * b2 := Int.mul_nonneg n0 (by omega)
      rcases hpr with w | ⟨w, w2⟩
      · omega
      · obtain ⟨w3, w4⟩ := hz2 w
        have k2 : 1 ≤ m2 := by
          rw [← hn2]
          have k2 := div_ge1 hX2 (show p * b2 - a2 * q ≤ c * q - p * d by rw [w3, w4]; omega)
          have k3 := div_ge1 (show 0 < b2 by omega) (show b2 ≤ N - d by omega)
          split <;> assumption
        have := Int.mul_le_mul k2 hb12 (by omega) (by omega)
        omega
    · have e1 := of_decide_eq_false (Bool.eq_false_iff.mpr e1)
      show wS _ _ _ _
      repeat' walk_at "ux"
      refine hz _ _ (fun p' q' N' e => ?_)
      cases e
      exact .inr ⟨b, _, _, _, _, hi.nb (by omega), rfl⟩
abbrev s_nearest : Stmt := topS 20
abbrev N_nearest : List Str := ["fraction", "bound", "low", "high", "below", "above"]
theorem sc_nearest : FnScope N_nearest ["fraction", "bound"] (defScope s_nearest) := ⟨rfl, rfl, rfl, by decide +kernel, rfl, by decide +kernel, by decide +kernel⟩
theorem ok_nearest (d : Df K mg "nearest" s_nearest ["fraction", "bound"]) {C_NoFraction C_NoNumber : Addr} (c_gap : Cal P w K mg base 1 "gap" ["lesser", "greater"] (sp_gap K)) (c_neighbours : CalX P w K mg base 5 "neighbours" ["fraction", "bound"] (Ux.sp_neighbours K C_NoFraction C_NoNumber)) : CalX P w K mg base 6 "nearest" ["fraction", "bound"] (Ux.sp_nearest K C_NoFraction C_NoNumber) := by
  refine okX d sc_nearest (xSp_len rfl) (fun f cdv A outer s H vs Q E hr hgu h => ?_)
  refine ⟨_, (pss_cons (ps_asg (pe_calX c_neighbours (hr.mono (by decide)) hgu (by rfl) (takes_of rfl rfl rfl rfl) (pa_cons (pv 0) (pa_cons (pv 1) pa_nil))) (pgT K rfl (pgs_cons (pg_name (i := 2) sc_nearest.nd rfl (Or.inl rfl)) (pgs_cons (pg_name (i := 3) sc_nearest.nd rfl (Or.inl rfl)) pgs_nil))))
    (pss_cons (ps_set (i := 4) sc_nearest.nd rfl (Or.inl rfl) (pe_op op_mulW (pe_cal c_gap (hr.mono (by decide)) hgu (by rfl) (pa_cons (pv 2) (pa_cons (pv 0) pa_nil))) (pe_ix (ixK K) (pv 3) pe_int (fun _ _ => rfl))))
    (pss_cons (ps_set (i := 5) sc_nearest.nd rfl (Or.inl rfl) (pe_op op_mulW (pe_cal c_gap (hr.mono (by decide)) hgu (by rfl) (pa_cons (pv 0) (pa_cons (pv 3) pa_nil))) (pe_ix (ixK K) (pv 2) pe_int (fun _ _ => rfl))))
    (pss_cons (ps_if (pt_cmpR op_eq (pv 4) (pv 5) (nomark _)) (pss_one (ps_ret (pe_ifExp (pt_cmpR op_le (pe_ix (ixK K) (pv 2) pe_int (fun _ _ => rfl)) (pe_ix (ixK K) (pv 3) pe_int (fun _ _ => rfl)) (nomark _)) (pv 2) (pv 3)))) pss_nil)
    (pss_one (ps_ret (pe_ifExp (pt_cmpR op_lt (pv 4) (pv 5) (nomark _)) (pv 2) (pv 3)))))))), ?_⟩
  try dsimp only [cxOf]
  refine x_body h (fun mm zs ds hl hres hp e hnx hrt => ?_)
  obtain ⟨z, z', d1, d2, rfl, rfl, rs, rs'⟩ := resA2 hres hl
  show wS _ _ ⟨[some (z), some (z'), none, none, none, none], _⟩ _
  repeat' walk_at "ux"
  refine ⟨[d1, d2], .cons rs (.cons rs' .nil), ⟨rfl, hp⟩, fun r hr => ?_, fun ex hx => hx⟩
  obtain ⟨p, q, N, r, e1, hf, rfl, hr⟩ := hr
  cases e1
  obtain rfl := rs.tup
  obtain rfl := rs'.int
  have bp : Bd 900 p := hf.bp.mono (by decide)
  have bq : Bd 900 q := hf.bq.mono (by decide)
  obtain ⟨a, b, c, d, rfl, ba, bb, bc, bd⟩ := hr.bd hf
  obtain ⟨x, y, ev2, hb⟩ := near_bst hf hr
  have fin : ∀ r y1, r = nearF p q a b c d → e.rt (.d r) y1 := fun r y1 h => hrt _ _ ⟨p, q, N, x, y, rfl, hf, by rw [h, ev2], hb⟩
  repeat' walk_at "ux"
  refine ⟨⟨rfl, _, _, _, _, rfl, ba, bb, bp, bq⟩, ?_⟩
  repeat' walk_at "ux"
  refine ⟨⟨rfl, _, _, _, _, rfl, bp, bq, bc, bd⟩, ?_⟩
  repeat' walk_at "ux"
  refine ite2 (fun e1 => ?_) (fun e1 => ?_)
  · have e1 := of_decide_eq_true e1
    repeat' walk_at "ux"
    refine ite2 (fun e2 => ?_) (fun e2 => ?_)
    · have ev : fr a b = nearF p q a b c d := by unfold nearF; rw [if_pos e1, if_pos (of_decide_eq_true e2)]
      repeat' walk_at "ux"
      exact fin _ _ ev
    · have ev : fr c d = nearF p q a b c d := by unfold nearF; rw [if_pos e1, if_neg (of_decide_eq_false (Bool.eq_false_iff.mpr e2))]
      repeat' walk_at "ux"
      exact fin _ _ ev
  · have e1 := of_decide_eq_false (Bool.eq_false_iff.mpr e1)
    repeat' walk_at "ux"
    refine ite2 (fun e2 => ?_) (fun e2 => ?_)
    · have ev : fr a b = nearF p q a b c d := by unfold nearF; rw [if_neg e1, if_pos (of_decide_eq_true e2)]
      repeat' walk_at "ux"
      exact fin _ _ ev
    · have ev : fr c d = nearF p q a b c d := by unfold nearF; rw [if_neg e1, if_neg (of_decide_eq_false (Bool.eq_false_iff.mpr e2))]
      repeat' walk_at "ux"
      exact fin _ _ ev
abbrev s_nearest_row : Stmt := topS 21
abbrev N_nearest_row : List Str := ["fraction", "bound", "found", "least", "one"]
theorem sc_nearest_row : FnScope N_nearest_row ["fraction", "bound"] (defScope s_nearest_row) := ⟨rfl, rfl, rfl, by decide +kernel, rfl, by decide +kernel, by decide +kernel⟩
theorem ok_nearest_row (d : DfD K mg "nearest_row" s_nearest_row ["fraction", "bound"] (.int 200)) {C_NoFraction C_NoNumber : Addr} (x_NoNumber : Xc P w K mg base "NoNumber" C_NoNumber) (c_need_both : CalX P w K mg base 4 "need_both" ["fraction", "bound"] (Ux.sp_need_both K C_NoFraction C_NoNumber)) (c_nearest : CalX P w K mg base 6 "nearest" ["fraction", "bound"] (Ux.sp_nearest K C_NoFraction C_NoNumber)) (b_min : mg "min" = none) (b_range : mg "range" = none) {t_MOST_ROW : Tok} (m_MOST_ROW : mg "MOST_ROW" = some (.int 200 t_MOST_ROW)) : CalD P w K mg base 7 "nearest_row" ["fraction", "bound"] (Ux.sp_nearest_row K C_NoFraction C_NoNumber) (.int 200) := by
  refine okD d sc_nearest_row (xnSp_len rfl) (fun f cdv A outer s H vs Q E hr hgu h => ?_)
  refine ⟨_, (pss_cons (ps_expr (pe_calX c_need_both (hr.mono (by decide)) hgu (by rfl) (takes_of rfl rfl rfl rfl) (pa_cons (pv 0) (pa_cons (pv 1) pa_nil))))
    (pss_cons (ps_if (pt_cmpR op_gt (pv 1) (pe_glob (v := .int 200) (by rfl) m_MOST_ROW ⟨_, rfl⟩) (nomark _)) (pss_one (ps_raiseF rfl x_NoNumber (hr.mono (by decide)) (takes_of rfl rfl rfl rfl) (pa_cons (pv 1) pa_nil) (by rfl))) pss_nil)
    (pss_cons (ps_set (i := 2) sc_nearest_row.nd rfl (Or.inl rfl) (pe_lstL pa_nil))
    (pss_cons (ps_for (passes_of rfl) rfl (pi_range2 (by rfl) b_range (pa_cons pe_int (pa_cons (pe_op op_add (pe_callB (call_min2 rfl) (by rfl) b_min (by decide +kernel) (pa_cons (pv 1) (pa_cons (pe_ix (ixK K) (pv 0) pe_int (fun _ _ => rfl)) pa_nil))) pe_int) pa_nil))) (pg_name (i := 3) sc_nearest_row.nd rfl (Or.inl rfl)) (pss_cons (ps_set (i := 4) sc_nearest_row.nd rfl (Or.inl rfl) (pe_calX c_nearest (hr.mono (by decide)) hgu (by rfl) (takes_of rfl rfl rfl rfl) (pa_cons (pv 0) (pa_cons (pv 3) pa_nil))))
    (pss_one (ps_if (PW.pt (pw_or (pt_cmpR (eqK K hr.units) (pv 2) (pe_lst pa_nil) (nomark _)) (pw_or1 (pt_cmpR (neK K hr.units) (pe_ix (ixK K) (pe_ix (ixK K) (pv 2) (pe_un un_neg pe_int) (fun _ _ => rfl)) pe_int (fun _ _ => rfl)) (pv 4) (nomark _))))) (pss_one (ps_expr (pe_bm PySem.F.plainAttrs_list PySem.F.slot_list_append PySem.F.type_list_append mt_append (pv 2) (pa_cons (pe_tup (pa_cons (pv 3) (pa_cons (pv 4) pa_nil))) pa_nil)))) pss_nil))))
    (pss_one (ps_ret (pv 2))))))), ?_⟩
  try dsimp only [cxOf]
  refine xn_body h (fun mm zs ds hl hres hp e hrt => ?_)
  obtain ⟨z, z', d1, d2, rfl, rfl, rs, rs'⟩ := resA2 hres hl
  have hp : ∀ p q, d1 = fr p q → Bd 20 p ∧ Bd 20 q := hp
  show wS _ _ ⟨[some (z), some (z'), none, none, none], mm⟩ _
  repeat' walk_at "ux"
  refine ⟨[d1, d2], .cons rs (.cons rs' .nil), ⟨rfl, trivial⟩, fun r hr => ?_, fun ex hx => ?_⟩
  rotate_left
  · rcases hx with hx | ⟨h1, h2, h3⟩
    · exact .inl hx
    · refine .inr ⟨h1, ?_, h3⟩
      have h2 : nOk d2 = false := h2
      show nOk2 d2 = false
      cases d2 with
      | int n => show (decide (1 ≤ n) && _) = false; rw [show decide (1 ≤ n) = false from h2]; rfl
      | _ => rfl
  obtain ⟨h1, h2, rfl⟩ := hr
  have h1 : fracB d1 = true := h1
  have h2 : nOk d2 = true := h2
  obtain ⟨p, q, rfl, q1, hg⟩ := fracB_tup h1
  obtain ⟨N, rfl⟩ : ∃ N : Int, d2 = .int N := by cases d2 <;> first | exact ⟨_, rfl⟩ | cases h2
  have n1 : 1 ≤ N := of_decide_eq_true h2
  obtain ⟨bp, bq⟩ := hp p q rfl
  obtain rfl := rs.tup
  obtain rfl := rs'.int
  repeat' walk_at "ux"
  refine ite2 (fun c0 => ?_) (fun c0 => ?_)
  · have c0 : 200 < N := of_decide_eq_true c0
    refine wS_raise rfl x_NoNumber.oc x_NoNumber.no ?_
    repeat' walk_at "ux"
    all_goals first | exact .inr ⟨h1, (by show (decide (1 ≤ N) && decide (N ≤ 200)) = false; rw [decide_eq_false (show ¬ N ≤ 200 by omega), Bool.and_false]), rfl⟩ | rfl
  · have c0 : ¬ 200 < N := of_decide_eq_false (Bool.eq_false_iff.mpr c0)
    obtain ⟨M, rfl⟩ : ∃ M : Nat, N = M := ⟨N.toNat, by omega⟩
    repeat' walk_at "ux"
    rename_i l
    obtain ⟨R, hR, hR1, hR2, hR3⟩ : ∃ R : Nat, (if q < (M : Int) then q else (M : Int)) = R ∧ 1 ≤ R ∧ R ≤ M ∧ rowE p q R = rowE p q M := by
      by_cases hq : q < (M : Int)
      · refine ⟨q.toNat, by rw [if_pos hq]; omega, by omega, by omega, ?_⟩
        have := row_end q1 hg q.toNat (by omega) (M - q.toNat)
        rw [show q.toNat + (M - q.toNat) = M by omega] at this
        exact this.symm
      · exact ⟨M, by rw [if_neg hq], by omega, Nat.le_refl _, rfl⟩
    refine wS_for ?_
    repeat' walk_at "ux"
    rw [hR]
    refine forJ (fun i y => i ≤ R ∧ y = ⟨[some (.d (fr p q)), some (.d (.int M)), some (.lab l), none, none], mm ++ [⟨l, true, .lst ((rowD (rowE p q i)).map Z.d)⟩]⟩) ⟨_, ⟨Nat.zero_le _, rfl⟩, by walk_at "lessu"⟩ (fun i x y' hx ⟨_, ey⟩ => ?_) (fun y2 y' ⟨_, ey⟩ hl => ?_)
    · subst ey
      obtain ⟨hi, rfl⟩ := rangeD_get hx
      have hi : i < R := by omega
      have fn : FN p q (1 + (i : Int)) := ⟨q1, hg, by omega, bp.mono (by decide), bq.mono (by decide), Bd.lit (by omega)⟩
      repeat' walk_at "ux"
      refine ⟨[fr p q, .int (1 + (i : Int))], .cons (.d _) (.cons (.d _) .nil), ⟨rfl, fun _ _ => ⟨p, q, _, rfl, fn⟩⟩, fun r hr => ?_, fun ex hx => ?_⟩
      rotate_left
      · rcases hx with ⟨h3, _⟩ | ⟨_, h3, _⟩
        · have h3 : fracB (fr p q) = false := h3
          rw [fracB_fr q1 hg] at h3; cases h3
        · have h3 : decide (1 ≤ 1 + (i : Int)) = false := h3
          rw [decide_eq_true (by omega)] at h3; cases h3
      obtain ⟨p', q', N', x, y, e1, _, rfl, hb⟩ := hr
      cases e1
      rw [show (1 : Int) + (i : Int) = (i : Int) + 1 by omega] at hb ⊢
      obtain ⟨k1, k2⟩ := row_nx (show 0 < q by omega) i hb
      have rl := row_len (p := p) (q := q) i
      show wS _ _ ⟨[some (.d (fr p q)), some (.d (.int M)), some (.lab l), some (.d (.int ((i : Int) + 1))), some (.d (fr x y))], mm ++ [⟨l, true, .lst ((rowD (rowE p q i)).map Z.d)⟩]⟩ _
      have rz : Res (mm ++ [⟨l, true, .lst ((rowD (rowE p q i)).map Z.d)⟩]) (.lab l) (.list (rowD (rowE p q i))) := Res.at (j := mm.length) (at_end _ _) (.lst _)
      refine wS_ifN (wT_lendA (i := 2) rfl rz (wT_cut (nxB x y (rowE p q i).getLast?) (fun hc => ?_) (fun hc => ?_) ?_))
      · refine wS_app (j := mm.length) rfl (at_end _ _) ?_
        repeat' walk_at "ux"
        refine ⟨_, at_end _ _, sz_lt1 (by rw [List.length_map]; unfold rowD; rw [List.length_map]; omega), _, ⟨hi, rfl⟩, ?_⟩
        rw [k1 hc, rowd_app, List.map_append]
        dsimp only
        rw [set_at_end]
        walk_at "lessu"
      · refine ⟨_, ⟨hi, rfl⟩, ?_⟩
        rw [k2 hc]
        walk_at "lessu"
      · show wT _ _ ⟨[some (.d (fr p q)), some (.d (.int M)), some (.d (.list (rowD (rowE p q i)))), some (.d (.int ((i : Int) + 1))), some (.d (fr x y))], []⟩ _
        cases hE : (rowE p q i).getLast? with
        | none =>
          have : rowE p q i = [] := List.getLast?_eq_none_iff.mp hE
          rw [this]
          repeat' walk_at "ux"
          rfl
        | some e1 =>
          obtain ⟨n, a, b⟩ := e1
          have hlast := rowd_last hE
          repeat' walk_at "ux"
          refine ⟨shaped_list (elok_row _), shaped_nil, ?_⟩
          rw [eqv_nil, rowd_full hE]
          repeat' walk_at "ux"
          refine ⟨_, _, _, rfl, rfl, hlast, ?_⟩
          repeat' walk_at "ux"
          rw [fr_inj]
          rfl
    · subst ey
      refine wS_weak ?_ hl
      rw [rangeD_len, show ((R : Int) + 1 - 1).toNat = R by omega, hR3]
      repeat' walk_at "ux"
      exact hrt _ [(l, .lst ((rowD (rowE p q M)).map Z.d))] _ ⟨p, q, M, l, rfl, q1, hg, by omega, by omega, rfl, rfl⟩ (fun e he => by rw [List.mem_singleton] at he; subst he; rfl) (List.sublist_append_right _ _)
abbrev s_need_range : Stmt := topS 23
abbrev N_need_range : List Str := ["low", "high", "low_in", "high_in", "bound"]
theorem sc_need_range : FnScope N_need_range ["low", "high", "low_in", "high_in"] (defScope s_need_range) := ⟨rfl, rfl, rfl, by decide +kernel, rfl, by decide +kernel, by decide +kernel⟩
theorem ok_need_range (d : Df K mg "need_range" s_need_range ["low", "high", "low_in", "high_in"]) {C_NoBounds C_NoFraction : Addr} (x_NoBounds : Xc P w K mg base "NoBounds" C_NoBounds) (x_NoFraction : Xc P w K mg base "NoFraction" C_NoFraction) (c_is_fraction : Cal P w K mg base 2 "is_fraction" ["thing"] (sp_is_fraction K)) (c_gap : Cal P w K mg base 1 "gap" ["lesser", "greater"] (sp_gap K)) : CalX P w K mg base 3 "need_range" ["low", "high", "low_in", "high_in"] (Ux.sp_need_range K C_NoFraction C_NoBounds) := by
  refine okX d sc_need_range (xSp_len rfl) (fun f cdv A outer s H vs Q E hr hgu h => ?_)
  refine ⟨_, (pss_cons (ps_for (passes_of rfl) rfl (piT K (pe_tup (pa_cons (pv 0) (pa_cons (pv 1) pa_nil)))) (pg_name (i := 4) sc_need_range.nd rfl (Or.inl rfl)) (pss_one (ps_if (PW.pt (pw_and (pt_cmpR op_notN (pv 4) pe_non (nomark _)) (pw_and1 (pt_not (pt_val (pe_cal c_is_fraction (hr.mono (by decide)) hgu (by rfl) (pa_cons (pv 4) pa_nil))))))) (pss_one (ps_raiseF rfl x_NoFraction (hr.mono (by decide)) (takes_of rfl rfl rfl rfl) (pa_cons (pv 4) pa_nil) (by rfl))) pss_nil)))
    (pss_cons (ps_if (PW.pt (pw_or (pt_cmpR op_isN (pv 0) pe_non (nomark _)) (pw_or1 (pt_cmpR op_isN (pv 1) pe_non (nomark _))))) (pss_one ps_retN) pss_nil)
    (pss_one (ps_if (PW.pt (pw_or (pt_cmpR op_lt (pe_cal c_gap (hr.mono (by decide)) hgu (by rfl) (pa_cons (pv 0) (pa_cons (pv 1) pa_nil))) pe_int (nomark _)) (pw_or1 (PW.pt (pw_and (pt_cmpR (eqK K hr.units) (pv 0) (pv 1) (nomark _)) (pw_and1 (pt_not (PW.pt (pw_and (pt_val (pv 2)) (pw_and1 (pt_val (pv 3)))))))))))) (pss_one (ps_raiseF rfl x_NoBounds (hr.mono (by decide)) (takes_of rfl rfl rfl rfl) (pa_cons (pe_tup (pa_cons (pv 0) (pa_cons (pv 1) pa_nil))) pa_nil) (by rfl))) pss_nil)))), ?_⟩
  try dsimp only [cxOf]
  refine x_body h (fun mm zs ds hl hres hp e hnx hrt => ?_)
  obtain ⟨d0, d1, li, hi, rfl, rfl, f0, f1⟩ := hp
  show wS _ _ ⟨[some (.d d0), some (.d d1), some (.d (.bool li)), some (.d (.bool hi)), none], _⟩ _
  have xc : ∀ ex, rgX C_NoFraction C_NoBounds d0 d1 li hi ex → ∃ d0_1 d1_1 li_1 hi_1, [d0, d1, PyData.bool li, .bool hi] = [d0_1, d1_1, PyData.bool li_1, .bool hi_1] ∧ rgX C_NoFraction C_NoBounds d0_1 d1_1 li_1 hi_1 ex := fun ex h => ⟨_, _, _, _, rfl, h⟩
  refine wS_seq (wS_for (wI_tup ?_))
  repeat' walk_at "ux"
  refine (forJ (fun i y => y = ⟨[some (.d d0), some (.d d1), some (.d (.bool li)), some (.d (.bool hi)), none], mm⟩ ∧ (1 ≤ i → bdB d0 = true) ∧ (2 ≤ i → bdB d1 = true)) ⟨_, ⟨rfl, fun z => by omega, fun z => by omega⟩, by walk_at "lessu"⟩ ?_ ?_)
  · rintro i x y hx ⟨ey, h1, h2⟩
    subst ey
    have two : (i = 0 ∧ x = d0) ∨ (i = 1 ∧ x = d1 ∧ bdB d0 = true) := by
      rcases i with _ | _ | i
      · exact .inl ⟨rfl, (Option.some.inj hx).symm⟩
      · exact .inr ⟨rfl, (Option.some.inj hx).symm, h1 (by decide)⟩
      · simp at hx
    have bad : bdB x = false → rgX C_NoFraction C_NoBounds d0 d1 li hi ⟨.ref C_NoFraction, .d x⟩ := fun h => by
      rcases two with ⟨_, rfl⟩ | ⟨_, rfl, h0⟩
      · exact .inl ⟨h, rfl⟩
      · exact .inr (.inl ⟨h0, h, rfl⟩)
    have good : bdB x = true → (1 ≤ i + 1 → bdB d0 = true) ∧ (2 ≤ i + 1 → bdB d1 = true) := fun h => by
      rcases two with ⟨rfl, rfl⟩ | ⟨rfl, rfl, h0⟩
      · exact ⟨fun _ => h, fun z => by omega⟩
      · exact ⟨fun _ => h0, fun _ => h⟩
    repeat' walk_at "ux"
    by_cases hn : x = .none
    · subst hn
      obtain ⟨g1, g2⟩ := good rfl
      refine itb_f rfl ?_
      exact ⟨_, ⟨rfl, g1, g2⟩, by walk_at "lessu"⟩
    · refine itb_t (by cases x <;> first | rfl | exact absurd rfl hn) ?_
      have eb : bdB x = fracB x := by cases x <;> first | rfl | exact absurd rfl hn
      repeat' walk_at "ux"
      cases hf : fracB x with
      | true =>
        obtain ⟨g1, g2⟩ := good (by rw [eb]; exact hf)
        refine itb_f (by show (!fracB x) = false; rw [hf]; rfl) ?_
        exact ⟨_, ⟨rfl, g1, g2⟩, by walk_at "lessu"⟩
      | false =>
        refine itb_t (by show (!fracB x) = true; rw [hf]; rfl) ?_
        refine wS_raise rfl x_NoFraction.oc x_NoFraction.no ?_
        repeat' walk_at "ux"
        exact xc _ (bad (by rw [eb]; exact hf))
  · rintro y2 y' ⟨ey, h1, h2⟩ hl
    subst ey
    refine wS_weak ?_ hl
    obtain ⟨L, rfl, o1⟩ := bdB_bn (h1 (Nat.le_succ 1))
    obtain ⟨H, rfl, o2⟩ := bdB_bn (h2 (Nat.le_refl 2))
    have fin : RgOk L li H hi → ∃ L_1 H_1 li_1 hi_1, [bnD L, bnD H, PyData.bool li, .bool hi] = [bnD L_1, bnD H_1, PyData.bool li_1, .bool hi_1] ∧ RgOk L_1 li_1 H_1 hi_1 := fun h => ⟨L, H, li, hi, rfl, h⟩
    have xb : ¬ RgOk L li H hi → rgX C_NoFraction C_NoBounds (bnD L) (bnD H) li hi ⟨.ref C_NoBounds, .d (.tuple [bnD L, bnD H])⟩ := fun h => .inr (.inr ⟨L, H, rfl, rfl, o1, o2, h, rfl⟩)
    match L, H with
    | none, H =>
      repeat' walk_at "ux"
      exact hrt _ _ ⟨fin ⟨o1, o2, fun a b c d e => by cases e⟩, rfl⟩
    | some (a, b), none =>
      repeat' walk_at "ux"
      exact hrt _ _ ⟨fin ⟨o1, o2, fun a b c d _ e => by cases e⟩, rfl⟩
    | some (a, b), some (c, d) =>
      obtain ⟨ba, bb⟩ := f0 a b rfl
      obtain ⟨bc, bd⟩ := f1 c d rfl
      have nx : ∀ y, (a * d < c * b ∨ (a * d = c * b ∧ li = true ∧ hi = true)) → e.nx y := fun y h => hnx _ ⟨fin ⟨o1, o2, fun a' b' c' d' e1 e2 => by cases e1; cases e2; exact h⟩, rfl⟩
      have no : ¬ (a * d < c * b ∨ (a * d = c * b ∧ li = true ∧ hi = true)) → rgX C_NoFraction C_NoBounds (bnD (some (a, b))) (bnD (some (c, d))) li hi ⟨.ref C_NoBounds, .d (.tuple [bnD (some (a, b)), bnD (some (c, d))])⟩ := fun h => xb (RgOk.not_of rfl rfl h)
      repeat' walk_at "ux"
      refine ⟨⟨rfl, a, b, c, d, rfl, ba.mono (by decide), bb.mono (by decide), bc.mono (by decide), bd.mono (by decide)⟩, ?_⟩
      have rs : ¬ (a * d < c * b ∨ (a * d = c * b ∧ li = true ∧ hi = true)) → ∀ y : S, y.l = [some (.d (bnD (some (a, b)))), some (.d (bnD (some (c, d)))), some (.d (.bool li)), some (.d (.bool hi)), none] → wS { K := K, W := fun cls d x H' => E cls d H', ex := fun ex _ => ∃ d0_1 d1_1 li_1 hi_1, [bnD (some (a, b)), bnD (some (c, d)), PyData.bool li, .bool hi] = [d0_1, d1_1, PyData.bool li_1, .bool hi_1] ∧ rgX C_NoFraction C_NoBounds d0_1 d1_1 li_1 hi_1 ex } (tRaiseF K C_NoBounds (fun cls d x H => E cls d H) (tCons (tTup (tCons (tVar 0) (tCons (tVar 1) tNil))) tNil)) y e := fun h y ey => by
        obtain ⟨l, m⟩ := y
        dsimp only at ey
        subst ey
        refine wS_raise rfl x_NoBounds.oc x_NoBounds.no ?_
        repeat' walk_at "ux"
        exact xc _ (no h)
      obtain ⟨b1, ga⟩ := o1 a b rfl
      obtain ⟨d1, gc⟩ := o2 c d rfl
      repeat' walk_at "ux"
      refine ite2 (fun c0 => ?_) (fun c0 => ?_)
      · have c0 : c * b - a * d < 0 := of_decide_eq_true c0
        refine itb_t rfl ?_
        exact rs (by omega) _ rfl
      · have c0 : ¬ c * b - a * d < 0 := of_decide_eq_false (Bool.eq_false_iff.mpr c0)
        repeat' walk_at "ux"
        rw [show PyData.eqv (bnD (some (a, b))) (bnD (some (c, d))) = (decide (a = c) && decide (b = d)) from fr_inj]
        by_cases q : a = c ∧ b = d
        · obtain ⟨rfl, rfl⟩ := q
          rw [show (decide (a = a) && decide (b = b)) = true by simp]
          cases li with
          | false =>
            repeat' walk_at "ux"
            exact rs (fun z => by rcases z with z | ⟨_, z, _⟩; (exact absurd z (by omega)); cases z) _ rfl
          | true =>
            repeat' walk_at "ux"
            cases hi with
            | false =>
              repeat' walk_at "ux"
              exact rs (fun z => by rcases z with z | ⟨_, _, z⟩; (exact absurd z (by omega)); cases z) _ rfl
            | true =>
              repeat' walk_at "ux"
              exact nx _ (.inr ⟨rfl, rfl, rfl⟩)
        · rw [show (decide (a = c) && decide (b = d)) = false by rw [Bool.and_eq_false_iff]; exact (Classical.em (a = c)).elim (fun h => .inr (decide_eq_false fun z => q ⟨h, z⟩)) (fun h => .inl (decide_eq_false h))]
          repeat' walk_at "ux"
          refine nx _ (.inl ?_)
          rcases Int.lt_or_eq_of_le (show a * d ≤ c * b by omega) with z | z
          · exact z
          · exact absurd (frac_same b1 d1 ga gc (by rw [z, Int.mul_comm])) q
abbrev s_between : Stmt := topS 28
abbrev N_between : List Str := ["low", "high", "low_in", "high_in", "wholes", "found", "whole", "fraction"]
theorem sc_between : FnScope N_between ["low", "high", "low_in", "high_in"] (defScope s_between) := ⟨rfl, rfl, rfl, by decide +kernel, rfl, by decide +kernel, by decide +kernel⟩
theorem ok_between (d : DfM K mg "between" s_between ["low", "high", "low_in", "high_in"] [false, false] shs_between) {C_NoBounds C_NoFraction : Addr} (c_need_range : CalX P w K mg base 3 "need_range" ["low", "high", "low_in", "high_in"] (Ux.sp_need_range K C_NoFraction C_NoBounds)) (c_least_whole : Cal P w K mg base 1 "least_whole" ["low", "low_in"] (sp_least_whole K)) (c_greatest_whole : Cal P w K mg base 1 "greatest_whole" ["high", "high_in"] (sp_greatest_whole K)) (c_whole_in : Cal P w K mg base 1 "whole_in" ["first", "last"] (sp_whole_in K)) (c_over_rest : Cal P w K mg base 1 "over_rest" ["bound", "whole"] (sp_over_rest K)) (b_reversed : mg "reversed" = none) : CalM P w K mg base 4 "between" ["low", "high", "low_in", "high_in"] (Ux.sp_between K C_NoFraction C_NoBounds) [false, false] shs_between := by
  refine okM d sc_between (xSp_len rfl) (fun f cdv A outer s H vs Q E hr hgu h => ?_)
  refine ⟨_, (pss_cons (ps_expr (pe_calX c_need_range (hr.mono (by decide)) hgu (by rfl) (takes_of rfl rfl rfl rfl) (pa_cons (pv 0) (pa_cons (pv 1) (pa_cons (pv 2) (pa_cons (pv 3) pa_nil))))))
    (pss_cons (ps_set (i := 4) sc_between.nd rfl (Or.inl rfl) (pe_lstL pa_nil))
    (pss_cons (ps_set (i := 5) sc_between.nd rfl (Or.inl rfl) (pe_cal c_whole_in (hr.mono (by decide)) hgu (by rfl) (pa_cons (pe_cal c_least_whole (hr.mono (by decide)) hgu (by rfl) (pa_cons (pv 0) (pa_cons (pv 2) pa_nil))) (pa_cons (pe_cal c_greatest_whole (hr.mono (by decide)) hgu (by rfl) (pa_cons (pv 1) (pa_cons (pv 3) pa_nil))) pa_nil))))
    (pss_cons (ps_while (passes_of rfl) (pt_cmpR op_isN (pv 5) pe_non (nomark _)) (pss_cons (ps_set (i := 6) sc_between.nd rfl (Or.inl rfl) (pe_op op_fdivW (pe_ix (ixK K) (pv 0) pe_int (fun _ _ => rfl)) (pe_ix (ixK K) (pv 0) pe_int (fun _ _ => rfl))))
    (pss_cons (ps_expr (pe_bm PySem.F.plainAttrs_list PySem.F.slot_list_append PySem.F.type_list_append mt_append (pv 4) (pa_cons (pv 6) pa_nil)))
    (pss_cons (ps_asg (pe_tup (pa_cons (pe_cal c_over_rest (hr.mono (by decide)) hgu (by rfl) (pa_cons (pv 1) (pa_cons (pv 6) pa_nil))) (pa_cons (pv 3) (pa_cons (pe_cal c_over_rest (hr.mono (by decide)) hgu (by rfl) (pa_cons (pv 0) (pa_cons (pv 6) pa_nil))) (pa_cons (pv 2) pa_nil))))) (pgT K rfl (pgs_cons (pg_name (i := 0) sc_between.nd rfl (Or.inl rfl)) (pgs_cons (pg_name (i := 2) sc_between.nd rfl (Or.inl rfl)) (pgs_cons (pg_name (i := 1) sc_between.nd rfl (Or.inl rfl)) (pgs_cons (pg_name (i := 3) sc_between.nd rfl (Or.inl rfl)) pgs_nil))))))
    (pss_one (ps_set (i := 5) sc_between.nd rfl (Or.inl rfl) (pe_cal c_whole_in (hr.mono (by decide)) hgu (by rfl) (pa_cons (pe_cal c_least_whole (hr.mono (by decide)) hgu (by rfl) (pa_cons (pv 0) (pa_cons (pv 2) pa_nil))) (pa_cons (pe_cal c_greatest_whole (hr.mono (by decide)) hgu (by rfl) (pa_cons (pv 1) (pa_cons (pv 3) pa_nil))) pa_nil)))))))))
    (pss_cons (ps_set (i := 7) sc_between.nd rfl (Or.inl rfl) (pe_tup (pa_cons (pv 5) (pa_cons pe_int pa_nil))))
    (pss_cons (ps_for (passes_of rfl) rfl (piRvK K (by rfl) b_reversed (pa_cons (pv 4) pa_nil)) (pg_name (i := 6) sc_between.nd rfl (Or.inl rfl)) (pss_one (ps_set (i := 7) sc_between.nd rfl (Or.inl rfl) (pe_tup (pa_cons (pe_op op_add (pe_op op_mulW (pv 6) (pe_ix (ixK K) (pv 7) pe_int (fun _ _ => rfl))) (pe_ix (ixK K) (pv 7) pe_int (fun _ _ => rfl))) (pa_cons (pe_ix (ixK K) (pv 7) pe_int (fun _ _ => rfl)) pa_nil))))))
    (pss_one (ps_ret (pv 7))))))))), ?_⟩
  try dsimp only [cxOf]
  refine x_body h (fun mm zs ds hl hres hp e hnx hrt => ?_)
  obtain ⟨d0, d1, li0, hi0, rfl, rfl, f0, f1⟩ := hp
  show wS _ _ ⟨[some (.d d0), some (.d d1), some (.d (.bool li0)), some (.d (.bool hi0)), none, none, none, none], mm⟩ _
  repeat' walk_at "ux"
  refine ⟨[d0, d1, .bool li0, .bool hi0], .cons (.d _) (.cons (.d _) (.cons (.d _) (.cons (.d _) .nil))), ⟨rfl, d0, d1, li0, hi0, rfl, rfl, f0, f1⟩, fun r hr => ?_, fun ex hx => hx⟩
  obtain ⟨⟨L0, H0, li, hi, e1, ok0⟩, rfl⟩ := hr
  cases e1
  have bL0 : BnB 40 L0 := fun a b e => by subst e; exact ⟨(ok0.1 a b rfl).1, f0 a b rfl⟩
  have bH0 : BnB 40 H0 := fun a b e => by subst e; exact ⟨(ok0.2.1 a b rfl).1, f1 a b rfl⟩
  have up : ∀ {L : Bn}, BnB 40 L → BnB 60 L := fun h a b e => ⟨(h a b e).1, (h a b e).2.1.mono (by decide), (h a b e).2.2.mono (by decide)⟩
  repeat' walk_at "ux"
  rename_i pl
  refine ⟨⟨L0, li0, rfl, up bL0⟩, fun d hd => ?_⟩
  obtain rfl := hd L0 li0 rfl
  repeat' walk_at "ux"
  refine ⟨⟨H0, hi0, rfl, up bH0⟩, fun d hd => ?_⟩
  obtain rfl := hd H0 hi0 rfl
  repeat' walk_at "ux"
  refine ⟨⟨_, _, rfl⟩, fun d hd => ?_⟩
  obtain rfl := hd _ _ rfl
  clear hd
  have fin : ∀ (p q : Int) (y : S), Good L0 li0 H0 hi0 p q → Bd 130 p → Bd 130 q → e.rt (.d (fr p q)) y := fun p q y g b1 b2 => hrt _ _ ⟨L0, H0, li0, hi0, p, q, rfl, ok0, g, b1, b2, rfl⟩
  refine wS_seq (wS_whileJ (fun m y => ∃ (ws : List Int) (L : Bn) (l : Bool) (H : Bn) (h : Bool), y = ⟨[some (.d (bnD L)), some (.d (bnD H)), some (.d (.bool l)), some (.d (.bool h)), some (.lab pl), some (.d (oD (whD (lwD L l) (gwD H h)))), none, none], mm ++ [⟨pl, true, .lst ((ws.map PyData.int).map Z.d)⟩]⟩ ∧ BInv L0 li0 H0 hi0 ws L l H h ∧ BnB 40 L ∧ BnB 40 H ∧ (∀ w ∈ ws, Bd 41 w) ∧ Steps (10 ^ 81) ws L H ∧ m = (if ws = [] then 10 ^ 90 else (potB L + potB H).toNat))
    ⟨_, _, ⟨[], L0, li0, H0, hi0, rfl, BInv.start ok0, bL0, bH0, fun w hw => absurd hw (by simp), .inl rfl, rfl⟩, by walk_at "lessu"⟩ ?_)
  rintro m y ⟨ws, L, l, H, h', rfl, I, bL, bH, bw, st, rfl⟩
  have hlen : ws.length ≤ 290 := st.len (by rw [show (290 : Nat) = 145 + 145 from rfl, Int.pow_add]; decide)
  cases hw : whD (lwD L l) (gwD H h') with
  | some n =>
    obtain ⟨g, hn⟩ := I.done hw
    have bq := good_q ok0 bL0 bH0 g
    have bn := wh_bd bL bH hw
    repeat' walk_at "ux"
    refine wS_frzA 4 (A := mm) (B := []) rfl rfl ?_
    refine wS_for (wI_revD ?_)
    repeat' walk_at "ux"
    refine (forJ (fun i y => ∃ u v : Int, y = ⟨[some (.d (bnD L)), some (.d (bnD H)), some (.d (.bool l)), some (.d (.bool h')), some (.d (.list (ws.map PyData.int))), some (.d (.int n)), none, some (.d (fr u v))], mm ++ []⟩ ∧ unw (ws.drop (ws.length - i)) (n, 1) = (u, v)) ⟨_, ⟨n, 1, rfl, by rw [Nat.sub_zero, List.drop_length]; rfl⟩, by walk_at "lessu"⟩ ?_ ?_)
    · rintro i x y hx ⟨u, v, rfl, hu⟩
      have hi : i < ws.length := by
        have := (List.getElem?_eq_some_iff.mp hx).1
        rwa [List.length_reverse, List.length_map] at this
      rw [← List.map_reverse, List.getElem?_map, List.getElem?_reverse hi] at hx
      obtain ⟨w, hw2, rfl⟩ : ∃ w, ws[ws.length - 1 - i]? = some w ∧ x = .int w := by
        cases hz : ws[ws.length - 1 - i]? with
        | none => rw [hz] at hx; cases hx
        | some w => rw [hz] at hx; exact ⟨w, rfl, (Option.some.inj hx).symm⟩
      have ne : ws ≠ [] := fun z => by rw [z] at hi; cases hi
      obtain ⟨s1, s2⟩ := unw_small (hn ne) I.tl bq hi
      rw [hu] at s1 s2
      have s1 : Bd 41 u := s1
      have s2 : Bd 41 v := s2
      have bww := bw w (List.mem_of_getElem? hw2)
      have hb := unw_back (n := n) hi hw2
      rw [hu] at hb
      repeat' walk_at "ux"
      exact ⟨_, ⟨w * u + v, u, rfl, hb⟩, by walk_at "lessu"⟩
    · rintro y2 y' ⟨u, v, rfl, hu⟩ hl
      refine wS_weak ?_ hl
      rw [List.length_reverse, List.length_map, Nat.sub_self, List.drop_zero] at hu
      rw [hu] at g bq
      repeat' walk_at "ux"
      refine fin u v _ g ?_ (Bd.mono (k := 41) bq (by decide))
      cases hws : ws with
      | nil =>
        rw [hws] at hu
        cases hu
        exact bn.mono (by decide)
      | cons w0 tl =>
        have hi : ws.length - 1 < ws.length := by rw [hws]; exact Nat.lt_succ_self _
        obtain ⟨s1, s2⟩ := unw_small (hn (by rw [hws]; simp)) I.tl (k := 41) (by rw [hu]; exact bq) hi
        have e1 : ws.length - (ws.length - 1) = 1 := by omega
        rw [e1, hws] at s1 s2
        have b0 := bw w0 (by rw [hws]; exact List.mem_cons_self)
        rw [hws] at hu
        have e2 : w0 * (unw tl (n, 1)).1 + (unw tl (n, 1)).2 = u := congrArg Prod.fst hu
        rw [← e2]
        exact (Bd.add (Bd.mul b0 s1) s2).mono (by decide)
  | none =>
    obtain ⟨no, a, b, c, d, rfl, rfl⟩ := wh_none I.ok.1 I.ok.2.1 hw
    obtain ⟨I2, B⟩ := I.step no
    obtain ⟨b1, ba, bb⟩ := bL a b rfl
    obtain ⟨d1, bc, bd⟩ := bH c d rfl
    have bq : Bd 41 (a / b) := (Bd.div ba (by omega)).mono (by decide)
    have s2 : Steps (10 ^ 81) (ws ++ [a / b]) (overR (c, d) (a / b)) (overR (a, b) (a / b)) ∧ (ws ≠ [] → potB (overR (c, d) (a / b)) + potB (overR (a, b) (a / b)) < potB (some (a, b)) + potB (some (c, d))) := by
      have q1 := pot_first (w := a / b) bd d1 (by have := B.h1; omega) B.h2
      have q2 := pot_first (w := a / b) bb b1 B.l1 (Int.le_of_lt B.l2)
      refine Steps.step (by decide) B b1 d1 st (fun ne => ?_) (by have h3 : (10 : Int) ^ (2 * 40) + 10 ^ (2 * 40) ≤ 10 ^ 81 := (by decide); omega)
      rcases I.go with ⟨z, _⟩ | ⟨_, ⟨a', b', e1, hab⟩, _⟩
      · exact absurd z ne
      · cases e1
        exact (Int.le_ediv_iff_mul_le (by omega)).mpr (by omega)
    have o1 := over_bd (a := c) (w := a / b) bd (by have := B.h1; omega) B.h2
    have o2 := over_bd (a := a) (w := a / b) bb B.l1 (Int.le_of_lt B.l2)
    have w2 : ∀ w ∈ ws ++ [a / b], Bd 41 w := fun w hw => by
      rcases List.mem_append.mp hw with hw | hw
      · exact bw w hw
      · rw [List.mem_singleton.mp hw]; exact bq
    have lt : (if ws ++ [a / b] = [] then 10 ^ 90 else (potB (overR (c, d) (a / b)) + potB (overR (a, b) (a / b))).toNat) < (if ws = [] then 10 ^ 90 else (potB (some (a, b)) + potB (some (c, d))).toNat) := by
      have q1 := pot_first (w := a / b) bd d1 (by have := B.h1; omega) B.h2
      have q2 := pot_first (w := a / b) bb b1 B.l1 (Int.le_of_lt B.l2)
      rw [if_neg (by simp)]
      by_cases z : ws = []
      · rw [if_pos z]
        have h3 : (10 : Int) ^ (2 * 40) + 10 ^ (2 * 40) < 10 ^ 90 := by decide
        omega
      · rw [if_neg z]
        have := s2.2 z
        omega
    generalize hq : a / b = q at *
    repeat' walk_at "ux"
    rw [hq]
    refine wS_app (j := mm.length) rfl (at_end _ _) ?_
    repeat' walk_at "ux"
    refine ⟨_, at_end _ _, sz_lt1 (by rw [List.length_map, List.length_map]; omega), ?_⟩
    dsimp only
    rw [set_at_end]
    have es : (ws.map PyData.int).map Z.d ++ [Z.d (.int q)] = ((ws ++ [q]).map PyData.int).map Z.d := by rw [List.map_append, List.map_append]; rfl
    rw [es]
    repeat' walk_at "ux"
    refine ⟨⟨c, d, q, rfl, bc.mono (by decide), bd.mono (by decide), bq.mono (by decide)⟩, fun r hr => ?_⟩
    obtain rfl := hr c d q rfl
    repeat' walk_at "ux"
    refine ⟨⟨a, b, q, rfl, ba.mono (by decide), bb.mono (by decide), bq.mono (by decide)⟩, fun r hr => ?_⟩
    obtain rfl := hr a b q rfl
    have u1 : BnB 60 (overR (c, d) q) := up o1
    have u2 : BnB 60 (overR (a, b) q) := up o2
    repeat' walk_at "ux"
    refine ⟨⟨_, h', rfl, u1⟩, fun r hr => ?_⟩
    obtain rfl := hr _ h' rfl
    repeat' walk_at "ux"
    refine ⟨⟨_, l, rfl, u2⟩, fun r hr => ?_⟩
    obtain rfl := hr _ l rfl
    repeat' walk_at "ux"
    refine ⟨⟨_, _, rfl⟩, fun r hr => ?_⟩
    obtain rfl := hr _ _ rfl
    exact ⟨_, _, lt, ⟨ws ++ [q], overR (c, d) q, h', overR (a, b) q, l, rfl, I2, o1, o2, w2, s2.1, rfl⟩, by walk_at "lessu"⟩
abbrev s_shows_between : Stmt := topS 29
abbrev N_shows_between : List Str := ["low", "high", "thing", "low_in", "high_in"]
theorem sc_shows_between : FnScope N_shows_between ["low", "high", "thing", "low_in", "high_in"] (defScope s_shows_between) := ⟨rfl, rfl, rfl, by decide +kernel, rfl, by decide +kernel, by decide +kernel⟩
theorem ok_shows_between (d : DfM K mg "shows_between" s_shows_between ["low", "high", "thing", "low_in", "high_in"] [false, false] shs_shows_between) {C_NoBounds C_NoFraction : Addr} (c_is_fraction : Cal P w K mg base 2 "is_fraction" ["thing"] (sp_is_fraction K)) (c_between : CalM P w K mg base 4 "between" ["low", "high", "low_in", "high_in"] (Ux.sp_between K C_NoFraction C_NoBounds) [false, false] shs_between) : CalM P w K mg base 5 "shows_between" ["low", "high", "thing", "low_in", "high_in"] (Ux.sp_shows_between K C_NoFraction C_NoBounds) [false, false] shs_shows_between := by
  refine okM d sc_shows_between (xSp_len rfl) (fun f cdv A outer s H vs Q E hr hgu h => ?_)
  refine ⟨_, (pss_one (ps_ret (pe_and (pe_cmpR (eqAK K hr.units) (pe_calP sh_between_1 c_between (.tail _ (.head _)) (hr.mono (by decide)) hgu (by rfl) (takes_of rfl rfl rfl rfl) (pa_cons (pv 0) (pa_cons (pv 1) (pa_cons (pv 3) (pa_cons (pv 4) pa_nil)))) pk_nil) (pv 2) (nomark _)) (pe_one (pe_cal c_is_fraction (hr.mono (by decide)) hgu (by rfl) (pa_cons (pv 2) pa_nil)))))), ?_⟩
  try dsimp only [cxOf]
  refine x_body h (fun mm zs ds hl hres hp e hnx hrt => ?_)
  obtain ⟨d0, d1, x, li, hi, rfl, rfl, f0, f1, sx⟩ := hp
  show wS _ _ ⟨[some (.d d0), some (.d d1), some (.d x), some (.d (.bool li)), some (.d (.bool hi))], _⟩ _
  repeat' walk_at "ux"
  refine wE_eqA ?_
  refine wE_xP ?_
  repeat' walk_at "ux"
  refine ⟨sl_lt (by decide), [d0, d1, .bool li, .bool hi], .cons (.d _) (.cons (.d _) (.cons (.d _) (.cons (.d _) .nil))), ⟨rfl, d0, d1, li, hi, rfl, rfl, f0, f1⟩, fun z hz => ?_, fun ex hx => ?_⟩
  · obtain ⟨L, H, li', hi', p, q, e1, ok, g, bp, bq, rfl⟩ := hz
    cases e1
    have fin : ∀ (b : Bool) y, b = shwB p q x → e.rt (.d (.bool b)) y := fun b y h => hrt _ _ ⟨L, H, x, li, hi, p, q, rfl, ok, g, by rw [h]⟩
    repeat' walk_at "ux"
    refine ite2 (fun c => ?_) (fun c => ?_)
    · repeat' walk_at "ux"
      exact fin _ _ (by unfold shwB; rw [show PyData.eqv (fr p q) x = true from c]; rfl)
    · exact fin _ _ (by unfold shwB; rw [show PyData.eqv (fr p q) x = false from Bool.eq_false_iff.mpr c]; rfl)
  · obtain ⟨d0', d1', li', hi', e1, hx⟩ := hx
    cases e1
    exact ⟨d0, d1, x, li, hi, rfl, hx⟩
abbrev s_middle : Stmt := topS 30
abbrev N_middle : List Str := ["one", "other", "fraction"]
theorem sc_middle : FnScope N_middle ["one", "other"] (defScope s_middle) := ⟨rfl, rfl, rfl, by decide +kernel, rfl, by decide +kernel, by decide +kernel⟩
theorem ok_middle (d : Df K mg "middle" s_middle ["one", "other"]) {C_NoBounds C_NoFraction : Addr} (x_NoBounds : Xc P w K mg base "NoBounds" C_NoBounds) (c_need_fraction : CalX P w K mg base 3 "need_fraction" ["thing"] (Ux.sp_need_fraction K C_NoFraction)) (c_moved : Cal P w K mg base 1 "moved" ["one", "other", "many"] (sp_moved K)) (c_gap : Cal P w K mg base 1 "gap" ["lesser", "greater"] (sp_gap K)) : CalX P w K mg base 4 "middle" ["one", "other"] (Ux.sp_middle K C_NoFraction C_NoBounds) := by
  refine okX d sc_middle (xSp_len rfl) (fun f cdv A outer s H vs Q E hr hgu h => ?_)
  refine ⟨_, (pss_cons (ps_for (passes_of rfl) rfl (piT K (pe_tup (pa_cons (pv 0) (pa_cons (pv 1) pa_nil)))) (pg_name (i := 2) sc_middle.nd rfl (Or.inl rfl)) (pss_one (ps_expr (pe_calX c_need_fraction (hr.mono (by decide)) hgu (by rfl) (takes_of rfl rfl rfl rfl) (pa_cons (pv 2) pa_nil)))))
    (pss_cons (ps_if (pt_cmpR op_ne (pe_cal c_gap (hr.mono (by decide)) hgu (by rfl) (pa_cons (pv 0) (pa_cons (pv 1) pa_nil))) pe_int (nomark _)) (pss_one (ps_raiseF rfl x_NoBounds (hr.mono (by decide)) (takes_of rfl rfl rfl rfl) (pa_cons (pe_tup (pa_cons (pv 0) (pa_cons (pv 1) pa_nil))) pa_nil) (by rfl))) pss_nil)
    (pss_one (ps_ret (pe_cal c_moved (hr.mono (by decide)) hgu (by rfl) (pa_cons (pv 0) (pa_cons (pv 1) (pa_cons pe_int pa_nil)))))))), ?_⟩
  try dsimp only [cxOf]
  refine x_body h (fun mm zs ds hl hres hp e hnx hrt => ?_)
  obtain ⟨d0, d1, rfl, rfl, f0, f1⟩ := hp
  show wS _ _ ⟨[some (.d d0), some (.d d1), none], _⟩ _
  refine wS_seq (wS_for (wI_tup ?_))
  repeat' walk_at "ux"
  refine (forJ (fun i y => y = ⟨[some (.d d0), some (.d d1), none], mm⟩ ∧ (1 ≤ i → fracB d0 = true) ∧ (2 ≤ i → fracB d1 = true)) ⟨_, ⟨rfl, fun z => by omega, fun z => by omega⟩, by walk_at "lessu"⟩ ?_ ?_)
  · rintro i x y hx ⟨ey, h1, h2⟩
    subst ey
    have two : (i = 0 ∧ x = d0) ∨ (i = 1 ∧ x = d1 ∧ fracB d0 = true) := by
      rcases i with _ | _ | i
      · exact .inl ⟨rfl, (Option.some.inj hx).symm⟩
      · exact .inr ⟨rfl, (Option.some.inj hx).symm, h1 (by decide)⟩
      · simp at hx
    repeat' walk_at "ux"
    refine ⟨[x], .cons (.d _) .nil, ⟨rfl, trivial⟩, fun r hr => ?_, fun ex hx => ?_⟩
    · have hf : fracB x = true := hr.1
      obtain ⟨_, rfl⟩ := hr
      refine ⟨_, ⟨rfl, ?_, ?_⟩, by walk_at "lessu"⟩
      · rcases two with ⟨rfl, rfl⟩ | ⟨rfl, rfl, h0⟩
        · exact fun _ => hf
        · exact fun _ => h0
      · rcases two with ⟨rfl, rfl⟩ | ⟨rfl, rfl, h0⟩
        · exact fun z => by omega
        · exact fun _ => hf
    · obtain ⟨h3, rfl⟩ := hx
      have h3 : fracB x = false := h3
      refine ⟨d0, d1, rfl, ?_⟩
      rcases two with ⟨_, rfl⟩ | ⟨_, rfl, h0⟩
      · exact .inl ⟨h3, rfl⟩
      · exact .inr (.inl ⟨h0, h3, rfl⟩)
  · rintro y2 y' ⟨ey, h1, h2⟩ hl
    subst ey
    refine wS_weak ?_ hl
    have g0 := h1 (Nat.le_succ 1)
    have g1 := h2 (Nat.le_refl 2)
    obtain ⟨a, b, rfl, b1, _⟩ := fracB_tup g0
    obtain ⟨c, d, rfl, d1, _⟩ := fracB_tup g1
    obtain ⟨ba, bb⟩ := f0 a b rfl
    obtain ⟨bc, bd⟩ := f1 c d rfl
    repeat' walk_at "ux"
    refine ⟨⟨rfl, a, b, c, d, rfl, ba.mono (by decide), bb.mono (by decide), bc.mono (by decide), bd.mono (by decide)⟩, ?_⟩
    repeat' walk_at "ux"
    refine ite2 (fun c0 => ?_) (fun c0 => ?_)
    · have c0 : (!decide (c * b - a * d = 1)) = true := c0
      have c0 : c * b - a * d ≠ 1 := fun z => by rw [decide_eq_true z] at c0; cases c0
      refine wS_raise rfl x_NoBounds.oc x_NoBounds.no ?_
      repeat' walk_at "ux"
      exact .inr (.inr ⟨a, b, c, d, rfl, rfl, g0, g1, c0, rfl⟩)
    · have c0 : (!decide (c * b - a * d = 1)) = false := Bool.eq_false_iff.mpr c0
      have c0 : c * b - a * d = 1 := Classical.byContradiction fun z => by rw [decide_eq_false z] at c0; cases c0
      repeat' walk_at "ux"
      refine ⟨⟨rfl, a, b, c, d, 1, rfl, bc.mono (by decide), bd.mono (by decide), Bd.lit (by decide)⟩, ?_⟩
      exact hrt _ _ ⟨a, b, c, d, rfl, c0, ⟨g0, g1⟩, by show Z.d (fr (a + 1 * c) (b + 1 * d)) = _; rw [Int.one_mul, Int.one_mul]⟩
abbrev s_parents : Stmt := topS 31
abbrev N_parents : List Str := ["fraction"]
theorem sc_parents : FnScope N_parents ["fraction"] (defScope s_parents) := ⟨rfl, rfl, rfl, by decide +kernel, rfl, by decide +kernel, by decide +kernel⟩
theorem ok_parents (d : Df K mg "parents" s_parents ["fraction"]) {C_NoFraction C_NoNumber C_NoneThere : Addr} (x_NoneThere : XcB beL P w K mg base "NoneThere" C_NoneThere) (c_need_fraction : CalX P w K mg base 3 "need_fraction" ["thing"] (Ux.sp_need_fraction K C_NoFraction)) (c_neighbours : CalX P w K mg base 5 "neighbours" ["fraction", "bound"] (Ux.sp_neighbours K C_NoFraction C_NoNumber)) : CalX P w K mg base 6 "parents" ["fraction"] (Ux.sp_parents K C_NoFraction C_NoneThere) := by
  refine okX d sc_parents (xSp_len rfl) (fun f cdv A outer s H vs Q E hr hgu h => ?_)
  refine ⟨_, (pss_cons (ps_expr (pe_calX c_need_fraction (hr.mono (by decide)) hgu (by rfl) (takes_of rfl rfl rfl rfl) (pa_cons (pv 0) pa_nil)))
    (pss_cons (ps_if (pt_cmpR op_eq (pe_ix (ixK K) (pv 0) pe_int (fun _ _ => rfl)) pe_int (nomark _)) (pss_one (ps_raiseB rfl x_NoneThere (hr.mono (by decide)) (takes_of rfl rfl rfl rfl) (pa_cons (pv 0) pa_nil) (by rfl))) pss_nil)
    (pss_one (ps_ret (pe_calX c_neighbours (hr.mono (by decide)) hgu (by rfl) (takes_of rfl rfl rfl rfl) (pa_cons (pv 0) (pa_cons (pe_op op_sub (pe_ix (ixK K) (pv 0) pe_int (fun _ _ => rfl)) pe_int) pa_nil))))))), ?_⟩
  try dsimp only [cxOf]
  refine x_body h (fun mm zs ds hl hres hp e hnx hrt => ?_)
  obtain ⟨d0, rfl, rfl, f0⟩ := hp
  show wS _ _ ⟨[some (.d d0)], _⟩ _
  repeat' walk_at "ux"
  refine ⟨[d0], .cons (.d _) .nil, ⟨rfl, trivial⟩, fun r hr => ?_, fun ex hx => ⟨d0, rfl, .inl hx⟩⟩
  obtain ⟨hf, rfl⟩ := hr
  have hf : fracB d0 = true := hf
  obtain ⟨p, q, rfl, q1, hg⟩ := fracB_tup hf
  obtain ⟨bp, bq⟩ := f0 p q rfl
  repeat' walk_at "ux"
  refine ite2 (fun c => ?_) (fun c => ?_)
  · have c : q = 1 := of_decide_eq_true c
    subst c
    refine wS_raiseB rfl x_NoneThere.oc x_NoneThere.no ?_
    repeat' walk_at "ux"
    exact .inr ⟨p, rfl, rfl⟩
  · have c : ¬ q = 1 := of_decide_eq_false (Bool.eq_false_iff.mpr c)
    have fn : FN p q (q - 1) := ⟨q1, hg, by omega, bp.mono (by decide), bq.mono (by decide), Bd.mono (k := 64) (by unfold Bd at *; omega) (by decide)⟩
    repeat' walk_at "ux"
    refine ⟨[fr p q, .int (q - 1)], .cons (.d _) (.cons (.d _) .nil), ⟨rfl, fun _ _ => ⟨p, q, _, rfl, fn⟩⟩, fun r hr => ?_, fun ex hx => ?_⟩
    · obtain ⟨p', q', N', r', e1, _, rfl, h⟩ := hr
      cases e1
      exact hrt _ _ ⟨p, q, r', rfl, fn, rfl, h⟩
    · exfalso
      rcases hx with ⟨h3, _⟩ | ⟨_, h3, _⟩
      · have h3 : fracB (fr p q) = false := h3
        rw [hf] at h3; cases h3
      · have h3 : decide (1 ≤ q - 1) = false := h3
        rw [decide_eq_true (by omega)] at h3; cases h3
abbrev s_law_asked : Stmt := topS 39
abbrev N_law_asked : List Str := ["_law_way", "_law_one", "_law_other", "_law_thing", "e"]
theorem sc_law_asked : FnScope N_law_asked ["_law_way", "_law_one", "_law_other", "_law_thing"] (defScope s_law_asked) := ⟨rfl, rfl, rfl, by decide +kernel, rfl, by decide +kernel, by decide +kernel⟩
theorem ok_law_asked (d : Df K mg "_law_asked" s_law_asked ["_law_way", "_law_one", "_law_other", "_law_thing"]) {C_NoBounds C_NoFraction C_NoneThere : Addr} (x_NoBounds : Xc P w K mg base "NoBounds" C_NoBounds) (x_NoFraction : Xc P w K mg base "NoFraction" C_NoFraction) (x_NoneThere : XcB beL P w K mg base "NoneThere" C_NoneThere) (t_NoFraction_NoFraction : PySem.W.exmOne K (.ref C_NoFraction) (.ref C_NoFraction) = some true) (t_NoBounds_NoFraction : PySem.W.exmOne K (.ref C_NoBounds) (.ref C_NoFraction) = some false) (t_NoneThere_NoFraction : PySem.W.exmOne K (.ref C_NoneThere) (.ref C_NoFraction) = some false) (t_NoBounds_NoBounds : PySem.W.exmOne K (.ref C_NoBounds) (.ref C_NoBounds) = some true) (t_NoneThere_NoBounds : PySem.W.exmOne K (.ref C_NoneThere) (.ref C_NoBounds) = some false) (t_NoneThere_NoneThere : PySem.W.exmOne K (.ref C_NoneThere) (.ref C_NoneThere) = some true) (c_between : CalM P w K mg base 4 "between" ["low", "high", "low_in", "high_in"] (Ux.sp_between K C_NoFraction C_NoBounds) [false, false] shs_between) (c_shows_between : CalM P w K mg base 5 "shows_between" ["low", "high", "thing", "low_in", "high_in"] (Ux.sp_shows_between K C_NoFraction C_NoBounds) [false, false] shs_shows_between) (c_middle : CalX P w K mg base 4 "middle" ["one", "other"] (Ux.sp_middle K C_NoFraction C_NoBounds)) (c_parents : CalX P w K mg base 6 "parents" ["fraction"] (Ux.sp_parents K C_NoFraction C_NoneThere)) : Cal P w K mg base 7 "_law_asked" ["_law_way", "_law_one", "_law_other", "_law_thing"] (Ux.sp_law_asked K) := by
  refine d.ok sc_law_asked (xSp_len rfl) (fun f cdv A outer s H vs Q E hr hgu h => ?_)
  refine ⟨_, (pss_one (ps_tryN rfl rfl sc_law_asked.nd (fun W pn xe tk po => (pss_cons (ps_if (pt_cmpR op_eq (pv 0) pe_int (nomark _)) (pss_one (ps_ret (pe_tup (pa_cons pe_str (pa_cons (pe_calP sh_between_1 c_between (.tail _ (.head _)) (hr.mono (by decide)) hgu (by rfl) tk (pa_cons (pv 1) (pa_cons (pv 2) (pa_cons (pv 3) (pa_cons pe_bl pa_nil)))) pk_nil) pa_nil))))) pss_nil)
    (pss_cons (ps_if (pt_cmpR op_eq (pv 0) pe_int (nomark _)) (pss_one (ps_ret (pe_tup (pa_cons pe_str (pa_cons (pe_calP sh_shows_between_0 c_shows_between (.head _) (hr.mono (by decide)) hgu (by rfl) tk (pa_cons (pv 1) (pa_cons (pv 2) (pa_cons (pv 3) pa_nil))) pk_nil) pa_nil))))) pss_nil)
    (pss_cons (ps_if (pt_cmpR op_eq (pv 0) pe_int (nomark _)) (pss_one (ps_ret (pe_tup (pa_cons pe_str (pa_cons (pe_calX c_middle (hr.mono (by decide)) hgu (by rfl) tk (pa_cons (pv 1) (pa_cons (pv 2) pa_nil))) pa_nil))))) pss_nil)
    (pss_one (ps_ret (pe_tup (pa_cons pe_str (pa_cons (pe_calX c_parents (hr.mono (by decide)) hgu (by rfl) tk (pa_cons (pv 1) pa_nil)) pa_nil))))))))) (HdN.as (i := 4) ⟨rfl, by decide, Or.inl x_NoFraction.gC⟩ rfl rfl (fun a oe cls d pn hz hf => (pss_one (ps_ret (pe_tup (pa_cons pe_str (pa_cons (pe_xf x_NoFraction.xf x_NoFraction.no hz hf (pv 4)) pa_nil)))))) (HdN.as (i := 4) ⟨rfl, by decide, Or.inl x_NoBounds.gC⟩ rfl rfl (fun a oe cls d pn hz hf => (pss_one (ps_ret (pe_tup (pa_cons pe_str (pa_cons (pe_xf x_NoBounds.xf x_NoBounds.no hz hf (pv 4)) pa_nil)))))) (HdN.as (i := 4) ⟨rfl, by decide, Or.inl x_NoneThere.gC⟩ rfl rfl (fun a oe cls d pn hz hf => (pss_one (ps_ret (pe_tup (pa_cons pe_str (pa_cons (pe_xf x_NoneThere.xf x_NoneThere.no hz hf (pv 4)) pa_nil)))))) HdN.stop))))), ?_⟩
  try dsimp only [cxOf]
  refine x_body h (fun mm zs ds hl hres hp e hnx hrt => ?_)
  obtain ⟨w, d0, d1, x, rfl, rfl, w0, w3, f0, f1, x0, x1⟩ := hp
  show wS _ _ ⟨[some (.d (.int w)), some (.d d0), some (.d d1), some (.d x), none], _⟩ _
  have fin : ∀ (r : D) y, askR w d0 d1 x r → e.rt (.d r) y := fun r y h => hrt _ _ ⟨w, d0, d1, x, r, rfl, rfl, h⟩
  refine wS_try (fun W => ?_)
  generalize hH : Hd _ _ _ _ = HD
  have hF : ∀ (u : D) y, (∃ mm', y = ⟨[some (.d (.int w)), some (.d d0), some (.d d1), some (.d x), none], mm'⟩) → askR w d0 d1 x (wrd "fraction" u) → HD ⟨.ref C_NoFraction, .d u⟩ y := by
    rw [← hH]
    rintro u y ⟨mm', rfl⟩ h
    refine ⟨true, t_NoFraction_NoFraction, fun _ a dd => ?_, fun z => Bool.noConfusion z⟩
    repeat' walk_at "ux"
    exact fin _ _ h
  have hB : ∀ (u : D) y, (∃ mm', y = ⟨[some (.d (.int w)), some (.d d0), some (.d d1), some (.d x), none], mm'⟩) → askR w d0 d1 x (wrd "bounds" u) → HD ⟨.ref C_NoBounds, .d u⟩ y := by
    rw [← hH]
    rintro u y ⟨mm', rfl⟩ h
    refine ⟨false, t_NoBounds_NoFraction, fun z => Bool.noConfusion z, fun _ => ⟨true, t_NoBounds_NoBounds, fun _ a dd => ?_, fun z => Bool.noConfusion z⟩⟩
    repeat' walk_at "ux"
    exact fin _ _ h
  have hN : ∀ (u : D) y, (∃ mm', y = ⟨[some (.d (.int w)), some (.d d0), some (.d d1), some (.d x), none], mm'⟩) → askR w d0 d1 x (wrd "none" u) → HD ⟨.ref C_NoneThere, .d u⟩ y := by
    rw [← hH]
    rintro u y ⟨mm', rfl⟩ h
    refine ⟨false, t_NoneThere_NoFraction, fun z => Bool.noConfusion z, fun _ => ⟨false, t_NoneThere_NoBounds, fun z => Bool.noConfusion z, fun _ => ⟨true, t_NoneThere_NoneThere, fun _ a dd => ?_, fun z => Bool.noConfusion z⟩⟩⟩
    repeat' walk_at "ux"
    exact fin _ _ h
  have hR : ∀ (li hi : Bool) ex y, (∃ mm', y = ⟨[some (.d (.int w)), some (.d d0), some (.d d1), some (.d x), none], mm'⟩) → (∀ r, rgR d0 d1 li hi r → askR w d0 d1 x r) → rgX C_NoFraction C_NoBounds d0 d1 li hi ex → HD ex y := by
    rintro li hi ex y hy h (⟨h1, rfl⟩ | ⟨h1, h2, rfl⟩ | ⟨L, H, h1, h2, h3, h4, h5, rfl⟩)
    · exact hF _ _ hy (h _ (.inl ⟨h1, rfl⟩))
    · exact hF _ _ hy (h _ (.inr (.inl ⟨h1, h2, rfl⟩)))
    · exact hB _ _ hy (h _ (.inr (.inr ⟨L, H, h1, h2, h3, h4, h5, rfl⟩)))
  have four : w = 0 ∨ w = 1 ∨ w = 2 ∨ w = 3 := by omega
  clear hH
  rcases four with rfl | rfl | rfl | rfl
  · obtain ⟨b, rfl⟩ := x0 rfl
    have fin : ∀ (r : D) y, btR d0 d1 b r → e.rt (.d r) y := fun r y h => fin r y ⟨fun _ b' eb => by cases eb; exact h, fun z => absurd z (by decide), fun z => absurd z (by decide), fun z => absurd z (by decide)⟩
    have up : ∀ r, rgR d0 d1 b true r → askR 0 d0 d1 (.bool b) r := fun r h => ⟨fun _ b' eb => by cases eb; exact .inl h, fun z => absurd z (by decide), fun z => absurd z (by decide), fun z => absurd z (by decide)⟩
    repeat' walk_at "ux"
    refine wE_xP ?_
    repeat' walk_at "ux"
    refine ⟨sl_lt (by decide), [d0, d1, .bool b, .bool true], .cons (.d _) (.cons (.d _) (.cons (.d _) (.cons (.d _) .nil))), ⟨rfl, d0, d1, b, true, rfl, rfl, f0, f1⟩, fun z hz => ?_, fun ex hx => ?_⟩
    · obtain ⟨L, H, li, hi, p, q, e1, ok, g, _, _, rfl⟩ := hz
      cases e1
      repeat' walk_at "ux"
      exact fin _ _ (.inr ⟨L, H, p, q, rfl, rfl, ok, rfl⟩)
    · obtain ⟨d0', d1', li', hi', e1, hx⟩ := hx
      cases e1
      exact hR b true ex _ ⟨_, rfl⟩ up hx
  · have fin : ∀ (r : D) y, shR d0 d1 x r → e.rt (.d r) y := fun r y h => fin r y ⟨fun z => absurd z (by decide), fun _ => h, fun z => absurd z (by decide), fun z => absurd z (by decide)⟩
    have up : ∀ r, rgR d0 d1 false false r → askR 1 d0 d1 x r := fun r h => ⟨fun z => absurd z (by decide), fun _ => .inl h, fun z => absurd z (by decide), fun z => absurd z (by decide)⟩
    repeat' walk_at "ux"
    refine wE_xP ?_
    repeat' walk_at "ux"
    refine ⟨sl_lt (by decide), [d0, d1, x, .bool false, .bool false], .cons (.d _) (.cons (.d _) (.cons (.d _) (.cons (.d _) (.cons (.d _) .nil)))), ⟨rfl, d0, d1, x, false, false, rfl, rfl, f0, f1, x1 rfl⟩, fun z hz => ?_, fun ex hx => ?_⟩
    · obtain ⟨L, H, x', li, hi, p, q, e1, ok, g, rfl⟩ := hz
      cases e1
      repeat' walk_at "ux"
      exact fin _ _ (.inr ⟨L, H, p, q, rfl, rfl, ok, g, rfl⟩)
    · obtain ⟨d0', d1', x', li', hi', e1, hx⟩ := hx
      cases e1
      exact hR false false ex _ ⟨_, rfl⟩ up hx
  · have up : ∀ r, mdR d0 d1 r → askR 2 d0 d1 x r := fun r h => ⟨fun z => absurd z (by decide), fun z => absurd z (by decide), fun _ => h, fun z => absurd z (by decide)⟩
    repeat' walk_at "ux"
    refine ⟨[d0, d1], .cons (.d _) (.cons (.d _) .nil), ⟨rfl, d0, d1, rfl, rfl, fun a b h => ⟨(f0 a b h).1.mono (by decide), (f0 a b h).2.mono (by decide)⟩, fun a b h => ⟨(f1 a b h).1.mono (by decide), (f1 a b h).2.mono (by decide)⟩⟩, fun z hz => ?_, fun ex hx => ?_⟩
    · obtain ⟨a, b, c, d, e1, h1, hf, rfl⟩ := hz
      cases e1
      repeat' walk_at "ux"
      exact fin _ _ (up _ (.inr (.inr (.inr ⟨a, b, c, d, rfl, rfl, h1, hf, rfl⟩))))
    · obtain ⟨d0', d1', e1, hx⟩ := hx
      cases e1
      rcases hx with ⟨h1, rfl⟩ | ⟨h1, h2, rfl⟩ | ⟨a, b, c, d, h1, h2, h3, h4, h5, rfl⟩
      · exact hF _ _ ⟨_, rfl⟩ (up _ (.inl ⟨h1, rfl⟩))
      · exact hF _ _ ⟨_, rfl⟩ (up _ (.inr (.inl ⟨h1, h2, rfl⟩)))
      · exact hB _ _ ⟨_, rfl⟩ (up _ (.inr (.inr (.inl ⟨a, b, c, d, h1, h2, h3, h4, h5, rfl⟩))))
  · have up : ∀ r, prR d0 r → askR 3 d0 d1 x r := fun r h => ⟨fun z => absurd z (by decide), fun z => absurd z (by decide), fun z => absurd z (by decide), fun _ => h⟩
    repeat' walk_at "ux"
    refine ⟨[d0], .cons (.d _) .nil, ⟨rfl, d0, rfl, rfl, fun a b h => ⟨(f0 a b h).1.mono (by decide), (f0 a b h).2.mono (by decide)⟩⟩, fun z hz => ?_, fun ex hx => ?_⟩
    · obtain ⟨p, q, r', e1, h1, rfl, h2⟩ := hz
      cases e1
      repeat' walk_at "ux"
      exact fin _ _ (up _ (.inr (.inr ⟨p, q, r', rfl, h1, h2, rfl⟩)))
    · obtain ⟨d0', e1, hx⟩ := hx
      cases e1
      rcases hx with ⟨h1, rfl⟩ | ⟨p, h1, rfl⟩
      · exact hF _ _ ⟨_, rfl⟩ (up _ (.inl ⟨h1, rfl⟩))
      · exact hN _ _ ⟨_, rfl⟩ (up _ (.inr (.inl ⟨p, h1, rfl⟩)))
abbrev s_law_ends : Stmt := topS 42
abbrev N_law_ends : List Str := ["_law_low", "_law_high", "_law_paper", "_law_best"]
theorem sc_law_ends : FnScope N_law_ends ["_law_low", "_law_high", "_law_paper"] (defScope s_law_ends) := ⟨rfl, rfl, rfl, by decide +kernel, rfl, by decide +kernel, by decide +kernel⟩
theorem ok_law_ends (d : Df K mg "_law_ends" s_law_ends ["_law_low", "_law_high", "_law_paper"]) (dg : base.NoDigits) (b_abs : mg "abs" = none) (b_repr : mg "repr" = none) : Cal P w K mg base 1 "_law_ends" ["_law_low", "_law_high", "_law_paper"] (Ux.sp_law_ends K) := by
  refine d.ok sc_law_ends (pureSp_len rfl) (fun f cdv A outer s H vs Q E hr hgu h => ?_)
  refine ⟨_, (pss_cons (ps_set (i := 3) sc_law_ends.nd rfl (Or.inl rfl) (pv 0))
    (pss_cons (ps_if (PW.pt (pw_or (pt_cmpR op_lt (pe_ix (ixK K) (pv 1) pe_int (fun _ _ => rfl)) (pe_ix (ixK K) (pv 0) pe_int (fun _ _ => rfl)) (nomark _)) (pw_or1 (PW.pt (pw_and (pt_cmpR op_eq (pe_ix (ixK K) (pv 1) pe_int (fun _ _ => rfl)) (pe_ix (ixK K) (pv 0) pe_int (fun _ _ => rfl)) (nomark _)) (pw_and1 (pt_cmpR op_lt (pe_callB call_abs (by rfl) b_abs (by decide +kernel) (pa_cons (pe_ix (ixK K) (pv 1) pe_int (fun _ _ => rfl)) pa_nil)) (pe_callB call_abs (by rfl) b_abs (by decide +kernel) (pa_cons (pe_ix (ixK K) (pv 0) pe_int (fun _ _ => rfl)) pa_nil)) (nomark _)))))))) (pss_one (ps_set (i := 3) sc_law_ends.nd rfl (Or.inl rfl) (pv 1))) pss_nil)
    (pss_one (ps_ret (pe_cmpR op_eq (pe_callB (reprXK K hgu hr.units dg) (by rfl) b_repr (by decide +kernel) (pa_cons (pv 2) pa_nil)) (pe_callB (reprXK K hgu hr.units dg) (by rfl) b_repr (by decide +kernel) (pa_cons (pv 3) pa_nil)) (nomark _)))))), ?_⟩
  try dsimp only [cxOf]
  refine pure_body h (fun ds hl hp e hnx hrt => ?_)
  obtain ⟨a, b, c, d, x, rfl, h, sx⟩ := hp
  have fin : ∀ (r : D) y, r = .bool (decide (x.shown = (bestD a b c d).shown)) → e.rt (.d r) y := fun r y h => hrt _ _ (fun a' b' c' d' x' e' => by cases e'; exact h)
  obtain ⟨b1, d1, one, ba, bb, bc, bd⟩ := h
  show wS _ _ ⟨[some (.d (fr a b)), some (.d (fr c d)), some (.d x), none], _⟩ _
  repeat' walk_at "ux"
  have eb : ∀ {p q : Int}, bestF a b c d = (p, q) → bestD a b c d = fr p q := fun h => by unfold bestD; rw [h]
  have sA : ShX (fr a b) := (shx_fr (ba.mono (by decide)) (bb.mono (by decide))).ok
  have sC : ShX (fr c d) := (shx_fr (bc.mono (by decide)) (bd.mono (by decide))).ok
  have lo : ¬ (d < b ∨ (d = b ∧ c.natAbs < a.natAbs)) → ∀ y, e.rt (.d (.bool (decide (x.shown = (fr a b).shown)))) y := fun h y => fin _ y (by rw [eb (p := a) (q := b) (by unfold bestF; rw [if_neg h])])
  have hh : (d < b ∨ (d = b ∧ c.natAbs < a.natAbs)) → ∀ y, e.rt (.d (.bool (decide (x.shown = (fr c d).shown)))) y := fun h y => fin _ y (by rw [eb (p := c) (q := d) (by unfold bestF; rw [if_pos h])])
  refine ite2 (fun c0 => ?_) (fun c0 => ?_)
  · have c0 : d < b := of_decide_eq_true c0
    repeat' walk_at "ux"
    exact hh (.inl c0) _
  · have c0 : ¬ d < b := of_decide_eq_false (Bool.eq_false_iff.mpr c0)
    repeat' walk_at "ux"
    refine ite2 (fun c1 => ?_) (fun c1 => ?_)
    · have c1 : d = b := of_decide_eq_true c1
      repeat' walk_at "ux"
      refine ite2 (fun c2 => ?_) (fun c2 => ?_)
      · have c2 := of_decide_eq_true c2
        repeat' walk_at "ux"
        exact hh (.inr ⟨c1, by split at c2 <;> split at c2 <;> omega⟩) _
      · have c2 := of_decide_eq_false (Bool.eq_false_iff.mpr c2)
        repeat' walk_at "ux"
        exact lo (by rintro (z | ⟨_, z⟩) <;> split at c2 <;> (try split at c2) <;> omega) _
    · have c1 : ¬ d = b := of_decide_eq_false (Bool.eq_false_iff.mpr c1)
      repeat' walk_at "ux"
      exact lo (by omega) _
abbrev s_law_shown_right : Stmt := topS 41
abbrev N_law_shown_right : List Str := ["_law_low", "_law_high", "_law_papers_here", "_law_at", "_law_paper"]
theorem sc_law_shown_right : FnScope N_law_shown_right ["_law_low", "_law_high"] (defScope s_law_shown_right) := ⟨rfl, rfl, rfl, by decide +kernel, rfl, by decide +kernel, by decide +kernel⟩
theorem ok_law_shown_right (d : Df K mg "_law_shown_right" s_law_shown_right ["_law_low", "_law_high"]) (dg : base.NoDigits) {C_NoBounds C_NoFraction : Addr} (c_between : CalM P w K mg base 4 "between" ["low", "high", "low_in", "high_in"] (Ux.sp_between K C_NoFraction C_NoBounds) [false, false] shs_between) (c_shows_between : CalM P w K mg base 5 "shows_between" ["low", "high", "thing", "low_in", "high_in"] (Ux.sp_shows_between K C_NoFraction C_NoBounds) [false, false] shs_shows_between) (c_law_asked : Cal P w K mg base 7 "_law_asked" ["_law_way", "_law_one", "_law_other", "_law_thing"] (Ux.sp_law_asked K)) (c_law_papers : Cal P w K mg base 1 "_law_papers" ["_law_low", "_law_high"] (sp_law_papers K)) (c_law_ends : Cal P w K mg base 1 "_law_ends" ["_law_low", "_law_high", "_law_paper"] (Ux.sp_law_ends K)) (b_enumerate : mg "enumerate" = none) (b_repr : mg "repr" = none) : Cal P w K mg base 8 "_law_shown_right" ["_law_low", "_law_high"] (Ux.sp_law_shown_right K) := by
  refine d.ok sc_law_shown_right (pureSp_len rfl) (fun f cdv A outer s H vs Q E hr hgu h => ?_)
  refine ⟨_, (pss_cons (ps_set (i := 2) sc_law_shown_right.nd rfl (Or.inl rfl) (pe_cal c_law_papers (hr.mono (by decide)) hgu (by rfl) (pa_cons (pv 0) (pa_cons (pv 1) pa_nil))))
    (pss_cons (ps_for PassesOwn.never rfl (piEA K (by rfl) b_enumerate (pa_cons (pv 2) pa_nil)) (pgT K rfl (pgs_cons (pg_name (i := 3) sc_law_shown_right.nd rfl (Or.inl rfl)) (pgs_cons (pg_name (i := 4) sc_law_shown_right.nd rfl (Or.inl rfl)) pgs_nil))) (pss_cons (ps_if (pt_cmpR op_ne (pe_callB (reprXK K hgu hr.units dg) (by rfl) b_repr (by decide +kernel) (pa_cons (pe_cal c_law_asked (hr.mono (by decide)) hgu (by rfl) (pa_cons pe_int (pa_cons (pv 0) (pa_cons (pv 1) (pa_cons (pv 4) pa_nil))))) pa_nil)) (pe_callB (reprXK K hgu hr.units dg) (by rfl) b_repr (by decide +kernel) (pa_cons (pe_tup (pa_cons pe_str (pa_cons (pe_cmpR op_eq (pv 3) pe_int (nomark _)) pa_nil))) pa_nil)) (nomark _)) (pss_one (ps_ret pe_bl)) pss_nil)
    (pss_one (ps_if (pt_cmpR op_ne (pe_callB (reprXK K hgu hr.units dg) (by rfl) b_repr (by decide +kernel) (pa_cons (pe_calP sh_shows_between_1 c_shows_between (.tail _ (.head _)) (hr.mono (by decide)) hgu (by rfl) takes0 (pa_cons (pv 0) (pa_cons (pv 1) (pa_cons (pv 4) pa_nil))) (pk_cons pe_bl (pk_cons pe_bl pk_nil))) pa_nil)) (pe_callB (reprXK K hgu hr.units dg) (by rfl) b_repr (by decide +kernel) (pa_cons (pe_cal c_law_ends (hr.mono (by decide)) hgu (by rfl) (pa_cons (pv 0) (pa_cons (pv 1) (pa_cons (pv 4) pa_nil)))) pa_nil)) (nomark _)) (pss_one (ps_ret pe_bl)) pss_nil))))
    (pss_one (ps_ret (pe_cmpR op_eq (pe_callB (reprXK K hgu hr.units dg) (by rfl) b_repr (by decide +kernel) (pa_cons (pe_calP sh_between_0 c_between (.head _) (hr.mono (by decide)) hgu (by rfl) takes0 (pa_cons (pv 0) (pa_cons (pv 1) pa_nil)) pk_nil) pa_nil)) (pe_callB (reprXK K hgu hr.units dg) (by rfl) b_repr (by decide +kernel) (pa_cons (pe_ix (ixK K) (pv 2) pe_int (fun _ _ => rfl)) pa_nil)) (nomark _)))))), ?_⟩
  try dsimp only [cxOf]
  refine pure_body h (fun ds hl hp e hnx hrt => ?_)
  obtain ⟨a, b, c, d, rfl, sb⟩ := hp
  have fin : ∀ y, e.rt (.d (.bool true)) y := fun y => hrt _ _ rfl
  show wS _ _ ⟨[some (.d (fr a b)), some (.d (fr c d)), none, none, none], _⟩ _
  repeat' walk_at "ux"
  refine ⟨⟨a, b, c, d, rfl, sb⟩, fun r hr => ?_⟩
  obtain rfl := hr a b c d rfl
  repeat' walk_at "ux"
  obtain ⟨f0, f1⟩ := sb_fb sb
  generalize hP : papersD a b c d = P
  have h0 : ∀ (i : Nat) x, P[i]? = some x → shwB (a + c) (b + d) x = decide (i = 0) := fun i x hx => papers_first sb (by rw [hP]; exact hx)
  have h1 : ∀ x ∈ P, (isDict x = true ∨ SeqAt.shaped x = true) ∧ ShX x := fun x hx => papers_kind sb x (by rw [hP]; exact hx)
  have h2 : ∀ p q : Int, 1 ≤ q → gcdI p q = 1 → ∀ x ∈ P, (PyData.eqv (fr p q) x && fracB x) = decide (x.shown = (fr p q).shown) := fun p q hq hg x hx => paper_same hq hg x (by rw [hP]; exact hx)
  have hd : dIx (.list P) 0 = some (fr (a + c) (b + d)) := by rw [← hP]; rfl
  have sx0 : ShX (fr (a + c) (b + d)) := by rw [← hP] at h1; exact (h1 _ List.mem_cons_self).2
  clear hP
  refine wS_for (wI_enumA ?_)
  repeat' walk_at "ux"
  refine ⟨fun i y => ∃ q3 q4, y = ⟨[some (.d (fr a b)), some (.d (fr c d)), some (.d (.list P)), q3, q4], []⟩, ⟨_, _, rfl⟩, ?_, ?_⟩
  · rintro i x y hx ⟨q3, q4, rfl⟩
    obtain ⟨u, hu, rfl⟩ := enumD_get hx
    have hm := List.mem_of_getElem? hu
    obtain ⟨sk, sh⟩ := h1 u hm
    have e0 := h0 i u hu
    repeat' walk_at "ux"
    refine ⟨[.int 1, fr a b, fr c d, u], .cons (.d _) (.cons (.d _) (.cons (.d _) (.cons (.d _) .nil))), ⟨rfl, 1, fr a b, fr c d, u, rfl, rfl, by decide, by decide, f0, f1, fun z => absurd z (by decide), fun _ => sk⟩, fun z hz => ?_⟩
    obtain ⟨w, d0, d1, x', r, e1, rfl, hr⟩ := hz
    cases e1
    have hr := sh_told sb (hr.2.1 rfl)
    rw [e0] at hr
    subst hr
    have ei : eqS (.int (i : Int)) (.int 0) = decide (i = 0) := decide_eq_decide.mpr (by omega)
    repeat' walk_at "ux"
    refine ⟨shx_told _, ?_⟩
    repeat' walk_at "ux"
    rw [ei]
    refine ⟨shx_told _, _, _, rfl, rfl, rfl, _, rfl, itb_f (congrArg Bool.not (eqS_self _)) ?_⟩
    repeat' walk_at "ux"
    refine wE_xP ?_
    repeat' walk_at "ux"
    refine ⟨sl_lt (by decide), [fr a b, fr c d, u, .bool true, .bool true], .cons (.d _) (.cons (.d _) (.cons (.d _) (.cons (.d _) (.cons (.d _) .nil)))), ⟨rfl, _, _, u, true, true, rfl, rfl, f0, f1, sk⟩, fun z hz => ?_, fun ex hx => ?_⟩
    · obtain ⟨L, H, x', li, hi, p, q, e1, ok, g, rfl⟩ := hz
      rw [List.cons.injEq, List.cons.injEq, List.cons.injEq, List.cons.injEq, List.cons.injEq] at e1
      obtain ⟨e1, e2, e3, e4, e5, _⟩ := e1
      obtain ⟨rfl, rfl⟩ := sb_l e1 e2
      cases e3; cases e4; cases e5
      have eb := good_ends sb g
      have ebd : bestD a b c d = fr p q := by unfold bestD; rw [eb]
      have es : shwB p q u = decide (u.shown = (bestD a b c d).shown) := by rw [ebd]; exact h2 p q g.1 g.2.1 u hm
      repeat' walk_at "ux"
      refine ⟨shx_bool _, ?_⟩
      repeat' walk_at "ux"
      refine ⟨⟨a, b, c, d, u, rfl, sb, sh⟩, fun r hr => ?_⟩
      obtain rfl := hr a b c d u rfl
      repeat' walk_at "ux"
      rw [es]
      refine ⟨shx_bool _, _, _, rfl, rfl, rfl, _, rfl, itb_f (congrArg Bool.not (eqS_self _)) ?_⟩
      repeat' walk_at "ux"
      exact ⟨_, _, rfl⟩
    · obtain ⟨d0', d1', x', li', hi', e1, hx⟩ := hx
      cases e1
      exact absurd hx (sb_rgX sb)
  · rintro y ⟨q3, q4, rfl⟩
    repeat' walk_at "ux"
    refine wE_xP ?_
    repeat' walk_at "ux"
    refine ⟨sl_lt (by decide), [fr a b, fr c d, .bool false, .bool false], .cons (.d _) (.cons (.d _) (.cons (.d _) (.cons (.d _) .nil))), ⟨rfl, _, _, false, false, rfl, rfl, f0, f1⟩, fun z hz => ?_, fun ex hx => ?_⟩
    · obtain ⟨L, H, li, hi, p, q, e1, ok, g, _, _, rfl⟩ := hz
      rw [List.cons.injEq, List.cons.injEq, List.cons.injEq, List.cons.injEq] at e1
      obtain ⟨e1, e2, e3, e4, _⟩ := e1
      obtain ⟨rfl, rfl⟩ := sb_l e1 e2
      cases e3; cases e4
      obtain ⟨rfl, rfl⟩ := good_mid sb g
      repeat' walk_at "ux"
      refine ⟨_, _, _, rfl, rfl, hd, _, rfl, sx0, _, _, rfl, rfl, rfl, ?_⟩
      rw [eqS_self]
      exact fin _
    · obtain ⟨d0', d1', li', hi', e1, hx⟩ := hx
      cases e1
      exact absurd hx (sb_rgX sb)
abbrev s_law_refused_right : Stmt := topS 43
abbrev N_law_refused_right : List Str := ["_law_purse_here", "_law_low", "_law_high", "_law_odd", "_law_thing", "_law_paper", "_law_one", "_law_other", "_law_due", "_law_way"]
theorem sc_law_refused_right : FnScope N_law_refused_right ["_law_purse_here", "_law_low", "_law_high"] (defScope s_law_refused_right) := ⟨rfl, rfl, rfl, by decide +kernel, rfl, by decide +kernel, by decide +kernel⟩
theorem ok_law_refused_right (d : Df K mg "_law_refused_right" s_law_refused_right ["_law_purse_here", "_law_low", "_law_high"]) (dg : base.NoDigits) (c_law_take : Cal P w K mg base 1 "_law_take" ["_law_purse_here", "_law_many"] (sp_law_take K)) (c_law_asked : Cal P w K mg base 7 "_law_asked" ["_law_way", "_law_one", "_law_other", "_law_thing"] (Ux.sp_law_asked K)) (b_range : mg "range" = none) (b_repr : mg "repr" = none) : Cal P w K mg base 8 "_law_refused_right" ["_law_purse_here", "_law_low", "_law_high"] (Ux.sp_law_refused_right K) := by
  refine d.ok sc_law_refused_right (puSp_len rfl) (fun f cdv A outer s H vs Q E hr hgu h => ?_)
  refine ⟨_, (pss_cons (ps_set (i := 3) sc_law_refused_right.nd rfl (Or.inl rfl) (pe_lst (pa_cons pe_bl (pa_cons pe_int (pa_cons pe_str (pa_cons (pe_lst (pa_cons pe_int (pa_cons pe_int pa_nil))) (pa_cons (pe_tup (pa_cons pe_int (pa_cons pe_int pa_nil))) (pa_cons (pe_tup (pa_cons pe_int (pa_cons pe_int pa_nil))) (pa_cons (pe_tup (pa_cons pe_int pa_nil)) (pa_cons (pe_tup (pa_cons pe_bl (pa_cons pe_int pa_nil))) (pa_cons pe_dnewK (pa_cons pe_str (pa_cons (pe_tup (pa_cons pe_int (pa_cons (pe_un un_neg pe_int) pa_nil))) (pa_cons (pe_tup (pa_cons pe_str (pa_cons pe_int pa_nil))) (pa_cons (pe_lst pa_nil) (pa_cons pe_bl pa_nil))))))))))))))))
    (pss_cons (ps_set (i := 4) sc_law_refused_right.nd rfl (Or.inl rfl) (pe_ix (ixK K) (pv 3) (pe_cal c_law_take (hr.mono (by decide)) hgu (by rfl) (pa_cons (pv 0) (pa_cons pe_int pa_nil))) (fun _ _ => rfl)))
    (pss_cons (ps_set (i := 5) sc_law_refused_right.nd rfl (Or.inl rfl) (pe_ix (ixK K) (pe_lst (pa_cons pe_non (pa_cons (pv 1) (pa_cons (pv 4) pa_nil)))) (pe_cal c_law_take (hr.mono (by decide)) hgu (by rfl) (pa_cons (pv 0) (pa_cons pe_int pa_nil))) (fun _ _ => rfl)))
    (pss_cons (ps_for PassesOwn.never rfl (piL K (pe_lst (pa_cons (pe_tup (pa_cons (pv 4) (pa_cons (pv 2) pa_nil))) (pa_cons (pe_tup (pa_cons (pv 4) (pa_cons pe_non pa_nil))) (pa_cons (pe_tup (pa_cons (pv 4) (pa_cons (pv 4) pa_nil))) (pa_cons (pe_tup (pa_cons (pv 1) (pa_cons (pv 4) pa_nil))) (pa_cons (pe_tup (pa_cons pe_non (pa_cons (pv 4) pa_nil))) pa_nil))))))) (pgT K rfl (pgs_cons (pg_name (i := 6) sc_law_refused_right.nd rfl (Or.inl rfl)) (pgs_cons (pg_name (i := 7) sc_law_refused_right.nd rfl (Or.inl rfl)) pgs_nil))) (pss_cons (ps_set (i := 8) sc_law_refused_right.nd rfl (Or.inl rfl) (pe_callB (reprXK K hgu hr.units dg) (by rfl) b_repr (by decide +kernel) (pa_cons (pe_tup (pa_cons pe_str (pa_cons (pv 4) pa_nil))) pa_nil)))
    (pss_one (ps_if (PW.pt (pw_or (pt_cmpR op_ne (pe_callB (reprXK K hgu hr.units dg) (by rfl) b_repr (by decide +kernel) (pa_cons (pe_cal c_law_asked (hr.mono (by decide)) hgu (by rfl) (pa_cons pe_int (pa_cons (pv 6) (pa_cons (pv 7) (pa_cons pe_bl pa_nil))))) pa_nil)) (pv 8) (nomark _)) (pw_or1 (pt_cmpR op_ne (pe_callB (reprXK K hgu hr.units dg) (by rfl) b_repr (by decide +kernel) (pa_cons (pe_cal c_law_asked (hr.mono (by decide)) hgu (by rfl) (pa_cons pe_int (pa_cons (pv 6) (pa_cons (pv 7) (pa_cons (pv 5) pa_nil))))) pa_nil)) (pv 8) (nomark _))))) (pss_one (ps_ret pe_bl)) pss_nil))))
    (pss_cons (ps_for PassesOwn.never rfl (pi_range1 (by rfl) b_range (pa_cons pe_int pa_nil)) (pg_name (i := 9) sc_law_refused_right.nd rfl (Or.inl rfl)) (pss_cons (ps_if (pt_cmpR op_ne (pe_callB (reprXK K hgu hr.units dg) (by rfl) b_repr (by decide +kernel) (pa_cons (pe_cal c_law_asked (hr.mono (by decide)) hgu (by rfl) (pa_cons (pv 9) (pa_cons (pv 2) (pa_cons (pv 1) (pa_cons pe_bl pa_nil))))) pa_nil)) (pe_callB (reprXK K hgu hr.units dg) (by rfl) b_repr (by decide +kernel) (pa_cons (pe_tup (pa_cons pe_str (pa_cons (pe_tup (pa_cons (pv 2) (pa_cons (pv 1) pa_nil))) pa_nil))) pa_nil)) (nomark _)) (pss_one (ps_ret pe_bl)) pss_nil)
    (pss_one (ps_if (pt_cmpR op_ne (pe_callB (reprXK K hgu hr.units dg) (by rfl) b_repr (by decide +kernel) (pa_cons (pe_cal c_law_asked (hr.mono (by decide)) hgu (by rfl) (pa_cons (pv 9) (pa_cons (pv 1) (pa_cons (pv 1) (pa_cons pe_bl pa_nil))))) pa_nil)) (pe_callB (reprXK K hgu hr.units dg) (by rfl) b_repr (by decide +kernel) (pa_cons (pe_tup (pa_cons pe_str (pa_cons (pe_tup (pa_cons (pv 1) (pa_cons (pv 1) pa_nil))) pa_nil))) pa_nil)) (nomark _)) (pss_one (ps_ret pe_bl)) pss_nil))))
    (pss_cons (ps_for PassesOwn.never rfl (piL K (pe_lst (pa_cons (pe_tup (pa_cons (pv 4) (pa_cons (pv 2) (pa_cons (pv 4) pa_nil)))) (pa_cons (pe_tup (pa_cons pe_non (pa_cons (pv 4) (pa_cons pe_non pa_nil)))) (pa_cons (pe_tup (pa_cons (pv 1) (pa_cons (pv 4) (pa_cons (pv 4) pa_nil)))) (pa_cons (pe_tup (pa_cons (pv 2) (pa_cons pe_non (pa_cons pe_non pa_nil)))) pa_nil)))))) (pgT K rfl (pgs_cons (pg_name (i := 6) sc_law_refused_right.nd rfl (Or.inl rfl)) (pgs_cons (pg_name (i := 7) sc_law_refused_right.nd rfl (Or.inl rfl)) (pgs_cons (pg_name (i := 8) sc_law_refused_right.nd rfl (Or.inl rfl)) pgs_nil)))) (pss_one (ps_if (pt_cmpR op_ne (pe_callB (reprXK K hgu hr.units dg) (by rfl) b_repr (by decide +kernel) (pa_cons (pe_cal c_law_asked (hr.mono (by decide)) hgu (by rfl) (pa_cons pe_int (pa_cons (pv 6) (pa_cons (pv 7) (pa_cons pe_non pa_nil))))) pa_nil)) (pe_callB (reprXK K hgu hr.units dg) (by rfl) b_repr (by decide +kernel) (pa_cons (pe_tup (pa_cons pe_str (pa_cons (pv 8) pa_nil))) pa_nil)) (nomark _)) (pss_one (ps_ret pe_bl)) pss_nil)))
    (pss_one (ps_ret (pe_cmpR op_eq (pe_callB (reprXK K hgu hr.units dg) (by rfl) b_repr (by decide +kernel) (pa_cons (pe_cal c_law_asked (hr.mono (by decide)) hgu (by rfl) (pa_cons pe_int (pa_cons (pv 4) (pa_cons pe_non (pa_cons pe_non pa_nil))))) pa_nil)) (pe_callB (reprXK K hgu hr.units dg) (by rfl) b_repr (by decide +kernel) (pa_cons (pe_tup (pa_cons pe_str (pa_cons (pv 4) pa_nil))) pa_nil)) (nomark _)))))))))), ?_⟩
  try dsimp only [cxOf]
  refine pu_body h (fun ds mm pp hl hp hc e hnx hrt => ?_)
  obtain ⟨a, b, c, d, rfl, sb⟩ := hp
  have hc : 2 ≤ mm := hc
  obtain ⟨f0, f1⟩ := sb_fb sb
  have fn : FB 40 .none := fun u v e => by cases e
  have sA3 : Shx 3300 1 (fr a b) := shx_fr (sb.ba.mono (by decide)) (sb.bb.mono (by decide))
  have sC3 : Shx 3300 1 (fr c d) := shx_fr (sb.bc.mono (by decide)) (sb.bd.mono (by decide))
  obtain ⟨st, sbd, sn, sf⟩ := shx_t
  have shA : isDict (fr a b) = true ∨ SeqAt.shaped (fr a b) = true := .inr (shaped_fr _ _)
  have ask : ∀ {w : Int} {d0 d1 x : D}, 0 ≤ w → w ≤ 3 → FB 40 d0 → FB 40 d1 → (w = 0 → ∃ b, x = .bool b) → (isDict x = true ∨ SeqAt.shaped x = true) → askP [.d (.int w), .d d0, .d d1, .d x] [.int w, d0, d1, x] := fun h0 h3 h4 h5 h6 h7 => ⟨_, _, _, _, rfl, rfl, h0, h3, h4, h5, h6, fun _ => h7⟩
  show wS _ _ ⟨[some (.lab pp), some (.d (fr a b)), some (.d (fr c d)), none, none, none, none, none, none, none], _⟩ _
  repeat' walk_at "ux"
  rename_i r r0 r1
  refine ixD19 r0 r1 (fun t ht => ?_)
  obtain ⟨t1, t2, t3, t4, t5⟩ : OddT t := odd_t t ht
  clear ht
  repeat' walk_at "ux"
  rename_i r2 r20 r21
  refine ixD19 r20 r21 (fun p hp => ?_)
  have p1 : isDict p = true ∨ SeqAt.shaped p = true := by
    simp only [List.mem_cons, List.not_mem_nil, or_false] at hp
    rcases hp with rfl | rfl | rfl
    · exact .inr rfl
    · exact shA
    · exact t3
  clear hp r20 r21 r0 r1
  repeat' walk_at "ux"
  have tn : FB 40 t := t5
  have sT : ShX (wrd "fraction" t) := shx_wrd sf t4
  obtain ⟨X, hX⟩ : ∃ X, (wrd "fraction" t).shown = X := ⟨_, rfl⟩
  have hl0 := sb_bd sb
  have P1 : ∀ x ∈ [PyData.tuple [t, fr c d], .tuple [t, .none], .tuple [t, t], .tuple [fr a b, t], .tuple [.none, t]], ∃ d0 d1, x = .tuple [d0, d1] ∧ (d0 = t ∨ (bdB d0 = true ∧ d1 = t)) ∧ FB 40 d0 ∧ FB 40 d1 := by
    intro x hx
    simp only [List.mem_cons, List.not_mem_nil, or_false] at hx
    rcases hx with rfl | rfl | rfl | rfl | rfl
    · exact ⟨_, _, rfl, .inl rfl, tn, f1⟩
    · exact ⟨_, _, rfl, .inl rfl, tn, fn⟩
    · exact ⟨_, _, rfl, .inl rfl, tn, tn⟩
    · exact ⟨_, _, rfl, .inr ⟨hl0.1, rfl⟩, f0, tn⟩
    · exact ⟨_, _, rfl, .inr ⟨rfl, rfl⟩, fn, tn⟩
  refine wS_for (wI_list ?_)
  repeat' walk_at "ux"
  refine ⟨fun i y => ∃ q6 q7 q8, y = ⟨[some (.lab pp), some (.d (fr a b)), some (.d (fr c d)), some (.d (.list oddD)), some (.d t), some (.d p), q6, q7, q8, none], [⟨pp, false, .pu (mm - 1 - 1)⟩]⟩, ⟨_, _, _, rfl⟩, ?_, ?_⟩
  · rintro i x y hx ⟨q6, q7, q8, rfl⟩
    obtain ⟨d0, d1, rfl, hd, g0, g1⟩ := P1 x (List.mem_of_getElem? hx)
    clear P1 hx
    repeat' walk_at "ux"
    refine ⟨sT, ?_⟩
    rw [show (PyData.tuple [.str "fraction", t]).shown = X from hX]
    repeat' walk_at "ux"
    refine ⟨[.int 0, d0, d1, .bool true], .cons (.d _) (.cons (.d _) (.cons (.d _) (.cons (.d _) .nil))), ⟨rfl, ask (by decide) (by decide) g0 g1 (fun _ => ⟨_, rfl⟩) (.inr rfl)⟩, fun z hz => ?_⟩
    obtain ⟨w, d0', d1', x', r, e1, rfl, hr⟩ := hz
    cases e1
    obtain rfl := bt_bad hd t2 (hr.1 rfl _ rfl)
    refine ⟨_, rfl, sT, ?_⟩
    rw [hX]
    repeat' walk_at "ux"
    refine itb_f (congrArg Bool.not (eqS_self X)) ?_
    repeat' walk_at "ux"
    refine ⟨[.int 1, d0, d1, p], .cons (.d _) (.cons (.d _) (.cons (.d _) (.cons (.d _) .nil))), ⟨rfl, ask (by decide) (by decide) g0 g1 (fun z => absurd z (by decide)) p1⟩, fun z hz => ?_⟩
    obtain ⟨w', d0', d1', x', r, e1, rfl, hr⟩ := hz
    cases e1
    obtain rfl := sh_bad hd t2 (hr.2.1 rfl)
    refine ⟨_, rfl, sT, ?_⟩
    rw [hX]
    repeat' walk_at "ux"
    refine itb_f (congrArg Bool.not (eqS_self X)) ?_
    repeat' walk_at "ux"
    exact ⟨_, _, _, rfl⟩
  rintro y2 ⟨q6, q7, q8, rfl⟩
  clear P1
  repeat' walk_at "ux"
  refine wS_for ?_
  repeat' walk_at "ux"
  refine forJ (fun i y => y = ⟨[some (.lab pp), some (.d (fr a b)), some (.d (fr c d)), some (.d (.list oddD)), some (.d t), some (.d p), q6, q7, q8, none], [⟨pp, false, .pu (mm - 1 - 1)⟩]⟩) ⟨_, rfl, by walk_at "lessu"⟩ ?_ ?_
  · rintro i x y hx rfl
    obtain ⟨w, rfl, hw⟩ : ∃ w : Int, x = .int w ∧ (w = 0 ∨ w = 1) := by
      obtain ⟨hi, rfl⟩ := rangeD_get hx
      exact ⟨_, rfl, by omega⟩
    clear hx
    repeat' walk_at "ux"
    refine ⟨[.int w, fr c d, fr a b, .bool true], .cons (.d _) (.cons (.d _) (.cons (.d _) (.cons (.d _) .nil))), ⟨rfl, ask (by omega) (by omega) f1 f0 (fun _ => ⟨_, rfl⟩) (.inr rfl)⟩, fun z hz => ?_⟩
    obtain ⟨w', d0', d1', x', r, e1, rfl, hr⟩ := hz
    cases e1
    obtain rfl := rv_told sb hw hr
    have sY := shx_wrd sbd (shx_pair sC3 sA3)
    refine ⟨_, rfl, sY, ?_⟩
    iterate 18 (walk_at "ux")
    rw [show PyData.tuple [.str "bounds", .tuple [fr c d, fr a b]] = wrd "bounds" (.tuple [fr c d, fr a b]) from rfl]
    refine ⟨_, rfl, sY, ?_⟩
    generalize (wrd "bounds" (.tuple [fr c d, fr a b])).shown = Y
    refine ⟨_, _, rfl, rfl, rfl, _, rfl, itb_f (congrArg Bool.not (eqS_self Y)) ?_⟩
    repeat' walk_at "ux"
    refine ⟨[.int w, fr a b, fr a b, .bool false], .cons (.d _) (.cons (.d _) (.cons (.d _) (.cons (.d _) .nil))), ⟨rfl, ask (by omega) (by omega) f0 f0 (fun _ => ⟨_, rfl⟩) (.inr rfl)⟩, fun z hz => ?_⟩
    obtain ⟨w', d0', d1', x', r, e1, rfl, hr⟩ := hz
    cases e1
    obtain rfl := sm_told sb hw hr
    have sV := shx_wrd sbd (shx_pair sA3 sA3)
    refine ⟨_, rfl, sV, ?_⟩
    iterate 18 (walk_at "ux")
    rw [show PyData.tuple [.str "bounds", .tuple [fr a b, fr a b]] = wrd "bounds" (.tuple [fr a b, fr a b]) from rfl]
    refine ⟨_, rfl, sV, ?_⟩
    generalize (wrd "bounds" (.tuple [fr a b, fr a b])).shown = Y
    refine ⟨_, _, rfl, rfl, rfl, _, rfl, itb_f (congrArg Bool.not (eqS_self Y)) ?_⟩
    exact ⟨_, rfl, by walk_at "lessu"⟩
  rintro y2 y' rfl hl
  refine wS_weak ?_ hl
  have fA : fracB (fr a b) = true := fracB_fr sb.b1 sb.g1
  have fC : fracB (fr c d) = true := fracB_fr sb.d1 sb.g2
  have sNn : ShX (wrd "fraction" .none) := shXB_ok (by decide +kernel)
  have P3 : ∀ x ∈ [PyData.tuple [t, fr c d, t], .tuple [.none, t, .none], .tuple [fr a b, t, t], .tuple [fr c d, .none, .none]], ∃ d0 d1 u, x = .tuple [d0, d1, u] ∧ (d0 = u ∨ (fracB d0 = true ∧ d1 = u)) ∧ fracB u = false ∧ FB 40 d0 ∧ FB 40 d1 ∧ ShX (wrd "fraction" u) := by
    intro x hx
    simp only [List.mem_cons, List.not_mem_nil, or_false] at hx
    rcases hx with rfl | rfl | rfl | rfl
    · exact ⟨_, _, _, rfl, .inl rfl, t1, tn, f1, sT⟩
    · exact ⟨_, _, _, rfl, .inl rfl, rfl, fn, tn, sNn⟩
    · exact ⟨_, _, _, rfl, .inr ⟨fA, rfl⟩, t1, f0, tn, sT⟩
    · exact ⟨_, _, _, rfl, .inr ⟨fC, rfl⟩, rfl, f1, fn, sNn⟩
  refine wS_seq (wS_for (wI_list ?_))
  repeat' walk_at "ux"
  refine ⟨fun i y => ∃ q6 q7 q8, y = ⟨[some (.lab pp), some (.d (fr a b)), some (.d (fr c d)), some (.d (.list oddD)), some (.d t), some (.d p), q6, q7, q8, none], [⟨pp, false, .pu (mm - 1 - 1)⟩]⟩, ⟨_, _, _, rfl⟩, ?_, ?_⟩
  · rintro i x y hx ⟨q6, q7, q8, rfl⟩
    obtain ⟨d0, d1, u, rfl, hd, hu, g0, g1, sU⟩ := P3 x (List.mem_of_getElem? hx)
    clear P3 hx
    repeat' walk_at "ux"
    refine ⟨[.int 2, d0, d1, .none], .cons (.d _) (.cons (.d _) (.cons (.d _) (.cons (.d _) .nil))), ⟨rfl, ask (by decide) (by decide) g0 g1 (fun z => absurd z (by decide)) (.inr rfl)⟩, fun z hz => ?_⟩
    obtain ⟨w', d0', d1', x', r, e1, rfl, hr⟩ := hz
    cases e1
    obtain rfl := md_bad hd hu (hr.2.2.1 rfl)
    refine ⟨_, rfl, sU, ?_⟩
    iterate 10 (walk_at "ux")
    rw [show PyData.tuple [.str "fraction", u] = wrd "fraction" u from rfl]
    refine ⟨_, rfl, sU, ?_⟩
    generalize (wrd "fraction" u).shown = Y
    refine ⟨_, _, rfl, rfl, rfl, _, rfl, itb_f (congrArg Bool.not (eqS_self Y)) ?_⟩
    exact ⟨_, _, _, rfl⟩
  · rintro y2 ⟨q6, q7, q8, rfl⟩
    repeat' walk_at "ux"
    refine ⟨[.int 3, t, .none, .none], .cons (.d _) (.cons (.d _) (.cons (.d _) (.cons (.d _) .nil))), ⟨rfl, ask (by decide) (by decide) tn fn (fun z => absurd z (by decide)) (.inr rfl)⟩, fun z hz => ?_⟩
    obtain ⟨w', d0', d1', x', r, e1, rfl, hr⟩ := hz
    cases e1
    obtain rfl := pr_bad t1 (hr.2.2.2 rfl)
    refine ⟨_, rfl, sT, ?_⟩
    iterate 10 (walk_at "ux")
    rw [show PyData.tuple [.str "fraction", t] = wrd "fraction" t from rfl]
    refine ⟨_, rfl, sT, ?_⟩
    rw [hX]
    refine ⟨_, _, rfl, rfl, rfl, ?_⟩
    rw [eqS_self]
    exact hrt _ _ _ _ rfl List.mem_cons_self (by show mm - 2 ≤ _; omega)
abbrev s_law_middle_right : Stmt := topS 44
abbrev N_law_middle_right : List Str := ["_law_low", "_law_high", "_law_one", "_law_two"]
theorem sc_law_middle_right : FnScope N_law_middle_right ["_law_low", "_law_high"] (defScope s_law_middle_right) := ⟨rfl, rfl, rfl, by decide +kernel, rfl, by decide +kernel, by decide +kernel⟩
theorem ok_law_middle_right (d : Df K mg "_law_middle_right" s_law_middle_right ["_law_low", "_law_high"]) (dg : base.NoDigits) (c_law_asked : Cal P w K mg base 7 "_law_asked" ["_law_way", "_law_one", "_law_other", "_law_thing"] (Ux.sp_law_asked K)) (b_repr : mg "repr" = none) : Cal P w K mg base 8 "_law_middle_right" ["_law_low", "_law_high"] (Ux.sp_law_middle_right K) := by
  refine d.ok sc_law_middle_right (pureSp_len rfl) (fun f cdv A outer s H vs Q E hr hgu h => ?_)
  refine ⟨_, (pss_cons (ps_set (i := 2) sc_law_middle_right.nd rfl (Or.inl rfl) (pe_tup (pa_cons (pe_op op_add (pe_ix (ixK K) (pv 0) pe_int (fun _ _ => rfl)) (pe_ix (ixK K) (pv 1) pe_int (fun _ _ => rfl))) (pa_cons (pe_op op_add (pe_ix (ixK K) (pv 0) pe_int (fun _ _ => rfl)) (pe_ix (ixK K) (pv 1) pe_int (fun _ _ => rfl))) pa_nil))))
    (pss_cons (ps_if (pt_cmpR op_ne (pe_callB (reprXK K hgu hr.units dg) (by rfl) b_repr (by decide +kernel) (pa_cons (pe_cal c_law_asked (hr.mono (by decide)) hgu (by rfl) (pa_cons pe_int (pa_cons (pv 0) (pa_cons (pv 1) (pa_cons pe_non pa_nil))))) pa_nil)) (pe_callB (reprXK K hgu hr.units dg) (by rfl) b_repr (by decide +kernel) (pa_cons (pe_tup (pa_cons pe_str (pa_cons (pv 2) pa_nil))) pa_nil)) (nomark _)) (pss_one (ps_ret pe_bl)) pss_nil)
    (pss_cons (ps_if (pt_cmpR op_ne (pe_callB (reprXK K hgu hr.units dg) (by rfl) b_repr (by decide +kernel) (pa_cons (pe_cal c_law_asked (hr.mono (by decide)) hgu (by rfl) (pa_cons pe_int (pa_cons (pv 2) (pa_cons pe_non (pa_cons pe_non pa_nil))))) pa_nil)) (pe_callB (reprXK K hgu hr.units dg) (by rfl) b_repr (by decide +kernel) (pa_cons (pe_tup (pa_cons pe_str (pa_cons (pe_tup (pa_cons (pv 0) (pa_cons (pv 1) pa_nil))) pa_nil))) pa_nil)) (nomark _)) (pss_one (ps_ret pe_bl)) pss_nil)
    (pss_cons (ps_for PassesOwn.never rfl (piL K (pe_lst (pa_cons (pe_tup (pa_cons (pv 1) (pa_cons (pv 0) pa_nil))) (pa_cons (pe_tup (pa_cons (pv 0) (pa_cons (pv 0) pa_nil))) (pa_cons (pe_tup (pa_cons (pv 0) (pa_cons (pe_tup (pa_cons (pe_op op_add (pe_ix (ixK K) (pv 1) pe_int (fun _ _ => rfl)) (pe_ix (ixK K) (pv 1) pe_int (fun _ _ => rfl))) (pa_cons (pe_ix (ixK K) (pv 1) pe_int (fun _ _ => rfl)) pa_nil))) pa_nil))) (pa_cons (pe_tup (pa_cons (pe_tup (pa_cons (pe_op op_sub (pe_ix (ixK K) (pv 0) pe_int (fun _ _ => rfl)) (pe_ix (ixK K) (pv 0) pe_int (fun _ _ => rfl))) (pa_cons (pe_ix (ixK K) (pv 0) pe_int (fun _ _ => rfl)) pa_nil))) (pa_cons (pv 1) pa_nil))) pa_nil)))))) (pg_name (i := 3) sc_law_middle_right.nd rfl (Or.inl rfl)) (pss_one (ps_if (pt_cmpR op_ne (pe_callB (reprXK K hgu hr.units dg) (by rfl) b_repr (by decide +kernel) (pa_cons (pe_cal c_law_asked (hr.mono (by decide)) hgu (by rfl) (pa_cons pe_int (pa_cons (pe_ix (ixK K) (pv 3) pe_int (fun _ _ => rfl)) (pa_cons (pe_ix (ixK K) (pv 3) pe_int (fun _ _ => rfl)) (pa_cons pe_non pa_nil))))) pa_nil)) (pe_callB (reprXK K hgu hr.units dg) (by rfl) b_repr (by decide +kernel) (pa_cons (pe_tup (pa_cons pe_str (pa_cons (pv 3) pa_nil))) pa_nil)) (nomark _)) (pss_one (ps_ret pe_bl)) pss_nil)))
    (pss_one (ps_ret (pe_cmpR op_eq (pe_callB (reprXK K hgu hr.units dg) (by rfl) b_repr (by decide +kernel) (pa_cons (pe_cal c_law_asked (hr.mono (by decide)) hgu (by rfl) (pa_cons pe_int (pa_cons (pe_tup (pa_cons (pe_ix (ixK K) (pv 0) pe_int (fun _ _ => rfl)) (pa_cons pe_int pa_nil))) (pa_cons pe_non (pa_cons pe_non pa_nil))))) pa_nil)) (pe_callB (reprXK K hgu hr.units dg) (by rfl) b_repr (by decide +kernel) (pa_cons (pe_tup (pa_cons pe_str (pa_cons (pe_tup (pa_cons (pe_ix (ixK K) (pv 0) pe_int (fun _ _ => rfl)) (pa_cons pe_int pa_nil))) pa_nil))) pa_nil)) (nomark _)))))))), ?_⟩
  try dsimp only [cxOf]
  refine pure_body h (fun ds hl hp e hnx hrt => ?_)
  obtain ⟨a, b, c, d, rfl, sb⟩ := hp
  have fin : ∀ y, e.rt (.d (.bool true)) y := fun y => hrt _ _ rfl
  show wS _ _ ⟨[some (.d (fr a b)), some (.d (fr c d)), none, none], _⟩ _
  obtain ⟨f0, f1⟩ := sb_fb sb
  have n1 : Bd 30 (a + c) := (Bd.add sb.ba sb.bc).mono (by decide)
  have n2 : Bd 30 (b + d) := (Bd.add sb.bb sb.bd).mono (by decide)
  have fm : FB 40 (fr (a + c) (b + d)) := fun u v e => by cases e; exact ⟨n1.mono (by decide), n2.mono (by decide)⟩
  have fn : FB 40 .none := fun u v e => by cases e
  have sA := shx_fr (sb.ba.mono (k' := 1600) (by decide)) (sb.bb.mono (k' := 1600) (by decide))
  have sC := shx_fr (sb.bc.mono (k' := 1600) (by decide)) (sb.bd.mono (k' := 1600) (by decide))
  have sM := shx_fr (n1.mono (k' := 1600) (by decide)) (n2.mono (k' := 1600) (by decide))
  obtain ⟨st, sbd, sn, sf⟩ := shx_t
  have ask : ∀ {w : Int} {d0 d1 : D} {R : Prop}, 0 ≤ w → w ≤ 3 → w ≠ 0 → w ≠ 1 → FB 40 d0 → FB 40 d1 → askP [.d (.int w), .d d0, .d d1, .d .none] [.int w, d0, d1, .none] := fun h0 h3 h1 h2 h4 h5 => ⟨_, _, _, _, rfl, rfl, h0, h3, h4, h5, fun z => absurd z h1, fun z => absurd z h2⟩
  repeat' walk_at "ux"
  refine ⟨[.int 2, fr a b, fr c d, .none], .cons (.d _) (.cons (.d _) (.cons (.d _) (.cons (.d _) .nil))), ⟨rfl, ask (R := True) (by decide) (by decide) (by decide) (by decide) f0 f1⟩, fun z hz => ?_⟩
  obtain ⟨w, d0, d1, x', r, e1, rfl, hr⟩ := hz
  cases e1
  obtain rfl := md_told sb (hr.2.2.1 rfl)
  repeat' walk_at "ux"
  refine ⟨shx_wrd st (sM.mono (by decide) (by decide)), ?_⟩
  iterate 10 (walk_at "ux")
  rw [show PyData.tuple [.str "told", .tuple [.int (a + c), .int (b + d)]] = wrd "told" (fr (a + c) (b + d)) from rfl]
  refine ⟨_, rfl, shx_wrd st (sM.mono (by decide) (by decide)), ?_⟩
  generalize (wrd "told" (fr (a + c) (b + d))).shown = X
  refine ⟨_, _, rfl, rfl, rfl, _, rfl, itb_f (congrArg Bool.not (eqS_self X)) ?_⟩
  repeat' walk_at "ux"
  refine ⟨[.int 3, fr (a + c) (b + d), .none, .none], .cons (.d _) (.cons (.d _) (.cons (.d _) (.cons (.d _) .nil))), ⟨rfl, ask (R := True) (by decide) (by decide) (by decide) (by decide) fm fn⟩, fun z hz => ?_⟩
  obtain ⟨w, d0, d1, x', r, e1, rfl, hr⟩ := hz
  cases e1
  obtain rfl := pr_told sb (hr.2.2.2 rfl)
  repeat' walk_at "ux"
  refine ⟨shx_wrd st (shx_pair sA sC), ?_⟩
  iterate 18 (walk_at "ux")
  rw [show PyData.tuple [.str "told", .tuple [fr a b, fr c d]] = wrd "told" (.tuple [fr a b, fr c d]) from rfl]
  refine ⟨_, rfl, shx_wrd st (shx_pair sA sC), ?_⟩
  generalize (wrd "told" (.tuple [fr a b, fr c d])).shown = X
  refine ⟨_, _, rfl, rfl, rfl, _, rfl, itb_f (congrArg Bool.not (eqS_self X)) ?_⟩
  repeat' walk_at "ux"
  have one := sb.one
  have h1 := sb.b1
  have h2 := sb.d1
  have bd1 : 1 ≤ b * d := Int.mul_pos (by omega) (by omega)
  have P2 : ∀ x ∈ [PyData.tuple [fr c d, fr a b], .tuple [fr a b, fr a b], .tuple [fr a b, fr (c + d) d], .tuple [fr (a - b) b, fr c d]], ∃ a' b' c' d', x = .tuple [fr a' b', fr c' d'] ∧ fracB (fr a' b') = true ∧ fracB (fr c' d') = true ∧ Bd 30 a' ∧ Bd 30 b' ∧ Bd 30 c' ∧ Bd 30 d' ∧ c' * b' - a' * d' ≠ 1 := by
    have u : ∀ {z : Int}, Bd 8 z → Bd 30 z := fun h => h.mono (by decide)
    have g3 : gcdI (c + d) d = 1 := by rw [← gcd_swap (c + d) d 1, show c + d - 1 * d = c - 0 * d by omega, gcd_swap]; exact sb.g2
    have g4 : gcdI (a - b) b = 1 := by rw [← gcd_swap (a - b) b (-1), show a - b - -1 * b = a - 0 * b by omega, gcd_swap]; exact sb.g1
    have e1 : (c + d) * b - a * d = c * b - a * d + b * d := by grind
    have e2 : c * b - (a - b) * d = c * b - a * d + b * d := by grind
    have e3 : a * d - c * b = -1 := by omega
    have e4 : a * b - a * b = 0 := by omega
    intro x hx
    simp only [List.mem_cons, List.not_mem_nil, or_false] at hx
    rcases hx with rfl | rfl | rfl | rfl
    · exact ⟨_, _, _, _, rfl, fracB_fr h2 sb.g2, fracB_fr h1 sb.g1, u sb.bc, u sb.bd, u sb.ba, u sb.bb, by omega⟩
    · exact ⟨_, _, _, _, rfl, fracB_fr h1 sb.g1, fracB_fr h1 sb.g1, u sb.ba, u sb.bb, u sb.ba, u sb.bb, by omega⟩
    · exact ⟨_, _, _, _, rfl, fracB_fr h1 sb.g1, fracB_fr h2 g3, u sb.ba, u sb.bb, (Bd.add sb.bc sb.bd).mono (by decide), u sb.bd, by omega⟩
    · exact ⟨_, _, _, _, rfl, fracB_fr h1 g4, fracB_fr h2 sb.g2, (Bd.sub sb.ba sb.bb).mono (by decide), u sb.bb, u sb.bc, u sb.bd, by omega⟩
  refine wS_for (wI_list ?_)
  repeat' walk_at "ux"
  refine forJ (fun i y => y = ⟨[some (.d (fr a b)), some (.d (fr c d)), some (.d (fr (a + c) (b + d))), none], []⟩) ⟨_, rfl, by walk_at "lessu"⟩ ?_ ?_
  · rintro i x y hx rfl
    obtain ⟨a', b', c', d', rfl, k1, k2, b1, b2, b3, b4, k3⟩ := P2 x (List.mem_of_getElem? hx)
    clear P2 hx
    have sx : Shx 7000 2 (.tuple [fr a' b', fr c' d']) := shx_pair (shx_fr (b1.mono (by decide)) (b2.mono (by decide))) (shx_fr (b3.mono (by decide)) (b4.mono (by decide)))
    repeat' walk_at "ux"
    refine ⟨[.int 2, fr a' b', fr c' d', .none], .cons (.d _) (.cons (.d _) (.cons (.d _) (.cons (.d _) .nil))), ⟨rfl, ask (R := True) (by decide) (by decide) (by decide) (by decide) (fun u v e => by cases e; exact ⟨b1.mono (by decide), b2.mono (by decide)⟩) (fun u v e => by cases e; exact ⟨b3.mono (by decide), b4.mono (by decide)⟩)⟩, fun z hz => ?_⟩
    obtain ⟨w, d0, d1, x', r, e1, rfl, hr⟩ := hz
    cases e1
    obtain rfl := md_not k1 k2 k3 (hr.2.2.1 rfl)
    repeat' walk_at "ux"
    refine ⟨shx_wrd sbd sx, ?_⟩
    iterate 10 (walk_at "ux")
    rw [show PyData.tuple [.str "bounds", .tuple [fr a' b', fr c' d']] = wrd "bounds" (.tuple [fr a' b', fr c' d']) from rfl]
    refine ⟨_, rfl, shx_wrd sbd sx, ?_⟩
    generalize (wrd "bounds" (.tuple [fr a' b', fr c' d'])).shown = X
    refine ⟨_, _, rfl, rfl, rfl, _, rfl, itb_f (congrArg Bool.not (eqS_self X)) ?_⟩
    exact ⟨_, rfl, by walk_at "lessu"⟩
  · rintro y2 y' rfl hl
    refine wS_weak ?_ hl
    have sN : Shx 3300 1 (fr a 1) := shx_fr (sb.ba.mono (by decide)) (Bd.lit (by decide))
    repeat' walk_at "ux"
    refine ⟨[.int 3, fr a 1, .none, .none], .cons (.d _) (.cons (.d _) (.cons (.d _) (.cons (.d _) .nil))), ⟨rfl, ask (R := True) (by decide) (by decide) (by decide) (by decide) (fun u v e => by cases e; exact ⟨sb.ba.mono (by decide), Bd.lit (by decide)⟩) fn⟩, fun z hz => ?_⟩
    obtain ⟨w, d0, d1, x', r, e1, rfl, hr⟩ := hz
    cases e1
    obtain rfl := pr_none (hr.2.2.2 rfl)
    repeat' walk_at "ux"
    refine ⟨shx_wrd sn (sN.mono (by decide) (by decide)), ?_⟩
    obtain ⟨X, hX⟩ : ∃ X, (wrd "none" (fr a 1)).shown = X := ⟨_, rfl⟩
    rw [hX]
    repeat' walk_at "ux"
    refine ⟨shx_wrd sn (sN.mono (by decide) (by decide)), ?_⟩
    rw [show (PyData.tuple [.str "none", .tuple [.int a, .int 1]]).shown = X from hX]
    refine ⟨_, _, rfl, rfl, rfl, ?_⟩
    rw [eqS_self]
    exact fin _
abbrev s_law : Stmt := topS 45
abbrev N_law : List Str := ["_law_script", "_law_k", "_law_purse_here", "_law_low", "_law_high"]
theorem sc_law : FnScope N_law ["_law_script"] (defScope s_law) := ⟨rfl, rfl, rfl, by decide +kernel, rfl, by decide +kernel, by decide +kernel⟩
theorem ok_law {f : Addr} {fd : FuncData} (F : Fun K "law" "law" s_law f fd) (dg : base.NoDigits) {C_NoFraction C_NoNumber : Addr} (c_nearest_row : CalD P w K mg base 7 "nearest_row" ["fraction", "bound"] (Ux.sp_nearest_row K C_NoFraction C_NoNumber) (.int 200)) (c_law_cell : Cal P w K mg base 1 "_law_cell" ["_law_script", "_law_k"] (sp_law_cell K)) (c_law_purse : Cal P w K mg base 1 "_law_purse" ["_law_cell_here"] (sp_law_purse K)) (c_law_pair : Cal P w K mg base 2 "_law_pair" ["_law_purse_here"] (sp_law_pair K)) (c_law_shown_right : Cal P w K mg base 8 "_law_shown_right" ["_law_low", "_law_high"] (Ux.sp_law_shown_right K)) (c_law_refused_right : Cal P w K mg base 8 "_law_refused_right" ["_law_purse_here", "_law_low", "_law_high"] (Ux.sp_law_refused_right K)) (c_law_middle_right : Cal P w K mg base 8 "_law_middle_right" ["_law_low", "_law_high"] (Ux.sp_law_middle_right K)) (b_len : mg "len" = none) (b_max : mg "max" = none) (b_min : mg "min" = none) (b_range : mg "range" = none) (b_repr : mg "repr" = none) : FnG P w K mg base CX0 9 f fd ["_law_script"] (sp_law K) := by
  refine okG F sc_law spLaw_len (fun cdv A outer s H vs Q E hr hgu h => ?_)
  refine ⟨_, (pss_cons (ps_for PassesOwn.never rfl (pi_range1 (by rfl) b_range (pa_cons (pe_callB (call_max2 rfl) (by rfl) b_max (by decide +kernel) (pa_cons pe_int (pa_cons (pe_callB (call_min2 rfl) (by rfl) b_min (by decide +kernel) (pa_cons pe_int (pa_cons (pe_callB (lenK K) (by rfl) b_len (by decide +kernel) (pa_cons (pv 0) pa_nil)) pa_nil))) pa_nil))) pa_nil)) (pg_name (i := 1) sc_law.nd rfl (Or.inl rfl)) (pss_cons (ps_set (i := 2) sc_law.nd rfl (Or.inl rfl) (pe_cal c_law_purse (hr.mono (by decide)) hgu (by rfl) (pa_cons (pe_cal c_law_cell (hr.mono (by decide)) hgu (by rfl) (pa_cons (pv 0) (pa_cons (pv 1) pa_nil))) pa_nil)))
    (pss_cons (ps_asg (pe_cal c_law_pair (hr.mono (by decide)) hgu (by rfl) (pa_cons (pv 2) pa_nil)) (pgT K rfl (pgs_cons (pg_name (i := 3) sc_law.nd rfl (Or.inl rfl)) (pgs_cons (pg_name (i := 4) sc_law.nd rfl (Or.inl rfl)) pgs_nil))))
    (pss_cons (ps_if (PW.pt (pw_or (pt_not (pt_val (pe_cal c_law_shown_right (hr.mono (by decide)) hgu (by rfl) (pa_cons (pv 3) (pa_cons (pv 4) pa_nil))))) (pw_or1 (pt_not (pt_val (pe_cal c_law_middle_right (hr.mono (by decide)) hgu (by rfl) (pa_cons (pv 3) (pa_cons (pv 4) pa_nil)))))))) (pss_one (ps_ret pe_bl)) pss_nil)
    (pss_cons (ps_if (pt_not (pt_val (pe_cal c_law_refused_right (hr.mono (by decide)) hgu (by rfl) (pa_cons (pv 2) (pa_cons (pv 3) (pa_cons (pv 4) pa_nil)))))) (pss_one (ps_ret pe_bl)) pss_nil)
    (pss_one (ps_if (pt_cmpR op_ne (zPX (pe_callB (reprXK K hgu hr.units dg) (by rfl) b_repr (by decide +kernel) (pa_cons (pe_calDk c_nearest_row (hr.mono (by decide)) hgu (by rfl) takes0 (pa_cons (pe_tup (pa_cons (pe_op op_add pe_int (pe_op op_mulW pe_int (pe_ix (ixK K) (pv 3) pe_int (fun _ _ => rfl)))) (pa_cons pe_int pa_nil))) pa_nil) (pk_cons pe_int pk_nil)) pa_nil))) (pe_callB (reprXK K hgu hr.units dg) (by rfl) b_repr (by decide +kernel) (pa_cons (pe_lst (pa_cons (pe_tup (pa_cons pe_int (pa_cons (pe_tup (pa_cons (pe_ix (ixK K) (pv 3) pe_int (fun _ _ => rfl)) (pa_cons pe_int pa_nil))) pa_nil))) (pa_cons (pe_tup (pa_cons pe_int (pa_cons (pe_tup (pa_cons (pe_op op_add (pe_op op_mulW pe_int (pe_ix (ixK K) (pv 3) pe_int (fun _ _ => rfl))) pe_int) (pa_cons pe_int pa_nil))) pa_nil))) pa_nil))) pa_nil)) (nomark _)) (pss_one (ps_ret pe_bl)) pss_nil)))))))
    (pss_one (ps_ret pe_bl))), ?_⟩
  try dsimp only [cxOf]
  refine law_body h (fun ns hl e hz => ?_)
  refine law_loop (n := 3) (by decide) hz (fun k k0 k1 => ?_)
  show wS _ _ ⟨[some (.d (.list (ns.map PyData.int))), some (.d (.int k)), none, none, none], _⟩ _
  repeat' walk_at "ux"
  refine ⟨⟨ns, k, rfl, k0, k1⟩, ?_⟩
  rintro _ ⟨c, rfl⟩
  repeat' walk_at "ux"
  rename_i pp
  rintro _ ⟨a, b, c, d, rfl, sb⟩
  repeat' walk_at "ux"
  refine ⟨⟨rfl, a, b, c, d, rfl, sb⟩, ?_⟩
  repeat' walk_at "ux"
  refine ⟨⟨rfl, a, b, c, d, rfl, sb⟩, ?_⟩
  repeat' walk_at "ux"
  refine ⟨⟨a, b, c, d, rfl, sb⟩, by decide, ?_⟩
  rintro _ rfl
  have ba : Bd 8 a := sb.ba
  have l3 : Bd 1 3 := Bd.lit (by decide)
  have b3 : Bd 9 (3 * a) := Bd.mul l3 ba
  have b4 : Bd 11 (1 + 3 * a) := (Bd.add (Bd.lit (k := 1) (by decide)) b3).mono (by decide)
  have l2 : Bd 1 2 := Bd.lit (by decide)
  have b2 : Bd 9 (2 * a) := Bd.mul l2 ba
  have b5 : Bd 11 (2 * a + 1) := (Bd.add b2 (Bd.lit (k := 1) (by decide))).mono (by decide)
  have g3 : gcdI (1 + 3 * a) 3 = 1 := gcd_one (c := -a) (d := -1) (by omega)
  repeat' walk_at "ux"
  refine ⟨[fr (1 + 3 * a) 3, .int 2], .cons (.d _) (.cons (.d _) .nil), ⟨rfl, fun p q e => by cases e; exact ⟨b4.mono (by decide), Bd.lit (by decide)⟩⟩, fun z nw hz => ?_, fun ex hx => ?_⟩
  · obtain ⟨p, q, N, l, e1, q1, hg, n1, n2, rfl, rfl⟩ := hz
    have e1 : [fr (1 + 3 * a) 3, .int 2] = [fr p q, .int (N : Int)] := e1
    rw [List.cons.injEq, List.cons.injEq] at e1
    obtain ⟨h1, h2, _⟩ := e1
    obtain ⟨rfl, rfl⟩ : p = 1 + 3 * a ∧ q = 3 := by cases h1; exact ⟨rfl, rfl⟩
    obtain rfl : N = 2 := by have := PyData.int.inj h2; omega
    rw [row_third]
    have sR : Shx 3300 1 (fr a 1) := shx_fr (sb.ba.mono (by decide)) (Bd.lit (by decide))
    have sS : Shx 3300 1 (fr (2 * a + 1) 2) := shx_fr (b5.mono (by decide)) (Bd.lit (by decide))
    have sI : ∀ n : Int, n = 1 ∨ n = 2 → Shx 3300 1 (.int n) := fun n hn => (rx_int (k := 1) (by rcases hn with rfl | rfl <;> decide)).mono (by decide) (by decide)
    have sL : ShX (.list [.tuple [.int 1, fr a 1], .tuple [.int 2, fr (2 * a + 1) 2]]) := (rx_list (b := 7000) (k := 2) (fun y hy => by
      simp only [List.mem_cons, List.not_mem_nil, or_false] at hy
      rcases hy with rfl | rfl
      · exact shx_pair (sI 1 (.inl rfl)) sR
      · exact shx_pair (sI 2 (.inr rfl)) sS)).ok (by simp)
    refine ⟨.list [.tuple [.int 1, fr a 1], .tuple [.int 2, fr (2 * a + 1) 2]], Res.at (j := 1) rfl ?_, sL, ?_⟩
    · exact .lst [.tuple [.int 1, fr a 1], .tuple [.int 2, fr (2 * a + 1) 2]]
    obtain ⟨X, hX⟩ : ∃ X, (PyData.list [.tuple [.int 1, fr a 1], .tuple [.int 2, fr (2 * a + 1) 2]]).shown = X := ⟨_, rfl⟩
    rw [hX]
    repeat' walk_at "ux"
    rw [show (PyData.list [.tuple [.int 1, .tuple [.int a, .int 1]], .tuple [.int 2, .tuple [.int (2 * a + 1), .int 2]]]).shown = X from hX]
    refine itb_f (congrArg Bool.not (eqS_self X)) ?_
    exact ⟨rfl, rfl⟩
  · rcases hx with ⟨h1, _⟩ | ⟨_, h1, _⟩
    · have h1 : fracB (fr (1 + 3 * a) 3) = false := h1
      rw [fracB_fr (by decide) g3] at h1; cases h1
    · have h1 : nOk2 (.int 2) = false := h1
      rw [show nOk2 (.int 2) = true by decide +kernel] at h1; cases h1
theorem row_ok {C_NoFraction C_NoNumber C_NoBounds C_NoneThere : Addr}
    (tx : TxC K mg "TermError")
    (txL : TxB beL K mg "Lost")
    (y_NoFraction : XcT K mg "NoFraction" "NoFraction.__init__" s_i_NoFraction C_NoFraction)
    (y_NoNumber : XcT K mg "NoNumber" "NoNumber.__init__" s_i_NoNumber C_NoNumber)
    (y_NoBounds : XcT K mg "NoBounds" "NoBounds.__init__" s_i_NoBounds C_NoBounds)
    (y_NoneThere : XcTB beL K mg "NoneThere" "NoneThere.__init__" s_i_NoneThere C_NoneThere)
    (t_NoFraction_NoFraction : PySem.W.exmOne K (.ref C_NoFraction) (.ref C_NoFraction) = some true)
    (t_NoBounds_NoFraction : PySem.W.exmOne K (.ref C_NoBounds) (.ref C_NoFraction) = some false)
    (t_NoneThere_NoFraction : PySem.W.exmOne K (.ref C_NoneThere) (.ref C_NoFraction) = some false)
    (t_NoBounds_NoBounds : PySem.W.exmOne K (.ref C_NoBounds) (.ref C_NoBounds) = some true)
    (t_NoneThere_NoBounds : PySem.W.exmOne K (.ref C_NoneThere) (.ref C_NoBounds) = some false)
    (t_NoneThere_NoneThere : PySem.W.exmOne K (.ref C_NoneThere) (.ref C_NoneThere) = some true)
    (d_is_number : Df K mg "is_number" s_is_number ["thing"])
    (d_common : Df K mg "common" s_common ["one", "other"])
    (d_is_fraction : Df K mg "is_fraction" s_is_fraction ["thing"])
    (d_need_fraction : Df K mg "need_fraction" s_need_fraction ["thing"])
    (d_need_both : Df K mg "need_both" s_need_both ["fraction", "bound"])
    (d_gap : Df K mg "gap" s_gap ["lesser", "greater"])
    (d_moved : Df K mg "moved" s_moved ["one", "other", "many"])
    (d_neighbours : Df K mg "neighbours" s_neighbours ["fraction", "bound"])
    (d_nearest : Df K mg "nearest" s_nearest ["fraction", "bound"])
    (d_nearest_row : DfD K mg "nearest_row" s_nearest_row ["fraction", "bound"] (.int 200))
    (d_law_cell : Df K mg "_law_cell" s_law_cell ["_law_script", "_law_k"])
    (d_law_purse : Df K mg "_law_purse" s_law_purse ["_law_cell_here"])
    (d_law_take : Df K mg "_law_take" s_law_take ["_law_purse_here", "_law_many"])
    (d_law_pair : Df K mg "_law_pair" s_law_pair ["_law_purse_here"])
    (d_need_range : Df K mg "need_range" s_need_range ["low", "high", "low_in", "high_in"])
    (d_least_whole : Df K mg "least_whole" s_least_whole ["low", "low_in"])
    (d_greatest_whole : Df K mg "greatest_whole" s_greatest_whole ["high", "high_in"])
    (d_whole_in : Df K mg "whole_in" s_whole_in ["first", "last"])
    (d_over_rest : Df K mg "over_rest" s_over_rest ["bound", "whole"])
    (d_between : DfM K mg "between" s_between ["low", "high", "low_in", "high_in"] [false, false] shs_between)
    (d_shows_between : DfM K mg "shows_between" s_shows_between ["low", "high", "thing", "low_in", "high_in"] [false, false] shs_shows_between)
    (d_middle : Df K mg "middle" s_middle ["one", "other"])
    (d_parents : Df K mg "parents" s_parents ["fraction"])
    (d_law_asked : Df K mg "_law_asked" s_law_asked ["_law_way", "_law_one", "_law_other", "_law_thing"])
    (d_law_papers : Df K mg "_law_papers" s_law_papers ["_law_low", "_law_high"])
    (d_law_ends : Df K mg "_law_ends" s_law_ends ["_law_low", "_law_high", "_law_paper"])
    (d_law_shown_right : Df K mg "_law_shown_right" s_law_shown_right ["_law_low", "_law_high"])
    (d_law_refused_right : Df K mg "_law_refused_right" s_law_refused_right ["_law_purse_here", "_law_low", "_law_high"])
    (d_law_middle_right : Df K mg "_law_middle_right" s_law_middle_right ["_law_low", "_law_high"])
    (b_abs : mg "abs" = none)
    (b_bool : mg "bool" = none)
    (b_enumerate : mg "enumerate" = none)
    (b_int : mg "int" = none)
    (b_isinstance : mg "isinstance" = none)
    (b_len : mg "len" = none)
    (b_max : mg "max" = none)
    (b_min : mg "min" = none)
    (b_range : mg "range" = none)
    (b_repr : mg "repr" = none)
    (b_reversed : mg "reversed" = none)
    (b_tuple : mg "tuple" = none)
    {t_MOST_ROW : Tok} (m_MOST_ROW : mg "MOST_ROW" = some (.int 200 t_MOST_ROW)) :
    ∀ (base : Heap) (f : Addr) (fd : FuncData), base.NoDigits → Fun K "law" "law" s_law f fd → FnG P w K mg base CX0 9 f fd ["_law_script"] (sp_law K) := by
  intro base f fd dg F
  have x_NoFraction : Xc P w K mg base "NoFraction" C_NoFraction := xc_NoFraction y_NoFraction tx
  have x_NoNumber : Xc P w K mg base "NoNumber" C_NoNumber := xc_NoNumber y_NoNumber tx
  have x_NoBounds : Xc P w K mg base "NoBounds" C_NoBounds := xc_NoBounds y_NoBounds tx
  have x_NoneThere : XcB beL P w K mg base "NoneThere" C_NoneThere := xc_NoneThere y_NoneThere txL
  have c_is_number : Cal P w K mg base 1 "is_number" ["thing"] (sp_is_number K) := ok_is_number d_is_number b_bool b_int b_isinstance
  have c_common : Cal P w K mg base 1 "common" ["one", "other"] (sp_common K) := ok_common d_common b_abs
  have c_is_fraction : Cal P w K mg base 2 "is_fraction" ["thing"] (sp_is_fraction K) := ok_is_fraction d_is_fraction c_is_number c_common b_isinstance b_len b_tuple
  have c_need_fraction : CalX P w K mg base 3 "need_fraction" ["thing"] (Ux.sp_need_fraction K C_NoFraction) := ok_need_fraction d_need_fraction x_NoFraction c_is_fraction
  have c_need_both : CalX P w K mg base 4 "need_both" ["fraction", "bound"] (Ux.sp_need_both K C_NoFraction C_NoNumber) := ok_need_both d_need_both x_NoNumber c_is_number c_need_fraction
  have c_gap : Cal P w K mg base 1 "gap" ["lesser", "greater"] (sp_gap K) := ok_gap d_gap 
  have c_moved : Cal P w K mg base 1 "moved" ["one", "other", "many"] (sp_moved K) := ok_moved d_moved 
  have c_neighbours : CalX P w K mg base 5 "neighbours" ["fraction", "bound"] (Ux.sp_neighbours K C_NoFraction C_NoNumber) := ok_neighbours d_neighbours c_need_both c_moved c_gap b_min
  have c_nearest : CalX P w K mg base 6 "nearest" ["fraction", "bound"] (Ux.sp_nearest K C_NoFraction C_NoNumber) := ok_nearest d_nearest c_gap c_neighbours
  have c_nearest_row : CalD P w K mg base 7 "nearest_row" ["fraction", "bound"] (Ux.sp_nearest_row K C_NoFraction C_NoNumber) (.int 200) := ok_nearest_row d_nearest_row x_NoNumber c_need_both c_nearest b_min b_range m_MOST_ROW
  have c_law_cell : Cal P w K mg base 1 "_law_cell" ["_law_script", "_law_k"] (sp_law_cell K) := ok_law_cell d_law_cell b_len
  have c_law_purse : Cal P w K mg base 1 "_law_purse" ["_law_cell_here"] (sp_law_purse K) := ok_law_purse d_law_purse b_max
  have c_law_take : Cal P w K mg base 1 "_law_take" ["_law_purse_here", "_law_many"] (sp_law_take K) := ok_law_take d_law_take 
  have c_law_pair : Cal P w K mg base 2 "_law_pair" ["_law_purse_here"] (sp_law_pair K) := ok_law_pair d_law_pair c_law_take b_range
  have c_need_range : CalX P w K mg base 3 "need_range" ["low", "high", "low_in", "high_in"] (Ux.sp_need_range K C_NoFraction C_NoBounds) := ok_need_range d_need_range x_NoBounds x_NoFraction c_is_fraction c_gap
  have c_least_whole : Cal P w K mg base 1 "least_whole" ["low", "low_in"] (sp_least_whole K) := ok_least_whole d_least_whole 
  have c_greatest_whole : Cal P w K mg base 1 "greatest_whole" ["high", "high_in"] (sp_greatest_whole K) := ok_greatest_whole d_greatest_whole 
  have c_whole_in : Cal P w K mg base 1 "whole_in" ["first", "last"] (sp_whole_in K) := ok_whole_in d_whole_in 
  have c_over_rest : Cal P w K mg base 1 "over_rest" ["bound", "whole"] (sp_over_rest K) := ok_over_rest d_over_rest 
  have c_between : CalM P w K mg base 4 "between" ["low", "high", "low_in", "high_in"] (Ux.sp_between K C_NoFraction C_NoBounds) [false, false] shs_between := ok_between d_between c_need_range c_least_whole c_greatest_whole c_whole_in c_over_rest b_reversed
  have c_shows_between : CalM P w K mg base 5 "shows_between" ["low", "high", "thing", "low_in", "high_in"] (Ux.sp_shows_between K C_NoFraction C_NoBounds) [false, false] shs_shows_between := ok_shows_between d_shows_between c_is_fraction c_between
  have c_middle : CalX P w K mg base 4 "middle" ["one", "other"] (Ux.sp_middle K C_NoFraction C_NoBounds) := ok_middle d_middle x_NoBounds c_need_fraction c_moved c_gap
  have c_parents : CalX P w K mg base 6 "parents" ["fraction"] (Ux.sp_parents K C_NoFraction C_NoneThere) := ok_parents d_parents x_NoneThere c_need_fraction c_neighbours
  have c_law_asked : Cal P w K mg base 7 "_law_asked" ["_law_way", "_law_one", "_law_other", "_law_thing"] (Ux.sp_law_asked K) := ok_law_asked d_law_asked x_NoBounds x_NoFraction x_NoneThere t_NoFraction_NoFraction t_NoBounds_NoFraction t_NoneThere_NoFraction t_NoBounds_NoBounds t_NoneThere_NoBounds t_NoneThere_NoneThere c_between c_shows_between c_middle c_parents
  have c_law_papers : Cal P w K mg base 1 "_law_papers" ["_law_low", "_law_high"] (sp_law_papers K) := ok_law_papers d_law_papers 
  have c_law_ends : Cal P w K mg base 1 "_law_ends" ["_law_low", "_law_high", "_law_paper"] (Ux.sp_law_ends K) := ok_law_ends d_law_ends dg b_abs b_repr
  have c_law_shown_right : Cal P w K mg base 8 "_law_shown_right" ["_law_low", "_law_high"] (Ux.sp_law_shown_right K) := ok_law_shown_right d_law_shown_right dg c_between c_shows_between c_law_asked c_law_papers c_law_ends b_enumerate b_repr
  have c_law_refused_right : Cal P w K mg base 8 "_law_refused_right" ["_law_purse_here", "_law_low", "_law_high"] (Ux.sp_law_refused_right K) := ok_law_refused_right d_law_refused_right dg c_law_take c_law_asked b_range b_repr
  have c_law_middle_right : Cal P w K mg base 8 "_law_middle_right" ["_law_low", "_law_high"] (Ux.sp_law_middle_right K) := ok_law_middle_right d_law_middle_right dg c_law_asked b_repr
  exact ok_law F dg c_nearest_row c_law_cell c_law_purse c_law_pair c_law_shown_right c_law_refused_right c_law_middle_right b_len b_max b_min b_range b_repr
end
end Ux
open PySem PySem.W PyProof.Rows
set_option maxHeartbeats 0 in
theorem PySem.Challenge.cw_termstream_k19_between_shown_holds : PySem.Challenge.rw_termstream_k19_between_shown.Holds := by
  w_on; o_law
  k_head
  (case hw => w_witness2)
  k_fill
  refine Tq.walk_ofD (l := PySem.Challenge.rw_termstream_k19_between_shown) (n := 63) (k := 9) (x := "_law_script") (sp := Tq.sp_law) rfl (by decide) rfl ⟨rfl, by decide, by decide⟩ (fun w h Y => PySem.W.kIn_of Y) ?F (fun K H a ns hl _ hS => ⟨a, ns, rfl, hS, hl, fun _ => rfl⟩)
  case F =>
    intro w mg fa h KX G hmg
    refine' Tq.law_mkD (st := Ux.s_law) KX G hmg (Ux.row_ok
      (Ux.txc_mk KX G ?xa ?xr ?xg ?xv)
      (Ux.txb_mk KX G ?ya ?yr ?yg ?yv)
      (Ux.xct_mk KX G (fun _ _ _ _ _ _ us hl => match us, hl with | [_, _], _ => rfl) ?X0aC ?X0xL ?X0vb ?X0sa ?X0ga ?X0gg ?X0nb ?X0a1 ?X0t1 ?X0l ?X0c ?X0k ?X0kC ?X0eC ?X0tC ?X0hC)
      (Ux.xct_mk KX G (fun _ _ _ _ _ _ us hl => match us, hl with | [_, _], _ => rfl) ?X1aC ?X1xL ?X1vb ?X1sa ?X1ga ?X1gg ?X1nb ?X1a1 ?X1t1 ?X1l ?X1c ?X1k ?X1kC ?X1eC ?X1tC ?X1hC)
      (Ux.xct_mk KX G (fun _ _ _ _ _ _ us hl => match us, hl with | [_, _], _ => rfl) ?X2aC ?X2xL ?X2vb ?X2sa ?X2ga ?X2gg ?X2nb ?X2a1 ?X2t1 ?X2l ?X2c ?X2k ?X2kC ?X2eC ?X2tC ?X2hC)
      (Ux.xctb_mk Ux.beL_ok KX G (fun _ _ _ _ _ _ us hl => match us, hl with | [_, _], _ => rfl) ?X3aC ?X3xL ?X3vb ?X3sa ?X3ga ?X3gg ?X3nb ?X3a1 ?X3t1 ?X3l ?X3c ?X3k ?X3kC ?X3eC ?X3tC ?X3hC)
      (Ux.exm_mk (mg := mg) (x := "") (y := "") ?E0b ?E0t ?E0c ?E0s)
      (Ux.exm_mk (mg := mg) (x := "") (y := "") ?E1b ?E1t ?E1c ?E1s)
      (Ux.exm_mk (mg := mg) (x := "") (y := "") ?E2b ?E2t ?E2c ?E2s)
      (Ux.exm_mk (mg := mg) (x := "") (y := "") ?E3b ?E3t ?E3c ?E3s)
      (Ux.exm_mk (mg := mg) (x := "") (y := "") ?E4b ?E4t ?E4c ?E4s)
      (Ux.exm_mk (mg := mg) (x := "") (y := "") ?E5b ?E5t ?E5c ?E5s)
      (Tq.df_mk KX G (fun _ _ _ _ _ _ us hl => match us, hl with | [_], _ => rfl) ?a0 ?l0 ?c0 ?k0)
      (Tq.df_mk KX G (fun _ _ _ _ _ _ us hl => match us, hl with | [_, _], _ => rfl) ?a1 ?l1 ?c1 ?k1)
      (Tq.df_mk KX G (fun _ _ _ _ _ _ us hl => match us, hl with | [_], _ => rfl) ?a2 ?l2 ?c2 ?k2)
      (Tq.df_mk KX G (fun _ _ _ _ _ _ us hl => match us, hl with | [_], _ => rfl) ?a3 ?l3 ?c3 ?k3)
      (Tq.df_mk KX G (fun _ _ _ _ _ _ us hl => match us, hl with | [_, _], _ => rfl) ?a4 ?l4 ?c4 ?k4)
      (Tq.df_mk KX G (fun _ _ _ _ _ _ us hl => match us, hl with | [_, _], _ => rfl) ?a5 ?l5 ?c5 ?k5)
      (Tq.df_mk KX G (fun _ _ _ _ _ _ us hl => match us, hl with | [_, _, _], _ => rfl) ?a6 ?l6 ?c6 ?k6)
      (Tq.df_mk KX G (fun _ _ _ _ _ _ us hl => match us, hl with | [_, _], _ => rfl) ?a7 ?l7 ?c7 ?k7)
      (Tq.df_mk KX G (fun _ _ _ _ _ _ us hl => match us, hl with | [_, _], _ => rfl) ?a8 ?l8 ?c8 ?k8)
      (Ux.dfd_mk KX G ⟨_, rfl⟩ (fun _ _ _ _ _ _ _ us its h1 h2 => match us, its, h1, h2 with | [_, _], [_], _, _ => ⟨_, rfl, rfl⟩) (fun _ _ _ _ _ _ _ us its h1 h2 => match us, its, h1, h2 with | [_], [_], _, _ => ⟨_, rfl, rfl⟩) (fun _ _ _ _ _ _ _ us ws its h1 h2 h3 => match us, ws, its, h1, h2, h3 with | [_], [_], [_], _, _, _ => ⟨_, rfl, rfl⟩) ?a9 ?l9 ?T9 ?c9 ?k9)
      (Tq.df_mk KX G (fun _ _ _ _ _ _ us hl => match us, hl with | [_, _], _ => rfl) ?a10 ?l10 ?c10 ?k10)
      (Tq.df_mk KX G (fun _ _ _ _ _ _ us hl => match us, hl with | [_], _ => rfl) ?a11 ?l11 ?c11 ?k11)
      (Tq.df_mk KX G (fun _ _ _ _ _ _ us hl => match us, hl with | [_, _], _ => rfl) ?a12 ?l12 ?c12 ?k12)
      (Tq.df_mk KX G (fun _ _ _ _ _ _ us hl => match us, hl with | [_], _ => rfl) ?a13 ?l13 ?c13 ?k13)
      (Tq.df_mk KX G (fun _ _ _ _ _ _ us hl => match us, hl with | [_, _, _, _], _ => rfl) ?a14 ?l14 ?c14 ?k14)
      (Tq.df_mk KX G (fun _ _ _ _ _ _ us hl => match us, hl with | [_, _], _ => rfl) ?a15 ?l15 ?c15 ?k15)
      (Tq.df_mk KX G (fun _ _ _ _ _ _ us hl => match us, hl with | [_, _], _ => rfl) ?a16 ?l16 ?c16 ?k16)
      (Tq.df_mk KX G (fun _ _ _ _ _ _ us hl => match us, hl with | [_, _], _ => rfl) ?a17 ?l17 ?c17 ?k17)
      (Tq.df_mk KX G (fun _ _ _ _ _ _ us hl => match us, hl with | [_, _], _ => rfl) ?a18 ?l18 ?c18 ?k18)
      (Ux.dfm_mk (dbs := [false, false]) (shs := Ux.shs_between) KX G (by decide) (List.forall_mem_cons.mpr ⟨⟨by decide, fun _ _ _ _ _ _ _ us ws its h1 h2 h3 => match us, ws, its, h1, h2, h3 with | [_, _], [], [_, _], _, _, _ => ⟨_, rfl, rfl⟩⟩, (List.forall_mem_cons.mpr ⟨⟨by decide, fun _ _ _ _ _ _ _ us ws its h1 h2 h3 => match us, ws, its, h1, h2, h3 with | [_, _, _, _], [], [_, _], _, _, _ => ⟨_, rfl, rfl⟩⟩, (fun _ h => absurd h (by simp))⟩)⟩) ?a19 ?l19 ?T19 ?c19 ?k19)
      (Ux.dfm_mk (dbs := [false, false]) (shs := Ux.shs_shows_between) KX G (by decide) (List.forall_mem_cons.mpr ⟨⟨by decide, fun _ _ _ _ _ _ _ us ws its h1 h2 h3 => match us, ws, its, h1, h2, h3 with | [_, _, _], [], [_, _], _, _, _ => ⟨_, rfl, rfl⟩⟩, (List.forall_mem_cons.mpr ⟨⟨by decide, fun _ _ _ _ _ _ _ us ws its h1 h2 h3 => match us, ws, its, h1, h2, h3 with | [_, _, _], [_, _], [_, _], _, _, _ => ⟨_, rfl, rfl⟩⟩, (fun _ h => absurd h (by simp))⟩)⟩) ?a20 ?l20 ?T20 ?c20 ?k20)
      (Tq.df_mk KX G (fun _ _ _ _ _ _ us hl => match us, hl with | [_, _], _ => rfl) ?a21 ?l21 ?c21 ?k21)
      (Tq.df_mk KX G (fun _ _ _ _ _ _ us hl => match us, hl with | [_], _ => rfl) ?a22 ?l22 ?c22 ?k22)
      (Tq.df_mk KX G (fun _ _ _ _ _ _ us hl => match us, hl with | [_, _, _, _], _ => rfl) ?a23 ?l23 ?c23 ?k23)
      (Tq.df_mk KX G (fun _ _ _ _ _ _ us hl => match us, hl with | [_, _], _ => rfl) ?a24 ?l24 ?c24 ?k24)
      (Tq.df_mk KX G (fun _ _ _ _ _ _ us hl => match us, hl with | [_, _, _], _ => rfl) ?a25 ?l25 ?c25 ?k25)
      (Tq.df_mk KX G (fun _ _ _ _ _ _ us hl => match us, hl with | [_, _], _ => rfl) ?a26 ?l26 ?c26 ?k26)
      (Tq.df_mk KX G (fun _ _ _ _ _ _ us hl => match us, hl with | [_, _, _], _ => rfl) ?a27 ?l27 ?c27 ?k27)
      (Tq.df_mk KX G (fun _ _ _ _ _ _ us hl => match us, hl with | [_, _], _ => rfl) ?a28 ?l28 ?c28 ?k28)
      (PySem.W.mg_none_of KX G ?z0)
      (PySem.W.mg_none_of KX G ?z1)
      (PySem.W.mg_none_of KX G ?z2)
      (PySem.W.mg_none_of KX G ?z3)
      (PySem.W.mg_none_of KX G ?z4)
      (PySem.W.mg_none_of KX G ?z5)
      (PySem.W.mg_none_of KX G ?z6)
      (PySem.W.mg_none_of KX G ?z7)
      (PySem.W.mg_none_of KX G ?z8)
      (PySem.W.mg_none_of KX G ?z9)
      (PySem.W.mg_none_of KX G ?z10)
      (PySem.W.mg_none_of KX G ?z11)
      (PySem.W.mg_of KX G ?y0)) (fun _ _ _ _ _ _ _ _ => .of_eq rfl) ?a ?l ?c ?k
    (case xa => first | k_is | decide +kernel | rfl | exact ⟨[_], rfl⟩); (case xr => first | k_is | decide +kernel | rfl | exact ⟨[_], rfl⟩); (case xg => first | k_is | decide +kernel | rfl | exact ⟨[_], rfl⟩); (case xv => first | k_is | decide +kernel | rfl | exact ⟨[_], rfl⟩); (case ya => first | k_is | decide +kernel | rfl | exact ⟨[_], rfl⟩); (case yr => first | k_is | decide +kernel | rfl | exact ⟨[_], rfl⟩); (case yg => first | k_is | decide +kernel | rfl | exact ⟨[_], rfl⟩); (case yv => first | k_is | decide +kernel | rfl | exact ⟨[_], rfl⟩)
    (case X0aC => first | k_is | decide +kernel | rfl | exact ⟨[_], rfl⟩); (case X0xL => first | k_is | decide +kernel | rfl | exact ⟨[_], rfl⟩); (case X0vb => first | k_is | decide +kernel | rfl | exact ⟨[_], rfl⟩); (case X0sa => first | k_is | decide +kernel | rfl | exact ⟨[_], rfl⟩); (case X0ga => first | k_is | decide +kernel | rfl | exact ⟨[_], rfl⟩); (case X0gg => first | k_is | decide +kernel | rfl | exact ⟨[_], rfl⟩); (case X0nb => first | k_is | decide +kernel | rfl | exact ⟨[_], rfl⟩); (case X0a1 => first | k_is | decide +kernel | rfl | exact ⟨[_], rfl⟩)
    (case X0t1 => first | k_is | decide +kernel | rfl | exact ⟨[_], rfl⟩); (case X0l => first | k_is | decide +kernel | rfl | exact ⟨[_], rfl⟩); (case X0c => first | k_is | decide +kernel | rfl | exact ⟨[_], rfl⟩); (case X0k => first | k_is | decide +kernel | rfl | exact ⟨[_], rfl⟩); (case X0kC => first | k_is | decide +kernel | rfl | exact ⟨[_], rfl⟩); (case X0eC => first | k_is | decide +kernel | rfl | exact ⟨[_], rfl⟩); (case X0tC => first | k_is | decide +kernel | rfl | exact ⟨[_], rfl⟩); (case X0hC => first | k_is | decide +kernel | rfl | exact ⟨[_], rfl⟩)
    (case X1aC => first | k_is | decide +kernel | rfl | exact ⟨[_], rfl⟩); (case X1xL => first | k_is | decide +kernel | rfl | exact ⟨[_], rfl⟩); (case X1vb => first | k_is | decide +kernel | rfl | exact ⟨[_], rfl⟩); (case X1sa => first | k_is | decide +kernel | rfl | exact ⟨[_], rfl⟩); (case X1ga => first | k_is | decide +kernel | rfl | exact ⟨[_], rfl⟩); (case X1gg => first | k_is | decide +kernel | rfl | exact ⟨[_], rfl⟩); (case X1nb => first | k_is | decide +kernel | rfl | exact ⟨[_], rfl⟩); (case X1a1 => first | k_is | decide +kernel | rfl | exact ⟨[_], rfl⟩)
    (case X1t1 => first | k_is | decide +kernel | rfl | exact ⟨[_], rfl⟩); (case X1l => first | k_is | decide +kernel | rfl | exact ⟨[_], rfl⟩); (case X1c => first | k_is | decide +kernel | rfl | exact ⟨[_], rfl⟩); (case X1k => first | k_is | decide +kernel | rfl | exact ⟨[_], rfl⟩); (case X1kC => first | k_is | decide +kernel | rfl | exact ⟨[_], rfl⟩); (case X1eC => first | k_is | decide +kernel | rfl | exact ⟨[_], rfl⟩); (case X1tC => first | k_is | decide +kernel | rfl | exact ⟨[_], rfl⟩); (case X1hC => first | k_is | decide +kernel | rfl | exact ⟨[_], rfl⟩)
    (case X2aC => first | k_is | decide +kernel | rfl | exact ⟨[_], rfl⟩); (case X2xL => first | k_is | decide +kernel | rfl | exact ⟨[_], rfl⟩); (case X2vb => first | k_is | decide +kernel | rfl | exact ⟨[_], rfl⟩); (case X2sa => first | k_is | decide +kernel | rfl | exact ⟨[_], rfl⟩); (case X2ga => first | k_is | decide +kernel | rfl | exact ⟨[_], rfl⟩); (case X2gg => first | k_is | decide +kernel | rfl | exact ⟨[_], rfl⟩); (case X2nb => first | k_is | decide +kernel | rfl | exact ⟨[_], rfl⟩); (case X2a1 => first | k_is | decide +kernel | rfl | exact ⟨[_], rfl⟩)
    (case X2t1 => first | k_is | decide +kernel | rfl | exact ⟨[_], rfl⟩); (case X2l => first | k_is | decide +kernel | rfl | exact ⟨[_], rfl⟩); (case X2c => first | k_is | decide +kernel | rfl | exact ⟨[_], rfl⟩); (case X2k => first | k_is | decide +kernel | rfl | exact ⟨[_], rfl⟩); (case X2kC => first | k_is | decide +kernel | rfl | exact ⟨[_], rfl⟩); (case X2eC => first | k_is | decide +kernel | rfl | exact ⟨[_], rfl⟩); (case X2tC => first | k_is | decide +kernel | rfl | exact ⟨[_], rfl⟩); (case X2hC => first | k_is | decide +kernel | rfl | exact ⟨[_], rfl⟩)
    (case X3aC => first | k_is | decide +kernel | rfl | exact ⟨[_], rfl⟩); (case X3xL => first | k_is | decide +kernel | rfl | exact ⟨[_], rfl⟩); (case X3vb => first | k_is | decide +kernel | rfl | exact ⟨[_], rfl⟩); (case X3sa => first | k_is | decide +kernel | rfl | exact ⟨[_], rfl⟩); (case X3ga => first | k_is | decide +kernel | rfl | exact ⟨[_], rfl⟩); (case X3gg => first | k_is | decide +kernel | rfl | exact ⟨[_], rfl⟩); (case X3nb => first | k_is | decide +kernel | rfl | exact ⟨[_], rfl⟩); (case X3a1 => first | k_is | decide +kernel | rfl | exact ⟨[_], rfl⟩)
    (case X3t1 => first | k_is | decide +kernel | rfl | exact ⟨[_], rfl⟩); (case X3l => first | k_is | decide +kernel | rfl | exact ⟨[_], rfl⟩); (case X3c => first | k_is | decide +kernel | rfl | exact ⟨[_], rfl⟩); (case X3k => first | k_is | decide +kernel | rfl | exact ⟨[_], rfl⟩); (case X3kC => first | k_is | decide +kernel | rfl | exact ⟨[_], rfl⟩); (case X3eC => first | k_is | decide +kernel | rfl | exact ⟨[_], rfl⟩); (case X3tC => first | k_is | decide +kernel | rfl | exact ⟨[_], rfl⟩); (case X3hC => first | k_is | decide +kernel | rfl | exact ⟨[_], rfl⟩)
    (case E0b => first | k_is | decide +kernel | rfl | exact ⟨[_], rfl⟩); (case E0t => first | k_is | decide +kernel | rfl | exact ⟨[_], rfl⟩); (case E0c => first | k_is | decide +kernel | rfl | exact ⟨[_], rfl⟩); (case E0s => first | k_is | decide +kernel | rfl | exact ⟨[_], rfl⟩); (case E1b => first | k_is | decide +kernel | rfl | exact ⟨[_], rfl⟩); (case E1t => first | k_is | decide +kernel | rfl | exact ⟨[_], rfl⟩); (case E1c => first | k_is | decide +kernel | rfl | exact ⟨[_], rfl⟩); (case E1s => first | k_is | decide +kernel | rfl | exact ⟨[_], rfl⟩)
    (case E2b => first | k_is | decide +kernel | rfl | exact ⟨[_], rfl⟩); (case E2t => first | k_is | decide +kernel | rfl | exact ⟨[_], rfl⟩); (case E2c => first | k_is | decide +kernel | rfl | exact ⟨[_], rfl⟩); (case E2s => first | k_is | decide +kernel | rfl | exact ⟨[_], rfl⟩); (case E3b => first | k_is | decide +kernel | rfl | exact ⟨[_], rfl⟩); (case E3t => first | k_is | decide +kernel | rfl | exact ⟨[_], rfl⟩); (case E3c => first | k_is | decide +kernel | rfl | exact ⟨[_], rfl⟩); (case E3s => first | k_is | decide +kernel | rfl | exact ⟨[_], rfl⟩)
    (case E4b => first | k_is | decide +kernel | rfl | exact ⟨[_], rfl⟩); (case E4t => first | k_is | decide +kernel | rfl | exact ⟨[_], rfl⟩); (case E4c => first | k_is | decide +kernel | rfl | exact ⟨[_], rfl⟩); (case E4s => first | k_is | decide +kernel | rfl | exact ⟨[_], rfl⟩); (case E5b => first | k_is | decide +kernel | rfl | exact ⟨[_], rfl⟩); (case E5t => first | k_is | decide +kernel | rfl | exact ⟨[_], rfl⟩); (case E5c => first | k_is | decide +kernel | rfl | exact ⟨[_], rfl⟩); (case E5s => first | k_is | decide +kernel | rfl | exact ⟨[_], rfl⟩)
    (case a0 => first | k_is | decide +kernel | rfl | exact ⟨[_], rfl⟩); (case l0 => first | k_is | decide +kernel | rfl | exact ⟨[_], rfl⟩); (case c0 => first | k_is | decide +kernel | rfl | exact ⟨[_], rfl⟩); (case k0 => first | k_is | decide +kernel | rfl | exact ⟨[_], rfl⟩); (case a1 => first | k_is | decide +kernel | rfl | exact ⟨[_], rfl⟩); (case l1 => first | k_is | decide +kernel | rfl | exact ⟨[_], rfl⟩); (case c1 => first | k_is | decide +kernel | rfl | exact ⟨[_], rfl⟩); (case k1 => first | k_is | decide +kernel | rfl | exact ⟨[_], rfl⟩)
    (case a2 => first | k_is | decide +kernel | rfl | exact ⟨[_], rfl⟩); (case l2 => first | k_is | decide +kernel | rfl | exact ⟨[_], rfl⟩); (case c2 => first | k_is | decide +kernel | rfl | exact ⟨[_], rfl⟩); (case k2 => first | k_is | decide +kernel | rfl | exact ⟨[_], rfl⟩); (case a3 => first | k_is | decide +kernel | rfl | exact ⟨[_], rfl⟩); (case l3 => first | k_is | decide +kernel | rfl | exact ⟨[_], rfl⟩); (case c3 => first | k_is | decide +kernel | rfl | exact ⟨[_], rfl⟩); (case k3 => first | k_is | decide +kernel | rfl | exact ⟨[_], rfl⟩)
    (case a4 => first | k_is | decide +kernel | rfl | exact ⟨[_], rfl⟩); (case l4 => first | k_is | decide +kernel | rfl | exact ⟨[_], rfl⟩); (case c4 => first | k_is | decide +kernel | rfl | exact ⟨[_], rfl⟩); (case k4 => first | k_is | decide +kernel | rfl | exact ⟨[_], rfl⟩); (case a5 => first | k_is | decide +kernel | rfl | exact ⟨[_], rfl⟩); (case l5 => first | k_is | decide +kernel | rfl | exact ⟨[_], rfl⟩); (case c5 => first | k_is | decide +kernel | rfl | exact ⟨[_], rfl⟩); (case k5 => first | k_is | decide +kernel | rfl | exact ⟨[_], rfl⟩)
    (case a6 => first | k_is | decide +kernel | rfl | exact ⟨[_], rfl⟩); (case l6 => first | k_is | decide +kernel | rfl | exact ⟨[_], rfl⟩); (case c6 => first | k_is | decide +kernel | rfl | exact ⟨[_], rfl⟩); (case k6 => first | k_is | decide +kernel | rfl | exact ⟨[_], rfl⟩); (case a7 => first | k_is | decide +kernel | rfl | exact ⟨[_], rfl⟩); (case l7 => first | k_is | decide +kernel | rfl | exact ⟨[_], rfl⟩); (case c7 => first | k_is | decide +kernel | rfl | exact ⟨[_], rfl⟩); (case k7 => first | k_is | decide +kernel | rfl | exact ⟨[_], rfl⟩)
    (case a8 => first | k_is | decide +kernel | rfl | exact ⟨[_], rfl⟩); (case l8 => first | k_is | decide +kernel | rfl | exact ⟨[_], rfl⟩); (case c8 => first | k_is | decide +kernel | rfl | exact ⟨[_], rfl⟩); (case k8 => first | k_is | decide +kernel | rfl | exact ⟨[_], rfl⟩); (case a9 => first | k_is | decide +kernel | rfl | exact ⟨[_], rfl⟩); (case l9 => first | k_is | decide +kernel | rfl | exact ⟨[_], rfl⟩); (case T9 => first | k_is | decide +kernel | rfl | exact ⟨[_], rfl⟩); (case c9 => first | k_is | decide +kernel | rfl | exact ⟨[_], rfl⟩)
    (case k9 => first | k_is | decide +kernel | rfl | exact ⟨[_], rfl⟩); (case a10 => first | k_is | decide +kernel | rfl | exact ⟨[_], rfl⟩); (case l10 => first | k_is | decide +kernel | rfl | exact ⟨[_], rfl⟩); (case c10 => first | k_is | decide +kernel | rfl | exact ⟨[_], rfl⟩); (case k10 => first | k_is | decide +kernel | rfl | exact ⟨[_], rfl⟩); (case a11 => first | k_is | decide +kernel | rfl | exact ⟨[_], rfl⟩); (case l11 => first | k_is | decide +kernel | rfl | exact ⟨[_], rfl⟩); (case c11 => first | k_is | decide +kernel | rfl | exact ⟨[_], rfl⟩)
    (case k11 => first | k_is | decide +kernel | rfl | exact ⟨[_], rfl⟩); (case a12 => first | k_is | decide +kernel | rfl | exact ⟨[_], rfl⟩); (case l12 => first | k_is | decide +kernel | rfl | exact ⟨[_], rfl⟩); (case c12 => first | k_is | decide +kernel | rfl | exact ⟨[_], rfl⟩); (case k12 => first | k_is | decide +kernel | rfl | exact ⟨[_], rfl⟩); (case a13 => first | k_is | decide +kernel | rfl | exact ⟨[_], rfl⟩); (case l13 => first | k_is | decide +kernel | rfl | exact ⟨[_], rfl⟩); (case c13 => first | k_is | decide +kernel | rfl | exact ⟨[_], rfl⟩)
    (case k13 => first | k_is | decide +kernel | rfl | exact ⟨[_], rfl⟩); (case a14 => first | k_is | decide +kernel | rfl | exact ⟨[_], rfl⟩); (case l14 => first | k_is | decide +kernel | rfl | exact ⟨[_], rfl⟩); (case c14 => first | k_is | decide +kernel | rfl | exact ⟨[_], rfl⟩); (case k14 => first | k_is | decide +kernel | rfl | exact ⟨[_], rfl⟩); (case a15 => first | k_is | decide +kernel | rfl | exact ⟨[_], rfl⟩); (case l15 => first | k_is | decide +kernel | rfl | exact ⟨[_], rfl⟩); (case c15 => first | k_is | decide +kernel | rfl | exact ⟨[_], rfl⟩)
    (case k15 => first | k_is | decide +kernel | rfl | exact ⟨[_], rfl⟩); (case a16 => first | k_is | decide +kernel | rfl | exact ⟨[_], rfl⟩); (case l16 => first | k_is | decide +kernel | rfl | exact ⟨[_], rfl⟩); (case c16 => first | k_is | decide +kernel | rfl | exact ⟨[_], rfl⟩); (case k16 => first | k_is | decide +kernel | rfl | exact ⟨[_], rfl⟩); (case a17 => first | k_is | decide +kernel | rfl | exact ⟨[_], rfl⟩); (case l17 => first | k_is | decide +kernel | rfl | exact ⟨[_], rfl⟩); (case c17 => first | k_is | decide +kernel | rfl | exact ⟨[_], rfl⟩)
    (case k17 => first | k_is | decide +kernel | rfl | exact ⟨[_], rfl⟩); (case a18 => first | k_is | decide +kernel | rfl | exact ⟨[_], rfl⟩); (case l18 => first | k_is | decide +kernel | rfl | exact ⟨[_], rfl⟩); (case c18 => first | k_is | decide +kernel | rfl | exact ⟨[_], rfl⟩); (case k18 => first | k_is | decide +kernel | rfl | exact ⟨[_], rfl⟩); (case a19 => first | k_is | decide +kernel | rfl | exact ⟨[_], rfl⟩); (case l19 => first | k_is | decide +kernel | rfl | exact ⟨[_], rfl⟩); (case T19 => first | k_is | decide +kernel | rfl | exact ⟨[_], rfl⟩)
    (case c19 => first | k_is | decide +kernel | rfl | exact ⟨[_], rfl⟩); (case k19 => first | k_is | decide +kernel | rfl | exact ⟨[_], rfl⟩); (case a20 => first | k_is | decide +kernel | rfl | exact ⟨[_], rfl⟩); (case l20 => first | k_is | decide +kernel | rfl | exact ⟨[_], rfl⟩); (case T20 => first | k_is | decide +kernel | rfl | exact ⟨[_], rfl⟩); (case c20 => first | k_is | decide +kernel | rfl | exact ⟨[_], rfl⟩); (case k20 => first | k_is | decide +kernel | rfl | exact ⟨[_], rfl⟩); (case a21 => first | k_is | decide +kernel | rfl | exact ⟨[_], rfl⟩)
    (case l21 => first | k_is | decide +kernel | rfl | exact ⟨[_], rfl⟩); (case c21 => first | k_is | decide +kernel | rfl | exact ⟨[_], rfl⟩); (case k21 => first | k_is | decide +kernel | rfl | exact ⟨[_], rfl⟩); (case a22 => first | k_is | decide +kernel | rfl | exact ⟨[_], rfl⟩); (case l22 => first | k_is | decide +kernel | rfl | exact ⟨[_], rfl⟩); (case c22 => first | k_is | decide +kernel | rfl | exact ⟨[_], rfl⟩); (case k22 => first | k_is | decide +kernel | rfl | exact ⟨[_], rfl⟩); (case a23 => first | k_is | decide +kernel | rfl | exact ⟨[_], rfl⟩)
    (case l23 => first | k_is | decide +kernel | rfl | exact ⟨[_], rfl⟩); (case c23 => first | k_is | decide +kernel | rfl | exact ⟨[_], rfl⟩); (case k23 => first | k_is | decide +kernel | rfl | exact ⟨[_], rfl⟩); (case a24 => first | k_is | decide +kernel | rfl | exact ⟨[_], rfl⟩); (case l24 => first | k_is | decide +kernel | rfl | exact ⟨[_], rfl⟩); (case c24 => first | k_is | decide +kernel | rfl | exact ⟨[_], rfl⟩); (case k24 => first | k_is | decide +kernel | rfl | exact ⟨[_], rfl⟩); (case a25 => first | k_is | decide +kernel | rfl | exact ⟨[_], rfl⟩)
    (case l25 => first | k_is | decide +kernel | rfl | exact ⟨[_], rfl⟩); (case c25 => first | k_is | decide +kernel | rfl | exact ⟨[_], rfl⟩); (case k25 => first | k_is | decide +kernel | rfl | exact ⟨[_], rfl⟩); (case a26 => first | k_is | decide +kernel | rfl | exact ⟨[_], rfl⟩); (case l26 => first | k_is | decide +kernel | rfl | exact ⟨[_], rfl⟩); (case c26 => first | k_is | decide +kernel | rfl | exact ⟨[_], rfl⟩); (case k26 => first | k_is | decide +kernel | rfl | exact ⟨[_], rfl⟩); (case a27 => first | k_is | decide +kernel | rfl | exact ⟨[_], rfl⟩)
    (case l27 => first | k_is | decide +kernel | rfl | exact ⟨[_], rfl⟩); (case c27 => first | k_is | decide +kernel | rfl | exact ⟨[_], rfl⟩); (case k27 => first | k_is | decide +kernel | rfl | exact ⟨[_], rfl⟩); (case a28 => first | k_is | decide +kernel | rfl | exact ⟨[_], rfl⟩); (case l28 => first | k_is | decide +kernel | rfl | exact ⟨[_], rfl⟩); (case c28 => first | k_is | decide +kernel | rfl | exact ⟨[_], rfl⟩); (case k28 => first | k_is | decide +kernel | rfl | exact ⟨[_], rfl⟩); (case z0 => first | k_is | decide +kernel | rfl | exact ⟨[_], rfl⟩)
    (case z1 => first | k_is | decide +kernel | rfl | exact ⟨[_], rfl⟩); (case z2 => first | k_is | decide +kernel | rfl | exact ⟨[_], rfl⟩); (case z3 => first | k_is | decide +kernel | rfl | exact ⟨[_], rfl⟩); (case z4 => first | k_is | decide +kernel | rfl | exact ⟨[_], rfl⟩); (case z5 => first | k_is | decide +kernel | rfl | exact ⟨[_], rfl⟩); (case z6 => first | k_is | decide +kernel | rfl | exact ⟨[_], rfl⟩); (case z7 => first | k_is | decide +kernel | rfl | exact ⟨[_], rfl⟩); (case z8 => first | k_is | decide +kernel | rfl | exact ⟨[_], rfl⟩)
    (case z9 => first | k_is | decide +kernel | rfl | exact ⟨[_], rfl⟩); (case z10 => first | k_is | decide +kernel | rfl | exact ⟨[_], rfl⟩); (case z11 => first | k_is | decide +kernel | rfl | exact ⟨[_], rfl⟩); (case y0 => first | k_is | decide +kernel | rfl | exact ⟨[_], rfl⟩); (case a => first | k_is | decide +kernel | rfl | exact ⟨[_], rfl⟩); (case l => first | k_is | decide +kernel | rfl | exact ⟨[_], rfl⟩); (case c => first | k_is | decide +kernel | rfl | exact ⟨[_], rfl⟩); (case k => first | k_is | decide +kernel | rfl | exact ⟨[_], rfl⟩)


