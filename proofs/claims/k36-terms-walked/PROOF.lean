import PyProof.Rows.All
import Wide.All
import OpenK.AllK
import Wide.FinOn
import KE.OsRunLaw
import PySem.Challenge.RW_termstream_k36_terms_walked
import HandS.ForMost
import HandS.IsInst
import HandS.Wide
import HandS.Flow
import HandS.RaiseMore
import HandS.EndBits
import PyProof.ReprRoads
import HandS.TupAny
import HandS.Exc
import HandS.WordsExc
import KE.IntTextLaws
import PyProof.ReprLen
import PyProof.Rows.ReprOcc
import HandS.TryOnly
import HandS.Style
import KE.KRevSl
import HandS.Conv
import PyProof.StrOps2
import PyProof.Rows.Digits
import PyProof.StrReplace2
import HandS.ExcInit
import HandS.ExcOwn
import HandS.ExcField
import HandS.ExcIs
import HandS.ClsMeth
import HandS.Small
import KE.KExcIs
import HandS.DeepEq
import HandS.Defaults
import HandS.HotCalls
set_option Elab.async false
set_option linter.all false
set_option maxRecDepth 100000
set_option maxHeartbeats 0
/-! the head by one kernel run, cut into declarations -/
namespace Hd
open PySem PySem.W PyProof.Rows
abbrev myp : Program := PySem.Challenge.pw_termstream_k36_terms_walked
def myq : Program := view myp [0, 2, 3, 4, 6, 7, 9, 10, 11, 12, 13, 14, 15, 16, 17, 18, 19, 20, 21, 23, 24, 25, 26, 27, 28, 29, 30, 31, 32, 33, 34]
def myl : List PySem.Str := []
noncomputable abbrev myo (w : World) (os : OsState) : Option SharedT := HeadRun.endF (HeadRun.stepQ (HeadRun.denQ HeadRun.tabQ) myp w) 4628 myp w os
noncomputable abbrev myg (s : SharedT) := HeadRun.seenQ myq myl (importedModules myp.main.body) (fun _ => true) s.abs
theorem looks (w : World) (os : OsState) : (myo w os).map (fun s => HeadRun.looksF myp (boot_heap w.params) s.abs) = some true := by kernel_rfl
theorem seen0 (w : World) (os : OsState) : (myo w os).map (fun s => (myg s).1) = some (openGood myq myl).1 := by
  delta myg HeadRun.seenQ openGood PySem.W.Fast.tw4187177175401517315
  dsimp only
  kernel_rfl
theorem seen1 (w : World) (os : OsState) : (myo w os).map (fun s => (myg s).2.1) = some (openGood myq myl).2.1 := by
  delta myg HeadRun.seenQ openGood PySem.W.Fast.tw4187177175401517315
  dsimp only
  kernel_rfl
theorem seen2 (w : World) (os : OsState) : (myo w os).map (fun s => (myg s).2.2.1) = some (openGood myq myl).2.2.1 := by
  delta myg HeadRun.seenQ openGood PySem.W.Fast.tw4187177175401517315
  dsimp only
  kernel_rfl
theorem seen3 (w : World) (os : OsState) : (myo w os).map (fun s => (myg s).2.2.2.1) = some (openGood myq myl).2.2.2.1 := by
  delta myg HeadRun.seenQ openGood PySem.W.Fast.tw4187177175401517315
  dsimp only
  kernel_rfl
theorem seen4 (w : World) (os : OsState) : (myo w os).map (fun s => (myg s).2.2.2.2.1) = some (openGood myq myl).2.2.2.2.1 := by
  delta myg HeadRun.seenQ openGood PySem.W.Fast.tw4187177175401517315
  dsimp only
  kernel_rfl
theorem seen5 (w : World) (os : OsState) : (myo w os).map (fun s => (myg s).2.2.2.2.2.1) = some (openGood myq myl).2.2.2.2.2.1 := by
  delta myg HeadRun.seenQ openGood PySem.W.Fast.tw4187177175401517315
  dsimp only
  kernel_rfl
theorem seen6 (w : World) (os : OsState) : (myo w os).map (fun s => (myg s).2.2.2.2.2.2.1) = some (openGood myq myl).2.2.2.2.2.2.1 := by
  delta myg HeadRun.seenQ openGood PySem.W.Fast.tw4187177175401517315
  dsimp only
  kernel_rfl
theorem seen7 (w : World) (os : OsState) : (myo w os).map (fun s => (myg s).2.2.2.2.2.2.2.1) = some (openGood myq myl).2.2.2.2.2.2.2.1 := by
  delta myg HeadRun.seenQ openGood PySem.W.Fast.tw4187177175401517315
  dsimp only
  kernel_rfl
theorem seen8 (w : World) (os : OsState) : (myo w os).map (fun s => (myg s).2.2.2.2.2.2.2.2) = some (openGood myq myl).2.2.2.2.2.2.2.2 := by
  delta myg HeadRun.seenQ openGood PySem.W.Fast.tw4187177175401517315
  dsimp only
  kernel_rfl
theorem split2 {σ B C : Type} {o : Option σ} {g : σ → B × C} {b : B × C} (h1 : o.map (fun s => (g s).1) = some b.1) (h2 : o.map (fun s => (g s).2) = some b.2) : o.map g = some b := by
  cases o with
  | none => cases h1
  | some s => exact congrArg some (Prod.ext (Option.some.inj h1) (Option.some.inj h2))
theorem seen (w : World) (os : OsState) : (myo w os).map myg = some (openGood myq myl) :=
  split2 (seen0 w os) (split2 (seen1 w os) (split2 (seen2 w os) (split2 (seen3 w os) (split2 (seen4 w os) (split2 (seen5 w os) (split2 (seen6 w os) (split2 (seen7 w os) (seen8 w os))))))))
theorem seen_xt {q : Program} {l mods : List PySem.Str} {Xt : Shared → Bool} {s : Shared} (h : openSeen q l mods (fun _ => true) true s = openGood q l) (hx : Xt s = true) : openSeen q l mods Xt true s = openGood q l := by
  rw [← h]
  unfold openSeen
  rw [hx]
theorem seenE (w : World) (os : OsState) : (myo w os).map (fun s => HeadRun.seenQ myq myl (importedModules myp.main.body) (fun _ => true) s.abs) = some (openGood myq myl) := seen w os
/-- the whole equation of the head, but for the objects that the walk reads -/
theorem join {p p' : Program} {h0 h0' : Heap} {q q' : Program} {l l' mods mods' : List PySem.Str} {Xt : Shared → Bool} {B : Type} {f : SharedT → B} {b : B} {o o' : Option SharedT} (eo : o = o') (ep : p = p') (eh : h0 = h0') (eq : q = q') (el : l = l') (em : mods = mods')
    (h1 : o'.map (fun s => HeadRun.looksF p' h0' s.abs) = some true) (h2 : o'.map (fun s => HeadRun.seenQ q' l' mods' (fun _ => true) s.abs) = some (openGood q' l')) (h3 : o.map (fun s => (Xt s.abs, f s)) = some (true, b)) :
    o.map (fun s => (HeadRun.looksF p h0 s.abs, HeadRun.seenQ q l mods Xt s.abs, f s)) = some (true, openGood q l, b) := by
  subst eo ep eh eq el em
  cases o with
  | none => cases h1
  | some s =>
    have e1 : HeadRun.looksF p h0 s.abs = true := Option.some.inj h1
    have e2 : HeadRun.seenQ q l mods (fun _ => true) s.abs = openGood q l := Option.some.inj h2
    have e3 : (Xt s.abs, f s) = (true, b) := Option.some.inj h3
    have e4 : Xt s.abs = true := congrArg Prod.fst e3
    have e5 : f s = b := congrArg Prod.snd e3
    show some (HeadRun.looksF p h0 s.abs, HeadRun.seenQ q l mods Xt s.abs, f s) = _
    rw [← HeadRun.seenQ_eq] at e2 ⊢
    rw [e1, seen_xt e2 e4, e5]
theorem joinK (w : World) (os : OsState) {p : Program} {h0 : Heap} {q : Program} {l mods : List PySem.Str} {Xt : Shared → Bool} {B : Type} {f : SharedT → B} {b : B} {o : Option SharedT} (eo : o = myo w os) (ep : p = myp) (eh : h0 = boot_heap w.params) (eq : q = myq) (el : l = myl) (em : mods = importedModules myp.main.body)
    (h3 : o.map (fun s => (Xt s.abs, f s)) = some (true, b)) : o.map (fun s => (HeadRun.looksF p h0 s.abs, HeadRun.seenQ q l mods Xt s.abs, f s)) = some (true, openGood q l, b) :=
  join eo ep eh eq el em (looks w os) (seenE w os) h3
local macro_rules
  | `(tactic| kernel_rfl) => `(tactic| (with_reducible refine Hd.joinK ‹World› ‹OsState› ?_ ?_ ?_ ?_ ?_ ?_ ?_ <;> kernel_rfl))
local macro_rules
  | `(tactic| k_head) => `(tactic| k_headL)
open_top hd_k36 for PySem.Challenge.rw_termstream_k36_terms_walked
end Hd
set_option maxHeartbeats 4000000

set_option maxRecDepth 100000
set_option maxHeartbeats 2000000
/-! Data over the heap (Rp), frames, slots, and the wp over data -/
namespace Tq
open PySem PySem.Spec PyProof.Rows L2
abbrev D := PyData
abbrev Fg := PySem.W.Frag
abbrev St := L2.St
def kD : Key → D
  | .inl i => .int i
  | .inr x => .str x
/-- a list of the written part -/
def KL (K : Fg) (a : Addr) (xs : List V) : Prop := ∃ (o : Obj) (its : Array Value) (n : Nat), K.lookup a = some o ∧ o.cls = .type "list" ∧ o.dict = none ∧ o.data = .seq its n ∧ its.size ≤ sizeLine ∧ Vals xs its.toList
def KT (K : Fg) (a : Addr) (xs : List V) : Prop := ∃ (o : Obj) (its : Array Value) (n : Nat), K.lookup a = some o ∧ o.cls = .type "tuple" ∧ o.data = .seq its n ∧ its.size ≤ sizeLine ∧ Vals xs its.toList
/-- a list, a tuple, apart from what may change -/
def LsA (K : Fg) (M : Addr → Prop) (H : Hp) (a : Addr) (xs : List V) : Prop := (¬ M a ∧ Rd H a (.lst xs)) ∨ KL K a xs
def TsA (K : Fg) (M : Addr → Prop) (H : Hp) (a : Addr) (xs : List V) : Prop := (¬ M a ∧ Rd H a (.tup xs)) ∨ KT K a xs
theorem LsA.sq {K : Fg} {M : Addr → Prop} {H : Hp} {a : Addr} {xs : List V} (h : LsA K M H a xs) : SqL K H a xs := h.elim (fun z => .inl z.2) .inr
theorem TsA.sq {K : Fg} {M : Addr → Prop} {H : Hp} {a : Addr} {xs : List V} (h : TsA K M H a xs) : SqT K H a xs := h.elim (fun z => .inl z.2) .inr
mutual
inductive Rp (K : Fg) (M : Addr → Prop) (H : Hp) : V → D → Prop
  | non : Rp K M H .non .none
  | bl (b : Bool) : Rp K M H (.bl b) (.bool b)
  | int (i : Int) : Rp K M H (.int i) (.int i)
  | str (x : Str) : Rp K M H (.str x) (.str x)
  | lst {a : Addr} {xs : List V} {ds : List D} : LsA K M H a xs → RpA K M H xs ds → Rp K M H (.ref a) (.list ds)
  | tup {a : Addr} {xs : List V} {ds : List D} : TsA K M H a xs → RpA K M H xs ds → Rp K M H (.ref a) (.tuple ds)
  | dic {a : Addr} {kvs : List (Key × V)} {ds : List (D × D)} : ¬ M a → H a = some (.dK kvs) → RpK K M H kvs ds → Rp K M H (.ref a) (.dict ds)
inductive RpA (K : Fg) (M : Addr → Prop) (H : Hp) : List V → List D → Prop
  | nil : RpA K M H [] []
  | cons {v : V} {d : D} {vs : List V} {ds : List D} : Rp K M H v d → RpA K M H vs ds → RpA K M H (v :: vs) (d :: ds)
inductive RpK (K : Fg) (M : Addr → Prop) (H : Hp) : List (Key × V) → List (D × D) → Prop
  | nil : RpK K M H [] []
  | cons {k : Key} {v : V} {d : D} {vs : List (Key × V)} {ds : List (D × D)} : Rp K M H v d → RpK K M H vs ds → RpK K M H ((k, v) :: vs) ((kD k, d) :: ds)
end
/-- what stood apart stands, and apart -/
def GoH (M : Addr → Prop) (H : Hp) (M' : Addr → Prop) (H' : Hp) : Prop := ∀ a o, ¬ M a → H a = some o → ¬ M' a ∧ H' a = some o
theorem GoH.refl {M : Addr → Prop} {H : Hp} : GoH M H M H := fun _ _ h e => ⟨h, e⟩
theorem GoH.trans {M M1 M2 : Addr → Prop} {H H1 H2 : Hp} (g : GoH M H M1 H1) (g' : GoH M1 H1 M2 H2) : GoH M H M2 H2 := fun a o h e => g' a o (g a o h e).1 (g a o h e).2
section
variable {K : Fg} {M M' : Addr → Prop} {H H' : Hp}
theorem Rd.go {a : Addr} {u : HO} (g : GoH M H M' H') (n : ¬ M a) (r : Rd H a u) : ¬ M' a ∧ Rd H' a u := by
  rcases r with r | ⟨o, r⟩
  · exact ⟨(g a _ n r).1, .inl (g a _ n r).2⟩
  · exact ⟨(g a _ n r).1, .inr ⟨o, (g a _ n r).2⟩⟩
theorem LsA.go {a : Addr} {xs : List V} (g : GoH M H M' H') (h : LsA K M H a xs) : LsA K M' H' a xs := h.elim (fun z => .inl (Rd.go g z.1 z.2)) .inr
theorem TsA.go {a : Addr} {xs : List V} (g : GoH M H M' H') (h : TsA K M H a xs) : TsA K M' H' a xs := h.elim (fun z => .inl (Rd.go g z.1 z.2)) .inr
theorem Rp.go (g : GoH M H M' H') {v : V} {d : D} (r : Rp K M H v d) : Rp K M' H' v d :=
  Rp.rec (motive_1 := fun v d _ => Rp K M' H' v d) (motive_2 := fun vs ds _ => RpA K M' H' vs ds) (motive_3 := fun vs ds _ => RpK K M' H' vs ds)
    .non .bl .int .str (fun h _ i => .lst (h.go g) i) (fun h _ i => .tup (h.go g) i) (fun n h _ i => .dic (g _ _ n h).1 (g _ _ n h).2 i)
    .nil (fun _ _ a b => .cons a b) .nil (fun _ _ a b => .cons a b) r
theorem RpA.go (g : GoH M H M' H') : ∀ {vs : List V} {ds : List D}, RpA K M H vs ds → RpA K M' H' vs ds
  | _, _, .nil => .nil
  | _, _, .cons a b => .cons (a.go g) (b.go g)
theorem RpK.go (g : GoH M H M' H') : ∀ {vs : List (Key × V)} {ds : List (D × D)}, RpK K M H vs ds → RpK K M' H' vs ds
  | _, _, .nil => .nil
  | _, _, .cons a b => .cons (a.go g) (b.go g)
theorem RpA.len : ∀ {vs : List V} {ds : List D}, RpA K M H vs ds → vs.length = ds.length
  | _, _, .nil => rfl
  | _, _, .cons _ b => congrArg (· + 1) b.len
theorem RpA.get : ∀ {vs : List V} {ds : List D} {i : Nat} {d : D}, RpA K M H vs ds → ds[i]? = some d → ∃ v, vs[i]? = some v ∧ Rp K M H v d
  | _, _, _, _, .nil, e => by simp at e
  | _, _, 0, _, .cons a _, e => by simp at e; subst e; exact ⟨_, rfl, a⟩
  | _, _, i + 1, d, .cons _ b, e => by
    obtain ⟨u, h1, h2⟩ := b.get (i := i) (d := d) (by simpa using e)
    exact ⟨u, by simpa using h1, h2⟩
theorem RpA.getV : ∀ {vs : List V} {ds : List D} {i : Nat} {v : V}, RpA K M H vs ds → vs[i]? = some v → ∃ d, ds[i]? = some d ∧ Rp K M H v d
  | _, _, _, _, .nil, e => by simp at e
  | _, _, 0, _, .cons a _, e => by simp at e; subst e; exact ⟨_, rfl, a⟩
  | _, _, i + 1, d, .cons _ b, e => by
    obtain ⟨u, h1, h2⟩ := b.getV (i := i) (v := d) (by simpa using e)
    exact ⟨u, by simpa using h1, h2⟩
theorem RpA.app : ∀ {vs us : List V} {ds es : List D}, RpA K M H vs ds → RpA K M H us es → RpA K M H (vs ++ us) (ds ++ es)
  | _, _, _, _, .nil, h => h
  | _, _, _, _, .cons a b, h => .cons a (b.app h)
theorem RpA.take : ∀ (n : Nat) {vs : List V} {ds : List D}, RpA K M H vs ds → RpA K M H (vs.take n) (ds.take n)
  | 0, _, _, _ => .nil
  | _ + 1, _, _, .nil => .nil
  | n + 1, _, _, .cons a b => .cons a (b.take n)
theorem RpA.drop : ∀ (n : Nat) {vs : List V} {ds : List D}, RpA K M H vs ds → RpA K M H (vs.drop n) (ds.drop n)
  | 0, _, _, h => h
  | _ + 1, _, _, .nil => .nil
  | n + 1, _, _, .cons _ b => b.drop n
theorem RpA.rev : ∀ {vs : List V} {ds : List D}, RpA K M H vs ds → RpA K M H vs.reverse ds.reverse
  | _, _, .nil => .nil
  | _, _, .cons a b => by
    rw [List.reverse_cons, List.reverse_cons]
    exact b.rev.app (.cons a .nil)
theorem rp_int {v : V} {i : Int} (r : Rp K M H v (.int i)) : v = .int i := by cases r; rfl
theorem rp_bl {v : V} {i : Bool} (r : Rp K M H v (.bool i)) : v = .bl i := by cases r; rfl
theorem rp_str {v : V} {i : Str} (r : Rp K M H v (.str i)) : v = .str i := by cases r; rfl
theorem rp_non {v : V} (r : Rp K M H v .none) : v = .non := by cases r; rfl
theorem rp_lst {v : V} {ds : List D} (r : Rp K M H v (.list ds)) : ∃ a xs, v = .ref a ∧ LsA K M H a xs ∧ RpA K M H xs ds := by
  cases r with | lst h1 h2 => exact ⟨_, _, rfl, h1, h2⟩
theorem rp_tup {v : V} {ds : List D} (r : Rp K M H v (.tuple ds)) : ∃ a xs, v = .ref a ∧ TsA K M H a xs ∧ RpA K M H xs ds := by
  cases r with | tup h1 h2 => exact ⟨_, _, rfl, h1, h2⟩
theorem rpA_ints : ∀ {vs : List V} {ns : List Int}, RpA K M H vs (ns.map PyData.int) → vs = ns.map V.int
  | [], [], _ => rfl
  | [], _ :: _, h => by cases h
  | _ :: _, [], h => by cases h
  | v :: vs, n :: ns, h => by
    cases h with | cons a b =>
    rw [rp_int a, rpA_ints b] <;> rfl
theorem rpA_strs : ∀ {vs : List V} {ns : List Str}, RpA K M H vs (ns.map PyData.str) → vs = ns.map V.str
  | [], [], _ => rfl
  | [], _ :: _, h => by cases h
  | _ :: _, [], h => by cases h
  | v :: vs, n :: ns, h => by
    cases h with | cons a b =>
    rw [rp_str a, rpA_strs b] <;> rfl
theorem rpA_bls : ∀ {vs : List V} {ns : List Bool}, RpA K M H vs (ns.map PyData.bool) → vs = ns.map V.bl
  | [], [], _ => rfl
  | [], _ :: _, h => by cases h
  | _ :: _, [], h => by cases h
  | v :: vs, n :: ns, h => by
    cases h with | cons a b =>
    rw [rp_bl a, rpA_bls b] <;> rfl
theorem rpA_int : ∀ (ns : List Int), RpA K M H (ns.map V.int) (ns.map PyData.int)
  | [] => .nil
  | n :: ns => .cons (.int n) (rpA_int ns)
end
/-- scalars -/
inductive Sc : V → D → Prop
  | non : Sc .non .none
  | bl (b : Bool) : Sc (.bl b) (.bool b)
  | int (i : Int) : Sc (.int i) (.int i)
  | str (x : Str) : Sc (.str x) (.str x)
theorem Sc.rp {K : Fg} {M : Addr → Prop} {H : Hp} {v : V} {d : D} (s : Sc v d) : Rp K M H v d := by
  cases s
  · exact .non
  · exact .bl _
  · exact .int _
  · exact .str _

/-! ### frames and slots -/
/-- a purse with room for n more draws -/
def PuOk (H : Hp) (a : Addr) (n : Nat) : Prop := ∃ x b c : Int, H a = some (.lst [.int x, .int b, .int c]) ∧ 0 ≤ x ∧ 0 ≤ b ∧ b < 2147483629 ∧ 0 ≤ c ∧ c + n ≤ 8000000
structure Ct where
  K : Fg
  pp : Bool
structure Fr where
  H0 : Hp
  S0 : Addr → Prop
  M0 : Addr → Prop
  p : Addr
  st : Bool
inductive Y where
  | d (d : D)
  | pu (n : Nat)
  | own (ds : List D)
def Y.o : Y → Bool
  | .d _ => false
  | _ => true
abbrev S := List (Option Y)
inductive Z where
  | d (d : D)
  | ptr (i : Nat)
def isO (y : S) (i : Nat) : Bool := match y[i]? with
  | some (some z) => z.o
  | _ => false
def Own (σ : St) (y : S) (a : Addr) : Prop := ∃ i, isO y i = true ∧ σ[i]? = some (some (.ref a))
def Mv (F : Fr) (σ : St) (y : S) (a : Addr) : Prop := F.M0 a ∨ Own σ y a
def SlotOk (K : Fg) (M : Addr → Prop) (H : Hp) (v : Option (Option V)) : Y → Prop
  | .d d => ∃ x, v = some (some x) ∧ Rp K M H x d
  | .pu n => ∃ a, v = some (some (.ref a)) ∧ PuOk H a n
  | .own ds => ∃ a xs, v = some (some (.ref a)) ∧ H a = some (.lst xs) ∧ RpA K M H xs ds
structure Wd (C : Ct) (F : Fr) (σ : St) (y : S) (H : Hp) : Prop where
  keep : ∀ a o, ¬ F.S0 a → F.H0 a = some o → H a = some o
  live0 : ∀ a, F.M0 a → F.H0 a ≠ none
  live : ∀ a, F.M0 a → H a ≠ none
  len : σ.length = y.length
  slot : ∀ (i : Nat) (z : Y), y[i]? = some (some z) → SlotOk C.K (Mv F σ y) H σ[i]? z
  dist : ∀ (i j : Nat) (a : Addr), isO y i = true → isO y j = true → σ[i]? = some (some (.ref a)) → σ[j]? = some (some (.ref a)) → i = j
  frsh : ∀ a, Own σ y a → F.S0 a ∨ F.H0 a = none
  pin : C.pp = true → σ[0]? = some (some (.ref F.p))
  sm : ∀ a, F.S0 a → F.M0 a
  nb : F.st = true → ∀ (i : Nat) (a : Addr), isO y i = true → σ[i]? = some (some (.ref a)) → F.S0 a → i = 0 ∧ C.pp = true
abbrev Go (F : Fr) (σ : St) (y : S) (H : Hp) (σ' : St) (y' : S) (H' : Hp) : Prop := GoH (Mv F σ y) H (Mv F σ' y') H'
def Sh (y y' : S) : Prop := ∀ i, isO y' i = isO y i
theorem Sh.refl (y : S) : Sh y y := fun _ => rfl
theorem Sh.trans {y y1 y2 : S} (a : Sh y y1) (b : Sh y1 y2) : Sh y y2 := fun i => (b i).trans (a i)
def Rz (C : Ct) (F : Fr) (σ : St) (y : S) (H : Hp) (v : V) : Z → Prop
  | .d d => Rp C.K (Mv F σ y) H v d
  | .ptr i => isO y i = true ∧ σ[i]? = some (some v)
inductive RzA (C : Ct) (F : Fr) (σ : St) (y : S) (H : Hp) : List V → List Z → Prop
  | nil : RzA C F σ y H [] []
  | cons {v : V} {z : Z} {vs : List V} {zs : List Z} : Rz C F σ y H v z → RzA C F σ y H vs zs → RzA C F σ y H (v :: vs) (z :: zs)
section
variable {C : Ct} {F : Fr} {σ : St} {y y' : S} {H H' : Hp}
theorem Rz.go {v : V} {z : Z} (g : Go F σ y H σ y' H') (s : Sh y y') (r : Rz C F σ y H v z) : Rz C F σ y' H' v z := by
  cases z with
  | d d => exact Rp.go g r
  | ptr i => exact ⟨(s i).trans r.1, r.2⟩
theorem RzA.go (g : Go F σ y H σ y' H') (s : Sh y y') : ∀ {vs : List V} {zs : List Z}, RzA C F σ y H vs zs → RzA C F σ y' H' vs zs
  | _, _, .nil => .nil
  | _, _, .cons a b => .cons (Rz.go g s a) (b.go g s)
theorem RzA.ds : ∀ {vs : List V} {ds : List D}, RzA C F σ y H vs (ds.map Z.d) → RpA C.K (Mv F σ y) H vs ds
  | [], [], _ => .nil
  | [], _ :: _, h => by cases h
  | _ :: _, [], h => by cases h
  | v :: vs, n :: ns, h => by
    cases h with | cons a b => exact .cons a b.ds
/-- a fresh address is apart -/
theorem Wd.new (w : Wd C F σ y H) {p : Addr} (h : H p = none) : ¬ Mv F σ y p := by
  rintro (z | ⟨i, hi, e⟩)
  · exact w.live p z h
  · cases q : y[i]? with
    | none => unfold isO at hi; rw [q] at hi; cases hi
    | some o =>
      cases o with
      | none => unfold isO at hi; rw [q] at hi; cases hi
      | some z =>
        have s := w.slot i z q
        cases z with
        | d d => unfold isO at hi; rw [q] at hi; cases hi
        | pu n =>
          obtain ⟨a, ea, x, b, c, ha, _⟩ := s
          rw [e] at ea; cases ea
          rw [h] at ha; cases ha
        | own ds =>
          obtain ⟨a, xs, ea, ha, _⟩ := s
          rw [e] at ea; cases ea
          rw [h] at ha; cases ha
/-- the heap grows, apart from what may change; what may change stays as it is -/
theorem Wd.grow (w : Wd C F σ y H) (g : ∀ a o, H a = some o → H' a = some o) : Wd C F σ y H' := by
  refine ⟨fun a o n e => g _ _ (w.keep a o n e), w.live0, fun a m e => ?_, w.len, fun i z e => ?_, w.dist, w.frsh, w.pin, w.sm, w.nb⟩
  · cases q : H a with
    | none => exact w.live a m q
    | some o => rw [g a o q] at e; cases e
  · have s := w.slot i z e
    have gg : GoH (Mv F σ y) H (Mv F σ y) H' := fun a o n e => ⟨n, g a o e⟩
    cases z with
    | d d => obtain ⟨x, h1, h2⟩ := s; exact ⟨x, h1, h2.go gg⟩
    | pu n => obtain ⟨a, h1, x, b, c, h2, h3⟩ := s; exact ⟨a, h1, x, b, c, g _ _ h2, h3⟩
    | own ds => obtain ⟨a, xs, h1, h2, h3⟩ := s; exact ⟨a, xs, h1, g _ _ h2, h3.go gg⟩
theorem go_grow (g : ∀ a o, H a = some o → H' a = some o) : Go F σ y H σ y H' := fun a o n e => ⟨n, g a o e⟩
theorem grow_upd {p : Addr} {o : HO} (h : H p = none) : ∀ a u, H a = some u → upd H p o a = some u := fun a u e => by
  rw [upd_ne (ne_of_none e h)]; exact e
end

/-! ### the wp over data -/
section
variable (C : Ct)
def wE (te : TE) (y : S) (Q : Z → S → Prop) : Prop := ∀ (F : Fr) σ H (K : VK), Wd C F σ y H → (∀ v H' z y', Wd C F σ y' H' → Go F σ y H σ y' H' → Sh y y' → Rz C F σ y' H' v z → Q z y' → K v H') → te σ H K
def wT (tt : TT) (y : S) (Q : Bool → S → Prop) : Prop := ∀ (F : Fr) σ H (K : Bool → Hp → Prop), Wd C F σ y H → (∀ b H' y', Wd C F σ y' H' → Go F σ y H σ y' H' → Sh y y' → Q b y' → K b H') → tt σ H K
def wO (to : TO) (y : S) (Q : Option Int → S → Prop) : Prop := ∀ (F : Fr) σ H (K : Option Int → Hp → Prop), Wd C F σ y H → (∀ b H' y', Wd C F σ y' H' → Go F σ y H σ y' H' → Sh y y' → Q b y' → K b H') → to σ H K
structure En where
  nx : S → Prop
  rt : Z → S → Prop
  bk : S → Prop := fun _ => False
  ct : S → Prop := fun _ => False
structure EnOk (F : Fr) (σ : St) (y : S) (H : Hp) (e : En) (E : Ends) : Prop where
  nx : ∀ σ' H' y', Wd C F σ' y' H' → Go F σ y H σ' y' H' → e.nx y' → E.nx σ' H'
  rt : ∀ σ' v H' z y', Wd C F σ' y' H' → Go F σ y H σ' y' H' → Rz C F σ' y' H' v z → e.rt z y' → E.rt v H'
  bk : ∀ σ' H' y', Wd C F σ' y' H' → Go F σ y H σ' y' H' → e.bk y' → E.bk σ' H'
  ct : ∀ σ' H' y', Wd C F σ' y' H' → Go F σ y H σ' y' H' → e.ct y' → E.ct σ' H'
def wS (ts : TS) (y : S) (e : En) : Prop := ∀ (F : Fr) σ H (E : Ends), F.st = true → Wd C F σ y H → EnOk C F σ y H e E → ts E σ H
end
end Tq

set_option maxRecDepth 100000
set_option maxHeartbeats 2000000
namespace Tq
open PySem PySem.Spec PyProof.Rows L2
/-! ### storing in a slot -/
section
variable {C : Ct} {F : Fr} {σ : St} {y y' : S} {H H' : Hp}
theorem isO_set {i j : Nat} {u : Option Y} (h : isO (y.set i u) j = true) : (j = i ∧ i < y.length ∧ ∃ z, u = some z ∧ z.o = true) ∨ (j ≠ i ∧ isO y j = true) ∨ (j = i ∧ y.length ≤ i) := by
  by_cases e : j = i
  · by_cases hl : i < y.length
    · refine .inl ⟨e, hl, ?_⟩
      subst e
      unfold isO at h
      rw [List.getElem?_set_self hl] at h
      cases u with
      | none => cases h
      | some z => exact ⟨z, rfl, h⟩
    · exact .inr (.inr ⟨e, by omega⟩)
  · refine .inr (.inl ⟨e, ?_⟩)
    unfold isO at h ⊢
    rw [List.getElem?_set_ne (Ne.symm e)] at h
    exact h
theorem isO_lt {i : Nat} (h : isO y i = true) : i < y.length := by
  unfold isO at h
  cases q : y[i]? with
  | none => rw [q] at h; cases h
  | some o => exact (List.getElem?_eq_some_iff.mp q).1
theorem isO_set_d {i j : Nat} {d : D} (h : isO (y.set i (some (.d d))) j = true) : j ≠ i ∧ isO y j = true := by
  rcases isO_set h with ⟨_, _, z, e, o⟩ | h | ⟨e, l⟩
  · cases e; cases o
  · exact h
  · have := isO_lt h; rw [List.length_set] at this; omega
theorem Mv_set_d {i : Nat} {v : Option V} {d : D} {a : Addr} (h : Mv F (σ.set i v) (y.set i (some (.d d))) a) : Mv F σ y a := by
  rcases h with h | ⟨j, hj, e⟩
  · exact .inl h
  · obtain ⟨n, o⟩ := isO_set_d hj
    rw [List.getElem?_set_ne (Ne.symm n)] at e
    exact .inr ⟨j, o, e⟩
theorem go_set_d {i : Nat} {v : Option V} {d : D} : Go F σ y H (σ.set i v) (y.set i (some (.d d))) H := fun a o n e => ⟨fun z => n (Mv_set_d z), e⟩
theorem Wd.set_d (w : Wd C F σ y H) {i : Nat} {v : V} {d : D} (hp : i ≠ 0 ∨ C.pp = false) (r : Rp C.K (Mv F σ y) H v d) : Wd C F (σ.set i (some v)) (y.set i (some (.d d))) H := by
  have g : Go F σ y H (σ.set i (some v)) (y.set i (some (.d d))) H := go_set_d
  refine ⟨w.keep, w.live0, w.live, by rw [List.length_set, List.length_set]; exact w.len, fun j z e => ?_, fun j k a h1 h2 e1 e2 => ?_, fun a h => ?_, fun e => ?_, w.sm, fun st j a h e s => ?_⟩
  · by_cases n : j = i
    · subst n
      have hl : j < y.length := by
        have := (List.getElem?_eq_some_iff.mp e).1
        rw [List.length_set] at this; exact this
      rw [List.getElem?_set_self hl] at e
      cases e
      refine ⟨v, ?_, r.go g⟩
      rw [List.getElem?_set_self (by rw [w.len]; exact hl)]
    · rw [List.getElem?_set_ne (Ne.symm n)] at e ⊢
      have s := w.slot j z e
      cases z with
      | d d => obtain ⟨x, h1, h2⟩ := s; exact ⟨x, h1, h2.go g⟩
      | pu n => exact s
      | own ds => obtain ⟨a, xs, h1, h2, h3⟩ := s; exact ⟨a, xs, h1, h2, h3.go g⟩
  · obtain ⟨n1, o1⟩ := isO_set_d h1
    obtain ⟨n2, o2⟩ := isO_set_d h2
    rw [List.getElem?_set_ne (Ne.symm n1)] at e1
    rw [List.getElem?_set_ne (Ne.symm n2)] at e2
    exact w.dist j k a o1 o2 e1 e2
  · obtain ⟨j, hj, e⟩ := h
    obtain ⟨n1, o1⟩ := isO_set_d hj
    rw [List.getElem?_set_ne (Ne.symm n1)] at e
    exact w.frsh a ⟨j, o1, e⟩
  · rcases hp with hp | hp
    · rw [List.getElem?_set_ne hp]; exact w.pin e
    · rw [hp] at e; cases e
  · obtain ⟨n1, o1⟩ := isO_set_d h
    rw [List.getElem?_set_ne (Ne.symm n1)] at e
    exact w.nb st j a o1 e s
end

/-! ### expressions -/
section
variable {C : Ct} {y : S} {ta tb tc te : TE} {Q : Z → S → Prop}
theorem wE_var {i : Nat} {d : D} (h : y[i]? = some (some (.d d))) (q : Q (.d d) y) : wE C (tVar i) y Q := fun F σ H K w k => by
  obtain ⟨x, h1, h2⟩ := w.slot i _ h
  exact ⟨x, h1, k x H (.d d) y w GoH.refl (Sh.refl y) h2 q⟩
theorem wE_ptr {i : Nat} (h : isO y i = true) (q : Q (.ptr i) y) : wE C (tVar i) y Q := fun F σ H K w k => by
  unfold isO at h
  cases e : y[i]? with
  | none => rw [e] at h; cases h
  | some o =>
    cases o with
    | none => rw [e] at h; cases h
    | some z =>
      have hO : isO y i = true := by unfold isO; rw [e]; rw [e] at h; exact h
      have s := w.slot i z e
      cases z with
      | d d => rw [e] at h; cases h
      | pu n => obtain ⟨a, h1, _⟩ := s; exact ⟨_, h1, k _ H (.ptr i) y w GoH.refl (Sh.refl y) ⟨hO, h1⟩ q⟩
      | own ds => obtain ⟨a, xs, h1, _⟩ := s; exact ⟨_, h1, k _ H (.ptr i) y w GoH.refl (Sh.refl y) ⟨hO, h1⟩ q⟩
theorem wE_sc {v : V} {d : D} (s : Sc v d) (q : Q (.d d) y) : wE C (tC v) y Q := fun F σ H K w k => k v H (.d d) y w GoH.refl (Sh.refl y) s.rp q
theorem wE_int {i : Int} (q : Q (.d (.int i)) y) : wE C (tC (.int i)) y Q := wE_sc (.int i) q
theorem wE_str {i : Str} (q : Q (.d (.str i)) y) : wE C (tC (.str i)) y Q := wE_sc (.str i) q
theorem wE_bl {i : Bool} (q : Q (.d (.bool i)) y) : wE C (tC (.bl i)) y Q := wE_sc (.bl i) q
theorem wE_non (q : Q (.d .none) y) : wE C (tC .non) y Q := wE_sc .non q
theorem wE_mono {R : Z → S → Prop} (h : wE C te y Q) (q : ∀ z y', Q z y' → R z y') : wE C te y R := fun F σ H K w k => h F σ H K w fun v H' z y' a b c d e => k v H' z y' a b c d (q z y' e)
/-- a fact over the data, a new heap that only grows -/
def OpD (K : Fg) (r : R2) (res : D → D → D → Prop) : Prop := ∀ (M : Addr → Prop) (H : Hp) (x y : V) (d e g : D) (Q : VK), (∀ a, H a = none → ¬ M a) → Rp K M H x d → Rp K M H y e → res d e g →
  (∀ v H', (∀ a o, H a = some o → H' a = some o) → Rp K M H' v g → Q v H') → r x y H Q
theorem wE_op {r : R2} {res : D → D → D → Prop} (h : OpD C.K r res) (w : wE C ta y fun z y1 => wE C tb y1 fun z' y2 => ∃ d e g, z = .d d ∧ z' = .d e ∧ res d e g ∧ Q (.d g) y2) : wE C (tOp r ta tb) y Q := by
  intro F σ H K wd k
  refine w F σ H _ wd fun x H1 z y1 w1 g1 s1 r1 q1 => ?_
  refine q1 F σ H1 _ w1 fun x2 H2 z' y2 w2 g2 s2 r2 q2 => ?_
  obtain ⟨d, e, g, rfl, rfl, hres, hq⟩ := q2
  refine h (Mv F σ y2) H2 x x2 d e g K (fun a => w2.new) (Rp.go g2 r1) r2 hres fun v H3 gr rv => ?_
  exact k v H3 (.d g) y2 (w2.grow gr) ((g1.trans g2).trans (go_grow gr)) (s1.trans s2) rv hq
theorem opD_I {C : Int → Int → Prop} {g : Int → Int → V} {gd : Int → Int → D} (hg : ∀ i j, Sc (g i j) (gd i j)) {K : Fg} : OpD K (rI C g) (fun d e r => ∃ i j, d = .int i ∧ e = .int j ∧ C i j ∧ r = gd i j) := by
  rintro M H x y d e r Q _ rx ry ⟨i, j, rfl, rfl, c, rfl⟩ k
  exact ⟨i, j, rp_int rx, rp_int ry, c, k _ H (fun _ _ e => e) (hg i j).rp⟩
theorem opD_I0 {g : Int → Int → V} {gd : Int → Int → D} (hg : ∀ i j, Sc (g i j) (gd i j)) {K : Fg} : OpD K (rI0 g) (fun d e r => ∃ i j, d = .int i ∧ e = .int j ∧ r = gd i j) := by
  rintro M H x y d e r Q _ rx ry ⟨i, j, rfl, rfl, rfl⟩ k
  exact ⟨i, j, rp_int rx, rp_int ry, k _ H (fun _ _ e => e) (hg i j).rp⟩
theorem wE_I {P : Int → Int → Prop} {g : Int → Int → V} (gd : Int → Int → D) (hg : ∀ i j, Sc (g i j) (gd i j)) (w : wE C ta y fun z y1 => wE C tb y1 fun z' y2 => ∃ i j, z = .d (.int i) ∧ z' = .d (.int j) ∧ P i j ∧ Q (.d (gd i j)) y2) : wE C (tOp (rI P g) ta tb) y Q :=
  wE_op (opD_I hg) (wE_mono w fun z y1 h => wE_mono h fun z' y2 ⟨i, j, e1, e2, c, q⟩ => ⟨_, _, _, e1, e2, ⟨i, j, rfl, rfl, c, rfl⟩, q⟩)
theorem wE_I0 {g : Int → Int → V} (gd : Int → Int → D) (hg : ∀ i j, Sc (g i j) (gd i j)) (w : wE C ta y fun z y1 => wE C tb y1 fun z' y2 => ∃ i j, z = .d (.int i) ∧ z' = .d (.int j) ∧ Q (.d (gd i j)) y2) : wE C (tOp (rI0 g) ta tb) y Q :=
  wE_op (opD_I0 hg) (wE_mono w fun z y1 h => wE_mono h fun z' y2 ⟨i, j, e1, e2, q⟩ => ⟨_, _, _, e1, e2, ⟨i, j, rfl, rfl, rfl⟩, q⟩)
theorem wE_add (w : wE C ta y fun z y1 => wE C tb y1 fun z' y2 => ∃ i j, z = .d (.int i) ∧ z' = .d (.int j) ∧ Q (.d (.int (i + j))) y2) : wE C (tOp (rI0 fun i j => .int (i + j)) ta tb) y Q := wE_I0 _ (fun _ _ => .int _) w
theorem wE_sub (w : wE C ta y fun z y1 => wE C tb y1 fun z' y2 => ∃ i j, z = .d (.int i) ∧ z' = .d (.int j) ∧ Q (.d (.int (i - j))) y2) : wE C (tOp (rI0 fun i j => .int (i - j)) ta tb) y Q := wE_I0 _ (fun _ _ => .int _) w
theorem wE_lt (w : wE C ta y fun z y1 => wE C tb y1 fun z' y2 => ∃ i j, z = .d (.int i) ∧ z' = .d (.int j) ∧ Q (.d (.bool (decide (i < j)))) y2) : wE C (tOp (rI0 fun i j => .bl (decide (i < j))) ta tb) y Q := wE_I0 (fun i j => .bool (decide (i < j))) (fun _ _ => .bl _) w
theorem wE_le (w : wE C ta y fun z y1 => wE C tb y1 fun z' y2 => ∃ i j, z = .d (.int i) ∧ z' = .d (.int j) ∧ Q (.d (.bool (decide (i ≤ j)))) y2) : wE C (tOp (rI0 fun i j => .bl (decide (i ≤ j))) ta tb) y Q := wE_I0 (fun i j => .bool (decide (i ≤ j))) (fun _ _ => .bl _) w
theorem wE_gt (w : wE C ta y fun z y1 => wE C tb y1 fun z' y2 => ∃ i j, z = .d (.int i) ∧ z' = .d (.int j) ∧ Q (.d (.bool (decide (j < i)))) y2) : wE C (tOp (rI0 fun i j => .bl (decide (j < i))) ta tb) y Q := wE_I0 (fun i j => .bool (decide (j < i))) (fun _ _ => .bl _) w
theorem wE_ge (w : wE C ta y fun z y1 => wE C tb y1 fun z' y2 => ∃ i j, z = .d (.int i) ∧ z' = .d (.int j) ∧ Q (.d (.bool (decide (j ≤ i)))) y2) : wE C (tOp (rI0 fun i j => .bl (decide (j ≤ i))) ta tb) y Q := wE_I0 (fun i j => .bool (decide (j ≤ i))) (fun _ _ => .bl _) w
theorem wE_mulW (w : wE C ta y fun z y1 => wE C tb y1 fun z' y2 => ∃ i j, z = .d (.int i) ∧ z' = .d (.int j) ∧ CMulW i j ∧ Q (.d (.int (i * j))) y2) : wE C (tOp (rI CMulW fun i j => .int (i * j)) ta tb) y Q := wE_I _ (fun _ _ => .int _) w
theorem wE_mul (w : wE C ta y fun z y1 => wE C tb y1 fun z' y2 => ∃ i j, z = .d (.int i) ∧ z' = .d (.int j) ∧ CMul i j ∧ Q (.d (.int (i * j))) y2) : wE C (tOp (rI CMul fun i j => .int (i * j)) ta tb) y Q := wE_I _ (fun _ _ => .int _) w
theorem wE_mod (w : wE C ta y fun z y1 => wE C tb y1 fun z' y2 => ∃ i j, z = .d (.int i) ∧ z' = .d (.int j) ∧ 0 < j ∧ Q (.d (.int (i % j))) y2) : wE C (tOp (rI (fun _ j => 0 < j) fun i j => .int (i % j)) ta tb) y Q := wE_I _ (fun _ _ => .int _) w
theorem wE_pow (w : wE C ta y fun z y1 => wE C tb y1 fun z' y2 => ∃ i j, z = .d (.int i) ∧ z' = .d (.int j) ∧ CPow i j ∧ Q (.d (.int (i ^ j.toNat))) y2) : wE C (tOp (rI CPow fun i j => .int (i ^ j.toNat)) ta tb) y Q := wE_I _ (fun _ _ => .int _) w
theorem wE_fdivW (w : wE C ta y fun z y1 => wE C tb y1 fun z' y2 => ∃ i j, z = .d (.int i) ∧ z' = .d (.int j) ∧ CDivW i j ∧ Q (.d (.int (i / j))) y2) : wE C (tOp (rI CDivW fun i j => .int (i / j)) ta tb) y Q := wE_I _ (fun _ _ => .int _) w
theorem wE_neg (w : wE C ta y fun z y1 => ∃ i, z = .d (.int i) ∧ Q (.d (.int (-i))) y1) : wE C (tUn (rU fun i => .int (-i)) ta) y Q := by
  intro F σ H K wd k
  refine w F σ H _ wd fun x H1 z y1 w1 g1 s1 r1 q1 => ?_
  obtain ⟨i, rfl, q⟩ := q1
  exact ⟨i, rp_int r1, k _ H1 (.d (.int (-i))) y1 w1 g1 s1 (.int _) q⟩
theorem wE_S0 {α : Type} {g : Str → Str → V} (gd : Str → Str → D) (hg : ∀ i j, Sc (g i j) (gd i j)) (w : wE C ta y fun z y1 => wE C tb y1 fun z' y2 => ∃ i j, z = .d (.str i) ∧ z' = .d (.str j) ∧ Q (.d (gd i j)) y2) : wE C (tOp (fun x y H Q => ∃ i j, x = .str i ∧ y = .str j ∧ Q (g i j) H) ta tb) y Q := by
  refine wE_op (res := fun d e r => ∃ i j, d = .str i ∧ e = .str j ∧ r = gd i j) ?_ (wE_mono w fun z y1 h => wE_mono h fun z' y2 ⟨i, j, e1, e2, q⟩ => ⟨_, _, _, e1, e2, ⟨i, j, rfl, rfl, rfl⟩, q⟩)
  rintro M H x y d e r Q _ rx ry ⟨i, j, rfl, rfl, rfl⟩ k
  exact ⟨i, j, rp_str rx, rp_str ry, k _ H (fun _ _ e => e) (hg i j).rp⟩
theorem wE_ltS (w : wE C ta y fun z y1 => wE C tb y1 fun z' y2 => ∃ i j, z = .d (.str i) ∧ z' = .d (.str j) ∧ Q (.d (.bool (decide (i.cps.toList < j.cps.toList)))) y2) :
    wE C (tOp (fun x y H Q => ∃ i j, x = .str i ∧ y = .str j ∧ Q (.bl (decide (i.cps.toList < j.cps.toList))) H) ta tb) y Q := wE_S0 (α := Unit) (fun i j => .bool (decide (i.cps.toList < j.cps.toList))) (fun _ _ => .bl _) w
theorem wE_leS (w : wE C ta y fun z y1 => wE C tb y1 fun z' y2 => ∃ i j, z = .d (.str i) ∧ z' = .d (.str j) ∧ Q (.d (.bool (!decide (j.cps.toList < i.cps.toList)))) y2) :
    wE C (tOp (fun x y H Q => ∃ i j, x = .str i ∧ y = .str j ∧ Q (.bl (!decide (j.cps.toList < i.cps.toList))) H) ta tb) y Q := wE_S0 (α := Unit) (fun i j => .bool (!decide (j.cps.toList < i.cps.toList))) (fun _ _ => .bl _) w
theorem wE_addS (w : wE C ta y fun z y1 => wE C tb y1 fun z' y2 => ∃ i j, z = .d (.str i) ∧ z' = .d (.str j) ∧ i.length + j.length ≤ sizeLine ∧ Q (.d (.str (i ++ j))) y2) :
    wE C (tOp (fun x y H Q => ∃ i j, x = .str i ∧ y = .str j ∧ i.length + j.length ≤ sizeLine ∧ Q (.str (i ++ j)) H) ta tb) y Q := by
  refine wE_op (res := fun d e r => ∃ i j, d = .str i ∧ e = .str j ∧ i.length + j.length ≤ sizeLine ∧ r = .str (i ++ j)) ?_ (wE_mono w fun z y1 h => wE_mono h fun z' y2 ⟨i, j, e1, e2, c, q⟩ => ⟨_, _, _, e1, e2, ⟨i, j, rfl, rfl, c, rfl⟩, q⟩)
  rintro M H x y d e r Q _ rx ry ⟨i, j, rfl, rfl, c, rfl⟩ k
  exact ⟨i, j, rp_str rx, rp_str ry, c, k _ H (fun _ _ e => e) (.str _)⟩
theorem wE_inSign (w : wE C ta y fun z y1 => wE C tb y1 fun z' y2 => ∃ (c : Nat) (j : Str), z = .d (.str ⟨#[c]⟩) ∧ z' = .d (.str j) ∧ Q (.d (.bool (decide (c ∈ j.cps.toList)))) y2) :
    wE C (tOp (fun x y H Q => ∃ (c : Nat) (z : Str), x = .str ⟨#[c]⟩ ∧ y = .str z ∧ Q (.bl (decide (c ∈ z.cps.toList))) H) ta tb) y Q := by
  refine wE_op (res := fun d e r => ∃ (c : Nat) (j : Str), d = .str ⟨#[c]⟩ ∧ e = .str j ∧ r = .bool (decide (c ∈ j.cps.toList))) ?_ (wE_mono w fun z y1 h => wE_mono h fun z' y2 ⟨i, j, e1, e2, q⟩ => ⟨_, _, _, e1, e2, ⟨i, j, rfl, rfl, rfl⟩, q⟩)
  rintro M H x y d e r Q _ rx ry ⟨i, j, rfl, rfl, rfl⟩ k
  exact ⟨i, j, rp_str rx, rp_str ry, k _ H (fun _ _ e => e) (.bl _)⟩
/-- data without dicts, for == -/
theorem Rp.dp {K : Fg} {M : Addr → Prop} {H : Hp} {v : V} {d : D} (r : Rp K M H v d) : d.hasDict = false → Dp K H v d :=
  Rp.rec (motive_1 := fun v d _ => d.hasDict = false → Dp K H v d) (motive_2 := fun vs ds _ => PyData.hasDictAll ds = false → DpAll K H vs ds) (motive_3 := fun _ _ _ => True)
    (fun _ => .non) (fun b _ => .bl b) (fun b _ => .int b) (fun b _ => .str b)
    (fun h _ i e => .lst h.sq (i (by simpa only [PyData.hasDict] using e))) (fun h _ i e => .tup h.sq (i (by simpa only [PyData.hasDict] using e)))
    (fun _ _ _ _ e => by simp [PyData.hasDict] at e)
    (fun _ => .nil) (fun _ _ a b e => by
      simp only [PyData.hasDictAll, Bool.or_eq_false_iff] at e
      exact .cons (a e.1) (b e.2)) trivial (fun _ _ _ _ => trivial) r
theorem canLay_noDict {d : D} (h : SeqAt.shaped d = true) : d.hasDict = false := PyData.hasDict_of_canLay d (SeqAt.canLay_of_shaped h)
theorem wE_eqD (w : wE C ta y fun z y1 => wE C tb y1 fun z' y2 => ∃ d e, z = .d d ∧ z' = .d e ∧ SeqAt.shaped d = true ∧ SeqAt.shaped e = true ∧ Q (.d (.bool (PyData.eqv d e))) y2) : wE C (tOp (rEqD C.K) ta tb) y Q := by
  refine wE_op (res := fun d e r => SeqAt.shaped d = true ∧ SeqAt.shaped e = true ∧ r = .bool (PyData.eqv d e)) ?_ (wE_mono w fun z y1 h => wE_mono h fun z' y2 ⟨d, e, e1, e2, s1, s2, q⟩ => ⟨_, _, _, e1, e2, ⟨s1, s2, rfl⟩, q⟩)
  rintro M H x y d e r Q _ rx ry ⟨s1, s2, rfl⟩ k
  exact ⟨d, e, rx.dp (canLay_noDict s1), ry.dp (canLay_noDict s2), s1, s2, k _ H (fun _ _ e => e) (.bl _)⟩
theorem wE_neD (w : wE C ta y fun z y1 => wE C tb y1 fun z' y2 => ∃ d e, z = .d d ∧ z' = .d e ∧ SeqAt.shaped d = true ∧ SeqAt.shaped e = true ∧ Q (.d (.bool (!PyData.eqv d e))) y2) : wE C (tOp (rNeD C.K) ta tb) y Q := by
  refine wE_op (res := fun d e r => SeqAt.shaped d = true ∧ SeqAt.shaped e = true ∧ r = .bool (!PyData.eqv d e)) ?_ (wE_mono w fun z y1 h => wE_mono h fun z' y2 ⟨d, e, e1, e2, s1, s2, q⟩ => ⟨_, _, _, e1, e2, ⟨s1, s2, rfl⟩, q⟩)
  rintro M H x y d e r Q _ rx ry ⟨s1, s2, rfl⟩ k
  exact ⟨d, e, rx.dp (canLay_noDict s1), ry.dp (canLay_noDict s2), s1, s2, k _ H (fun _ _ e => e) (.bl _)⟩
theorem wE_isN (w : wE C ta y fun z y1 => wE C tb y1 fun z' y2 => ∃ d, z = .d d ∧ z' = .d .none ∧ Q (.d (.bool (match d with | .none => true | _ => false))) y2) :
    wE C (tOp (fun x y H Q => y = .non ∧ Q (.bl (decide (x = .non))) H) ta tb) y Q := by
  refine wE_op (res := fun d e r => e = .none ∧ r = .bool (match d with | .none => true | _ => false)) ?_ (wE_mono w fun z y1 h => wE_mono h fun z' y2 ⟨d, e1, e2, q⟩ => ⟨_, _, _, e1, e2, ⟨rfl, rfl⟩, q⟩)
  rintro M H x y d e r Q _ rx ry ⟨rfl, rfl⟩ k
  refine ⟨rp_non ry, k _ H (fun _ _ e => e) ?_⟩
  cases rx <;> exact .bl _
theorem wE_notN (w : wE C ta y fun z y1 => wE C tb y1 fun z' y2 => ∃ d, z = .d d ∧ z' = .d .none ∧ Q (.d (.bool (match d with | .none => false | _ => true))) y2) :
    wE C (tOp (fun x y H Q => y = .non ∧ Q (.bl (!decide (x = .non))) H) ta tb) y Q := by
  refine wE_op (res := fun d e r => e = .none ∧ r = .bool (match d with | .none => false | _ => true)) ?_ (wE_mono w fun z y1 h => wE_mono h fun z' y2 ⟨d, e1, e2, q⟩ => ⟨_, _, _, e1, e2, ⟨rfl, rfl⟩, q⟩)
  rintro M H x y d e r Q _ rx ry ⟨rfl, rfl⟩ k
  refine ⟨rp_non ry, k _ H (fun _ _ e => e) ?_⟩
  cases rx <;> exact .bl _
/-! items -/
def dIx (d : D) (i : Int) : Option D := match d with
  | .list xs => atI xs i
  | .tuple xs => atI xs i
  | .str z => if z.length ≤ sizeLine then (atI z.cps.toList i).map fun c => .str ⟨#[c]⟩ else none
  | _ => none
theorem atI_rp {K : Fg} {M : Addr → Prop} {H : Hp} {vs : List V} {ds : List D} {i : Int} {d : D} (r : RpA K M H vs ds) (h : atI ds i = some d) : ∃ v, atI vs i = some v ∧ Rp K M H v d := by
  unfold atI at h ⊢
  rw [r.len]
  cases e : ixN ds.length i with
  | none => rw [e] at h; cases h
  | some j =>
    rw [e] at h
    exact r.get (i := j) h
theorem wE_ix (w : wE C ta y fun z y1 => wE C tb y1 fun z' y2 => ∃ d i g, z = .d d ∧ z' = .d (.int i) ∧ dIx d i = some g ∧ Q (.d g) y2) : wE C (tOp (rIx C.K) ta tb) y Q := by
  refine wE_op (res := fun d e r => ∃ i, e = .int i ∧ dIx d i = some r) ?_ (wE_mono w fun z y1 h => wE_mono h fun z' y2 ⟨d, i, g, e1, e2, s, q⟩ => ⟨_, _, _, e1, e2, ⟨i, rfl, s⟩, q⟩)
  rintro M H x y d e r Q _ rx ry ⟨i, rfl, h⟩ k
  have ey := rp_int ry
  cases rx with
  | non => cases h
  | bl b => cases h
  | int b => cases h
  | dic _ _ _ => cases h
  | str z =>
    simp only [dIx] at h
    by_cases hz : z.length ≤ sizeLine
    · rw [if_pos hz] at h
      cases q : atI z.cps.toList i with
      | none => rw [q] at h; cases h
      | some c =>
        rw [q] at h; cases h
        exact .inr (.inr ⟨z, i, c, rfl, ey, hz, q, k _ H (fun _ _ e => e) (.str _)⟩)
    · rw [if_neg hz] at h; cases h
  | lst h1 h2 =>
    obtain ⟨v, e, rv⟩ := atI_rp h2 h
    exact .inl ⟨_, _, i, v, rfl, ey, h1.sq, e, k _ H (fun _ _ e => e) rv⟩
  | tup h1 h2 =>
    obtain ⟨v, e, rv⟩ := atI_rp h2 h
    exact .inr (.inl ⟨_, _, i, v, rfl, ey, h1.sq, e, k _ H (fun _ _ e => e) rv⟩)
end
end Tq

set_option maxRecDepth 100000
set_option maxHeartbeats 2000000
namespace Tq
open PySem PySem.Spec PyProof.Rows L2
/-! ### further operators over HandS -/
section
variable {X : Cx}
/-- list + list, whatever the lists are -/
def rCatG (K : Fg) : R2 := fun x y H Q => ∃ l b xs zs, x = .ref l ∧ y = .ref b ∧ SqL K H l xs ∧ SqL K H b zs ∧ xs.length + zs.length ≤ sizeLine ∧ ∀ p, H p = none → Q (.ref p) (upd H p (.lst (xs ++ zs)))
/-- // by any number but nought, below 2 ^ 9000 in size -/
def CDivZ (_ j : Int) : Prop := j ≠ 0 ∧ j.natAbs.log2 < 9000
theorem op_fdivZ : OpR X (binaryOp .FloorDiv) (rI CDivZ fun i j => .int (i.fdiv j)) := opI fun i j _ _ _ _ _ hc q => floordiv_int hc.1 q (.inl (PyProof.noPylong_of_log2 hc.2))
end
/-! ### repr -/
def scD : D → Bool
  | .none | .bool _ | .int _ | .str _ => true
  | _ => false
/-- no dict but at the top, and there with plain values -/
def dsm (d : D) : Bool := match d with
  | .dict kvs => kvs.all fun kv => scD kv.2
  | d => !d.hasDict
abbrev M0 : Addr → Prop := fun _ => False
theorem Rp.any {K : Fg} {M : Addr → Prop} {H : Hp} {v : V} {d : D} (r : Rp K M H v d) : Rp K M0 H v d := r.go fun a o _ e => ⟨fun z => z, e⟩
section
variable {X : Cx} {pins : List (Addr × Obj)} {σ : St} {H : Hp} {s : Shared}
theorem rpk_reads : ∀ {kvs : List (Key × V)} {ds : List (D × D)} {vs : List (Key × Value)} {es : List DictEntry}, RpK X.K M0 H kvs ds → ds.all (fun kv => scD kv.2) = true → KV kvs vs → Pairs (mixKind X.prog X.w) es vs →
    ReadsAll s.heap (es.map (·.key)) (ds.map (·.1)) [] ∧ ReadsAll s.heap (es.map (·.val)) (ds.map (·.2)) []
  | _, _, _, _, .nil, _, kv, pr => by
    cases kv
    cases pr
    exact ⟨.nil, .nil⟩
  | _, _, _, _, @RpK.cons _ _ _ k v d _ _ a b, hs, kv, pr => by
    cases kv with
    | @cons _ kw _ _ r1 r2 =>
      cases pr with
      | @cons e _ es _ p1 p2 p3 =>
        rw [List.all_cons, Bool.and_eq_true] at hs
        obtain ⟨q1, q2⟩ := rpk_reads b hs.2 r2 p3
        have e1 : k = kw.1 := r1.1
        have rv : RelV v kw.2 := r1.2
        constructor
        · have rk : Reads s.heap e.key (kD k) [] := by
            rw [← e1, mixKind_is] at p1
            rcases keyIs_shape p1 with ⟨i, t, z1, z2⟩ | ⟨x, t, z1, z2⟩
            · rw [z1, z2]; exact .int i t
            · rw [z1, z2]; exact .str x t
          exact ReadsAll.cons (as := []) (bs := []) rk q1
        · have rw' : Reads s.heap e.val d [] := by
            rw [p2]
            cases a with
            | non => rw [show kw.2 = Value.none from rv]; exact .none
            | bl b => rw [show kw.2 = Value.bool b from rv]; exact .bool b
            | int b => obtain ⟨t, z⟩ := (show ∃ t, kw.2 = Value.int b t from rv); rw [z]; exact .int b t
            | str b => obtain ⟨t, z⟩ := (show ∃ t, kw.2 = Value.str b t from rv); rw [z]; exact .str b t
            | lst _ _ => cases hs.1
            | tup _ _ => cases hs.1
            | dic _ _ _ => cases hs.1
          exact ReadsAll.cons (as := []) (bs := []) rw' q2
theorem Rp.reads (I : Inv X pins σ H s) {v : V} {u : Value} {d : D} (r : Rp X.K M0 H v d) (rv : RelV v u) (hs : dsm d = true) : ∃ as, Reads s.heap u d as ∧ (d.hasDict = true → sysModules ∉ as) := by
  by_cases hd : d.hasDict = false
  · obtain ⟨as, q⟩ := Dp.reads I d v u (r.dp hd) rv
    exact ⟨as, q, fun z => by rw [hd] at z; cases z⟩
  · cases r with
    | non => exact absurd rfl hd
    | bl _ => exact absurd rfl hd
    | int _ => exact absurd rfl hd
    | str _ => exact absurd rfl hd
    | lst _ _ => simp only [dsm, Bool.not_eq_true'] at hs; exact absurd hs hd
    | tup _ _ => simp only [dsm, Bool.not_eq_true'] at hs; exact absurd hs hd
    | @dic a kvs ds _ h k =>
      cases (show u = Value.ref a from rv)
      obtain ⟨_, nsm, vs, kv, o, es, ep, ho, ex, hdt, _, pr, _⟩ := (show ObjOk X.prog X.w H s.heap a (.dK kvs) from I.hok a _ h)
      obtain ⟨q1, q2⟩ := rpk_reads (X := X) (s := s) k hs kv pr
      refine ⟨_, Reads.dict (as := []) (bs := []) ho ex.1 hdt q1 q2, fun _ z => ?_⟩
      have z' : sysModules = a := by simpa using z
      rw [z'] at nsm
      simp at nsm
def rRepr (K : Fg) : List V → Hp → VK → Prop := fun xs H Q => ∃ x d, xs = [x] ∧ Rp K M0 H x d ∧ dsm d = true ∧ d.showable = true ∧ d.depth ≤ 60 ∧ d.shown.length ≤ sizeLine ∧ Q (.str d.shown) H
theorem call_reprD (hg : X.A.guards = some []) (hu : X.A.units + 64 < cLine) : CallR X (.builtin "repr") (rRepr X.K) := by
  intro pins s σ H xs us Q I r h
  obtain ⟨x, d, rfl, rx, hm, hs, hd, hz, q⟩ := h
  obtain ⟨u, rfl, rv⟩ := vals1 r
  obtain ⟨as, rd, hsm⟩ := rx.reads I rv hm
  have fin : ∀ tk t h', (∀ b o, s.heap.get? b = some o → h'.get? b = some o) → EP X pins σ Q (.str d.shown t) { s with heap := h', toks := tk } := fun tk t h' k => ⟨.str d.shown, H, I.kept (t' := tk) k, ⟨t, rfl⟩, q⟩
  cases rx with
  | non =>
    cases (show u = Value.none from rv)
    exact PySem.P.repr_of_none (by have := fin (s.toks + 1) s.toks s.heap (fun _ _ e => e); simpa only [PyData.shown] using this)
  | bl b =>
    cases (show u = Value.bool b from rv)
    exact PySem.P.repr_of_bool (by have := fin (s.toks + 1) s.toks s.heap (fun _ _ e => e); simpa only [PyData.shown] using this)
  | int b =>
    obtain ⟨t, e⟩ := (show ∃ t, u = Value.int b t from rv)
    cases e
    exact PySem.P.repr_of_int (by simpa only [PyData.showable, decide_eq_true_eq] using hs) (by have := fin (s.toks + 1) s.toks s.heap (fun _ _ e => e); simpa only [PyData.shown] using this)
  | str b =>
    obtain ⟨t, e⟩ := (show ∃ t, u = Value.str b t from rv)
    cases e
    exact PySem.P.repr_of_str (by have := fin (s.toks + 1) s.toks s.heap (fun _ _ e => e); simpa only [PyData.shown] using this) (by simpa only [PyData.shown] using hz)
  | @lst a _ _ _ _ =>
    cases (show u = Value.ref a from rv)
    exact repr_of_reads' rd hs hsm hg (by omega) (fun _ _ e => e) (fun h' t tk k => fin tk t h' k) hz
  | @tup a _ _ _ _ =>
    cases (show u = Value.ref a from rv)
    exact repr_of_reads' rd hs hsm hg (by omega) (fun _ _ e => e) (fun h' t tk k => fin tk t h' k) hz
  | @dic a _ _ _ _ _ =>
    cases (show u = Value.ref a from rv)
    exact repr_of_reads' rd hs hsm hg (by omega) (fun _ _ e => e) (fun h' t tk k => fin tk t h' k) hz
end
/-! ### promises where nothing is being shown: as FnOk, with the guards told -/
structure FnG (P : Program) (w : World) (K : Fg) (mg : Str → Option Value) (base : Heap) (CX : CXT) (k : Nat) (f : Addr) (fd : FuncData) (ps : List Str) (sp : Sp) : Prop where
  len : ∀ vs H Q E, sp vs H Q E → vs.length = ps.length
  run : ∀ (A : Around) (outer : List Env) (s : Shared) (H : Hp) (args : Args) (us : List Value) (vs : List V) (Q : VK) (E : XK), Room k A → A.guards = some [] →
    Env0 P w K mg base A outer s H → BindsTo s fd args (ps.zip us) → Vals vs us → sp vs H Q E → codeAny (model P w) A (.call (.ref f) args) (CR CX outer P w H s Q E) s
theorem FnG.of {P : Program} {w : World} {K : Fg} {mg : Str → Option Value} {base : Heap} {CX : CXT} {k : Nat} {f : Addr} {fd : FuncData} {ps : List Str} {sp : Sp} (F : FnOk P w K mg base CX k f fd ps sp) :
    FnG P w K mg base CX k f fd ps sp := ⟨F.len, fun A outer s H args us vs Q E hr _ => F.run A outer s H args us vs Q E hr⟩
theorem FnG.mono {P : Program} {w : World} {K : Fg} {mg : Str → Option Value} {base : Heap} {CX : CXT} {j k : Nat} {f : Addr} {fd : FuncData} {ps : List Str} {sp : Sp} (F : FnG P w K mg base CX j f fd ps sp) (h : j ≤ k) :
    FnG P w K mg base CX k f fd ps sp := ⟨F.len, fun A outer s H args us vs Q E hr => F.run A outer s H args us vs Q E (hr.mono h)⟩
section
variable {X : Cx} {CX : CXT} {k : Nat} {f : Addr} {fd : FuncData} {ps : List Str} {sp : Sp} {dvs : List V} {ds : List Value} {E : XK} {x : Str} {p pos : Pos} {e : Expr} {es : List Expr} {t : TA}
theorem run_fnG {pins : List (Addr × Obj)} {σ : St} {H : Hp} {s : Shared} {Q : VK} {us : List Value} {vs : List V} (F : FnG X.prog X.w X.K X.mg X.base CX k f fd ps sp) (hr : Room k X.A) (hg : X.A.guards = some []) (hb : Binds X.K fd ps ds) (hd : Vals dvs ds)
    (hx : Passes CX X E) (I : Inv X pins σ H s) (r : Vals vs us) (h : sp (vs ++ dvs) H Q E) : wpAny (model X.prog X.w) X.A (call (.ref f) us) (EP X pins σ Q) X.xe s := by
  have r2 : Vals (vs ++ dvs) (us ++ ds) := r.append hd
  have hl : (us ++ ds).length = ps.length := by
    rw [← r2.length]
    exact F.len _ _ _ _ h
  refine wpAny_call (codeAny_mono (F.run X.A X.stack s H ⟨us, []⟩ (us ++ ds) (vs ++ dvs) Q E hr hg I.env0 (hb s us I.kIn hl) r2 h) fun res s2 hq => ?_)
  cases res with
  | error ev => exact hx pins σ H s ev s2 I hq
  | ok fl =>
    cases fl
    case ret u => exact I.after hq
    all_goals exact False.elim hq
theorem pe_callG (F : FnG X.prog X.w X.K X.mg X.base CX k f fd ps sp) (hr : Room k X.A) (hgu : X.A.guards = some []) (hg : Gl X x) (hm : X.mg x = some (.ref f)) (hk : PySem.W.keepIn X.K (.ref f) = true) (hb : Binds X.K fd ps ds) (hd : Vals dvs ds)
    (hx : Passes CX X E) (ha : PA X (e :: es) t) (hdb : (x == ("__debug__" : Str)) = false := by decide)
    (he : starEach (e :: es) X.env = (false, eval e X.env) :: starEach es X.env := by rfl)
    (hpl : (backTo pos (starEach es X.env)).any (·.1) = false := by rfl) : PE X (.Call (.Name x p) (e :: es) [] pos) (tCall sp dvs E t) := by
  constructor
  intro pins s σ H Q I h
  refine wpAny_Call_Name_kw (ld_glob I hg hm ?_ hdb)
  refine PySem.W.callWith_K (h₀ := X.base) I.ok.mod.kin hk (thn (ha.run pos pins s σ H _ I h) fun us s1 ⟨vs, H1, I1, r, q⟩ => ⟨I1.kIn, ?_⟩) he hpl
  exact run_fnG F hr hgu hb hd hx I1 r q
end
theorem fn_ofG {CX : CXT} {P : Program} {w : World} {K : Fg} {mg : Str → Option Value} {base : Heap} {k : Nat} {f : Addr} {name qual : Str} {params : Arguments} {body : List Stmt} {scope : Scope} {dV kV doc pm cdv ct oc : Value} {an od : Option Addr}
    {osl : Array (Option Value)} {N ps : List Str} {sp : Sp} (lk : K.lookup f = some ⟨oc, od, .func (PySem.W.fnOf name qual params body scope dV kV doc pm an cdv ct), osl⟩) (hcd : PySem.W.codeIn K cdv qual = true) (Sc : FnScope N ps scope)
    (len : ∀ vs H Q E, sp vs H Q E → vs.length = ps.length)
    (hbody : ∀ (A : Around) (outer : List Env) (s : Shared) (H : Hp) (vs : List V) (Q : VK) (E : XK), Room k (A.deeper (envOfC qual scope s.heap.objs.size f cdv)) → (A.deeper (envOfC qual scope s.heap.objs.size f cdv)).guards = some [] → sp vs H Q E →
      ∃ t, PSs (cxOf CX P w K mg base N qual scope f cdv A outer s H E) body t ∧ t { nx := fun _ H' => Q .non H', rt := Q } (start N vs) H) :
    FnG P w K mg base CX (k + 1) f (PySem.W.fnOf name qual params body scope dV kV doc pm an cdv ct) ps sp := by
  refine ⟨len, fun A outer s H args us vs Q E hr hgu e0 hb r hsp => ?_⟩
  have hl := len _ _ _ _ hsp
  have kpd : ∀ b o, base.get? b = some o → s.heap.get? b = some o := fun b o e => (e0.bs b o e).1
  have KX : K.In s.heap := e0.mod.kin.keeps kpd
  have lim : s.heap.NoLimit := e0.mod.nolimit.keeps kpd
  have hkind : ∀ z ∈ ps.zip us, scope.names.lookup z.1 = some .local ∨ (scope.names.lookup z.1 = some .cell ∧ ((cellsFrom (s.heap.objs.size + 1) scope.names []).lookup z.1).isSome = true) := by
    rintro ⟨n, v⟩ hz
    rcases Sc.par n (List.of_mem_zip hz).1 with q | q
    · exact .inl q
    · exact .inr ⟨q, PySem.W.cellsFrom_some _ _ _ (.inl q)⟩
  refine codeAny_call_function hr.depth (KX _ _ lk) rfl Sc.co Sc.gen rfl (PySem.W.codeRec_of KX hcd) (hb _ _ _ _ ?_)
  refine wpAny_newFunctionEnv_cells Sc.kind hkind fun env he s1 x => ?_
  subst he
  refine ⟨lim.keeps x.toInCall.keep, codeAny_func ?_⟩
  obtain ⟨t, ht, hq⟩ := hbody A outer s H vs Q E (hr.deeper _) hgu hsp
  have I : Inv (cxOf CX P w K mg base N qual scope f cdv A outer s H E) [] (start N vs) H s1 := inv_start Sc hr.hd e0 hl r x
  refine wpAny_mono (ht.run [] s1 (start N vs) H _ I hq) (fun fl s2 hs => ?_) fun ev s2 hs => hs
  cases fl with
  | ret u =>
    obtain ⟨v, τ, G, J, rv, q⟩ := hs
    exact ⟨v, G, J.os, J.bare, J.base, J.hok, rv, q⟩
  | next =>
    obtain ⟨τ, G, J, q⟩ := hs
    exact ⟨V.non, G, J.os, J.bare, J.base, J.hok, rfl, q⟩
  | brk =>
    obtain ⟨_, _, _, q⟩ := hs
    exact False.elim q
  | cont =>
    obtain ⟨_, _, _, q⟩ := hs
    exact False.elim q
theorem okG {P : Program} {w : World} {K : Fg} {mg : Str → Option Value} {base : Heap} {x qual : Str} {st : Stmt} {f : Addr} {fd : FuncData} {N ps : List Str} {k : Nat} {sp : Sp} (F : Fun K x qual st f fd) (Sc : FnScope N ps (defScope st))
    (len : ∀ vs H Q E, sp vs H Q E → vs.length = ps.length)
    (hbody : ∀ (cdv : Value) (A : Around) (outer : List Env) (s : Shared) (H : Hp) (vs : List V) (Q : VK) (E : XK), Room k (A.deeper (envOfC qual (defScope st) s.heap.objs.size f cdv)) →
      (A.deeper (envOfC qual (defScope st) s.heap.objs.size f cdv)).guards = some [] → sp vs H Q E →
      ∃ t, PSs (cxOf CX0 P w K mg base N qual (defScope st) f cdv A outer s H E).nox (defBody st) t ∧ t { nx := fun _ G => Q .non G, rt := Q } (start N vs) H) : FnG P w K mg base CX0 (k + 1) f fd ps sp := by
  obtain ⟨oc, od, kV, doc, pm, an, cdv, ct, osl, rfl, lk, hcd⟩ := F.ex
  refine fn_ofG lk hcd Sc len fun A outer s H vs Q E hr hgu hsp => ?_
  obtain ⟨t, h, q⟩ := hbody cdv A outer s H vs Q E hr hgu hsp
  exact ⟨t, h.nox, q⟩
end Tq

set_option maxRecDepth 100000
set_option maxHeartbeats 2000000
namespace Tq
open PySem PySem.Spec PyProof.Rows L2
/-- what the law's call is to show -/
abbrev LawEnd (s₁ : Shared) : Result → Shared → Prop := fun r s' => r = .ok (.ret (.bool true)) ∧ OldK s₁.heap s'.heap ∧ s'.os = s₁.os ∧ AllBare s'.gens
section
variable {P : Program} {w : World} {K : Fg} {mg mb : Str → Option Value} {CX : CXT} {k : Nat} {fa a : Addr} {fd : FuncData} {x : Str} {sp : Sp} {s₁ : Shared} {vs : List Value} {ns : List Int}
theorem law_coreG (KX : K.In s₁.heap) (hns : s₁.heap.Ns mainGlobals mg) (hb : s₁.heap.Ns builtinsNs mb) (hbb : ∀ x : Str, x ≠ "__name__" → mb x = bootBuiltins x) (hlim : s₁.heap.NoLimit) (hg : s₁.gens = #[])
    (ha : s₁.heap.get? a = some { cls := .type "list", data := .seq vs.toArray }) (hr : Room k callerA)
    (F : ∀ base : Heap, K.In base → base.Ns mainGlobals mg → FnG P w K mg base CX k fa fd [x] sp) (hbind : ∀ (s : Shared) (u : Value), BindsTo s fd ⟨[u], []⟩ [(x, u)])
    (hCX : ∀ H e s', CX [] H s₁ (fun _ _ _ => False) e s' → False)
    (H : Hp) (hsp : sp [.ref a] H (fun v _ => v = .bl true) fun _ _ _ => False) (hO : Only H) (hok : HOk P w H s₁.heap) (hA : ∀ b, H b ≠ none → b = a) (hK : H a ≠ none → K.lookup a = none) :
    codeAny (model P w) callerA (.call (.ref fa) ⟨[.ref a], []⟩) (LawEnd s₁) s₁ := by
  have isA : ∀ {b : Addr} {u : HO}, H b = some u → b = a := fun {b u} q => hA b (by rw [q]; simp)
  have noA : ∀ {b : Addr} {o : Obj} {es : Array DictEntry} {ep : Nat}, s₁.heap.get? b = some o → o.data = .dict es ep → H b = none := by
    intro b o es ep e d
    cases q : H b with
    | none => rfl
    | some u =>
      rw [isA q, ha] at e
      cases e
      cases (show Data.seq vs.toArray _ = Data.dict es ep from d)
  have nsK : ∀ {b : Addr} {m : Str → Option Value}, s₁.heap.Ns b m → (hidT s₁.heap H).Ns b m := fun {b m} ⟨o, es, ep, e, d, r⟩ => ⟨o, es, ep, hidT_get e (noA e d), d, r⟩
  have hKb : K.In (hidT s₁.heap H) := by
    intro b o e
    refine hidT_get (KX b o e) ?_
    cases q : H b with
    | none => rfl
    | some u =>
      have eb := isA q
      subst eb
      rw [hK (by rw [q]; simp)] at e
      cases e
  obtain ⟨mc, lim1, lim2⟩ := hlim
  have hM : Mod K mg (hidT s₁.heap H) := ⟨hKb, nsK hns, ⟨mb, nsK hb, hbb⟩, ⟨mc, nsK lim1, lim2⟩⟩
  have e0 : Env0 P w K mg (hidT s₁.heap H) callerA [] s₁ H :=
    ⟨rfl, hM, fun b o e => of_hidT e, Nat.le_of_eq (hidT_size _ _), trivial, fun b hb => absurd (show b ∈ ([] : List Addr) from hb) (by simp), hok, .of_eq hg⟩
  refine codeAny_mono ((F _ hKb (nsK hns)).run callerA [] s₁ H ⟨[.ref a], []⟩ [.ref a] [.ref a] _ _ hr rfl e0 (hbind s₁ (.ref a)) (.cons rfl .nil) hsp) fun r s' h => ?_
  cases r with
  | error e => exact (hCX H e s' h).elim
  | ok fl =>
    cases fl
    case ret u =>
      obtain ⟨v, G, os, bare, un, hok', r', q⟩ := h
      cases (show v = .bl true from q)
      cases (show u = Value.bool true from r')
      refine ⟨rfl, OldK.of_keep fun b o e => ?_, os, bare⟩
      rcases hO b with z | ⟨ob, xs, z⟩
      · exact un.keep b o e z (by intro zz; exact absurd (show b ∈ ([] : List Addr) from zz) (by simp)) (by simp)
      · obtain ⟨e1, _⟩ := hok b _ z
        obtain ⟨e2, _⟩ := hok' b _ (un.frzs b ob _ z)
        rw [e] at e1
        cases e1
        exact e2
    all_goals exact False.elim h
/-- the law's promise at the heap behind the top, the guards told -/
theorem law_callG (KX : K.In s₁.heap) (hns : s₁.heap.Ns mainGlobals mg) (hb : s₁.heap.Ns builtinsNs mb) (hbb : ∀ x : Str, x ≠ "__name__" → mb x = bootBuiltins x) (hlim : s₁.heap.NoLimit) (hg : s₁.gens = #[])
    (ha : s₁.heap.get? a = some { cls := .type "list", data := .seq vs.toArray }) (hi : IntsAre vs ns) (hl : ns.length ≤ sizeLine) (hr : Room k callerA)
    (F : ∀ base : Heap, K.In base → base.Ns mainGlobals mg → FnG P w K mg base CX k fa fd [x] sp) (hbind : ∀ (s : Shared) (u : Value), BindsTo s fd ⟨[u], []⟩ [(x, u)])
    (hsp : ∀ H : Hp, Only H → SqL K H a (ns.map V.int) → sp [.ref a] H (fun v _ => v = .bl true) fun _ _ _ => False)
    (hCX : ∀ H e s', CX [] H s₁ (fun _ _ _ => False) e s' → False) :
    codeAny (model P w) callerA (.call (.ref fa) ⟨[.ref a], []⟩) (LawEnd s₁) s₁ := by
  have rv := vals_ints hi
  cases hk : K.lookup a with
  | some o =>
    have e := KX a o hk
    rw [ha] at e
    cases e
    have hO : Only (fun _ => none) := fun _ => .inl rfl
    refine law_coreG KX hns hb hbb hlim hg ha hr F hbind hCX (fun _ => none) (hsp _ hO ?_) hO (fun b u z => by cases z) (fun b z => absurd rfl z) fun z => absurd rfl z
    refine .inr ⟨_, vs.toArray, _, hk, rfl, rfl, rfl, ?_, by simpa using rv⟩
    rw [List.size_toArray, hi.length]
    exact hl
  | none =>
    have ob : (({ cls := .type "list", data := .seq vs.toArray } : Obj)) = { cls := .type "list", data := .seq vs.toArray } := rfl
    generalize hH : (fun b : Addr => if b = a then some (HO.frz { cls := .type "list", data := .seq vs.toArray } (.lst (ns.map V.int))) else none) = H
    have at1 : H a = some (HO.frz { cls := .type "list", data := .seq vs.toArray } (.lst (ns.map V.int))) := by rw [← hH]; exact if_pos rfl
    have at2 : ∀ b, b ≠ a → H b = none := fun b hb => by rw [← hH]; exact if_neg hb
    have hO : Only H := fun b => by
      by_cases hb : b = a
      · subst hb; exact .inr ⟨_, _, at1⟩
      · exact .inl (at2 b hb)
    refine law_coreG KX hns hb hbb hlim hg ha hr F hbind hCX H (hsp _ hO (.inl (.inr ⟨_, at1⟩))) hO (fun b u z => ?_) (fun b z => ?_) fun _ => hk
    · by_cases hb : b = a
      · subst hb
        rw [at1] at z
        cases z
        exact ⟨ha, by rw [List.length_map]; exact hl, vs, _, rv, ha⟩
      · rw [at2 b hb] at z; cases z
    · by_cases hb : b = a
      · exact hb
      · exact absurd (at2 b hb) z
end
theorem walk_ofG {l : PySem.W.OpenLaw} {n k : Nat} {q : Program} {loose : List Str} {XP : (Str → Option Value) → Heap → Prop} {YP : World → Heap → Prop} {d : DefRec} {K : Params → Fg} {sp : Fg → Sp} {x : Str}
    (hn : l.most = some n) (hn2 : n ≤ sizeLine) (hdf : d.params.defaults = []) (hr : Room k callerA)
    (hY : ∀ (w : World) (h : Heap), YP w h → (K w.params).In h)
    (F : ∀ (w : World) (mg : Str → Option Value) (fa : Addr) (h : Heap), (K w.params).In h → h.Ns mainGlobals mg → mg d.name = some (.ref fa) →
      ∃ fd : FuncData, (∀ (s : Shared) (u : Value), BindsTo s fd ⟨[u], []⟩ [(x, u)]) ∧
        ∀ base : Heap, (K w.params).In base → base.Ns mainGlobals mg → FnG l.prog w (K w.params) mg base CX0 k fa fd [x] (sp (K w.params)))
    (hsp : ∀ (K : Fg) (H : Hp) (a : Addr) (ns : List Int), ns.length ≤ n → Only H → SqL K H a (ns.map V.int) → sp K [.ref a] H (fun v _ => v = .bl true) fun _ _ _ => False) :
    PySem.W.WalkO q loose XP YP l.row.toRowW d [] (fun f vs => PySem.call f vs) := by
  refine Att.attach_call hn hdf fun w s₀ s₁ mg mb fa o pm cd doc a vs ns G Y ho hd hcd hmg hobj hints hlen hg => ?_
  have KX := hY w _ Y
  obtain ⟨fd, hb, hF⟩ := F w mg fa _ KX G.T.g hmg
  exact law_callG KX G.T.g G.T.b G.T.builtins G.T.nolimit hg hobj hints (Nat.le_trans hlen hn2) hr hF hb (fun H hO hS => hsp (K w.params) H a ns hlen hO hS) fun H e s' h => h
end Tq

set_option maxRecDepth 100000
set_option maxHeartbeats 2000000
namespace Tq
open PySem PySem.Spec PyProof.Rows L2
section
variable {C : Ct} {y : S} {ta tb tc te : TE} {t u : TT} {ts : TA} {Q : Z → S → Prop} {R : Bool → S → Prop}
theorem wE_catG (w : wE C ta y fun z y1 => wE C tb y1 fun z' y2 => ∃ xs ys, z = .d (.list xs) ∧ z' = .d (.list ys) ∧ xs.length + ys.length ≤ sizeLine ∧ Q (.d (.list (xs ++ ys))) y2) : wE C (tOp (rCatG C.K) ta tb) y Q := by
  refine wE_op (res := fun d e r => ∃ xs ys, d = .list xs ∧ e = .list ys ∧ xs.length + ys.length ≤ sizeLine ∧ r = .list (xs ++ ys)) ?_ (wE_mono w fun z y1 h => wE_mono h fun z' y2 ⟨xs, ys, e1, e2, c, q⟩ => ⟨_, _, _, e1, e2, ⟨xs, ys, rfl, rfl, c, rfl⟩, q⟩)
  rintro M H x y d e r Q fr rx ry ⟨xs, ys, rfl, rfl, c, rfl⟩ k
  obtain ⟨a, us, rfl, h1, h2⟩ := rp_lst rx
  obtain ⟨b, vs, rfl, h3, h4⟩ := rp_lst ry
  refine ⟨a, b, us, vs, rfl, rfl, h1.sq, h3.sq, by rw [h2.len, h4.len]; exact c, fun p hp => k _ _ (grow_upd hp) ?_⟩
  have g : GoH M H M (upd H p (.lst (us ++ vs))) := fun a o n e => ⟨n, grow_upd hp a o e⟩
  exact .lst (.inl ⟨fr p hp, .inl upd_same⟩) ((h2.go g).app (h4.go g))
theorem wE_fdivZ (w : wE C ta y fun z y1 => wE C tb y1 fun z' y2 => ∃ i j, z = .d (.int i) ∧ z' = .d (.int j) ∧ CDivZ i j ∧ Q (.d (.int (i.fdiv j))) y2) : wE C (tOp (rI CDivZ fun i j => .int (i.fdiv j)) ta tb) y Q := wE_I _ (fun _ _ => .int _) w
theorem wE_modN (w : wE C ta y fun z y1 => wE C tb y1 fun z' y2 => ∃ i j, z = .d (.int i) ∧ z' = .d (.int j) ∧ j ≠ 0 ∧ Q (.d (.int (i.fmod j))) y2) : wE C (tOp (rI (fun _ j => j ≠ 0) fun i j => .int (i.fmod j)) ta tb) y Q := wE_I _ (fun _ _ => .int _) w
/-! truth -/
theorem wE_andV (w : wE C ta y fun z y1 => ∃ b, z = .d (.bool b) ∧ if b = true then wE C tb y1 Q else Q (.d (.bool false)) y1) : wE C (tAndV ta tb) y Q := by
  intro F σ H K wd k
  refine w F σ H _ wd fun x H1 z y1 w1 g1 s1 r1 q1 => ?_
  obtain ⟨b, rfl, q⟩ := q1
  refine ⟨b, rp_bl r1, ?_⟩
  cases b with
  | true => exact q F σ H1 _ w1 fun v H2 z y2 w2 g2 s2 r2 q2 => k v H2 z y2 w2 (g1.trans g2) (s1.trans s2) r2 q2
  | false => exact k _ H1 (.d (.bool false)) y1 w1 g1 s1 (.bl _) q
theorem wE_orV (w : wE C ta y fun z y1 => ∃ b, z = .d (.bool b) ∧ if b = true then Q (.d (.bool true)) y1 else wE C tb y1 Q) : wE C (tOrV ta tb) y Q := by
  intro F σ H K wd k
  refine w F σ H _ wd fun x H1 z y1 w1 g1 s1 r1 q1 => ?_
  obtain ⟨b, rfl, q⟩ := q1
  refine ⟨b, rp_bl r1, ?_⟩
  cases b with
  | true => exact k _ H1 (.d (.bool true)) y1 w1 g1 s1 (.bl _) q
  | false => exact q F σ H1 _ w1 fun v H2 z y2 w2 g2 s2 r2 q2 => k v H2 z y2 w2 (g1.trans g2) (s1.trans s2) r2 q2
theorem wE_notV (w : wE C ta y fun z y1 => ∃ b, z = .d (.bool b) ∧ Q (.d (.bool (!b))) y1) : wE C (tNotV ta) y Q := by
  intro F σ H K wd k
  refine w F σ H _ wd fun x H1 z y1 w1 g1 s1 r1 q1 => ?_
  obtain ⟨b, rfl, q⟩ := q1
  exact ⟨b, rp_bl r1, k _ H1 (.d (.bool !b)) y1 w1 g1 s1 (.bl _) q⟩
theorem wE_if (w : wT C t y fun b y1 => if b = true then wE C ta y1 Q else wE C tb y1 Q) : wE C (tIf t ta tb) y Q := by
  intro F σ H K wd k
  refine w F σ H _ wd fun b H1 y1 w1 g1 s1 q => ?_
  cases b with
  | true => exact q F σ H1 _ w1 fun v H2 z y2 w2 g2 s2 r2 q2 => k v H2 z y2 w2 (g1.trans g2) (s1.trans s2) r2 q2
  | false => exact q F σ H1 _ w1 fun v H2 z y2 w2 g2 s2 r2 q2 => k v H2 z y2 w2 (g1.trans g2) (s1.trans s2) r2 q2
theorem wT_test (w : wE C te y fun z y1 => ∃ b, z = .d (.bool b) ∧ R b y1) : wT C (tTest te) y R := by
  intro F σ H K wd k
  refine w F σ H _ wd fun x H1 z y1 w1 g1 s1 r1 q1 => ?_
  obtain ⟨b, rfl, q⟩ := q1
  exact ⟨b, rp_bl r1, k b H1 y1 w1 g1 s1 q⟩
theorem wT_B (w : wE C te y fun z y1 => ∃ b, z = .d (.bool b) ∧ R b y1) : wT C (tB te) y R := wT_test w
theorem wT_and (w : wT C t y fun b y1 => if b = true then wT C u y1 R else R false y1) : wT C (tAnd t u) y R := by
  intro F σ H K wd k
  refine w F σ H _ wd fun b H1 y1 w1 g1 s1 q => ?_
  cases b with
  | true => exact q F σ H1 _ w1 fun v H2 y2 w2 g2 s2 q2 => k v H2 y2 w2 (g1.trans g2) (s1.trans s2) q2
  | false => exact k false H1 y1 w1 g1 s1 q
theorem wT_or (w : wT C t y fun b y1 => if b = true then R true y1 else wT C u y1 R) : wT C (tOr t u) y R := by
  intro F σ H K wd k
  refine w F σ H _ wd fun b H1 y1 w1 g1 s1 q => ?_
  cases b with
  | true => exact k true H1 y1 w1 g1 s1 q
  | false => exact q F σ H1 _ w1 fun v H2 y2 w2 g2 s2 q2 => k v H2 y2 w2 (g1.trans g2) (s1.trans s2) q2
theorem wT_not (w : wT C t y fun b y1 => R (!b) y1) : wT C (tNot t) y R := by
  intro F σ H K wd k
  exact w F σ H _ wd fun b H1 y1 w1 g1 s1 q => k (!b) H1 y1 w1 g1 s1 q
theorem wT_yes (q : R true y) : wT C tYes y R := fun F σ H K wd k => k true H y wd GoH.refl (Sh.refl y) q
theorem wT_mono {R' : Bool → S → Prop} (h : wT C t y R) (q : ∀ z y', R z y' → R' z y') : wT C t y R' := fun F σ H K w k => h F σ H K w fun z H' y' a b c e => k z H' y' a b c (q z y' e)
/-- chains -/
theorem wE_chain {r r' : R2} {res res' : D → D → D → Prop} (h : OpD C.K r res) (h' : OpD C.K r' res')
    (w : wE C ta y fun z1 y1 => wE C tb y1 fun z2 y2 => ∃ d1 d2 b, z1 = .d d1 ∧ z2 = .d d2 ∧ res d1 d2 (.bool b) ∧ if b = true then wE C tc y2 fun z3 y3 => ∃ d3 g, z3 = .d d3 ∧ res' d2 d3 g ∧ Q (.d g) y3 else Q (.d (.bool false)) y2) :
    wE C (tChain r r' ta tb tc) y Q := by
  intro F σ H K wd k
  refine w F σ H _ wd fun x H1 z y1 w1 g1 s1 r1 q1 => ?_
  refine q1 F σ H1 _ w1 fun x2 H2 z' y2 w2 g2 s2 r2 q2 => ?_
  obtain ⟨d1, d2, b, rfl, rfl, hres, hq⟩ := q2
  refine h (Mv F σ y2) H2 x x2 d1 d2 (.bool b) _ (fun a => w2.new) (Rp.go g2 r1) r2 hres fun v H3 gr rv => ?_
  have w3 := w2.grow gr
  have g3 := (g1.trans g2).trans (go_grow (F := F) (σ := σ) (y := y2) gr)
  refine ⟨b, rp_bl rv, ?_⟩
  cases b with
  | false => exact k _ H3 (.d (.bool false)) y2 w3 g3 (s1.trans s2) (.bl _) hq
  | true =>
    refine hq F σ H3 _ w3 fun x4 H4 z4 y4 w4 g4 s4 r4 q4 => ?_
    obtain ⟨d3, g, rfl, hres', hq'⟩ := q4
    refine h' (Mv F σ y4) H4 x2 x4 d2 d3 g _ (fun a => w4.new) (Rp.go g4 (Rp.go (go_grow (F := F) (σ := σ) (y := y2) gr) r2)) r4 hres' fun v5 H5 gr5 rv5 => ?_
    exact k v5 H5 (.d g) y4 (w4.grow gr5) ((g3.trans g4).trans (go_grow gr5)) ((s1.trans s2).trans s4) rv5 hq'
theorem wE_chainI {p p' : Int → Int → Bool} (w : wE C ta y fun z1 y1 => wE C tb y1 fun z2 y2 => ∃ i j, z1 = .d (.int i) ∧ z2 = .d (.int j) ∧ if p i j = true then wE C tc y2 fun z3 y3 => ∃ m, z3 = .d (.int m) ∧ Q (.d (.bool (p' j m))) y3 else Q (.d (.bool false)) y2) :
    wE C (tChain (rI0 fun i j => .bl (p i j)) (rI0 fun i j => .bl (p' i j)) ta tb tc) y Q := by
  refine wE_chain (opD_I0 (gd := fun i j => .bool (p i j)) fun _ _ => .bl _) (opD_I0 (gd := fun i j => .bool (p' i j)) fun _ _ => .bl _) (wE_mono w fun z1 y1 h => wE_mono h fun z2 y2 ⟨i, j, e1, e2, q⟩ => ⟨_, _, p i j, e1, e2, ⟨i, j, rfl, rfl, rfl⟩, ?_⟩)
  cases hb : p i j with
  | true =>
    rw [hb] at q
    exact wE_mono (show wE C tc y2 _ from q) fun z3 y3 ⟨m, e3, q3⟩ => ⟨_, _, e3, ⟨j, m, rfl, rfl, rfl⟩, q3⟩
  | false => rw [hb] at q; exact q
theorem opD_S0 {g : Str → Str → V} {gd : Str → Str → D} (hg : ∀ i j, Sc (g i j) (gd i j)) {K : Fg} : OpD K (fun x y H Q => ∃ i j, x = .str i ∧ y = .str j ∧ Q (g i j) H) (fun d e r => ∃ i j, d = .str i ∧ e = .str j ∧ r = gd i j) := by
  rintro M H x y d e r Q _ rx ry ⟨i, j, rfl, rfl, rfl⟩ k
  exact ⟨i, j, rp_str rx, rp_str ry, k _ H (fun _ _ e => e) (hg i j).rp⟩
theorem wE_chainS {p p' : Str → Str → Bool} (w : wE C ta y fun z1 y1 => wE C tb y1 fun z2 y2 => ∃ i j, z1 = .d (.str i) ∧ z2 = .d (.str j) ∧ if p i j = true then wE C tc y2 fun z3 y3 => ∃ m, z3 = .d (.str m) ∧ Q (.d (.bool (p' j m))) y3 else Q (.d (.bool false)) y2) :
    wE C (tChain (fun x y H Q => ∃ i j, x = .str i ∧ y = .str j ∧ Q (.bl (p i j)) H) (fun x y H Q => ∃ i j, x = .str i ∧ y = .str j ∧ Q (.bl (p' i j)) H) ta tb tc) y Q := by
  refine wE_chain (opD_S0 (gd := fun i j => .bool (p i j)) fun _ _ => .bl _) (opD_S0 (gd := fun i j => .bool (p' i j)) fun _ _ => .bl _) (wE_mono w fun z1 y1 h => wE_mono h fun z2 y2 ⟨i, j, e1, e2, q⟩ => ⟨_, _, p i j, e1, e2, ⟨i, j, rfl, rfl, rfl⟩, ?_⟩)
  cases hb : p i j with
  | true =>
    rw [hb] at q
    exact wE_mono (show wE C tc y2 _ from q) fun z3 y3 ⟨m, e3, q3⟩ => ⟨_, _, e3, ⟨j, m, rfl, rfl, rfl⟩, q3⟩
  | false => rw [hb] at q; exact q
/-! arguments, displays -/
def wD (C : Ct) (ta : TA) (y : S) (Q : List D → S → Prop) : Prop := ∀ (F : Fr) σ H (K : List V → Hp → Prop), Wd C F σ y H → (∀ vs H' ds y', Wd C F σ y' H' → Go F σ y H σ y' H' → Sh y y' → RpA C.K (Mv F σ y') H' vs ds → Q ds y' → K vs H') → ta σ H K
variable {q : List D → S → Prop}
theorem wD_nil (h : q [] y) : wD C tNil y q := fun F σ H K wd k => k [] H [] y wd GoH.refl (Sh.refl y) .nil h
theorem wD_cons (w : wE C ta y fun z y1 => ∃ d, z = .d d ∧ wD C ts y1 fun ds y2 => q (d :: ds) y2) : wD C (tCons ta ts) y q := by
  intro F σ H K wd k
  refine w F σ H _ wd fun x H1 z y1 w1 g1 s1 r1 q1 => ?_
  obtain ⟨d, rfl, h⟩ := q1
  exact h F σ H1 _ w1 fun vs H2 ds y2 w2 g2 s2 r2 q2 => k (x :: vs) H2 (d :: ds) y2 w2 (g1.trans g2) (s1.trans s2) (.cons (Rp.go g2 r1) r2) q2
theorem wD_mono {q' : List D → S → Prop} (h : wD C ts y q) (e : ∀ z y', q z y' → q' z y') : wD C ts y q' := fun F σ H K w k => h F σ H K w fun vs H' z y' a b c d f => k vs H' z y' a b c d (e z y' f)
theorem wE_tup (w : wD C ts y fun ds y1 => ds.length ≤ sizeLine ∧ Q (.d (.tuple ds)) y1) : wE C (tTup ts) y Q := by
  intro F σ H K wd k
  refine w F σ H _ wd fun vs H1 ds y1 w1 g1 s1 r1 ⟨hz, q1⟩ => ⟨by rw [r1.len]; exact hz, fun p hp => ?_⟩
  have gr := grow_upd (o := .tup vs) hp
  exact k _ _ (.d (.tuple ds)) y1 (w1.grow gr) (g1.trans (go_grow gr)) s1 (.tup (.inl ⟨w1.new hp, .inl upd_same⟩) (r1.go (go_grow gr))) q1
theorem wE_lst (w : wD C ts y fun ds y1 => ds.length ≤ sizeLine ∧ Q (.d (.list ds)) y1) : wE C (tLst ts) y Q := by
  intro F σ H K wd k
  refine w F σ H _ wd fun vs H1 ds y1 w1 g1 s1 r1 ⟨hz, q1⟩ => ⟨by rw [r1.len]; exact hz, fun p hp => ?_⟩
  have gr := grow_upd (o := .lst vs) hp
  exact k _ _ (.d (.list ds)) y1 (w1.grow gr) (g1.trans (go_grow gr)) s1 (.lst (.inl ⟨w1.new hp, .inl upd_same⟩) (r1.go (go_grow gr))) q1
theorem wE_dnew (h : Q (.d (.dict [])) y) : wE C tDNewK y Q := by
  intro F σ H K wd k p hp
  have gr := grow_upd (o := .dK []) hp
  exact k _ _ (.d (.dict [])) y (wd.grow gr) (go_grow gr) (Sh.refl y) (.dic (wd.new hp) upd_same .nil) h
/-- {k: v}, one written pair of scalars -/
theorem wE_disp1 {kk : Key} {v : V} {d : D} (s : Sc v d) (h : Q (.d (.dict [(kD kk, d)])) y) : wE C (tDisp [(tC (kV kk), tC v)]) y Q := by
  intro F σ H K wd k p hp
  refine ⟨upd_same, [(kk, v)], rfl, by simp, ?_⟩
  have gr : ∀ a u, H a = some u → upd (upd H p (.dK [])) p (.dK (mergeK [] [(kk, v)])) a = some u := fun a u e => by rw [upd_upd]; exact grow_upd hp a u e
  refine k _ _ (.d (.dict [(kD kk, d)])) y (wd.grow gr) (go_grow gr) (Sh.refl y) (.dic (wd.new hp) (kvs := [(kk, v)]) ?_ (.cons s.rp .nil)) h
  rw [upd_same]
  rfl
/-! built-ins -/
def CbD (K : Fg) (r : List V → Hp → VK → Prop) (res : List D → D → Prop) : Prop := ∀ (M : Addr → Prop) (H : Hp) (xs : List V) (ds : List D) (g : D) (Q : VK), (∀ a, H a = none → ¬ M a) → RpA K M H xs ds → res ds g →
  (∀ v H', (∀ a o, H a = some o → H' a = some o) → Rp K M H' v g → Q v H') → r xs H Q
theorem wE_cb {r : List V → Hp → VK → Prop} {res : List D → D → Prop} (h : CbD C.K r res) (w : wD C ts y fun ds y1 => ∃ g, res ds g ∧ Q (.d g) y1) : wE C (tCB r ts) y Q := by
  intro F σ H K wd k
  refine w F σ H _ wd fun vs H1 ds y1 w1 g1 s1 r1 q1 => ?_
  obtain ⟨g, hres, hq⟩ := q1
  exact h (Mv F σ y1) H1 vs ds g K (fun a => w1.new) r1 hres fun v H2 gr rv => k v H2 (.d g) y1 (w1.grow gr) (g1.trans (go_grow gr)) s1 rv hq
theorem rpA1 {K : Fg} {M : Addr → Prop} {H : Hp} {vs : List V} {d : D} (r : RpA K M H vs [d]) : ∃ v, vs = [v] ∧ Rp K M H v d := by
  cases r with | cons a b => cases b; exact ⟨_, rfl, a⟩
theorem rpA2 {K : Fg} {M : Addr → Prop} {H : Hp} {vs : List V} {d e : D} (r : RpA K M H vs [d, e]) : ∃ v u, vs = [v, u] ∧ Rp K M H v d ∧ Rp K M H u e := by
  cases r with | cons a b => obtain ⟨u, rfl, h⟩ := rpA1 b; exact ⟨_, u, rfl, a, h⟩
theorem wE_abs (w : wD C ts y fun ds y1 => ∃ i, ds = [.int i] ∧ Q (.d (.int (if i < 0 then -i else i))) y1) : wE C (tCB (fun xs H Q => ∃ i, xs = [.int i] ∧ Q (.int (if i < 0 then -i else i)) H) ts) y Q := by
  refine wE_cb (res := fun ds g => ∃ i, ds = [.int i] ∧ g = .int (if i < 0 then -i else i)) ?_ (wD_mono w fun ds y1 ⟨i, e, q⟩ => ⟨_, ⟨i, e, rfl⟩, q⟩)
  rintro M H xs ds g Q _ r ⟨i, rfl, rfl⟩ k
  obtain ⟨v, rfl, rv⟩ := rpA1 r
  exact ⟨i, by rw [rp_int rv], k _ H (fun _ _ e => e) (.int _)⟩
theorem wE_max2 (w : wD C ts y fun ds y1 => ∃ i j, ds = [.int i, .int j] ∧ Q (.d (.int (if j > i then j else i))) y1) : wE C (tCB (fun xs H Q => ∃ i j, xs = [.int i, .int j] ∧ Q (.int (if j > i then j else i)) H) ts) y Q := by
  refine wE_cb (res := fun ds g => ∃ i j, ds = [.int i, .int j] ∧ g = .int (if j > i then j else i)) ?_ (wD_mono w fun ds y1 ⟨i, j, e, q⟩ => ⟨_, ⟨i, j, e, rfl⟩, q⟩)
  rintro M H xs ds g Q _ r ⟨i, j, rfl, rfl⟩ k
  obtain ⟨v, u, rfl, rv, ru⟩ := rpA2 r
  exact ⟨i, j, by rw [rp_int rv, rp_int ru], k _ H (fun _ _ e => e) (.int _)⟩
theorem wE_min2 (w : wD C ts y fun ds y1 => ∃ i j, ds = [.int i, .int j] ∧ Q (.d (.int (if j < i then j else i))) y1) : wE C (tCB (fun xs H Q => ∃ i j, xs = [.int i, .int j] ∧ Q (.int (if j < i then j else i)) H) ts) y Q := by
  refine wE_cb (res := fun ds g => ∃ i j, ds = [.int i, .int j] ∧ g = .int (if j < i then j else i)) ?_ (wD_mono w fun ds y1 ⟨i, j, e, q⟩ => ⟨_, ⟨i, j, e, rfl⟩, q⟩)
  rintro M H xs ds g Q _ r ⟨i, j, rfl, rfl⟩ k
  obtain ⟨v, u, rfl, rv, ru⟩ := rpA2 r
  exact ⟨i, j, by rw [rp_int rv, rp_int ru], k _ H (fun _ _ e => e) (.int _)⟩
theorem wE_int1 (w : wD C ts y fun ds y1 => (∃ i, ds = [.int i] ∧ Q (.d (.int i)) y1) ∨ ∃ b, ds = [.bool b] ∧ Q (.d (.int (if b then 1 else 0))) y1) :
    wE C (tCB (fun xs H Q => (∃ i, xs = [.int i] ∧ Q (.int i) H) ∨ ∃ k, xs = [.bl k] ∧ Q (.int (if k then 1 else 0)) H) ts) y Q := by
  refine wE_cb (res := fun ds g => (∃ i, ds = [.int i] ∧ g = .int i) ∨ ∃ b, ds = [.bool b] ∧ g = .int (if b then 1 else 0)) ?_ (wD_mono w fun ds y1 h => ?_)
  · rintro M H xs ds g Q _ r (⟨i, rfl, rfl⟩ | ⟨b, rfl, rfl⟩) k
    · obtain ⟨v, rfl, rv⟩ := rpA1 r
      exact .inl ⟨i, by rw [rp_int rv], k _ H (fun _ _ e => e) (.int _)⟩
    · obtain ⟨v, rfl, rv⟩ := rpA1 r
      exact .inr ⟨b, by rw [rp_bl rv], k _ H (fun _ _ e => e) (.int _)⟩
  · rcases h with ⟨i, e, q⟩ | ⟨b, e, q⟩
    · exact ⟨_, .inl ⟨i, e, rfl⟩, q⟩
    · exact ⟨_, .inr ⟨b, e, rfl⟩, q⟩
theorem wE_strI (w : wD C ts y fun ds y1 => ∃ i, ds = [.int i] ∧ i.natAbs.log2 < 1920 ∧ Q (.d (.str (toString i))) y1) : wE C (tCB (fun xs H Q => ∃ i, xs = [.int i] ∧ i.natAbs.log2 < 1920 ∧ Q (.str (toString i)) H) ts) y Q := by
  refine wE_cb (res := fun ds g => ∃ i, ds = [.int i] ∧ i.natAbs.log2 < 1920 ∧ g = .str (toString i)) ?_ (wD_mono w fun ds y1 ⟨i, e, c, q⟩ => ⟨_, ⟨i, e, c, rfl⟩, q⟩)
  rintro M H xs ds g Q _ r ⟨i, rfl, c, rfl⟩ k
  obtain ⟨v, rfl, rv⟩ := rpA1 r
  exact ⟨i, by rw [rp_int rv], c, k _ H (fun _ _ e => e) (.str _)⟩
theorem wE_intS (w : wD C ts y fun ds y1 => ∃ a n, ds = [.str a] ∧ PySem.intText? a = some n ∧ a.length ≤ 640 ∧ Q (.d (.int n)) y1) : wE C (tCB (fun xs H Q => ∃ a n, xs = [.str a] ∧ PySem.intText? a = some n ∧ a.length ≤ 640 ∧ Q (.int n) H) ts) y Q := by
  refine wE_cb (res := fun ds g => ∃ a n, ds = [.str a] ∧ PySem.intText? a = some n ∧ a.length ≤ 640 ∧ g = .int n) ?_ (wD_mono w fun ds y1 ⟨i, n, e, c, l, q⟩ => ⟨_, ⟨i, n, e, c, l, rfl⟩, q⟩)
  rintro M H xs ds g Q _ r ⟨i, n, rfl, c, l, rfl⟩ k
  obtain ⟨v, rfl, rv⟩ := rpA1 r
  exact ⟨i, n, by rw [rp_str rv], c, l, k _ H (fun _ _ e => e) (.int _)⟩
def dLen (d : D) : Option Nat := match d with
  | .str z => if z.length ≤ sizeLine then some z.length else none
  | .list xs => some xs.length
  | .tuple xs => some xs.length
  | _ => none
theorem wE_len (w : wD C ts y fun ds y1 => ∃ d n, ds = [d] ∧ dLen d = some n ∧ Q (.d (.int n)) y1) : wE C (tCB (fun xs H Q => ∃ x n, xs = [x] ∧ LenV C.K x H n ∧ Q (.int (n : Nat)) H) ts) y Q := by
  refine wE_cb (res := fun ds g => ∃ d n, ds = [d] ∧ dLen d = some n ∧ g = .int n) ?_ (wD_mono w fun ds y1 ⟨d, n, e, c, q⟩ => ⟨_, ⟨d, n, e, c, rfl⟩, q⟩)
  rintro M H xs ds g Q _ r ⟨d, n, rfl, c, rfl⟩ k
  obtain ⟨v, rfl, rv⟩ := rpA1 r
  refine ⟨v, n, rfl, ?_, k _ H (fun _ _ e => e) (.int _)⟩
  cases rv with
  | non => cases c
  | bl _ => cases c
  | int _ => cases c
  | dic _ _ _ => cases c
  | str z =>
    simp only [dLen] at c
    by_cases h : z.length ≤ sizeLine
    · rw [if_pos h] at c; cases c; exact ⟨h, rfl⟩
    · rw [if_neg h] at c; cases c
  | lst h1 h2 => cases c; exact .inl ⟨_, h1.sq, h2.len.symm⟩
  | tup h1 h2 => cases c; exact .inr ⟨_, h1.sq, h2.len.symm⟩
theorem wE_all (w : wD C ts y fun ds y1 => ∃ bs : List Bool, ds = [.list (bs.map PyData.bool)] ∧ Q (.d (.bool (bs.all id))) y1) : wE C (tCB (rAll C.K) ts) y Q := by
  refine wE_cb (res := fun ds g => ∃ bs : List Bool, ds = [.list (bs.map PyData.bool)] ∧ g = .bool (bs.all id)) ?_ (wD_mono w fun ds y1 ⟨i, e, q⟩ => ⟨_, ⟨i, e, rfl⟩, q⟩)
  rintro M H xs ds g Q _ r ⟨bs, rfl, rfl⟩ k
  obtain ⟨v, rfl, rv⟩ := rpA1 r
  obtain ⟨a, us, rfl, h1, h2⟩ := rp_lst rv
  have e := rpA_bls h2
  subst e
  exact ⟨a, bs, rfl, h1.sq, k _ H (fun _ _ e => e) (.bl _)⟩
theorem wE_any (w : wD C ts y fun ds y1 => ∃ bs : List Bool, ds = [.list (bs.map PyData.bool)] ∧ Q (.d (.bool (bs.any id))) y1) : wE C (tCB (rAny C.K) ts) y Q := by
  refine wE_cb (res := fun ds g => ∃ bs : List Bool, ds = [.list (bs.map PyData.bool)] ∧ g = .bool (bs.any id)) ?_ (wD_mono w fun ds y1 ⟨i, e, q⟩ => ⟨_, ⟨i, e, rfl⟩, q⟩)
  rintro M H xs ds g Q _ r ⟨bs, rfl, rfl⟩ k
  obtain ⟨v, rfl, rv⟩ := rpA1 r
  obtain ⟨a, us, rfl, h1, h2⟩ := rp_lst rv
  have e := rpA_bls h2
  subst e
  exact ⟨a, bs, rfl, h1.sq, k _ H (fun _ _ e => e) (.bl _)⟩
theorem wE_sum (w : wD C ts y fun ds y1 => ∃ bs : List Int, ds = [.list (bs.map PyData.int)] ∧ Q (.d (.int bs.sum)) y1) : wE C (tCB (rSum C.K) ts) y Q := by
  refine wE_cb (res := fun ds g => ∃ bs : List Int, ds = [.list (bs.map PyData.int)] ∧ g = .int bs.sum) ?_ (wD_mono w fun ds y1 ⟨i, e, q⟩ => ⟨_, ⟨i, e, rfl⟩, q⟩)
  rintro M H xs ds g Q _ r ⟨bs, rfl, rfl⟩ k
  obtain ⟨v, rfl, rv⟩ := rpA1 r
  obtain ⟨a, us, rfl, h1, h2⟩ := rp_lst rv
  have e := rpA_ints h2
  subst e
  exact ⟨a, bs, rfl, h1.sq, k _ H (fun _ _ e => e) (.int _)⟩
def dItems : D → Option (List D)
  | .list xs => some xs
  | .tuple xs => some xs
  | _ => none
theorem rp_items {K : Fg} {M : Addr → Prop} {H : Hp} {v : V} {d : D} {xs : List D} (r : Rp K M H v d) (h : dItems d = some xs) : ∃ a us, v = .ref a ∧ (LsA K M H a us ∨ TsA K M H a us) ∧ RpA K M H us xs := by
  cases r with
  | non => cases h
  | bl _ => cases h
  | int _ => cases h
  | str _ => cases h
  | dic _ _ _ => cases h
  | lst h1 h2 => cases h; exact ⟨_, _, rfl, .inl h1, h2⟩
  | tup h1 h2 => cases h; exact ⟨_, _, rfl, .inr h1, h2⟩
theorem wE_listOf (w : wD C ts y fun ds y1 => ∃ d xs, ds = [d] ∧ dItems d = some xs ∧ Q (.d (.list xs)) y1) :
    wE C (tCB (fun xs H Q => ∃ p ys, xs = [.ref p] ∧ (SqL C.K H p ys ∨ SqT C.K H p ys) ∧ ∀ l, H l = none → Q (.ref l) (upd H l (.lst ys))) ts) y Q := by
  refine wE_cb (res := fun ds g => ∃ d xs, ds = [d] ∧ dItems d = some xs ∧ g = .list xs) ?_ (wD_mono w fun ds y1 ⟨i, xs, e, c, q⟩ => ⟨_, ⟨i, xs, e, c, rfl⟩, q⟩)
  rintro M H xs ds g Q fr r ⟨d, es, rfl, c, rfl⟩ k
  obtain ⟨v, rfl, rv⟩ := rpA1 r
  obtain ⟨a, us, rfl, h1, h2⟩ := rp_items rv c
  refine ⟨a, us, rfl, h1.elim (fun z => .inl z.sq) (fun z => .inr z.sq), fun p hp => k _ _ (grow_upd hp) (.lst (.inl ⟨fr p hp, .inl upd_same⟩) (h2.go fun a o n e => ⟨n, grow_upd hp a o e⟩))⟩
theorem wE_tupOf (w : wD C ts y fun ds y1 => ∃ d xs, ds = [d] ∧ dItems d = some xs ∧ Q (.d (.tuple xs)) y1) :
    wE C (tCB (fun xs H Q => ∃ p ys, xs = [.ref p] ∧ ((SqL C.K H p ys ∧ ∀ l, H l = none → Q (.ref l) (upd H l (.tup ys))) ∨ (SqT C.K H p ys ∧ Q (.ref p) H))) ts) y Q := by
  refine wE_cb (res := fun ds g => ∃ d xs, ds = [d] ∧ dItems d = some xs ∧ g = .tuple xs) ?_ (wD_mono w fun ds y1 ⟨i, xs, e, c, q⟩ => ⟨_, ⟨i, xs, e, c, rfl⟩, q⟩)
  rintro M H xs ds g Q fr r ⟨d, es, rfl, c, rfl⟩ k
  obtain ⟨v, rfl, rv⟩ := rpA1 r
  obtain ⟨a, us, rfl, h1, h2⟩ := rp_items rv c
  refine ⟨a, us, rfl, ?_⟩
  rcases h1 with h1 | h1
  · exact .inl ⟨h1.sq, fun p hp => k _ _ (grow_upd hp) (.tup (.inl ⟨fr p hp, .inl upd_same⟩) (h2.go fun a o n e => ⟨n, grow_upd hp a o e⟩))⟩
  · exact .inr ⟨h1.sq, k _ H (fun _ _ e => e) (.tup h1 h2)⟩
theorem wE_repr (w : wD C ts y fun ds y1 => ∃ d, ds = [d] ∧ dsm d = true ∧ d.showable = true ∧ d.depth ≤ 60 ∧ d.shown.length ≤ sizeLine ∧ Q (.d (.str d.shown)) y1) : wE C (tCB (rRepr C.K) ts) y Q := by
  refine wE_cb (res := fun ds g => ∃ d, ds = [d] ∧ dsm d = true ∧ d.showable = true ∧ d.depth ≤ 60 ∧ d.shown.length ≤ sizeLine ∧ g = .str d.shown) ?_ (wD_mono w fun ds y1 ⟨d, e, c1, c2, c3, c4, q⟩ => ⟨_, ⟨d, e, c1, c2, c3, c4, rfl⟩, q⟩)
  rintro M H xs ds g Q _ r ⟨d, rfl, c1, c2, c3, c4, rfl⟩ k
  obtain ⟨v, rfl, rv⟩ := rpA1 r
  exact ⟨v, d, rfl, rv.any, c1, c2, c3, c4, k _ H (fun _ _ e => e) (.str _)⟩
/-! isinstance -/
def tyN : D → String
  | .none => "NoneType"
  | .bool _ => "bool"
  | .int _ => "int"
  | .str _ => "str"
  | .list _ => "list"
  | .tuple _ => "tuple"
  | .dict _ => "dict"
def tyNames : List String := ["NoneType", "bool", "int", "str", "list", "tuple", "dict"]
def isT (T : String) (d : D) : Bool := (kitB (tyN d) T).getD false
theorem rp_ty {K : Fg} {M : Addr → Prop} {H : Hp} {v : V} {d : D} (r : Rp K M H v d) : TyX K H v (.type (tyN d)) := by
  cases r with
  | non => exact .base .non
  | bl b => exact .base (.bl b)
  | int b => exact .base (.int b)
  | str b => exact .base (.str b)
  | lst h _ =>
    rcases h with ⟨_, h | ⟨o, h⟩⟩ | ⟨o, its, n, h1, h2, _⟩
    · exact .base (.lst h)
    · exact .base (.frz h)
    · exact .kList h1 h2
  | tup h _ =>
    rcases h with ⟨_, h | ⟨o, h⟩⟩ | ⟨o, its, n, h1, h2, _⟩
    · exact .base (.tup h)
    · exact .fTuple h
    · exact .kTuple h1 h2
  | dic _ h _ => exact .base (.dK h)
theorem kit_isT {T : String} (hT : (tyNames.all fun n => (kitB n T).isSome) = true) (d : D) : kitB (tyN d) T = some (isT T d) := by
  have h : (kitB (tyN d) T).isSome = true := by
    have z := List.all_eq_true.mp hT
    exact z (tyN d) (by cases d <;> simp [tyN, tyNames])
  unfold isT
  cases e : kitB (tyN d) T with
  | none => rw [e] at h; cases h
  | some b => rfl
theorem wE_isi {T : String} (w : wE C te y fun z y1 => ∃ d, z = .d d ∧ Q (.d (.bool (isT T d))) y1) (hT : (tyNames.all fun n => (kitB n T).isSome) = true := by decide +kernel) : wE C (tCB (rIsi C.K) (tCons te (tCons (tC (.ty T)) tNil))) y Q := by
  intro F σ H K wd k
  refine w F σ H _ wd fun x H1 z y1 w1 g1 s1 r1 q1 => ?_
  obtain ⟨d, rfl, h⟩ := q1
  exact ⟨x, .ty T, _, _, isT T d, rfl, .ty T, rp_ty r1, kit_ty (kit_isT hT d), k _ H1 (.d (.bool (isT T d))) y1 w1 g1 s1 (.bl _) h⟩
theorem wE_isi2 {T U : String} (w : wE C te y fun z y1 => ∃ d, z = .d d ∧ Q (.d (.bool (isT T d || isT U d))) y1) (hT : (tyNames.all fun n => (kitB n T).isSome) = true := by decide +kernel) (hU : (tyNames.all fun n => (kitB n U).isSome) = true := by decide +kernel) :
    wE C (tCB (rIsiT C.K) (tCons te (tCons (tTup (tCons (tC (.ty T)) (tCons (tC (.ty U)) tNil))) tNil))) y Q := by
  intro F σ H K wd k
  refine w F σ H _ wd fun x H1 z y1 w1 g1 s1 r1 q1 => ?_
  obtain ⟨d, rfl, h⟩ := q1
  refine ⟨by show 2 ≤ sizeLine; decide, fun p hp => ?_⟩
  have gr := grow_upd (o := .tup [.ty T, .ty U]) hp
  refine ⟨x, p, [.ty T, .ty U], _, [.type T, .type U], isT T d || isT U d, rfl, upd_same, .cons (.ty T) (.cons (.ty U) .nil), rp_ty (Rp.go (go_grow (F := F) (σ := σ) (y := y1) gr) r1), ?_, k _ _ (.d (.bool (isT T d || isT U d))) y1 (w1.grow gr) (g1.trans (go_grow gr)) s1 (.bl _) h⟩
  refine kitAny_cons (b := isT T d) (kit_ty (kit_isT hT d)) (fun e => ?_) (fun e => by rw [e]; rfl)
  refine kitAny_cons (b := isT U d) (kit_ty (kit_isT hU d)) (fun e2 => ?_) (fun e2 => by rw [e, e2]; rfl)
  rw [e, e2]
  rfl
/-! slices -/
variable {tl th : TO}
theorem wO_no {q : Option Int → S → Prop} (h : q none y) : wO C tNoPart y q := fun F σ H K wd k => k none H y wd GoH.refl (Sh.refl y) h
theorem wO_part {q : Option Int → S → Prop} (w : wE C te y fun z y1 => ∃ i, z = .d (.int i) ∧ q (some i) y1) : wO C (tPart te) y q := by
  intro F σ H K wd k
  refine w F σ H _ wd fun x H1 z y1 w1 g1 s1 r1 q1 => ?_
  obtain ⟨i, rfl, h⟩ := q1
  exact ⟨i, rp_int r1, k (some i) H1 y1 w1 g1 s1 h⟩
def cutD {α : Type} (xs : List α) (lo hi : Option Int) : List α := (xs.drop (HT.sIx xs.length 0 lo)).take (HT.sIx xs.length xs.length hi - HT.sIx xs.length 0 lo)
theorem rpA_cut {K : Fg} {M : Addr → Prop} {H : Hp} {vs : List V} {ds : List D} (r : RpA K M H vs ds) (lo hi : Option Int) : RpA K M H (cutV vs lo hi) (cutD ds lo hi) := by
  unfold cutV cutD
  rw [r.len]
  exact (r.drop _).take _
def dCut (d : D) (lo hi : Option Int) : Option D := match d with
  | .list xs => some (.list (cutD xs lo hi))
  | .tuple xs => some (.tuple (cutD xs lo hi))
  | .str z => if z.length ≤ sizeLine then some (.str (cutS z lo hi)) else none
  | _ => none
def rSlD (K : Fg) : V → Option Int → Option Int → Hp → VK → Prop := fun x lo hi H Q => rSlL K x lo hi H Q ∨ rSlA K x lo hi H Q ∨ rSlS x lo hi H Q
theorem sl_any {X : Cx} : SlR X (rSlD X.K) := sl_list.or (sl_tupA.or sl_str)
theorem cutD_whole {α : Type} (xs : List α) (lo hi : Option Int) (h : HT.sIx xs.length 0 lo = 0 ∧ HT.sIx xs.length xs.length hi = xs.length) : cutD xs lo hi = xs := by
  unfold cutD
  rw [h.1, h.2, List.drop_zero, Nat.sub_zero, List.take_length]
theorem wE_sl (w : wE C te y fun z y1 => wO C tl y1 fun l y2 => wO C th y2 fun h y3 => ∃ d g, z = .d d ∧ dCut d l h = some g ∧ Q (.d g) y3) : wE C (tSl (rSlD C.K) te tl th) y Q := by
  intro F σ H K wd k
  refine w F σ H _ wd fun x H1 z y1 w1 g1 s1 r1 q1 => ?_
  refine q1 F σ H1 _ w1 fun l H2 y2 w2 g2 s2 q2 => ?_
  refine q2 F σ H2 _ w2 fun h H3 y3 w3 g3 s3 q3 => ?_
  obtain ⟨d, g, rfl, c, hq⟩ := q3
  have r3 : Rp C.K (Mv F σ y3) H3 x d := Rp.go (g2.trans g3) r1
  have G := (g1.trans g2).trans g3
  have SS := (s1.trans s2).trans s3
  cases r3 with
  | non => cases c
  | bl _ => cases c
  | int _ => cases c
  | dic _ _ _ => cases c
  | str z =>
    simp only [dCut] at c
    by_cases hz : z.length ≤ sizeLine
    · rw [if_pos hz] at c; cases c
      exact .inr (.inr ⟨z, rfl, hz, k _ H3 (.d (.str (cutS z l h))) y3 w3 G SS (.str _) hq⟩)
    · rw [if_neg hz] at c; cases c
  | @lst a xs ds h1 h2 =>
    cases c
    refine .inl ⟨a, xs, rfl, h1.sq, fun p hp => ?_⟩
    have gr := grow_upd (o := .lst (cutV xs l h)) hp
    exact k _ _ (.d (.list (cutD ds l h))) y3 (w3.grow gr) (G.trans (go_grow gr)) SS (.lst (.inl ⟨w3.new hp, .inl upd_same⟩) ((rpA_cut h2 l h).go (go_grow gr))) hq
  | @tup a xs ds h1 h2 =>
    cases c
    refine .inr (.inl ⟨a, xs, rfl, h1.sq, fun e => ?_, fun e p hp => ?_⟩)
    · rw [h2.len] at e
      rw [cutD_whole ds l h e] at hq
      exact k _ H3 (.d (.tuple ds)) y3 w3 G SS (.tup h1 h2) hq
    · have gr := grow_upd (o := .tup (cutV xs l h)) hp
      exact k _ _ (.d (.tuple (cutD ds l h))) y3 (w3.grow gr) (G.trans (go_grow gr)) SS (.tup (.inl ⟨w3.new hp, .inl upd_same⟩) ((rpA_cut h2 l h).go (go_grow gr))) hq
/-! texts' methods -/
theorem wE_starts (w : wE C ta y fun z y1 => ∃ a, z = .d (.str a) ∧ wE C tb y1 fun z' y2 => ∃ b, z' = .d (.str b) ∧ Q (.d (.bool (Txt.startswith a b))) y2) :
    wE C (tM1 (fun x xs H Q => ∃ a b, x = .str a ∧ xs = [.str b] ∧ Q (.bl (Txt.startswith a b)) H) ta tb) y Q := by
  intro F σ H K wd k
  refine w F σ H _ wd fun x H1 z y1 w1 g1 s1 r1 q1 => ?_
  obtain ⟨a, rfl, q1⟩ := q1
  have e := rp_str r1
  subst e
  refine ⟨⟨a, rfl⟩, q1 F σ H1 _ w1 fun x2 H2 z' y2 w2 g2 s2 r2 q2 => ?_⟩
  obtain ⟨b, rfl, hq⟩ := q2
  exact ⟨a, b, rfl, by rw [rp_str r2], k _ H2 (.d (.bool _)) y2 w2 (g1.trans g2) (s1.trans s2) (.bl _) hq⟩
theorem wE_join (w : wE C ta y fun z y1 => ∃ a, z = .d (.str a) ∧ wE C tb y1 fun z' y2 => ∃ (d : D) (ys : List Str), z' = .d d ∧ dItems d = some (ys.map PyData.str) ∧ (ys.map (·.length)).sum + ys.length * a.length ≤ 16777216 ∧ Q (.d (.str (Txt.join a ys))) y2) :
    wE C (tM1 (fun x xs H Q => ∃ a p, ∃ ys : List Str, x = .str a ∧ xs = [.ref p] ∧ (SqL C.K H p (ys.map V.str) ∨ SqT C.K H p (ys.map V.str)) ∧ (ys.map (·.length)).sum + ys.length * a.length ≤ 16777216 ∧ Q (.str (Txt.join a ys)) H) ta tb) y Q := by
  intro F σ H K wd k
  refine w F σ H _ wd fun x H1 z y1 w1 g1 s1 r1 q1 => ?_
  obtain ⟨a, rfl, q1⟩ := q1
  have e := rp_str r1
  subst e
  refine ⟨⟨a, rfl⟩, q1 F σ H1 _ w1 fun x2 H2 z' y2 w2 g2 s2 r2 q2 => ?_⟩
  obtain ⟨d, ys, rfl, hi, hz, hq⟩ := q2
  obtain ⟨p, us, rfl, h1, h2⟩ := rp_items r2 hi
  have e := rpA_strs h2
  subst e
  exact ⟨a, p, ys, rfl, rfl, h1.elim (fun z => .inl z.sq) (fun z => .inr z.sq), hz, k _ H2 (.d (.str _)) y2 w2 (g1.trans g2) (s1.trans s2) (.str _) hq⟩
end
end Tq

set_option maxRecDepth 100000
set_option maxHeartbeats 2000000
namespace Tq
open PySem PySem.Spec PyProof.Rows L2
section
variable {C : Ct} {y : S} {ta tb tc te : TE} {t u : TT} {tx tz : TS} {ts : TA} {e : En} {R : Bool → S → Prop}
theorem EnOk.go {σ σ' : St} {y' : S} {H H' : Hp} {E : Ends} (k : EnOk C F σ y H e E) (g : Go F σ y H σ' y' H') : EnOk C F σ' y' H' e E :=
  ⟨fun a b c w g2 q => k.nx a b c w (g.trans g2) q, fun a b c d f w g2 r q => k.rt a b c d f w (g.trans g2) r q, fun a b c w g2 q => k.bk a b c w (g.trans g2) q, fun a b c w g2 q => k.ct a b c w (g.trans g2) q⟩
theorem wS_seq (w : wS C tx y { e with nx := fun y1 => wS C tz y1 e }) : wS C (tSeq tx tz) y e := by
  intro F σ H E st wd k
  refine w F σ H _ st wd ⟨fun σ1 H1 y1 w1 g1 q => ?_, k.rt, k.bk, k.ct⟩
  exact q F σ1 H1 E st w1 (k.go g1)
theorem wS_next (h : e.nx y) : wS C tNext y e := fun F σ H E st wd k => k.nx σ H y wd GoH.refl h
theorem wS_ret (w : wE C te y fun z y1 => e.rt z y1) : wS C (tRet te) y e := by
  intro F σ H E st wd k
  exact w F σ H _ wd fun v H1 z y1 w1 g1 s1 r1 q => k.rt σ v H1 z y1 w1 g1 r1 q
theorem wS_retN (h : e.rt (.d .none) y) : wS C tRetN y e := fun F σ H E st wd k => k.rt σ .non H (.d .none) y wd GoH.refl .non h
theorem wS_drop (w : wE C te y fun z y1 => e.nx y1) : wS C (tDrop te) y e := by
  intro F σ H E st wd k
  exact w F σ H _ wd fun v H1 z y1 w1 g1 s1 r1 q => k.nx σ H1 y1 w1 g1 q
theorem wS_asg {i : Nat} (w : wE C te y fun z y1 => ∃ d, z = .d d ∧ e.nx (y1.set i (some (.d d)))) (hp : i ≠ 0 ∨ C.pp = false := by first | exact Or.inr rfl | exact Or.inl (by decide)) : wS C (tAsg te (gName i)) y e := by
  intro F σ H E st wd k
  refine w F σ H _ wd fun v H1 z y1 w1 g1 s1 r1 q => ?_
  obtain ⟨d, rfl, q⟩ := q
  exact k.nx _ H1 _ (w1.set_d hp r1) (g1.trans go_set_d) q
theorem wS_if (w : wT C t y fun b y1 => if b = true then wS C tx y1 e else wS C tz y1 e) : wS C (tIfS t tx tz) y e := by
  intro F σ H E st wd k
  refine w F σ H _ wd fun b H1 y1 w1 g1 s1 q => ?_
  cases b with
  | true => exact q F σ H1 E st w1 (k.go g1)
  | false => exact q F σ H1 E st w1 (k.go g1)
theorem wS_par {i j : Nat} (w : wD C ts y fun ds y1 => ∃ d g, ds = [d, g] ∧ e.nx ((y1.set i (some (.d d))).set j (some (.d g)))) (hp : i ≠ 0 ∨ C.pp = false := by first | exact Or.inr rfl | exact Or.inl (by decide)) (hq : j ≠ 0 ∨ C.pp = false := by first | exact Or.inr rfl | exact Or.inl (by decide)) : wS C (tPar i j ts) y e := by
  intro F σ H E st wd k
  refine w F σ H _ wd fun vs H1 ds y1 w1 g1 s1 r1 q => ?_
  obtain ⟨d, g, rfl, q⟩ := q
  obtain ⟨v, u, rfl, rv, ru⟩ := rpA2 r1
  refine ⟨v, u, rfl, k.nx _ H1 _ ((w1.set_d hp rv).set_d hq (ru.go go_set_d)) ((g1.trans go_set_d).trans go_set_d) q⟩
theorem wS_aug {i : Nat} {f : Int → Int → Int} {a : Int} (hx : y[i]? = some (some (.d (.int a)))) (w : wE C te y fun z y1 => ∃ b, z = .d (.int b) ∧ e.nx (y1.set i (some (.d (.int (f a b)))))) (hp : i ≠ 0 ∨ C.pp = false := by first | exact Or.inr rfl | exact Or.inl (by decide)) : wS C (tAug i te (ipI f)) y e := by
  intro F σ H E st wd k
  obtain ⟨x, h1, h2⟩ := wd.slot i _ hx
  refine ⟨x, h1, w F σ H _ wd fun v H1 z y1 w1 g1 s1 r1 q => ?_⟩
  obtain ⟨b, rfl, q⟩ := q
  exact ⟨a, b, rp_int h2, rp_int r1, k.nx _ H1 _ (w1.set_d hp (.int _)) (g1.trans go_set_d) q⟩
theorem wS_mono {e' : En} (h : wS C tx y e) (h1 : ∀ y, e.nx y → e'.nx y) (h2 : ∀ z y, e.rt z y → e'.rt z y) (h3 : ∀ y, e.bk y → e'.bk y) (h4 : ∀ y, e.ct y → e'.ct y) : wS C tx y e' := fun F σ H E st wd k =>
  h F σ H E st wd ⟨fun a b c w g q => k.nx a b c w g (h1 _ q), fun a b c d f w g r q => k.rt a b c d f w g r (h2 _ _ q), fun a b c w g q => k.bk a b c w g (h3 _ q), fun a b c w g q => k.ct a b c w g (h4 _ q)⟩
/-! ### the usual pairs -/
theorem wS_seqA {i : Nat} (w : wE C te y fun z y1 => ∃ d, z = .d d ∧ wS C tz (y1.set i (some (.d d))) e) (hp : i ≠ 0 ∨ C.pp = false := by first | exact Or.inr rfl | exact Or.inl (by decide)) : wS C (tSeq (tAsg te (gName i)) tz) y e := wS_seq (wS_asg w hp)
theorem wS_seqP {i j : Nat} (w : wD C ts y fun ds y1 => ∃ d g, ds = [d, g] ∧ wS C tz ((y1.set i (some (.d d))).set j (some (.d g))) e) (hp : i ≠ 0 ∨ C.pp = false := by first | exact Or.inr rfl | exact Or.inl (by decide)) (hq : j ≠ 0 ∨ C.pp = false := by first | exact Or.inr rfl | exact Or.inl (by decide)) : wS C (tSeq (tPar i j ts) tz) y e := wS_seq (wS_par w hp hq)
theorem wS_seqI (w : wT C t y fun b y1 => if b = true then wS C tx y1 { nx := fun y2 => wS C tz y2 e, rt := e.rt, bk := e.bk, ct := e.ct } else wS C tz y1 e) : wS C (tSeq (tIfS t tx tNext) tz) y e := by
  refine wS_seq (wS_if (wT_mono w fun b y1 h => ?_))
  cases b with
  | true => exact h
  | false => exact wS_next h
theorem wS_ifN (w : wT C t y fun b y1 => if b = true then wS C tx y1 e else e.nx y1) : wS C (tIfS t tx tNext) y e := by
  refine wS_if (wT_mono w fun b y1 h => ?_)
  cases b with
  | true => exact h
  | false => exact wS_next h
/-! ### what is walked -/
def JOk (C : Ct) (F : Fr) (J : It) (σ : St) (y : S) (H : Hp) (xs : List D) : Prop := ∀ (F1 : Fr) σ1 y1 H1, Wd C F1 σ1 y1 H1 → GoH (Mv F σ y) H (Mv F1 σ1 y1) H1 → ∀ i : Nat, (i < xs.length → J.go i H1) ∧ (xs.length ≤ i → J.stop i H1) ∧
  ∀ x, xs[i]? = some x → ∀ v H2, J.yld i H1 v H2 → (∀ a o, H1 a = some o → H2 a = some o) ∧ Rp C.K (Mv F1 σ1 y1) H2 v x
def wI (C : Ct) (wi : TI) (y : S) (Q : List D → S → Prop) : Prop := ∀ (F : Fr) σ H (R : It → Hp → Prop), Wd C F σ y H → (∀ J H' xs y', Wd C F σ y' H' → Go F σ y H σ y' H' → Sh y y' → JOk C F J σ y' H' xs → Q xs y' → R J H') → wi σ H R
variable {Qi : List D → S → Prop} {wi : TI}
theorem wI_list (w : wE C te y fun z y1 => ∃ xs, z = .d (.list xs) ∧ Qi xs y1) : wI C (iList C.K te) y Qi := by
  intro F σ H R wd k
  refine w F σ H _ wd fun v H1 z y1 w1 g1 s1 r1 q => ?_
  obtain ⟨xs, rfl, q⟩ := q
  obtain ⟨a, us, rfl, h1, h2⟩ := rp_lst r1
  refine ⟨a, rfl, ⟨us, h1.sq⟩, k _ H1 xs y1 w1 g1 s1 (fun F1 σ2 y2 H2 w2 g2 i => ?_) q⟩
  have e1 := (h1.go g2).sq
  have e2 := h2.go g2
  refine ⟨fun hi => ?_, fun hi => ⟨us, e1, by rw [h2.len]; exact hi⟩, fun x hx v H3 hy => ?_⟩
  · have : i < us.length := by rw [h2.len]; exact hi
    exact ⟨us, us[i], e1, by simp [this]⟩
  · obtain ⟨rfl, hv⟩ := hy
    obtain ⟨d, hd, rd⟩ := e2.getV (hv us e1)
    rw [hx] at hd
    cases hd
    exact ⟨fun _ _ e => e, rd⟩
theorem wI_tup (w : wE C te y fun z y1 => ∃ xs, z = .d (.tuple xs) ∧ Qi xs y1) : wI C (iTup C.K te) y Qi := by
  intro F σ H R wd k
  refine w F σ H _ wd fun v H1 z y1 w1 g1 s1 r1 q => ?_
  obtain ⟨xs, rfl, q⟩ := q
  obtain ⟨a, us, rfl, h1, h2⟩ := rp_tup r1
  refine ⟨a, rfl, ⟨us, h1.sq⟩, k _ H1 xs y1 w1 g1 s1 (fun F1 σ2 y2 H2 w2 g2 i => ?_) q⟩
  have e1 := (h1.go g2).sq
  have e2 := h2.go g2
  refine ⟨fun hi => ?_, fun hi => ⟨us, e1, by rw [h2.len]; exact hi⟩, fun x hx v H3 hy => ?_⟩
  · have : i < us.length := by rw [h2.len]; exact hi
    exact ⟨us, us[i], e1, by simp [this]⟩
  · obtain ⟨rfl, hv⟩ := hy
    obtain ⟨d, hd, rd⟩ := e2.getV (hv us e1)
    rw [hx] at hd
    cases hd
    exact ⟨fun _ _ e => e, rd⟩
/-- the signs of a text -/
def signs (z : Str) : List D := z.cps.toList.map fun c => .str ⟨#[c]⟩
theorem signs_len (z : Str) : (signs z).length = z.cps.size := by unfold signs; rw [List.length_map, Array.length_toList]
theorem wI_str (w : wE C te y fun z y1 => ∃ x, z = .d (.str x) ∧ Qi (signs x) y1) : wI C (iStr te) y Qi := by
  intro F σ H R wd k
  refine w F σ H _ wd fun v H1 z y1 w1 g1 s1 r1 q => ?_
  obtain ⟨x, rfl, q⟩ := q
  refine ⟨x, rp_str r1, k _ H1 (signs x) y1 w1 g1 s1 (fun F1 σ2 y2 H2 w2 g2 i => ⟨fun hi => ?_, fun hi => ?_, fun d hd v H3 hy => ?_⟩) q⟩
  · rw [signs_len] at hi; exact hi
  · rw [signs_len] at hi; exact hi
  · obtain ⟨rfl, c, hc, rfl⟩ := hy
    refine ⟨fun _ _ e => e, ?_⟩
    unfold signs at hd
    rw [List.getElem?_map, Array.getElem?_toList, hc] at hd
    cases hd
    exact .str _
def rangeD (lo : Int) (n : Nat) : List D := (List.range n).map fun k => .int (lo + (k : Nat))
theorem rangeD_len (lo : Int) (n : Nat) : (rangeD lo n).length = n := by unfold rangeD; rw [List.length_map, List.length_range]
theorem rangeD_get {lo : Int} {n i : Nat} {x : D} (h : (rangeD lo n)[i]? = some x) : i < n ∧ x = .int (lo + (i : Nat)) := by
  have hl : i < n := by have := (List.getElem?_eq_some_iff.mp h).1; rwa [rangeD_len] at this
  unfold rangeD at h
  rw [List.getElem?_map, List.getElem?_range hl] at h
  cases h
  exact ⟨hl, rfl⟩
theorem wI_rng1 (w : wD C ts y fun ds y1 => ∃ j : Int, ds = [.int j] ∧ -(2 ^ 62) ≤ j ∧ j < 2 ^ 62 ∧ Qi (rangeD 0 j.toNat) y1) : wI C (iRng1 ts) y Qi := by
  intro F σ H R wd k
  refine w F σ H _ wd fun vs H1 ds y1 w1 g1 s1 r1 q => ?_
  obtain ⟨j, rfl, h1, h2, q⟩ := q
  obtain ⟨v, rfl, rv⟩ := rpA1 r1
  have e := rp_int rv
  subst e
  refine ⟨j, rfl, h1, h2, k _ H1 _ y1 w1 g1 s1 (fun F1 σ2 y2 H2 w2 g2 i => ⟨fun hi => ?_, fun hi => ?_, fun d hd v H3 hy => ?_⟩) q⟩
  · rw [rangeD_len] at hi; exact hi
  · rw [rangeD_len] at hi; exact hi
  · obtain ⟨rfl, rfl⟩ := hy
    obtain ⟨_, rfl⟩ := rangeD_get hd
    exact ⟨fun _ _ e => e, .int _⟩
theorem wI_rng2 (w : wD C ts y fun ds y1 => ∃ i j : Int, ds = [.int i, .int j] ∧ (-(2 ^ 62) ≤ i ∧ i < 2 ^ 62 ∧ -(2 ^ 62) ≤ j ∧ j < 2 ^ 62) ∧ Qi (rangeD i (j - i).toNat) y1) : wI C (iRng2 ts) y Qi := by
  intro F σ H R wd k
  refine w F σ H _ wd fun vs H1 ds y1 w1 g1 s1 r1 q => ?_
  obtain ⟨i0, j, rfl, h1, q⟩ := q
  obtain ⟨v, u, rfl, rv, ru⟩ := rpA2 r1
  have e := rp_int rv
  have e' := rp_int ru
  subst e e'
  refine ⟨i0, j, rfl, h1, k _ H1 _ y1 w1 g1 s1 (fun F1 σ2 y2 H2 w2 g2 i => ⟨fun hi => ?_, fun hi => ?_, fun d hd v H3 hy => ?_⟩) q⟩
  · rw [rangeD_len] at hi; exact hi
  · rw [rangeD_len] at hi; exact hi
  · obtain ⟨rfl, rfl⟩ := hy
    obtain ⟨_, rfl⟩ := rangeD_get hd
    exact ⟨fun _ _ e => e, .int _⟩
/-! ### for, while -/
/-- the target takes a datum -/
def wG (C : Ct) (g : TG) (d : D) (y : S) (Q : S → Prop) : Prop := ∀ (F : Fr) σ H (v : V) (R : St → Hp → Prop), Wd C F σ y H → Rp C.K (Mv F σ y) H v d → (∀ σ' y', Wd C F σ' y' H → Go F σ y H σ' y' H → Q y' → R σ' H) → g v σ H R
variable {g : TG} {Qg : S → Prop}
theorem wG_name {i : Nat} {d : D} (h : Qg (y.set i (some (.d d)))) (hp : i ≠ 0 ∨ C.pp = false := by first | exact Or.inr rfl | exact Or.inl (by decide)) : wG C (gName i) d y Qg := fun F σ H v R wd r k => k _ _ (wd.set_d hp r) go_set_d h
def wGs (C : Ct) (g : TGs) (ds : List D) (y : S) (Q : S → Prop) : Prop := ∀ (F : Fr) σ H (vs : List V) (R : St → Hp → Prop), Wd C F σ y H → RpA C.K (Mv F σ y) H vs ds → (∀ σ' y', Wd C F σ' y' H → Go F σ y H σ' y' H → Q y' → R σ' H) → g vs σ H R
theorem wGs_nil (h : Qg y) : wGs C gNil [] y Qg := fun F σ H vs R wd r k => by
  cases r
  exact ⟨rfl, k σ y wd GoH.refl h⟩
theorem wGs_cons {gs : TGs} {d : D} {ds : List D} (h : wG C g d y fun y1 => wGs C gs ds y1 Qg) : wGs C (gCons g gs) (d :: ds) y Qg := fun F σ H vs R wd r k => by
  cases r with
  | @cons v _ vs _ r1 r2 =>
    refine ⟨v, vs, rfl, h F σ H v _ wd r1 fun σ1 y1 w1 g1 q1 => ?_⟩
    exact q1 F σ1 H vs R w1 (r2.go g1) fun σ2 y2 w2 g2 q2 => k σ2 y2 w2 (g1.trans g2) q2
theorem wG_tup {n : Nat} {gs : TGs} {ds : List D} (hn : ds.length = n) (h : wGs C gs ds y Qg) : wG C (gTup C.K n gs) (.tuple ds) y Qg := fun F σ H v R wd r k => by
  obtain ⟨a, us, rfl, h1, h2⟩ := rp_tup r
  exact ⟨a, us, rfl, h1.sq, by rw [h2.len]; exact hn, h F σ H us R wd h2 k⟩
theorem wS_asgG (w : wE C te y fun z y1 => ∃ d, z = .d d ∧ wG C g d y1 e.nx) : wS C (tAsg te g) y e := by
  intro F σ H E st wd k
  refine w F σ H _ wd fun v H1 z y1 w1 g1 s1 r1 q => ?_
  obtain ⟨d, rfl, q⟩ := q
  exact q F σ H1 v _ w1 r1 fun σ2 y2 w2 g2 q2 => k.nx σ2 H1 y2 w2 (g1.trans g2) q2
theorem wS_for (w : wI C wi y fun xs y1 => ∃ I : Nat → S → Prop, I 0 y1 ∧ (∀ i x y2, xs[i]? = some x → I i y2 → wG C g x y2 fun y3 => wS C tx y3 { nx := I (i + 1), ct := I (i + 1), bk := e.nx, rt := e.rt }) ∧ (∀ y2, I xs.length y2 → e.nx y2)) :
    wS C (tFor wi g tx) y e := by
  intro F σ H E st wd k
  refine w F σ H _ wd fun J H1 xs y1 w1 g1 s1 hJ ⟨I, h0, hs, hd⟩ => ?_
  refine ⟨fun i m σ2 H2 => m = xs.length - i ∧ i ≤ xs.length ∧ ∃ y2, Wd C F σ2 y2 H2 ∧ Go F σ y1 H1 σ2 y2 H2 ∧ I i y2, ⟨xs.length, by simp, Nat.zero_le _, y1, w1, GoH.refl, h0⟩, ?_⟩
  rintro i m σ2 H2 ⟨rfl, hi, y2, w2, g2, hI⟩
  obtain ⟨j1, j2, j3⟩ := hJ F σ2 y2 H2 w2 g2 i
  by_cases hlt : i < xs.length
  · refine .inr ⟨j1 hlt, fun σ3 H3 => ∃ y3, Wd C F σ3 y3 H3 ∧ Go F σ y1 H1 σ3 y3 H3 ∧ I (i + 1) y3, fun σ3 H3 ⟨y3, w3, g3, h3⟩ => ⟨xs.length - (i + 1), by omega, rfl, hlt, y3, w3, g3, h3⟩, fun v H3 hy => ?_⟩
    have ex : xs[i]? = some xs[i] := List.getElem?_eq_getElem hlt
    obtain ⟨gr, rv⟩ := j3 _ ex v H3 hy
    have w3 := w2.grow gr
    have g3 := g2.trans (go_grow (F := F) (σ := σ2) (y := y2) gr)
    refine hs i _ y2 ex hI F σ2 H3 v _ w3 rv fun σ4 y4 w4 g4 q4 => ?_
    refine q4 F σ4 H3 _ st w4 ⟨fun σ5 H5 y5 w5 g5 q5 => ⟨y5, w5, (g3.trans g4).trans g5, q5⟩, fun σ5 v5 H5 z5 y5 w5 g5 r5 q5 => k.rt σ5 v5 H5 z5 y5 w5 (((g1.trans g3).trans g4).trans g5) r5 q5,
      fun σ5 H5 y5 w5 g5 q5 => k.nx σ5 H5 y5 w5 (((g1.trans g3).trans g4).trans g5) q5, fun σ5 H5 y5 w5 g5 q5 => ⟨y5, w5, (g3.trans g4).trans g5, q5⟩⟩
  · have ei : i = xs.length := by omega
    subst ei
    exact .inl ⟨j2 (Nat.le_refl _), k.nx σ2 H2 y2 w2 (g1.trans g2) (hd y2 hI)⟩
/-- W: a word of the slots, with a measure -/
theorem wS_while (W : Nat → S → Prop) (h0 : ∃ m, W m y) (hs : ∀ m y1, W m y1 → wT C t y1 fun b y2 => if b = true then wS C tx y2 { nx := fun y3 => ∃ m', m' < m ∧ W m' y3, ct := fun y3 => ∃ m', m' < m ∧ W m' y3, bk := e.nx, rt := e.rt } else e.nx y2) :
    wS C (tWhile t tx) y e := by
  intro F σ H E st wd k
  obtain ⟨m0, h0⟩ := h0
  refine ⟨fun m σ1 H1 => ∃ y1, Wd C F σ1 y1 H1 ∧ Go F σ y H σ1 y1 H1 ∧ W m y1, ⟨m0, y, wd, GoH.refl, h0⟩, ?_⟩
  rintro m σ1 H1 ⟨y1, w1, g1, hw⟩
  refine hs m y1 hw F σ1 H1 _ w1 fun b H2 y2 w2 g2 s2 q => ?_
  cases b with
  | true =>
    refine ⟨fun σ3 H3 => ∃ m', m' < m ∧ ∃ y3, Wd C F σ3 y3 H3 ∧ Go F σ y H σ3 y3 H3 ∧ W m' y3, fun σ3 H3 ⟨m', hm, z⟩ => ⟨m', hm, z⟩, ?_⟩
    exact q F σ1 H2 _ st w2 ⟨fun σ5 H5 y5 w5 g5 ⟨m', hm, q5⟩ => ⟨m', hm, y5, w5, (g1.trans g2).trans g5, q5⟩, fun σ5 v5 H5 z5 y5 w5 g5 r5 q5 => k.rt σ5 v5 H5 z5 y5 w5 ((g1.trans g2).trans g5) r5 q5,
      fun σ5 H5 y5 w5 g5 q5 => k.nx σ5 H5 y5 w5 ((g1.trans g2).trans g5) q5, fun σ5 H5 y5 w5 g5 ⟨m', hm, q5⟩ => ⟨m', hm, y5, w5, (g1.trans g2).trans g5, q5⟩⟩
  | false => exact k.nx σ1 H2 y2 w2 (g1.trans g2) q
end
end Tq

set_option maxRecDepth 100000
set_option maxHeartbeats 2000000
namespace Tq
open PySem PySem.Spec PyProof.Rows L2
section
variable {C : Ct} {F : Fr} {σ : St} {y y' : S} {H H' : Hp}
theorem isO_none {j i : Nat} (h : isO (y.set j none) i = true) : i ≠ j ∧ isO y i = true := by
  rcases isO_set h with ⟨_, _, z, e, _⟩ | h | ⟨e, l⟩
  · cases e
  · exact h
  · have := isO_lt h; rw [List.length_set] at this; omega
theorem isO_none' {j i : Nat} (n : i ≠ j) : isO (y.set j none) i = isO y i := by
  unfold isO
  rw [List.getElem?_set_ne (Ne.symm n)]
theorem sh_none {j : Nat} (h : isO y j = false) : Sh y (y.set j none) := fun i => by
  by_cases e : i = j
  · subst e
    rw [h]
    cases q : isO (y.set i none) i with
    | false => rfl
    | true => exact absurd rfl (isO_none q).1
  · exact isO_none' e
/-- a slot is forgotten, its value may be another one -/
theorem Wd.unset (w : Wd C F σ y H) {j : Nat} {τ : St} (hl : τ.length = σ.length) (hτ : ∀ i, i ≠ j → τ[i]? = σ[i]?) (hp : j ≠ 0 ∨ C.pp = false) : Wd C F τ (y.set j none) H ∧ Go F σ y H τ (y.set j none) H := by
  have own : ∀ a, Own τ (y.set j none) a → Own σ y a := by
    rintro a ⟨i, hi, e⟩
    obtain ⟨n, o⟩ := isO_none hi
    rw [hτ i n] at e
    exact ⟨i, o, e⟩
  have g : Go F σ y H τ (y.set j none) H := fun a o n e => ⟨fun z => n (z.elim .inl fun z => .inr (own a z)), e⟩
  refine ⟨⟨w.keep, w.live0, w.live, by rw [hl, List.length_set]; exact w.len, fun i z e => ?_, fun i k a h1 h2 e1 e2 => ?_, fun a h => w.frsh a (own a h), fun e => ?_, w.sm, fun st i a h e s => ?_⟩, g⟩
  · have n : i ≠ j := by
      rintro rfl
      have hl := (List.getElem?_eq_some_iff.mp e).1
      rw [List.length_set] at hl
      rw [List.getElem?_set_self hl] at e
      cases e
    rw [List.getElem?_set_ne (Ne.symm n)] at e
    rw [hτ i n]
    have s := w.slot i z e
    cases z with
    | d d => obtain ⟨x, h1, h2⟩ := s; exact ⟨x, h1, h2.go g⟩
    | pu n => exact s
    | own ds => obtain ⟨a, xs, h1, h2, h3⟩ := s; exact ⟨a, xs, h1, h2, h3.go g⟩
  · obtain ⟨n1, o1⟩ := isO_none h1
    obtain ⟨n2, o2⟩ := isO_none h2
    rw [hτ i n1] at e1
    rw [hτ k n2] at e2
    exact w.dist i k a o1 o2 e1 e2
  · rcases hp with hp | hp
    · rw [hτ 0 (Ne.symm hp)]; exact w.pin e
    · rw [hp] at e; cases e
  · obtain ⟨n1, o1⟩ := isO_none h
    rw [hτ i n1] at e
    exact w.nb st i a o1 e s
theorem own_sh (s : Sh y y') {a : Addr} : Own σ y' a ↔ Own σ y a := by
  constructor
  · rintro ⟨i, hi, e⟩; exact ⟨i, by rw [← s i]; exact hi, e⟩
  · rintro ⟨i, hi, e⟩; exact ⟨i, by rw [s i]; exact hi, e⟩
theorem own_live (w : Wd C F σ y H) {a : Addr} (h : Own σ y a) : H a ≠ none := fun e => w.new e (.inr h)
/-- a frame within, at the heap as it stands: what is owned may change; l is apart -/
def sub (F : Fr) (σ : St) (y : S) (H : Hp) (l : Addr) : Fr := ⟨H, Own σ y, fun a => Mv F σ y a ∨ a = l, F.p, false⟩
theorem sub_mv {l a : Addr} {H0 : Hp} {u : S} (s : Sh u y) : Mv (sub F σ u H0 l) σ y a ↔ (Mv F σ u a ∨ a = l) := by
  constructor
  · rintro (z | z)
    · exact z
    · exact .inl (.inr ((own_sh s).mp z))
  · exact .inl
theorem slots_go {M : Addr → Prop} {z : Y} {v : Option (Option V)} (g : GoH (Mv F σ y) H M H') (hk : ∀ a o, v = some (some (.ref a)) → z.o = true → H a = some o → H' a = some o) (s : SlotOk C.K (Mv F σ y) H v z) : SlotOk C.K M H' v z := by
  cases z with
  | d d => obtain ⟨x, h1, h2⟩ := s; exact ⟨x, h1, h2.go g⟩
  | pu n => obtain ⟨b, h1, x, c, d, h2, h3⟩ := s; exact ⟨b, h1, x, c, d, hk _ _ h1 rfl h2, h3⟩
  | own ds => obtain ⟨b, xs, h1, h2, h3⟩ := s; exact ⟨b, xs, h1, hk _ _ h1 rfl h2, h3.go g⟩
theorem Wd.into (w : Wd C F σ y H) {l : Addr} {o : HO} (h : H l = none) : Wd C (sub F σ y (upd H l o) l) σ y (upd H l o) := by
  have nl : ¬ Mv F σ y l := w.new h
  have g : GoH (Mv F σ y) H (Mv (sub F σ y (upd H l o) l) σ y) (upd H l o) := fun a u n e => by
    have ne : a ≠ l := ne_of_none e h
    exact ⟨fun z => ((sub_mv (Sh.refl y)).mp z).elim n ne, by rw [upd_ne ne]; exact e⟩
  have lv : ∀ a, (Mv F σ y a ∨ a = l) → upd H l o a ≠ none := by
    rintro a (z | z) e
    · by_cases ha : a = l
      · exact nl (ha ▸ z)
      · rw [upd_ne ha] at e
        rcases z with z | z
        · exact w.live a z e
        · exact own_live w z e
    · rw [z, upd_same] at e; cases e
  exact ⟨fun a u _ e => e, lv, lv, w.len, fun i z e => slots_go g (fun a u _ _ e => grow_upd h a u e) (w.slot i z e), w.dist, fun a ha => .inl ha, w.pin, fun a z => .inl (.inr z), fun q => nomatch q⟩
/-- the frame within, with l written, at the heap as it stands then -/
theorem Wd.reb {u : S} {H0 : Hp} {l : Addr} {o : HO} (w : Wd C (sub F σ u H0 l) σ y H) (s : Sh u y) (nl : ¬ Own σ u l) : Wd C (sub F σ u (upd H l o) l) σ y (upd H l o) := by
  have g : GoH (Mv (sub F σ u H0 l) σ y) H (Mv (sub F σ u (upd H l o) l) σ y) (upd H l o) := fun a v n e => by
    have ne : a ≠ l := fun z => n ((sub_mv s).mpr (.inr z))
    exact ⟨fun z => n ((sub_mv s).mpr ((sub_mv s).mp z)), by rw [upd_ne ne]; exact e⟩
  have lv : ∀ a, (Mv F σ u a ∨ a = l) → upd H l o a ≠ none := fun a z e => by
    by_cases ha : a = l
    · rw [ha, upd_same] at e; cases e
    · rw [upd_ne ha] at e; exact w.live a z e
  refine ⟨fun a v _ e => e, lv, lv, w.len, fun i z e => slots_go g (fun a v e1 e2 e3 => ?_) (w.slot i z e), w.dist, fun a ha => .inl ((own_sh s).mp ha), w.pin, fun a z => .inl (.inr z), fun q => nomatch q⟩
  have ne : a ≠ l := by
    rintro rfl
    exact nl ((own_sh s).mp ⟨i, by unfold isO; rw [e]; exact e2, e1⟩)
  rw [upd_ne ne]; exact e3
theorem Wd.regrow {u : S} {H0 : Hp} {l : Addr} (w : Wd C (sub F σ u H0 l) σ y H) (s : Sh u y) (gr : ∀ a o, H a = some o → H' a = some o) : Wd C (sub F σ u H' l) σ y H' := by
  have w2 := w.grow gr
  exact ⟨fun a v _ e => e, w2.live, w2.live, w2.len, w2.slot, w2.dist, fun a ha => .inl ((own_sh s).mp ha), w2.pin, fun a z => .inl (.inr z), fun q => nomatch q⟩
theorem Wd.outOf {u : S} {H0 H2 : Hp} {l : Addr} (w : Wd C F σ u H) (h : H l = none) (w2 : Wd C (sub F σ u H0 l) σ y H2) (s : Sh u y) (kp : ∀ a o, ¬ Own σ u a → H a = some o → H2 a = some o) :
    Wd C F σ y H2 ∧ Go F σ u H σ y H2 ∧ ¬ Mv F σ y l ∧ GoH (Mv (sub F σ u H0 l) σ y) H2 (Mv F σ y) H2 ∧ GoH (Mv F σ u) H (Mv (sub F σ u H0 l) σ y) H2 := by
  have nl : ¬ Mv F σ u l := w.new h
  have mv : ∀ a, Mv F σ y a ↔ Mv F σ u a := fun a => ⟨fun z => z.elim .inl fun z => .inr ((own_sh s).mp z), fun z => z.elim .inl fun z => .inr ((own_sh s).mpr z)⟩
  have gd : GoH (Mv (sub F σ u H0 l) σ y) H2 (Mv F σ y) H2 := fun a v n e => ⟨fun z => n ((sub_mv s).mpr (.inl ((mv a).mp z))), e⟩
  have st : ∀ a o, ¬ Mv F σ u a → H a = some o → H2 a = some o := fun a o n e => kp a o (fun z => n (.inr z)) e
  refine ⟨⟨fun a v n e => ?_, w.live0, fun a m => w2.live a (.inl (.inl m)), w2.len, fun i z e => slots_go gd (fun _ _ _ _ e => e) (w2.slot i z e), w2.dist, fun a ha => w.frsh a ((own_sh s).mp ha), w2.pin, w.sm, fun q i a h e => w.nb q i a (by rw [← s i]; exact h) e⟩, fun a v n e => ⟨fun z => n ((mv a).mp z), st a v n e⟩, fun z => nl ((mv l).mp z), gd, fun a v n e => ⟨fun z => ((sub_mv s).mp z).elim n (ne_of_none e h), st a v n e⟩⟩
  refine kp a v (fun z => ?_) (w.keep a v n e)
  rcases w.frsh a z with q | q
  · exact n q
  · rw [q] at e; cases e
end
section
variable {C : Ct} {y : S} {te : TE} {tt : TT} {wi : TI} {Q : Z → S → Prop}
/-- [e for x in .. if ..] -/
theorem wE_lc {j : Nat} (hj : isO y j = false)
    (w : wI C wi y fun xs y1 => ∃ I : Nat → List D → S → Prop, xs.length ≤ sizeLine ∧ I 0 [] (y1.set j none) ∧
      (∀ i x acc y2, xs[i]? = some x → I i acc y2 → wT C tt (y2.set j (some (.d x))) fun b y3 => if b = true then wE C te y3 fun z y4 => ∃ d, z = .d d ∧ I (i + 1) (acc ++ [d]) (y4.set j none) else I (i + 1) acc (y3.set j none)) ∧
      (∀ acc y2, I xs.length acc y2 → acc.length ≤ xs.length → Q (.d (.list acc)) y2))
    (hp : j ≠ 0 ∨ C.pp = false := by first | exact Or.inr rfl | exact Or.inl (by decide)) :
    wE C (tLc wi (gName j) tt te [j]) y Q := by
  intro F σ H K wd k
  refine w F σ H _ wd fun J H1 xs y1 w1 g1 s1 hJ ⟨I, hz, h0, hs, hd⟩ => ?_
  intro l hl
  have wz : wipe σ [j] = σ.set j none := rfl
  obtain ⟨w1', g1'⟩ := w1.unset (j := j) (τ := σ) rfl (fun _ _ => rfl) hp
  have sz : Sh y1 (y1.set j none) := sh_none ((s1 j).trans hj)
  have uj : isO (y1.set j none) j = false := (sz j).trans ((s1 j).trans hj)
  generalize y1.set j none = u at w1' g1' sz h0 uj
  have wi1 := w1'.into (l := l) (o := .lst []) hl
  have nOl : ¬ Own σ u l := fun z => w1'.new hl (.inr z)
  refine ⟨fun i m H2 => m = xs.length - i ∧ i ≤ xs.length ∧ ∃ y2 acc vs, Wd C (sub F σ u H2 l) σ y2 H2 ∧ Sh u y2 ∧ (∀ a o, ¬ Own σ u a → H1 a = some o → H2 a = some o) ∧ I i acc y2 ∧ H2 l = some (.lst vs) ∧ RpA C.K (Mv (sub F σ u H2 l) σ y2) H2 vs acc ∧ acc.length ≤ i,
    ⟨xs.length, by simp, Nat.zero_le _, u, [], [], wi1, Sh.refl u, fun a o _ e => grow_upd hl a o e, h0, upd_same, .nil, Nat.zero_le _⟩, ?_⟩
  rintro i m H2 ⟨rfl, hi, y2, acc, vs, w2, s2, kp2, hI, hl2, rv2, ha2⟩
  obtain ⟨o1, o2, o3, o4, o5⟩ := w1'.outOf hl w2 s2 kp2
  obtain ⟨j1, j2, j3⟩ := hJ (sub F σ u H2 l) σ y2 H2 w2 (g1'.trans o5) i
  by_cases hlt : i < xs.length
  · refine .inr ⟨j1 hlt, fun H3 => ∃ y3 acc vs, Wd C (sub F σ u H3 l) σ y3 H3 ∧ Sh u y3 ∧ (∀ a o, ¬ Own σ u a → H1 a = some o → H3 a = some o) ∧ I (i + 1) acc y3 ∧ H3 l = some (.lst vs) ∧ RpA C.K (Mv (sub F σ u H3 l) σ y3) H3 vs acc ∧ acc.length ≤ i + 1,
      fun H3 h => ⟨xs.length - (i + 1), by omega, rfl, hlt, h⟩, fun v H3 hy => ?_⟩
    have ex : xs[i]? = some xs[i] := List.getElem?_eq_getElem hlt
    obtain ⟨gr, rv⟩ := j3 _ ex v H3 hy
    have w3 := w2.regrow s2 gr
    have gx : GoH (Mv (sub F σ u H2 l) σ y2) H2 (Mv (sub F σ u H3 l) σ y2) H3 := fun a o n e => ⟨fun z => n ((sub_mv s2).mpr ((sub_mv s2).mp z)), gr a o e⟩
    have gy : GoH (Mv (sub F σ u H2 l) σ y2) H3 (Mv (sub F σ u H3 l) σ y2) H3 := fun a o n e => ⟨fun z => n ((sub_mv s2).mpr ((sub_mv s2).mp z)), e⟩
    have w4 : Wd C (sub F σ u H3 l) (σ.set j (some v)) (y2.set j (some (.d xs[i]))) H3 := w3.set_d hp (rv.go gy)
    have g4 : GoH (Mv (sub F σ u H2 l) σ y2) H2 (Mv (sub F σ u H3 l) (σ.set j (some v)) (y2.set j (some (.d xs[i])))) H3 := gx.trans go_set_d
    have eσ : (wipe σ [j]).set j (some v) = σ.set j (some v) := by rw [wz, List.set_set]
    show wipe ((wipe σ [j]).set j (some v)) [j] = wipe σ [j] ∧ tt ((wipe σ [j]).set j (some v)) H3 _
    rw [eσ]
    refine ⟨by show (σ.set j (some v)).set j none = σ.set j none; rw [List.set_set], ?_⟩
    have back : ∀ {yy : S} {HH : Hp}, Wd C (sub F σ u H3 l) (σ.set j (some v)) yy HH → Sh (y2.set j (some (.d xs[i]))) yy →
        Wd C (sub F σ u H3 l) σ (yy.set j none) HH ∧ Sh u (yy.set j none) ∧ GoH (Mv (sub F σ u H3 l) (σ.set j (some v)) yy) HH (Mv (sub F σ u H3 l) σ (yy.set j none)) HH ∧
          (∀ a o, ¬ Own σ u a → H1 a = some o → HH a = some o) ∧ HH l = some (.lst vs) := by
      intro yy HH ww ss
      obtain ⟨a1, a2⟩ := ww.unset (j := j) (τ := σ) (by rw [List.length_set]) (fun n hn => (List.getElem?_set_ne (Ne.symm hn)).symm) hp
      refine ⟨a1, fun n => ?_, a2, fun a o na e => ww.keep a o na (gr a o (kp2 a o na e)), ww.keep l _ nOl (gr l _ hl2)⟩
      by_cases hn : n = j
      · subst hn
        rw [uj]
        cases q : isO (yy.set n none) n with
        | false => rfl
        | true => exact absurd rfl (isO_none q).1
      · rw [isO_none' hn, ss n]
        have : isO (y2.set j (some (.d xs[i]))) n = isO y2 n := by
          unfold isO
          rw [List.getElem?_set_ne (Ne.symm hn)]
        rw [this]
        exact s2 n
    refine hs i _ acc y2 ex hI (sub F σ u H3 l) _ H3 _ w4 fun b H5 y5 w5 g5 s5 q5 => ?_
    cases b with
    | false =>
      obtain ⟨b1, b2, b3, b4, b5⟩ := back w5 s5
      have b6 := b1.regrow b2 (H' := H5) (fun _ _ e => e)
      have gz : GoH (Mv (sub F σ u H3 l) σ (y5.set j none)) H5 (Mv (sub F σ u H5 l) σ (y5.set j none)) H5 := fun a o n e => ⟨fun z => n ((sub_mv b2).mpr ((sub_mv b2).mp z)), e⟩
      exact ⟨y5.set j none, acc, vs, b6, b2, b4, q5, b5, rv2.go (((g4.trans g5).trans b3).trans gz), by omega⟩
    | true =>
      refine q5 (sub F σ u H3 l) _ H5 _ w5 fun x6 H6 z6 y6 w6 g6 s6 r6 q6 => ?_
      obtain ⟨d, rfl, q6⟩ := q6
      obtain ⟨b1, b2, b3, b4, b5⟩ := back w6 (s5.trans s6)
      have hlen : vs.length = acc.length := rv2.len
      refine ⟨vs, b5, by omega, y6.set j none, acc ++ [d], vs ++ [x6], b1.reb b2 nOl, b2, fun a o na e => ?_, q6, upd_same, ?_, by rw [List.length_append]; simp; omega⟩
      · rw [upd_ne (ne_of_none e hl)]
        exact b4 a o na e
      · have gz : GoH (Mv (sub F σ u H3 l) σ (y6.set j none)) H6 (Mv (sub F σ u (upd H6 l (.lst (vs ++ [x6]))) l) σ (y6.set j none)) (upd H6 l (.lst (vs ++ [x6]))) := fun a o n e => by
          have ne : a ≠ l := fun z => n ((sub_mv b2).mpr (.inr z))
          exact ⟨fun z => n ((sub_mv b2).mpr ((sub_mv b2).mp z)), by rw [upd_ne ne]; exact e⟩
        exact (rv2.go ((((g4.trans g5).trans g6).trans b3).trans gz)).app (.cons (Rp.go (b3.trans gz) r6) .nil)
  · have ei : i = xs.length := by omega
    subst ei
    refine .inl ⟨j2 (Nat.le_refl _), ?_⟩
    exact k _ H2 (.d (.list acc)) y2 o1 ((g1.trans g1').trans o2) ((s1.trans sz).trans s2) (.lst (.inl ⟨o3, .inl hl2⟩) (rv2.go o4)) (hd acc y2 hI ha2)
/-- a comprehension whose turns change nothing -/
theorem wE_lcF {j : Nat} {y' : S} (p : D → Bool) (f : D → D) (hj : isO y j = false)
    (w : wI C wi y fun xs y1 => y1 = y' ∧ xs.length ≤ sizeLine ∧ (∀ x ∈ xs, wT C tt (y'.set j (some (.d x))) fun b y3 => y3 = y'.set j (some (.d x)) ∧ b = p x ∧ (p x = true → wE C te y3 fun z y4 => z = .d (f x) ∧ y4 = y'.set j (some (.d x)))) ∧ Q (.d (.list ((xs.filter p).map f))) (y'.set j none))
    (hp : j ≠ 0 ∨ C.pp = false := by first | exact Or.inr rfl | exact Or.inl (by decide)) :
    wE C (tLc wi (gName j) tt te [j]) y Q := by
  refine wE_lc hj (fun F σ H R wd k => w F σ H R wd fun J H1 xs y1 w1 g1 s1 hJ ⟨e, hz, hs, hq⟩ => k J H1 xs y1 w1 g1 s1 hJ ?_) hp
  subst e
  refine ⟨fun i acc y2 => y2 = y1.set j none ∧ acc = ((xs.take i).filter p).map f, hz, ⟨rfl, rfl⟩, fun i x acc y2 hx ⟨e1, e2⟩ => ?_, fun acc y2 ⟨e1, e2⟩ _ => ?_⟩
  · subst e1 e2
    have hm : x ∈ xs := List.mem_of_getElem? hx
    have ht : xs.take (i + 1) = xs.take i ++ [x] := by rw [List.take_add_one, hx]; rfl
    have es : (y1.set j none).set j (some (.d x)) = y1.set j (some (.d x)) := List.set_set ..
    have ef : (y1.set j (some (.d x))).set j none = y1.set j none := List.set_set ..
    rw [es]
    refine wT_mono (hs x hm) fun b y3 ⟨e3, eb, h3⟩ => ?_
    subst eb e3
    cases hpx : p x with
    | true =>
      show wE C te _ _
      refine wE_mono (h3 hpx) fun z y4 ⟨ez, ey⟩ => ⟨f x, ez, ?_, ?_⟩
      · rw [ey, ef]
      · rw [ht, List.filter_append, List.map_append, List.filter_cons, if_pos hpx]
        rfl
    | false =>
      refine ⟨ef, ?_⟩
      rw [ht, List.filter_append, List.filter_cons, if_neg (by rw [hpx]; simp), List.filter_nil, List.append_nil]
  · subst e1 e2
    rw [List.take_length]
    exact hq
end
end Tq

set_option maxRecDepth 100000
set_option maxHeartbeats 2000000
namespace Tq
open PySem PySem.Spec PyProof.Rows L2
/-! ### owned things -/
section
variable {C : Ct} {F : Fr} {σ : St} {y y' : S} {H H' : Hp}
theorem PuOk.mono {H : Hp} {a : Addr} {m n : Nat} (h : PuOk H a n) (l : m ≤ n) : PuOk H a m := by
  obtain ⟨x, b, c, h1, h2, h3, h4, h5, h6⟩ := h
  exact ⟨x, b, c, h1, h2, h3, h4, h5, by omega⟩
/-- a new thing is taken into a slot, owned -/
theorem Wd.set_own (w : Wd C F σ y H) {i : Nat} {p : Addr} {o : HO} {z : Y} (hz : z.o = true) (hn : H p = none) (hp : i ≠ 0 ∨ C.pp = false)
    (ok : ∀ M, GoH (Mv F σ y) H M (upd H p o) → SlotOk C.K M (upd H p o) (some (some (.ref p))) z) :
    Wd C F (σ.set i (some (.ref p))) (y.set i (some z)) (upd H p o) ∧ Go F σ y H (σ.set i (some (.ref p))) (y.set i (some z)) (upd H p o) := by
  have own : ∀ a, Own (σ.set i (some (.ref p))) (y.set i (some z)) a → a = p ∨ Own σ y a := by
    rintro a ⟨j, hj, e⟩
    rcases isO_set hj with ⟨rfl, hl, _⟩ | ⟨n, hO⟩ | ⟨rfl, hl⟩
    · rw [List.getElem?_set_self (by rw [w.len]; exact hl)] at e
      cases e
      exact .inl rfl
    · rw [List.getElem?_set_ne (Ne.symm n)] at e
      exact .inr ⟨j, hO, e⟩
    · have := isO_lt hj; rw [List.length_set] at this; omega
  have g : Go F σ y H (σ.set i (some (.ref p))) (y.set i (some z)) (upd H p o) := fun a u n e => by
    have ne : a ≠ p := ne_of_none e hn
    refine ⟨?_, by rw [upd_ne ne]; exact e⟩
    rintro (q | q)
    · exact n (.inl q)
    · rcases own a q with q | q
      · exact ne q
      · exact n (.inr q)
  have old : ∀ {j : Nat} {a : Addr}, isO y j = true → σ[j]? = some (some (.ref a)) → a ≠ p := fun hO e z => own_live w ⟨_, hO, e⟩ (z ▸ hn)
  refine ⟨⟨fun a u n e => grow_upd hn a u (w.keep a u n e), w.live0, fun a m e => ?_, by rw [List.length_set, List.length_set]; exact w.len, fun j x e => ?_, fun j k a h1 h2 e1 e2 => ?_, fun a h => ?_, fun e => ?_, w.sm, fun st j a h e s => ?_⟩, g⟩
  · cases q : H a with
    | none => exact w.live a m q
    | some u => rw [grow_upd hn a u q] at e; cases e
  · by_cases n : j = i
    · subst n
      have hl : j < y.length := by
        have := (List.getElem?_eq_some_iff.mp e).1
        rw [List.length_set] at this; exact this
      rw [List.getElem?_set_self hl] at e
      cases e
      rw [List.getElem?_set_self (by rw [w.len]; exact hl)]
      exact ok _ g
    · rw [List.getElem?_set_ne (Ne.symm n)] at e ⊢
      exact slots_go g (fun a u _ _ e => grow_upd hn a u e) (w.slot j x e)
  · rcases isO_set h1 with ⟨r1, l1, _⟩ | ⟨n1, o1⟩ | ⟨r1, l1⟩
    · rcases isO_set h2 with ⟨r2, l2, _⟩ | ⟨n2, o2⟩ | ⟨r2, l2⟩
      · rw [r1, r2]
      · rw [r1, List.getElem?_set_self (by rw [w.len]; exact l1)] at e1
        rw [List.getElem?_set_ne (Ne.symm n2)] at e2
        cases e1
        exact absurd rfl (old o2 e2)
      · have := isO_lt h2; rw [List.length_set] at this; omega
    · rcases isO_set h2 with ⟨r2, l2, _⟩ | ⟨n2, o2⟩ | ⟨r2, l2⟩
      · rw [r2, List.getElem?_set_self (by rw [w.len]; exact l2)] at e2
        rw [List.getElem?_set_ne (Ne.symm n1)] at e1
        cases e2
        exact absurd rfl (old o1 e1)
      · rw [List.getElem?_set_ne (Ne.symm n1)] at e1
        rw [List.getElem?_set_ne (Ne.symm n2)] at e2
        exact w.dist j k a o1 o2 e1 e2
      · have := isO_lt h2; rw [List.length_set] at this; omega
    · have := isO_lt h1; rw [List.length_set] at this; omega
  · rcases own a h with q | q
    · subst q
      by_cases s : F.S0 a
      · exact .inl s
      · refine .inr ?_
        cases e : F.H0 a with
        | none => rfl
        | some u => rw [w.keep a u s e] at hn; cases hn
    · exact w.frsh a q
  · rcases hp with hp | hp
    · rw [List.getElem?_set_ne hp]; exact w.pin e
    · rw [hp] at e; cases e
  · rcases isO_set h with ⟨r1, l1, _⟩ | ⟨n1, o1⟩ | ⟨r1, l1⟩
    · rw [r1, List.getElem?_set_self (by rw [w.len]; exact l1)] at e
      cases e
      exact absurd hn (w.live p (w.sm p s))
    · rw [List.getElem?_set_ne (Ne.symm n1)] at e
      exact w.nb st j a o1 e s
    · have := isO_lt h; rw [List.length_set] at this; omega
theorem isO_of {i : Nat} {z : Y} (h : y[i]? = some (some z)) : isO y i = z.o := by unfold isO; rw [h]
theorem sh_set {i : Nat} {z x : Y} (h : y[i]? = some (some z)) (e : x.o = z.o) : Sh y (y.set i (some x)) := fun j => by
  by_cases n : j = i
  · subst n
    have hl := (List.getElem?_eq_some_iff.mp h).1
    rw [isO_of h, isO_of (List.getElem?_set_self hl)]
    exact e
  · unfold isO
    rw [List.getElem?_set_ne (Ne.symm n)]
/-- an owned thing has changed, and no other -/
theorem Wd.set_mut (w : Wd C F σ y H) {i : Nat} {p : Addr} {z x : Y} (hi : y[i]? = some (some z)) (hz : z.o = true) (hx : x.o = true) (hσ : σ[i]? = some (some (.ref p))) (kp : ∀ a o, a ≠ p → H a = some o → H' a = some o) (hl : H' p ≠ none)
    (ok : ∀ M, GoH (Mv F σ y) H M H' → SlotOk C.K M H' (some (some (.ref p))) x) : Wd C F σ (y.set i (some x)) H' ∧ Go F σ y H σ (y.set i (some x)) H' ∧ Sh y (y.set i (some x)) := by
  have s : Sh y (y.set i (some x)) := sh_set hi (by rw [hx, hz])
  have hO : Own σ y p := ⟨i, by rw [isO_of hi]; exact hz, hσ⟩
  have mv : ∀ a, Mv F σ (y.set i (some x)) a → Mv F σ y a := fun a z => z.elim .inl fun z => .inr ((own_sh s).mp z)
  have g : Go F σ y H σ (y.set i (some x)) H' := fun a u n e => ⟨fun z => n (mv a z), kp a u (fun z => n (.inr (z ▸ hO))) e⟩
  refine ⟨⟨fun a u n e => kp a u (fun q => ?_) (w.keep a u n e), w.live0, fun a m e => ?_, by rw [List.length_set]; exact w.len, fun j v e => ?_, fun j k a h1 h2 e1 e2 => ?_, fun a h => w.frsh a ((own_sh s).mp h), w.pin, w.sm, fun q j a h e => w.nb q j a (by rw [← s j]; exact h) e⟩, g, s⟩
  · subst q
    rcases w.frsh a hO with q | q
    · exact n q
    · rw [q] at e; cases e
  · by_cases ha : a = p
    · exact hl (ha ▸ e)
    · cases q : H a with
      | none => exact w.live a m q
      | some u => rw [kp a u ha q] at e; cases e
  · by_cases n : j = i
    · subst n
      have hl := (List.getElem?_eq_some_iff.mp hi).1
      rw [List.getElem?_set_self hl] at e
      cases e
      rw [hσ]
      exact ok _ g
    · rw [List.getElem?_set_ne (Ne.symm n)] at e
      refine slots_go g (fun a u e1 e2 e3 => kp a u (fun q => n ?_) e3) (w.slot j v e)
      subst q
      exact w.dist j i a (by rw [isO_of e]; exact e2) (by rw [isO_of hi]; exact hz) e1 hσ
  · rw [s j] at h1
    rw [s k] at h2
    exact w.dist j k a h1 h2 e1 e2
end
section
variable {C : Ct} {y : S} {te : TE} {ts : TA} {tx : TS} {e : En} {Q : Z → S → Prop}
/-- x = [..], owned -/
theorem wS_own {i : Nat} (w : wD C ts y fun ds y1 => ds.length ≤ sizeLine ∧ e.nx (y1.set i (some (.own ds)))) (hp : i ≠ 0 ∨ C.pp = false := by first | exact Or.inr rfl | exact Or.inl (by decide)) : wS C (tAsg (tLst ts) (gName i)) y e := by
  intro F σ H E st wd k
  refine w F σ H _ wd fun vs H1 ds y1 w1 g1 s1 r1 ⟨hz, q⟩ => ⟨by rw [r1.len]; exact hz, fun p hn => ?_⟩
  obtain ⟨w2, g2⟩ := w1.set_own (i := i) (o := .lst vs) (z := .own ds) rfl hn hp fun M g => ⟨p, vs, rfl, upd_same, r1.go g⟩
  exact k.nx _ _ _ w2 (g1.trans g2) q
/-- x.append(e) -/
theorem wS_app {i : Nat} {ds0 : List D} (hi : y[i]? = some (some (.own ds0))) (w : wE C te y fun z y1 => ∃ d ds, z = .d d ∧ y1[i]? = some (some (.own ds)) ∧ ds.length < sizeLine ∧ e.nx (y1.set i (some (.own (ds ++ [d]))))) :
    wS C (tDrop (tBM C.K "list" rAppend (tVar i) (tCons te tNil))) y e := by
  intro F σ H E st wd k
  obtain ⟨a, xs, h1, h2, h3⟩ := wd.slot i _ hi
  refine ⟨.ref a, h1, Or.inl ⟨rfl, xs, .inl (.inl h2)⟩, w F σ H _ wd fun v H1 z y1 w1 g1 s1 r1 q => ?_⟩
  obtain ⟨d, ds, rfl, hi1, hz, q⟩ := q
  obtain ⟨b, us, e1, e2, e3⟩ := w1.slot i _ hi1
  have eb : a = b := by rw [h1] at e1; cases e1; rfl
  subst eb
  refine ⟨a, us, v, rfl, rfl, e2, by rw [e3.len]; exact hz, ?_⟩
  obtain ⟨w2, g2, s2⟩ := w1.set_mut (H' := upd H1 a (.lst (us ++ [v]))) (x := .own (ds ++ [d])) hi1 rfl rfl e1 (fun b o n e => by rw [upd_ne n]; exact e) (by rw [upd_same]; simp)
    fun M g => ⟨a, us ++ [v], rfl, upd_same, (e3.go g).app (.cons (Rp.go g r1) .nil)⟩
  exact k.nx _ _ _ w2 (g1.trans g2) q
theorem Wd.freeze {F : Fr} {σ : St} {H : Hp} {i : Nat} {ds : List D} (w : Wd C F σ y H) (st : F.st = true) (hi : y[i]? = some (some (.own ds))) (hp : i ≠ 0 ∨ C.pp = false) :
    Wd C F σ (y.set i (some (.d (.list ds)))) H ∧ Go F σ y H σ (y.set i (some (.d (.list ds)))) H := by
  obtain ⟨a, xs, h1, h2, h3⟩ := w.slot i _ hi
  have hO : isO y i = true := by rw [isO_of hi]; rfl
  have hb : ¬ F.S0 a := fun z => by
    obtain ⟨q1, q2⟩ := w.nb st i a hO h1 z
    rcases hp with hp | hp
    · exact hp q1
    · rw [hp] at q2; cases q2
  have own : ∀ b, Own σ (y.set i (some (.d (.list ds)))) b → Own σ y b ∧ b ≠ a := by
    rintro b ⟨j, hj, e⟩
    obtain ⟨n, o⟩ := isO_set_d hj
    refine ⟨⟨j, o, e⟩, fun z => n ?_⟩
    subst z
    exact w.dist j i b o hO e h1
  have g : Go F σ y H σ (y.set i (some (.d (.list ds)))) H := fun b o n e => ⟨fun z => n (z.elim .inl fun z => .inr (own b z).1), e⟩
  refine ⟨⟨w.keep, w.live0, w.live, by rw [List.length_set]; exact w.len, fun j z e => ?_, fun j k b q1 q2 e1 e2 => ?_, fun b h => w.frsh b (own b h).1, w.pin, w.sm, fun q j b h e s => w.nb q j b (isO_set_d h).2 e s⟩, g⟩
  · by_cases n : j = i
    · subst n
      have hl := (List.getElem?_eq_some_iff.mp hi).1
      rw [List.getElem?_set_self hl] at e
      cases e
      refine ⟨.ref a, h1, .lst (.inl ⟨?_, .inl h2⟩) (h3.go g)⟩
      rintro (z | z)
      · rcases w.frsh a ⟨j, hO, h1⟩ with q | q
        · exact hb q
        · exact w.live0 a z q
      · exact (own a z).2 rfl
    · rw [List.getElem?_set_ne (Ne.symm n)] at e
      exact slots_go g (fun _ _ _ _ e => e) (w.slot j z e)
  · exact w.dist j k b (isO_set_d q1).2 (isO_set_d q2).2 e1 e2
/-- an owned list is a list like others from here on -/
theorem wS_freeze (i : Nat) {ds : List D} (hi : y[i]? = some (some (.own ds))) (w : wS C tx (y.set i (some (.d (.list ds)))) e) (hp : i ≠ 0 ∨ C.pp = false := by first | exact Or.inr rfl | exact Or.inl (by decide)) : wS C tx y e := by
  intro F σ H E st wd k
  obtain ⟨w1, g1⟩ := wd.freeze st hi hp
  exact w F σ H E st w1 (k.go g1)
end
/-! ### promises over data -/
def pureSp (K : Fg) (n : Nat) (pre : List D → Prop) (post : List D → D → Prop) : Sp := fun vs H Q _ => ∃ (M : Addr → Prop) (ds : List D), (∀ a, M a → H a ≠ none) ∧ RpA K M H vs ds ∧ ds.length = n ∧ pre ds ∧
  ∀ d v H', post ds d → (∀ a o, H a = some o → H' a = some o) → Rp K M H' v d → Q v H'
theorem pureSp_len {K : Fg} {n : Nat} {pre : List D → Prop} {post : List D → D → Prop} {ps : List Str} (h : ps.length = n) : ∀ vs H Q E, pureSp K n pre post vs H Q E → vs.length = ps.length := by
  rintro vs H Q E ⟨M, ds, _, r, l, _⟩
  rw [r.len, l, h]
/-- a purse ahead of the arguments; cost: the draws at most -/
def puSp (K : Fg) (n : Nat) (pre : List D → Prop) (cost : List D → Nat) (post : List D → D → Prop) : Sp := fun vs H Q _ => ∃ (M : Addr → Prop) (p : Addr) (us : List V) (ds : List D) (m : Nat), vs = .ref p :: us ∧ M p ∧ (∀ a, M a → H a ≠ none) ∧ PuOk H p m ∧
  RpA K M H us ds ∧ ds.length = n ∧ pre ds ∧ cost ds ≤ m ∧ ∀ d v H', post ds d → (∀ a o, a ≠ p → H a = some o → H' a = some o) → PuOk H' p (m - cost ds) → Rp K M H' v d → Q v H'
theorem puSp_len {K : Fg} {n : Nat} {pre : List D → Prop} {cost : List D → Nat} {post : List D → D → Prop} {ps : List Str} (h : ps.length = n + 1) : ∀ vs H Q E, puSp K n pre cost post vs H Q E → vs.length = ps.length := by
  rintro vs H Q E ⟨M, p, us, ds, m, rfl, _, _, _, r, l, _⟩
  rw [List.length_cons, r.len, l, h]
section
variable {K : Fg} {N : List Str} {t : TS} {vs : List V} {H : Hp} {Q : VK} {E : XK} {n : Nat} {pre : List D → Prop} {post : List D → D → Prop} {cost : List D → Nat}
def y0 (N : List Str) (ds : List D) : S := ds.map (fun d => some (.d d)) ++ List.replicate (N.length - ds.length) none
theorem getElem?_app_none {α : Type} {as : List (Option α)} {k i : Nat} {z : α} (h : (as ++ List.replicate k none)[i]? = some (some z)) : as[i]? = some (some z) := by
  by_cases hi : i < as.length
  · rwa [List.getElem?_append_left hi] at h
  · rw [List.getElem?_append_right (by omega), List.getElem?_replicate] at h
    split at h <;> cases h
theorem start_get {i : Nat} {v : V} (h : vs[i]? = some v) : (start N vs)[i]? = some (some v) := by
  unfold L2.start
  have hl := (List.getElem?_eq_some_iff.mp h).1
  rw [List.getElem?_append_left (by rw [List.length_map]; exact hl), List.getElem?_map, h]
  rfl
theorem y0_isO (N : List Str) (ds : List D) (j : Nat) : isO (y0 N ds) j = false := by
  unfold isO y0
  split
  · rename_i q2
    have q3 := getElem?_app_none q2
    rw [List.getElem?_map] at q3
    cases q4 : ds[j]? with
    | none => rw [q4] at q3; cases q3
    | some d => rw [q4] at q3; cases q3; rfl
  · rfl
theorem pure_body (h : pureSp K n pre post vs H Q E) (b : ∀ ds, ds.length = n → pre ds → ∀ e : En, (∀ y, post ds .none → e.nx y) → (∀ d y, post ds d → e.rt (.d d) y) → wS ⟨K, false⟩ t (y0 N ds) e) :
    t { nx := fun _ G => Q .non G, rt := Q } (start N vs) H := by
  obtain ⟨M, ds, al, r, l, hp, k⟩ := h
  refine b ds l hp { nx := fun _ => post ds .none, rt := fun z _ => ∃ d, z = .d d ∧ post ds d } (fun _ q => q) (fun d _ q => ⟨d, rfl, q⟩) ⟨H, fun _ => False, M, 0, true⟩ (start N vs) H _ rfl ⟨fun a o _ e => e, al, al, ?_, fun i z e => ?_, fun i j a h1 _ _ _ => ?_, fun a ⟨i, h1, _⟩ => ?_, fun q => (nomatch q), fun a z => z.elim, fun _ _ _ _ _ z => z.elim⟩ ⟨fun σ' H' y' w g q => ?_, fun σ' v H' z y' w g rz q => ?_, fun _ _ _ _ _ q => q.elim, fun _ _ _ _ _ q => q.elim⟩
  · unfold L2.start y0
    rw [List.length_append, List.length_append, List.length_map, List.length_map, List.length_replicate, List.length_replicate, r.len]
  · have e1 := getElem?_app_none e
    rw [List.getElem?_map] at e1
    cases q : ds[i]? with
    | none => rw [q] at e1; cases e1
    | some d =>
      rw [q] at e1
      cases e1
      obtain ⟨v, hv, rv⟩ := r.get q
      refine ⟨v, start_get hv, rv.go fun a o na e => ⟨fun z => z.elim na ?_, e⟩⟩
      rintro ⟨j, hj, _⟩
      rw [y0_isO] at hj
      cases hj
  · rw [y0_isO] at h1; cases h1
  · rw [y0_isO] at h1; cases h1
  · exact k .none .non H' q (fun a o e => w.keep a o (fun z => z) e) .non
  · obtain ⟨d, rfl, q⟩ := q
    exact k d v H' q (fun a o e => w.keep a o (fun z => z) e) (Rp.go (fun a o n e => ⟨fun z => n (.inl z), e⟩) rz)
theorem pu_body (h : puSp K n pre cost post vs H Q E) (b : ∀ ds m, ds.length = n → pre ds → cost ds ≤ m → ∀ e : En, (∀ y k, post ds .none → y[0]? = some (some (.pu k)) → m - cost ds ≤ k → e.nx y) → (∀ d y k, post ds d → y[0]? = some (some (.pu k)) → m - cost ds ≤ k → e.rt (.d d) y) → wS ⟨K, true⟩ t (some (.pu m) :: y0 (N.drop 1) ds) e)
    (hN : 0 < N.length := by decide) : t { nx := fun _ G => Q .non G, rt := Q } (start N vs) H := by
  obtain ⟨M, p, us, ds, m, rfl, mp, al, pk, r, l, hp, hc, k⟩ := h
  have isd : ∀ j, isO (y0 (N.drop 1) ds) j = false := y0_isO _ _
  have is0 : ∀ j, isO (some (.pu m) :: y0 (N.drop 1) ds) j = true → j = 0 := fun j hj => by
    cases j with
    | zero => rfl
    | succ j =>
      have : isO (some (.pu m) :: y0 (N.drop 1) ds) (j + 1) = isO (y0 (N.drop 1) ds) j := by unfold isO; rw [List.getElem?_cons_succ]
      rw [this, isd j] at hj
      cases hj
  have s0 : (start N (.ref p :: us))[0]? = some (some (.ref p)) := start_get rfl
  have own : ∀ a, Own (start N (.ref p :: us)) (some (.pu m) :: y0 (N.drop 1) ds) a → a = p := fun a ⟨j, hj, e⟩ => by
    have := is0 j hj
    subst this
    rw [s0] at e
    cases e
    rfl
  have fin : ∀ {σ' : St} {H' : Hp} {y' : S} {q : Nat}, Wd ⟨K, true⟩ ⟨H, fun a => a = p, M, p, true⟩ σ' y' H' → y'[0]? = some (some (.pu q)) → m - cost ds ≤ q → PuOk H' p (m - cost ds) := fun {σ' H' y' q} w e hq => by
    obtain ⟨a, h1, h2⟩ := w.slot 0 _ e
    rw [w.pin rfl] at h1
    cases h1
    exact h2.mono hq
  refine b ds m l hp hc { nx := fun y => post ds .none ∧ ∃ k, y[0]? = some (some (.pu k)) ∧ m - cost ds ≤ k, rt := fun z y => ∃ d k, z = .d d ∧ post ds d ∧ y[0]? = some (some (.pu k)) ∧ m - cost ds ≤ k }
    (fun y k q1 q2 q3 => ⟨q1, k, q2, q3⟩) (fun d y k q1 q2 q3 => ⟨d, k, rfl, q1, q2, q3⟩) ⟨H, fun a => a = p, M, p, true⟩ (start N (.ref p :: us)) H _ rfl ⟨fun a o _ e => e, al, al, ?_, fun i z e => ?_, fun i j a h1 h2 _ _ => (is0 i h1).trans (is0 j h2).symm, fun a h => .inl (own a h), fun _ => s0, fun a z => (show a = p from z) ▸ mp, fun _ i a h _ _ => ⟨is0 i h, rfl⟩⟩ ⟨fun σ' H' y' w g q => ?_, fun σ' v H' z y' w g rz q => ?_, fun _ _ _ _ _ q => q.elim, fun _ _ _ _ _ q => q.elim⟩
  · unfold L2.start y0
    simp only [List.length_append, List.length_cons, List.length_map, List.length_replicate, List.length_drop]
    rw [r.len]
    omega
  · cases i with
    | zero =>
      cases e
      exact ⟨p, s0, pk⟩
    | succ i =>
      rw [List.getElem?_cons_succ] at e
      have e1 := getElem?_app_none e
      rw [List.getElem?_map] at e1
      cases q : ds[i]? with
      | none => rw [q] at e1; cases e1
      | some d =>
        rw [q] at e1
        cases e1
        obtain ⟨v, hv, rv⟩ := r.get q
        refine ⟨v, start_get (by rw [List.getElem?_cons_succ]; exact hv), rv.go fun a o na e => ⟨fun z => z.elim na fun z => ?_, e⟩⟩
        exact na ((own a z) ▸ mp)
  · obtain ⟨q1, c, q2, q3⟩ := q
    exact k .none .non H' q1 (fun a o n e => w.keep a o n e) (fin w q2 q3) .non
  · obtain ⟨d, c, rfl, q1, q2, q3⟩ := q
    exact k d v H' q1 (fun a o n e => w.keep a o n e) (fin w q2 q3) (Rp.go (fun a o n e => ⟨fun z => n (.inl z), e⟩) rz)
end
section
variable {C : Ct} {y : S} {ts : TA} {Q : Z → S → Prop} {E : XK} {n : Nat} {pre : List D → Prop} {post : List D → D → Prop} {cost : List D → Nat} {e : En}
theorem wE_pure (w : wD C ts y fun ds y1 => ds.length = n ∧ pre ds ∧ ∀ d, post ds d → Q (.d d) y1) : wE C (tCall (pureSp C.K n pre post) [] E ts) y Q := by
  intro F σ H K wd k
  refine w F σ H _ wd fun vs H1 ds y1 w1 g1 s1 r1 ⟨hn, hp, q⟩ => ?_
  rw [List.append_nil]
  exact ⟨Mv F σ y1, ds, fun a m e => w1.new e m, r1, hn, hp, fun d v H2 hd gr rv => k v H2 (.d d) y1 (w1.grow gr) (g1.trans (go_grow gr)) s1 rv (q d hd)⟩
theorem wE_pu {i m0 : Nat} (hi : y[i]? = some (some (.pu m0))) (w : wD C ts y fun ds y1 => ∃ m, y1[i]? = some (some (.pu m)) ∧ ds.length = n ∧ pre ds ∧ cost ds ≤ m ∧ ∀ d, post ds d → Q (.d d) (y1.set i (some (.pu (m - cost ds))))) :
    wE C (tCall (puSp C.K n pre cost post) [] E (tCons (tVar i) ts)) y Q := by
  intro F σ H K wd k
  obtain ⟨a, h1, h2⟩ := wd.slot i _ hi
  refine ⟨.ref a, h1, w F σ H _ wd fun vs H1 ds y1 w1 g1 s1 r1 ⟨m, hi1, hn, hp, hc, q⟩ => ?_⟩
  obtain ⟨b, e1, e2⟩ := w1.slot i _ hi1
  have eb : a = b := by rw [h1] at e1; cases e1; rfl
  subst eb
  rw [List.append_nil]
  refine ⟨Mv F σ y1, a, vs, ds, m, rfl, .inr ⟨i, by rw [isO_of hi1]; rfl, e1⟩, fun a m e => w1.new e m, e2, r1, hn, hp, hc, fun d v H2 hd kp pk rv => ?_⟩
  have hl : H2 a ≠ none := by
    obtain ⟨x, b, c, z, _⟩ := pk
    rw [z]; simp
  obtain ⟨w2, g2, s2⟩ := w1.set_mut (H' := H2) (x := .pu (m - cost ds)) hi1 rfl rfl e1 kp hl fun M g => ⟨a, rfl, pk⟩
  refine k v H2 (.d d) _ w2 (g1.trans g2) (s1.trans s2) (Rp.go (fun b o nb eb => ⟨fun z => nb (z.elim .inl fun z => .inr ((own_sh s2).mp z)), eb⟩) rv) (q d hd)
end
end Tq

set_option maxRecDepth 100000
set_option maxHeartbeats 2000000
namespace Tq
open PySem PySem.Spec PyProof.Rows L2
/-! ### defs of the text by their names -/
/-- the def x of the text, behind the top -/
structure Df (K : Fg) (mg : Str → Option Value) (x : Str) (st : Stmt) (ps : List Str) : Prop where
  ex : ∃ (f : Addr) (fd : FuncData), Fun K x x st f fd ∧ mg x = some (.ref f) ∧ Binds K fd ps []
/-- the name x is a def that keeps sp -/
structure Cal (P : Program) (w : World) (K : Fg) (mg : Str → Option Value) (base : Heap) (k : Nat) (x : Str) (ps : List Str) (sp : Sp) : Prop where
  ex : ∃ (f : Addr) (fd : FuncData), FnG P w K mg base CX0 k f fd ps sp ∧ mg x = some (.ref f) ∧ PySem.W.keepIn K (.ref f) = true ∧ Binds K fd ps []
section
variable {P : Program} {w : World} {K : Fg} {mg : Str → Option Value} {base : Heap} {k : Nat} {x : Str} {ps N : List Str} {sp : Sp} {st : Stmt}
theorem Df.ok (d : Df K mg x st ps) (Sc : FnScope N ps (defScope st)) (len : ∀ vs H Q E, sp vs H Q E → vs.length = ps.length)
    (hbody : ∀ (f : Addr) (cdv : Value) (A : Around) (outer : List Env) (s : Shared) (H : Hp) (vs : List V) (Q : VK) (E : XK), Room k (A.deeper (envOfC x (defScope st) s.heap.objs.size f cdv)) →
      (A.deeper (envOfC x (defScope st) s.heap.objs.size f cdv)).guards = some [] → sp vs H Q E →
      ∃ t, PSs (cxOf CX0 P w K mg base N x (defScope st) f cdv A outer s H E).nox (defBody st) t ∧ t { nx := fun _ G => Q .non G, rt := Q } (start N vs) H) : Cal P w K mg base (k + 1) x ps sp := by
  obtain ⟨f, fd, F, hm, hb⟩ := d.ex
  exact ⟨f, fd, okG F Sc len (hbody f), hm, F.kp, hb⟩
theorem pe_cal {X : Cx} {p pos : Pos} {e : Expr} {es : List Expr} {t : TA} (c : Cal X.prog X.w X.K X.mg X.base k x ps sp) (hr : Room k X.A) (hgu : X.A.guards = some []) (hg : Gl X x) (ha : PA X (e :: es) t) (hdb : (x == ("__debug__" : Str)) = false := by decide)
    (he : starEach (e :: es) X.env = (false, eval e X.env) :: starEach es X.env := by rfl)
    (hpl : (backTo pos (starEach es X.env)).any (·.1) = false := by rfl) : PE X (.Call (.Name x p) (e :: es) [] pos) (tCall sp [] E0 t) := by
  obtain ⟨f, fd, F, hm, hk, hb⟩ := c.ex
  exact pe_callG F hr hgu hg hm hk hb .nil pass0 ha hdb he hpl
theorem Cal.mono {j : Nat} (c : Cal P w K mg base j x ps sp) (h : j ≤ k) : Cal P w K mg base k x ps sp := by
  obtain ⟨f, fd, F, hm, hk, hb⟩ := c.ex
  exact ⟨f, fd, F.mono h, hm, hk, hb⟩
end
/-! ### the law's purse -/
def spPurse : Sp := fun vs H Q _ => ∃ c : Int, vs = [.int c] ∧ ∀ (p : Addr) (x b : Int), H p = none → 0 ≤ x → 0 ≤ b → b < 2147483629 → Q (.ref p) (upd H p (.lst [.int x, .int b, .int 0]))
/-- [max(0, c - 10 ** 18), c % 2147483629, 0] -/
def t_purse : TS := tRet (tLst (tCons (tCB (fun xs H Q => ∃ i j, xs = [.int i, .int j] ∧ Q (.int (if j > i then j else i)) H) (tCons (tC (.int 0)) (tCons (tOp (rI0 fun i j => .int (i - j)) (tVar 0) (tOp (rI CPow fun i j => .int (i ^ j.toNat)) (tC (.int 10)) (tC (.int 18)))) tNil)))
  (tCons (tOp (rI (fun _ j => 0 < j) fun i j => .int (i % j)) (tVar 0) (tC (.int 2147483629))) (tCons (tC (.int 0)) tNil))))
theorem purse_read {vs : List V} {H : Hp} {Q : VK} {E : XK} {N : List Str} (hN : N.length = 1) (h : spPurse vs H Q E) : t_purse { nx := fun _ G => Q .non G, rt := Q } (start N vs) H := by
  obtain ⟨c, rfl, k⟩ := h
  have es : start N [.int c] = [some (.int c)] := by
    unfold L2.start
    rw [hN]
    rfl
  rw [es]
  have z : (10 : Int).natAbs < 2 ^ 64 := by decide
  refine ⟨_, rfl, _, _, rfl, rfl, ⟨by decide, by decide, z⟩, _, _, rfl, rfl, _, _, rfl, _, rfl, _, _, rfl, rfl, (by show (0 : Int) < 2147483629; decide), by show 3 ≤ sizeLine; decide, fun p hp => k p _ _ hp ?_ (Int.emod_nonneg _ (by decide)) (Int.emod_lt_of_pos _ (by decide))⟩
  split <;> omega
/-- r of 0 .. many - 1 -/
def postTake : List D → D → Prop := fun ds d => ∃ m r : Int, ds = [.int m] ∧ d = .int r ∧ 0 ≤ r ∧ r < m
def preTake : List D → Prop := fun ds => ∃ m : Int, ds = [.int m] ∧ 0 < m ∧ m.natAbs.log2 < 9000
abbrev spTake (K : Fg) : Sp := puSp K 1 preTake (fun _ => 1) postTake
abbrev rMd : R2 := rI (fun _ j => 0 < j) fun i j => .int (i % j)
abbrev rDv : R2 := rI CDivW fun i j => .int (i / j)
abbrev rAd : R2 := rI0 fun i j => .int (i + j)
abbrev rMu : R2 := rI CMul fun i j => .int (i * j)
abbrev rPw : R2 := rI CPow fun i j => .int (i ^ j.toNat)
theorem ix_at {K : Fg} {H : Hp} {p : Addr} {xs : List V} {i : Int} {v : V} {Q : VK} (h : H p = some (.lst xs)) (e : atI xs i = some v) (q : Q v H) : rIx K (.ref p) (.int i) H Q := .inl ⟨p, xs, i, v, rfl, rfl, .inl (.inl h), e, q⟩
theorem natAbs_lt {x : Int} {n : Nat} (h1 : 0 ≤ x) (h2 : x < (n : Int)) : x.natAbs < n := by omega
theorem div_ok {i j : Int} (h : 0 < j) (h2 : j < 1073741824) : CDivW i j := wide_div (b := 30) h (by omega) (by decide) (by decide)
/-- purse = _law_purse(c) -/
theorem wS_purse {C : Ct} {y : S} {e : En} {ts : TA} {E : XK} {i : Nat} (w : wD C ts y fun ds y1 => ∃ c : Int, ds = [.int c] ∧ e.nx (y1.set i (some (.pu 8000000)))) (hp : i ≠ 0 ∨ C.pp = false := by first | exact Or.inr rfl | exact Or.inl (by decide)) :
    wS C (tAsg (tCall spPurse [] E ts) (gName i)) y e := by
  intro F σ H E st wd k
  refine w F σ H _ wd fun vs H1 ds y1 w1 g1 s1 r1 ⟨c, hc, q⟩ => ?_
  subst hc
  obtain ⟨v, rfl, rv⟩ := rpA1 r1
  refine ⟨c, by rw [rp_int rv]; rfl, fun p x b hn hx hb hb2 => ?_⟩
  obtain ⟨w2, g2⟩ := w1.set_own (i := i) (o := .lst [.int x, .int b, .int 0]) (z := .pu 8000000) rfl hn hp fun M g => ⟨p, rfl, x, b, 0, upd_same, hx, hb, hb2, by decide, by decide⟩
  exact k.nx _ _ _ w2 (g1.trans g2) q
end Tq

set_option maxRecDepth 100000
set_option maxHeartbeats 2000000
/-! The rules that speak of the written part, with that part told (so that they serve within a comprehension's block, too) -/
namespace Tq
open PySem PySem.Spec PyProof.Rows L2
abbrev rLenD (K : Fg) : List V → Hp → VK → Prop := fun xs H Q => ∃ x n, xs = [x] ∧ LenV K x H n ∧ Q (.int (n : Nat)) H
abbrev rListD (K : Fg) : List V → Hp → VK → Prop := fun xs H Q => ∃ p ys, xs = [.ref p] ∧ (SqL K H p ys ∨ SqT K H p ys) ∧ ∀ l, H l = none → Q (.ref l) (upd H l (.lst ys))
abbrev rTupD (K : Fg) : List V → Hp → VK → Prop := fun xs H Q => ∃ p ys, xs = [.ref p] ∧ ((SqL K H p ys ∧ ∀ l, H l = none → Q (.ref l) (upd H l (.tup ys))) ∨ (SqT K H p ys ∧ Q (.ref p) H))
def iAny (K : Fg) (tl : TE) : TI := fun σ H R => iList K tl σ H R ∨ iTup K tl σ H R
section
variable {X : Cx} (K : Fg)
theorem ixK (h : X.K = K := by rfl) : IxR X (rIx K) := h ▸ ix_seq
theorem slK (h : X.K = K := by rfl) : SlR X (rSlD K) := h ▸ sl_any
theorem eqK (hu : X.A.units + 64 < cLine) (h : X.K = K := by rfl) : OpR X (compareOp .Eq) (rEqD K) := h ▸ op_eqD hu
theorem neK (hu : X.A.units + 64 < cLine) (h : X.K = K := by rfl) : OpR X (compareOp .NotEq) (rNeD K) := h ▸ op_neD hu
theorem lenK (h : X.K = K := by rfl) : CallR X (.builtin "len") (rLenD K) := h ▸ call_len
theorem isiK (h : X.K = K := by rfl) : CallR X (.builtin "isinstance") (rIsi K) := h ▸ call_isi
theorem listK (h : X.K = K := by rfl) : CallR X (.type "list") (rListD K) := h ▸ call_list_of
theorem tupK (h : X.K = K := by rfl) : CallR X (.type "tuple") (rTupD K) := h ▸ call_tuple_of
theorem reprK (hg : X.A.guards = some []) (hu : X.A.units + 64 < cLine) (h : X.K = K := by rfl) : CallR X (.builtin "repr") (rRepr K) := h ▸ call_reprD hg hu
theorem piL {tg l : Expr} {tl : TE} (hl : PE X l tl) (h : X.K = K := by rfl) : PI X tg l (iList K tl) := h ▸ pi_list hl
theorem piT {tg l : Expr} {tl : TE} (hl : PE X l tl) (h : X.K = K := by rfl) : PI X tg l (iTup K tl) := h ▸ pi_tup hl
theorem piA {tg l : Expr} {tl : TE} (hl : PE X l tl) (h : X.K = K := by rfl) : PI X tg l (iAny K tl) :=
  ⟨fun pins s σ H R I q => q.elim (fun z => (piL K hl h).run pins s σ H R I z) fun z => (piT K hl h).run pins s σ H R I z⟩
theorem piE {e : Expr} {ta : TA} {p pos tpos : Pos} {elts : List Expr} {kk : Nat} (hg : Gl X "enumerate") (hm : X.mg "enumerate" = none) (ha : PA X [e] ta) (h : X.K = K := by rfl) (hs : starEach [e] X.env = [(false, eval e X.env)] := by rfl) :
    PI X (.Tuple elts kk tpos) (.Call (.Name "enumerate" p) [e] [] pos) (iEnum K ta) := h ▸ pi_enum hg hm ha hs
theorem pgT {pos : Pos} {es : List Expr} {k : Nat} {t : TGs} {n : Nat} (hc : X.calm = true) (g : PGs X es t) (h : X.K = K := by rfl) (hn : (assignEach es X.env).length = n := by rfl) (hst : (assignEach es X.env).findIdx? (·.1) = none := by rfl) :
    PG X (.Tuple es k pos) (gTup K n t) := h ▸ pg_tup hc g hn hst
end
section
variable {C : Ct} {y : S} {Qi : List D → S → Prop}
theorem wI_any {i : Nat} {d : D} {xs : List D} (h : y[i]? = some (some (.d d))) (hx : dItems d = some xs) (q : Qi xs y) : wI C (iAny C.K (tVar i)) y Qi := by
  intro F σ H R wd k
  cases d with
  | list us =>
    cases hx
    exact .inl (wI_list (wE_var h ⟨_, rfl, q⟩) F σ H R wd k)
  | tuple us =>
    cases hx
    exact .inr (wI_tup (wE_var h ⟨_, rfl, q⟩) F σ H R wd k)
  | _ => cases hx
end
end Tq

set_option maxRecDepth 100000
set_option maxHeartbeats 4000000
namespace Tq
open PySem PySem.Spec PyProof.Rows L2
theorem len1 {ds : List D} (h : ds.length = 1) : ∃ x, ds = [x] := match ds, h with | [x], _ => ⟨x, rfl⟩
/-! kinds -/
def isNum : D → Bool
  | .int _ => true
  | _ => false
theorem isT_int (d : D) : isT "int" d = (match d with | .int _ => true | .bool _ => true | _ => false) := by
  cases d with
  | none => show (kitB "NoneType" "int").getD false = false; decide +kernel
  | bool _ => show (kitB "bool" "int").getD false = true; decide +kernel
  | int _ => show (kitB "int" "int").getD false = true; decide +kernel
  | str _ => show (kitB "str" "int").getD false = false; decide +kernel
  | list _ => show (kitB "list" "int").getD false = false; decide +kernel
  | tuple _ => show (kitB "tuple" "int").getD false = false; decide +kernel
  | dict _ => show (kitB "dict" "int").getD false = false; decide +kernel
theorem isT_bool (d : D) : isT "bool" d = (match d with | .bool _ => true | _ => false) := by
  cases d with
  | none => show (kitB "NoneType" "bool").getD false = false; decide +kernel
  | bool _ => show (kitB "bool" "bool").getD false = true; decide +kernel
  | int _ => show (kitB "int" "bool").getD false = false; decide +kernel
  | str _ => show (kitB "str" "bool").getD false = false; decide +kernel
  | list _ => show (kitB "list" "bool").getD false = false; decide +kernel
  | tuple _ => show (kitB "tuple" "bool").getD false = false; decide +kernel
  | dict _ => show (kitB "dict" "bool").getD false = false; decide +kernel
theorem isT_list (d : D) : isT "list" d = (match d with | .list _ => true | _ => false) := by
  cases d with
  | none => show (kitB "NoneType" "list").getD false = false; decide +kernel
  | bool _ => show (kitB "bool" "list").getD false = false; decide +kernel
  | int _ => show (kitB "int" "list").getD false = false; decide +kernel
  | str _ => show (kitB "str" "list").getD false = false; decide +kernel
  | list _ => show (kitB "list" "list").getD false = true; decide +kernel
  | tuple _ => show (kitB "tuple" "list").getD false = false; decide +kernel
  | dict _ => show (kitB "dict" "list").getD false = false; decide +kernel
theorem isT_dict (d : D) : isT "dict" d = (match d with | .dict _ => true | _ => false) := by
  cases d with
  | none => show (kitB "NoneType" "dict").getD false = false; decide +kernel
  | bool _ => show (kitB "bool" "dict").getD false = false; decide +kernel
  | int _ => show (kitB "int" "dict").getD false = false; decide +kernel
  | str _ => show (kitB "str" "dict").getD false = false; decide +kernel
  | list _ => show (kitB "list" "dict").getD false = false; decide +kernel
  | tuple _ => show (kitB "tuple" "dict").getD false = false; decide +kernel
  | dict _ => show (kitB "dict" "dict").getD false = true; decide +kernel
theorem isNum_eq (d : D) : isNum d = (isT "int" d && !isT "bool" d) := by
  rw [isT_int, isT_bool]
  cases d <;> rfl
/-- tests on ints -/
theorem eqv_int (i j : Int) : PyData.eqv (.int i) (.int j) = decide (i = j) := by
  simp only [PyData.eqv]
  first | rfl | (by_cases h : i = j <;> simp [h])
theorem sz_small {n : Nat} (h : n ≤ 100000) : n ≤ sizeLine := Nat.le_trans h (by decide)
theorem log2_lt {x : Int} {n : Nat} (h : x.natAbs < 2 ^ n) (h0 : 0 < n) : x.natAbs.log2 < n := PySem.Flt.log2_lt_of h0 h
theorem itb_t {b : Bool} {A B : Prop} (h : b = true) (a : A) : if b = true then A else B := by rw [if_pos h]; exact a
theorem itb_f {b : Bool} {A B : Prop} (h : b = false) (a : B) : if b = true then A else B := by rw [if_neg (by rw [h]; simp)]; exact a
/-- B, then the side A -/
theorem and_sw {A B : Prop} (b : B) (a : A) : A ∧ B := ⟨a, b⟩
/-! the numbers' common divisor -/
def gcdI (a b : Int) : Int := (Nat.gcd a.natAbs b.natAbs : Nat)
theorem gcd_turn {a b : Int} (ha : 0 ≤ a) (hb : 0 < b) : gcdI b (a % b) = gcdI a b := by
  unfold gcdI
  have h1 : (a % b).natAbs = a.natAbs % b.natAbs := by
    obtain ⟨n, rfl⟩ := Int.eq_ofNat_of_zero_le ha
    obtain ⟨m, rfl⟩ := Int.eq_ofNat_of_zero_le (show 0 ≤ b by omega)
    rw [← Int.natCast_emod, Int.natAbs_natCast, Int.natAbs_natCast, Int.natAbs_natCast]
  rw [h1]
  congr 1
  rw [Nat.gcd_comm a.natAbs b.natAbs, Nat.gcd_comm b.natAbs (a.natAbs % b.natAbs)]
  exact (Nat.gcd_rec b.natAbs a.natAbs).symm
theorem gcd_zero {a : Int} (ha : 0 ≤ a) : gcdI a 0 = a := by
  unfold gcdI
  simp
  omega
theorem gcd_abs (a b : Int) : gcdI (if a < 0 then -a else a) (if b < 0 then -b else b) = gcdI a b := by
  unfold gcdI
  congr 2 <;> (split <;> omega)
/-! promises of defs whose answer is a function of what is handed in -/
abbrev a0 (ds : List D) : D := ds.getD 0 .none
abbrev a1 (ds : List D) : D := ds.getD 1 .none
abbrev a2 (ds : List D) : D := ds.getD 2 .none
abbrev detSp (K : Fg) (n : Nat) (pre : List D → Prop) (G : List D → D) : Sp := pureSp K n pre (fun ds d => d = G ds)
theorem wE_det {C : Ct} {y : S} {ts : TA} {Q : Z → S → Prop} {E : XK} {n : Nat} {pre : List D → Prop} {G : List D → D} (w : wD C ts y fun ds y1 => (ds.length = n ∧ pre ds) ∧ Q (.d (G ds)) y1) : wE C (tCall (detSp C.K n pre G) [] E ts) y Q :=
  wE_pure (wD_mono w fun ds y1 ⟨⟨h1, h2⟩, q⟩ => ⟨h1, h2, fun d e => by subst e; exact q⟩)
abbrev sp_law_cell (K : Fg) : Sp := pureSp K 2 (fun ds => ∃ (ns : List Int) (k : Int), ds = [.list (ns.map PyData.int), .int k] ∧ 0 ≤ k ∧ k < 1000) (fun _ d => ∃ n : Int, d = .int n)
abbrev sp_law_purse (K : Fg) : Sp := spPurse
abbrev sp_law_take (K : Fg) : Sp := spTake K
abbrev sp_is_number (K : Fg) : Sp := detSp K 1 (fun _ => True) (fun ds => .bool (isNum (a0 ds)))
section
variable {C : Ct} {y : S} {te : TE} {Q : Z → S → Prop} {E : XK}
/-- a draw -/
theorem wE_take {i m0 : Nat} (hi : y[i]? = some (some (.pu m0))) (w : wE C te y fun z y1 => ∃ (k : Int) (m : Nat), z = .d (.int k) ∧ y1[i]? = some (some (.pu m)) ∧ (0 < k ∧ k ≤ 10 ^ 40 ∧ 1 ≤ m) ∧ ∀ r : Int, 0 ≤ r → r < k → Q (.d (.int r)) (y1.set i (some (.pu (m - 1))))) :
    wE C (tCall (spTake C.K) [] E (tCons (tVar i) (tCons te tNil))) y Q := by
  refine wE_pu hi (wD_cons (wE_mono w fun z y1 ⟨k, m, e, hm, ⟨h0, h1, h2⟩, q⟩ => ⟨_, e, wD_nil ⟨m, hm, rfl, ⟨k, rfl, h0, ?_⟩, h2, fun d hd => ?_⟩⟩))
  · have hb : k.natAbs < 2 ^ 200 := Nat.lt_of_le_of_lt (show k.natAbs ≤ 10 ^ 40 by omega) (by decide)
    exact Nat.lt_of_lt_of_le (log2_lt hb (by decide)) (by decide)
  · obtain ⟨k', r, e1, e2, h3, h4⟩ := hd
    cases e1
    subst e2
    exact q r h3 h4
theorem wE_powN {a : Int} {n : Nat} (q : Q (.d (.int (a ^ (OfNat.ofNat n : Nat)))) y) (ha : a.natAbs < 2 ^ 64 := by decide) (hn : n ≤ 1000000 := by decide) : wE C (tOp (rI CPow fun i j => .int (i ^ j.toNat)) (tC (.int a)) (tC (.int (OfNat.ofNat n)))) y Q := by
  refine wE_pow (wE_int (wE_int ⟨_, _, rfl, rfl, ⟨?_, ?_, ha⟩, q⟩))
  · show (0 : Int) ≤ (n : Nat); omega
  · show ((n : Nat) : Int) ≤ 1000000; omega
theorem wE_dispS {k : Str} {v : V} {d : D} (s : Sc v d) (h : Q (.d (.dict [(.str k, d)])) y) : wE C (tDisp [(tC (.str k), tC v)]) y Q := wE_disp1 (kk := .inr k) s h
theorem wE_dispI {k : Int} {v : V} {d : D} (s : Sc v d) (h : Q (.d (.dict [(.int k, d)])) y) : wE C (tDisp [(tC (.int k), tC v)]) y Q := wE_disp1 (kk := .inl k) s h
end
/-! == of plain things -/
def scalD : D → D → Bool
  | .int _, .int _ => true
  | .str _, .str _ => true
  | .bool _, .bool _ => true
  | .none, .none => true
  | _, _ => false
def eqS : D → D → Bool
  | .int i, .int j => decide (i = j)
  | .str i, .str j => decide (i = j)
  | .bool i, .bool j => decide (i = j)
  | .none, .none => true
  | _, _ => false
section
variable {C : Ct} {y : S} {ta tb : TE} {Q : Z → S → Prop}
theorem eqS_ok {K : Fg} {M : Addr → Prop} {H : Hp} {x u : V} {d e : D} (rx : Rp K M H x d) (ru : Rp K M H u e) (h : scalD d e = true) : scal x u = true ∧ decide (x = u) = eqS d e := by
  cases rx <;> cases ru <;> first | (cases h; done) | (refine ⟨rfl, ?_⟩; simp [eqS])
theorem wE_eqS (w : wE C ta y fun z y1 => wE C tb y1 fun z' y2 => ∃ d e, z = .d d ∧ z' = .d e ∧ scalD d e = true ∧ Q (.d (.bool (eqS d e))) y2) : wE C (tOp rEq ta tb) y Q := by
  refine wE_op (res := fun d e r => scalD d e = true ∧ r = .bool (eqS d e)) ?_ (wE_mono w fun z y1 h => wE_mono h fun z' y2 ⟨d, e, e1, e2, s, q⟩ => ⟨_, _, _, e1, e2, ⟨s, rfl⟩, q⟩)
  rintro M H x u d e r Q _ rx ru ⟨s, rfl⟩ k
  obtain ⟨h1, h2⟩ := eqS_ok rx ru s
  refine ⟨h1, ?_⟩
  rw [h2]
  exact k _ H (fun _ _ e => e) (.bl _)
theorem wE_neS (w : wE C ta y fun z y1 => wE C tb y1 fun z' y2 => ∃ d e, z = .d d ∧ z' = .d e ∧ scalD d e = true ∧ Q (.d (.bool (!eqS d e))) y2) : wE C (tOp rNe ta tb) y Q := by
  refine wE_op (res := fun d e r => scalD d e = true ∧ r = .bool (!eqS d e)) ?_ (wE_mono w fun z y1 h => wE_mono h fun z' y2 ⟨d, e, e1, e2, s, q⟩ => ⟨_, _, _, e1, e2, ⟨s, rfl⟩, q⟩)
  rintro M H x u d e r Q _ rx ru ⟨s, rfl⟩ k
  obtain ⟨h1, h2⟩ := eqS_ok rx ru s
  refine ⟨h1, ?_⟩
  rw [h2]
  exact k _ H (fun _ _ e => e) (.bl _)
end
end Tq

set_option maxRecDepth 100000
set_option maxHeartbeats 4000000
namespace Tq
open PySem PySem.Spec PyProof.Rows L2
/-! ### the law's own promise -/
def spLaw (K : Fg) : Sp := fun vs H Q _ => ∃ (a : Addr) (ns : List Int), vs = [.ref a] ∧ SqL K H a (ns.map V.int) ∧ ns.length ≤ 63 ∧ ∀ H', Q (.bl true) H'
theorem spLaw_len {K : Fg} {x : Str} : ∀ vs H Q E, spLaw K vs H Q E → vs.length = [x].length := by
  rintro vs H Q E ⟨a, ns, rfl, _⟩
  rfl
theorem law_body {K : Fg} {N : List Str} {t : TS} {vs : List V} {H : Hp} {Q : VK} {E : XK} (h : spLaw K vs H Q E) (b : ∀ ns : List Int, ns.length ≤ 63 → ∀ e : En, (∀ y, e.rt (.d (.bool true)) y) → wS ⟨K, false⟩ t (y0 N [.list (ns.map PyData.int)]) e) :
    t { nx := fun _ G => Q .non G, rt := Q } (start N vs) H := by
  obtain ⟨a, ns, rfl, hs, hl, k⟩ := h
  refine pure_body (K := K) (n := 1) (pre := fun ds => ds = [.list (ns.map PyData.int)]) (post := fun _ d => d = .bool true) (Q := Q) (E := fun _ _ _ => False) ⟨fun _ => False, [.list (ns.map PyData.int)], fun a z => z.elim, .cons (.lst ?_ (rpA_int ns)) .nil, rfl, rfl, fun d v H' e _ r => ?_⟩ ?_
  · rcases hs with hs | hs
    · exact .inl ⟨fun z => z, hs⟩
    · exact .inr hs
  · subst e
    rw [rp_bl r]
    exact k H'
  · rintro ds _ rfl e hn hr
    exact b ns hl e fun y => hr _ y rfl
/-! ### kinds of things: the program's, the law's -/
def wholeB (x : D) (lo hi : Int) : Bool := match x with
  | .int i => decide (lo ≤ i) && decide (i ≤ hi)
  | _ => false
abbrev sp_is_whole (K : Fg) : Sp := detSp K 3 (fun ds => ∃ x lo hi, ds = [x, .int lo, .int hi]) (fun ds => .bool (match ds with | [x, .int lo, .int hi] => wholeB x lo hi | _ => false))
abbrev sp_law (K : Fg) : Sp := spLaw K
theorem atI_mem {α : Type} {xs : List α} {i : Int} (h0 : 0 ≤ i) (h1 : i < xs.length) : ∃ x, atI xs i = some x ∧ x ∈ xs := by
  obtain ⟨n, rfl⟩ := Int.eq_ofNat_of_zero_le h0
  have hn : n < xs.length := by omega
  exact ⟨xs[n], atI_nat (List.getElem?_eq_getElem hn), List.getElem_mem hn⟩
theorem dCut_str {t : Str} (h : t.length ≤ 1000) (lo hi : Option Int) : dCut (.str t) lo hi = some (.str (cutS t lo hi)) := if_pos (sz_small (by omega))
/-! what repr is asked of -/
def ShOk (d : D) : Prop := dsm d = true ∧ d.showable = true ∧ d.depth ≤ 60 ∧ d.shown.length ≤ sizeLine
theorem wE_reprS {C : Ct} {y : S} {te : TE} {Q : Z → S → Prop} (w : wE C te y fun z y1 => ∃ d, z = .d d ∧ ShOk d ∧ Q (.d (.str d.shown)) y1) : wE C (tCB (rRepr C.K) (tCons te tNil)) y Q :=
  wE_repr (wD_cons (wE_mono w fun z y1 ⟨d, e, ⟨h1, h2, h3, h4⟩, q⟩ => ⟨d, e, wD_nil ⟨d, rfl, h1, h2, h3, h4, q⟩⟩))
end Tq

set_option maxRecDepth 100000
set_option maxHeartbeats 4000000
namespace Tq
open PySem PySem.Spec PyProof.Rows L2
theorem sz_lt1 {n : Nat} (h : n < 100000) : n < sizeLine := Nat.lt_of_lt_of_le h (by decide)
theorem wS_norm {C : Ct} {t : TS} {y y' : S} {e : En} (h : y = y') (w : wS C t y' e) : wS C t y e := h ▸ w
/-! ### what is known of the slots may be forgotten -/
def Less (y' y : S) : Prop := y'.length = y.length ∧ ∀ (i : Nat) (z : Y), y'[i]? = some (some z) → y[i]? = some (some z)
theorem Less.isO {y' y : S} (h : Less y' y) {i : Nat} (o : Tq.isO y' i = true) : Tq.isO y i = true := by
  unfold Tq.isO at o
  cases q : y'[i]? with
  | none => rw [q] at o; cases o
  | some u =>
    cases u with
    | none => rw [q] at o; cases o
    | some z =>
      rw [q] at o
      rw [isO_of (h.2 i z q)]
      exact o
theorem Wd.weak {C : Ct} {F : Fr} {σ : St} {y y' : S} {H : Hp} (w : Wd C F σ y H) (h : Less y' y) : Wd C F σ y' H ∧ Go F σ y H σ y' H := by
  have own : ∀ a, Own σ y' a → Own σ y a := fun a ⟨i, o, e⟩ => ⟨i, h.isO o, e⟩
  have g : Go F σ y H σ y' H := fun a o n e => ⟨fun z => n (z.elim .inl fun z => .inr (own a z)), e⟩
  exact ⟨⟨w.keep, w.live0, w.live, w.len.trans h.1.symm, fun i z e => slots_go g (fun _ _ _ _ e => e) (w.slot i z (h.2 i z e)), fun i j a o1 o2 => w.dist i j a (h.isO o1) (h.isO o2), fun a o => w.frsh a (own a o), w.pin, w.sm, fun st i a o => w.nb st i a (h.isO o)⟩, g⟩
theorem wS_weak {C : Ct} {t : TS} {y y' : S} {e : En} (w : wS C t y' e) (h : Less y' y) : wS C t y e := by
  intro F σ H E st wd k
  obtain ⟨w1, g1⟩ := wd.weak h
  exact w F σ H E st w1 (k.go g1)
abbrev rMx : List V → Hp → VK → Prop := fun xs H Q => ∃ i j, xs = [.int i, .int j] ∧ Q (.int (if j > i then j else i)) H
abbrev rMn : List V → Hp → VK → Prop := fun xs H Q => ∃ i j, xs = [.int i, .int j] ∧ Q (.int (if j < i then j else i)) H
/-- what stands between two cells: the script alone is known -/
def cellEnd (n : Nat) (s : D) (y : S) : Prop := y.length = n + 2 ∧ y[0]? = some (some (.d s))
/-- for _law_k in range(max(2, min(c, len(script)))): tb; return True -/
theorem law_loop {K : Fg} {tb : TS} {e : En} {ns : List Int} {c : Int} {n : Nat} (hc : 0 ≤ c ∧ c ≤ 900) (hz : ∀ y, e.rt (.d (.bool true)) y)
    (hb : ∀ k : Int, 0 ≤ k → k < 1000 → wS ⟨K, false⟩ tb (some (.d (.list (ns.map PyData.int))) :: some (.d (.int k)) :: List.replicate n none)
      { nx := cellEnd n (.list (ns.map PyData.int)), ct := cellEnd n (.list (ns.map PyData.int)), bk := fun y1 => wS ⟨K, false⟩ (tRet (tC (.bl true))) y1 e, rt := e.rt }) :
    wS ⟨K, false⟩ (tSeq (tFor (iRng1 (tCons (tCB rMx (tCons (tC (.int 2)) (tCons (tCB rMn (tCons (tC (.int c)) (tCons (tCB (rLenD K) (tCons (tVar 0) tNil)) tNil))) tNil))) tNil)) (gName 1) tb) (tRet (tC (.bl true))))
      (some (.d (.list (ns.map PyData.int))) :: none :: List.replicate n none) e := by
  refine wS_seq (wS_for (wI_rng1 (wD_cons (wE_max2 (wD_cons (wE_int ⟨_, rfl, wD_cons (wE_min2 (wD_cons (wE_int ⟨_, rfl, wD_cons (wE_len (wD_cons (wE_var rfl ⟨_, rfl, wD_nil ⟨_, _, rfl, rfl, ?_⟩⟩))) ⟩)))⟩))))))
  refine ⟨_, rfl, wD_nil ⟨_, _, rfl, _, rfl, wD_nil ⟨_, _, rfl, _, rfl, wD_nil ⟨_, rfl, ?_⟩⟩⟩⟩
  rw [List.length_map]
  generalize hj : (if (if (ns.length : Int) < c then (ns.length : Int) else c) > 2 then (if (ns.length : Int) < c then (ns.length : Int) else c) else 2) = j
  have h1 : 2 ≤ j ∧ j ≤ 900 := by
    rw [← hj]
    constructor
    · split <;> omega
    · split
      · split <;> omega
      · omega
  refine ⟨by omega, by omega, fun _ y => cellEnd n (.list (ns.map PyData.int)) y, ⟨by simp, rfl⟩, fun i x y2 hx ⟨hy1, hy2⟩ => ?_, fun y2 _ => wS_ret (wE_bl (hz _))⟩
  obtain ⟨hi, rfl⟩ := rangeD_get hx
  refine wG_name (wS_weak (hb (0 + (i : Int)) (by omega) (by omega)) ⟨by rw [List.length_set, hy1]; simp, fun k z e => ?_⟩)
  match k, e with
  | 0, e =>
    cases e
    rw [List.getElem?_set_ne (by decide)]
    exact hy2
  | 1, e =>
    cases e
    exact List.getElem?_set_self (by omega)
  | k + 2, e =>
    have e2 : (List.replicate n (none : Option Y))[k]? = some (some z) := e
    rw [List.getElem?_replicate] at e2
    split at e2 <;> cases e2
end Tq

set_option maxRecDepth 100000
set_option maxHeartbeats 4000000
namespace Tq
open PySem PySem.Spec PyProof.Rows L2
theorem less_nil : Less [] [] := ⟨rfl, fun i z e => e⟩
theorem less_none {a b : S} {z : Option Y} (h : Less a b) : Less (none :: a) (z :: b) := by
  refine ⟨congrArg (· + 1) h.1, fun i u e => ?_⟩
  cases i with
  | zero => cases e
  | succ i => exact h.2 i u e
theorem less_some {a b : S} {z : Option Y} (h : Less a b) : Less (z :: a) (z :: b) := by
  refine ⟨congrArg (· + 1) h.1, fun i u e => ?_⟩
  cases i with
  | zero => exact e
  | succ i => exact h.2 i u e
theorem less_set {a b : S} {i : Nat} {z : Option Y} (h : Less a b) : Less (a.set i z) (b.set i z) := by
  refine ⟨by rw [List.length_set, List.length_set, h.1], fun j u e => ?_⟩
  rw [List.getElem?_set] at e ⊢
  rw [← h.1]
  split at e
  · next q => rw [if_pos q]; exact e
  · next q => rw [if_neg q]; exact h.2 j u e
theorem eqS_self (t : Str) : eqS (.str t) (.str t) = true := by simp [eqS]
theorem ne_self (t : Str) : (!eqS (.str t) (.str t)) = false := by rw [eqS_self]; rfl
end Tq

set_option maxRecDepth 100000
set_option maxHeartbeats 4000000
namespace Tq
open PySem PySem.Spec PyProof.Rows L2
/-! ### what the top has written -/
theorem df_mk {K : Fg} {h : Heap} {mg : Str → Option Value} {x : Str} {st : Stmt} {ps : List Str} {f : Addr} {od an : Option Addr} {sl : Array (Option Value)} {oc kV dc pm cd ct : Value} (X : K.In h) (G : h.Ns mainGlobals mg)
    (hb : ∀ (kV dc pm : Value) (an : Option Addr) (cd ct : Value) (us : List Value), us.length = ps.length → bindArgs (PySem.W.fnOf x x (defArgs st) (defBody st) (defScope st) .none kV dc pm an cd ct) ⟨us, []⟩ = pure (ps.zip us))
    (a : PySem.W.nsIn K mainGlobals x = some (some (.ref f))) (l : K.lookup f = some ⟨oc, od, .func (PySem.W.fnOf x x (defArgs st) (defBody st) (defScope st) .none kV dc pm an cd ct), sl⟩) (c : PySem.W.codeIn K cd x = true) (k : PySem.W.keepIn K (.ref f) = true) : Df K mg x st ps :=
  ⟨f, _, fun_mk l c k, PySem.W.mg_of X G a, (fun_mk l c k).binds hb⟩
theorem law_mk {P : Program} {w : World} {K : Fg} {h : Heap} {mg : Str → Option Value} {st : Stmt} {x : Str} {f fa : Addr} {n : Nat} {sp : Sp} {od an : Option Addr} {sl : Array (Option Value)} {oc kV dc pm cd ct : Value} (X : K.In h) (G : h.Ns mainGlobals mg) (hfa : mg "law" = some (.ref fa))
    (ok : ∀ (base : Heap) (f : Addr) (fd : FuncData), Fun K "law" "law" st f fd → FnG P w K mg base CX0 n f fd [x] sp)
    (hb : ∀ (kV dc pm : Value) (an : Option Addr) (cd ct : Value) (s : Shared) (u : Value), BindsTo s (PySem.W.fnOf "law" "law" (defArgs st) (defBody st) (defScope st) .none kV dc pm an cd ct) ⟨[u], []⟩ [(x, u)])
    (a : PySem.W.nsIn K mainGlobals "law" = some (some (.ref f))) (l : K.lookup f = some ⟨oc, od, .func (PySem.W.fnOf "law" "law" (defArgs st) (defBody st) (defScope st) .none kV dc pm an cd ct), sl⟩) (c : PySem.W.codeIn K cd "law" = true) (k : PySem.W.keepIn K (.ref f) = true) :
    ∃ fd : FuncData, (∀ (s : Shared) (u : Value), BindsTo s fd ⟨[u], []⟩ [(x, u)]) ∧ ∀ base : Heap, K.In base → base.Ns mainGlobals mg → FnG P w K mg base CX0 n fa fd [x] sp := by
  have e := hfa.symm.trans (PySem.W.mg_of X G a)
  cases e
  exact ⟨_, hb kV dc pm an cd ct, fun base _ _ => ok base _ _ (fun_mk l c k)⟩
end Tq

set_option maxRecDepth 100000
set_option maxHeartbeats 4000000
namespace Tq
open PySem PySem.Spec PyProof.Rows L2
open PySem.Builtin.Str (occurrences subAt)
open PySem.NumText (digitsVal AllDigits)
/-! ### numbers in texts -/
abbrev rIndex : V → List V → Hp → VK → Prop := fun x xs H Q => ∃ a b i r, x = .str a ∧ xs = [.str b] ∧ occurrences a b 0 a.length 1 = i :: r ∧ Q (.int (i : Nat)) H
theorem wE_index {C : Ct} {ta tb : TE} {y : S} {Q : Z → S → Prop} (w : wE C ta y fun z y1 => ∃ a, z = .d (.str a) ∧ wE C tb y1 fun z' y2 => ∃ b i r, z' = .d (.str b) ∧ occurrences a b 0 a.length 1 = i :: r ∧ Q (.d (.int (i : Nat))) y2) :
    wE C (tM1 rIndex ta tb) y Q := by
  intro F σ H K wd k
  refine w F σ H _ wd fun x H1 z y1 w1 g1 s1 r1 q1 => ?_
  obtain ⟨a, rfl, q1⟩ := q1
  have e := rp_str r1
  subst e
  refine ⟨⟨a, rfl⟩, q1 F σ H1 _ w1 fun x2 H2 z' y2 w2 g2 s2 r2 q2 => ?_⟩
  obtain ⟨b, i, r, rfl, ho, hq⟩ := q2
  exact ⟨a, b, i, r, rfl, by rw [rp_str r2], ho, k _ H2 (.d (.int _)) y2 w2 (g1.trans g2) (s1.trans s2) (.int _) hq⟩
end Tq

set_option maxRecDepth 100000
set_option maxHeartbeats 4000000
namespace Tq
open PySem PySem.Spec PyProof.Rows L2
/-! ### what repr shows, bounded -/
structure Shw (b k : Nat) (d : D) : Prop where
  nd : d.hasDict = false
  sw : d.showable = true
  dp : d.depth ≤ k
  ln : d.shown.length ≤ b
theorem Shw.ok {b k : Nat} {d : D} (h : Shw b k d) (hb : b ≤ 10000000 := by decide) (hk : k ≤ 60 := by decide) : ShOk d := by
  refine ⟨?_, h.sw, Nat.le_trans h.dp hk, Nat.le_trans h.ln (Nat.le_trans hb (by decide))⟩
  have := h.nd
  cases d with
  | dict kvs => cases this
  | list xs => show (!(PyData.list xs).hasDict) = true; rw [this]; rfl
  | tuple xs => show (!(PyData.tuple xs).hasDict) = true; rw [this]; rfl
  | _ => rfl
theorem Shw.mono {b k b' k' : Nat} {d : D} (h : Shw b k d) (hb : b ≤ b') (hk : k ≤ k') : Shw b' k' d := ⟨h.nd, h.sw, Nat.le_trans h.dp hk, Nat.le_trans h.ln hb⟩
theorem rz_int {i : Int} {k : Nat} (h : i.natAbs < 10 ^ k) (hk : 0 < k := by decide) (h2 : k ≤ 500 := by decide) : Shw (k + 1) 0 (.int i) := by
  refine ⟨rfl, ?_, Nat.le_refl _, ?_⟩
  · refine decide_eq_true (log2_lt (Nat.lt_of_lt_of_le h ?_) (by decide))
    exact Nat.le_trans (Nat.pow_le_pow_right (by decide) h2) (by decide +kernel)
  · show (Str.ofString (toString i)).length ≤ _
    rw [PySem.ofString_length]
    exact int_text_length_le10 hk h
end Tq

set_option maxRecDepth 100000
set_option maxHeartbeats 4000000
namespace Tq
open PySem PySem.Spec PyProof.Rows L2
open PySem.NumText (digitsVal AllDigits)
/-- a loop whose turns know J alone -/
theorem forJ {C : Ct} {v : Nat} {tx : TS} {xs : List D} {y0 : S} {bk : S → Prop} {rt : Z → S → Prop} {R : S → Prop} (J : Nat → S → Prop) (hv : v ≠ 0 := by decide) (h0 : ∃ y', J 0 y' ∧ Less y' y0)
    (hb : ∀ i x y', xs[i]? = some x → J i y' → wS C tx (y'.set v (some (.d x))) { nx := fun y => ∃ y', J (i + 1) y' ∧ Less y' y, ct := fun y => ∃ y', J (i + 1) y' ∧ Less y' y, bk := bk, rt := rt }) (he : ∀ y2 y', J xs.length y' → Less y' y2 → R y2) :
    ∃ I : Nat → S → Prop, I 0 y0 ∧ (∀ i x y2, xs[i]? = some x → I i y2 → wG C (gName v) x y2 fun y3 => wS C tx y3 { nx := I (i + 1), ct := I (i + 1), bk := bk, rt := rt }) ∧ (∀ y2, I xs.length y2 → R y2) :=
  ⟨fun i y => ∃ y', J i y' ∧ Less y' y, h0, fun i x y2 hx ⟨y', hj, hl⟩ => wG_name (hp := Or.inl hv) (wS_weak (hb i x y' hx hj) (less_set hl)), fun y2 ⟨y', hj, hl⟩ => he y2 y' hj hl⟩
theorem dLen_str {t : Str} (h : t.length ≤ 1000) : dLen (.str t) = some t.length := if_pos (sz_small (by omega))
theorem ten_two (a : Nat) : (10 : Nat) ^ a ≤ 2 ^ (4 * a) := by
  rw [Nat.pow_mul]
  exact Nat.pow_le_pow_left (by decide) a
theorem mulW_ok {i j : Int} (a b : Nat) (hi : i.natAbs < 10 ^ a) (hj : j.natAbs < 10 ^ b) (h : a ≤ 50000 := by omega) (h2 : b ≤ 50000 := by omega) : CMulW i j := by
  refine wide_mul (a := 4 * a + 1) (b := 4 * b + 1) (Nat.lt_of_lt_of_le hi ?_) (Nat.lt_of_lt_of_le hj ?_) (by omega) (by omega) (by omega)
  · exact Nat.le_trans (ten_two a) (Nat.pow_le_pow_right (by decide) (by omega))
  · exact Nat.le_trans (ten_two b) (Nat.pow_le_pow_right (by decide) (by omega))
theorem take_snoc {α : Type} {l : List α} {i : Nat} {x : α} (h : l[i]? = some x) : l.take (i + 1) = l.take i ++ [x] := by rw [List.take_add_one, h]; rfl
end Tq

set_option maxRecDepth 100000
set_option maxHeartbeats 4000000
namespace Tq
open PySem PySem.Spec PyProof.Rows L2
/-- a while loop whose turns know J alone -/
theorem wS_whileJ {C : Ct} {t : TT} {tx : TS} {y : S} {e : En} (J : Nat → S → Prop) (h0 : ∃ m y', J m y' ∧ Less y' y)
    (hs : ∀ m y1, J m y1 → wT C t y1 fun b y2 => if b = true then wS C tx y2 { nx := fun y3 => ∃ m' y', m' < m ∧ J m' y' ∧ Less y' y3, ct := fun y3 => ∃ m' y', m' < m ∧ J m' y' ∧ Less y' y3, bk := e.nx, rt := e.rt } else e.nx y2) :
    wS C (tWhile t tx) y e := by
  intro F σ H E st wd k
  obtain ⟨m0, y0, h0, l0⟩ := h0
  obtain ⟨wd0, g0⟩ := wd.weak l0
  refine ⟨fun m σ1 H1 => ∃ y1, Wd C F σ1 y1 H1 ∧ Go F σ y H σ1 y1 H1 ∧ J m y1, ⟨m0, y0, wd0, g0, h0⟩, ?_⟩
  rintro m σ1 H1 ⟨y1, w1, g1, hw⟩
  refine hs m y1 hw F σ1 H1 _ w1 fun b H2 y2 w2 g2 s2 q => ?_
  have fin : ∀ σ5 H5 y5, Wd C F σ5 y5 H5 → Go F σ1 y2 H2 σ5 y5 H5 → (∃ m' y', m' < m ∧ J m' y' ∧ Less y' y5) → ∃ m', m' < m ∧ ∃ y3, Wd C F σ5 y3 H5 ∧ Go F σ y H σ5 y3 H5 ∧ J m' y3 := by
    rintro σ5 H5 y5 w5 g5 ⟨m', y', hm, q5, l5⟩
    obtain ⟨w6, g6⟩ := w5.weak l5
    exact ⟨m', hm, y', w6, ((g1.trans g2).trans g5).trans g6, q5⟩
  cases b with
  | true =>
    refine ⟨fun σ3 H3 => ∃ m', m' < m ∧ ∃ y3, Wd C F σ3 y3 H3 ∧ Go F σ y H σ3 y3 H3 ∧ J m' y3, fun σ3 H3 ⟨m', hm, z⟩ => ⟨m', hm, z⟩, ?_⟩
    exact q F σ1 H2 _ st w2 ⟨fun σ5 H5 y5 w5 g5 q5 => fin σ5 H5 y5 w5 g5 q5, fun σ5 v5 H5 z5 y5 w5 g5 r5 q5 => k.rt σ5 v5 H5 z5 y5 w5 ((g1.trans g2).trans g5) r5 q5,
      fun σ5 H5 y5 w5 g5 q5 => k.nx σ5 H5 y5 w5 ((g1.trans g2).trans g5) q5, fun σ5 H5 y5 w5 g5 q5 => fin σ5 H5 y5 w5 g5 q5⟩
  | false => exact k.nx σ1 H2 y2 w2 (g1.trans g2) q
/-- what is never reached -/
def tNo : TS := fun _ _ _ => False
theorem ps_no {X : Cx} {st : Stmt} : PS X st tNo := ⟨fun _ _ _ _ _ _ h => h.elim⟩
end Tq

set_option maxRecDepth 100000
set_option maxHeartbeats 4000000
namespace Tq
open PySem PySem.Spec PyProof.Rows L2
/-! ### whole numbers of at most k figures -/
def Bd (k : Nat) (x : Int) : Prop := x.natAbs < 10 ^ k
theorem Bd.mono {k k' : Nat} {x : Int} (h : Bd k x) (hk : k ≤ k') : Bd k' x := Nat.lt_of_lt_of_le h (Nat.pow_le_pow_right (by decide) hk)
theorem Bd.add {k k' : Nat} {x y : Int} (h : Bd k x) (h' : Bd k' y) : Bd (k + k' + 1) (x + y) := by
  have h1 := h.mono (show k ≤ k + k' by omega)
  have h2 := h'.mono (show k' ≤ k + k' by omega)
  unfold Bd at *
  rw [Nat.pow_succ]
  omega
theorem Bd.neg {k : Nat} {x : Int} (h : Bd k x) : Bd k (-x) := by unfold Bd at *; omega
theorem Bd.sub {k k' : Nat} {x y : Int} (h : Bd k x) (h' : Bd k' y) : Bd (k + k' + 1) (x - y) := by
  rw [Int.sub_eq_add_neg]; exact h.add h'.neg
theorem Bd.mul {k k' : Nat} {x y : Int} (h : Bd k x) (h' : Bd k' y) : Bd (k + k') (x * y) := by
  unfold Bd at *
  rw [Int.natAbs_mul, Nat.pow_add]
  exact Nat.mul_lt_mul'' h h'
theorem Bd.div {k : Nat} {x y : Int} (h : Bd k x) (hy : 0 < y) : Bd (k + 1) (x / y) := by
  unfold Bd at *
  rw [Nat.pow_succ]
  have h1 : x / y ≤ x.natAbs := by
    rcases Int.lt_or_le x 0 with z | z
    · have := Int.ediv_neg_of_neg_of_pos z hy; omega
    · have := Int.ediv_le_self y z; omega
  have h2 : -(x.natAbs : Int) - 1 ≤ x / y := by
    rcases Int.lt_or_le x 0 with z | z
    · have e := Int.emod_add_mul_ediv x y
      have e1 := Int.emod_nonneg x (show y ≠ 0 by omega)
      have e2 := Int.emod_lt_of_pos x hy
      rcases Int.lt_or_le (x / y) (-(x.natAbs : Int) - 1) with w | w
      · have : y * (x / y) ≤ 1 * (x / y) := Int.mul_le_mul_of_nonpos_right (by omega) (by omega)
        have h3 : y * (x / y) ≤ y * (-(x.natAbs : Int) - 2) := Int.mul_le_mul_of_nonneg_left (by omega) (by omega)
        have h4 : y * (-(x.natAbs : Int) - 2) = -(y * x.natAbs) - 2 * y := by rw [Int.mul_sub, Int.mul_neg]; omega
        have h5 : 1 * (x.natAbs : Int) ≤ y * x.natAbs := Int.mul_le_mul_of_nonneg_right (by omega) (by omega)
        omega
      · exact w
    · have := Int.ediv_nonneg z (show 0 ≤ y by omega); omega
  omega
theorem Bd.mod {k : Nat} {x y : Int} (h : Bd k y) (hy : 0 < y) : Bd k (x % y) := by
  have e1 := Int.emod_nonneg x (show y ≠ 0 by omega)
  have e2 := Int.emod_lt_of_pos x hy
  unfold Bd at *
  omega
theorem Bd.lit {k : Nat} {x : Int} (h : x.natAbs < 10 ^ k) : Bd k x := h
theorem Bd.max {k k' : Nat} {x y : Int} (h : Bd k x) (h' : Bd k' y) : Bd (k + k') (if y > x then y else x) := by
  split
  · exact h'.mono (by omega)
  · exact h.mono (by omega)
theorem Bd.min {k k' : Nat} {x y : Int} (h : Bd k x) (h' : Bd k' y) : Bd (k + k') (if y < x then y else x) := by
  split
  · exact h'.mono (by omega)
  · exact h.mono (by omega)
theorem Bd.mulW {k k' : Nat} {x y : Int} (h : Bd k x) (h' : Bd k' y) (hk : k ≤ 50000 := by decide) (hk' : k' ≤ 50000 := by decide) : CMulW x y := mulW_ok k k' h h' hk hk'
theorem Bd.divW {k : Nat} {x y : Int} (h : Bd k y) (hy : 0 < y) (hk : k ≤ 2000 := by decide) : CDivW x y := wide_div (b := 4 * k + 1) hy (Nat.lt_of_lt_of_le h (Nat.le_trans (ten_two k) (Nat.pow_le_pow_right (by decide) (by omega)))) (by omega) (by omega)
/-! ### neighbours of a fraction -/
structure NB (p q N a b c d : Int) : Prop where
  b1 : 1 ≤ b
  d1 : 1 ≤ d
  bN : b ≤ N
  dN : d ≤ N
  ov : N < b + d
  one : c * b - a * d = 1
  lo : 0 < p * b - a * q
  hi : 0 < c * q - p * d
/-- the parts of a fraction between two neighbours -/
theorem nb_q {p q a b c d : Int} (h : c * b - a * d = 1) : q = b * (c * q - p * d) + d * (p * b - a * q) := by
  have : q * (c * b - a * d) = b * (c * q - p * d) + d * (p * b - a * q) := by
    simp only [Int.mul_sub, Int.sub_mul, Int.mul_assoc, Int.mul_comm, Int.mul_left_comm]
    omega
  rw [h, Int.mul_one] at this
  exact this
theorem le_mul {a x : Int} (ha : 0 ≤ a) (hx : 1 ≤ x) : a ≤ a * x := by
  have := Int.mul_le_mul_of_nonneg_left hx ha
  omega
theorem nb_sum {p q a b c d : Int} (h : c * b - a * d = 1) (hb : 1 ≤ b) (hd : 1 ≤ d) (hx : 0 < p * b - a * q) (hy : 0 < c * q - p * d) : b + d ≤ q := by
  have e := nb_q (p := p) (q := q) h
  have h1 := le_mul (a := b) (x := c * q - p * d) (by omega) hy
  have h2 := le_mul (a := d) (x := p * b - a * q) (by omega) hx
  omega
/-- one below the other and no smaller denominator fits between -/
theorem NB.le {p q N a b c d a' b' c' d' : Int} (h : NB p q N a b c d) (h' : NB p q N a' b' c' d') : a' * b ≤ a * b' := by
  -- a'/b' < p/q < c/d
  rcases Int.lt_or_le (a * b') (a' * b) with z | z
  · exfalso
    have q1 := nb_sum h.one h.b1 h.d1 h.lo h.hi
    have b1 := h.b1
    have d1 := h.d1
    have b1' := h'.b1
    -- a' d < c b'
    have hx := h'.lo
    have hy := h.hi
    have k1 : 0 < c * b' - a' * d := by
      have m1 : 0 < b' * (c * q - p * d) := Int.mul_pos (by omega) hy
      have m2 : 0 < d * (p * b' - a' * q) := Int.mul_pos (by omega) hx
      have e : q * (c * b' - a' * d) = b' * (c * q - p * d) + d * (p * b' - a' * q) := by
        simp only [Int.mul_sub, Int.sub_mul, Int.mul_assoc, Int.mul_comm, Int.mul_left_comm]
        omega
      rcases Int.lt_or_le 0 (c * b' - a' * d) with w | w
      · exact w
      · have : q * (c * b' - a' * d) ≤ 0 := Int.mul_nonpos_of_nonneg_of_nonpos (by omega) w
        omega
    have k2 : 0 < a' * b - a * b' := by omega
    have e := nb_q (p := a') (q := b') h.one
    have h1 := le_mul (a := b) (x := c * b' - a' * d) (by omega) k1
    have h2 := le_mul (a := d) (x := a' * b - a * b') (by omega) k2
    have := h'.bN
    have := h.ov
    omega
  · exact z
theorem NB.low {p q N a b c d a' b' c' d' : Int} (h : NB p q N a b c d) (h' : NB p q N a' b' c' d') : a = a' ∧ b = b' := by
  have e : a' * b = a * b' := Int.le_antisymm (h.le h') (h'.le h)
  have key : ∀ {a b c d a' b' : Int}, c * b - a * d = 1 → 1 ≤ b → 1 ≤ b' → a' * b = a * b' → b ≤ b' := by
    intro a b c d a' b' h1 hb hb' e
    have e2 : b' = b * (c * b' - a' * d) := by
      have : b' * (c * b - a * d) = b * (c * b' - a' * d) := by
        have e3 : d * (a' * b) = d * (a * b') := by rw [e]
        simp only [Int.mul_sub, Int.sub_mul, Int.mul_assoc, Int.mul_comm, Int.mul_left_comm] at e3 ⊢
        omega
      rw [h1, Int.mul_one] at this
      exact this
    have h3 : 1 ≤ c * b' - a' * d := by
      rcases Int.lt_or_le (c * b' - a' * d) 1 with w | w
      · have : b * (c * b' - a' * d) ≤ 0 := Int.mul_nonpos_of_nonneg_of_nonpos (by omega) (by omega)
        omega
      · exact w
    have := le_mul (a := b) (by omega) h3
    omega
  have hb : b = b' := Int.le_antisymm (key h.one h.b1 h'.b1 e) (key h'.one h'.b1 h.b1 e.symm)
  subst hb
  exact ⟨(Int.eq_of_mul_eq_mul_right (by have := h.b1; omega) e).symm, rfl⟩
/-- what stands at each turn -/
structure NI (p q N a b c d : Int) : Prop where
  b1 : 1 ≤ b
  d1 : 1 ≤ d
  bN : b ≤ N
  dN : d ≤ N
  one : c * b - a * d = 1
  lo : 0 < p * b - a * q
  hi : 0 < c * q - p * d
theorem Bd.of_mul {k : Nat} {a q : Int} (h : Bd k (a * q)) (hq : 1 ≤ q) : Bd k a := by
  unfold Bd at *
  rw [Int.natAbs_mul] at h
  have : a.natAbs * 1 ≤ a.natAbs * q.natAbs := Nat.mul_le_mul_left _ (by omega)
  omega
theorem NI.bd {p q N a b c d : Int} {k : Nat} (h : NI p q N a b c d) (hp : Bd k p) (hq : Bd k q) (hN : Bd k N) : Bd k b ∧ Bd k d ∧ Bd (3 * k + 1) a ∧ Bd (3 * k + 1) c ∧ (p * b - a * q) ≤ q ∧ (c * q - p * d) ≤ q ∧ 1 ≤ q := by
  have e := nb_q (p := p) (q := q) h.one
  have hb := h.b1
  have hd := h.d1
  have hX := h.lo
  have hY := h.hi
  have h1 := le_mul (a := c * q - p * d) (x := b) (by omega) hb
  have h2 := le_mul (a := p * b - a * q) (x := d) (by omega) hd
  rw [Int.mul_comm _ b] at h1
  rw [Int.mul_comm _ d] at h2
  have hXb : 0 < d * (p * b - a * q) := Int.mul_pos (by omega) hX
  have hYb : 0 < b * (c * q - p * d) := Int.mul_pos (by omega) hY
  have x1 : p * b - a * q ≤ q := by omega
  have y1 : c * q - p * d ≤ q := by omega
  have q1 : 1 ≤ q := by omega
  have bb : Bd k b := by have := h.bN; unfold Bd at *; omega
  have bd : Bd k d := by have := h.dN; unfold Bd at *; omega
  refine ⟨bb, bd, ?_, ?_, x1, y1, q1⟩
  · refine Bd.of_mul (q := q) ?_ q1
    have ex : a * q = p * b - (p * b - a * q) := by omega
    rw [ex]
    have hx : Bd k (p * b - a * q) := by unfold Bd at *; omega
    exact ((hp.mul bb).sub hx).mono (by omega)
  · refine Bd.of_mul (q := q) ?_ q1
    have ex : c * q = p * d + (c * q - p * d) := by omega
    rw [ex]
    have hx : Bd k (c * q - p * d) := by unfold Bd at *; omega
    exact ((hp.mul bd).add hx).mono (by omega)
end Tq

set_option maxRecDepth 100000
set_option maxHeartbeats 4000000
namespace Tq
open PySem PySem.Spec PyProof.Rows L2
abbrev fr (a b : Int) : D := .tuple [.int a, .int b]
def NR (p q N : Int) (r : D) : Prop := (q ≤ N ∧ r = .tuple [fr p q, fr p q]) ∨ (N < q ∧ ∃ a b c d, NB p q N a b c d ∧ r = .tuple [fr a b, fr c d])
structure FN (p q N : Int) : Prop where
  q1 : 1 ≤ q
  g : gcdI p q = 1
  n1 : 1 ≤ N
  bp : Bd 65 p
  bq : Bd 65 q
  bN : Bd 65 N
theorem NI.nb {p q N a b c d : Int} (h : NI p q N a b c d) (o : N < b + d) : NB p q N a b c d := ⟨h.b1, h.d1, h.bN, h.dN, o, h.one, h.lo, h.hi⟩
theorem NB.ni {p q N a b c d : Int} (h : NB p q N a b c d) : NI p q N a b c d := ⟨h.b1, h.d1, h.bN, h.dN, h.one, h.lo, h.hi⟩
/-! ### what k15's law draws -/
theorem NR.bd {p q N : Int} {r : D} (h : NR p q N r) (f : FN p q N) : ∃ a b c d, r = .tuple [fr a b, fr c d] ∧ Bd 900 a ∧ Bd 900 b ∧ Bd 900 c ∧ Bd 900 d := by
  have f1 := f.bp
  have f2 := f.bq
  rcases h with ⟨h1, e⟩ | ⟨h1, a, b, c, d, n, e⟩
  · exact ⟨_, _, _, _, e, f1.mono (by decide), f2.mono (by decide), f1.mono (by decide), f2.mono (by decide)⟩
  · obtain ⟨b1, b2, b3, b4, _⟩ := n.ni.bd f.bp f.bq f.bN
    exact ⟨_, _, _, _, e, b3.mono (by decide), b1.mono (by decide), b4.mono (by decide), b2.mono (by decide)⟩
theorem NB.at {p q N N' a b c d : Int} (n : NB p q N a b c d) (h1 : b ≤ N') (h2 : d ≤ N') (h3 : N' < b + d) : NB p q N' a b c d := ⟨n.b1, n.d1, h1, h2, h3, n.one, n.lo, n.hi⟩
theorem FN.at {p q N N' : Int} (f : FN p q N) (h1 : 1 ≤ N') (h2 : N' ≤ q) : FN p q N' := ⟨f.q1, f.g, h1, f.bp, f.bq, by have := f.bq; unfold Bd at *; omega⟩
end Tq

set_option maxRecDepth 100000
set_option maxHeartbeats 4000000
namespace Tq
open PySem PySem.Spec PyProof.Rows L2
/-! ### the best fractions, by going through all bottoms -/
structure LB (p q k a b : Int) : Prop where
  b1 : 1 ≤ b
  bk : b ≤ k
  lo : a * q ≤ p * b
  best : ∀ x y, 1 ≤ y → y ≤ k → x * q ≤ p * y → x * b ≤ a * y
  less : ∀ x y, 1 ≤ y → y < b → x * q ≤ p * y → x * b < a * y
theorem NR.bd2 {p q N : Int} {r : D} (h : NR p q N r) (f : FN p q N) : ∃ a b c d, r = .tuple [fr a b, fr c d] ∧ Bd 200 a ∧ Bd 200 b ∧ Bd 200 c ∧ Bd 200 d := by
  have f1 := f.bp
  have f2 := f.bq
  rcases h with ⟨h1, e⟩ | ⟨h1, a, b, c, d, n, e⟩
  · exact ⟨_, _, _, _, e, f1.mono (by decide), f2.mono (by decide), f1.mono (by decide), f2.mono (by decide)⟩
  · obtain ⟨bb, bd, ba, bc, _⟩ := n.ni.bd f1 f2 f.bN
    exact ⟨_, _, _, _, e, ba.mono (by decide), bb.mono (by decide), bc.mono (by decide), bd.mono (by decide)⟩
end Tq

set_option maxRecDepth 100000
set_option maxHeartbeats 4000000
namespace Tq
open PySem PySem.Spec PyProof.Rows L2
/-! ### tuples of the text's top, in, lists taken apart -/
/-- the name x is a thing of the written part that reads as d -/
structure GD (K : Fg) (mg : Str → Option Value) (x : Str) (a : Addr) (d : D) : Prop where
  m : mg x = some (.ref a)
  r : ∀ (M : Addr → Prop) (H : Hp), Rp K M H (.ref a) d
mutual
/-- a value of the written part that reads as d -/
inductive KV1 (K : Fg) : Value → V → D → Prop
  | int (i : Int) (t : Tok) : KV1 K (.int i t) (.int i) (.int i)
  | str (s : Str) (t : Tok) : KV1 K (.str s t) (.str s) (.str s)
  | tup {a : Addr} {od : Option Addr} {sl : Array (Option Value)} {us : List Value} {vs : List V} {ds : List D} {n : Nat} (hz : us.length ≤ sizeLine) (l : K.lookup a = some ⟨.type "tuple", od, .seq us.toArray n, sl⟩) (kv : KVs K us vs ds) : KV1 K (.ref a) (.ref a) (.tuple ds)
inductive KVs (K : Fg) : List Value → List V → List D → Prop
  | nil : KVs K [] [] []
  | cons {u : Value} {v : V} {d : D} {us : List Value} {vs : List V} {ds : List D} : KV1 K u v d → KVs K us vs ds → KVs K (u :: us) (v :: vs) (d :: ds)
end
theorem KVs.vals {K : Fg} : ∀ {us : List Value} {vs : List V} {ds : List D}, KVs K us vs ds → Vals vs us
  | _, _, _, .nil => .nil
  | _, _, _, .cons (.int i t) b => .cons ⟨t, rfl⟩ b.vals
  | _, _, _, .cons (.str i t) b => .cons ⟨t, rfl⟩ b.vals
  | _, _, _, .cons (.tup _ _ _) b => .cons rfl b.vals
theorem KVs.rp {K : Fg} {M : Addr → Prop} {H : Hp} : ∀ {us : List Value} {vs : List V} {ds : List D}, KVs K us vs ds → RpA K M H vs ds
  | _, _, _, .nil => .nil
  | _, _, _, .cons (.int i t) b => .cons (.int i) b.rp
  | _, _, _, .cons (.str i t) b => .cons (.str i) b.rp
  | _, _, _, .cons (.tup hz l kv) b => .cons (.tup (.inr ⟨_, _, _, l, rfl, rfl, by rw [List.size_toArray]; exact hz, by simpa using kv.vals⟩) kv.rp) b.rp
section
variable {C : Ct} {y : S} {ta tb : TE} {Q : Z → S → Prop}
/-! in, of plain things -/
end
end Tq

set_option maxRecDepth 100000
set_option maxHeartbeats 4000000
namespace Tq
open PySem PySem.Spec PyProof.Rows L2
/-! ### rows of whole terms -/
def toI : D → Int
  | .int i => i
  | _ => 0
theorem num_int {d : D} (h : isNum d = true) : d = .int (toI d) := by cases d <;> first | rfl | cases h
def allInts (ds : List D) : Option (List Int) := if ds.all isNum = true then some (ds.map toI) else none
theorem allInts_ints (ts : List Int) : allInts (ts.map PyData.int) = some ts := by
  unfold allInts
  have h : (ts.map PyData.int).all isNum = true := by rw [List.all_map]; exact List.all_eq_true.mpr fun _ _ => rfl
  rw [if_pos h, List.map_map]
  congr 1
  exact List.map_id ts
theorem allInts_some {ds : List D} {ts : List Int} (h : allInts ds = some ts) : ds = ts.map PyData.int := by
  unfold allInts at h
  split at h
  · rename_i q
    cases h
    rw [List.map_map]
    refine (List.map_id ds).symm.trans (List.map_congr_left fun d hd => ?_)
    exact num_int (List.all_eq_true.mp q d hd)
  · cases h
/-- the terms of a list or tuple of whole numbers -/
def intsD (d : D) : Option (List Int) := (dItems d).bind allInts
def floorL (ts : List Int) : Bool := !ts.isEmpty && (ts.drop 1).all (fun t => decide (1 ≤ t)) && (decide (ts.length = 1) || !decide (ts.getLast? = some 1))
section
variable {C : Ct} {y : S} {te : TE} {Qi : List D → S → Prop}
end
theorem cutD1 {α : Type} (xs : List α) : cutD xs (some 1) none = xs.drop 1 := by
  cases xs with
  | nil => rfl
  | cons x xs =>
    unfold cutD
    have h1 : HT.sIx (x :: xs).length 0 (some 1) = 1 := by
      unfold HT.sIx
      simp
    rw [h1]
    show (xs.drop 0).take (xs.length + 1 - 1) = xs
    simp
theorem atI_last {α : Type} {xs : List α} (h : xs ≠ []) : atI xs (-1) = xs.getLast? := by
  have hl : 0 < xs.length := List.length_pos_iff.mpr h
  have e : ixN xs.length (-1) = some (xs.length - 1) := by
    unfold ixN
    rw [if_neg (by omega), if_pos (by omega)]
    congr 1
    omega
  unfold atI
  rw [e, List.getLast?_eq_getElem?]
  rfl
theorem filter_tt {α : Type} (xs : List α) : xs.filter (fun _ => true) = xs := List.filter_eq_self.mpr (fun _ _ => rfl)
/-! ### turns -/
structure Mx where
  a : Int
  b : Int
  c : Int
  d : Int
def Mx.mul (m n : Mx) : Mx := ⟨m.a * n.a + m.b * n.c, m.a * n.b + m.b * n.d, m.c * n.a + m.d * n.c, m.c * n.b + m.d * n.d⟩
def Mx.one : Mx := ⟨1, 0, 0, 1⟩
def Mx.term (t : Int) : Mx := ⟨t, 1, 1, 0⟩
def MB (k : Nat) (m : Mx) : Prop := Bd k m.a ∧ Bd k m.b ∧ Bd k m.c ∧ Bd k m.d
def turnL (ts : List Int) : Mx := ts.foldl (fun m t => m.mul (.term t)) .one
theorem turn_snoc (ts : List Int) (t : Int) : turnL (ts ++ [t]) = (turnL ts).mul (.term t) := by
  unfold turnL
  rw [List.foldl_append]
  rfl
theorem Mx.mul_term (m : Mx) (t : Int) : m.mul (.term t) = ⟨m.a * t + m.b, m.a, m.c * t + m.d, m.c⟩ := by
  unfold Mx.mul Mx.term
  simp
theorem bd1 {k : Nat} {x y : Int} (h : Bd k x) (h' : Bd k y) : Bd (k + 1) (x + y) := by
  unfold Bd at *
  have : 10 ^ (k + 1) = 10 ^ k * 10 := Nat.pow_succ ..
  omega
theorem mb_step {k : Nat} {m : Mx} {t : Int} (h : MB k m) (ht : Bd 13 t) : MB (k + 14) (m.mul (.term t)) := by
  rw [Mx.mul_term]
  obtain ⟨h1, h2, h3, h4⟩ := h
  exact ⟨bd1 (k := k + 13) (h1.mul ht) (h2.mono (by omega)), h1.mono (by omega), bd1 (k := k + 13) (h3.mul ht) (h4.mono (by omega)), h3.mono (by omega)⟩
theorem list_snoc {P : List Int → Prop} (h0 : P []) (hs : ∀ ts t, P ts → P (ts ++ [t])) : ∀ ts, P ts := fun ts => by
  have : ∀ n (ts : List Int), ts.length = n → P ts := by
    intro n
    induction n with
    | zero => intro ts h; rw [List.eq_nil_of_length_eq_zero h]; exact h0
    | succ n ih =>
      intro ts h
      have hne : ts ≠ [] := fun z => by rw [z] at h; cases h
      rw [← List.dropLast_concat_getLast hne]
      exact hs _ _ (ih _ (by rw [List.length_dropLast]; omega))
  exact this _ ts rfl
theorem mb_turn (ts : List Int) (h : ∀ t ∈ ts, Bd 13 t) : MB (14 * ts.length + 1) (turnL ts) := by
  revert h
  refine list_snoc (P := fun ts => (∀ t ∈ ts, Bd 13 t) → MB (14 * ts.length + 1) (turnL ts)) ?_ ?_ ts
  · intro _
    show MB 1 .one
    exact ⟨Bd.lit (by decide), Bd.lit (by decide), Bd.lit (by decide), Bd.lit (by decide)⟩
  · intro ts t ih h
    rw [turn_snoc, List.length_append]
    have := mb_step (ih fun u hu => h u (List.mem_append.mpr (.inl hu))) (h t (List.mem_append.mpr (.inr (List.mem_singleton.mpr rfl))))
    rw [show 14 * (ts.length + [t].length) + 1 = 14 * ts.length + 1 + 14 by simp; omega]
    exact this
theorem MB.mono {k k' : Nat} {m : Mx} (h : MB k m) (hk : k ≤ k') : MB k' m := ⟨h.1.mono hk, h.2.1.mono hk, h.2.2.1.mono hk, h.2.2.2.mono hk⟩
/-- terms that may be handled -/
def TB (ts : List Int) : Prop := ts.length ≤ 110 ∧ ∀ t ∈ ts, Bd 13 t
theorem TB.take {ts : List Int} (h : TB ts) (n : Nat) : TB (ts.take n) := ⟨by rw [List.length_take]; have := h.1; omega, fun t ht => h.2 t (List.mem_of_mem_take ht)⟩
theorem TB.turn {ts : List Int} (h : TB ts) : MB 1600 (turnL ts) := (mb_turn ts h.2).mono (by have := h.1; omega)
/-- terms from 1 on behind the first one -/
def Pos1 (ts : List Int) : Prop := ∀ t ∈ ts.drop 1, 1 ≤ t
theorem turn_pos (ts : List Int) (h : Pos1 ts) (hn : ts ≠ []) : 1 ≤ (turnL ts).c ∧ 0 ≤ (turnL ts).d := by
  revert h hn
  refine list_snoc (P := fun ts => Pos1 ts → ts ≠ [] → 1 ≤ (turnL ts).c ∧ 0 ≤ (turnL ts).d) (fun _ z => absurd rfl z) ?_ ts
  intro ts t ih h _
  rw [turn_snoc, Mx.mul_term]
  cases ts with
  | nil => show 1 ≤ (0 : Int) * t + 1 ∧ (0 : Int) ≤ 0; omega
  | cons u us =>
    obtain ⟨h1, h2⟩ := ih (fun v hv => h v (by show v ∈ us ++ [t]; exact List.mem_append.mpr (.inl hv))) (by simp)
    have ht : 1 ≤ t := h t (by show t ∈ us ++ [t]; simp)
    have := Int.mul_le_mul h1 ht (by omega) (by omega)
    exact ⟨by show 1 ≤ (turnL (u :: us)).c * t + (turnL (u :: us)).d; omega, by show 0 ≤ (turnL (u :: us)).c; omega⟩
theorem floorL_pos {ts : List Int} (h : floorL ts = true) : ts ≠ [] ∧ Pos1 ts := by
  unfold floorL at h
  rw [Bool.and_eq_true, Bool.and_eq_true] at h
  refine ⟨fun z => by rw [z] at h; simp at h, fun t ht => ?_⟩
  exact of_decide_eq_true (List.all_eq_true.mp h.1.2 t ht)
theorem intsD_cases {d : D} {ts : List Int} (h : intsD d = some ts) : d = .list (ts.map PyData.int) ∨ d = .tuple (ts.map PyData.int) := by
  unfold intsD at h
  cases d with
  | list xs => exact .inl (by rw [allInts_some (show allInts xs = some ts from h)])
  | tuple xs => exact .inr (by rw [allInts_some (show allInts xs = some ts from h)])
  | _ => cases h
theorem intsD_items {d : D} {ts : List Int} (h : intsD d = some ts) : dItems d = some (ts.map PyData.int) := by
  rcases intsD_cases h with rfl | rfl <;> rfl
/-- how far two rows are alike -/
def alike : List Int → List Int → Nat
  | t :: ts, u :: us => if t = u then alike ts us + 1 else 0
  | _, _ => 0
theorem atI_nat {α : Type} {xs : List α} {i : Nat} {g : α} (e : xs[i]? = some g) : atI xs (i : Int) = some g := by
  have hi := (List.getElem?_eq_some_iff.mp e).1
  unfold atI ixN
  rw [if_pos (by omega), if_pos (by omega)]
  show xs[(i : Int).toNat]? = some g
  rw [Int.toNat_natCast, e]
theorem dIx_at {d : D} {xs : List D} {i : Nat} {g : D} (h : dItems d = some xs) (e : xs[i]? = some g) : dIx d (i : Int) = some g := by
  cases d with
  | list ys => cases h; exact atI_nat e
  | tuple ys => cases h; exact atI_nat e
  | _ => cases h
theorem dIx_int {d : D} {ts : List Int} {i : Nat} {t : Int} (h : intsD d = some ts) (e : ts[i]? = some t) : dIx d (i : Int) = some (.int t) := dIx_at (intsD_items h) (by rw [List.getElem?_map, e]; rfl)
theorem dLen_items {d : D} {xs : List D} (h : dItems d = some xs) : dLen d = some xs.length := by
  cases d with
  | list ys => cases h; rfl
  | tuple ys => cases h; rfl
  | _ => cases h
theorem dLen_int {d : D} {ts : List Int} (h : intsD d = some ts) : dLen d = some ts.length := by
  rw [dLen_items (intsD_items h), List.length_map]
/-! two rows side by side -/
/-! ### drawn rows -/
theorem ixI_any {ds : List D} {r : Int} {R : D → Prop} (h0 : 0 ≤ r) (h1 : r < ds.length) (h : ∀ n ∈ ds, R n) : ∃ d i g, Z.d (.list ds) = Z.d d ∧ Z.d (.int r) = Z.d (.int i) ∧ dIx d i = some g ∧ R g := by
  obtain ⟨u, hu, hm⟩ := atI_mem (xs := ds) h0 h1
  exact ⟨_, _, u, rfl, rfl, hu, h u hm⟩
/-! the law's own look -/
def ElOk (xs : List D) : Prop := ∀ x ∈ xs, x.canLay0 = true ∧ x.depth ≤ 60
theorem shaped_list {xs : List D} (h : ElOk xs) : SeqAt.shaped (.list xs) = true := by
  have z : PyData.canLayAll0 xs = true ∧ PyData.depthAll xs ≤ 60 := by
    induction xs with
    | nil => exact ⟨rfl, Nat.zero_le _⟩
    | cons x r ih =>
      obtain ⟨h1, h2⟩ := ih fun y hy => h y (List.mem_cons_of_mem _ hy)
      obtain ⟨h3, h4⟩ := h x List.mem_cons_self
      refine ⟨?_, ?_⟩
      · show (x.canLay0 && PyData.canLayAll0 r) = true
        rw [h1, h3]; rfl
      · show max x.depth (PyData.depthAll r) ≤ 60
        omega
  unfold SeqAt.shaped
  show (PyData.canLayAll0 xs && decide (PyData.depthAll xs + 1 ≤ 64)) = true
  rw [z.1, decide_eq_true (by omega)]; rfl
theorem filter_nil {α : Type} {p : α → Bool} {xs : List α} : (xs.filter p).isEmpty = xs.all (fun x => !p x) := by
  induction xs with
  | nil => rfl
  | cons x r ih =>
    rw [List.filter_cons, List.all_cons]
    cases p x <;> simp [ih]
theorem elok_ints (ts : List Int) : ElOk (ts.map PyData.int) := fun x hx => by
  obtain ⟨t, _, rfl⟩ := List.mem_map.mp hx
  exact ⟨rfl, Nat.zero_le _⟩
end Tq

set_option maxRecDepth 100000
set_option maxHeartbeats 4000000
namespace Tq
open PySem PySem.Spec PyProof.Rows L2
/-! ### the row of a fraction's root -/
/-- how a root stands to a / b: the sign of this -/
def eR (A B a b : Int) : Int := A * b * b - a * a * B
def sgL (n : Nat) : Int := if n % 2 = 0 then 1 else -1
theorem sgL_cases (n : Nat) : sgL n = 1 ∨ sgL n = -1 := by unfold sgL; split <;> simp
def dR (A B : Int) (n : Nat) (m : Mx) : Int := -sgL n * eR A B m.a m.c
def wR (A B : Int) (n : Nat) (m : Mx) : Int := -sgL n * (m.a * m.b * B - m.c * m.d * A)
def cR (A B : Int) (n : Nat) (m : Mx) : Int := -sgL n * eR A B m.b m.d
/-- a beginning of the row of the root -/
structure Beg (A B : Int) (n : Nat) (m : Mx) : Prop where
  det : m.a * m.d - m.b * m.c = sgL n
  near : 0 ≤ dR A B n m
  far : 1 ≤ n → dR A B n m - 2 * wR A B n m + cR A B n m < 0
  back : cR A B n m ≤ 0
theorem sq_le {x r : Int} (h1 : -r ≤ x) (h2 : x ≤ r) : x * x ≤ r * r := by
  have h : 0 ≤ (r - x) * (r + x) := Int.mul_nonneg (by omega) (by omega)
  have e : (r - x) * (r + x) = r * r - x * x := by grind
  omega
theorem sq_ge {x r : Int} (h0 : 0 ≤ r) (h : r ≤ x) : r * r ≤ x * x := by
  have h1 : 0 ≤ (x - r) * (x + r) := Int.mul_nonneg (by omega) (by omega)
  have e : (x - r) * (x + r) = x * x - r * r := by grind
  omega
theorem sq_abs {x r N : Int} (h0 : 0 ≤ r) (h1 : x * x ≤ N) (h2 : N < (r + 1) * (r + 1)) : -r ≤ x ∧ x ≤ r := by
  constructor
  · by_cases h : -r ≤ x
    · exact h
    · have := sq_ge (x := -x) (r := r + 1) (by omega) (by omega)
      have e : -x * -x = x * x := by grind
      omega
  · by_cases h : x ≤ r
    · exact h
    · have := sq_ge (x := x) (r := r + 1) (by omega) (by omega)
      omega
theorem pos_of_mul {d q : Int} (hd : 0 < d) (h : 0 < d * q) : 0 < q := by
  by_cases hq : 0 < q
  · exact hq
  · have := Int.mul_nonneg (Int.le_of_lt hd) (by omega : 0 ≤ -q)
    have e : d * -q = -(d * q) := by grind
    omega
/-! ### the greatest whole number whose square is no greater -/
def isqN : Nat → Int
  | 0 => 0
  | n + 1 => if (isqN n + 1) * (isqN n + 1) ≤ ((n + 1 : Nat) : Int) then isqN n + 1 else isqN n
theorem isqN_ok : ∀ n : Nat, 0 ≤ isqN n ∧ isqN n * isqN n ≤ (n : Int) ∧ (n : Int) < (isqN n + 1) * (isqN n + 1)
  | 0 => ⟨by decide, by decide, by decide⟩
  | n + 1 => by
    obtain ⟨h0, h1, h2⟩ := isqN_ok n
    by_cases h : (isqN n + 1) * (isqN n + 1) ≤ ((n + 1 : Nat) : Int)
    · have e : isqN (n + 1) = isqN n + 1 := if_pos h
      rw [e]
      refine ⟨by omega, h, ?_⟩
      have e : (isqN n + 1 + 1) * (isqN n + 1 + 1) = (isqN n + 1) * (isqN n + 1) + 2 * isqN n + 3 := by grind
      omega
    · have e : isqN (n + 1) = isqN n := if_neg h
      rw [e]
      exact ⟨h0, by omega, by omega⟩
def isq (N : Int) : Int := isqN N.toNat
theorem isq_ok {N : Int} (h : 0 ≤ N) : 0 ≤ isq N ∧ isq N * isq N ≤ N ∧ N < (isq N + 1) * (isq N + 1) := by
  have := isqN_ok N.toNat
  have e : ((N.toNat : Nat) : Int) = N := Int.toNat_of_nonneg h
  unfold isq
  omega
theorem isq_uniq {N r : Int} (h0 : 0 ≤ r) (h1 : r * r ≤ N) (h2 : N < (r + 1) * (r + 1)) : isq N = r := by
  have hN : 0 ≤ N := Int.le_trans (Int.mul_nonneg h0 h0) h1
  obtain ⟨k0, k1, k2⟩ := isq_ok hN
  have a := (sq_abs (x := r) k0 h1 k2).2
  have b := (sq_abs (x := isq N) h0 k1 h2).2
  omega
/-! ### the row -/
/-- a beginning of the root's row -/
structure BegL (A B : Int) (ts : List Int) : Prop where
  beg : Beg A B ts.length (turnL ts)
  pos : Pos1 ts
  all0 : ∀ t ∈ ts, 0 ≤ t ∧ t ≤ 2 * 10 ^ 12
  zero : ts.length = 0 → wR A B ts.length (turnL ts) = 0
  last : 2 ≤ ts.length → ts.getLast? = some 1 → dR A B ts.length (turnL ts) ≠ 0
/-! ### x *= e -/
/-! ### roots step by step -/
theorem BegL.bd {A B : Int} {ts : List Int} (h : BegL A B ts) : ∀ t ∈ ts, Bd 13 t := fun t ht => by
  have := h.all0 t ht
  unfold Bd
  omega
theorem BegL.tb {A B : Int} {ts : List Int} (h : BegL A B ts) (hl : ts.length ≤ 61) : TB ts := ⟨by omega, h.bd⟩
theorem BegL.mb {A B : Int} {ts : List Int} (h : BegL A B ts) (hl : ts.length ≤ 61) : MB 900 (turnL ts) := (mb_turn ts h.bd).mono (by omega)
/-! ### the row, also below nought -/
theorem sgI_val (x y : Int) : (if (decide (y < x)) = true then (1 : Int) else 0) - (if (decide (x < y)) = true then 1 else 0) = if 0 < x - y then 1 else if x - y < 0 then -1 else 0 := by
  simp only [decide_eq_true_eq]
  split <;> split <;> (split <;> first | omega | (split <;> omega))
def sgI (x : Int) : Int := if 0 < x then 1 else if x < 0 then -1 else 0
theorem sgI_bd (x : Int) : Bd 1 (sgI x) := by
  unfold sgI Bd
  split
  · decide
  · split <;> decide
end Tq

set_option maxRecDepth 100000
set_option maxHeartbeats 4000000
namespace Tq
open PySem PySem.Spec PyProof.Rows L2
/-! ### xs[-2::-1], xs[::-1] -/
section
variable {C : Ct} {y : S} {te : TE} {Q : Z → S → Prop}
end
/-! ### turns: products, values from behind -/
theorem Mx.ext' {m n : Mx} (h1 : m.a = n.a) (h2 : m.b = n.b) (h3 : m.c = n.c) (h4 : m.d = n.d) : m = n := by
  cases m; cases n; simp_all
theorem Mx.mul_assoc (m n o : Mx) : (m.mul n).mul o = m.mul (n.mul o) := by
  apply Mx.ext' <;> simp only [Mx.mul] <;> grind
theorem Mx.one_mul (m : Mx) : Mx.one.mul m = m := by
  apply Mx.ext' <;> simp [Mx.mul, Mx.one]
theorem Mx.mul_one (m : Mx) : m.mul .one = m := by
  apply Mx.ext' <;> simp [Mx.mul, Mx.one]
theorem foldl_mul (ts : List Int) (m : Mx) : ts.foldl (fun m t => m.mul (.term t)) m = m.mul (turnL ts) := by
  unfold turnL
  induction ts generalizing m with
  | nil => exact (Mx.mul_one m).symm
  | cons t ts ih =>
    rw [List.foldl_cons, List.foldl_cons, ih, ih (Mx.one.mul (.term t)), Mx.one_mul, Mx.mul_assoc]
theorem turn_app (ts us : List Int) : turnL (ts ++ us) = (turnL ts).mul (turnL us) := by
  show (ts ++ us).foldl _ _ = _
  rw [List.foldl_append, foldl_mul]
  rfl
theorem turn_cons (t : Int) (ts : List Int) : turnL (t :: ts) = (Mx.term t).mul (turnL ts) := by
  have := turn_app [t] ts
  rw [show turnL [t] = Mx.one.mul (.term t) from rfl, Mx.one_mul] at this
  exact this
def Mx.det (m : Mx) : Int := m.a * m.d - m.b * m.c
theorem Mx.det_mul (m n : Mx) : (m.mul n).det = m.det * n.det := by
  simp only [Mx.mul, Mx.det]; grind
theorem turn_det (ts : List Int) : (turnL ts).det = if ts.length % 2 = 0 then 1 else -1 := by
  refine list_snoc (P := fun ts => (turnL ts).det = if ts.length % 2 = 0 then 1 else -1) rfl ?_ ts
  intro ts t ih
  rw [turn_snoc, Mx.det_mul, ih, List.length_append]
  have e : (Mx.term t).det = -1 := by simp [Mx.det, Mx.term]
  rw [e]
  show _ = if (ts.length + 1) % 2 = 0 then (1 : Int) else -1
  split <;> split <;> omega
/-! ### enumerate -/
def enumD (ds : List D) : List D := ds.zipIdx.map fun p => .tuple [.int (p.2 : Nat), p.1]
theorem enumD_get {ds : List D} {i : Nat} {x : D} (h : (enumD ds)[i]? = some x) : ∃ d, ds[i]? = some d ∧ x = .tuple [.int (i : Nat), d] := by
  unfold enumD at h
  rw [List.getElem?_map, List.getElem?_zipIdx] at h
  cases q : ds[i]? with
  | none => rw [q] at h; cases h
  | some d =>
    rw [q] at h
    simp at h
    exact ⟨d, rfl, h.symm⟩
theorem enumD_len (ds : List D) : (enumD ds).length = ds.length := by unfold enumD; rw [List.length_map, List.length_zipIdx]
theorem wI_enum {C : Ct} {y : S} {te : TE} {Qi : List D → S → Prop} (w : wE C te y fun z y1 => ∃ xs, z = .d (.list xs) ∧ Qi (enumD xs) y1) : wI C (iEnum C.K (tCons te tNil)) y Qi := by
  intro F σ H R wd k
  refine w F σ H _ wd fun v H1 z y1 w1 g1 s1 r1 q => ?_
  obtain ⟨xs, rfl, q⟩ := q
  obtain ⟨a, us, rfl, h1, h2⟩ := rp_lst r1
  refine ⟨a, us, rfl, h1.sq, k _ H1 (enumD xs) y1 w1 g1 s1 (fun F1 σ2 y2 H2 w2 g2 i => ?_) q⟩
  have e1 := (h1.go g2).sq
  have e2 := h2.go g2
  rw [enumD_len]
  refine ⟨fun hi => ?_, fun hi => ⟨us, e1, by rw [h2.len]; exact hi⟩, fun x hx v H3 hy => ?_⟩
  · have : i < us.length := by rw [h2.len]; exact hi
    exact ⟨us, us[i], e1, by simp [this]⟩
  · obtain ⟨T, u, rfl, hT, rfl, hv⟩ := hy
    obtain ⟨d, hd, rfl⟩ := enumD_get hx
    obtain ⟨d', hd', rd⟩ := e2.getV (hv us e1)
    rw [hd] at hd'
    cases hd'
    have gr := grow_upd (o := .tup [.int (i : Nat), u]) hT
    exact ⟨gr, .tup (.inl ⟨w2.new hT, .inl upd_same⟩) (.cons (.int _) (.cons (rd.go fun a o n e => ⟨n, gr a o e⟩) .nil))⟩
/-! ### neighbours among the beginnings of a row -/
/-- the sides of a rest: (x, y) its first column -/
theorem rest_sides (us : List Int) (h : ∀ t ∈ us, 1 ≤ t) : 0 ≤ (turnL us).c ∧ (turnL us).c ≤ (turnL us).a ∧ (us ≠ [] → 1 ≤ (turnL us).c) := by
  induction us with
  | nil => exact ⟨by decide, by decide, fun z => absurd rfl z⟩
  | cons t us ih =>
    obtain ⟨h1, h2, h3⟩ := ih fun u hu => h u (List.mem_cons_of_mem _ hu)
    have ht := h t List.mem_cons_self
    rw [turn_cons]
    have e1 : ((Mx.term t).mul (turnL us)).a = t * (turnL us).a + (turnL us).c := by simp [Mx.mul, Mx.term]
    have e2 : ((Mx.term t).mul (turnL us)).c = (turnL us).a := by simp [Mx.mul, Mx.term]
    have ha : 1 ≤ (turnL us).a := by
      cases us with
      | nil => decide
      | cons u us => have := h3 (by simp); omega
    have := Int.mul_le_mul ht (Int.le_refl (turnL us).a) (by omega) (by omega)
    rw [e1, e2]
    exact ⟨by omega, by omega, fun _ => ha⟩
def sgE (i : Nat) : Int := if i % 2 = 0 then 1 else -1
/-- what stands at a place of a legal row -/
structure Amid (ts : List Int) (i : Nat) (a1 c1 a0 c0 p q : Int) : Prop where
  rc : ∃ rc : Int, 0 ≤ rc ∧ (rc = 0 ↔ i + 1 = ts.length) ∧ a1 * q - p * c1 = rc * sgE (i + 1) ∧ (1 ≤ i → ∃ ra, rc ≤ ra ∧ a0 * q - p * c0 = ra * sgE i)
  det : a1 * c0 - a0 * c1 = - sgE i
  cs : 1 ≤ i → 0 ≤ c0 ∧ c0 ≤ c1
end Tq

set_option maxRecDepth 100000
set_option maxHeartbeats 4000000
namespace Tq
open PySem PySem.Spec PyProof.Rows L2
/-! ### where two legal rows part, and which of their values is less -/
/-- the last of a rest is no 1, but where it is alone at the row's head -/
def End1 (us : List Int) : Prop := us.getLast? ≠ some 1
theorem rest_strict : ∀ (us : List Int), (∀ t ∈ us, 1 ≤ t) → End1 us → (turnL us).c < (turnL us).a
  | [], _, _ => by decide
  | t :: us, h, he => by
    have hu : ∀ u ∈ us, 1 ≤ u := fun u q => h u (List.mem_cons_of_mem _ q)
    have ht := h t List.mem_cons_self
    obtain ⟨h1, h2, h3⟩ := rest_sides us hu
    rw [turn_cons]
    have e1 : ((Mx.term t).mul (turnL us)).a = t * (turnL us).a + (turnL us).c := by simp [Mx.mul, Mx.term]
    have e2 : ((Mx.term t).mul (turnL us)).c = (turnL us).a := by simp [Mx.mul, Mx.term]
    rw [e1, e2]
    cases us with
    | nil =>
      have h6 : t ≠ 1 := fun z => he (by rw [z]; rfl)
      have e3 : (turnL []).a = 1 := rfl
      have e4 : (turnL []).c = 0 := rfl
      rw [e3, e4]; omega
    | cons u vs =>
      have hc := h3 (by simp)
      have := Int.mul_le_mul ht (Int.le_refl (turnL (u :: vs)).a) (by omega) (by omega)
      omega
theorem one_drop {ts : List Int} (hp : Pos1 ts) {p : Nat} (h1 : 1 ≤ p) : ∀ t ∈ ts.drop p, 1 ≤ t := fun t ht => hp t (by
  have e : ts.drop p = (ts.drop 1).drop (p - 1) := by rw [List.drop_drop]; congr 1; omega
  rw [e] at ht
  exact List.mem_of_mem_drop ht)
end Tq

set_option maxRecDepth 100000
set_option maxHeartbeats 4000000
namespace Tq
open PySem PySem.Spec PyProof.Rows L2
/-! ### floors of a fraction, one after the other -/
def eucL : Nat → Int → Int → List Int
  | 0, _, _ => []
  | n + 1, p, q => if q ≤ 0 then [] else p / q :: eucL n q (p % q)
/-- the floors of p / q -/
def floorsE (p q : Int) : List Int := eucL (q.toNat + 1) p q
theorem eucL_more : ∀ (n m : Nat) (p q : Int), 0 ≤ q → q.toNat < n → q.toNat < m → eucL n p q = eucL m p q
  | 0, _, _, _, _, h, _ => by omega
  | _, 0, _, _, _, _, h => by omega
  | n + 1, m + 1, p, q, h0, h1, h2 => by
    unfold eucL
    by_cases hq : q ≤ 0
    · rw [if_pos hq, if_pos hq]
    · rw [if_neg hq, if_neg hq]
      have a := Int.emod_nonneg p (show q ≠ 0 by omega)
      have b := Int.emod_lt_of_pos p (show 0 < q by omega)
      rw [eucL_more n m q (p % q) a (by omega) (by omega)]
theorem floors_zero (p : Int) : floorsE p 0 = [] := rfl
theorem floors_cons {p q : Int} (hq : 1 ≤ q) : floorsE p q = p / q :: floorsE q (p % q) := by
  have a := Int.emod_nonneg p (show q ≠ 0 by omega)
  have b := Int.emod_lt_of_pos p (show 0 < q by omega)
  show eucL (q.toNat + 1) p q = _
  show (if q ≤ 0 then [] else p / q :: eucL q.toNat q (p % q)) = _
  rw [if_neg (by omega)]
  congr 1
  exact eucL_more _ _ _ _ a (by omega) (by omega)
theorem gcd_turnZ {p q : Int} : gcdI q (p % q) = gcdI p q := by
  have e : p % q + p / q * q = p := by have := Int.mul_ediv_add_emod p q; rw [Int.mul_comm] at this; omega
  show ((Int.gcd q (p % q) : Nat) : Int) = ((Int.gcd p q : Nat) : Int)
  have h : Int.gcd (p % q + p / q * q) q = Int.gcd (p % q) q := Int.gcd_add_mul_right_left ..
  rw [e] at h
  rw [h, Int.gcd_comm]
/-- what the floors turn to -/
theorem turn_floors : ∀ (n : Nat) (p q : Int), q.toNat ≤ n → 0 ≤ q → gcdI p q = 1 → (q = 0 → p = 1) → (turnL (floorsE p q)).a = p ∧ (turnL (floorsE p q)).c = q
  | n, p, q, hn, h0, hg, hz => by
    by_cases hq : q = 0
    · subst hq
      rw [hz rfl]
      exact ⟨rfl, rfl⟩
    · cases n with
      | zero => omega
      | succ n =>
        have a := Int.emod_nonneg p hq
        have b := Int.emod_lt_of_pos p (show 0 < q by omega)
        rw [floors_cons (by omega), turn_cons]
        have hg2 : gcdI q (p % q) = 1 := by
          rw [gcd_turnZ]; exact hg
        have ih := turn_floors n q (p % q) (by omega) a hg2 (fun z => by
          rw [z, gcd_zero h0] at hg2
          exact hg2)
        have e1 : ((Mx.term (p / q)).mul (turnL (floorsE q (p % q)))).a = p / q * (turnL (floorsE q (p % q))).a + (turnL (floorsE q (p % q))).c := by simp [Mx.mul, Mx.term]
        have e2 : ((Mx.term (p / q)).mul (turnL (floorsE q (p % q)))).c = (turnL (floorsE q (p % q))).a := by simp [Mx.mul, Mx.term]
        rw [e1, e2, ih.1, ih.2]
        have := Int.mul_ediv_add_emod p q
        rw [Int.mul_comm] at this
        exact ⟨this, rfl⟩
theorem floors_rest : ∀ (n : Nat) (q r : Int), r.toNat ≤ n → 0 ≤ r → r < q → ∀ t ∈ floorsE q r, 1 ≤ t
  | n, q, r, hn, h0, hl => by
    by_cases hr : r = 0
    · subst hr; intro t ht; cases ht
    · cases n with
      | zero => omega
      | succ n =>
        have a := Int.emod_nonneg q hr
        have b := Int.emod_lt_of_pos q (show 0 < r by omega)
        rw [floors_cons (by omega)]
        intro t ht
        rcases List.mem_cons.mp ht with rfl | ht
        · exact Int.le_ediv_of_mul_le (by omega) (by omega)
        · exact floors_rest n r (q % r) (by omega) a b t ht
theorem floors_end : ∀ (n : Nat) (q r : Int), r.toNat ≤ n → 0 ≤ r → r < q → gcdI q r = 1 → End1 (floorsE q r)
  | n, q, r, hn, h0, hl, hg => by
    by_cases hr : r = 0
    · subst hr; intro z; cases z
    · cases n with
      | zero => omega
      | succ n =>
        have a := Int.emod_nonneg q hr
        have b := Int.emod_lt_of_pos q (show 0 < r by omega)
        have hg2 : gcdI r (q % r) = 1 := by rw [gcd_turnZ]; exact hg
        rw [floors_cons (by omega)]
        by_cases hz : q % r = 0
        · rw [hz, gcd_zero h0] at hg2
          subst hg2
          rw [hz]
          intro z
          have z2 : q / 1 = 1 := Option.some.inj z
          rw [Int.ediv_one] at z2
          omega
        · have ih := floors_end n r (q % r) (by omega) a b hg2
          rw [floors_cons (show 1 ≤ q % r by omega)] at ih ⊢
          intro z
          rw [List.getLast?_cons_cons] at z
          exact ih z
theorem floors_legal {p q : Int} (hq : 1 ≤ q) (hg : gcdI p q = 1) : floorL (floorsE p q) = true := by
  have a := Int.emod_nonneg p (show q ≠ 0 by omega)
  have b := Int.emod_lt_of_pos p (show 0 < q by omega)
  rw [floors_cons hq]
  unfold floorL
  rw [Bool.and_eq_true, Bool.and_eq_true]
  refine ⟨⟨rfl, List.all_eq_true.mpr fun t ht => decide_eq_true (floors_rest _ _ _ (Nat.le_refl _) a b t ht)⟩, ?_⟩
  have he := floors_end _ _ _ (Nat.le_refl _) a b (show gcdI q (p % q) = 1 by rw [gcd_turnZ]; exact hg)
  rw [Bool.or_eq_true]
  cases hf : floorsE q (p % q) with
  | nil => exact .inl (decide_eq_true rfl)
  | cons u us =>
    rw [hf] at he
    refine .inr ?_
    rw [List.getLast?_cons_cons, decide_eq_false he]
    rfl
/-- every second rest is less than half -/
theorem floors_len : ∀ (n : Nat) (q r : Int), 0 ≤ r → r < q → r < 2 ^ n → (floorsE q r).length ≤ 2 * n
  | 0, q, r, h0, hl, hn => by
    have : r = 0 := by omega
    subst this; exact Nat.le_refl _
  | n + 1, q, r, h0, hl, hn => by
    by_cases hr : r = 0
    · subst hr; exact Nat.zero_le _
    · have a := Int.emod_nonneg q hr
      have b := Int.emod_lt_of_pos q (show 0 < r by omega)
      rw [floors_cons (by omega)]
      by_cases hz : q % r = 0
      · rw [hz]
        show 1 ≤ _
        omega
      · have a2 := Int.emod_nonneg r hz
        have b2 := Int.emod_lt_of_pos r (show 0 < q % r by omega)
        rw [floors_cons (show 1 ≤ q % r by omega)]
        have h2 : 2 * (r % (q % r)) < r := by
          have e := Int.mul_ediv_add_emod r (q % r)
          have hd : 1 ≤ r / (q % r) := Int.le_ediv_of_mul_le (by omega) (by omega)
          have := Int.mul_le_mul_of_nonneg_left hd a
          omega
        have e2 : (2 : Int) ^ (n + 1) = 2 ^ n * 2 := Int.pow_succ 2 n
        have ih := floors_len n (q % r) (r % (q % r)) a2 b2 (by omega)
        show _ + 1 + 1 ≤ _
        omega
end Tq

set_option maxRecDepth 100000
set_option maxHeartbeats 4000000
/-! numbers (p + root of d) / q: their floors, their rests, where they stand to fractions -/
namespace Tq
open PySem PySem.Spec PyProof.Rows L2
/-! ### signs -/
theorem sgI_pos {x : Int} (h : 0 < x) : sgI x = 1 := if_pos h
theorem sgI_neg {x : Int} (h : x < 0) : sgI x = -1 := by unfold sgI; rw [if_neg (by omega), if_pos h]
theorem sgI_nil : sgI 0 = 0 := by decide
theorem sgI_mulp {x y : Int} (h : 0 < x) : sgI (x * y) = sgI y := by
  rcases Int.lt_trichotomy y 0 with q | q | q
  · rw [sgI_neg q, sgI_neg (Int.mul_neg_of_pos_of_neg h q)]
  · subst q; rw [Int.mul_zero]
  · rw [sgI_pos q, sgI_pos (Int.mul_pos h q)]
theorem sgI_muln {x y : Int} (h : x < 0) : sgI (x * y) = -sgI y := by
  rcases Int.lt_trichotomy y 0 with q | q | q
  · rw [sgI_neg q, sgI_pos (Int.mul_pos_of_neg_of_neg h q)]; rfl
  · subst q; rw [Int.mul_zero]; rfl
  · rw [sgI_pos q, sgI_neg (Int.mul_neg_of_neg_of_pos h q)]
theorem sgI_cases (x : Int) : (x < 0 ∧ sgI x = -1) ∨ (x = 0 ∧ sgI x = 0) ∨ (0 < x ∧ sgI x = 1) := by
  rcases Int.lt_trichotomy x 0 with q | q | q
  · exact .inl ⟨q, sgI_neg q⟩
  · exact .inr (.inl ⟨q, by rw [q]; rfl⟩)
  · exact .inr (.inr ⟨q, sgI_pos q⟩)
/-! ### floors -/
/-- the floor of (p + root of d) / q -/
def flo (p d q : Int) : Int := if 0 < q then (p + isq d) / q else (-p - isq d - (if isq d * isq d = d then 0 else 1)) / (-q)
/-- d is no square -/
def NSq (d : Int) : Prop := 0 ≤ d ∧ isq d * isq d ≠ d
theorem NSq.ok {d : Int} (h : NSq d) : 0 ≤ isq d ∧ isq d * isq d < d ∧ d < (isq d + 1) * (isq d + 1) := by
  obtain ⟨h1, h2, h3⟩ := isq_ok h.1
  exact ⟨h1, by have := h.2; omega, h3⟩
/-- what is left of p behind the floor -/
def aft (p d q : Int) : Int := p - flo p d q * q
theorem aft_pos {p d q : Int} (hq : 0 < q) : 0 ≤ aft p d q + isq d ∧ aft p d q + isq d < q := by
  unfold aft flo
  rw [if_pos hq]
  have h1 := Int.emod_nonneg (p + isq d) (show q ≠ 0 by omega)
  have h2 := Int.emod_lt_of_pos (p + isq d) hq
  have h3 := Int.mul_ediv_add_emod (p + isq d) q
  rw [Int.mul_comm] at h3
  omega
theorem aft_neg {p d q : Int} (h : NSq d) (hq : q < 0) : aft p d q + isq d + 1 ≤ 0 ∧ q < aft p d q + isq d + 1 := by
  unfold aft flo
  rw [if_neg (by omega), if_neg h.2]
  have h1 := Int.emod_nonneg (-p - isq d - 1) (show -q ≠ 0 by omega)
  have h2 := Int.emod_lt_of_pos (-p - isq d - 1) (show 0 < -q by omega)
  have h3 := Int.mul_ediv_add_emod (-p - isq d - 1) (-q)
  rw [Int.mul_comm, Int.mul_neg] at h3
  omega
/-- the number of (P, Q) above 1, above nought -/
def gt1 (r : Int) (s : Int × Int) : Prop := (0 < s.2 ∧ s.2 ≤ s.1 + r) ∨ (s.2 < 0 ∧ s.1 + r < s.2)
def gt0 (r : Int) (s : Int × Int) : Prop := (0 < s.2 ∧ 0 ≤ s.1 + r) ∨ (s.2 < 0 ∧ s.1 + r < 0)
theorem gt1.gt0 {r : Int} {s : Int × Int} (h : gt1 r s) : gt0 r s := by unfold gt1 at h; unfold Tq.gt0; omega
/-- Q divides d less the square of P -/
def Dv (d : Int) (s : Int × Int) : Prop := s.2 ≠ 0 ∧ ∃ k, d - s.1 * s.1 = s.2 * k
/-- the state behind -/
def stp (d : Int) (s : Int × Int) : Int × Int := (-aft s.1 d s.2, (d - aft s.1 d s.2 * aft s.1 d s.2).fdiv s.2)
theorem fdiv_of_mul {q k x : Int} (hq : q ≠ 0) (h : x = q * k) : x.fdiv q = k := by
  rw [h, Int.mul_fdiv_cancel_left _ hq]
theorem stp_mul {d : Int} {s : Int × Int} (h : Dv d s) : s.2 * (stp d s).2 = d - aft s.1 d s.2 * aft s.1 d s.2 := by
  obtain ⟨hq, k, hk⟩ := h
  have e : d - aft s.1 d s.2 * aft s.1 d s.2 = s.2 * (k + flo s.1 d s.2 * (2 * s.1 - flo s.1 d s.2 * s.2)) := by
    unfold aft
    grind
  show s.2 * ((d - aft s.1 d s.2 * aft s.1 d s.2).fdiv s.2) = _
  rw [fdiv_of_mul hq e, ← e]
theorem stp_ok {d : Int} (n : NSq d) {s : Int × Int} (h : Dv d s) : Dv d (stp d s) ∧ gt1 (isq d) (stp d s) ∧ -((stp d s).1) = aft s.1 d s.2 := by
  have hm := stp_mul h
  obtain ⟨r0, r1, r2⟩ := n.ok
  have hA : -((stp d s).1) = aft s.1 d s.2 := Int.neg_neg _
  have hq := h.1
  generalize e1 : (stp d s).2 = Q' at *
  generalize e2 : (stp d s).1 = P' at *
  have hp1 := @aft_pos s.1 d s.2
  have hp2 := @aft_neg s.1 d s.2 n
  generalize e3 : aft s.1 d s.2 = A at *
  generalize isq d = r at *
  generalize s.2 = Q at *
  have eA : A = -P' := by omega
  subst eA
  have hne : d - -P' * -P' ≠ 0 := fun z => by
    rcases Int.lt_or_le P' 0 with q | q
    · rcases Int.lt_or_le r (-P') with q1 | q1
      · have := sq_ge (x := -P') (r := r + 1) (by omega) (by omega); omega
      · have := sq_ge (x := r) (r := -P') (by omega) (by omega); omega
    · rcases Int.lt_or_le r P' with q1 | q1
      · have := sq_ge (x := P') (r := r + 1) (by omega) (by omega); grind
      · have := sq_ge (x := r) (r := P') (by omega) (by omega); grind
  have hQ' : Q' ≠ 0 := fun z => hne (by rw [← hm, z, Int.mul_zero])
  refine ⟨⟨by rw [e1]; exact hQ', Q, ?_⟩, ?_, hA⟩
  · rw [e1, e2]
    grind
  · unfold gt1
    rw [e1, e2]
    rcases Int.lt_or_le Q 0 with q | q
    · obtain ⟨a1, a2⟩ := hp2 q
      -- P' ≥ r + 1
      have q1 : 0 < Q' := by
        rcases Int.lt_or_le Q' 0 with z | z
        · have : 0 < Q * Q' := Int.mul_pos_of_neg_of_neg q z
          have := sq_ge (x := P') (r := r + 1) (by omega) (by omega)
          grind
        · omega
      refine .inl ⟨q1, ?_⟩
      rcases Int.lt_or_le (P' + r) Q' with z | z
      · -- Q Q' ≤ Q (P' + r + 1)
        exfalso
        have z1 : Q * Q' ≤ Q * (P' + r + 1) := Int.mul_le_mul_of_nonpos_left (by omega) (by omega)
        have z2 : Q * (P' + r + 1) ≤ (-P' + r) * (P' + r + 1) := Int.mul_le_mul_of_nonneg_right (by omega) (by omega)
        have z3 : (-P' + r) * (P' + r + 1) = r * r + r - P' * P' - P' := by grind
        grind
      · exact z
    · obtain ⟨a1, a2⟩ := hp1 (by omega)
      rcases Int.lt_or_le Q' 0 with z | z
      · refine .inr ⟨z, ?_⟩
        rcases Int.lt_or_le (P' + r) Q' with z1 | z1
        · exact z1
        · exfalso
          have hP : P' < -r := by
            rcases Int.lt_or_le P' (-r) with w | w
            · exact w
            · have : P' * P' ≤ r * r := sq_le w (by omega)
              have : Q * Q' < 0 := Int.mul_neg_of_pos_of_neg (by omega) z
              grind
          have z2 : Q * Q' ≤ (-P' + r + 1) * Q' := Int.mul_le_mul_of_nonpos_right (by omega) (by omega)
          have z3 : (-P' + r + 1) * Q' ≤ (-P' + r + 1) * (P' + r) := Int.mul_le_mul_of_nonneg_left z1 (by omega)
          have z4 : (-P' + r + 1) * (P' + r) = r * r + r - P' * P' + P' := by grind
          grind
      · refine .inl ⟨by omega, ?_⟩
        rcases Int.lt_or_le (P' + r) Q' with z1 | z1
        · exfalso
          have z2 : (-P' + r + 1) * Q' ≤ Q * Q' := Int.mul_le_mul_of_nonneg_right (by omega) (by omega)
          have z3 : (-P' + r + 1) * (P' + r + 1) ≤ (-P' + r + 1) * Q' := Int.mul_le_mul_of_nonneg_left (by omega) (by omega)
          have z4 : (-P' + r + 1) * (P' + r + 1) = (r + 1) * (r + 1) - P' * P' := by grind
          grind
        · exact z1
theorem flo_ge1 {d : Int} (n : NSq d) {s : Int × Int} (h : gt1 (isq d) s) : 1 ≤ flo s.1 d s.2 := by
  unfold flo
  rcases h with ⟨q, h⟩ | ⟨q, h⟩
  · rw [if_pos q]
    exact (Int.le_ediv_iff_mul_le q).mpr (by omega)
  · rw [if_neg (by omega), if_neg n.2]
    exact (Int.le_ediv_iff_mul_le (by omega)).mpr (by omega)
/-- how large the states are -/
structure Bs (d B C : Int) (s : Int × Int) : Prop where
  p : -C ≤ s.1 ∧ s.1 ≤ C
  q : -B ≤ s.2 ∧ s.2 ≤ B + 2 * isq d
theorem stp_bs {d B C : Int} (n : NSq d) {s : Int × Int} (h : Dv d s) (b : Bs d B C s) (hB : 0 ≤ B) (hC : B + 3 * isq d ≤ C) : Bs d B C (stp d s) := by
  obtain ⟨h1, h2, h3⟩ := stp_ok n h
  have hm := stp_mul h
  obtain ⟨r0, r1, r2⟩ := n.ok
  have hq := h.1
  have hp1 := @aft_pos s.1 d s.2
  have hp2 := @aft_neg s.1 d s.2 n
  obtain ⟨⟨b1, b2⟩, b3, b4⟩ := b
  generalize e1 : (stp d s).2 = Q' at *
  generalize e2 : (stp d s).1 = P' at *
  unfold gt1 at h2
  rw [e1, e2] at h2
  generalize aft s.1 d s.2 = A at *
  refine ⟨?_, ?_⟩
  · rw [e2]
    rcases Int.lt_or_le s.2 0 with q | q
    · have := hp2 q; omega
    · have := hp1 (by omega); omega
  · rw [e1]
    rcases Int.lt_or_le s.2 0 with q | q
    · have := hp2 q
      -- above nought then
      rcases h2 with ⟨h2, h4⟩ | ⟨h2, h4⟩
      · omega
      · have : 0 < s.2 * Q' := Int.mul_pos_of_neg_of_neg q h2
        have := sq_ge (x := P') (r := isq d + 1) (by omega) (by omega)
        grind
    · have := hp1 (by omega)
      rcases h2 with ⟨h2, h4⟩ | ⟨h2, h4⟩ <;> omega
/-! ### the terms -/
/-- n states from s on, n terms -/
def stL (d : Int) : Nat → Int × Int → List (Int × Int)
  | 0, _ => []
  | n + 1, s => s :: stL d n (stp d s)
def itS (d : Int) : Nat → Int × Int → Int × Int
  | 0, s => s
  | n + 1, s => itS d n (stp d s)
def teL (d : Int) (n : Nat) (s : Int × Int) : List Int := (stL d n s).map fun x => flo x.1 d x.2
theorem itS_succ (d : Int) : ∀ (n : Nat) (s : Int × Int), itS d (n + 1) s = stp d (itS d n s)
  | 0, _ => rfl
  | n + 1, s => itS_succ d n (stp d s)
theorem stL_snoc (d : Int) : ∀ (n : Nat) (s : Int × Int), stL d (n + 1) s = stL d n s ++ [itS d n s]
  | 0, _ => rfl
  | n + 1, s => by
    show s :: stL d (n + 1) (stp d s) = s :: (stL d n (stp d s) ++ [itS d n (stp d s)])
    rw [stL_snoc d n (stp d s)]
theorem stL_len (d : Int) : ∀ (n : Nat) (s : Int × Int), (stL d n s).length = n
  | 0, _ => rfl
  | n + 1, s => by show (stL d n (stp d s)).length + 1 = _; rw [stL_len d n]
theorem stL_take (d : Int) : ∀ (n k : Nat) (s : Int × Int), (stL d n s).take k = stL d (min k n) s
  | 0, k, _ => by rw [Nat.min_zero]; exact List.take_nil
  | n + 1, 0, s => by rw [Nat.zero_min]; rfl
  | n + 1, k + 1, s => by
    rw [show min (k + 1) (n + 1) = min k n + 1 by omega]
    show s :: (stL d n (stp d s)).take k = s :: stL d (min k n) (stp d s)
    rw [stL_take d n k]
theorem teL_len (d : Int) (n : Nat) (s : Int × Int) : (teL d n s).length = n := by unfold teL; rw [List.length_map, stL_len]
theorem teL_take (d : Int) (n k : Nat) (s : Int × Int) : (teL d n s).take k = teL d (min k n) s := by unfold teL; rw [← List.map_take, stL_take]
theorem teL_tail (d : Int) (n : Nat) (s : Int × Int) : (teL d (n + 1) s).drop 1 = teL d n (stp d s) := rfl
theorem teL_snoc (d : Int) (n : Nat) (s : Int × Int) : teL d (n + 1) s = teL d n s ++ [flo (itS d n s).1 d (itS d n s).2] := by unfold teL; rw [stL_snoc, List.map_append]; rfl
/-- a state, behind at least one step above 1 -/
theorem itS_ok {d : Int} (nn : NSq d) : ∀ (n : Nat) {s : Int × Int}, Dv d s → Dv d (itS d n s) ∧ (n ≠ 0 → gt1 (isq d) (itS d n s))
  | 0, _, h => ⟨h, fun z => absurd rfl z⟩
  | n + 1, s, h => by
    rw [itS_succ]
    have := stp_ok nn (itS_ok nn n h).1
    exact ⟨this.1, fun _ => this.2.1⟩
theorem itS_bs {d B C : Int} (nn : NSq d) (hB : 0 ≤ B) (hC : B + 3 * isq d ≤ C) : ∀ (n : Nat) {s : Int × Int}, Dv d s → Bs d B C s → Bs d B C (itS d n s)
  | 0, _, _, b => b
  | n + 1, s, h, b => by
    rw [itS_succ]
    exact stp_bs nn (itS_ok nn n h).1 (itS_bs nn hB hC n h b) hB hC
theorem teL_pos {d : Int} (nn : NSq d) (n : Nat) {s : Int × Int} (h : Dv d s) : Pos1 (teL d n s) := by
  cases n with
  | zero => intro t ht; cases ht
  | succ n =>
    intro t ht
    rw [teL_tail] at ht
    have key : ∀ (m : Nat) (s : Int × Int), Dv d s → gt1 (isq d) s → ∀ t ∈ teL d m s, 1 ≤ t := by
      intro m
      induction m with
      | zero => intro s _ _ t ht; cases ht
      | succ m ih =>
        intro s hd hg t ht
        rcases List.mem_cons.mp (show t ∈ flo s.1 d s.2 :: teL d m (stp d s) from ht) with rfl | ht
        · exact flo_ge1 nn hg
        · have := stp_ok nn hd
          exact ih _ this.1 this.2.1 t ht
    have := stp_ok nn h
    exact key n _ this.1 this.2.1 t ht
/-! ### where the number stands to a fraction t / s -/
def agI (p d q t s : Int) : Int := if 0 < q then (if q * t - p * s < 0 then 1 else sgI (s * s * d - (q * t - p * s) * (q * t - p * s))) else -(if q * t - p * s < 0 then 1 else sgI (s * s * d - (q * t - p * s) * (q * t - p * s)))
theorem agI_scale {p d q t s e : Int} (he : 0 < e) : agI (p * e) (d * e * e) (q * e) t s = agI p d q t s := by
  unfold agI
  have e1 : q * e * t - p * e * s = e * (q * t - p * s) := by grind
  have e2 : s * s * (d * e * e) - e * (q * t - p * s) * (e * (q * t - p * s)) = e * (e * (s * s * d - (q * t - p * s) * (q * t - p * s))) := by grind
  rw [e1, e2, sgI_mulp he, sgI_mulp he]
  have h1 : (0 < q * e) = (0 < q) := propext ⟨fun z => by
    rcases Int.lt_or_le 0 q with w | w
    · exact w
    · have := Int.mul_nonpos_of_nonpos_of_nonneg w (Int.le_of_lt he); omega, fun z => Int.mul_pos z he⟩
  have h2 : (e * (q * t - p * s) < 0) = (q * t - p * s < 0) := propext ⟨fun z => by
    rcases Int.lt_or_le (q * t - p * s) 0 with w | w
    · exact w
    · have := Int.mul_nonneg (Int.le_of_lt he) w; omega, fun z => Int.mul_neg_of_pos_of_neg he z⟩
  simp only [h1, h2]
/-- (p + root d) / q = (a y + b) / (c y + d'), y the number of s -/
structure Mob (p d q : Int) (m : Mx) (s : Int × Int) : Prop where
  i1 : p * (m.c * s.1 + m.d * s.2) + m.c * d = q * (m.a * s.1 + m.b * s.2)
  i2 : m.c * s.1 + m.d * s.2 + p * m.c = q * m.a
theorem mob_one (p d q : Int) : Mob p d q .one (p, q) := ⟨by simp [Mx.one]; grind, by simp [Mx.one]⟩
theorem mob_step {p d q : Int} {m : Mx} {s : Int × Int} (h : Mob p d q m s) (t : Int) {P' Q' : Int} (hQ : s.2 ≠ 0) (hP : P' = t * s.2 - s.1) (hm : s.2 * Q' = d - P' * P') : Mob p d q (m.mul (.term t)) (P', Q') := by
  obtain ⟨i1, i2⟩ := h
  obtain ⟨P, Q⟩ := s
  obtain ⟨a, b, c, e⟩ := m
  rw [Mx.mul_term]
  dsimp only at *
  have k2 : Q * ((c * t + e) * P' + c * Q' + p * (c * t + e)) = Q * (q * (a * t + b)) := by
    have : Q * ((c * t + e) * P' + c * Q' + p * (c * t + e)) = Q * ((c * t + e) * P' + p * (c * t + e)) + c * (Q * Q') := by grind
    rw [this, hm, hP]
    grind
  have k2' := Int.eq_of_mul_eq_mul_left hQ k2
  refine ⟨?_, k2'⟩
  dsimp only
  have k1 : Q * (p * ((c * t + e) * P' + c * Q') + (c * t + e) * d) = Q * (q * ((a * t + b) * P' + a * Q')) := by
    have e1 : Q * (p * ((c * t + e) * P' + c * Q') + (c * t + e) * d) = Q * (p * (c * t + e) * P' + (c * t + e) * d) + p * c * (Q * Q') := by grind
    have e2 : Q * (q * ((a * t + b) * P' + a * Q')) = Q * (q * (a * t + b) * P') + q * a * (Q * Q') := by grind
    rw [e1, e2, hm, ← k2']
    have e3 : Q * Q' = d - P' * P' := hm
    grind
  exact Int.eq_of_mul_eq_mul_left hQ k1
/-- the number stands to a / c as the turn's cross product says -/
theorem mob_side {p d q : Int} (nn : NSq d) {m : Mx} {s : Int × Int} {ε : Int} (h : Mob p d q m s) (hε : ε = 1 ∨ ε = -1) (hd : m.a * m.d - m.b * m.c = ε) (hq : q ≠ 0) (hc : 1 ≤ m.c) (hd0 : 0 ≤ m.d) (hs : gt0 (isq d) s) (hQ : s.2 ≠ 0) : agI p d q m.a m.c = -ε := by
  obtain ⟨i1, i2⟩ := h
  obtain ⟨r0, r1, r2⟩ := nn.ok
  generalize isq d = r at *
  obtain ⟨P, Q⟩ := s
  obtain ⟨a, b, c, e⟩ := m
  unfold gt0 at hs
  dsimp only at *
  have eL : q * a - p * c = c * P + e * Q := by omega
  unfold agI
  rw [eL]
  have eE : c * c * d - (c * P + e * Q) * (c * P + e * Q) = -(q * Q * ε) := by
    rw [← hd]
    have : q * Q * (a * e - b * c) = Q * e * (q * a) - c * (q * (b * Q)) := by grind
    rw [this, ← i2]
    have : q * (b * Q) = p * (c * P + e * Q) + c * d - P * (q * a) := by grind
    rw [this, ← i2]
    grind
  rw [eE]
  have cc : c * c * (r * r) < c * c * d := Int.mul_lt_mul_of_pos_left r1 (Int.mul_pos (by omega) (by omega))
  have cc2 : c * c * d < c * c * ((r + 1) * (r + 1)) := Int.mul_lt_mul_of_pos_left r2 (Int.mul_pos (by omega) (by omega))
  rcases Int.lt_or_le (c * P + e * Q) 0 with hL | hL
  · rw [if_pos hL]
    clear eL
    have key : 0 < -(q * ε) := by
      rcases hs with ⟨q1, q2⟩ | ⟨q1, q2⟩
      · have n1 : 0 ≤ e * Q := Int.mul_nonneg hd0 (by omega)
        have n2 : c * (-P) ≤ c * r := Int.mul_le_mul_of_nonneg_left (by omega) (by omega)
        have n3 : c * -P = -(c * P) := Int.mul_neg _ _
        have n4 := sq_le (x := c * P + e * Q) (r := c * r) (by omega) (by omega)
        have n5 : c * r * (c * r) = c * c * (r * r) := by grind
        have n6 : 0 < -(q * Q * ε) := by omega
        have n7 : -(q * Q * ε) = Q * -(q * ε) := by grind
        rw [n7] at n6
        exact pos_of_mul q1 n6
      · have n1 : e * Q ≤ 0 := Int.mul_nonpos_of_nonneg_of_nonpos hd0 (by omega)
        have n2 : c * (r + 1) ≤ c * (-P) := Int.mul_le_mul_of_nonneg_left (by omega) (by omega)
        have n3 : c * -P = -(c * P) := Int.mul_neg _ _
        have n0 : 0 ≤ c * (r + 1) := Int.mul_nonneg (by omega) (by omega)
        have n4 := sq_ge (x := -(c * P + e * Q)) (r := c * (r + 1)) n0 (by omega)
        have n5 : c * (r + 1) * (c * (r + 1)) = c * c * ((r + 1) * (r + 1)) := by grind
        have n8 : -(c * P + e * Q) * -(c * P + e * Q) = (c * P + e * Q) * (c * P + e * Q) := by grind
        have n6 : -(q * Q * ε) < 0 := by omega
        have n7 : -(q * Q * ε) = -(-Q * -(q * ε)) := by grind
        rw [n7] at n6
        exact pos_of_mul (d := -Q) (by omega) (by omega)
    rcases hε with z | z
    · rw [z] at key
      rw [if_neg (show ¬ 0 < q by omega), z]
    · rw [z] at key
      rw [if_pos (show 0 < q by omega), z]; rfl
  · have hQ0 : 0 < Q := by
      rcases hs with ⟨q1, q2⟩ | ⟨q1, q2⟩
      · exact q1
      · exfalso
        have n1 : e * Q ≤ 0 := Int.mul_nonpos_of_nonneg_of_nonpos hd0 (by omega)
        have n2 : c * P < 0 := Int.mul_neg_of_pos_of_neg (by omega) (by omega)
        omega
    have n7 : -(q * Q * ε) = Q * (q * -ε) := by grind
    rw [n7, sgI_mulp hQ0]
    have hs1 : sgI (-ε) = -ε := by rcases hε with rfl | rfl <;> rfl
    rw [if_neg (show ¬ c * P + e * Q < 0 by omega)]
    rcases Int.lt_or_le 0 q with w | w
    · rw [if_pos w, sgI_mulp w, hs1]
    · rw [if_neg (show ¬ 0 < q by omega), sgI_muln (by omega), hs1]
      omega
theorem mob_turn {d p q : Int} {s : Int × Int} (nn : NSq d) (hs : Dv d s) (h0 : Mob p d q .one s) : ∀ n, Mob p d q (turnL (teL d n s)) (itS d n s)
  | 0 => h0
  | n + 1 => by
    rw [teL_snoc, turn_snoc, itS_succ]
    obtain ⟨ok, _⟩ := itS_ok nn n hs
    have hm := stp_mul ok
    refine mob_step (mob_turn nn hs h0 n) _ ok.1 ?_ ?_
    · show -(aft _ _ _) = _
      unfold aft
      omega
    · show (itS d n s).2 * (stp d (itS d n s)).2 = d - (stp d (itS d n s)).1 * (stp d (itS d n s)).1
      rw [hm]
      show _ = d - -(aft _ _ _) * -(aft _ _ _)
      grind
theorem turn_dets (ts : List Int) : (turnL ts).a * (turnL ts).d - (turnL ts).b * (turnL ts).c = sgL ts.length := turn_det ts
/-- one turn of 1: what is above 1 is 1 and a rest above nought -/
theorem one_more {d : Int} (nn : NSq d) {s : Int × Int} (hs : Dv d s) (hg : gt1 (isq d) s) : ∃ Q'', s.2 * Q'' = d - (1 * s.2 - s.1) * (1 * s.2 - s.1) ∧ gt0 (isq d) (1 * s.2 - s.1, Q'') ∧ Q'' ≠ 0 := by
  obtain ⟨r0, r1, r2⟩ := nn.ok
  obtain ⟨hQ, k, hk⟩ := hs
  obtain ⟨P, Q⟩ := s
  dsimp only at *
  have e : Q * (k + 2 * P - Q) = d - (1 * Q - P) * (1 * Q - P) := by grind
  refine ⟨_, e, ?_⟩
  generalize k + 2 * P - Q = X at *
  unfold gt1 at hg
  unfold gt0
  dsimp only at *
  generalize isq d = r at *
  rw [Int.one_mul] at *
  generalize hR : Q - P = R at *
  rcases hg with ⟨q1, q2⟩ | ⟨q1, q2⟩
  · rcases Int.lt_or_le R (-r) with w | w
    · have := sq_ge (x := -R) (r := r + 1) (by omega) (by omega)
      have h1 : Q * X < 0 := by grind
      have : X < 0 := by
        rcases Int.lt_or_le X 0 with z | z
        · exact z
        · have := Int.mul_nonneg (Int.le_of_lt q1) z; omega
      omega
    · have := sq_le w (show R ≤ r by omega)
      have h1 : 0 < Q * X := by grind
      have := pos_of_mul q1 h1
      omega
  · have := sq_ge (x := R) (r := r + 1) (by omega) (by omega)
    have h1 : Q * X < 0 := by grind
    have : 0 < X := by
      rcases Int.lt_or_le 0 X with z | z
      · exact z
      · have := Int.mul_nonneg_of_nonpos_of_nonpos (Int.le_of_lt q1) z; omega
    omega
theorem sides_two {ε : Int} (h : ε = 1 ∨ ε = -1) {x y : Int} (hx : x = -ε) (hy : y = ε) : ¬ x = 0 ∧ x * y < 0 := by rcases h with rfl | rfl <;> subst hx <;> subst hy <;> decide
/-- the number that is no fraction lies between the two that its first terms tell -/
theorem begins_irr {p d q : Int} {s : Int × Int} (nn : NSq d) (hq : q ≠ 0) (hs : Dv d s) (h0 : Mob p d q .one s) {n : Nat} (hn : n ≠ 0) :
    ¬ agI p d q (turnL (teL d n s)).a (turnL (teL d n s)).c = 0 ∧
    agI p d q (turnL (teL d n s)).a (turnL (teL d n s)).c * agI p d q ((turnL (teL d n s)).a + (turnL (teL d n s)).b) ((turnL (teL d n s)).c + (turnL (teL d n s)).d) < 0 := by
  have hM := mob_turn nn hs h0 n
  obtain ⟨ok, hg⟩ := itS_ok nn n hs
  have hg := hg hn
  have hne : teL d n s ≠ [] := fun z => hn (by have := teL_len d n s; rw [z] at this; exact this.symm)
  obtain ⟨c1, d0⟩ := turn_pos _ (teL_pos nn n hs) hne
  have hd := turn_dets (teL d n s)
  have hε := sgL_cases (teL d n s).length
  generalize sgL (teL d n s).length = ε at *
  generalize turnL (teL d n s) = m at *
  obtain ⟨Q'', h1, h2, h3⟩ := one_more nn ok hg
  have hM2 := mob_step hM 1 ok.1 rfl h1
  have s1 := mob_side nn hM hε hd hq c1 d0 hg.gt0 ok.1
  have s2 := mob_side (ε := -ε) nn hM2 (by omega) (by rw [Mx.mul_term]; dsimp only; grind) hq (by rw [Mx.mul_term]; dsimp only; omega) (by rw [Mx.mul_term]; dsimp only; omega) h2 h3
  rw [Mx.mul_term] at s2
  dsimp only at s2
  rw [Int.mul_one, Int.mul_one, Int.neg_neg] at s2
  exact sides_two hε s1 s2
/-! ### fractions -/
theorem agI_sq {p d q t s a b : Int} (hr : isq d * isq d = d) (hd : 0 ≤ d) (hs : 0 ≤ s) (hq : q ≠ 0) (hb : 0 < b) (e : q * a = b * (p + isq d)) : agI p d q t s = sgI (s * a - t * b) := by
  have r0 := (isq_ok hd).1
  generalize isq d = r at *
  subst hr
  have key : agI p (r * r) q t s = if 0 < q then sgI (s * r - (q * t - p * s)) else -sgI (s * r - (q * t - p * s)) := by
    unfold agI
    have : (if q * t - p * s < 0 then 1 else sgI (s * s * (r * r) - (q * t - p * s) * (q * t - p * s))) = sgI (s * r - (q * t - p * s)) := by
      generalize q * t - p * s = L
      have n0 : 0 ≤ s * r := Int.mul_nonneg hs r0
      split
      · rw [sgI_pos (by omega)]
      · rename_i hL
        have e1 : s * s * (r * r) - L * L = (s * r + L) * (s * r - L) := by grind
        rw [e1]
        rcases Int.lt_or_le 0 (s * r + L) with z | z
        · exact sgI_mulp z
        · have h1 : s * r = 0 := by omega
          have h2 : L = 0 := by omega
          rw [h1, h2]; rfl
    rw [this]
  rw [key]
  have e2 : b * (s * r - (q * t - p * s)) = q * (s * a - t * b) := by grind
  rw [← sgI_mulp hb, e2]
  rcases Int.lt_or_le 0 q with w | w
  · rw [if_pos w, sgI_mulp w]
  · rw [if_neg (by omega), sgI_muln (by omega), Int.neg_neg]
theorem sgI_eps {ε x : Int} (h : ε = 1 ∨ ε = -1) (hx : 0 < x) : sgI (ε * x) = ε ∧ sgI (-ε * x) = -ε := by
  rcases h with rfl | rfl
  · exact ⟨sgI_pos (by omega), sgI_neg (by omega)⟩
  · exact ⟨sgI_neg (by omega), sgI_pos (by omega)⟩
/-- a fraction lies between the two that some of its first terms tell -/
theorem begins_rat {ts : List Int} (h : floorL ts = true) {n : Nat} (hn : n ≠ 0) (hl : n < ts.length) :
    ¬ sgI ((turnL (ts.take n)).c * (turnL ts).a - (turnL (ts.take n)).a * (turnL ts).c) = 0 ∧
    sgI ((turnL (ts.take n)).c * (turnL ts).a - (turnL (ts.take n)).a * (turnL ts).c) * sgI (((turnL (ts.take n)).c + (turnL (ts.take n)).d) * (turnL ts).a - ((turnL (ts.take n)).a + (turnL (ts.take n)).b) * (turnL ts).c) < 0 := by
  obtain ⟨nt, pt⟩ := floorL_pos h
  have e0 : turnL ts = (turnL (ts.take n)).mul (turnL (ts.drop n)) := by rw [← turn_app, List.take_append_drop]
  have hu : ∀ u ∈ ts.drop n, 1 ≤ u := one_drop pt (by omega)
  have hne : ts.drop n ≠ [] := fun z => by have := List.drop_eq_nil_iff.mp z; omega
  have he : End1 (ts.drop n) := by
    unfold End1
    unfold floorL at h
    rw [Bool.and_eq_true, Bool.or_eq_true] at h
    have h2 := h.2.resolve_left (fun z => by have := of_decide_eq_true z; omega)
    rw [List.getLast?_drop, if_neg (by omega)]
    intro z
    rw [z] at h2
    simp at h2
  have r1 := (rest_sides _ hu).2.2 hne
  have r2 := rest_strict _ hu he
  have hd := turn_dets (ts.take n)
  have hε := sgL_cases (ts.take n).length
  rw [e0]
  generalize sgL (ts.take n).length = ε at *
  generalize turnL (ts.take n) = m at *
  generalize turnL (ts.drop n) = u at *
  have x1 : m.c * (m.mul u).a - m.a * (m.mul u).c = -ε * u.c := by
    rw [← hd]; simp only [Mx.mul]; grind
  have x2 : (m.c + m.d) * (m.mul u).a - (m.a + m.b) * (m.mul u).c = ε * (u.a - u.c) := by
    rw [← hd]; simp only [Mx.mul]; grind
  rw [x1, x2]
  exact sides_two hε (sgI_eps hε (by omega)).2 (sgI_eps hε (by omega)).1
end Tq

set_option maxRecDepth 100000
set_option maxHeartbeats 4000000
namespace Tq
open PySem PySem.Spec PyProof.Rows L2
/-! ### bounds told of every beginning and every rest of a row -/
structure TM (ts : List Int) : Prop where
  len : ts.length ≤ 220
  bd : ∀ t ∈ ts, Bd 40 t
  tk : ∀ n, MB 1600 (turnL (ts.take n))
  dr : ∀ n, MB 1600 (turnL (ts.drop n))
end Tq

set_option maxRecDepth 100000
set_option maxHeartbeats 4000000
/-! numbers (p + root of d) / q: in lowest terms, scaled, their rows -/
namespace Tq
open PySem PySem.Spec PyProof.Rows L2
/-! ### in lowest terms -/
def gcdL (xs : List Int) : Int := xs.foldl gcdI 0
def firstNZ : List Int → Int
  | [] => 0
  | x :: xs => if x = 0 then firstNZ xs else x
def partL (xs : List Int) : Int := if firstNZ xs < 0 then -gcdL xs else gcdL xs
def lowL (xs : List Int) : List Int := xs.map fun x => x.fdiv (partL xs)
/-- top and bottom of the fraction (p + the root's floor) / q -/
def frS (p d q : Int) : Int × Int := ((p + isq d).fdiv (partL [q, p + isq d]), q.fdiv (partL [q, p + isq d]))
theorem gcdI_dvd (a b : Int) : ∃ x y : Int, a = gcdI a b * x ∧ b = gcdI a b * y ∧ (gcdI a b ≠ 0 → gcdI x y = 1) := by
  obtain ⟨m, hm⟩ := Nat.gcd_dvd_left a.natAbs b.natAbs
  obtain ⟨n, hn⟩ := Nat.gcd_dvd_right a.natAbs b.natAbs
  unfold gcdI
  generalize hg : Nat.gcd a.natAbs b.natAbs = g at *
  refine ⟨a.sign * m, b.sign * n, ?_, ?_, fun h0 => ?_⟩
  · have := Int.sign_mul_natAbs a
    rw [hm] at this
    rw [Int.natCast_mul] at this
    grind
  · have := Int.sign_mul_natAbs b
    rw [hn] at this
    rw [Int.natCast_mul] at this
    grind
  · have hg0 : 0 < g := by omega
    have hc : Nat.gcd m n = 1 := by
      have := Nat.gcd_mul_left g m n
      rw [← hm, ← hn, hg] at this
      exact Nat.eq_of_mul_eq_mul_left hg0 (by omega)
    have e1 : (a.sign * (m : Int)).natAbs = m := by
      rw [Int.natAbs_mul, Int.natAbs_natCast]
      rcases Int.lt_trichotomy a 0 with h | h | h
      · rw [Int.sign_eq_neg_one_of_neg h]; simp
      · subst h
        rw [show (0 : Int).natAbs = 0 from rfl] at hm
        have : m = 0 := by
          rcases Nat.mul_eq_zero.mp hm.symm with z | z
          · omega
          · exact z
        rw [this]; simp
      · rw [Int.sign_eq_one_of_pos h]; simp
    have e2 : (b.sign * (n : Int)).natAbs = n := by
      rw [Int.natAbs_mul, Int.natAbs_natCast]
      rcases Int.lt_trichotomy b 0 with h | h | h
      · rw [Int.sign_eq_neg_one_of_neg h]; simp
      · subst h
        rw [show (0 : Int).natAbs = 0 from rfl] at hn
        have : n = 0 := by
          rcases Nat.mul_eq_zero.mp hn.symm with z | z
          · omega
          · exact z
        rw [this]; simp
      · rw [Int.sign_eq_one_of_pos h]; simp
    rw [e1, e2, hc]; rfl
theorem gcdI_nn (a b : Int) : 0 ≤ gcdI a b := by unfold gcdI; omega
theorem gcdI_comm (a b : Int) : gcdI a b = gcdI b a := by unfold gcdI; rw [Nat.gcd_comm]
theorem gcdI_neg (a b : Int) : gcdI (-a) (-b) = gcdI a b := by unfold gcdI; rw [Int.natAbs_neg, Int.natAbs_neg]
theorem gcdI_zero (a : Int) : gcdI 0 a = (a.natAbs : Int) := by unfold gcdI; rw [show (0 : Int).natAbs = 0 from rfl, Nat.gcd_zero_left]
theorem gcdI_pos {a b : Int} (h : a ≠ 0 ∨ b ≠ 0) : 0 < gcdI a b := by
  unfold gcdI
  rcases h with h | h
  · have := Nat.gcd_pos_of_pos_left b.natAbs (show 0 < a.natAbs by omega); omega
  · have := Nat.gcd_pos_of_pos_right a.natAbs (show 0 < b.natAbs by omega); omega
theorem natAbs_of_mul {a g x : Int} (hg : g ≠ 0) (h : a = g * x) : x.natAbs ≤ a.natAbs := by
  rw [h, Int.natAbs_mul]
  exact Nat.le_mul_of_pos_left _ (by omega)
theorem part_two {q x : Int} (hq : q ≠ 0) : partL [q, x] ≠ 0 ∧ ∃ u v : Int, q = partL [q, x] * u ∧ x = partL [q, x] * v ∧ 0 < u ∧ gcdI v u = 1 := by
  have e : gcdL [q, x] = gcdI q x := by
    show gcdI (gcdI 0 q) x = gcdI q x
    rw [gcdI_zero]
    unfold gcdI
    rw [Int.natAbs_natCast]
  obtain ⟨u, v, h1, h2, h3⟩ := gcdI_dvd q x
  have g0 := gcdI_pos (b := x) (.inl hq)
  replace h3 := h3 (by omega)
  have hf : firstNZ [q, x] = q := if_neg hq
  unfold partL
  rw [e, hf]
  generalize gcdI q x = g at *
  split
  · rename_i c
    refine ⟨by omega, -u, -v, by grind, by grind, ?_, by rw [gcdI_neg, gcdI_comm]; exact h3⟩
    rcases Int.lt_or_le u 0 with w | w
    · omega
    · have := Int.mul_nonneg (Int.le_of_lt g0) w
      omega
  · rename_i c
    refine ⟨by omega, u, v, h1, h2, ?_, by rw [gcdI_comm]; exact h3⟩
    have : 0 < g * u := by omega
    exact pos_of_mul g0 this
theorem frS_ok {p d q : Int} (hq : q ≠ 0) : 0 < (frS p d q).2 ∧ gcdI (frS p d q).1 (frS p d q).2 = 1 ∧ q * (frS p d q).1 = (frS p d q).2 * (p + isq d) ∧ (frS p d q).1.natAbs ≤ (p + isq d).natAbs ∧ (frS p d q).2.natAbs ≤ q.natAbs := by
  obtain ⟨g0, u, v, h1, h2, h3, h4⟩ := part_two (x := p + isq d) hq
  unfold frS
  dsimp only
  rw [fdiv_of_mul g0 h1, fdiv_of_mul g0 h2]
  refine ⟨h3, h4, ?_, natAbs_of_mul g0 h2, natAbs_of_mul g0 h1⟩
  generalize partL [q, p + isq d] = g at *
  rw [h2, h1]
  grind
/-- what is in lowest terms stays so -/
theorem gcd_swap0 (A B : Int) : gcdI B (A % B) = gcdI A B := by
  have h1 : Int.gcd A B = Int.gcd (A % B) B := by
    have := Int.mul_ediv_add_emod A B
    have e : A = A % B + B * (A / B) := by omega
    rw [e]
    rw [Int.gcd_add_mul_left_left]
    rw [Int.add_mul_emod_self_left, Int.emod_emod_of_dvd _ (Int.dvd_refl B)]
  unfold gcdI
  unfold Int.gcd at h1
  rw [Nat.gcd_comm, ← h1]
theorem frS_id {a b : Int} (hb : 0 < b) (hg : gcdI a b = 1) : frS a 0 b = (a, b) := by
  have h0 : isq 0 = 0 := isq_uniq (by decide) (by decide) (by decide)
  have hp : partL [b, a + isq 0] = 1 := by
    rw [h0, Int.add_zero]
    unfold partL
    have e : gcdL [b, a] = gcdI b a := by
      show gcdI (gcdI 0 b) a = gcdI b a
      rw [gcdI_zero]
      unfold gcdI
      rw [Int.natAbs_natCast]
    rw [e, gcdI_comm, hg]
    have hf : firstNZ [b, a] = b := if_neg (by omega)
    rw [hf, if_neg (by omega)]
  unfold frS
  rw [hp, h0, Int.add_zero]
  have e1 : ∀ x : Int, x.fdiv 1 = x := fun x => fdiv_of_mul (by decide) (by omega)
  rw [e1, e1]
/-! ### scaled -/
def scl (p d q : Int) : Int × Int × Int := if (d - p * p).fmod q = 0 then (p, d, q) else (p * q.natAbs, d * q * q, q * q.natAbs)
theorem sq_of_scale {d q R : Int} (hq : q ≠ 0) (h : R * R = d * q * q) : ∃ k : Int, k * k = d := by
  obtain ⟨a, b, h1, h2, h3⟩ := gcdI_dvd R q
  have g0 := gcdI_pos (a := R) (b := q) (.inr hq)
  have h3 := h3 (by omega)
  generalize gcdI R q = g at *
  have e : a * a = d * (b * b) := by
    have : g * g * (a * a) = g * g * (d * (b * b)) := by rw [h1, h2] at h; grind
    exact Int.eq_of_mul_eq_mul_left (by have := Int.mul_pos g0 g0; omega) this
  -- b divides a * a, and is of one with a
  have hb : b.natAbs ∣ a.natAbs * a.natAbs := by
    refine ⟨d.natAbs * b.natAbs, ?_⟩
    have := congrArg Int.natAbs e
    rw [Int.natAbs_mul, Int.natAbs_mul, Int.natAbs_mul] at this
    rw [this]
    grind
  have hc : Nat.Coprime b.natAbs a.natAbs := by
    have : Nat.gcd a.natAbs b.natAbs = 1 := by
      unfold gcdI at h3
      omega
    rw [Nat.coprime_comm]
    exact this
  have hb2 := hc.dvd_of_dvd_mul_left hb
  have hb1 : b.natAbs = 1 := by
    have := Nat.dvd_gcd (Nat.dvd_refl b.natAbs) hb2
    rw [show Nat.gcd b.natAbs a.natAbs = 1 from hc] at this
    exact Nat.dvd_one.mp this
  have hbb : b * b = 1 := by
    rcases Int.natAbs_eq b with z | z <;> rw [z, hb1] <;> decide
  exact ⟨a, by rw [e, hbb, Int.mul_one]⟩
theorem isq_of_sq {d k : Int} (h : k * k = d) : isq d * isq d = d := by
  have e : isq d = (k.natAbs : Int) := by
    have n := Int.natAbs_mul_self' k
    refine isq_uniq (by omega) (by omega) ?_
    have : ((k.natAbs : Int) + 1) * (k.natAbs + 1) = k.natAbs * k.natAbs + 2 * k.natAbs + 1 := by grind
    omega
  rw [e, ← h]
  exact Int.natAbs_mul_self' k
theorem scl_ok {p d q : Int} (nn : NSq d) (hq : q ≠ 0) : NSq (scl p d q).2.1 ∧ Dv (scl p d q).2.1 ((scl p d q).1, (scl p d q).2.2) ∧ (scl p d q).2.2 ≠ 0 ∧ ∀ t s, agI (scl p d q).1 (scl p d q).2.1 (scl p d q).2.2 t s = agI p d q t s := by
  unfold scl
  split
  · rename_i c
    obtain ⟨k, hk⟩ := Int.dvd_of_fmod_eq_zero c
    exact ⟨nn, ⟨hq, k, hk⟩, hq, fun _ _ => rfl⟩
  · have he : 0 < (q.natAbs : Int) := by omega
    have e1 : d * q * q = d * q.natAbs * q.natAbs := by
      rcases Int.natAbs_eq q with z | z <;> generalize q.natAbs = e at * <;> subst z <;> grind
    have hQ : q * (q.natAbs : Int) ≠ 0 := fun z => by
      rcases Int.mul_eq_zero.mp z with w | w <;> omega
    have n2 : 0 ≤ d * q * q := by
      rw [e1]
      exact Int.mul_nonneg (Int.mul_nonneg nn.1 (by omega)) (by omega)
    refine ⟨⟨n2, fun z => nn.2 ?_⟩, ⟨hQ, ?_⟩, hQ, fun t s => ?_⟩
    · obtain ⟨k, hk⟩ := sq_of_scale hq z
      exact isq_of_sq hk
    · dsimp only
      refine ⟨q.sign * (d - p * p), ?_⟩
      have e2 : (q.natAbs : Int) * q.sign = q := by rw [Int.mul_comm]; exact Int.sign_mul_natAbs q
      rw [e1]
      generalize (q.natAbs : Int) = e at *
      have e3 : e * e = q * q := by
        rcases Int.lt_trichotomy q 0 with h | h | h
        · rw [Int.sign_eq_neg_one_of_neg h] at e2; grind
        · omega
        · rw [Int.sign_eq_one_of_pos h] at e2; grind
      have e4 : q * e * (q.sign * (d - p * p)) = q * (e * q.sign) * (d - p * p) := by grind
      rw [e4, e2]
      grind
    · rw [e1]
      exact agI_scale he
/-! ### the row -/
def tmS (p d q : Int) (n : Nat) : List Int := if isq d * isq d = d then (floorsE (frS p d q).1 (frS p d q).2).take n else teL (scl p d q).2.1 n ((scl p d q).1, (scl p d q).2.2)
theorem tmS_take {p d q : Int} (n k : Nat) : (tmS p d q n).take k = tmS p d q (min k n) := by
  unfold tmS
  split
  · rw [List.take_take]
  · rw [teL_take]
theorem tmS_len (p d q : Int) (n : Nat) : (tmS p d q n).length ≤ n := by
  unfold tmS
  split
  · rw [List.length_take]; omega
  · rw [teL_len]; omega
theorem floors_ne {a b : Int} (hb : 0 < b) : floorsE a b ≠ [] := by rw [floors_cons (by omega)]; simp
theorem tmS_ne {p d q : Int} (hq : q ≠ 0) {n : Nat} (hn : n ≠ 0) : tmS p d q n ≠ [] := by
  unfold tmS
  split
  · intro z
    rcases List.take_eq_nil_iff.mp z with z | z
    · exact hn z
    · exact floors_ne (frS_ok hq).1 z
  · intro z
    have := teL_len (scl p d q).2.1 n ((scl p d q).1, (scl p d q).2.2)
    rw [z] at this
    exact hn this.symm
/-- whether a number's row begins with some terms, and whether it ends with them -/
def begE (p d q : Int) (ts : List Int) : Bool := ts.isEmpty || ((decide (agI p d q (turnL ts).a (turnL ts).c = 0) && (decide (ts.length = 1) || decide (1 < ts.getLast?.getD 0))) ||
  decide (agI p d q (turnL ts).a (turnL ts).c * agI p d q ((turnL ts).a + (turnL ts).b) ((turnL ts).c + (turnL ts).d) < 0))
def allE (p d q : Int) (ts : List Int) : Bool := decide (agI p d q (turnL ts).a (turnL ts).c = 0)
theorem tmS_pos {p d q : Int} (hd : 0 ≤ d) (hq : q ≠ 0) (n : Nat) : Pos1 (tmS p d q n) := by
  unfold tmS
  split
  · obtain ⟨h1, h2, _⟩ := frS_ok (p := p) (d := d) hq
    have := (floorL_pos (floors_legal (p := (frS p d q).1) (q := (frS p d q).2) (by omega) h2)).2
    intro t ht
    refine this t ?_
    rw [List.drop_take] at ht
    exact List.mem_of_mem_take ht
  · rename_i c
    obtain ⟨s1, s2, s3, s4⟩ := scl_ok (p := p) ⟨hd, c⟩ hq
    exact teL_pos s1 n s2
/-- the whole row of the fraction -/
theorem frow {p d q : Int} (hq : q ≠ 0) : floorL (floorsE (frS p d q).1 (frS p d q).2) = true ∧ (turnL (floorsE (frS p d q).1 (frS p d q).2)).a = (frS p d q).1 ∧ (turnL (floorsE (frS p d q).1 (frS p d q).2)).c = (frS p d q).2 := by
  obtain ⟨h1, h2, _⟩ := frS_ok (p := p) (d := d) hq
  exact ⟨floors_legal (by omega) h2, turn_floors _ _ _ (Nat.le_refl _) (by omega) h2 (fun z => by omega)⟩
theorem allS_full {p d q : Int} (hd : 0 ≤ d) (hq : q ≠ 0) (c : isq d * isq d = d) : allE p d q (floorsE (frS p d q).1 (frS p d q).2) = true := by
  obtain ⟨h1, h2, h3, _⟩ := frS_ok (p := p) (d := d) hq
  obtain ⟨f1, f2, f3⟩ := frow (p := p) (d := d) hq
  unfold allE
  rw [f2, f3, agI_sq c hd (by omega) hq h1 h3]
  refine decide_eq_true ?_
  rw [show (frS p d q).2 * (frS p d q).1 - (frS p d q).1 * (frS p d q).2 = 0 by rw [Int.mul_comm]; omega]
  rfl
theorem begS {p d q : Int} (hd : 0 ≤ d) (hq : q ≠ 0) {n : Nat} (hn : n ≠ 0) : begE p d q (tmS p d q n) = true := by
  unfold begE
  rw [Bool.or_eq_true]
  refine .inr ?_
  rw [Bool.or_eq_true]
  have hpos := tmS_pos (p := p) hd hq n
  have hne := tmS_ne (p := p) (d := d) hq hn
  unfold tmS at *
  split at hpos
  · rename_i c
    rw [if_pos c] at hne ⊢
    obtain ⟨h1, h2, h3, _⟩ := frS_ok (p := p) (d := d) hq
    obtain ⟨f1, f2, f3⟩ := frow (p := p) (d := d) hq
    by_cases hl : n < (floorsE (frS p d q).1 (frS p d q).2).length
    · refine .inr (decide_eq_true ?_)
      obtain ⟨c1, d0⟩ := turn_pos _ hpos hne
      rw [agI_sq c hd (by omega) hq h1 h3, agI_sq c hd (by omega) hq h1 h3]
      have := (begins_rat f1 hn hl).2
      rw [f2, f3] at this
      exact this
    · refine .inl ?_
      have hf := allS_full (p := p) hd hq c
      rw [List.take_of_length_le (by omega)] at *
      rw [Bool.and_eq_true]
      refine ⟨hf, ?_⟩
      generalize floorsE (frS p d q).1 (frS p d q).2 = ts at *
      unfold floorL at f1
      rw [Bool.and_eq_true, Bool.or_eq_true] at f1
      rw [Bool.or_eq_true]
      by_cases w : ts.length = 1
      · exact .inl (decide_eq_true w)
      · have f3 := f1.2.resolve_left (fun z => w (of_decide_eq_true z))
        refine .inr (decide_eq_true ?_)
        have hl1 : ts.length ≠ 0 := fun z => hne (List.length_eq_zero_iff.mp z)
        have e : ts.getLast? = some (ts.getLast hne) := List.getLast?_eq_some_getLast hne
        rw [e] at f3 ⊢
        simp only [Option.getD_some]
        have hm : ts.getLast hne ∈ ts.drop 1 := by
          have : ts.drop 1 ≠ [] := fun z => by have := List.drop_eq_nil_iff.mp z; omega
          rw [← List.getLast_drop this]
          exact List.getLast_mem _
        have := hpos _ hm
        have n1 : ts.getLast hne ≠ 1 := fun z => by rw [z] at f3; simp at f3
        omega
  · rename_i c
    rw [if_neg c]
    obtain ⟨s1, s2, s3, s4⟩ := scl_ok (p := p) ⟨hd, c⟩ hq
    refine .inr (decide_eq_true ?_)
    have := (begins_irr s1 s3 s2 (mob_one _ _ _) hn).2
    rw [s4, s4] at this
    exact this
theorem allS {p d q : Int} (hd : 0 ≤ d) (hq : q ≠ 0) {n : Nat} (hl : (tmS p d q n).length < n) : allE p d q (tmS p d q n) = true := by
  unfold tmS at *
  split at hl
  · rename_i c
    rw [if_pos c]
    rw [List.length_take] at hl
    rw [List.take_of_length_le (by omega)]
    exact allS_full hd hq c
  · rw [teL_len] at hl
    omega
/-- the rest: p, d, q, or none -/
def restS (p d q : Int) : Option (Int × Int × Int) := if isq d * isq d = d then (if (frS p d q).1 % (frS p d q).2 = 0 then none else some ((frS p d q).2, 0, (frS p d q).1 % (frS p d q).2))
  else some ((stp (scl p d q).2.1 ((scl p d q).1, (scl p d q).2.2)).1, (scl p d q).2.1, (stp (scl p d q).2.1 ((scl p d q).1, (scl p d q).2.2)).2)
theorem isq0 : isq 0 = 0 := isq_uniq (by decide) (by decide) (by decide)
theorem rest_none {p d q : Int} (hd : 0 ≤ d) (hq : q ≠ 0) (h : restS p d q = none) {n : Nat} (hn : n ≠ 0) : (tmS p d q n).drop 1 = [] ∧ allE p d q (tmS p d q n) = true := by
  unfold restS at h
  split at h
  · rename_i c
    split at h
    · rename_i c2
      have hf := allS_full (p := p) hd hq c
      obtain ⟨h1, h2, _⟩ := frS_ok (p := p) (d := d) hq
      have e : floorsE (frS p d q).1 (frS p d q).2 = [(frS p d q).1 / (frS p d q).2] := by
        rw [floors_cons (by omega), c2, floors_zero]
      unfold tmS
      rw [if_pos c]
      rw [e] at hf ⊢
      rw [List.take_of_length_le (by simp; omega)]
      exact ⟨rfl, hf⟩
    · cases h
  · cases h
theorem scl_self {p d q : Int} (h : (d - p * p).fmod q = 0) : scl p d q = (p, d, q) := if_pos h
theorem rest_some {p d q a b c : Int} (hd : 0 ≤ d) (hq : q ≠ 0) (h : restS p d q = some (a, b, c)) : 0 ≤ b ∧ c ≠ 0 ∧ 1 ≤ flo a b c ∧
    (∀ n m : Nat, n ≠ 0 → n ≤ m → (tmS a b c m).take ((tmS p d q n).length - 1) = (tmS p d q n).drop 1) ∧
    (∀ n : Nat, (tmS p d q n).length = 1 → n = 1) ∧ ((b = 0 ∧ 0 < c ∧ c < a) ∨ (NSq b ∧ gt1 (isq b) (a, c))) := by
  unfold restS at h
  split at h
  · rename_i cs
    obtain ⟨h1, h2, h3, _⟩ := frS_ok (p := p) (d := d) hq
    split at h
    · cases h
    · rename_i c2
      simp only [Option.some.injEq, Prod.mk.injEq] at h
      obtain ⟨rfl, rfl, rfl⟩ := h
      have et : ∀ n, tmS p d q n = (floorsE (frS p d q).1 (frS p d q).2).take n := fun n => by unfold tmS; rw [if_pos cs]
      simp only [et]
      generalize (frS p d q).1 = A at *
      generalize (frS p d q).2 = B at *
      have m0 := Int.emod_nonneg A (show B ≠ 0 by omega)
      have m1 := Int.emod_lt_of_pos A h1
      have hg : gcdI B (A % B) = 1 := by
        have : gcdI B (A % B) = gcdI A B := by
          have e := gcd_swap0 A B
          exact e
        rw [this]; exact h2
      have ef := frS_id (a := B) (b := A % B) (by omega) hg
      have hfl : 1 ≤ flo B 0 (A % B) := by
        unfold flo
        rw [if_pos (by omega), isq0, Int.add_zero]
        exact (Int.le_ediv_iff_mul_le (by omega)).mpr (by omega)
      refine ⟨by decide, c2, hfl, fun n m hn hm => ?_, fun n hl => ?_, .inl ⟨by first | rfl | trivial, by omega, m1⟩⟩
      · unfold tmS
        rw [isq0, if_pos (by decide), ef, floors_cons (p := A) (by omega)]
        cases n with
        | zero => exact absurd rfl hn
        | succ n =>
          rw [List.take_succ_cons, List.length_cons]
          show ((floorsE B (A % B)).take m).take ((floorsE B (A % B)).take n).length = (floorsE B (A % B)).take n
          rw [List.take_take, List.length_take]
          generalize floorsE B (A % B) = F
          rw [show min (min n F.length) m = min n F.length by omega]
          rw [Nat.min_comm, List.take_eq_take_min (l := F) (i := n), Nat.min_comm]
      · rw [floors_cons (p := A) (by omega), floors_cons (p := B) (by omega)] at hl
        rw [List.length_take, List.length_cons, List.length_cons] at hl
        omega
  · rename_i cs
    obtain ⟨s1, s2, s3, s4⟩ := scl_ok (p := p) ⟨hd, cs⟩ hq
    simp only [Option.some.injEq, Prod.mk.injEq] at h
    obtain ⟨rfl, rfl, rfl⟩ := h
    have et : ∀ n, tmS p d q n = teL (scl p d q).2.1 n ((scl p d q).1, (scl p d q).2.2) := fun n => by unfold tmS; rw [if_neg cs]
    simp only [et]
    generalize (scl p d q).2.1 = D at *
    generalize ((scl p d q).1, (scl p d q).2.2) = s at *
    obtain ⟨o1, o2, o3⟩ := stp_ok s1 s2
    refine ⟨s1.1, o1.1, flo_ge1 s1 o2, fun n m hn hm => ?_, fun n hl => by rw [teL_len] at hl; exact hl, .inr ⟨s1, o2⟩⟩
    have e2 : (D - (stp D s).1 * (stp D s).1).fmod (stp D s).2 = 0 := by
      obtain ⟨_, k, hk⟩ := o1
      rw [hk]
      exact Int.mul_fmod_right _ _
    unfold tmS
    rw [if_neg s1.2, scl_self e2]
    cases n with
    | zero => exact absurd rfl hn
    | succ n =>
      rw [teL_tail, teL_len, teL_take, show min (n + 1 - 1) m = n by omega]
end Tq

set_option maxRecDepth 100000
set_option maxHeartbeats 4000000
/-! numbers (p + root of d) / q: signs, bounds; the fourth form of the drawing purse -/
namespace Tq
open PySem PySem.Spec PyProof.Rows L2
/-! ### signs of a + b root m, of a + b root m + c root n -/
def sg2 (a b m : Int) : Int := if 0 ≤ sgI a * sgI (b * m) then sgI (sgI a + sgI (b * m)) else sgI a * sgI (a * a - b * b * m)
def sg3 (a b m c n : Int) : Int := if 0 ≤ sg2 a b m * sgI (c * n) then sgI (sg2 a b m + sgI (c * n)) else sg2 a b m * sg2 (a * a + b * b * m - c * c * n) (2 * a * b) m
def apS (p d q r e s : Int) : Int := sg3 (p * s - r * q) s d (-q) e * sgI q * sgI s
theorem sg2_range (a b m : Int) : sg2 a b m = -1 ∨ sg2 a b m = 0 ∨ sg2 a b m = 1 := by
  unfold sg2
  rcases sgI_cases a with ⟨_, e⟩ | ⟨_, e⟩ | ⟨_, e⟩ <;> rw [e] <;> rcases sgI_cases (b * m) with ⟨_, e2⟩ | ⟨_, e2⟩ | ⟨_, e2⟩ <;> rw [e2] <;> rcases sgI_cases (a * a - b * b * m) with ⟨_, e3⟩ | ⟨_, e3⟩ | ⟨_, e3⟩ <;> rw [e3] <;> decide
theorem sg3_range (a b m c n : Int) : sg3 a b m c n = -1 ∨ sg3 a b m c n = 0 ∨ sg3 a b m c n = 1 := by
  unfold sg3
  rcases sg2_range a b m with e | e | e <;> rw [e] <;> rcases sgI_cases (c * n) with ⟨_, e2⟩ | ⟨_, e2⟩ | ⟨_, e2⟩ <;> rw [e2] <;> rcases sg2_range (a * a + b * b * m - c * c * n) (2 * a * b) m with e3 | e3 | e3 <;> rw [e3] <;> decide
theorem apS_range (p d q r e s : Int) : apS p d q r e s = -1 ∨ apS p d q r e s = 0 ∨ apS p d q r e s = 1 := by
  unfold apS
  rcases sg3_range (p * s - r * q) s d (-q) e with e1 | e1 | e1 <;> rw [e1] <;> rcases sgI_cases q with ⟨_, e2⟩ | ⟨_, e2⟩ | ⟨_, e2⟩ <;> rw [e2] <;> rcases sgI_cases s with ⟨_, e3⟩ | ⟨_, e3⟩ | ⟨_, e3⟩ <;> rw [e3] <;> decide
theorem sg3_z (a b m c : Int) : sg3 a b m c 0 = sg2 a b m := by
  unfold sg3
  rw [Int.mul_zero, sgI_nil, Int.mul_zero, if_pos (by decide), Int.add_zero]
  rcases sg2_range a b m with e | e | e <;> rw [e] <;> rfl
/-- what is above 1 stands so to 1 -/
theorem apS_one {a b c : Int} (h : (b = 0 ∧ 0 < c ∧ c < a) ∨ (NSq b ∧ gt1 (isq b) (a, c))) : apS a b c 1 0 1 = 1 := by
  unfold apS
  rw [sg3_z, Int.mul_one, Int.one_mul, sgI_pos (show (0 : Int) < 1 by decide), Int.mul_one]
  rcases h with ⟨rfl, h1, h2⟩ | ⟨nn, h⟩
  · unfold sg2
    rw [Int.mul_zero, sgI_nil, Int.mul_zero, if_pos (by decide), sgI_pos (show 0 < a - c by omega), sgI_pos h1]
    decide
  · obtain ⟨r0, r1, r2⟩ := nn.ok
    unfold gt1 at h
    dsimp only at h
    unfold sg2
    have hb : 0 < b := by have := Int.mul_nonneg r0 r0; omega
    rw [Int.one_mul, Int.one_mul, sgI_pos hb, Int.one_mul]
    generalize isq b = r at *
    rcases h with ⟨q1, q2⟩ | ⟨q1, q2⟩
    · rw [sgI_pos q1]
      rcases sgI_cases (a - c) with ⟨z, e⟩ | ⟨z, e⟩ | ⟨z, e⟩
      · rw [e, if_neg (by decide)]
        have := sq_le (x := a - c) (r := r) (by omega) (by omega)
        rw [sgI_neg (show (a - c) * (a - c) - b < 0 by omega)]
        decide
      · rw [e, if_pos (by decide)]; decide
      · rw [e, if_pos (by decide)]; decide
    · rw [sgI_neg q1, sgI_neg (show a - c < 0 by omega), if_neg (by decide)]
      have := sq_ge (x := -(a - c)) (r := r + 1) (by omega) (by omega)
      have e : -(a - c) * -(a - c) = (a - c) * (a - c) := Int.neg_mul_neg ..
      rw [sgI_pos (show 0 < (a - c) * (a - c) - b by omega)]
      decide
/-! ### bounds -/
theorem Bd.of_le {k : Nat} {x y : Int} (h : Bd k y) (e : x.natAbs ≤ y.natAbs) : Bd k x := Nat.lt_of_le_of_lt e h
theorem bd_isq {k : Nat} {d : Int} (h : Bd k d) (hd : 0 ≤ d) : Bd k (isq d) := by
  obtain ⟨r0, r1, _⟩ := isq_ok hd
  refine h.of_le ?_
  rcases Int.lt_or_le (isq d) 1 with z | z
  · omega
  · have := Int.mul_le_mul_of_nonneg_right z r0
    omega
theorem flo_le {p d q : Int} (hd : 0 ≤ d) (hq : q ≠ 0) : (flo p d q).natAbs ≤ p.natAbs + (isq d).natAbs + 2 := by
  have r0 := (isq_ok hd).1
  have key : ∀ x y : Int, 0 < y → (x / y).natAbs ≤ x.natAbs + 1 := fun x y hy => by
    have h1 := Int.mul_ediv_add_emod x y
    have h2 := Int.emod_nonneg x (show y ≠ 0 by omega)
    have h3 := Int.emod_lt_of_pos x hy
    generalize x / y = z at *
    rcases Int.lt_or_le z 0 with w | w
    · have : y * (z + 1) ≤ 1 * (z + 1) := Int.mul_le_mul_of_nonpos_right (by omega) (by omega)
      have e : y * (z + 1) = y * z + y := by grind
      omega
    · have : 1 * z ≤ y * z := Int.mul_le_mul_of_nonneg_right (by omega) w
      omega
  unfold flo
  split
  · have := key (p + isq d) q (by omega); omega
  · have := key (-p - isq d - (if isq d * isq d = d then 0 else 1)) (-q) (by omega)
    split at this <;> split <;> omega
/-- a number as the program may have it -/
def SB (k : Nat) (x : Int × Int × Int) : Prop := 0 ≤ x.2.1 ∧ x.2.2 ≠ 0 ∧ Bd k x.1 ∧ Bd k x.2.1 ∧ Bd k x.2.2
theorem SB.mono {k k' : Nat} {x : Int × Int × Int} (h : SB k x) (hk : k ≤ k') : SB k' x := ⟨h.1, h.2.1, h.2.2.1.mono hk, h.2.2.2.1.mono hk, h.2.2.2.2.mono hk⟩
theorem Bd.abs {k : Nat} {x : Int} (h : Bd k x) : Bd k (x.natAbs : Int) := by unfold Bd at *; rwa [Int.natAbs_natCast]
theorem scl_bd {k : Nat} {p d q : Int} (h : SB k (p, d, q)) : 0 ≤ (scl p d q).2.1 ∧ (scl p d q).2.2 ≠ 0 ∧ Bd (2 * k) (scl p d q).1 ∧ Bd (3 * k) (scl p d q).2.1 ∧ Bd (2 * k) (scl p d q).2.2 := by
  obtain ⟨h0, hq, bp, bd, bq⟩ := h
  dsimp only at *
  unfold scl
  split
  · exact ⟨h0, hq, bp.mono (by omega), bd.mono (by omega), bq.mono (by omega)⟩
  · refine ⟨?_, ?_, (bp.mul bq.abs).mono (by omega), ((bd.mul bq).mul bq).mono (by omega), (bq.mul bq.abs).mono (by omega)⟩
    · rw [Int.mul_assoc]
      exact Int.mul_nonneg h0 (by
        have := Int.natAbs_mul_self' q
        have h2 : 0 ≤ (q.natAbs : Int) * q.natAbs := Int.mul_nonneg (by omega) (by omega)
        omega)
    · intro z
      rcases Int.mul_eq_zero.mp z with w | w <;> omega
theorem isq_half {k : Nat} {d : Int} (h0 : 0 ≤ d) (h : Bd (4 * k) d) : Bd (2 * k) (isq d) := by
  obtain ⟨r0, r1, _⟩ := isq_ok h0
  unfold Bd at *
  rcases Nat.lt_or_ge (isq d).natAbs (10 ^ (2 * k)) with z | z
  · exact z
  · have h1 : (10 : Nat) ^ (2 * k) * 10 ^ (2 * k) ≤ (isq d).natAbs * (isq d).natAbs := Nat.mul_le_mul z z
    rw [← Nat.pow_add, show 2 * k + 2 * k = 4 * k by omega] at h1
    have h2 : (isq d * isq d).natAbs = (isq d).natAbs * (isq d).natAbs := Int.natAbs_mul ..
    rw [← h2] at h1
    have h3 := Int.mul_nonneg r0 r0
    generalize isq d * isq d = X at *
    omega
/-- the states of a number stay so small -/
theorem its_bd {k : Nat} {p d q : Int} (h : SB k (p, d, q)) (nn : NSq (scl p d q).2.1) (hs : Dv (scl p d q).2.1 ((scl p d q).1, (scl p d q).2.2)) (n : Nat) :
    Bd (2 * k + 1) (itS (scl p d q).2.1 n ((scl p d q).1, (scl p d q).2.2)).1 ∧ Bd (2 * k + 1) (itS (scl p d q).2.1 n ((scl p d q).1, (scl p d q).2.2)).2 := by
  obtain ⟨h0, hq, bp, bd, bq⟩ := scl_bd h
  have br := isq_half (k := k) h0 (bd.mono (by omega))
  have r0 := nn.ok.1
  have x1 : (10 : Nat) ^ (2 * k + 1) = 10 * 10 ^ (2 * k) := by rw [Nat.pow_succ, Nat.mul_comm]
  have x0 : 1 ≤ (10 : Nat) ^ (2 * k) := Nat.one_le_pow _ _ (by decide)
  unfold Bd at *
  generalize (10 : Nat) ^ (2 * k) = X at *
  have key := itS_bs (B := X) (C := 4 * X) nn (by omega) (by omega) n hs ⟨by dsimp only; omega, by dsimp only; omega⟩
  obtain ⟨⟨k1, k2⟩, k3, k4⟩ := key
  constructor <;> omega
theorem frS_bd {k : Nat} {p d q : Int} (h : SB k (p, d, q)) : Bd (k + 1) (frS p d q).1 ∧ Bd k (frS p d q).2 := by
  obtain ⟨h0, hq, bp, bd, bq⟩ := h
  dsimp only at *
  obtain ⟨_, _, _, h4, h5⟩ := frS_ok (p := p) (d := d) hq
  refine ⟨(bd1 bp (bd_isq bd h0)).of_le h4, bq.of_le h5⟩
theorem rest_sb {k : Nat} {p d q : Int} (h : SB k (p, d, q)) {x : Int × Int × Int} (hx : restS p d q = some x) : SB (3 * k + 1) x := by
  obtain ⟨a, b, c⟩ := x
  have hr := rest_some h.1 h.2.1 hx
  refine ⟨hr.1, hr.2.1, ?_⟩
  dsimp only
  unfold restS at hx
  split at hx
  · split at hx
    · cases hx
    · simp only [Option.some.injEq, Prod.mk.injEq] at hx
      obtain ⟨rfl, rfl, rfl⟩ := hx
      obtain ⟨b1, b2⟩ := frS_bd h
      have h1 := (frS_ok (p := p) (d := d) h.2.1).1
      exact ⟨b2.mono (by omega), (Bd.lit (k := 1) (x := 0) (by decide)).mono (by omega), (b2.mod h1).mono (by omega)⟩
  · rename_i c
    simp only [Option.some.injEq, Prod.mk.injEq] at hx
    obtain ⟨rfl, rfl, rfl⟩ := hx
    obtain ⟨s1, s2, s3, s4⟩ := scl_ok (p := p) (q := q) ⟨h.1, c⟩ h.2.1
    have := its_bd h s1 s2 1
    exact ⟨this.1.mono (by omega), (scl_bd h).2.2.2.1.mono (by omega), this.2.mono (by omega)⟩
theorem floors_bd : ∀ (n : Nat) (a b : Int), b.toNat ≤ n → 0 ≤ b → ∀ t ∈ floorsE a b, t.natAbs ≤ a.natAbs + b.natAbs
  | n, a, b, hn, h0, t, ht => by
    rcases Int.lt_or_le 0 b with hb | hb
    · rw [floors_cons (by omega)] at ht
      have m0 := Int.emod_nonneg a (show b ≠ 0 by omega)
      have m1 := Int.emod_lt_of_pos a hb
      have m2 := Int.mul_ediv_add_emod a b
      rcases List.mem_cons.mp ht with rfl | ht
      · generalize a / b = z at *
        rcases Int.lt_or_le z 0 with w | w
        · have : b * (z + 1) ≤ 1 * (z + 1) := Int.mul_le_mul_of_nonpos_right (by omega) (by omega)
          have e : b * (z + 1) = b * z + b := by grind
          omega
        · have : 1 * z ≤ b * z := Int.mul_le_mul_of_nonneg_right (by omega) w
          omega
      · cases n with
        | zero => omega
        | succ n =>
          have h2 : ∀ t ∈ floorsE b (a % b), 1 ≤ t := floors_rest _ b (a % b) (Nat.le_refl _) m0 m1
          have := floors_bd n b (a % b) (by omega) m0 t ht
          -- terms behind the first one are no more than b
          have key : ∀ (n : Nat) (b r : Int), r.toNat ≤ n → 0 ≤ r → r < b → ∀ t ∈ floorsE b r, t.natAbs ≤ b.natAbs := by
            intro n
            induction n with
            | zero =>
              intro b r hr h0 h1 t ht
              have : r = 0 := by omega
              subst this
              rw [floors_zero] at ht
              cases ht
            | succ n ih =>
              intro b r hr h0 h1 t ht
              rcases Int.lt_or_le 0 r with w | w
              · rw [floors_cons (by omega)] at ht
                have n0 := Int.emod_nonneg b (show r ≠ 0 by omega)
                have n1 := Int.emod_lt_of_pos b w
                rcases List.mem_cons.mp ht with rfl | ht
                · have n2 := Int.ediv_le_self (a := b) r (by omega)
                  have n3 : 0 ≤ b / r := Int.ediv_nonneg (by omega) (by omega)
                  omega
                · have := ih r (b % r) (by omega) n0 n1 t ht
                  omega
              · have : r = 0 := by omega
                subst this
                rw [floors_zero] at ht
                cases ht
          have := key _ b (a % b) (Nat.le_refl _) m0 m1 t ht
          omega
    · have : b = 0 := by omega
      subst this
      rw [floors_zero] at ht
      cases ht
theorem mb_stepW {k j : Nat} {m : Mx} {t : Int} (h : MB k m) (ht : Bd j t) : MB (k + j + 1) (m.mul (.term t)) := by
  obtain ⟨h1, h2, h3, h4⟩ := h
  rw [Mx.mul_term]
  have key : ∀ {x y : Int}, Bd k x → Bd k y → Bd (k + j + 1) (x * t + y) := fun hx hy => bd1 (hx.mul ht) (hy.mono (by omega))
  exact ⟨key h1 h2, h1.mono (by omega), key h3 h4, h3.mono (by omega)⟩
theorem mb_turnW {j : Nat} (ts : List Int) (h : ∀ t ∈ ts, Bd j t) : MB ((j + 1) * ts.length + 1) (turnL ts) := by
  revert h
  refine list_snoc (P := fun ts => (∀ t ∈ ts, Bd j t) → MB ((j + 1) * ts.length + 1) (turnL ts)) ?_ ?_ ts
  · intro _
    refine ⟨?_, ?_, ?_, ?_⟩ <;> (unfold Bd; simp [turnL, Mx.one])
  · intro ts t ih h
    rw [turn_snoc, List.length_append]
    have := mb_stepW (ih fun x hx => h x (List.mem_append.mpr (.inl hx))) (h t (List.mem_append.mpr (.inr (List.mem_singleton.mpr rfl))))
    refine this.mono ?_
    rw [show ts.length + [t].length = ts.length + 1 from rfl, Nat.mul_add]
    omega
/-! ### the purse's fourth form -/
def t_take4 (K : Fg) (c1 c2 c3 : Int) : TS :=
  tSeq (tIfS (tTest (tOp (rI0 fun i j => .bl (decide (j < i))) (tOp (rIx K) (tVar 0) (tC (.int 0))) (tC (.int 0))))
    (tSeq (tAsg (tOp rMd (tOp (rIx K) (tVar 0) (tC (.int 0))) (tVar 1)) (gName 2))
    (tSeq (tAsg (tOp rDv (tOp (rIx K) (tVar 0) (tC (.int 0))) (tVar 1)) (gSub (tVar 0) (tC (.int 0)) rSetL))
    (tRet (tVar 2)))) tNext)
  (tSeq (tAsg (tOp rAd (tOp (rIx K) (tVar 0) (tC (.int 2))) (tC (.int 1))) (gSub (tVar 0) (tC (.int 2)) rSetL))
  (tSeq (tAsg (tOp rMd (tOp rPw (tOp rAd (tOp rAd (tOp (rIx K) (tVar 0) (tC (.int 1))) (tOp rMu (tC (.int c1)) (tOp (rIx K) (tVar 0) (tC (.int 2))))) (tC (.int c2))) (tC (.int 5))) (tC (.int 2147483647))) (gName 3))
  (tSeq (tAsg (tOp rMd (tOp rPw (tOp rAd (tOp rDv (tVar 3) (tC (.int 8))) (tOp rMu (tC (.int c3)) (tOp (rIx K) (tVar 0) (tC (.int 2))))) (tC (.int 3))) (tC (.int 2147483587))) (gName 3))
  (tRet (tOp rMd (tOp rDv (tVar 3) (tC (.int 16))) (tVar 1))))))
theorem take4_read {K : Fg} {c1 c2 c3 : Int} (hc1 : 0 ≤ c1 ∧ c1 ≤ 20000000) (hc2 : 0 ≤ c2 ∧ c2 ≤ 1000000) (hc3 : 0 ≤ c3 ∧ c3 ≤ 20000000) {vs : List V} {H : Hp} {Q : VK} {E : XK} {N : List Str} (hN : N.length = 4) (h : spTake K vs H Q E) : t_take4 K c1 c2 c3 { nx := fun _ G => Q .non G, rt := Q } (start N vs) H := by
  obtain ⟨M, p, us, ds, n, rfl, mp, al, pk, r, hl, ⟨m, rfl, m0, mb⟩, hn, k⟩ := h
  have hn : 1 ≤ n := hn
  have k : ∀ d v H', postTake [.int m] d → (∀ a o, a ≠ p → H a = some o → H' a = some o) → PuOk H' p (n - 1) → Rp K M H' v d → Q v H' := k
  obtain ⟨v, rfl, rv⟩ := rpA1 r
  have e := rp_int rv
  subst e
  have es : start N [.ref p, .int m] = [some (.ref p), some (.int m), none, none] := by
    unfold L2.start
    rw [hN]
    rfl
  rw [es]
  obtain ⟨x, b, q, hp, hx, hb0, hb1, hq0, hq1⟩ := pk
  refine ⟨_, rfl, ix_at hp rfl ⟨_, _, rfl, rfl, _, rfl, ite2 (fun hc => ?_) (fun hc => ?_)⟩⟩
  · refine ⟨_, rfl, ix_at hp rfl ⟨_, rfl, _, _, rfl, rfl, m0, ?_⟩⟩
    refine ⟨_, rfl, ix_at hp rfl ⟨_, rfl, _, _, rfl, rfl, ⟨m0, mb⟩, _, rfl, p, _, 0, 0, rfl, rfl, hp, rfl, ?_⟩⟩
    refine ⟨_, rfl, k (.int (x % m)) _ _ ⟨m, x % m, rfl, rfl, Int.emod_nonneg _ (by omega), Int.emod_lt_of_pos _ m0⟩ (fun a o na e => by rw [upd_ne na]; exact e) ⟨x / m, b, q, upd_same, Int.ediv_nonneg hx (by omega), hb0, hb1, hq0, by omega⟩ (.int _)⟩
  · have nn : (n : Int) ≥ 1 := by omega
    refine ⟨_, rfl, ix_at hp rfl ⟨_, _, rfl, rfl, _, rfl, p, _, 2, 2, rfl, rfl, hp, rfl, ?_⟩⟩
    generalize hH2 : upd H p (.lst ([V.int x, .int b, .int q].set 2 (.int (q + 1)))) = H2
    have hp2 : H2 p = some (.lst [.int x, .int b, .int (q + 1)]) := by rw [← hH2]; exact upd_same
    have q0 : 0 ≤ q + 1 ∧ q + 1 ≤ 8000000 := by omega
    have m1 : 0 ≤ c1 * (q + 1) := Int.mul_nonneg hc1.1 (by omega)
    have m2 : c1 * (q + 1) ≤ 20000000 * 8000000 := Int.mul_le_mul hc1.2 q0.2 q0.1 (by omega)
    have m3 : 0 ≤ c3 * (q + 1) := Int.mul_nonneg hc3.1 (by omega)
    have m4 : c3 * (q + 1) ≤ 20000000 * 8000000 := Int.mul_le_mul hc3.2 q0.2 q0.1 (by omega)
    have hbd : 0 ≤ b + c1 * (q + 1) + c2 ∧ b + c1 * (q + 1) + c2 < 18446744073709551616 := by constructor <;> omega
    refine ⟨_, rfl, ix_at hp2 rfl ⟨_, rfl, ix_at hp2 rfl ⟨_, _, rfl, rfl, .inl (by constructor <;> omega), _, _, rfl, rfl, _, _, rfl, rfl, _, _, rfl, rfl, ⟨by decide, by decide, natAbs_lt hbd.1 hbd.2⟩, _, _, rfl, rfl, (by show (0 : Int) < 2147483647; decide), ?_⟩⟩⟩
    obtain ⟨one, hone⟩ : ∃ o, o = (b + c1 * (q + 1) + c2) ^ (5 : Int).toNat % 2147483647 := ⟨_, rfl⟩
    have one0 : 0 ≤ one := by rw [hone]; exact Int.emod_nonneg _ (by decide)
    have one1 : one < 2147483647 := by rw [hone]; exact Int.emod_lt_of_pos _ (by decide)
    have hb2 : 0 ≤ one / 8 + c3 * (q + 1) ∧ one / 8 + c3 * (q + 1) < 18446744073709551616 := by constructor <;> omega
    rw [hone] at hb2
    refine ⟨_, rfl, _, _, rfl, rfl, div_ok (by decide) (by decide), _, rfl, ix_at hp2 rfl ⟨_, _, rfl, rfl, .inl (by constructor <;> omega), _, _, rfl, rfl, _, _, rfl, rfl, ⟨by decide, by decide, natAbs_lt hb2.1 hb2.2⟩, _, _, rfl, rfl, (by show (0 : Int) < 2147483587; decide), ?_⟩⟩
    refine ⟨_, rfl, _, _, rfl, rfl, div_ok (by decide) (by decide), _, rfl, _, _, rfl, rfl, m0, ?_⟩
    refine k _ _ _ ⟨m, _, rfl, rfl, Int.emod_nonneg _ (by omega), Int.emod_lt_of_pos _ m0⟩ (fun a o na e => by rw [← hH2, upd_ne na]; exact e) ⟨x, b, q + 1, hp2, hx, hb0, hb1, by omega, by omega⟩ (.int _)
end Tq
namespace Tq
open PySem PySem.Spec PyProof.Rows L2
theorem floors_lenB {b : Int} (b0 : 0 < b) {k : Nat} (bb : Bd k b) (a : Int) : (floorsE a b).length ≤ 8 * k + 1 := by
  have m0 := Int.emod_nonneg a (show b ≠ 0 by omega)
  have m1 := Int.emod_lt_of_pos a b0
  rw [floors_cons (p := a) (by omega), List.length_cons]
  have h : a % b < 2 ^ (4 * k) := by
    have h1 : b.natAbs < 10 ^ k := bb
    have h2 : (10 : Nat) ^ k ≤ 16 ^ k := Nat.pow_le_pow_left (by decide) k
    have h3 : (16 : Nat) ^ k = 2 ^ (4 * k) := by rw [Nat.pow_mul]
    have h4 : ((2 ^ (4 * k) : Nat) : Int) = (2 : Int) ^ (4 * k) := by rw [Int.natCast_pow]; rfl
    rw [← h4]
    omega
  have := floors_len (4 * k) b (a % b) m0 m1 h
  omega
end Tq
namespace Tq
theorem stL_itS (d : Int) : ∀ (n : Nat) (s x : Int × Int), x ∈ stL d n s → ∃ k, x = itS d k s
  | 0, _, _, h => by cases h
  | n + 1, s, x, h => by
    rcases List.mem_cons.mp h with rfl | h
    · exact ⟨0, rfl⟩
    · obtain ⟨k, hk⟩ := stL_itS d n (stp d s) x h
      exact ⟨k + 1, hk⟩
end Tq
namespace Tq
theorem tmS_zero (p d q : Int) : tmS p d q 0 = [] := by
  unfold tmS
  split
  · rfl
  · rfl
end Tq
namespace Tq
/-- the terms' bound, told by the three numbers as scaled -/
theorem tmS_bdM {k m : Nat} {p d q : Int} (h : SB k (p, d, q)) (hk : k + 1 ≤ m) (h1 : Bd m (scl p d q).1) (h2 : Bd m (scl p d q).2.2) (h3 : Bd m (isq (scl p d q).2.1)) (n : Nat) : ∀ t ∈ tmS p d q n, Bd (m + 2) t := by
  intro t ht
  have y1 : (10 : Nat) ^ (m + 2) = 100 * 10 ^ m := by rw [Nat.pow_add, Nat.mul_comm]
  have x0 : 1 ≤ (10 : Nat) ^ m := Nat.one_le_pow _ _ (by decide)
  unfold tmS at ht
  split at ht
  · obtain ⟨b1, b2⟩ := frS_bd h
    have b1 := b1.mono hk
    have b2 := b2.mono (show k ≤ m by omega)
    have := floors_bd _ _ _ (Nat.le_refl _) (Int.le_of_lt (frS_ok (p := p) (d := d) h.2.1).1) t (List.mem_of_mem_take ht)
    dsimp only at this b1 b2
    unfold Bd at *
    omega
  · rename_i c
    have hd0 : 0 ≤ d := h.1
    have hq0 : q ≠ 0 := h.2.1
    obtain ⟨s1, s2, s3, s4⟩ := scl_ok (p := p) (q := q) ⟨hd0, c⟩ hq0
    unfold teL at ht
    obtain ⟨x, hx, rfl⟩ := List.mem_map.mp ht
    obtain ⟨j, hj⟩ := stL_itS _ _ _ _ hx
    have ok := (itS_ok s1 j s2).1.1
    rw [← hj] at ok
    have r0 := s1.ok.1
    unfold Bd at h1 h2 h3 ⊢
    rw [y1]
    generalize (10 : Nat) ^ m = X at *
    have key := itS_bs (B := X) (C := 4 * X) s1 (by omega) (by omega) j s2 ⟨by dsimp only; omega, by dsimp only; omega⟩
    rw [← hj] at key
    obtain ⟨⟨k1, k2⟩, k3, k4⟩ := key
    have hf := flo_le (p := x.1) (q := x.2) s1.1 ok
    try dsimp only at hf ⊢
    omega
theorem tmS_bd40 {p d q : Int} (h : SB 31 (p, d, q)) (hq : Bd 7 q) (n : Nat) : ∀ t ∈ tmS p d q n, Bd 40 t := by
  have hs := scl_bd h
  have key : Bd 38 (scl p d q).1 ∧ Bd 38 (scl p d q).2.2 ∧ Bd 48 (scl p d q).2.1 := by
    obtain ⟨h0, q0, bp, bd, bq⟩ := h
    dsimp only at *
    unfold scl
    split
    · exact ⟨bp.mono (by decide), hq.mono (by decide), bd.mono (by decide)⟩
    · exact ⟨(bp.mul hq.abs).mono (by decide), (hq.mul hq.abs).mono (by decide), ((bd.mul hq).mul hq).mono (by decide)⟩
  exact tmS_bdM h (by decide) key.1 key.2.1 ((isq_half (k := 12) hs.1 key.2.2).mono (by decide)) n
end Tq
namespace Tq
/-- the floor by its bounds -/
theorem flo_uniq {p d q t : Int} (h : (0 < q ∧ 0 ≤ p - t * q + isq d ∧ p - t * q + isq d < q) ∨ (NSq d ∧ q < 0 ∧ p - t * q + isq d + 1 ≤ 0 ∧ q < p - t * q + isq d + 1)) : flo p d q = t := by
  unfold flo
  rcases h with ⟨q0, h1, h2⟩ | ⟨nn, q0, h1, h2⟩
  · rw [if_pos q0]
    have e : p + isq d = (p - t * q + isq d) + q * t := by grind
    rw [e, Int.add_mul_ediv_left _ _ (by omega), Int.ediv_eq_zero_of_lt h1 h2, Int.zero_add]
  · rw [if_neg (by omega), if_neg nn.2]
    have e : -p - isq d - 1 = (-(p - t * q + isq d) - 1) + (-q) * t := by grind
    rw [e, Int.add_mul_ediv_left _ _ (by omega), Int.ediv_eq_zero_of_lt (by omega) (by omega), Int.zero_add]
theorem isq_scale {d e : Int} (hd : 0 ≤ d) (he : 0 < e) : e * isq d ≤ isq (d * e * e) ∧ isq (d * e * e) < e * (isq d + 1) := by
  obtain ⟨r0, r1, r2⟩ := isq_ok hd
  have h0 : 0 ≤ d * e * e := Int.mul_nonneg (Int.mul_nonneg hd (by omega)) (by omega)
  obtain ⟨s0, s1, s2⟩ := isq_ok h0
  generalize isq (d * e * e) = s at *
  generalize isq d = r at *
  have e0 : 0 < e * e := Int.mul_pos he he
  have x1 : e * e * (r * r) ≤ e * e * d := Int.mul_le_mul_of_nonneg_left r1 (by omega)
  have x2 : e * e * d < e * e * ((r + 1) * (r + 1)) := Int.mul_lt_mul_of_pos_left r2 e0
  have y0 : e * e * d = d * e * e := by grind
  have y1 : e * e * (r * r) = (e * r) * (e * r) := by grind
  have y2 : e * e * ((r + 1) * (r + 1)) = (e * (r + 1)) * (e * (r + 1)) := by grind
  have n0 : 0 ≤ e * r := Int.mul_nonneg (by omega) r0
  constructor
  · rcases Int.lt_or_le s (e * r) with z | z
    · have := sq_ge (x := e * r) (r := s + 1) (by omega) (by omega); omega
    · exact z
  · rcases Int.lt_or_le s (e * (r + 1)) with z | z
    · exact z
    · have := sq_ge (x := s) (r := e * (r + 1)) (Int.mul_nonneg (by omega) (by omega)) z; omega
theorem flo_scale {p d q e : Int} (nn : NSq d) (hq : q ≠ 0) (he : 0 < e) (nn2 : NSq (d * e * e)) : flo (p * e) (d * e * e) (q * e) = flo p d q := by
  obtain ⟨i1, i2⟩ := isq_scale nn.1 he
  refine flo_uniq ?_
  have ea : p * e - flo p d q * (q * e) = e * aft p d q := by unfold aft; grind
  rw [ea]
  rcases Int.lt_or_le q 0 with w | w
  · obtain ⟨a1, a2⟩ := aft_neg (p := p) nn w
    refine .inr ⟨nn2, Int.mul_neg_of_neg_of_pos w he, ?_, ?_⟩
    · have : e * (aft p d q + isq d + 1) ≤ 0 := Int.mul_nonpos_of_nonneg_of_nonpos (by omega) a1
      have e2 : e * (aft p d q + isq d + 1) = e * aft p d q + e * (isq d + 1) := by grind
      omega
    · have : e * (q + 1) ≤ e * (aft p d q + isq d + 1) := Int.mul_le_mul_of_nonneg_left (by omega) (by omega)
      have e2 : e * (aft p d q + isq d + 1) = e * aft p d q + e * isq d + e := by grind
      have e3 : e * (q + 1) = q * e + e := by grind
      omega
  · obtain ⟨a1, a2⟩ := aft_pos (p := p) (d := d) (q := q) (by omega)
    refine .inl ⟨Int.mul_pos (by omega) he, ?_, ?_⟩
    · have : 0 ≤ e * (aft p d q + isq d) := Int.mul_nonneg (by omega) a1
      have e2 : e * (aft p d q + isq d) = e * aft p d q + e * isq d := by grind
      omega
    · have : e * (aft p d q + isq d + 1) ≤ e * q := Int.mul_le_mul_of_nonneg_left (by omega) (by omega)
      have e2 : e * (aft p d q + isq d + 1) = e * aft p d q + e * (isq d + 1) := by grind
      have e3 : e * q = q * e := Int.mul_comm _ _
      omega
theorem flo_scl {p d q : Int} (nn : NSq d) (hq : q ≠ 0) : flo (scl p d q).1 (scl p d q).2.1 (scl p d q).2.2 = flo p d q := by
  have h := (scl_ok (p := p) nn hq).1
  unfold scl at *
  split
  · rfl
  · rename_i c
    rw [if_neg c] at h
    have he : 0 < (q.natAbs : Int) := by omega
    have e1 : d * q * q = d * q.natAbs * q.natAbs := by
      rcases Int.natAbs_eq q with z | z <;> generalize q.natAbs = e at * <;> subst z <;> grind
    dsimp only at h ⊢
    rw [e1] at h ⊢
    exact flo_scale nn hq he h
theorem flo_frac {p d q : Int} (hq : q ≠ 0) (c : isq d * isq d = d) : flo p d q = (frS p d q).1 / (frS p d q).2 := by
  obtain ⟨h1, h2, h3, _⟩ := frS_ok (p := p) (d := d) hq
  generalize (frS p d q).1 = A at *
  generalize (frS p d q).2 = B at *
  have m0 := Int.emod_nonneg A (show B ≠ 0 by omega)
  have m1 := Int.emod_lt_of_pos A h1
  have m2 := Int.mul_ediv_add_emod A B
  generalize A / B = t at *
  generalize A % B = r at *
  subst m2
  -- q (B t + r) = B (p + root)
  have e : B * (p + isq d - t * q) = q * r := by grind
  unfold flo
  rcases Int.lt_or_le 0 q with w | w
  · rw [if_pos w]
    have h4 : 0 ≤ p + isq d - t * q := by
      rcases Int.lt_or_le (p + isq d - t * q) 0 with z | z
      · have := Int.mul_neg_of_pos_of_neg h1 z
        have := Int.mul_nonneg (Int.le_of_lt w) m0
        omega
      · exact z
    have h5 : p + isq d - t * q < q := by
      rcases Int.lt_or_le (p + isq d - t * q) q with z | z
      · exact z
      · have x1 : B * q ≤ B * (p + isq d - t * q) := Int.mul_le_mul_of_nonneg_left z (by omega)
        have x2 : q * (r + 1) ≤ q * B := Int.mul_le_mul_of_nonneg_left (by omega) (by omega)
        have x3 : q * (r + 1) = q * r + q := by grind
        have x4 : B * q = q * B := Int.mul_comm _ _
        omega
    have e2 : p + isq d = (p + isq d - t * q) + q * t := by grind
    rw [e2, Int.add_mul_ediv_left _ _ (by omega), Int.ediv_eq_zero_of_lt h4 h5, Int.zero_add]
  · rw [if_neg (by omega), if_pos c]
    have h4 : p + isq d - t * q ≤ 0 := by
      rcases Int.lt_or_le 0 (p + isq d - t * q) with z | z
      · have := Int.mul_pos h1 z
        have := Int.mul_nonpos_of_nonpos_of_nonneg w m0
        omega
      · exact z
    have h5 : q < p + isq d - t * q := by
      rcases Int.lt_or_le q (p + isq d - t * q) with z | z
      · exact z
      · have x1 : B * (p + isq d - t * q) ≤ B * q := Int.mul_le_mul_of_nonneg_left z (by omega)
        have x2 : q * B ≤ q * (r + 1) := Int.mul_le_mul_of_nonpos_left (by omega) (by omega)
        have x3 : q * (r + 1) = q * r + q := by grind
        have x4 : B * q = q * B := Int.mul_comm _ _
        omega
    have e2 : -p - isq d - 0 = -(p + isq d - t * q) + (-q) * t := by grind
    rw [e2, Int.add_mul_ediv_left _ _ (by omega), Int.ediv_eq_zero_of_lt (by omega) (by omega), Int.zero_add]
theorem tmS_head {p d q : Int} (hd : 0 ≤ d) (hq : q ≠ 0) {n : Nat} (hn : n ≠ 0) : (tmS p d q n)[0]? = some (flo p d q) := by
  unfold tmS
  split
  · rename_i c
    rw [floors_cons (by have := (frS_ok (p := p) (d := d) hq).1; omega), ← flo_frac hq c]
    cases n with
    | zero => exact absurd rfl hn
    | succ n => rfl
  · rename_i c
    cases n with
    | zero => exact absurd rfl hn
    | succ n => exact congrArg some (flo_scl ⟨hd, c⟩ hq)
end Tq

set_option maxRecDepth 100000
set_option maxHeartbeats 4000000
/-! text * number for the drawn great numbers -/
namespace Tq
open PySem PySem.Spec PyProof.Rows L2
def repU (x : Str) (n : Int) : Str := ⟨(List.replicate n.toNat x.cps).foldl (· ++ ·) #[]⟩
theorem repu_size (c : Array Nat) : ∀ (m : Nat) (a : Array Nat), ((List.replicate m c).foldl (· ++ ·) a).size = a.size + m * c.size
  | 0, a => by rw [Nat.zero_mul]; rfl
  | m + 1, a => by
    rw [List.replicate_succ, List.foldl_cons, repu_size c m, Array.size_append, Nat.succ_mul]; omega
theorem repU_len (x : Str) (n : Int) : (repU x n).length = n.toNat * x.length := by
  show ((List.replicate n.toNat x.cps).foldl (· ++ ·) #[]).size = _
  rw [repu_size]
  show 0 + _ = _
  rw [Nat.zero_add]; rfl
def rRepU : R2 := fun x y H Q => ∃ s n, x = .str s ∧ y = .int n ∧ 0 ≤ n ∧ n ≤ 1000 ∧ s.length ≤ 1000 ∧ Q (.str (repU s n)) H
theorem op_repU {X : Cx} : OpR X (binaryOp .Mult) rRepU := by
  intro pins s σ H x y v u Q I rx ry h
  obtain ⟨z, n, rfl, rfl, n0, n1, hz, q⟩ := h
  obtain ⟨t, rfl⟩ := rx
  obtain ⟨t', rfl⟩ := ry
  refine P.mul_str (by rw [decide_eq_false (by omega), decide_eq_false (by omega)]; rfl) (fun h1 h2 => ?_) (fun h1 h2 => ?_) ?_
  · have h3 : (1000 : Int) ≤ (2 ^ 63 - 1) / n := by
      refine (Int.le_ediv_iff_mul_le (by omega)).mpr ?_
      have : 1000 * n ≤ 1000 * 1000 := by omega
      exact Int.le_trans this (by decide)
    omega
  · have h3 : z.length * n.toNat ≤ 1000 * 1000 := Nat.mul_le_mul hz (by omega)
    have h4 : z.length * n.toNat ≤ sizeLine := Nat.le_trans h3 (by decide)
    show decide (z.length * n.toNat > sizeLine) = false
    exact decide_eq_false (by omega)
  · split
    · have e : n = 0 := by omega
      subst e
      exact ⟨by decide, .str (repU z 0), H, I.tok _, ⟨_, rfl⟩, q⟩
    · split
      · next h1 h2 =>
        rw [Bool.or_eq_true] at h2
        have e : repU z n = z := by
          rcases h2 with h2 | h2
          · have : n = 1 := by simpa using h2
            subst this
            show (⟨(#[] : Array Nat) ++ z.cps⟩ : Str) = z
            rw [Array.empty_append]
          · have h0 : z.cps = #[] := by
              have : z.cps.size = 0 := by simpa [Str.length] using h2
              exact Array.eq_empty_of_size_eq_zero this
            unfold repU
            rw [h0]
            have : ∀ m : Nat, (List.replicate m (#[] : Array Nat)).foldl (· ++ ·) #[] = #[] := fun m => by
              induction m with
              | zero => rfl
              | succ m ih => rw [List.replicate_succ, List.foldl_cons]; exact ih
            rw [this]
            obtain ⟨c⟩ := z
            exact congrArg Str.mk h0.symm
        rw [e] at q
        exact ⟨.str z, H, I, ⟨_, rfl⟩, q⟩
      · refine ⟨?_, .str (repU z n), H, I.tok _, ⟨_, rfl⟩, q⟩
        have h4 := repU_len z n
        unfold repU at h4
        rw [h4]
        exact Nat.le_trans (Nat.mul_le_mul (show n.toNat ≤ 1000 by omega) hz) (by decide)

section
variable {C : Ct} {y : S} {ta tb : TE} {Q : Z → S → Prop}
theorem wE_repU (w : wE C ta y fun z y1 => wE C tb y1 fun z' y2 => ∃ s n, z = .d (.str s) ∧ z' = .d (.int n) ∧ (0 ≤ n ∧ n ≤ 1000 ∧ s.length ≤ 1000) ∧ Q (.d (.str (repU s n))) y2) : wE C (tOp rRepU ta tb) y Q := by
  refine wE_op (res := fun d e r => ∃ s n, d = .str s ∧ e = .int n ∧ (0 ≤ n ∧ n ≤ 1000 ∧ s.length ≤ 1000) ∧ r = .str (repU s n)) ?_ (wE_mono w fun z y1 h => wE_mono h fun z' y2 ⟨s, n, e1, e2, c, q⟩ => ⟨_, _, _, e1, e2, ⟨s, n, rfl, rfl, c, rfl⟩, q⟩)
  rintro M H x y d e r Q _ rx ry ⟨s, n, rfl, rfl, ⟨c1, c2, c3⟩, rfl⟩ k
  cases rp_str rx
  cases rp_int ry
  exact ⟨s, n, rfl, rfl, c1, c2, c3, k _ H (fun _ _ e => e) (.str _)⟩
end

theorem great_text : ∀ k < 12, ∃ v, PySem.intText? ((Str.ofString "1") ++ repU (Str.ofString "0") (29 - (k : Nat))) = some v ∧ 10 ^ 17 ≤ v ∧ v ≤ 10 ^ 29 ∧ (Str.ofString "1" ++ repU (Str.ofString "0") (29 - (k : Nat))).length ≤ 640 := by
  have h : ∀ k < 12, PySem.intText? ((Str.ofString "1") ++ repU (Str.ofString "0") (29 - (k : Nat))) = some (10 ^ (29 - k)) ∧ (Str.ofString "1" ++ repU (Str.ofString "0") (29 - (k : Nat))).length ≤ 640 ∧ (10 : Int) ^ 17 ≤ 10 ^ (29 - k) ∧ (10 : Int) ^ (29 - k) ≤ 10 ^ 29 := by decide +kernel
  intro k hk
  obtain ⟨h1, h2, h3, h4⟩ := h k hk
  exact ⟨_, h1, h3, h4, h2⟩
end Tq

set_option maxRecDepth 100000
set_option maxHeartbeats 4000000
namespace Tq
open PySem PySem.Spec PyProof.Rows L2
/-! ### repr of data of any kind: dicts at any depth, whole numbers of up to 3000 figures -/
mutual
def sw2 : D → Bool
  | .none | .bool _ | .str _ => true
  | .int i => decide (i.natAbs.log2 < 12000)
  | .list xs | .tuple xs => sw2A xs
  | .dict kvs => sw2K kvs
def sw2A : List D → Bool
  | [] => true
  | x :: xs => sw2 x && sw2A xs
def sw2K : List (D × D) → Bool
  | [] => true
  | (k, v) :: r => scD k && sw2 k && sw2 v && sw2K r
end
theorem big_small {i : Int} (h : i.natAbs.log2 < 12000) : i.natAbs < 10 ^ 4300 :=
  Nat.lt_of_lt_of_le (lt_of_log2 (Nat.lt_trans h (by decide))) pow_lo
section
variable {prog : Program} {w : World} {A : Around} {E : Value → Shared → Prop} {s : Shared}
theorem big_code {a : Int} {t : Tok} (ha : a.natAbs < 10 ^ 4300) : GivesAt (fun s => s.heap.NoDigits) (Builtin.«int.__repr__» ⟨[.int a t], []⟩) (.str (toString a)) := by
  intro prog w A R s hn hq
  unfold Builtin.«int.__repr__»
  show wpAny _ _ (do let r ← Builtin.overDigitLimit? a; _) _ _ s
  refine wpAny_bind (overDigitLimit_any hn (fun _ => ?_) fun hge => absurd ha (by omega))
  exact wpAny_bind (wpAny_mkStr (wpAny_pure hq.2) hq.1)
theorem big_fits {a : Int} (ha : a.natAbs < 10 ^ 4300) : (Str.ofString (toString a)).length ≤ sizeLine := int_text_fits10 ha
theorem big_obj {a : Int} {t : Tok} {Q : Value → Shared → Prop} (hn : s.heap.NoDigits) (ha : a.natAbs < 10 ^ 4300) (h : Q (.str (toString a) s.toks) { s with toks := s.toks + 1 }) : wpAny (model prog w) A (pyReprObj (.int a t)) Q E s := by
  have hv : ([Value.int a t] : List Value).any Value.onHeap = false := rfl
  unfold pyReprObj
  simp only [cRoomFor, hv, Bool.false_eq_true, if_false, pure_bind]
  refine wpAny_bind (wpAny_specialOf (T := "int") (typeIs_int s a t) (PySem.F.slot_int_repr).lookup ?_)
  refine wpAny_bind (m := callSpecialIfBound? (.int a t) _) (wpAny_callSpecialIfBound?_slot (T := "int") (typeIs_int s a t) PySem.F.slot_int_repr (call_givesAt PySem.F.slot_int_repr (typeIs_int s a t) PySem.F.entry_int_repr (PySem.F.args_int_repr_1 _) (big_code ha) hn ⟨big_fits ha, ?_⟩))
  exact wpAny_bind (wpAny_isInstance (T := "str") (b := true) rfl PySem.isSubtype_str_str (wpAny_pure h))
end
end Tq
namespace Tq
open PySem PySem.Spec PyProof.Rows L2
section
variable {prog : Program} {w : World} {A : Around} {E : Value → Shared → Prop} {s : Shared}
theorem big_k {a : Int} {t : Tok} {bs : List Addr} {h₀ : Heap} {d : Nat} (hn : h₀.NoDigits) (ha : a.natAbs < 10 ^ 4300) : ReprK prog w bs h₀ d (.int a t) (toString a) := by
  intro base hb A g E s Q hg hcl hu hk hQ
  have hb' : base ≤ sizeLine := by omega
  rw [pyReprUnder_leaf (v := .int a t) hb' (fun _ e => nomatch e)]
  unfold pyRepr
  exact wpAny_bind (big_obj (hn.keeps hk) ha (wpAny_pure (hQ s.heap _ fun _ _ e => e)))
end
mutual
theorem rk {X : Cx} {pins : List (Addr × Obj)} {σ : St} {H : Hp} {s : Shared} (I : Inv X pins σ H s) (hn : s.heap.NoDigits) : ∀ (d : D) (v : V) (u : Value), Rp X.K M0 H v d → RelV v u → sw2 d = true → d.shown.length ≤ sizeLine →
    ∃ as bs, Reads s.heap u d as ∧ ReadAtMost s.heap d.depth bs ∧ ReprK X.prog X.w bs s.heap d.depth u d.shown
  | .none, _, _, r, rv, _, _ => by
    cases r
    cases rv
    exact ⟨[], [], .none, (fun _ h => nomatch h), .of_is ReprIs.none _ _ _⟩
  | .bool b, _, _, r, rv, _, _ => by
    cases r
    cases rv
    exact ⟨[], [], .bool b, (fun _ h => nomatch h), .of_is (ReprIs.bool b) _ _ _⟩
  | .int i, _, _, r, rv, hs, _ => by
    cases r
    obtain ⟨t, rfl⟩ := rv
    exact ⟨[], [], .int i t, (fun _ h => nomatch h), big_k hn (big_small (of_decide_eq_true hs))⟩
  | .str x, _, _, r, rv, _, hz => by
    cases r
    obtain ⟨t, rfl⟩ := rv
    exact ⟨[], [], .str x t, (fun _ h => nomatch h), .of_is (ReprIs.str x t hz) _ _ _⟩
  | .list ds, _, _, r, rv, hs, hz => by
    cases r with
    | @lst a vs _ h1 h2 =>
      cases rv
      obtain ⟨its, rvs, ⟨o, n, ho, hc, _, hd⟩, _⟩ := I.list h1.sq
      have hz2 : (listText (PyData.shownAll ds)).length ≤ sizeLine := hz
      obtain ⟨as, bs, ra, hb, hk⟩ := rkA I hn ds vs its h2 rvs hs (fun t ht => Nat.le_trans (listText_mem_le ht) hz2)
      have rr : Reads s.heap (.ref a) (.list ds) (a :: as) := .list ho hc hd ra
      have na : a ∉ bs := not_mem_of_deeper rr (Nat.lt_succ_self _) hb
      refine ⟨_, a :: bs, rr, ReadAtMost.cons rr (Nat.le_succ _) hb, ?_⟩
      cases its with
      | nil =>
        cases ra
        exact ReprK.listEmpty ho hc hd
      | cons x l => exact ReprK.list ho hc hd na (by simpa using hk.length_eq) (fun i y e => hk.item i y (by simpa using e))
  | .tuple ds, _, _, r, rv, hs, hz => by
    cases r with
    | @tup a vs _ h1 h2 =>
      cases rv
      obtain ⟨its, rvs, ⟨o, ho, hc, n, hd⟩, _⟩ := I.tuple h1.sq
      have hz2 : (tupleText (PyData.shownAll ds)).length ≤ sizeLine := hz
      obtain ⟨as, bs, ra, hb, hk⟩ := rkA I hn ds vs its h2 rvs hs (fun t ht => Nat.le_trans (tupleText_mem_le ht) hz2)
      have rr : Reads s.heap (.ref a) (.tuple ds) as := .tuple ho hc hd ra
      have na : a ∉ bs := not_mem_of_deeper rr (Nat.lt_succ_self _) hb
      exact ⟨_, a :: bs, rr, ReadAtMost.cons rr (Nat.le_succ _) hb, ReprK.tuple ho hc hd na hk⟩
  | .dict kvs, _, _, r, rv, hs, hz => by
    cases r with
    | @dic a ks _ _ h k =>
      cases rv
      obtain ⟨_, nsm, vs, kv, o, es, ep, ho, ex, hdt, _, pr, _⟩ := (show ObjOk X.prog X.w H s.heap a (.dK ks) from I.hok a _ h)
      have hz2 : (dictText (PyData.shownKv kvs)).length ≤ sizeLine := hz
      obtain ⟨as, as', bs, bs', r1, r2, m1, m2, k1, k2⟩ := rkV I hn kvs ks vs es.toList k kv pr hs
        (fun t ht => let ⟨p, hp, hl⟩ := PyData.shownKv_key_le kvs t ht; Nat.le_trans hl (Nat.le_trans (dictText_mem_le hp) hz2))
        (fun t ht => let ⟨p, hp, hl⟩ := PyData.shownKv_val_le kvs t ht; Nat.le_trans hl (Nat.le_trans (dictText_mem_le hp) hz2))
      have rr : Reads s.heap (.ref a) (.dict kvs) _ := .dict ho ex.1 hdt r1 r2
      have hb : ReadAtMost s.heap (PyData.depthKv kvs) (bs ++ bs') := (m1.mono (PyData.depthAll_keys_le kvs)).append (m2.mono (PyData.depthAll_vals_le kvs))
      have na : a ∉ bs ++ bs' := not_mem_of_deeper rr (Nat.lt_succ_self _) hb
      have nsy : (a == sysModules) = false := by simpa using nsm
      refine ⟨_, a :: (bs ++ bs'), rr, ReadAtMost.cons rr (Nat.le_succ _) hb, ?_⟩
      show ReprK _ _ _ _ (PyData.depthKv kvs + 1) _ (dictText (PyData.shownKv kvs))
      rw [PyData.shownKv_eq]
      exact ReprK.dict ho ex.1 hdt nsy na (ReprEntriesK.of_two es.toList _ _ (k1.more_le (fun b hb => List.mem_append_left _ hb) (PyData.depthAll_keys_le kvs)) (k2.more_le (fun b hb => List.mem_append_right _ hb) (PyData.depthAll_vals_le kvs)))
theorem rkA {X : Cx} {pins : List (Addr × Obj)} {σ : St} {H : Hp} {s : Shared} (I : Inv X pins σ H s) (hn : s.heap.NoDigits) : ∀ (ds : List D) (vs : List V) (us : List Value), RpA X.K M0 H vs ds → Vals vs us → sw2A ds = true → (∀ t ∈ PyData.shownAll ds, t.length ≤ sizeLine) →
    ∃ as bs, ReadsAll s.heap us ds as ∧ ReadAtMost s.heap (PyData.depthAll ds) bs ∧ ReprAllK X.prog X.w bs s.heap (PyData.depthAll ds) us (PyData.shownAll ds)
  | [], _, _, r, rv, _, _ => by
    cases r
    cases rv
    exact ⟨[], [], .nil, (fun _ h => nomatch h), .nil⟩
  | d :: ds, _, _, r, rv, hs, hz => by
    cases r with
    | cons r1 r2 =>
      cases rv with
      | cons v1 v2 =>
        have hs : (sw2 d && sw2A ds) = true := hs
        rw [Bool.and_eq_true] at hs
        obtain ⟨as, bs, q1, q2, q3⟩ := rk I hn d _ _ r1 v1 hs.1 (hz _ List.mem_cons_self)
        obtain ⟨as', bs', q4, q5, q6⟩ := rkA I hn ds _ _ r2 v2 hs.2 (fun t ht => hz t (List.mem_cons_of_mem _ ht))
        exact ⟨_, bs ++ bs', .cons q1 q4, (q2.mono (Nat.le_max_left _ _)).append (q5.mono (Nat.le_max_right _ _)), .cons ((q3.more fun b hb => List.mem_append_left _ hb).level_le (Nat.le_max_left _ _)) (q6.more_le (fun b hb => List.mem_append_right _ hb) (Nat.le_max_right _ _))⟩
theorem rkV {X : Cx} {pins : List (Addr × Obj)} {σ : St} {H : Hp} {s : Shared} (I : Inv X pins σ H s) (hn : s.heap.NoDigits) : ∀ (kvs : List (D × D)) (ks : List (Key × V)) (vs : List (Key × Value)) (es : List DictEntry), RpK X.K M0 H ks kvs → KV ks vs → Pairs (mixKind X.prog X.w) es vs → sw2K kvs = true →
    (∀ t ∈ PyData.shownAll (kvs.map (·.1)), t.length ≤ sizeLine) → (∀ t ∈ PyData.shownAll (kvs.map (·.2)), t.length ≤ sizeLine) →
    ∃ as as' bs bs', ReadsAll s.heap (es.map (·.key)) (kvs.map (·.1)) as ∧ ReadsAll s.heap (es.map (·.val)) (kvs.map (·.2)) as' ∧ ReadAtMost s.heap (PyData.depthAll (kvs.map (·.1))) bs ∧ ReadAtMost s.heap (PyData.depthAll (kvs.map (·.2))) bs' ∧
      ReprAllK X.prog X.w bs s.heap (PyData.depthAll (kvs.map (·.1))) (es.map (·.key)) (PyData.shownAll (kvs.map (·.1))) ∧ ReprAllK X.prog X.w bs' s.heap (PyData.depthAll (kvs.map (·.2))) (es.map (·.val)) (PyData.shownAll (kvs.map (·.2)))
  | [], _, _, _, r, kv, pr, _, _, _ => by
    cases r
    cases kv
    cases pr
    exact ⟨[], [], [], [], .nil, .nil, (fun _ h => nomatch h), (fun _ h => nomatch h), .nil, .nil⟩
  | (kd, d) :: kvs, _, _, _, r, kv, pr, hs, hz1, hz2 => by
    cases r with
    | @cons k v _ _ _ a b =>
      cases kv with
      | @cons _ kw _ _ r1 r2 =>
        cases pr with
        | @cons e _ es _ p1 p2 p3 =>
          have hs : (((scD (kD k) && sw2 (kD k)) && sw2 d) && sw2K kvs) = true := hs
          rw [Bool.and_eq_true, Bool.and_eq_true, Bool.and_eq_true] at hs
          obtain ⟨⟨⟨_, s1⟩, s2⟩, s3⟩ := hs
          obtain ⟨as, as', bs, bs', q1, q2, m1, m2, k1, k2⟩ := rkV I hn kvs _ _ _ b r2 p3 s3 (fun t ht => hz1 t (List.mem_cons_of_mem _ ht)) (fun t ht => hz2 t (List.mem_cons_of_mem _ ht))
          have e1 : k = kw.1 := r1.1
          have rv : RelV v kw.2 := r1.2
          obtain ⟨av, bv, u1, u2, u3⟩ := rk I hn d v kw.2 a rv s2 (hz2 _ List.mem_cons_self)
          rw [← p2] at u1 u3
          have rk1 : Reads s.heap e.key (kD k) [] ∧ ReprK X.prog X.w [] s.heap (kD k).depth e.key (kD k).shown := by
            rw [← e1, mixKind_is] at p1
            have hz0 : (kD k).shown.length ≤ sizeLine := hz1 _ List.mem_cons_self
            rcases keyIs_shape p1 with ⟨i, t, z1, z2⟩ | ⟨x, t, z1, z2⟩
            · subst z1
              rw [z2]
              exact ⟨.int i t, big_k hn (big_small (of_decide_eq_true s1))⟩
            · subst z1
              rw [z2]
              exact ⟨.str x t, .of_is (ReprIs.str x t hz0) _ _ _⟩
          refine ⟨_, _, [] ++ bs, bv ++ bs', .cons rk1.1 q1, .cons u1 q2, ?_, (u2.mono (Nat.le_max_left _ _)).append (m2.mono (Nat.le_max_right _ _)), .cons (rk1.2.more (fun b hb => nomatch hb) |>.level_le (Nat.le_max_left _ _)) (k1.more_le (fun b hb => List.mem_append_right _ hb) (Nat.le_max_right _ _)), .cons ((u3.more fun b hb => List.mem_append_left _ hb).level_le (Nat.le_max_left _ _)) (k2.more_le (fun b hb => List.mem_append_right _ hb) (Nat.le_max_right _ _))⟩
          exact m1.mono (Nat.le_max_right _ _)
end
end Tq
namespace Tq
open PySem PySem.Spec PyProof.Rows L2
end Tq
namespace Tq
open PySem PySem.Spec PyProof.Rows L2
section
variable {P : Program} {w : World} {K : Fg} {mg mb : Str → Option Value} {CX : CXT} {k : Nat} {fa a : Addr} {fd : FuncData} {x : Str} {sp : Sp} {s₁ : Shared} {vs : List Value} {ns : List Int}
end
end Tq
namespace Tq
open PySem PySem.Spec PyProof.Rows L2
/-- what may be shown -/
structure ShX (d : D) : Prop where
  sw : sw2 d = true
  dp : d.depth ≤ 60
  ln : d.shown.length ≤ sizeLine
end Tq

set_option maxRecDepth 100000
set_option maxHeartbeats 4000000
namespace Tq
open PySem PySem.Spec PyProof.Rows L2
/-! ### how long the text of data is that holds great whole numbers -/
structure Shx (b k : Nat) (d : D) : Prop where
  sw : sw2 d = true
  dp : d.depth ≤ k
  ln : d.shown.length ≤ b
theorem Shx.ok {b k : Nat} {d : D} (h : Shx b k d) (hb : b ≤ 10000000 := by decide) (hk : k ≤ 60 := by decide) : ShX d :=
  ⟨h.sw, Nat.le_trans h.dp hk, Nat.le_trans h.ln (Nat.le_trans hb (by decide))⟩
theorem Shx.mono {b k b' k' : Nat} {d : D} (h : Shx b k d) (hb : b ≤ b') (hk : k ≤ k') : Shx b' k' d := ⟨h.sw, Nat.le_trans h.dp hk, Nat.le_trans h.ln hb⟩
end Tq

set_option maxRecDepth 100000
set_option maxHeartbeats 2000000
/-! Slots with labels, a store of things that may change, exceptions -/
namespace Ux
open PySem PySem.Spec PyProof.Rows L2 Tq
abbrev St := L2.St
abbrev D := PyData
inductive Z where
  | d (d : D)
  | lab (a : Addr)
  | tup (zs : List Z)
  | lst (zs : List Z)
  | exc (a dd : Addr) (z : Z)
  | ob (C : Addr) (ks : List Str) (zs : List Z)
  | nm (f : Str) (z : Z)
/-- what an exception's field is called, and holds -/
def keyZ : Z → Str
  | .nm f _ => f
  | _ => "found"
def valZ : Z → Z
  | .nm _ z => z
  | z => z
inductive Cell where
  | lst (zs : List Z)
  | ins (C : Addr) (ks : List Str) (zs : List Z)
  | dic (kvs : List (Key × Z))
  | pu (n : Nat)
  | ro (c : Cell)
def Cell.isRo : Cell → Bool
  | .ro _ => true
  | _ => false
structure Cl where
  a : Addr
  own : Bool
  c : Cell
structure S where
  l : List (Option Z)
  m : List Cl
def S.set (y : S) (i : Nat) (z : Option Z) : S := ⟨y.l.set i z, y.m⟩
structure Ex where
  cls : Value
  found : Z
structure Ct where
  K : Fg
  W : WX := fun _ _ _ _ => False
  ex : Ex → S → Prop := fun _ _ => False
structure Fr where
  H0 : Hp
  S0 : Addr → Prop
  M0 : Addr → Prop
  st : Bool
def Dom (m : List Cl) (a : Addr) : Prop := ∃ e ∈ m, e.a = a
/-- what may be written -/
def DomW (m : List Cl) (a : Addr) : Prop := ∃ e ∈ m, e.a = a ∧ e.c.isRo = false
def Mv (F : Fr) (_ : St) (y : S) (a : Addr) : Prop := F.M0 a ∨ Dom y.m a
mutual
inductive Rw (K : Fg) (M : Addr → Prop) (H : Hp) : V → Z → Prop
  | d {v : V} {d : D} : Rp K M H v d → Rw K M H v (.d d)
  | lab (a : Addr) : Rw K M H (.ref a) (.lab a)
  | tup {a : Addr} {xs : List V} {zs : List Z} : TsA K M H a xs → RwA K M H xs zs → Rw K M H (.ref a) (.tup zs)
  | lst {a : Addr} {xs : List V} {zs : List Z} : LsA K M H a xs → RwA K M H xs zs → Rw K M H (.ref a) (.lst zs)
  | exc {a dd : Addr} {v : V} {z : Z} : ¬ M dd → H dd = some (.xd [(keyZ z, v)]) → Rw K M H v (valZ z) → Rw K M H (.ref a) (.exc a dd z)
  | ob {a dx C : Addr} {ks : List Str} {xs : List V} {zs : List Z} : ¬ M a → H a = some (.ins C dx (ks.zip xs)) → ks.length = xs.length → RwA K M H xs zs → Rw K M H (.ref a) (.ob C ks zs)
inductive RwA (K : Fg) (M : Addr → Prop) (H : Hp) : List V → List Z → Prop
  | nil : RwA K M H [] []
  | cons {v : V} {z : Z} {vs : List V} {zs : List Z} : Rw K M H v z → RwA K M H vs zs → RwA K M H (v :: vs) (z :: zs)
end
section
variable {K : Fg} {M M' : Addr → Prop} {H H' : Hp}
theorem Rw.go (g : GoH M H M' H') {v : V} {z : Z} (r : Rw K M H v z) : Rw K M' H' v z :=
  Rw.rec (motive_1 := fun v z _ => Rw K M' H' v z) (motive_2 := fun vs zs _ => RwA K M' H' vs zs)
    (fun h => .d (h.go g)) .lab (fun h _ i => .tup (h.go g) i) (fun h _ i => .lst (h.go g) i) (fun n h _ i => .exc (g _ _ n h).1 (g _ _ n h).2 i) (fun n h l _ i => .ob (g _ _ n h).1 (g _ _ n h).2 l i) .nil (fun _ _ a b => .cons a b) r
theorem RwA.go (g : GoH M H M' H') : ∀ {vs : List V} {zs : List Z}, RwA K M H vs zs → RwA K M' H' vs zs
  | _, _, .nil => .nil
  | _, _, .cons a b => .cons (a.go g) (b.go g)
theorem Rw.kz {v : V} {z : Z} (r : Rw K M H v z) : keyZ z = "found" ∧ valZ z = z := by cases r <;> exact ⟨rfl, rfl⟩
theorem RwA.len : ∀ {vs : List V} {zs : List Z}, RwA K M H vs zs → vs.length = zs.length
  | _, _, .nil => rfl
  | _, _, .cons _ b => congrArg (· + 1) b.len
theorem RwA.get : ∀ {vs : List V} {zs : List Z} {i : Nat} {z : Z}, RwA K M H vs zs → zs[i]? = some z → ∃ v, vs[i]? = some v ∧ Rw K M H v z
  | _, _, _, _, .nil, e => by simp at e
  | _, _, 0, _, .cons a _, e => by simp at e; subst e; exact ⟨_, rfl, a⟩
  | _, _, i + 1, d, .cons _ b, e => by
    obtain ⟨u, h1, h2⟩ := b.get (i := i) (z := d) (by simpa using e)
    exact ⟨u, by simpa using h1, h2⟩
theorem RwA.getV : ∀ {vs : List V} {zs : List Z} {i : Nat} {v : V}, RwA K M H vs zs → vs[i]? = some v → ∃ z, zs[i]? = some z ∧ Rw K M H v z
  | _, _, _, _, .nil, e => by simp at e
  | _, _, 0, _, .cons a _, e => by simp at e; subst e; exact ⟨_, rfl, a⟩
  | _, _, i + 1, d, .cons _ b, e => by
    obtain ⟨u, h1, h2⟩ := b.getV (i := i) (v := d) (by simpa using e)
    exact ⟨u, by simpa using h1, h2⟩
theorem RwA.app : ∀ {vs us : List V} {zs es : List Z}, RwA K M H vs zs → RwA K M H us es → RwA K M H (vs ++ us) (zs ++ es)
  | _, _, _, _, .nil, h => h
  | _, _, _, _, .cons a b, h => .cons a (b.app h)
theorem RwA.set : ∀ {vs : List V} {zs : List Z} {v : V} {z : Z} (i : Nat), RwA K M H vs zs → Rw K M H v z → RwA K M H (vs.set i v) (zs.set i z)
  | _, _, _, _, _, .nil, _ => .nil
  | _, _, _, _, 0, .cons _ b, h => .cons h b
  | _, _, _, _, i + 1, .cons a b, h => .cons a (b.set i h)
theorem RwA.of : ∀ {vs : List V} {ds : List D}, RpA K M H vs ds → RwA K M H vs (ds.map Z.d)
  | _, _, .nil => .nil
  | _, _, .cons a b => .cons (.d a) (RwA.of b)
theorem RwA.ds : ∀ {vs : List V} {ds : List D}, RwA K M H vs (ds.map Z.d) → RpA K M H vs ds
  | [], [], _ => .nil
  | [], _ :: _, h => by cases h
  | _ :: _, [], h => by cases h
  | v :: vs, n :: ns, h => by
    cases h with | cons a b => cases a with | d a => exact .cons a b.ds
end
inductive RwK (K : Fg) (M : Addr → Prop) (H : Hp) : List (Key × V) → List (Key × Z) → Prop
  | nil : RwK K M H [] []
  | cons {k : Key} {v : V} {z : Z} {vs : List (Key × V)} {zs : List (Key × Z)} : Rw K M H v z → RwK K M H vs zs → RwK K M H ((k, v) :: vs) ((k, z) :: zs)
theorem RwK.go {K : Fg} {M M' : Addr → Prop} {H H' : Hp} (g : GoH M H M' H') : ∀ {vs : List (Key × V)} {zs : List (Key × Z)}, RwK K M H vs zs → RwK K M' H' vs zs
  | _, _, .nil => .nil
  | _, _, .cons a b => .cons (a.go g) (b.go g)
def CellOk (K : Fg) (M : Addr → Prop) (H : Hp) (a : Addr) : Cell → Prop
  | .lst zs => ∃ xs, H a = some (.lst xs) ∧ RwA K M H xs zs
  | .ins C ks zs => ∃ dx xs, H a = some (.ins C dx (ks.zip xs)) ∧ ks.length = xs.length ∧ RwA K M H xs zs
  | .dic kvs => ∃ ks, H a = some (.dK ks) ∧ RwK K M H ks kvs
  | .pu n => PuOk H a n
  | .ro c => CellOk K M H a c
theorem CellOk.live {K : Fg} {M : Addr → Prop} {H : Hp} {a : Addr} {c : Cell} (h : CellOk K M H a c) : H a ≠ none := by
  induction c with
  | lst zs => obtain ⟨xs, h1, _⟩ := h; rw [h1]; simp
  | ins _ _ _ => obtain ⟨_, xs, h1, _⟩ := h; rw [h1]; simp
  | dic zs => obtain ⟨xs, h1, _⟩ := h; rw [h1]; simp
  | pu n => obtain ⟨x, b, c, h1, _⟩ := h; rw [h1]; simp
  | ro c ih => exact ih h
theorem CellOk.go {K : Fg} {M M' : Addr → Prop} {H H' : Hp} {a : Addr} {c : Cell} (g : GoH M H M' H') (k : ∀ o, H a = some o → H' a = some o) (h : CellOk K M H a c) : CellOk K M' H' a c := by
  induction c with
  | lst zs => obtain ⟨xs, h1, h2⟩ := h; exact ⟨xs, k _ h1, h2.go g⟩
  | ins _ _ _ => obtain ⟨dx, xs, h1, l, h2⟩ := h; exact ⟨dx, xs, k _ h1, l, h2.go g⟩
  | dic zs => obtain ⟨xs, h1, h2⟩ := h; exact ⟨xs, k _ h1, h2.go g⟩
  | pu n => obtain ⟨x, b, c, h1, h2⟩ := h; exact ⟨x, b, c, k _ h1, h2⟩
  | ro c ih => exact ih h
def Rz (C : Ct) (F : Fr) (σ : St) (y : S) (H : Hp) (v : V) (z : Z) : Prop := match z with
  | .d d => Rp C.K (Mv F σ y) H v d
  | z => Rw C.K (Mv F σ y) H v z
abbrev Go (F : Fr) (σ : St) (y : S) (H : Hp) (σ' : St) (y' : S) (H' : Hp) : Prop := GoH (Mv F σ y) H (Mv F σ' y') H'
/-- the slots stand; the store's things stand, more may have come -/
def ao (m : List Cl) : List (Addr × Bool × Bool) := m.map fun e => (e.a, e.own, e.c.isRo)
def Sh (y y' : S) : Prop := y'.l = y.l ∧ ∃ nw : List Cl, ao y'.m = ao y.m ++ ao nw
theorem Sh.refl (y : S) : Sh y y := ⟨rfl, [], by simp [ao]⟩
theorem Sh.trans {y y1 y2 : S} (a : Sh y y1) (b : Sh y1 y2) : Sh y y2 := by
  obtain ⟨a1, n1, a2⟩ := a
  obtain ⟨b1, n2, b2⟩ := b
  exact ⟨b1.trans a1, n1 ++ n2, by rw [b2, a2, List.append_assoc]; simp [ao]⟩
section
variable {C : Ct} {F : Fr} {σ : St} {y y' : S} {H H' : Hp}
theorem Rz.w {v : V} {z : Z} (r : Rz C F σ y H v z) : Rw C.K (Mv F σ y) H v z := by
  cases z with
  | d d => exact .d r
  | _ => exact r
theorem Rw.z {v : V} {z : Z} (r : Rw C.K (Mv F σ y) H v z) : Rz C F σ y H v z := by
  cases z with
  | d d => cases r with | d r => exact r
  | _ => exact r
theorem Rz.go {v : V} {z : Z} (g : Go F σ y H σ y' H') (r : Rz C F σ y H v z) : Rz C F σ y' H' v z := (r.w.go g).z
end
structure Wd0 (K : Fg) (F : Fr) (σ : St) (y : S) (H : Hp) : Prop where
  keep : ∀ a o, ¬ F.S0 a → F.H0 a = some o → H a = some o
  live0 : ∀ a, F.M0 a → F.H0 a ≠ none
  live : ∀ a, F.M0 a → H a ≠ none
  len : σ.length = y.l.length
  slot : ∀ (i : Nat) (z : Z), y.l[i]? = some (some z) → ∃ x, σ[i]? = some (some x) ∧ Rw K (Mv F σ y) H x z
  cell : ∀ e ∈ y.m, CellOk K (Mv F σ y) H e.a e.c
  dist : y.m.Pairwise fun e e' => e.a ≠ e'.a
  frsh : ∀ e ∈ y.m, e.c.isRo = false → F.S0 e.a ∨ F.H0 e.a = none
  sm : ∀ a, F.S0 a → F.M0 a
  nb : F.st = true → ∀ e ∈ y.m, e.own = true → ¬ F.S0 e.a
/-- an exception with a thing found, its dict new -/
structure XRep (K : Fg) (F : Fr) (σ : St) (y : S) (H : Hp) (ex : Ex) (cls : Value) (d : Option Addr) : Prop where
  cls : cls = ex.cls
  dd : ∃ a v, d = some a ∧ H a = some (.xd [(keyZ ex.found, v)]) ∧ ¬ Mv F σ y a ∧ F.H0 a = none ∧ Rw K (Mv F σ y) H v (valZ ex.found)
structure Wd (C : Ct) (F : Fr) (σ : St) (y : S) (H : Hp) : Prop extends Wd0 C.K F σ y H where
  xk : ∀ σ' y' H' ex cls d, Wd0 C.K F σ' y' H' → Go F σ y H σ' y' H' → XRep C.K F σ' y' H' ex cls d → C.ex ex y' → C.W cls d σ' H'
section
variable {C : Ct} {F : Fr} {σ σ' : St} {y y' : S} {H H' : Hp}
theorem Wd.to (w : Wd C F σ y H) (w' : Wd0 C.K F σ' y' H') (g : Go F σ y H σ' y' H') : Wd C F σ' y' H' := ⟨w', fun σ2 y2 H2 ex cls d w2 g2 => w.xk σ2 y2 H2 ex cls d w2 (g.trans g2)⟩
theorem Wd0.new {K : Fg} (w : Wd0 K F σ y H) {p : Addr} (h : H p = none) : ¬ Mv F σ y p := by
  rintro (z | ⟨e, he, rfl⟩)
  · exact w.live p z h
  · exact (w.cell e he).live h
theorem Wd.new (w : Wd C F σ y H) {p : Addr} (h : H p = none) : ¬ Mv F σ y p := w.toWd0.new h
theorem Wd.newH0 (w : Wd C F σ y H) {p : Addr} (h : H p = none) : F.H0 p = none := by
  cases e : F.H0 p with
  | none => rfl
  | some o =>
    by_cases s : F.S0 p
    · exact absurd h (w.live p (w.sm p s))
    · rw [w.keep p o s e] at h; cases h
theorem go_grow (g : ∀ a o, H a = some o → H' a = some o) : Go F σ y H σ y H' := fun a o n e => ⟨n, g a o e⟩
theorem Wd.grow (w : Wd C F σ y H) (g : ∀ a o, H a = some o → H' a = some o) : Wd C F σ y H' := by
  have gg : Go F σ y H σ y H' := go_grow g
  refine w.to ⟨fun a o n e => g _ _ (w.keep a o n e), w.live0, fun a m e => ?_, w.len, fun i z e => ?_, fun e he => (w.cell e he).go gg (fun o q => g _ _ q), w.dist, w.frsh, w.sm, w.nb⟩ gg
  · cases q : H a with
    | none => exact w.live a m q
    | some o => rw [g a o q] at e; cases e
  · obtain ⟨x, h1, h2⟩ := w.slot i z e
    exact ⟨x, h1, h2.go gg⟩
end
/-! ### the wp -/
section
variable (C : Ct)
def wE (te : TE) (y : S) (Q : Z → S → Prop) : Prop := ∀ (F : Fr) σ H (K : VK), Wd C F σ y H → (∀ v H' z y', Wd C F σ y' H' → Go F σ y H σ y' H' → Sh y y' → Rz C F σ y' H' v z → Q z y' → K v H') → te σ H K
def wT (tt : TT) (y : S) (Q : Bool → S → Prop) : Prop := ∀ (F : Fr) σ H (K : Bool → Hp → Prop), Wd C F σ y H → (∀ b H' y', Wd C F σ y' H' → Go F σ y H σ y' H' → Sh y y' → Q b y' → K b H') → tt σ H K
def wO (to : TO) (y : S) (Q : Option Int → S → Prop) : Prop := ∀ (F : Fr) σ H (K : Option Int → Hp → Prop), Wd C F σ y H → (∀ b H' y', Wd C F σ y' H' → Go F σ y H σ y' H' → Sh y y' → Q b y' → K b H') → to σ H K
structure En where
  nx : S → Prop
  rt : Z → S → Prop
  bk : S → Prop := fun _ => False
  ct : S → Prop := fun _ => False
structure EnOk (F : Fr) (σ : St) (y : S) (H : Hp) (e : En) (E : Ends) : Prop where
  nx : ∀ σ' H' y', Wd C F σ' y' H' → Go F σ y H σ' y' H' → e.nx y' → E.nx σ' H'
  rt : ∀ σ' v H' z y', Wd C F σ' y' H' → Go F σ y H σ' y' H' → Rz C F σ' y' H' v z → e.rt z y' → E.rt v H'
  bk : ∀ σ' H' y', Wd C F σ' y' H' → Go F σ y H σ' y' H' → e.bk y' → E.bk σ' H'
  ct : ∀ σ' H' y', Wd C F σ' y' H' → Go F σ y H σ' y' H' → e.ct y' → E.ct σ' H'
def wS (ts : TS) (y : S) (e : En) : Prop := ∀ (F : Fr) σ H (E : Ends), F.st = true → Wd C F σ y H → EnOk C F σ y H e E → ts E σ H
end
/-! ### storing in a slot -/
section
variable {C : Ct} {F : Fr} {σ : St} {y y' : S} {H H' : Hp}
theorem go_set {σ' : St} {i : Nat} {z : Option Z} : Go F σ y H σ' (y.set i z) H := fun a o n e => ⟨n, e⟩
theorem Wd0.set_z {K : Fg} (w : Wd0 K F σ y H) {i : Nat} {v : V} {z : Z} (r : Rw K (Mv F σ y) H v z) : Wd0 K F (σ.set i (some v)) (y.set i (some z)) H := by
  refine ⟨w.keep, w.live0, w.live, by show (σ.set i _).length = (y.l.set i _).length; rw [List.length_set, List.length_set]; exact w.len, fun j x e => ?_, w.cell, w.dist, w.frsh, w.sm, w.nb⟩
  have e' : (y.l.set i (some z))[j]? = some (some x) := e
  by_cases n : j = i
  · subst n
    have hl : j < y.l.length := by
      have := (List.getElem?_eq_some_iff.mp e').1
      rw [List.length_set] at this; exact this
    rw [List.getElem?_set_self hl] at e'
    cases e'
    exact ⟨v, by rw [List.getElem?_set_self (by rw [w.len]; exact hl)], r⟩
  · rw [List.getElem?_set_ne (Ne.symm n)] at e' ⊢
    exact w.slot j x e'
theorem Wd.set_z (w : Wd C F σ y H) {i : Nat} {v : V} {z : Z} (r : Rz C F σ y H v z) : Wd C F (σ.set i (some v)) (y.set i (some z)) H := w.to (w.toWd0.set_z r.w) go_set
end
end Ux

set_option maxRecDepth 100000
set_option maxHeartbeats 4000000
namespace Ux
open PySem PySem.Spec PyProof.Rows L2 Tq
section
variable {C : Ct} {y : S} {te : TE} {Q : Z → S → Prop}
theorem wE_varZ {i : Nat} {z : Z} (h : y.l[i]? = some (some z)) (q : Q z y) : wE C (tVar i) y Q := fun F σ H K w k => by
  obtain ⟨x, h1, h2⟩ := w.slot i _ h
  exact ⟨x, h1, k x H z y w GoH.refl (Sh.refl y) h2.z q⟩
theorem wE_var {i : Nat} {z : Z} (h : y.l[i]? = some (some z)) (q : Q z y) : wE C (tVar i) y Q := wE_varZ h q
theorem grow_upd {H : Hp} {p : Addr} {o : HO} (h : H p = none) : ∀ a u, H a = some u → upd H p o a = some u := Tq.grow_upd h
end
section
variable {C : Ct} {F : Fr} {σ : St} {y y' : S} {H H' : Hp}
end

section
variable {C : Ct} {y : S} {ta tb tc te : TE} {Q : Z → S → Prop}
theorem wE_sc {v : V} {d : D} (s : Sc v d) (q : Q (.d d) y) : wE C (tC v) y Q := fun F σ H K w k => k v H (.d d) y w GoH.refl (Sh.refl y) s.rp q
theorem wE_int {i : Int} (q : Q (.d (.int i)) y) : wE C (tC (.int i)) y Q := wE_sc (.int i) q
theorem wE_str {i : Str} (q : Q (.d (.str i)) y) : wE C (tC (.str i)) y Q := wE_sc (.str i) q
theorem wE_bl {i : Bool} (q : Q (.d (.bool i)) y) : wE C (tC (.bl i)) y Q := wE_sc (.bl i) q
theorem wE_non (q : Q (.d .none) y) : wE C (tC .non) y Q := wE_sc .non q
theorem wE_mono {R : Z → S → Prop} (h : wE C te y Q) (q : ∀ z y', Q z y' → R z y') : wE C te y R := fun F σ H K w k => h F σ H K w fun v H' z y' a b c d e => k v H' z y' a b c d (q z y' e)
theorem wE_op {r : R2} {res : D → D → D → Prop} (h : OpD C.K r res) (w : wE C ta y fun z y1 => wE C tb y1 fun z' y2 => ∃ d e g, z = .d d ∧ z' = .d e ∧ res d e g ∧ Q (.d g) y2) : wE C (tOp r ta tb) y Q := by
  intro F σ H K wd k
  refine w F σ H _ wd fun x H1 z y1 w1 g1 s1 r1 q1 => ?_
  refine q1 F σ H1 _ w1 fun x2 H2 z' y2 w2 g2 s2 r2 q2 => ?_
  obtain ⟨d, e, g, rfl, rfl, hres, hq⟩ := q2
  refine h (Mv F σ y2) H2 x x2 d e g K (fun a => w2.new) (Rp.go g2 r1) r2 hres fun v H3 gr rv => ?_
  exact k v H3 (.d g) y2 (w2.grow gr) ((g1.trans g2).trans (go_grow gr)) (s1.trans s2) rv hq
theorem wE_I {P : Int → Int → Prop} {g : Int → Int → V} (gd : Int → Int → D) (hg : ∀ i j, Sc (g i j) (gd i j)) (w : wE C ta y fun z y1 => wE C tb y1 fun z' y2 => ∃ i j, z = .d (.int i) ∧ z' = .d (.int j) ∧ P i j ∧ Q (.d (gd i j)) y2) : wE C (tOp (rI P g) ta tb) y Q :=
  wE_op (opD_I hg) (wE_mono w fun z y1 h => wE_mono h fun z' y2 ⟨i, j, e1, e2, c, q⟩ => ⟨_, _, _, e1, e2, ⟨i, j, rfl, rfl, c, rfl⟩, q⟩)
theorem wE_I0 {g : Int → Int → V} (gd : Int → Int → D) (hg : ∀ i j, Sc (g i j) (gd i j)) (w : wE C ta y fun z y1 => wE C tb y1 fun z' y2 => ∃ i j, z = .d (.int i) ∧ z' = .d (.int j) ∧ Q (.d (gd i j)) y2) : wE C (tOp (rI0 g) ta tb) y Q :=
  wE_op (opD_I0 hg) (wE_mono w fun z y1 h => wE_mono h fun z' y2 ⟨i, j, e1, e2, q⟩ => ⟨_, _, _, e1, e2, ⟨i, j, rfl, rfl, rfl⟩, q⟩)
theorem wE_add (w : wE C ta y fun z y1 => wE C tb y1 fun z' y2 => ∃ i j, z = .d (.int i) ∧ z' = .d (.int j) ∧ Q (.d (.int (i + j))) y2) : wE C (tOp (rI0 fun i j => .int (i + j)) ta tb) y Q := wE_I0 _ (fun _ _ => .int _) w
theorem wE_sub (w : wE C ta y fun z y1 => wE C tb y1 fun z' y2 => ∃ i j, z = .d (.int i) ∧ z' = .d (.int j) ∧ Q (.d (.int (i - j))) y2) : wE C (tOp (rI0 fun i j => .int (i - j)) ta tb) y Q := wE_I0 _ (fun _ _ => .int _) w
theorem wE_lt (w : wE C ta y fun z y1 => wE C tb y1 fun z' y2 => ∃ i j, z = .d (.int i) ∧ z' = .d (.int j) ∧ Q (.d (.bool (decide (i < j)))) y2) : wE C (tOp (rI0 fun i j => .bl (decide (i < j))) ta tb) y Q := wE_I0 (fun i j => .bool (decide (i < j))) (fun _ _ => .bl _) w
theorem wE_le (w : wE C ta y fun z y1 => wE C tb y1 fun z' y2 => ∃ i j, z = .d (.int i) ∧ z' = .d (.int j) ∧ Q (.d (.bool (decide (i ≤ j)))) y2) : wE C (tOp (rI0 fun i j => .bl (decide (i ≤ j))) ta tb) y Q := wE_I0 (fun i j => .bool (decide (i ≤ j))) (fun _ _ => .bl _) w
theorem wE_gt (w : wE C ta y fun z y1 => wE C tb y1 fun z' y2 => ∃ i j, z = .d (.int i) ∧ z' = .d (.int j) ∧ Q (.d (.bool (decide (j < i)))) y2) : wE C (tOp (rI0 fun i j => .bl (decide (j < i))) ta tb) y Q := wE_I0 (fun i j => .bool (decide (j < i))) (fun _ _ => .bl _) w
theorem wE_ge (w : wE C ta y fun z y1 => wE C tb y1 fun z' y2 => ∃ i j, z = .d (.int i) ∧ z' = .d (.int j) ∧ Q (.d (.bool (decide (j ≤ i)))) y2) : wE C (tOp (rI0 fun i j => .bl (decide (j ≤ i))) ta tb) y Q := wE_I0 (fun i j => .bool (decide (j ≤ i))) (fun _ _ => .bl _) w
theorem wE_mulW (w : wE C ta y fun z y1 => wE C tb y1 fun z' y2 => ∃ i j, z = .d (.int i) ∧ z' = .d (.int j) ∧ CMulW i j ∧ Q (.d (.int (i * j))) y2) : wE C (tOp (rI CMulW fun i j => .int (i * j)) ta tb) y Q := wE_I _ (fun _ _ => .int _) w
theorem wE_mul (w : wE C ta y fun z y1 => wE C tb y1 fun z' y2 => ∃ i j, z = .d (.int i) ∧ z' = .d (.int j) ∧ CMul i j ∧ Q (.d (.int (i * j))) y2) : wE C (tOp (rI CMul fun i j => .int (i * j)) ta tb) y Q := wE_I _ (fun _ _ => .int _) w
theorem wE_mod (w : wE C ta y fun z y1 => wE C tb y1 fun z' y2 => ∃ i j, z = .d (.int i) ∧ z' = .d (.int j) ∧ 0 < j ∧ Q (.d (.int (i % j))) y2) : wE C (tOp (rI (fun _ j => 0 < j) fun i j => .int (i % j)) ta tb) y Q := wE_I _ (fun _ _ => .int _) w
theorem wE_pow (w : wE C ta y fun z y1 => wE C tb y1 fun z' y2 => ∃ i j, z = .d (.int i) ∧ z' = .d (.int j) ∧ CPow i j ∧ Q (.d (.int (i ^ j.toNat))) y2) : wE C (tOp (rI CPow fun i j => .int (i ^ j.toNat)) ta tb) y Q := wE_I _ (fun _ _ => .int _) w
theorem wE_fdivW (w : wE C ta y fun z y1 => wE C tb y1 fun z' y2 => ∃ i j, z = .d (.int i) ∧ z' = .d (.int j) ∧ CDivW i j ∧ Q (.d (.int (i / j))) y2) : wE C (tOp (rI CDivW fun i j => .int (i / j)) ta tb) y Q := wE_I _ (fun _ _ => .int _) w
theorem wE_neg (w : wE C ta y fun z y1 => ∃ i, z = .d (.int i) ∧ Q (.d (.int (-i))) y1) : wE C (tUn (rU fun i => .int (-i)) ta) y Q := by
  intro F σ H K wd k
  refine w F σ H _ wd fun x H1 z y1 w1 g1 s1 r1 q1 => ?_
  obtain ⟨i, rfl, q⟩ := q1
  exact ⟨i, rp_int r1, k _ H1 (.d (.int (-i))) y1 w1 g1 s1 (.int _) q⟩
theorem wE_S0 {α : Type} {g : Str → Str → V} (gd : Str → Str → D) (hg : ∀ i j, Sc (g i j) (gd i j)) (w : wE C ta y fun z y1 => wE C tb y1 fun z' y2 => ∃ i j, z = .d (.str i) ∧ z' = .d (.str j) ∧ Q (.d (gd i j)) y2) : wE C (tOp (fun x y H Q => ∃ i j, x = .str i ∧ y = .str j ∧ Q (g i j) H) ta tb) y Q := by
  refine wE_op (res := fun d e r => ∃ i j, d = .str i ∧ e = .str j ∧ r = gd i j) ?_ (wE_mono w fun z y1 h => wE_mono h fun z' y2 ⟨i, j, e1, e2, q⟩ => ⟨_, _, _, e1, e2, ⟨i, j, rfl, rfl, rfl⟩, q⟩)
  rintro M H x y d e r Q _ rx ry ⟨i, j, rfl, rfl, rfl⟩ k
  exact ⟨i, j, rp_str rx, rp_str ry, k _ H (fun _ _ e => e) (hg i j).rp⟩
theorem wE_ltS (w : wE C ta y fun z y1 => wE C tb y1 fun z' y2 => ∃ i j, z = .d (.str i) ∧ z' = .d (.str j) ∧ Q (.d (.bool (decide (i.cps.toList < j.cps.toList)))) y2) :
    wE C (tOp (fun x y H Q => ∃ i j, x = .str i ∧ y = .str j ∧ Q (.bl (decide (i.cps.toList < j.cps.toList))) H) ta tb) y Q := wE_S0 (α := Unit) (fun i j => .bool (decide (i.cps.toList < j.cps.toList))) (fun _ _ => .bl _) w
theorem wE_leS (w : wE C ta y fun z y1 => wE C tb y1 fun z' y2 => ∃ i j, z = .d (.str i) ∧ z' = .d (.str j) ∧ Q (.d (.bool (!decide (j.cps.toList < i.cps.toList)))) y2) :
    wE C (tOp (fun x y H Q => ∃ i j, x = .str i ∧ y = .str j ∧ Q (.bl (!decide (j.cps.toList < i.cps.toList))) H) ta tb) y Q := wE_S0 (α := Unit) (fun i j => .bool (!decide (j.cps.toList < i.cps.toList))) (fun _ _ => .bl _) w
theorem wE_addS (w : wE C ta y fun z y1 => wE C tb y1 fun z' y2 => ∃ i j, z = .d (.str i) ∧ z' = .d (.str j) ∧ i.length + j.length ≤ sizeLine ∧ Q (.d (.str (i ++ j))) y2) :
    wE C (tOp (fun x y H Q => ∃ i j, x = .str i ∧ y = .str j ∧ i.length + j.length ≤ sizeLine ∧ Q (.str (i ++ j)) H) ta tb) y Q := by
  refine wE_op (res := fun d e r => ∃ i j, d = .str i ∧ e = .str j ∧ i.length + j.length ≤ sizeLine ∧ r = .str (i ++ j)) ?_ (wE_mono w fun z y1 h => wE_mono h fun z' y2 ⟨i, j, e1, e2, c, q⟩ => ⟨_, _, _, e1, e2, ⟨i, j, rfl, rfl, c, rfl⟩, q⟩)
  rintro M H x y d e r Q _ rx ry ⟨i, j, rfl, rfl, c, rfl⟩ k
  exact ⟨i, j, rp_str rx, rp_str ry, c, k _ H (fun _ _ e => e) (.str _)⟩
theorem wE_inSign (w : wE C ta y fun z y1 => wE C tb y1 fun z' y2 => ∃ (c : Nat) (j : Str), z = .d (.str ⟨#[c]⟩) ∧ z' = .d (.str j) ∧ Q (.d (.bool (decide (c ∈ j.cps.toList)))) y2) :
    wE C (tOp (fun x y H Q => ∃ (c : Nat) (z : Str), x = .str ⟨#[c]⟩ ∧ y = .str z ∧ Q (.bl (decide (c ∈ z.cps.toList))) H) ta tb) y Q := by
  refine wE_op (res := fun d e r => ∃ (c : Nat) (j : Str), d = .str ⟨#[c]⟩ ∧ e = .str j ∧ r = .bool (decide (c ∈ j.cps.toList))) ?_ (wE_mono w fun z y1 h => wE_mono h fun z' y2 ⟨i, j, e1, e2, q⟩ => ⟨_, _, _, e1, e2, ⟨i, j, rfl, rfl, rfl⟩, q⟩)
  rintro M H x y d e r Q _ rx ry ⟨i, j, rfl, rfl, rfl⟩ k
  exact ⟨i, j, rp_str rx, rp_str ry, k _ H (fun _ _ e => e) (.bl _)⟩
theorem wE_eqD (w : wE C ta y fun z y1 => wE C tb y1 fun z' y2 => ∃ d e, z = .d d ∧ z' = .d e ∧ SeqAt.shaped d = true ∧ SeqAt.shaped e = true ∧ Q (.d (.bool (PyData.eqv d e))) y2) : wE C (tOp (rEqD C.K) ta tb) y Q := by
  refine wE_op (res := fun d e r => SeqAt.shaped d = true ∧ SeqAt.shaped e = true ∧ r = .bool (PyData.eqv d e)) ?_ (wE_mono w fun z y1 h => wE_mono h fun z' y2 ⟨d, e, e1, e2, s1, s2, q⟩ => ⟨_, _, _, e1, e2, ⟨s1, s2, rfl⟩, q⟩)
  rintro M H x y d e r Q _ rx ry ⟨s1, s2, rfl⟩ k
  exact ⟨d, e, rx.dp (canLay_noDict s1), ry.dp (canLay_noDict s2), s1, s2, k _ H (fun _ _ e => e) (.bl _)⟩
theorem wE_neD (w : wE C ta y fun z y1 => wE C tb y1 fun z' y2 => ∃ d e, z = .d d ∧ z' = .d e ∧ SeqAt.shaped d = true ∧ SeqAt.shaped e = true ∧ Q (.d (.bool (!PyData.eqv d e))) y2) : wE C (tOp (rNeD C.K) ta tb) y Q := by
  refine wE_op (res := fun d e r => SeqAt.shaped d = true ∧ SeqAt.shaped e = true ∧ r = .bool (!PyData.eqv d e)) ?_ (wE_mono w fun z y1 h => wE_mono h fun z' y2 ⟨d, e, e1, e2, s1, s2, q⟩ => ⟨_, _, _, e1, e2, ⟨s1, s2, rfl⟩, q⟩)
  rintro M H x y d e r Q _ rx ry ⟨s1, s2, rfl⟩ k
  exact ⟨d, e, rx.dp (canLay_noDict s1), ry.dp (canLay_noDict s2), s1, s2, k _ H (fun _ _ e => e) (.bl _)⟩
theorem wE_isN (w : wE C ta y fun z y1 => wE C tb y1 fun z' y2 => ∃ d, z = .d d ∧ z' = .d .none ∧ Q (.d (.bool (match d with | .none => true | _ => false))) y2) :
    wE C (tOp (fun x y H Q => y = .non ∧ Q (.bl (decide (x = .non))) H) ta tb) y Q := by
  refine wE_op (res := fun d e r => e = .none ∧ r = .bool (match d with | .none => true | _ => false)) ?_ (wE_mono w fun z y1 h => wE_mono h fun z' y2 ⟨d, e1, e2, q⟩ => ⟨_, _, _, e1, e2, ⟨rfl, rfl⟩, q⟩)
  rintro M H x y d e r Q _ rx ry ⟨rfl, rfl⟩ k
  refine ⟨rp_non ry, k _ H (fun _ _ e => e) ?_⟩
  cases rx <;> exact .bl _
theorem wE_notN (w : wE C ta y fun z y1 => wE C tb y1 fun z' y2 => ∃ d, z = .d d ∧ z' = .d .none ∧ Q (.d (.bool (match d with | .none => false | _ => true))) y2) :
    wE C (tOp (fun x y H Q => y = .non ∧ Q (.bl (!decide (x = .non))) H) ta tb) y Q := by
  refine wE_op (res := fun d e r => e = .none ∧ r = .bool (match d with | .none => false | _ => true)) ?_ (wE_mono w fun z y1 h => wE_mono h fun z' y2 ⟨d, e1, e2, q⟩ => ⟨_, _, _, e1, e2, ⟨rfl, rfl⟩, q⟩)
  rintro M H x y d e r Q _ rx ry ⟨rfl, rfl⟩ k
  refine ⟨rp_non ry, k _ H (fun _ _ e => e) ?_⟩
  cases rx <;> exact .bl _
theorem wE_ix (w : wE C ta y fun z y1 => wE C tb y1 fun z' y2 => ∃ d i g, z = .d d ∧ z' = .d (.int i) ∧ dIx d i = some g ∧ Q (.d g) y2) : wE C (tOp (rIx C.K) ta tb) y Q := by
  refine wE_op (res := fun d e r => ∃ i, e = .int i ∧ dIx d i = some r) ?_ (wE_mono w fun z y1 h => wE_mono h fun z' y2 ⟨d, i, g, e1, e2, s, q⟩ => ⟨_, _, _, e1, e2, ⟨i, rfl, s⟩, q⟩)
  rintro M H x y d e r Q _ rx ry ⟨i, rfl, h⟩ k
  have ey := rp_int ry
  cases rx with
  | non => cases h
  | bl b => cases h
  | int b => cases h
  | dic _ _ _ => cases h
  | str z =>
    simp only [dIx] at h
    by_cases hz : z.length ≤ sizeLine
    · rw [if_pos hz] at h
      cases q : atI z.cps.toList i with
      | none => rw [q] at h; cases h
      | some c =>
        rw [q] at h; cases h
        exact .inr (.inr ⟨z, i, c, rfl, ey, hz, q, k _ H (fun _ _ e => e) (.str _)⟩)
    · rw [if_neg hz] at h; cases h
  | lst h1 h2 =>
    obtain ⟨v, e, rv⟩ := atI_rp h2 h
    exact .inl ⟨_, _, i, v, rfl, ey, h1.sq, e, k _ H (fun _ _ e => e) rv⟩
  | tup h1 h2 =>
    obtain ⟨v, e, rv⟩ := atI_rp h2 h
    exact .inr (.inl ⟨_, _, i, v, rfl, ey, h1.sq, e, k _ H (fun _ _ e => e) rv⟩)
end
end Ux

set_option maxRecDepth 100000
set_option maxHeartbeats 4000000
namespace Ux
open PySem PySem.Spec PyProof.Rows L2 Tq
section
variable {C : Ct} {y : S} {ta tb tc te : TE} {t u : TT} {ts : TA} {Q : Z → S → Prop} {R : Bool → S → Prop}
theorem wE_catG (w : wE C ta y fun z y1 => wE C tb y1 fun z' y2 => ∃ xs ys, z = .d (.list xs) ∧ z' = .d (.list ys) ∧ xs.length + ys.length ≤ sizeLine ∧ Q (.d (.list (xs ++ ys))) y2) : wE C (tOp (rCatG C.K) ta tb) y Q := by
  refine wE_op (res := fun d e r => ∃ xs ys, d = .list xs ∧ e = .list ys ∧ xs.length + ys.length ≤ sizeLine ∧ r = .list (xs ++ ys)) ?_ (wE_mono w fun z y1 h => wE_mono h fun z' y2 ⟨xs, ys, e1, e2, c, q⟩ => ⟨_, _, _, e1, e2, ⟨xs, ys, rfl, rfl, c, rfl⟩, q⟩)
  rintro M H x y d e r Q fr rx ry ⟨xs, ys, rfl, rfl, c, rfl⟩ k
  obtain ⟨a, us, rfl, h1, h2⟩ := rp_lst rx
  obtain ⟨b, vs, rfl, h3, h4⟩ := rp_lst ry
  refine ⟨a, b, us, vs, rfl, rfl, h1.sq, h3.sq, by rw [h2.len, h4.len]; exact c, fun p hp => k _ _ (grow_upd hp) ?_⟩
  have g : GoH M H M (upd H p (.lst (us ++ vs))) := fun a o n e => ⟨n, grow_upd hp a o e⟩
  exact .lst (.inl ⟨fr p hp, .inl upd_same⟩) ((h2.go g).app (h4.go g))
theorem wE_fdivZ (w : wE C ta y fun z y1 => wE C tb y1 fun z' y2 => ∃ i j, z = .d (.int i) ∧ z' = .d (.int j) ∧ CDivZ i j ∧ Q (.d (.int (i.fdiv j))) y2) : wE C (tOp (rI CDivZ fun i j => .int (i.fdiv j)) ta tb) y Q := wE_I _ (fun _ _ => .int _) w
theorem wE_modN (w : wE C ta y fun z y1 => wE C tb y1 fun z' y2 => ∃ i j, z = .d (.int i) ∧ z' = .d (.int j) ∧ j ≠ 0 ∧ Q (.d (.int (i.fmod j))) y2) : wE C (tOp (rI (fun _ j => j ≠ 0) fun i j => .int (i.fmod j)) ta tb) y Q := wE_I _ (fun _ _ => .int _) w
theorem wE_andV (w : wE C ta y fun z y1 => ∃ b, z = .d (.bool b) ∧ if b = true then wE C tb y1 Q else Q (.d (.bool false)) y1) : wE C (tAndV ta tb) y Q := by
  intro F σ H K wd k
  refine w F σ H _ wd fun x H1 z y1 w1 g1 s1 r1 q1 => ?_
  obtain ⟨b, rfl, q⟩ := q1
  refine ⟨b, rp_bl r1, ?_⟩
  cases b with
  | true => exact q F σ H1 _ w1 fun v H2 z y2 w2 g2 s2 r2 q2 => k v H2 z y2 w2 (g1.trans g2) (s1.trans s2) r2 q2
  | false => exact k _ H1 (.d (.bool false)) y1 w1 g1 s1 (.bl _) q
theorem wE_orV (w : wE C ta y fun z y1 => ∃ b, z = .d (.bool b) ∧ if b = true then Q (.d (.bool true)) y1 else wE C tb y1 Q) : wE C (tOrV ta tb) y Q := by
  intro F σ H K wd k
  refine w F σ H _ wd fun x H1 z y1 w1 g1 s1 r1 q1 => ?_
  obtain ⟨b, rfl, q⟩ := q1
  refine ⟨b, rp_bl r1, ?_⟩
  cases b with
  | true => exact k _ H1 (.d (.bool true)) y1 w1 g1 s1 (.bl _) q
  | false => exact q F σ H1 _ w1 fun v H2 z y2 w2 g2 s2 r2 q2 => k v H2 z y2 w2 (g1.trans g2) (s1.trans s2) r2 q2
theorem wE_notV (w : wE C ta y fun z y1 => ∃ b, z = .d (.bool b) ∧ Q (.d (.bool (!b))) y1) : wE C (tNotV ta) y Q := by
  intro F σ H K wd k
  refine w F σ H _ wd fun x H1 z y1 w1 g1 s1 r1 q1 => ?_
  obtain ⟨b, rfl, q⟩ := q1
  exact ⟨b, rp_bl r1, k _ H1 (.d (.bool !b)) y1 w1 g1 s1 (.bl _) q⟩
theorem wE_if (w : wT C t y fun b y1 => if b = true then wE C ta y1 Q else wE C tb y1 Q) : wE C (tIf t ta tb) y Q := by
  intro F σ H K wd k
  refine w F σ H _ wd fun b H1 y1 w1 g1 s1 q => ?_
  cases b with
  | true => exact q F σ H1 _ w1 fun v H2 z y2 w2 g2 s2 r2 q2 => k v H2 z y2 w2 (g1.trans g2) (s1.trans s2) r2 q2
  | false => exact q F σ H1 _ w1 fun v H2 z y2 w2 g2 s2 r2 q2 => k v H2 z y2 w2 (g1.trans g2) (s1.trans s2) r2 q2
theorem wT_test (w : wE C te y fun z y1 => ∃ b, z = .d (.bool b) ∧ R b y1) : wT C (tTest te) y R := by
  intro F σ H K wd k
  refine w F σ H _ wd fun x H1 z y1 w1 g1 s1 r1 q1 => ?_
  obtain ⟨b, rfl, q⟩ := q1
  exact ⟨b, rp_bl r1, k b H1 y1 w1 g1 s1 q⟩
theorem wT_B (w : wE C te y fun z y1 => ∃ b, z = .d (.bool b) ∧ R b y1) : wT C (tB te) y R := wT_test w
theorem wT_and (w : wT C t y fun b y1 => if b = true then wT C u y1 R else R false y1) : wT C (tAnd t u) y R := by
  intro F σ H K wd k
  refine w F σ H _ wd fun b H1 y1 w1 g1 s1 q => ?_
  cases b with
  | true => exact q F σ H1 _ w1 fun v H2 y2 w2 g2 s2 q2 => k v H2 y2 w2 (g1.trans g2) (s1.trans s2) q2
  | false => exact k false H1 y1 w1 g1 s1 q
theorem wT_or (w : wT C t y fun b y1 => if b = true then R true y1 else wT C u y1 R) : wT C (tOr t u) y R := by
  intro F σ H K wd k
  refine w F σ H _ wd fun b H1 y1 w1 g1 s1 q => ?_
  cases b with
  | true => exact k true H1 y1 w1 g1 s1 q
  | false => exact q F σ H1 _ w1 fun v H2 y2 w2 g2 s2 q2 => k v H2 y2 w2 (g1.trans g2) (s1.trans s2) q2
theorem wT_not (w : wT C t y fun b y1 => R (!b) y1) : wT C (tNot t) y R := by
  intro F σ H K wd k
  exact w F σ H _ wd fun b H1 y1 w1 g1 s1 q => k (!b) H1 y1 w1 g1 s1 q
theorem wT_yes (q : R true y) : wT C tYes y R := fun F σ H K wd k => k true H y wd GoH.refl (Sh.refl y) q
theorem wT_mono {R' : Bool → S → Prop} (h : wT C t y R) (q : ∀ z y', R z y' → R' z y') : wT C t y R' := fun F σ H K w k => h F σ H K w fun z H' y' a b c e => k z H' y' a b c (q z y' e)
theorem wE_chain {r r' : R2} {res res' : D → D → D → Prop} (h : OpD C.K r res) (h' : OpD C.K r' res')
    (w : wE C ta y fun z1 y1 => wE C tb y1 fun z2 y2 => ∃ d1 d2 b, z1 = .d d1 ∧ z2 = .d d2 ∧ res d1 d2 (.bool b) ∧ if b = true then wE C tc y2 fun z3 y3 => ∃ d3 g, z3 = .d d3 ∧ res' d2 d3 g ∧ Q (.d g) y3 else Q (.d (.bool false)) y2) :
    wE C (tChain r r' ta tb tc) y Q := by
  intro F σ H K wd k
  refine w F σ H _ wd fun x H1 z y1 w1 g1 s1 r1 q1 => ?_
  refine q1 F σ H1 _ w1 fun x2 H2 z' y2 w2 g2 s2 r2 q2 => ?_
  obtain ⟨d1, d2, b, rfl, rfl, hres, hq⟩ := q2
  refine h (Mv F σ y2) H2 x x2 d1 d2 (.bool b) _ (fun a => w2.new) (Rp.go g2 r1) r2 hres fun v H3 gr rv => ?_
  have w3 := w2.grow gr
  have g3 := (g1.trans g2).trans (go_grow (F := F) (σ := σ) (y := y2) gr)
  refine ⟨b, rp_bl rv, ?_⟩
  cases b with
  | false => exact k _ H3 (.d (.bool false)) y2 w3 g3 (s1.trans s2) (.bl _) hq
  | true =>
    refine hq F σ H3 _ w3 fun x4 H4 z4 y4 w4 g4 s4 r4 q4 => ?_
    obtain ⟨d3, g, rfl, hres', hq'⟩ := q4
    refine h' (Mv F σ y4) H4 x2 x4 d2 d3 g _ (fun a => w4.new) (Rp.go g4 (Rp.go (go_grow (F := F) (σ := σ) (y := y2) gr) r2)) r4 hres' fun v5 H5 gr5 rv5 => ?_
    exact k v5 H5 (.d g) y4 (w4.grow gr5) ((g3.trans g4).trans (go_grow gr5)) ((s1.trans s2).trans s4) rv5 hq'
theorem wE_chainI {p p' : Int → Int → Bool} (w : wE C ta y fun z1 y1 => wE C tb y1 fun z2 y2 => ∃ i j, z1 = .d (.int i) ∧ z2 = .d (.int j) ∧ if p i j = true then wE C tc y2 fun z3 y3 => ∃ m, z3 = .d (.int m) ∧ Q (.d (.bool (p' j m))) y3 else Q (.d (.bool false)) y2) :
    wE C (tChain (rI0 fun i j => .bl (p i j)) (rI0 fun i j => .bl (p' i j)) ta tb tc) y Q := by
  refine wE_chain (opD_I0 (gd := fun i j => .bool (p i j)) fun _ _ => .bl _) (opD_I0 (gd := fun i j => .bool (p' i j)) fun _ _ => .bl _) (wE_mono w fun z1 y1 h => wE_mono h fun z2 y2 ⟨i, j, e1, e2, q⟩ => ⟨_, _, p i j, e1, e2, ⟨i, j, rfl, rfl, rfl⟩, ?_⟩)
  cases hb : p i j with
  | true =>
    rw [hb] at q
    exact wE_mono (show wE C tc y2 _ from q) fun z3 y3 ⟨m, e3, q3⟩ => ⟨_, _, e3, ⟨j, m, rfl, rfl, rfl⟩, q3⟩
  | false => rw [hb] at q; exact q
theorem wE_chainS {p p' : Str → Str → Bool} (w : wE C ta y fun z1 y1 => wE C tb y1 fun z2 y2 => ∃ i j, z1 = .d (.str i) ∧ z2 = .d (.str j) ∧ if p i j = true then wE C tc y2 fun z3 y3 => ∃ m, z3 = .d (.str m) ∧ Q (.d (.bool (p' j m))) y3 else Q (.d (.bool false)) y2) :
    wE C (tChain (fun x y H Q => ∃ i j, x = .str i ∧ y = .str j ∧ Q (.bl (p i j)) H) (fun x y H Q => ∃ i j, x = .str i ∧ y = .str j ∧ Q (.bl (p' i j)) H) ta tb tc) y Q := by
  refine wE_chain (opD_S0 (gd := fun i j => .bool (p i j)) fun _ _ => .bl _) (opD_S0 (gd := fun i j => .bool (p' i j)) fun _ _ => .bl _) (wE_mono w fun z1 y1 h => wE_mono h fun z2 y2 ⟨i, j, e1, e2, q⟩ => ⟨_, _, p i j, e1, e2, ⟨i, j, rfl, rfl, rfl⟩, ?_⟩)
  cases hb : p i j with
  | true =>
    rw [hb] at q
    exact wE_mono (show wE C tc y2 _ from q) fun z3 y3 ⟨m, e3, q3⟩ => ⟨_, _, e3, ⟨j, m, rfl, rfl, rfl⟩, q3⟩
  | false => rw [hb] at q; exact q
def wD (C : Ct) (ta : TA) (y : S) (Q : List D → S → Prop) : Prop := ∀ (F : Fr) σ H (K : List V → Hp → Prop), Wd C F σ y H → (∀ vs H' ds y', Wd C F σ y' H' → Go F σ y H σ y' H' → Sh y y' → RpA C.K (Mv F σ y') H' vs ds → Q ds y' → K vs H') → ta σ H K
variable {q : List D → S → Prop}
theorem wD_nil (h : q [] y) : wD C tNil y q := fun F σ H K wd k => k [] H [] y wd GoH.refl (Sh.refl y) .nil h
theorem wD_cons (w : wE C ta y fun z y1 => ∃ d, z = .d d ∧ wD C ts y1 fun ds y2 => q (d :: ds) y2) : wD C (tCons ta ts) y q := by
  intro F σ H K wd k
  refine w F σ H _ wd fun x H1 z y1 w1 g1 s1 r1 q1 => ?_
  obtain ⟨d, rfl, h⟩ := q1
  exact h F σ H1 _ w1 fun vs H2 ds y2 w2 g2 s2 r2 q2 => k (x :: vs) H2 (d :: ds) y2 w2 (g1.trans g2) (s1.trans s2) (.cons (Rp.go g2 r1) r2) q2
theorem wD_mono {q' : List D → S → Prop} (h : wD C ts y q) (e : ∀ z y', q z y' → q' z y') : wD C ts y q' := fun F σ H K w k => h F σ H K w fun vs H' z y' a b c d f => k vs H' z y' a b c d (e z y' f)
theorem wE_tup (w : wD C ts y fun ds y1 => ds.length ≤ sizeLine ∧ Q (.d (.tuple ds)) y1) : wE C (tTup ts) y Q := by
  intro F σ H K wd k
  refine w F σ H _ wd fun vs H1 ds y1 w1 g1 s1 r1 ⟨hz, q1⟩ => ⟨by rw [r1.len]; exact hz, fun p hp => ?_⟩
  have gr := grow_upd (o := .tup vs) hp
  exact k _ _ (.d (.tuple ds)) y1 (w1.grow gr) (g1.trans (go_grow gr)) s1 (.tup (.inl ⟨w1.new hp, .inl upd_same⟩) (r1.go (go_grow gr))) q1
theorem wE_lst (w : wD C ts y fun ds y1 => ds.length ≤ sizeLine ∧ Q (.d (.list ds)) y1) : wE C (tLst ts) y Q := by
  intro F σ H K wd k
  refine w F σ H _ wd fun vs H1 ds y1 w1 g1 s1 r1 ⟨hz, q1⟩ => ⟨by rw [r1.len]; exact hz, fun p hp => ?_⟩
  have gr := grow_upd (o := .lst vs) hp
  exact k _ _ (.d (.list ds)) y1 (w1.grow gr) (g1.trans (go_grow gr)) s1 (.lst (.inl ⟨w1.new hp, .inl upd_same⟩) (r1.go (go_grow gr))) q1
theorem wE_dnew (h : Q (.d (.dict [])) y) : wE C tDNewK y Q := by
  intro F σ H K wd k p hp
  have gr := grow_upd (o := .dK []) hp
  exact k _ _ (.d (.dict [])) y (wd.grow gr) (go_grow gr) (Sh.refl y) (.dic (wd.new hp) upd_same .nil) h
theorem wE_disp1 {kk : Key} {v : V} {d : D} (s : Sc v d) (h : Q (.d (.dict [(kD kk, d)])) y) : wE C (tDisp [(tC (kV kk), tC v)]) y Q := by
  intro F σ H K wd k p hp
  refine ⟨upd_same, [(kk, v)], rfl, by simp, ?_⟩
  have gr : ∀ a u, H a = some u → upd (upd H p (.dK [])) p (.dK (mergeK [] [(kk, v)])) a = some u := fun a u e => by rw [upd_upd]; exact grow_upd hp a u e
  refine k _ _ (.d (.dict [(kD kk, d)])) y (wd.grow gr) (go_grow gr) (Sh.refl y) (.dic (wd.new hp) (kvs := [(kk, v)]) ?_ (.cons s.rp .nil)) h
  rw [upd_same]
  rfl
theorem wE_cb {r : List V → Hp → VK → Prop} {res : List D → D → Prop} (h : CbD C.K r res) (w : wD C ts y fun ds y1 => ∃ g, res ds g ∧ Q (.d g) y1) : wE C (tCB r ts) y Q := by
  intro F σ H K wd k
  refine w F σ H _ wd fun vs H1 ds y1 w1 g1 s1 r1 q1 => ?_
  obtain ⟨g, hres, hq⟩ := q1
  exact h (Mv F σ y1) H1 vs ds g K (fun a => w1.new) r1 hres fun v H2 gr rv => k v H2 (.d g) y1 (w1.grow gr) (g1.trans (go_grow gr)) s1 rv hq
theorem wE_abs (w : wD C ts y fun ds y1 => ∃ i, ds = [.int i] ∧ Q (.d (.int (if i < 0 then -i else i))) y1) : wE C (tCB (fun xs H Q => ∃ i, xs = [.int i] ∧ Q (.int (if i < 0 then -i else i)) H) ts) y Q := by
  refine wE_cb (res := fun ds g => ∃ i, ds = [.int i] ∧ g = .int (if i < 0 then -i else i)) ?_ (wD_mono w fun ds y1 ⟨i, e, q⟩ => ⟨_, ⟨i, e, rfl⟩, q⟩)
  rintro M H xs ds g Q _ r ⟨i, rfl, rfl⟩ k
  obtain ⟨v, rfl, rv⟩ := rpA1 r
  exact ⟨i, by rw [rp_int rv], k _ H (fun _ _ e => e) (.int _)⟩
theorem wE_max2 (w : wD C ts y fun ds y1 => ∃ i j, ds = [.int i, .int j] ∧ Q (.d (.int (if j > i then j else i))) y1) : wE C (tCB (fun xs H Q => ∃ i j, xs = [.int i, .int j] ∧ Q (.int (if j > i then j else i)) H) ts) y Q := by
  refine wE_cb (res := fun ds g => ∃ i j, ds = [.int i, .int j] ∧ g = .int (if j > i then j else i)) ?_ (wD_mono w fun ds y1 ⟨i, j, e, q⟩ => ⟨_, ⟨i, j, e, rfl⟩, q⟩)
  rintro M H xs ds g Q _ r ⟨i, j, rfl, rfl⟩ k
  obtain ⟨v, u, rfl, rv, ru⟩ := rpA2 r
  exact ⟨i, j, by rw [rp_int rv, rp_int ru], k _ H (fun _ _ e => e) (.int _)⟩
theorem wE_min2 (w : wD C ts y fun ds y1 => ∃ i j, ds = [.int i, .int j] ∧ Q (.d (.int (if j < i then j else i))) y1) : wE C (tCB (fun xs H Q => ∃ i j, xs = [.int i, .int j] ∧ Q (.int (if j < i then j else i)) H) ts) y Q := by
  refine wE_cb (res := fun ds g => ∃ i j, ds = [.int i, .int j] ∧ g = .int (if j < i then j else i)) ?_ (wD_mono w fun ds y1 ⟨i, j, e, q⟩ => ⟨_, ⟨i, j, e, rfl⟩, q⟩)
  rintro M H xs ds g Q _ r ⟨i, j, rfl, rfl⟩ k
  obtain ⟨v, u, rfl, rv, ru⟩ := rpA2 r
  exact ⟨i, j, by rw [rp_int rv, rp_int ru], k _ H (fun _ _ e => e) (.int _)⟩
theorem wE_int1 (w : wD C ts y fun ds y1 => (∃ i, ds = [.int i] ∧ Q (.d (.int i)) y1) ∨ ∃ b, ds = [.bool b] ∧ Q (.d (.int (if b then 1 else 0))) y1) :
    wE C (tCB (fun xs H Q => (∃ i, xs = [.int i] ∧ Q (.int i) H) ∨ ∃ k, xs = [.bl k] ∧ Q (.int (if k then 1 else 0)) H) ts) y Q := by
  refine wE_cb (res := fun ds g => (∃ i, ds = [.int i] ∧ g = .int i) ∨ ∃ b, ds = [.bool b] ∧ g = .int (if b then 1 else 0)) ?_ (wD_mono w fun ds y1 h => ?_)
  · rintro M H xs ds g Q _ r (⟨i, rfl, rfl⟩ | ⟨b, rfl, rfl⟩) k
    · obtain ⟨v, rfl, rv⟩ := rpA1 r
      exact .inl ⟨i, by rw [rp_int rv], k _ H (fun _ _ e => e) (.int _)⟩
    · obtain ⟨v, rfl, rv⟩ := rpA1 r
      exact .inr ⟨b, by rw [rp_bl rv], k _ H (fun _ _ e => e) (.int _)⟩
  · rcases h with ⟨i, e, q⟩ | ⟨b, e, q⟩
    · exact ⟨_, .inl ⟨i, e, rfl⟩, q⟩
    · exact ⟨_, .inr ⟨b, e, rfl⟩, q⟩
theorem wE_strI (w : wD C ts y fun ds y1 => ∃ i, ds = [.int i] ∧ i.natAbs.log2 < 1920 ∧ Q (.d (.str (toString i))) y1) : wE C (tCB (fun xs H Q => ∃ i, xs = [.int i] ∧ i.natAbs.log2 < 1920 ∧ Q (.str (toString i)) H) ts) y Q := by
  refine wE_cb (res := fun ds g => ∃ i, ds = [.int i] ∧ i.natAbs.log2 < 1920 ∧ g = .str (toString i)) ?_ (wD_mono w fun ds y1 ⟨i, e, c, q⟩ => ⟨_, ⟨i, e, c, rfl⟩, q⟩)
  rintro M H xs ds g Q _ r ⟨i, rfl, c, rfl⟩ k
  obtain ⟨v, rfl, rv⟩ := rpA1 r
  exact ⟨i, by rw [rp_int rv], c, k _ H (fun _ _ e => e) (.str _)⟩
theorem wE_intS (w : wD C ts y fun ds y1 => ∃ a n, ds = [.str a] ∧ PySem.intText? a = some n ∧ a.length ≤ 640 ∧ Q (.d (.int n)) y1) : wE C (tCB (fun xs H Q => ∃ a n, xs = [.str a] ∧ PySem.intText? a = some n ∧ a.length ≤ 640 ∧ Q (.int n) H) ts) y Q := by
  refine wE_cb (res := fun ds g => ∃ a n, ds = [.str a] ∧ PySem.intText? a = some n ∧ a.length ≤ 640 ∧ g = .int n) ?_ (wD_mono w fun ds y1 ⟨i, n, e, c, l, q⟩ => ⟨_, ⟨i, n, e, c, l, rfl⟩, q⟩)
  rintro M H xs ds g Q _ r ⟨i, n, rfl, c, l, rfl⟩ k
  obtain ⟨v, rfl, rv⟩ := rpA1 r
  exact ⟨i, n, by rw [rp_str rv], c, l, k _ H (fun _ _ e => e) (.int _)⟩
theorem wE_len (w : wD C ts y fun ds y1 => ∃ d n, ds = [d] ∧ dLen d = some n ∧ Q (.d (.int n)) y1) : wE C (tCB (fun xs H Q => ∃ x n, xs = [x] ∧ LenV C.K x H n ∧ Q (.int (n : Nat)) H) ts) y Q := by
  refine wE_cb (res := fun ds g => ∃ d n, ds = [d] ∧ dLen d = some n ∧ g = .int n) ?_ (wD_mono w fun ds y1 ⟨d, n, e, c, q⟩ => ⟨_, ⟨d, n, e, c, rfl⟩, q⟩)
  rintro M H xs ds g Q _ r ⟨d, n, rfl, c, rfl⟩ k
  obtain ⟨v, rfl, rv⟩ := rpA1 r
  refine ⟨v, n, rfl, ?_, k _ H (fun _ _ e => e) (.int _)⟩
  cases rv with
  | non => cases c
  | bl _ => cases c
  | int _ => cases c
  | dic _ _ _ => cases c
  | str z =>
    simp only [dLen] at c
    by_cases h : z.length ≤ sizeLine
    · rw [if_pos h] at c; cases c; exact ⟨h, rfl⟩
    · rw [if_neg h] at c; cases c
  | lst h1 h2 => cases c; exact .inl ⟨_, h1.sq, h2.len.symm⟩
  | tup h1 h2 => cases c; exact .inr ⟨_, h1.sq, h2.len.symm⟩
theorem wE_all (w : wD C ts y fun ds y1 => ∃ bs : List Bool, ds = [.list (bs.map PyData.bool)] ∧ Q (.d (.bool (bs.all id))) y1) : wE C (tCB (rAll C.K) ts) y Q := by
  refine wE_cb (res := fun ds g => ∃ bs : List Bool, ds = [.list (bs.map PyData.bool)] ∧ g = .bool (bs.all id)) ?_ (wD_mono w fun ds y1 ⟨i, e, q⟩ => ⟨_, ⟨i, e, rfl⟩, q⟩)
  rintro M H xs ds g Q _ r ⟨bs, rfl, rfl⟩ k
  obtain ⟨v, rfl, rv⟩ := rpA1 r
  obtain ⟨a, us, rfl, h1, h2⟩ := rp_lst rv
  have e := rpA_bls h2
  subst e
  exact ⟨a, bs, rfl, h1.sq, k _ H (fun _ _ e => e) (.bl _)⟩
theorem wE_any (w : wD C ts y fun ds y1 => ∃ bs : List Bool, ds = [.list (bs.map PyData.bool)] ∧ Q (.d (.bool (bs.any id))) y1) : wE C (tCB (rAny C.K) ts) y Q := by
  refine wE_cb (res := fun ds g => ∃ bs : List Bool, ds = [.list (bs.map PyData.bool)] ∧ g = .bool (bs.any id)) ?_ (wD_mono w fun ds y1 ⟨i, e, q⟩ => ⟨_, ⟨i, e, rfl⟩, q⟩)
  rintro M H xs ds g Q _ r ⟨bs, rfl, rfl⟩ k
  obtain ⟨v, rfl, rv⟩ := rpA1 r
  obtain ⟨a, us, rfl, h1, h2⟩ := rp_lst rv
  have e := rpA_bls h2
  subst e
  exact ⟨a, bs, rfl, h1.sq, k _ H (fun _ _ e => e) (.bl _)⟩
theorem wE_sum (w : wD C ts y fun ds y1 => ∃ bs : List Int, ds = [.list (bs.map PyData.int)] ∧ Q (.d (.int bs.sum)) y1) : wE C (tCB (rSum C.K) ts) y Q := by
  refine wE_cb (res := fun ds g => ∃ bs : List Int, ds = [.list (bs.map PyData.int)] ∧ g = .int bs.sum) ?_ (wD_mono w fun ds y1 ⟨i, e, q⟩ => ⟨_, ⟨i, e, rfl⟩, q⟩)
  rintro M H xs ds g Q _ r ⟨bs, rfl, rfl⟩ k
  obtain ⟨v, rfl, rv⟩ := rpA1 r
  obtain ⟨a, us, rfl, h1, h2⟩ := rp_lst rv
  have e := rpA_ints h2
  subst e
  exact ⟨a, bs, rfl, h1.sq, k _ H (fun _ _ e => e) (.int _)⟩
theorem wE_listOf (w : wD C ts y fun ds y1 => ∃ d xs, ds = [d] ∧ dItems d = some xs ∧ Q (.d (.list xs)) y1) :
    wE C (tCB (fun xs H Q => ∃ p ys, xs = [.ref p] ∧ (SqL C.K H p ys ∨ SqT C.K H p ys) ∧ ∀ l, H l = none → Q (.ref l) (upd H l (.lst ys))) ts) y Q := by
  refine wE_cb (res := fun ds g => ∃ d xs, ds = [d] ∧ dItems d = some xs ∧ g = .list xs) ?_ (wD_mono w fun ds y1 ⟨i, xs, e, c, q⟩ => ⟨_, ⟨i, xs, e, c, rfl⟩, q⟩)
  rintro M H xs ds g Q fr r ⟨d, es, rfl, c, rfl⟩ k
  obtain ⟨v, rfl, rv⟩ := rpA1 r
  obtain ⟨a, us, rfl, h1, h2⟩ := rp_items rv c
  refine ⟨a, us, rfl, h1.elim (fun z => .inl z.sq) (fun z => .inr z.sq), fun p hp => k _ _ (grow_upd hp) (.lst (.inl ⟨fr p hp, .inl upd_same⟩) (h2.go fun a o n e => ⟨n, grow_upd hp a o e⟩))⟩
theorem wE_tupOf (w : wD C ts y fun ds y1 => ∃ d xs, ds = [d] ∧ dItems d = some xs ∧ Q (.d (.tuple xs)) y1) :
    wE C (tCB (fun xs H Q => ∃ p ys, xs = [.ref p] ∧ ((SqL C.K H p ys ∧ ∀ l, H l = none → Q (.ref l) (upd H l (.tup ys))) ∨ (SqT C.K H p ys ∧ Q (.ref p) H))) ts) y Q := by
  refine wE_cb (res := fun ds g => ∃ d xs, ds = [d] ∧ dItems d = some xs ∧ g = .tuple xs) ?_ (wD_mono w fun ds y1 ⟨i, xs, e, c, q⟩ => ⟨_, ⟨i, xs, e, c, rfl⟩, q⟩)
  rintro M H xs ds g Q fr r ⟨d, es, rfl, c, rfl⟩ k
  obtain ⟨v, rfl, rv⟩ := rpA1 r
  obtain ⟨a, us, rfl, h1, h2⟩ := rp_items rv c
  refine ⟨a, us, rfl, ?_⟩
  rcases h1 with h1 | h1
  · exact .inl ⟨h1.sq, fun p hp => k _ _ (grow_upd hp) (.tup (.inl ⟨fr p hp, .inl upd_same⟩) (h2.go fun a o n e => ⟨n, grow_upd hp a o e⟩))⟩
  · exact .inr ⟨h1.sq, k _ H (fun _ _ e => e) (.tup h1 h2)⟩
theorem wE_repr (w : wD C ts y fun ds y1 => ∃ d, ds = [d] ∧ dsm d = true ∧ d.showable = true ∧ d.depth ≤ 60 ∧ d.shown.length ≤ sizeLine ∧ Q (.d (.str d.shown)) y1) : wE C (tCB (rRepr C.K) ts) y Q := by
  refine wE_cb (res := fun ds g => ∃ d, ds = [d] ∧ dsm d = true ∧ d.showable = true ∧ d.depth ≤ 60 ∧ d.shown.length ≤ sizeLine ∧ g = .str d.shown) ?_ (wD_mono w fun ds y1 ⟨d, e, c1, c2, c3, c4, q⟩ => ⟨_, ⟨d, e, c1, c2, c3, c4, rfl⟩, q⟩)
  rintro M H xs ds g Q _ r ⟨d, rfl, c1, c2, c3, c4, rfl⟩ k
  obtain ⟨v, rfl, rv⟩ := rpA1 r
  exact ⟨v, d, rfl, rv.any, c1, c2, c3, c4, k _ H (fun _ _ e => e) (.str _)⟩
theorem wE_isi {T : String} (w : wE C te y fun z y1 => ∃ d, z = .d d ∧ Q (.d (.bool (isT T d))) y1) (hT : (tyNames.all fun n => (kitB n T).isSome) = true := by decide +kernel) : wE C (tCB (rIsi C.K) (tCons te (tCons (tC (.ty T)) tNil))) y Q := by
  intro F σ H K wd k
  refine w F σ H _ wd fun x H1 z y1 w1 g1 s1 r1 q1 => ?_
  obtain ⟨d, rfl, h⟩ := q1
  exact ⟨x, .ty T, _, _, isT T d, rfl, .ty T, rp_ty r1, kit_ty (kit_isT hT d), k _ H1 (.d (.bool (isT T d))) y1 w1 g1 s1 (.bl _) h⟩
theorem wE_isi2 {T U : String} (w : wE C te y fun z y1 => ∃ d, z = .d d ∧ Q (.d (.bool (isT T d || isT U d))) y1) (hT : (tyNames.all fun n => (kitB n T).isSome) = true := by decide +kernel) (hU : (tyNames.all fun n => (kitB n U).isSome) = true := by decide +kernel) :
    wE C (tCB (rIsiT C.K) (tCons te (tCons (tTup (tCons (tC (.ty T)) (tCons (tC (.ty U)) tNil))) tNil))) y Q := by
  intro F σ H K wd k
  refine w F σ H _ wd fun x H1 z y1 w1 g1 s1 r1 q1 => ?_
  obtain ⟨d, rfl, h⟩ := q1
  refine ⟨by show 2 ≤ sizeLine; decide, fun p hp => ?_⟩
  have gr := grow_upd (o := .tup [.ty T, .ty U]) hp
  refine ⟨x, p, [.ty T, .ty U], _, [.type T, .type U], isT T d || isT U d, rfl, upd_same, .cons (.ty T) (.cons (.ty U) .nil), rp_ty (Rp.go (go_grow (F := F) (σ := σ) (y := y1) gr) r1), ?_, k _ _ (.d (.bool (isT T d || isT U d))) y1 (w1.grow gr) (g1.trans (go_grow gr)) s1 (.bl _) h⟩
  refine kitAny_cons (b := isT T d) (kit_ty (kit_isT hT d)) (fun e => ?_) (fun e => by rw [e]; rfl)
  refine kitAny_cons (b := isT U d) (kit_ty (kit_isT hU d)) (fun e2 => ?_) (fun e2 => by rw [e, e2]; rfl)
  rw [e, e2]
  rfl
variable {tl th : TO}
theorem wO_no {q : Option Int → S → Prop} (h : q none y) : wO C tNoPart y q := fun F σ H K wd k => k none H y wd GoH.refl (Sh.refl y) h
theorem wO_part {q : Option Int → S → Prop} (w : wE C te y fun z y1 => ∃ i, z = .d (.int i) ∧ q (some i) y1) : wO C (tPart te) y q := by
  intro F σ H K wd k
  refine w F σ H _ wd fun x H1 z y1 w1 g1 s1 r1 q1 => ?_
  obtain ⟨i, rfl, h⟩ := q1
  exact ⟨i, rp_int r1, k (some i) H1 y1 w1 g1 s1 h⟩
theorem wE_sl (w : wE C te y fun z y1 => wO C tl y1 fun l y2 => wO C th y2 fun h y3 => ∃ d g, z = .d d ∧ dCut d l h = some g ∧ Q (.d g) y3) : wE C (tSl (rSlD C.K) te tl th) y Q := by
  intro F σ H K wd k
  refine w F σ H _ wd fun x H1 z y1 w1 g1 s1 r1 q1 => ?_
  refine q1 F σ H1 _ w1 fun l H2 y2 w2 g2 s2 q2 => ?_
  refine q2 F σ H2 _ w2 fun h H3 y3 w3 g3 s3 q3 => ?_
  obtain ⟨d, g, rfl, c, hq⟩ := q3
  have r3 : Rp C.K (Mv F σ y3) H3 x d := Rp.go (g2.trans g3) r1
  have G := (g1.trans g2).trans g3
  have SS := (s1.trans s2).trans s3
  cases r3 with
  | non => cases c
  | bl _ => cases c
  | int _ => cases c
  | dic _ _ _ => cases c
  | str z =>
    simp only [dCut] at c
    by_cases hz : z.length ≤ sizeLine
    · rw [if_pos hz] at c; cases c
      exact .inr (.inr ⟨z, rfl, hz, k _ H3 (.d (.str (cutS z l h))) y3 w3 G SS (.str _) hq⟩)
    · rw [if_neg hz] at c; cases c
  | @lst a xs ds h1 h2 =>
    cases c
    refine .inl ⟨a, xs, rfl, h1.sq, fun p hp => ?_⟩
    have gr := grow_upd (o := .lst (cutV xs l h)) hp
    exact k _ _ (.d (.list (cutD ds l h))) y3 (w3.grow gr) (G.trans (go_grow gr)) SS (.lst (.inl ⟨w3.new hp, .inl upd_same⟩) ((rpA_cut h2 l h).go (go_grow gr))) hq
  | @tup a xs ds h1 h2 =>
    cases c
    refine .inr (.inl ⟨a, xs, rfl, h1.sq, fun e => ?_, fun e p hp => ?_⟩)
    · rw [h2.len] at e
      rw [cutD_whole ds l h e] at hq
      exact k _ H3 (.d (.tuple ds)) y3 w3 G SS (.tup h1 h2) hq
    · have gr := grow_upd (o := .tup (cutV xs l h)) hp
      exact k _ _ (.d (.tuple (cutD ds l h))) y3 (w3.grow gr) (G.trans (go_grow gr)) SS (.tup (.inl ⟨w3.new hp, .inl upd_same⟩) ((rpA_cut h2 l h).go (go_grow gr))) hq
theorem wE_starts (w : wE C ta y fun z y1 => ∃ a, z = .d (.str a) ∧ wE C tb y1 fun z' y2 => ∃ b, z' = .d (.str b) ∧ Q (.d (.bool (Txt.startswith a b))) y2) :
    wE C (tM1 (fun x xs H Q => ∃ a b, x = .str a ∧ xs = [.str b] ∧ Q (.bl (Txt.startswith a b)) H) ta tb) y Q := by
  intro F σ H K wd k
  refine w F σ H _ wd fun x H1 z y1 w1 g1 s1 r1 q1 => ?_
  obtain ⟨a, rfl, q1⟩ := q1
  have e := rp_str r1
  subst e
  refine ⟨⟨a, rfl⟩, q1 F σ H1 _ w1 fun x2 H2 z' y2 w2 g2 s2 r2 q2 => ?_⟩
  obtain ⟨b, rfl, hq⟩ := q2
  exact ⟨a, b, rfl, by rw [rp_str r2], k _ H2 (.d (.bool _)) y2 w2 (g1.trans g2) (s1.trans s2) (.bl _) hq⟩
theorem wE_join (w : wE C ta y fun z y1 => ∃ a, z = .d (.str a) ∧ wE C tb y1 fun z' y2 => ∃ (d : D) (ys : List Str), z' = .d d ∧ dItems d = some (ys.map PyData.str) ∧ (ys.map (·.length)).sum + ys.length * a.length ≤ 16777216 ∧ Q (.d (.str (Txt.join a ys))) y2) :
    wE C (tM1 (fun x xs H Q => ∃ a p, ∃ ys : List Str, x = .str a ∧ xs = [.ref p] ∧ (SqL C.K H p (ys.map V.str) ∨ SqT C.K H p (ys.map V.str)) ∧ (ys.map (·.length)).sum + ys.length * a.length ≤ 16777216 ∧ Q (.str (Txt.join a ys)) H) ta tb) y Q := by
  intro F σ H K wd k
  refine w F σ H _ wd fun x H1 z y1 w1 g1 s1 r1 q1 => ?_
  obtain ⟨a, rfl, q1⟩ := q1
  have e := rp_str r1
  subst e
  refine ⟨⟨a, rfl⟩, q1 F σ H1 _ w1 fun x2 H2 z' y2 w2 g2 s2 r2 q2 => ?_⟩
  obtain ⟨d, ys, rfl, hi, hz, hq⟩ := q2
  obtain ⟨p, us, rfl, h1, h2⟩ := rp_items r2 hi
  have e := rpA_strs h2
  subst e
  exact ⟨a, p, ys, rfl, rfl, h1.elim (fun z => .inl z.sq) (fun z => .inr z.sq), hz, k _ H2 (.d (.str _)) y2 w2 (g1.trans g2) (s1.trans s2) (.str _) hq⟩
end
end Ux

set_option maxRecDepth 100000
set_option maxHeartbeats 4000000
namespace Ux
open PySem PySem.Spec PyProof.Rows L2 Tq
section
variable {C : Ct} {y : S} {ta tb tc te : TE} {t u : TT} {tx tz : TS} {ts : TA} {e : En} {Q : Z → S → Prop} {q : List Z → S → Prop}
/-! arguments of any kind -/
def wZ (C : Ct) (ta : TA) (y : S) (Q : List Z → S → Prop) : Prop := ∀ (F : Fr) σ H (K : List V → Hp → Prop), Wd C F σ y H → (∀ vs H' zs y', Wd C F σ y' H' → Go F σ y H σ y' H' → Sh y y' → RwA C.K (Mv F σ y') H' vs zs → Q zs y' → K vs H') → ta σ H K
theorem wZ_nil (h : q [] y) : wZ C tNil y q := fun F σ H K wd k => k [] H [] y wd GoH.refl (Sh.refl y) .nil h
theorem wZ_cons (w : wE C ta y fun z y1 => wZ C ts y1 fun zs y2 => q (z :: zs) y2) : wZ C (tCons ta ts) y q := by
  intro F σ H K wd k
  refine w F σ H _ wd fun x H1 z y1 w1 g1 s1 r1 h => ?_
  exact h F σ H1 _ w1 fun vs H2 ds y2 w2 g2 s2 r2 q2 => k (x :: vs) H2 (z :: ds) y2 w2 (g1.trans g2) (s1.trans s2) (.cons (r1.w.go g2) r2) q2
theorem wZ_mono {q' : List Z → S → Prop} (h : wZ C ts y q) (e : ∀ z y', q z y' → q' z y') : wZ C ts y q' := fun F σ H K w k => h F σ H K w fun vs H' z y' a b c d f => k vs H' z y' a b c d (e z y' f)
theorem wE_tupZ (w : wZ C ts y fun zs y1 => zs.length ≤ sizeLine ∧ Q (.tup zs) y1) : wE C (tTup ts) y Q := by
  intro F σ H K wd k
  refine w F σ H _ wd fun vs H1 zs y1 w1 g1 s1 r1 ⟨hz, q1⟩ => ⟨by rw [r1.len]; exact hz, fun p hp => ?_⟩
  have gr := grow_upd (o := .tup vs) hp
  exact k _ _ (.tup zs) y1 (w1.grow gr) (g1.trans (go_grow gr)) s1 (.tup (.inl ⟨w1.new hp, .inl upd_same⟩) (r1.go (go_grow (F := F) (σ := σ) (y := y1) gr))) q1
theorem wE_lstZ (w : wZ C ts y fun zs y1 => zs.length ≤ sizeLine ∧ Q (.lst zs) y1) : wE C (tLst ts) y Q := by
  intro F σ H K wd k
  refine w F σ H _ wd fun vs H1 zs y1 w1 g1 s1 r1 ⟨hz, q1⟩ => ⟨by rw [r1.len]; exact hz, fun p hp => ?_⟩
  have gr := grow_upd (o := .lst vs) hp
  exact k _ _ (.lst zs) y1 (w1.grow gr) (g1.trans (go_grow gr)) s1 (.lst (.inl ⟨w1.new hp, .inl upd_same⟩) (r1.go (go_grow (F := F) (σ := σ) (y := y1) gr))) q1
/-! storing -/
theorem wS_asg {i : Nat} (w : wE C te y fun z y1 => e.nx (y1.set i (some z))) : wS C (tAsg te (gName i)) y e := by
  intro F σ H E st wd k
  exact w F σ H _ wd fun v H1 z y1 w1 g1 s1 r1 q => k.nx _ H1 _ (w1.set_z r1) (g1.trans go_set) q
theorem wS_par {i j : Nat} (w : wZ C ts y fun zs y1 => ∃ z u, zs = [z, u] ∧ e.nx ((y1.set i (some z)).set j (some u))) : wS C (tPar i j ts) y e := by
  intro F σ H E st wd k
  refine w F σ H _ wd fun vs H1 zs y1 w1 g1 s1 r1 q => ?_
  obtain ⟨z, u, rfl, q⟩ := q
  cases r1 with | @cons v _ vs _ rv r2 =>
  cases r2 with | @cons v2 _ vs2 _ ru r3 =>
  cases r3
  refine ⟨v, v2, rfl, k.nx _ H1 _ ((w1.set_z rv.z).set_z (Rz.go (σ := σ) go_set ru.z).w.z) ((g1.trans (go_set (σ' := σ))).trans go_set) q⟩
theorem wS_aug {i : Nat} {f : Int → Int → Int} {a : Int} (hx : y.l[i]? = some (some (.d (.int a)))) (w : wE C te y fun z y1 => ∃ b, z = .d (.int b) ∧ e.nx (y1.set i (some (.d (.int (f a b)))))) : wS C (tAug i te (ipI f)) y e := by
  intro F σ H E st wd k
  obtain ⟨x, h1, h2⟩ := wd.slot i _ hx
  cases h2 with | d h2 =>
  refine ⟨x, h1, w F σ H _ wd fun v H1 z y1 w1 g1 s1 r1 q => ?_⟩
  obtain ⟨b, rfl, q⟩ := q
  exact ⟨a, b, rp_int h2, rp_int r1, k.nx _ H1 _ (w1.set_z (z := .d (.int (f a b))) (.int _)) (g1.trans go_set) q⟩
/-! targets -/
def wG (C : Ct) (g : TG) (z : Z) (y : S) (Q : S → Prop) : Prop := ∀ (F : Fr) σ H (v : V) (R : St → Hp → Prop), Wd C F σ y H → Rz C F σ y H v z → (∀ σ' y', Wd C F σ' y' H → Go F σ y H σ' y' H → Q y' → R σ' H) → g v σ H R
variable {g : TG} {Qg : S → Prop}
theorem wG_name {i : Nat} {z : Z} (h : Qg (y.set i (some z))) : wG C (gName i) z y Qg := fun F σ H v R wd r k => k _ _ (wd.set_z r) go_set h
def wGs (C : Ct) (g : TGs) (zs : List Z) (y : S) (Q : S → Prop) : Prop := ∀ (F : Fr) σ H (vs : List V) (R : St → Hp → Prop), Wd C F σ y H → RwA C.K (Mv F σ y) H vs zs → (∀ σ' y', Wd C F σ' y' H → Go F σ y H σ' y' H → Q y' → R σ' H) → g vs σ H R
theorem wGs_nil (h : Qg y) : wGs C gNil [] y Qg := fun F σ H vs R wd r k => by
  cases r
  exact ⟨rfl, k σ y wd GoH.refl h⟩
theorem wGs_cons {gs : TGs} {z : Z} {zs : List Z} (h : wG C g z y fun y1 => wGs C gs zs y1 Qg) : wGs C (gCons g gs) (z :: zs) y Qg := fun F σ H vs R wd r k => by
  cases r with
  | @cons v _ vs _ r1 r2 =>
    refine ⟨v, vs, rfl, h F σ H v _ wd r1.z fun σ1 y1 w1 g1 q1 => ?_⟩
    exact q1 F σ1 H vs R w1 (r2.go g1) fun σ2 y2 w2 g2 q2 => k σ2 y2 w2 (g1.trans g2) q2
theorem wG_tup {n : Nat} {gs : TGs} {ds : List D} (hn : ds.length = n) (h : wGs C gs (ds.map Z.d) y Qg) : wG C (gTup C.K n gs) (.d (.tuple ds)) y Qg := fun F σ H v R wd r k => by
  obtain ⟨a, us, rfl, h1, h2⟩ := rp_tup r
  exact ⟨a, us, rfl, h1.sq, by rw [h2.len]; exact hn, h F σ H us R wd (RwA.of h2) k⟩
theorem wG_tupZ {n : Nat} {gs : TGs} {zs : List Z} (hn : zs.length = n) (h : wGs C gs zs y Qg) : wG C (gTup C.K n gs) (.tup zs) y Qg := fun F σ H v R wd r k => by
  cases r.w with
  | tup h1 h2 => exact ⟨_, _, rfl, h1.sq, by rw [h2.len]; exact hn, h F σ H _ R wd h2 k⟩
theorem wS_asgG (w : wE C te y fun z y1 => wG C g z y1 e.nx) : wS C (tAsg te g) y e := by
  intro F σ H E st wd k
  exact w F σ H _ wd fun v H1 z y1 w1 g1 s1 r1 q => q F σ H1 v _ w1 r1 fun σ2 y2 w2 g2 q2 => k.nx σ2 H1 y2 w2 (g1.trans g2) q2
end
section
variable {C : Ct} {y : S} {ta tb tc te : TE} {t u : TT} {tx tz : TS} {ts : TA} {e : En} {R : Bool → S → Prop}
theorem EnOk.go {σ σ' : St} {y' : S} {H H' : Hp} {E : Ends} (k : EnOk C F σ y H e E) (g : Go F σ y H σ' y' H') : EnOk C F σ' y' H' e E :=
  ⟨fun a b c w g2 q => k.nx a b c w (g.trans g2) q, fun a b c d f w g2 r q => k.rt a b c d f w (g.trans g2) r q, fun a b c w g2 q => k.bk a b c w (g.trans g2) q, fun a b c w g2 q => k.ct a b c w (g.trans g2) q⟩
theorem wS_seq (w : wS C tx y { e with nx := fun y1 => wS C tz y1 e }) : wS C (tSeq tx tz) y e := by
  intro F σ H E st wd k
  refine w F σ H _ st wd ⟨fun σ1 H1 y1 w1 g1 q => ?_, k.rt, k.bk, k.ct⟩
  exact q F σ1 H1 E st w1 (k.go g1)
theorem wS_next (h : e.nx y) : wS C tNext y e := fun F σ H E st wd k => k.nx σ H y wd GoH.refl h
theorem wS_ret (w : wE C te y fun z y1 => e.rt z y1) : wS C (tRet te) y e := by
  intro F σ H E st wd k
  exact w F σ H _ wd fun v H1 z y1 w1 g1 s1 r1 q => k.rt σ v H1 z y1 w1 g1 r1 q
theorem wS_retN (h : e.rt (.d .none) y) : wS C tRetN y e := fun F σ H E st wd k => k.rt σ .non H (.d .none) y wd GoH.refl .non h
theorem wS_drop (w : wE C te y fun z y1 => e.nx y1) : wS C (tDrop te) y e := by
  intro F σ H E st wd k
  exact w F σ H _ wd fun v H1 z y1 w1 g1 s1 r1 q => k.nx σ H1 y1 w1 g1 q
theorem wS_if (w : wT C t y fun b y1 => if b = true then wS C tx y1 e else wS C tz y1 e) : wS C (tIfS t tx tz) y e := by
  intro F σ H E st wd k
  refine w F σ H _ wd fun b H1 y1 w1 g1 s1 q => ?_
  cases b with
  | true => exact q F σ H1 E st w1 (k.go g1)
  | false => exact q F σ H1 E st w1 (k.go g1)
theorem wS_mono {e' : En} (h : wS C tx y e) (h1 : ∀ y, e.nx y → e'.nx y) (h2 : ∀ z y, e.rt z y → e'.rt z y) (h3 : ∀ y, e.bk y → e'.bk y) (h4 : ∀ y, e.ct y → e'.ct y) : wS C tx y e' := fun F σ H E st wd k =>
  h F σ H E st wd ⟨fun a b c w g q => k.nx a b c w g (h1 _ q), fun a b c d f w g r q => k.rt a b c d f w g r (h2 _ _ q), fun a b c w g q => k.bk a b c w g (h3 _ q), fun a b c w g q => k.ct a b c w g (h4 _ q)⟩
theorem wS_seqA {i : Nat} (w : wE C te y fun z y1 => wS C tz (y1.set i (some z)) e) : wS C (tSeq (tAsg te (gName i)) tz) y e := wS_seq (wS_asg w)
theorem wS_seqP {i j : Nat} (w : wZ C ts y fun zs y1 => ∃ z u, zs = [z, u] ∧ wS C tz ((y1.set i (some z)).set j (some u)) e) : wS C (tSeq (tPar i j ts) tz) y e := wS_seq (wS_par w)
theorem wS_seqI (w : wT C t y fun b y1 => if b = true then wS C tx y1 { nx := fun y2 => wS C tz y2 e, rt := e.rt, bk := e.bk, ct := e.ct } else wS C tz y1 e) : wS C (tSeq (tIfS t tx tNext) tz) y e := by
  refine wS_seq (wS_if (wT_mono w fun b y1 h => ?_))
  cases b with
  | true => exact h
  | false => exact wS_next h
theorem wS_ifN (w : wT C t y fun b y1 => if b = true then wS C tx y1 e else e.nx y1) : wS C (tIfS t tx tNext) y e := by
  refine wS_if (wT_mono w fun b y1 h => ?_)
  cases b with
  | true => exact h
  | false => exact wS_next h
def JOk (C : Ct) (F : Fr) (J : It) (σ : St) (y : S) (H : Hp) (xs : List D) : Prop := ∀ (F1 : Fr) σ1 y1 H1, Wd0 C.K F1 σ1 y1 H1 → GoH (Mv F σ y) H (Mv F1 σ1 y1) H1 → ∀ i : Nat, (i < xs.length → J.go i H1) ∧ (xs.length ≤ i → J.stop i H1) ∧
  ∀ x, xs[i]? = some x → ∀ v H2, J.yld i H1 v H2 → (∀ a o, H1 a = some o → H2 a = some o) ∧ Rp C.K (Mv F1 σ1 y1) H2 v x
def wI (C : Ct) (wi : TI) (y : S) (Q : List D → S → Prop) : Prop := ∀ (F : Fr) σ H (R : It → Hp → Prop), Wd C F σ y H → (∀ J H' xs y', Wd C F σ y' H' → Go F σ y H σ y' H' → Sh y y' → JOk C F J σ y' H' xs → Q xs y' → R J H') → wi σ H R
variable {Qi : List D → S → Prop} {wi : TI}
theorem wI_list (w : wE C te y fun z y1 => ∃ xs, z = .d (.list xs) ∧ Qi xs y1) : wI C (iList C.K te) y Qi := by
  intro F σ H R wd k
  refine w F σ H _ wd fun v H1 z y1 w1 g1 s1 r1 q => ?_
  obtain ⟨xs, rfl, q⟩ := q
  obtain ⟨a, us, rfl, h1, h2⟩ := rp_lst r1
  refine ⟨a, rfl, ⟨us, h1.sq⟩, k _ H1 xs y1 w1 g1 s1 (fun F1 σ2 y2 H2 w2 g2 i => ?_) q⟩
  have e1 := (h1.go g2).sq
  have e2 := h2.go g2
  refine ⟨fun hi => ?_, fun hi => ⟨us, e1, by rw [h2.len]; exact hi⟩, fun x hx v H3 hy => ?_⟩
  · have : i < us.length := by rw [h2.len]; exact hi
    exact ⟨us, us[i], e1, by simp [this]⟩
  · obtain ⟨rfl, hv⟩ := hy
    obtain ⟨d, hd, rd⟩ := e2.getV (hv us e1)
    rw [hx] at hd
    cases hd
    exact ⟨fun _ _ e => e, rd⟩
theorem wI_tup (w : wE C te y fun z y1 => ∃ xs, z = .d (.tuple xs) ∧ Qi xs y1) : wI C (iTup C.K te) y Qi := by
  intro F σ H R wd k
  refine w F σ H _ wd fun v H1 z y1 w1 g1 s1 r1 q => ?_
  obtain ⟨xs, rfl, q⟩ := q
  obtain ⟨a, us, rfl, h1, h2⟩ := rp_tup r1
  refine ⟨a, rfl, ⟨us, h1.sq⟩, k _ H1 xs y1 w1 g1 s1 (fun F1 σ2 y2 H2 w2 g2 i => ?_) q⟩
  have e1 := (h1.go g2).sq
  have e2 := h2.go g2
  refine ⟨fun hi => ?_, fun hi => ⟨us, e1, by rw [h2.len]; exact hi⟩, fun x hx v H3 hy => ?_⟩
  · have : i < us.length := by rw [h2.len]; exact hi
    exact ⟨us, us[i], e1, by simp [this]⟩
  · obtain ⟨rfl, hv⟩ := hy
    obtain ⟨d, hd, rd⟩ := e2.getV (hv us e1)
    rw [hx] at hd
    cases hd
    exact ⟨fun _ _ e => e, rd⟩
theorem wI_str (w : wE C te y fun z y1 => ∃ x, z = .d (.str x) ∧ Qi (signs x) y1) : wI C (iStr te) y Qi := by
  intro F σ H R wd k
  refine w F σ H _ wd fun v H1 z y1 w1 g1 s1 r1 q => ?_
  obtain ⟨x, rfl, q⟩ := q
  refine ⟨x, rp_str r1, k _ H1 (signs x) y1 w1 g1 s1 (fun F1 σ2 y2 H2 w2 g2 i => ⟨fun hi => ?_, fun hi => ?_, fun d hd v H3 hy => ?_⟩) q⟩
  · rw [signs_len] at hi; exact hi
  · rw [signs_len] at hi; exact hi
  · obtain ⟨rfl, c, hc, rfl⟩ := hy
    refine ⟨fun _ _ e => e, ?_⟩
    unfold Tq.signs at hd
    rw [List.getElem?_map, Array.getElem?_toList, hc] at hd
    cases hd
    exact .str _
theorem wI_rng1 (w : wD C ts y fun ds y1 => ∃ j : Int, ds = [.int j] ∧ -(2 ^ 62) ≤ j ∧ j < 2 ^ 62 ∧ Qi (rangeD 0 j.toNat) y1) : wI C (iRng1 ts) y Qi := by
  intro F σ H R wd k
  refine w F σ H _ wd fun vs H1 ds y1 w1 g1 s1 r1 q => ?_
  obtain ⟨j, rfl, h1, h2, q⟩ := q
  obtain ⟨v, rfl, rv⟩ := rpA1 r1
  have e := rp_int rv
  subst e
  refine ⟨j, rfl, h1, h2, k _ H1 _ y1 w1 g1 s1 (fun F1 σ2 y2 H2 w2 g2 i => ⟨fun hi => ?_, fun hi => ?_, fun d hd v H3 hy => ?_⟩) q⟩
  · rw [rangeD_len] at hi; exact hi
  · rw [rangeD_len] at hi; exact hi
  · obtain ⟨rfl, rfl⟩ := hy
    obtain ⟨_, rfl⟩ := rangeD_get hd
    exact ⟨fun _ _ e => e, .int _⟩
theorem wI_rng2 (w : wD C ts y fun ds y1 => ∃ i j : Int, ds = [.int i, .int j] ∧ (-(2 ^ 62) ≤ i ∧ i < 2 ^ 62 ∧ -(2 ^ 62) ≤ j ∧ j < 2 ^ 62) ∧ Qi (rangeD i (j - i).toNat) y1) : wI C (iRng2 ts) y Qi := by
  intro F σ H R wd k
  refine w F σ H _ wd fun vs H1 ds y1 w1 g1 s1 r1 q => ?_
  obtain ⟨i0, j, rfl, h1, q⟩ := q
  obtain ⟨v, u, rfl, rv, ru⟩ := rpA2 r1
  have e := rp_int rv
  have e' := rp_int ru
  subst e e'
  refine ⟨i0, j, rfl, h1, k _ H1 _ y1 w1 g1 s1 (fun F1 σ2 y2 H2 w2 g2 i => ⟨fun hi => ?_, fun hi => ?_, fun d hd v H3 hy => ?_⟩) q⟩
  · rw [rangeD_len] at hi; exact hi
  · rw [rangeD_len] at hi; exact hi
  · obtain ⟨rfl, rfl⟩ := hy
    obtain ⟨_, rfl⟩ := rangeD_get hd
    exact ⟨fun _ _ e => e, .int _⟩
variable {g : TG} {Qg : S → Prop}
theorem wS_for (w : wI C wi y fun xs y1 => ∃ I : Nat → S → Prop, I 0 y1 ∧ (∀ i x y2, xs[i]? = some x → I i y2 → wG C g (.d x) y2 fun y3 => wS C tx y3 { nx := I (i + 1), ct := I (i + 1), bk := e.nx, rt := e.rt }) ∧ (∀ y2, I xs.length y2 → e.nx y2)) :
    wS C (tFor wi g tx) y e := by
  intro F σ H E st wd k
  refine w F σ H _ wd fun J H1 xs y1 w1 g1 s1 hJ ⟨I, h0, hs, hd⟩ => ?_
  refine ⟨fun i m σ2 H2 => m = xs.length - i ∧ i ≤ xs.length ∧ ∃ y2, Wd C F σ2 y2 H2 ∧ Go F σ y1 H1 σ2 y2 H2 ∧ I i y2, ⟨xs.length, by simp, Nat.zero_le _, y1, w1, GoH.refl, h0⟩, ?_⟩
  rintro i m σ2 H2 ⟨rfl, hi, y2, w2, g2, hI⟩
  obtain ⟨j1, j2, j3⟩ := hJ F σ2 y2 H2 w2.toWd0 g2 i
  by_cases hlt : i < xs.length
  · refine .inr ⟨j1 hlt, fun σ3 H3 => ∃ y3, Wd C F σ3 y3 H3 ∧ Go F σ y1 H1 σ3 y3 H3 ∧ I (i + 1) y3, fun σ3 H3 ⟨y3, w3, g3, h3⟩ => ⟨xs.length - (i + 1), by omega, rfl, hlt, y3, w3, g3, h3⟩, fun v H3 hy => ?_⟩
    have ex : xs[i]? = some xs[i] := List.getElem?_eq_getElem hlt
    obtain ⟨gr, rv⟩ := j3 _ ex v H3 hy
    have w3 := w2.grow gr
    have g3 := g2.trans (go_grow (F := F) (σ := σ2) (y := y2) gr)
    refine hs i _ y2 ex hI F σ2 H3 v _ w3 rv fun σ4 y4 w4 g4 q4 => ?_
    refine q4 F σ4 H3 _ st w4 ⟨fun σ5 H5 y5 w5 g5 q5 => ⟨y5, w5, (g3.trans g4).trans g5, q5⟩, fun σ5 v5 H5 z5 y5 w5 g5 r5 q5 => k.rt σ5 v5 H5 z5 y5 w5 (((g1.trans g3).trans g4).trans g5) r5 q5,
      fun σ5 H5 y5 w5 g5 q5 => k.nx σ5 H5 y5 w5 (((g1.trans g3).trans g4).trans g5) q5, fun σ5 H5 y5 w5 g5 q5 => ⟨y5, w5, (g3.trans g4).trans g5, q5⟩⟩
  · have ei : i = xs.length := by omega
    subst ei
    exact .inl ⟨j2 (Nat.le_refl _), k.nx σ2 H2 y2 w2 (g1.trans g2) (hd y2 hI)⟩
theorem wS_while (W : Nat → S → Prop) (h0 : ∃ m, W m y) (hs : ∀ m y1, W m y1 → wT C t y1 fun b y2 => if b = true then wS C tx y2 { nx := fun y3 => ∃ m', m' < m ∧ W m' y3, ct := fun y3 => ∃ m', m' < m ∧ W m' y3, bk := e.nx, rt := e.rt } else e.nx y2) :
    wS C (tWhile t tx) y e := by
  intro F σ H E st wd k
  obtain ⟨m0, h0⟩ := h0
  refine ⟨fun m σ1 H1 => ∃ y1, Wd C F σ1 y1 H1 ∧ Go F σ y H σ1 y1 H1 ∧ W m y1, ⟨m0, y, wd, GoH.refl, h0⟩, ?_⟩
  rintro m σ1 H1 ⟨y1, w1, g1, hw⟩
  refine hs m y1 hw F σ1 H1 _ w1 fun b H2 y2 w2 g2 s2 q => ?_
  cases b with
  | true =>
    refine ⟨fun σ3 H3 => ∃ m', m' < m ∧ ∃ y3, Wd C F σ3 y3 H3 ∧ Go F σ y H σ3 y3 H3 ∧ W m' y3, fun σ3 H3 ⟨m', hm, z⟩ => ⟨m', hm, z⟩, ?_⟩
    exact q F σ1 H2 _ st w2 ⟨fun σ5 H5 y5 w5 g5 ⟨m', hm, q5⟩ => ⟨m', hm, y5, w5, (g1.trans g2).trans g5, q5⟩, fun σ5 v5 H5 z5 y5 w5 g5 r5 q5 => k.rt σ5 v5 H5 z5 y5 w5 ((g1.trans g2).trans g5) r5 q5,
      fun σ5 H5 y5 w5 g5 q5 => k.nx σ5 H5 y5 w5 ((g1.trans g2).trans g5) q5, fun σ5 H5 y5 w5 g5 ⟨m', hm, q5⟩ => ⟨m', hm, y5, w5, (g1.trans g2).trans g5, q5⟩⟩
  | false => exact k.nx σ1 H2 y2 w2 (g1.trans g2) q
end
end Ux

set_option maxRecDepth 100000
set_option maxHeartbeats 2000000
namespace Ux
open PySem PySem.Spec PyProof.Rows L2 Tq
theorem dom_ao {m m' : List Cl} (h : ao m = ao m') (a : Addr) : Dom m a ↔ Dom m' a := by
  have key : ∀ n : List Cl, Dom n a ↔ a ∈ (ao n).map (·.1) := fun n => by
    unfold Dom ao
    rw [List.map_map, List.mem_map]
    exact ⟨fun ⟨e, h1, h2⟩ => ⟨e, h1, h2⟩, fun ⟨e, h1, h2⟩ => ⟨e, h1, h2⟩⟩
  rw [key, key, h]
theorem own_ao {m m' : List Cl} (h : ao m = ao m') {e : Cl} (he : e ∈ m) : ∃ e' ∈ m', e'.a = e.a ∧ e'.own = e.own ∧ e'.c.isRo = e.c.isRo := by
  have : (e.a, e.own, e.c.isRo) ∈ ao m' := by rw [← h]; exact List.mem_map.mpr ⟨e, he, rfl⟩
  obtain ⟨e', h1, h2⟩ := List.mem_map.mp this
  exact ⟨e', h1, congrArg Prod.fst h2, congrArg (fun x => x.2.1) h2, congrArg (fun x => x.2.2) h2⟩
theorem domW_ao {m m' : List Cl} (h : ao m = ao m') (a : Addr) : DomW m a → DomW m' a := fun ⟨e, h1, h2, h3⟩ => by
  obtain ⟨e', q1, q2, _, q3⟩ := own_ao h h1
  exact ⟨e', q1, q2.trans h2, q3.trans h3⟩
theorem DomW.dom {m : List Cl} {a : Addr} (h : DomW m a) : Dom m a := let ⟨e, h1, h2, _⟩ := h; ⟨e, h1, h2⟩
section
variable {K : Fg} {F : Fr} {σ : St} {y y' u : S} {H H' : Hp} {l : Addr}
/-- a frame within, at the heap as it stands; l is apart -/
def sub (F : Fr) (σ : St) (u : S) (H : Hp) (l : Addr) : Fr := ⟨H, DomW u.m, fun a => Mv F σ u a ∨ a = l, false⟩
theorem sub_mv {a : Addr} {H0 : Hp} {τ : St} (s : ao y.m = ao u.m) : Mv (sub F σ u H0 l) τ y a ↔ (Mv F σ u a ∨ a = l) := by
  constructor
  · rintro (z | z)
    · exact z
    · exact .inl (.inr ((dom_ao s a).mp z))
  · exact .inl
theorem mv_ao {a : Addr} {τ : St} (s : ao y.m = ao u.m) : Mv F τ y a ↔ Mv F σ u a := by
  unfold Mv
  rw [dom_ao s a]
/-- into the frame within -/
theorem Wd0.into (w : Wd0 K F σ u H) {o : HO} (h : H l = none) : Wd0 K (sub F σ u (upd H l o) l) σ u (upd H l o) := by
  have nl : ¬ Mv F σ u l := w.new h
  have g : GoH (Mv F σ u) H (Mv (sub F σ u (upd H l o) l) σ u) (upd H l o) := fun a v n e => by
    have ne : a ≠ l := ne_of_none e h
    exact ⟨fun z => ((sub_mv rfl).mp z).elim n ne, by rw [upd_ne ne]; exact e⟩
  have lv : ∀ a, (Mv F σ u a ∨ a = l) → upd H l o a ≠ none := by
    rintro a (z | z) e
    · by_cases ha : a = l
      · exact nl (ha ▸ z)
      · rw [upd_ne ha] at e
        exact w.new e z
    · rw [z, upd_same] at e; cases e
  refine ⟨fun a v _ e => e, lv, lv, w.len, fun i z e => ?_, fun e he => (w.cell e he).go g fun o q => grow_upd h _ _ q, w.dist, fun e he hr => .inl ⟨e, he, rfl, hr⟩, fun a z => .inl (.inr z.dom), fun q => nomatch q⟩
  obtain ⟨x, h1, h2⟩ := w.slot i z e
  exact ⟨x, h1, h2.go g⟩
/-- rebased at another heap, in which only l and new things are otherwise -/
theorem Wd0.reb {H0 : Hp} {τ : St} (w : Wd0 K (sub F σ u H0 l) τ y H) (s : ao y.m = ao u.m) (kp : ∀ a o, a ≠ l → H a = some o → H' a = some o) (hl : H' l ≠ none) (nl : ¬ Dom u.m l) : Wd0 K (sub F σ u H' l) τ y H' ∧ GoH (Mv (sub F σ u H0 l) τ y) H (Mv (sub F σ u H' l) τ y) H' := by
  have g : GoH (Mv (sub F σ u H0 l) τ y) H (Mv (sub F σ u H' l) τ y) H' := fun a v n e => by
    have ne : a ≠ l := fun z => n ((sub_mv s).mpr (.inr z))
    exact ⟨fun z => n ((sub_mv s).mpr ((sub_mv s).mp z)), kp a v ne e⟩
  have lv : ∀ a, (Mv F σ u a ∨ a = l) → H' a ≠ none := fun a z e => by
    by_cases ha : a = l
    · rw [ha] at e; exact hl e
    · cases q : H a with
      | none => exact w.live a z q
      | some o => rw [kp a o ha q] at e; cases e
  refine ⟨⟨fun a v _ e => e, lv, lv, w.len, fun i z e => ?_, fun e he => (w.cell e he).go g fun o q => kp _ _ (fun z => nl ?_) q, w.dist, fun e he hr => .inl (domW_ao s _ ⟨e, he, rfl, hr⟩), fun a z => .inl (.inr z.dom), fun q => nomatch q⟩, g⟩
  · obtain ⟨x, h1, h2⟩ := w.slot i z e
    exact ⟨x, h1, h2.go g⟩
  · exact z ▸ (dom_ao s e.a).mp ⟨e, he, rfl⟩
theorem Wd0.outOf {H0 H2 : Hp} (w : Wd0 K F σ u H) (h : H l = none) (w2 : Wd0 K (sub F σ u H0 l) σ y H2) (s : ao y.m = ao u.m) (kp : ∀ a o, ¬ DomW u.m a → H a = some o → H2 a = some o) :
    Wd0 K F σ y H2 ∧ Go F σ u H σ y H2 ∧ ¬ Mv F σ y l ∧ GoH (Mv (sub F σ u H0 l) σ y) H2 (Mv F σ y) H2 ∧ GoH (Mv F σ u) H (Mv (sub F σ u H0 l) σ y) H2 := by
  have nl : ¬ Mv F σ u l := w.new h
  have gd : GoH (Mv (sub F σ u H0 l) σ y) H2 (Mv F σ y) H2 := fun a v n e => ⟨fun z => n ((sub_mv s).mpr (.inl ((mv_ao s).mp z))), e⟩
  refine ⟨⟨fun a v n e => kp a v (fun z => ?_) (w.keep a v n e), w.live0, fun a m => w2.live a (.inl (.inl m)), w2.len, fun i z e => ?_, fun e he => (w2.cell e he).go gd fun _ q => q, w2.dist, fun e he hr => ?_, w.sm, fun st e he ho => ?_⟩,
    fun a v n e => ⟨fun z => n ((mv_ao s).mp z), kp a v (fun z => n (.inr z.dom)) e⟩, fun z => nl ((mv_ao s).mp z), gd, fun a v n e => ⟨fun z => ((sub_mv s).mp z).elim n (ne_of_none e h), kp a v (fun z => n (.inr z.dom)) e⟩⟩
  · obtain ⟨e0, h1, rfl, hr⟩ := z
    rcases w.frsh e0 h1 hr with q | q
    · exact n q
    · rw [q] at e; cases e
  · obtain ⟨x, h1, h2⟩ := w2.slot i z e
    exact ⟨x, h1, h2.go gd⟩
  · obtain ⟨e', h1, h2, _, h4⟩ := own_ao s he
    rw [← h2]; exact w.frsh e' h1 (h4.trans hr)
  · obtain ⟨e', h1, h2, h3, _⟩ := own_ao s he
    rw [← h2]; exact w.nb st e' h1 (h3.trans ho)
end
/-- exceptions are none of our business here -/
@[reducible] def Ct.q (C : Ct) : Ct := { C with ex := fun _ _ => False }
theorem Wd0.q {C : Ct} {F : Fr} {σ : St} {y : S} {H : Hp} (w : Wd0 C.K F σ y H) : Wd C.q F σ y H := ⟨w, fun _ _ _ _ _ _ _ _ _ z => z.elim⟩
section
variable {C : Ct} {y : S} {te : TE} {tt : TT} {wi : TI} {Q : Z → S → Prop}
theorem slot_unset {K : Fg} {F : Fr} {σ : St} {l : List (Option Z)} {m : List Cl} {H : Hp} {j : Nat} {v : V} {z : Option Z} (w : Wd0 K F (σ.set j (some v)) ⟨l.set j z, m⟩ H) (hl : l.length = σ.length)
    (hj : ∀ x, l[j]? = some (some x) → ∃ u, σ[j]? = some (some u) ∧ Rw K (Mv F σ ⟨l, m⟩) H u x) : Wd0 K F σ ⟨l, m⟩ H := by
  refine ⟨w.keep, w.live0, w.live, hl.symm, fun i x e => ?_, w.cell, w.dist, w.frsh, w.sm, w.nb⟩
  by_cases n : i = j
  · rw [n] at e ⊢; exact hj x e
  · obtain ⟨u, h1, h2⟩ := w.slot i x (by show (l.set j z)[i]? = _; rw [List.getElem?_set_ne (Ne.symm n)]; exact e)
    rw [List.getElem?_set_ne (Ne.symm n)] at h1
    exact ⟨u, h1, h2⟩
/-- [e for x in .. if ..] -/
theorem wE_lc {j : Nat}
    (w : wI C wi y fun xs y1 => ∃ I : Nat → List D → List Cl → Prop, xs.length ≤ sizeLine ∧ (∀ i acc m, I i acc m → ao m = ao y1.m) ∧ I 0 [] y1.m ∧
      (∀ i x acc m, xs[i]? = some x → I i acc m → wT C.q tt ⟨y1.l.set j (some (.d x)), m⟩ fun b y3 => if b = true then wE C.q te y3 fun z y4 => ∃ d, z = .d d ∧ I (i + 1) (acc ++ [d]) y4.m else I (i + 1) acc y3.m) ∧
      (∀ acc m, I xs.length acc m → acc.length ≤ xs.length → Q (.d (.list acc)) ⟨y1.l, m⟩)) :
    wE C (tLc wi (gName j) tt te [j]) y Q := by
  intro F σ H K wd k
  refine w F σ H _ wd fun J H1 xs y1 w1 g1 s1 hJ ⟨I, hz, ha, h0, hs, hd⟩ => ?_
  intro l hl
  have wz : wipe σ [j] = σ.set j none := rfl
  obtain ⟨ul, um⟩ := y1
  have wi1 := w1.toWd0.into (l := l) (o := .lst []) hl
  have nOl : ¬ Dom um l := fun z => w1.new hl (.inr z)
  refine ⟨fun i n H2 => n = xs.length - i ∧ i ≤ xs.length ∧ ∃ m acc vs, Wd0 C.K (sub F σ ⟨ul, um⟩ H2 l) σ ⟨ul, m⟩ H2 ∧ (∀ a o, ¬ DomW um a → H1 a = some o → H2 a = some o) ∧ I i acc m ∧ H2 l = some (.lst vs) ∧ RpA C.K (Mv (sub F σ ⟨ul, um⟩ H2 l) σ ⟨ul, m⟩) H2 vs acc ∧ acc.length ≤ i,
    ⟨xs.length, by simp, Nat.zero_le _, um, [], [], wi1, fun a o _ e => grow_upd hl a o e, h0, upd_same, .nil, Nat.zero_le _⟩, ?_⟩
  rintro i n H2 ⟨rfl, hi, m, acc, vs, w2, kp2, hI, hl2, rv2, ha2⟩
  have am : ao m = ao um := ha i acc m hI
  obtain ⟨o1, o2, o3, o4, o5⟩ := w1.toWd0.outOf hl w2 am kp2
  obtain ⟨j1, j2, j3⟩ := hJ (sub F σ ⟨ul, um⟩ H2 l) σ ⟨ul, m⟩ H2 w2 o5 i
  by_cases hlt : i < xs.length
  · refine .inr ⟨j1 hlt, fun H3 => ∃ m acc vs, Wd0 C.K (sub F σ ⟨ul, um⟩ H3 l) σ ⟨ul, m⟩ H3 ∧ (∀ a o, ¬ DomW um a → H1 a = some o → H3 a = some o) ∧ I (i + 1) acc m ∧ H3 l = some (.lst vs) ∧ RpA C.K (Mv (sub F σ ⟨ul, um⟩ H3 l) σ ⟨ul, m⟩) H3 vs acc ∧ acc.length ≤ i + 1,
      fun H3 h => ⟨xs.length - (i + 1), by omega, rfl, hlt, h⟩, fun v H3 hy => ?_⟩
    have ex : xs[i]? = some xs[i] := List.getElem?_eq_getElem hlt
    obtain ⟨gr, rv⟩ := j3 _ ex v H3 hy
    obtain ⟨w3, gx⟩ := w2.reb am (H' := H3) (fun a o _ e => gr a o e) (by rw [gr l _ hl2]; simp) nOl
    have gy : GoH (Mv (sub F σ ⟨ul, um⟩ H2 l) σ ⟨ul, m⟩) H3 (Mv (sub F σ ⟨ul, um⟩ H3 l) σ ⟨ul, m⟩) H3 := fun a o n e => ⟨fun z => n ((sub_mv am).mpr ((sub_mv am).mp z)), e⟩
    have w4 : Wd0 C.K (sub F σ ⟨ul, um⟩ H3 l) (σ.set j (some v)) ⟨ul.set j (some (.d xs[i])), m⟩ H3 := w3.set_z (.d (rv.go gy))
    have eσ : (wipe σ [j]).set j (some v) = σ.set j (some v) := by rw [wz, List.set_set]
    show wipe ((wipe σ [j]).set j (some v)) [j] = wipe σ [j] ∧ tt ((wipe σ [j]).set j (some v)) H3 _
    rw [eσ]
    refine ⟨by show (σ.set j (some v)).set j none = σ.set j none; rw [List.set_set], ?_⟩
    have back : ∀ {m5 : List Cl} {l5 : List (Option Z)} {HH : Hp}, Wd0 C.K (sub F σ ⟨ul, um⟩ H3 l) (σ.set j (some v)) ⟨l5, m5⟩ HH → l5 = ul.set j (some (.d xs[i])) → ao m5 = ao um →
        GoH (Mv (sub F σ ⟨ul, um⟩ H3 l) σ ⟨ul, m⟩) H3 (Mv (sub F σ ⟨ul, um⟩ H3 l) σ ⟨l5, m5⟩) HH →
        Wd0 C.K (sub F σ ⟨ul, um⟩ H3 l) σ ⟨ul, m5⟩ HH ∧ (∀ a o, ¬ DomW um a → H1 a = some o → HH a = some o) ∧ HH l = some (.lst vs) := by
      intro m5 l5 HH ww e5 a5 gg
      subst e5
      refine ⟨slot_unset ww w3.len.symm fun x e => ?_, fun a o na e => ww.keep a o na (gr a o (kp2 a o na e)), ww.keep l _ (fun z => nOl z.dom) (gr l _ hl2)⟩
      obtain ⟨u, q1, q2⟩ := w3.slot j x e
      exact ⟨u, q1, q2.go gg⟩
    refine hs i _ acc m ex hI (sub F σ ⟨ul, um⟩ H3 l) _ H3 _ w4.q fun b H5 y5 w5 g5 s5 q5 => ?_
    obtain ⟨l5, m5⟩ := y5
    cases b with
    | false =>
      have a5 : ao m5 = ao um := ha _ _ _ q5
      have gA : GoH (Mv (sub F σ ⟨ul, um⟩ H3 l) σ ⟨ul, m⟩) H3 (Mv (sub F σ ⟨ul, um⟩ H3 l) σ ⟨l5, m5⟩) H5 := g5
      obtain ⟨b1, b4, b5⟩ := back w5.toWd0 s5.1 a5 gA
      obtain ⟨b6, gz⟩ := b1.reb a5 (H' := H5) (fun a o _ e => e) (by rw [b5]; simp) nOl
      exact ⟨m5, acc, vs, b6, b4, q5, b5, rv2.go ((gx.trans gA).trans gz), by omega⟩
    | true =>
      refine q5 (sub F σ ⟨ul, um⟩ H3 l) _ H5 _ w5 fun x6 H6 z6 y6 w6 g6 s6 r6 q6 => ?_
      obtain ⟨d, rfl, q6⟩ := q6
      obtain ⟨l6, m6⟩ := y6
      have a6 : ao m6 = ao um := ha _ _ _ q6
      have gA : GoH (Mv (sub F σ ⟨ul, um⟩ H3 l) σ ⟨ul, m⟩) H3 (Mv (sub F σ ⟨ul, um⟩ H3 l) σ ⟨l6, m6⟩) H6 := g5.trans g6
      obtain ⟨b1, b4, b5⟩ := back w6.toWd0 (s6.1.trans s5.1) a6 gA
      have hlen : vs.length = acc.length := rv2.len
      obtain ⟨b6, gz⟩ := b1.reb a6 (H' := upd H6 l (.lst (vs ++ [x6]))) (fun a o n e => by rw [upd_ne n]; exact e) (by rw [upd_same]; simp) nOl
      refine ⟨vs, b5, by omega, m6, acc ++ [d], vs ++ [x6], b6, fun a o na e => ?_, q6, upd_same, ?_, by rw [List.length_append]; simp; omega⟩
      · rw [upd_ne (ne_of_none e hl)]
        exact b4 a o na e
      · exact (rv2.go ((gx.trans gA).trans gz)).app (.cons (Rp.go gz r6) .nil)
  · have ei : i = xs.length := by omega
    subst ei
    refine .inl ⟨j2 (Nat.le_refl _), ?_⟩
    exact k _ H2 (.d (.list acc)) ⟨ul, m⟩ (w1.to o1 o2) (g1.trans o2) (s1.trans ⟨rfl, [], by rw [show ao ([] : List Cl) = [] from rfl, List.append_nil]; exact am⟩) (.lst (.inl ⟨o3, .inl hl2⟩) (rv2.go o4)) (hd acc m hI ha2)
/-- a comprehension whose turns change nothing -/
theorem wE_lcF {j : Nat} {y' : S} (p : D → Bool) (f : D → D)
    (w : wI C wi y fun xs y1 => y1 = y' ∧ xs.length ≤ sizeLine ∧ (∀ x ∈ xs, wT C.q tt (y'.set j (some (.d x))) fun b y3 => y3 = y'.set j (some (.d x)) ∧ b = p x ∧ (p x = true → wE C.q te y3 fun z y4 => z = .d (f x) ∧ y4 = y'.set j (some (.d x)))) ∧ Q (.d (.list ((xs.filter p).map f))) y') :
    wE C (tLc wi (gName j) tt te [j]) y Q := by
  refine wE_lc (fun F σ H R wd k => w F σ H R wd fun J H1 xs y1 w1 g1 s1 hJ ⟨e, hz, hs, hq⟩ => k J H1 xs y1 w1 g1 s1 hJ ?_)
  subst e
  refine ⟨fun i acc m => m = y1.m ∧ acc = ((xs.take i).filter p).map f, hz, fun i acc m h => by rw [h.1], ⟨rfl, rfl⟩, fun i x acc m hx ⟨e1, e2⟩ => ?_, fun acc m ⟨e1, e2⟩ _ => ?_⟩
  · subst e1 e2
    have hm : x ∈ xs := List.mem_of_getElem? hx
    have ht : xs.take (i + 1) = xs.take i ++ [x] := by rw [List.take_add_one, hx]; rfl
    refine wT_mono (hs x hm) fun b y3 ⟨e3, eb, h3⟩ => ?_
    subst eb e3
    cases hpx : p x with
    | true =>
      show wE C.q te _ _
      refine wE_mono (h3 hpx) fun z y4 ⟨ez, ey⟩ => ⟨f x, ez, ?_, ?_⟩
      · rw [ey]; rfl
      · rw [ht, List.filter_append, List.map_append, List.filter_cons, if_pos hpx]
        rfl
    | false =>
      refine ⟨rfl, ?_⟩
      rw [ht, List.filter_append, List.filter_cons, if_neg (by rw [hpx]; simp), List.filter_nil, List.append_nil]
  · subst e1 e2
    rw [List.take_length]
    exact hq
end
end Ux

set_option maxRecDepth 100000
set_option maxHeartbeats 2000000
namespace Ux
open PySem PySem.Spec PyProof.Rows L2 Tq
/-! ### the store changes -/
section
variable {C : Ct} {F : Fr} {σ : St} {y y' : S} {H H' : Hp}
theorem Wd.store (w : Wd C F σ y H) {m : List Cl} (kp : ∀ a o, ¬ DomW y.m a → H a = some o → H' a = some o) (lv : ∀ a, Dom y.m a → H' a ≠ none)
    (src : ∀ e ∈ m, (∃ e0 ∈ y.m, e0.a = e.a ∧ (e.own = true → e0.own = true) ∧ (e.c.isRo = false → e0.c.isRo = false)) ∨ H e.a = none) (ds : m.Pairwise fun e e' => e.a ≠ e'.a)
    (ok : GoH (Mv F σ y) H (Mv F σ ⟨y.l, m⟩) H' → ∀ e ∈ m, CellOk C.K (Mv F σ ⟨y.l, m⟩) H' e.a e.c) : Wd C F σ ⟨y.l, m⟩ H' ∧ Go F σ y H σ ⟨y.l, m⟩ H' := by
  have g : Go F σ y H σ ⟨y.l, m⟩ H' := fun a o n e => by
    refine ⟨?_, kp a o (fun z => n (.inr z.dom)) e⟩
    rintro (z | ⟨e', h1, rfl⟩)
    · exact n (.inl z)
    · rcases src e' h1 with ⟨e0, q1, q2, _⟩ | q
      · exact n (.inr ⟨e0, q1, q2⟩)
      · rw [q] at e; cases e
  refine ⟨w.to ⟨fun a o n e => kp a o (fun ⟨e0, h1, h2, hr⟩ => ?_) (w.keep a o n e), w.live0, fun a m0 e => ?_, w.len, fun i z e => ?_, ok g, ds, fun e he hr => ?_, w.sm, fun st e he ho hs => ?_⟩ g, g⟩
  · subst h2
    rcases w.frsh e0 h1 hr with q | q
    · exact n q
    · rw [q] at e; cases e
  · by_cases hd : Dom y.m a
    · exact lv a hd e
    · cases q : H a with
      | none => exact w.live a m0 q
      | some o => rw [kp a o (fun z => hd z.dom) q] at e; cases e
  · obtain ⟨x, h1, h2⟩ := w.slot i z e
    exact ⟨x, h1, h2.go g⟩
  · rcases src e he with ⟨e0, q1, q2, _, q4⟩ | q
    · rw [← q2]; exact w.frsh e0 q1 (q4 hr)
    · exact .inr (w.newH0 q)
  · rcases src e he with ⟨e0, q1, q2, q3, _⟩ | q
    · exact w.nb st e0 q1 (q3 ho) (q2 ▸ hs)
    · exact w.live _ (w.sm _ hs) q
theorem pw_snoc {m : List Cl} {e : Cl} (h : m.Pairwise fun e e' => e.a ≠ e'.a) (n : ¬ Dom m e.a) : (m ++ [e]).Pairwise fun e e' => e.a ≠ e'.a := by
  rw [List.pairwise_append]
  refine ⟨h, List.pairwise_singleton _ _, fun a ha b hb => ?_⟩
  rw [List.mem_singleton] at hb
  subst hb
  exact fun z => n ⟨a, ha, z⟩
theorem pw_set {m : List Cl} {j : Nat} {e e' : Cl} (h : m.Pairwise fun e e' => e.a ≠ e'.a) (hj : m[j]? = some e) (ea : e'.a = e.a) : (m.set j e').Pairwise fun e e' => e.a ≠ e'.a := by
  have key : (m.set j e').map (·.a) = m.map (·.a) := by
    rw [List.map_set, ea]
    apply List.ext_getElem?
    intro i
    by_cases n : i = j
    · subst n
      obtain ⟨hl, hv⟩ := List.getElem?_eq_some_iff.mp hj
      rw [List.getElem?_set_self (by simpa using hl), List.getElem?_map, hj]
      rfl
    · rw [List.getElem?_set_ne (Ne.symm n)]
  have p1 : ∀ l : List Cl, (l.Pairwise fun e e' => e.a ≠ e'.a) ↔ (l.map (·.a)).Pairwise (· ≠ ·) := fun l => by rw [List.pairwise_map]
  rw [p1, key, ← p1]
  exact h
/-- a new thing of our own -/
theorem Wd.cnew (w : Wd C F σ y H) {p : Addr} {o : HO} {c : Cell} {b : Bool} (hn : H p = none) (ok : ∀ M, GoH (Mv F σ y) H M (upd H p o) → CellOk C.K M (upd H p o) p c) :
    Wd C F σ ⟨y.l, y.m ++ [⟨p, b, c⟩]⟩ (upd H p o) ∧ Go F σ y H σ ⟨y.l, y.m ++ [⟨p, b, c⟩]⟩ (upd H p o) ∧ Sh y ⟨y.l, y.m ++ [⟨p, b, c⟩]⟩ := by
  have nd : ¬ Dom y.m p := fun z => w.new hn (.inr z)
  suffices key : Wd C F σ ⟨y.l, y.m ++ [⟨p, b, c⟩]⟩ (upd H p o) ∧ Go F σ y H σ ⟨y.l, y.m ++ [⟨p, b, c⟩]⟩ (upd H p o) from ⟨key.1, key.2, rfl, [⟨p, b, c⟩], by simp [ao]⟩
  refine w.store (fun a v n e => grow_upd hn a v e) (fun a hd z => ?_) (fun e he => ?_) (pw_snoc w.dist nd) (fun g e he => ?_)
  · obtain ⟨e, h1, h2⟩ := hd
    subst h2
    rw [upd_ne (fun q => nd ⟨e, h1, q⟩)] at z
    exact (w.cell e h1).live z
  · rcases List.mem_append.mp he with he | he
    · exact .inl ⟨e, he, rfl, fun z => z, fun z => z⟩
    · rw [List.mem_singleton] at he; subst he; exact .inr hn
  · rcases List.mem_append.mp he with he | he
    · exact (w.cell e he).go g fun o q => grow_upd hn _ _ q
    · rw [List.mem_singleton] at he; subst he; exact ok _ g
theorem mem_set_or {α : Type} {l : List α} {j : Nat} {x e : α} (h : e ∈ l.set j x) : e = x ∨ e ∈ l := by
  rcases List.mem_or_eq_of_mem_set h with h | h
  · exact .inr h
  · exact .inl h
/-- a thing of the store has changed, and no other -/
theorem Wd.cmut (w : Wd C F σ y H) {j : Nat} {p : Addr} {b : Bool} {c c' : Cell} (hj : y.m[j]? = some ⟨p, b, c⟩) (hr : c.isRo = false) (hr' : c'.isRo = false) (kp : ∀ a o, a ≠ p → H a = some o → H' a = some o) (ok : ∀ M, (∀ a, M a → Mv F σ y a) → GoH (Mv F σ y) H M H' → CellOk C.K M H' p c') :
    Wd C F σ ⟨y.l, y.m.set j ⟨p, b, c'⟩⟩ H' ∧ Go F σ y H σ ⟨y.l, y.m.set j ⟨p, b, c'⟩⟩ H' ∧ Sh y ⟨y.l, y.m.set j ⟨p, b, c'⟩⟩ := by
  have hm : (⟨p, b, c⟩ : Cl) ∈ y.m := List.mem_of_getElem? hj
  have hl' : H' p ≠ none := by
    have g0 : GoH (Mv F σ y) H (Mv F σ y) H' := fun a o n e => ⟨n, kp a o (fun z => n (.inr ⟨_, hm, z.symm⟩)) e⟩
    exact (ok _ (fun _ q => q) g0).live
  suffices key : Wd C F σ ⟨y.l, y.m.set j ⟨p, b, c'⟩⟩ H' ∧ Go F σ y H σ ⟨y.l, y.m.set j ⟨p, b, c'⟩⟩ H' by
    refine ⟨key.1, key.2, rfl, [], ?_⟩
    show ao (y.m.set j ⟨p, b, c'⟩) = ao y.m ++ []
    rw [List.append_nil]
    unfold ao
    apply List.ext_getElem?
    intro i
    by_cases n : i = j
    · subst n
      obtain ⟨hl, _⟩ := List.getElem?_eq_some_iff.mp hj
      rw [List.getElem?_map, List.getElem?_map, List.getElem?_set_self hl, hj]
      show some (p, b, c'.isRo) = some (p, b, c.isRo)
      rw [hr, hr']
    · rw [List.getElem?_map, List.getElem?_map, List.getElem?_set_ne (Ne.symm n)]
  refine w.store (fun a v n e => kp a v (fun z => n ⟨_, hm, z.symm, hr⟩) e) (fun a hd z => ?_) (fun e he => ?_) (pw_set w.dist hj rfl) (fun g e he => ?_)
  · obtain ⟨e, h1, h2⟩ := hd
    subst h2
    by_cases q : e.a = p
    · exact hl' (q ▸ z)
    · cases r : H e.a with
      | none => exact (w.cell e h1).live r
      | some o => rw [kp _ o q r] at z; cases z
  · rcases mem_set_or he with he | he
    · subst he; exact .inl ⟨_, hm, rfl, fun z => z, fun _ => hr⟩
    · exact .inl ⟨e, he, rfl, fun z => z, fun z => z⟩
  · by_cases q : e.a = p
    · have : e = ⟨p, b, c'⟩ := by
        obtain ⟨i, hi⟩ := List.getElem?_of_mem he
        have pw := pw_set w.dist hj (e' := ⟨p, b, c'⟩) rfl
        obtain ⟨hl, _⟩ := List.getElem?_eq_some_iff.mp hj
        have hjj : (y.m.set j ⟨p, b, c'⟩)[j]? = some ⟨p, b, c'⟩ := List.getElem?_set_self hl
        by_cases n : i = j
        · subst n; rw [hjj] at hi; cases hi; rfl
        · exfalso
          rw [List.pairwise_iff_getElem] at pw
          obtain ⟨hi1, hi2⟩ := List.getElem?_eq_some_iff.mp hi
          obtain ⟨hj1, hj2⟩ := List.getElem?_eq_some_iff.mp hjj
          rcases Nat.lt_or_gt_of_ne n with n | n
          · have := pw i j hi1 hj1 n; rw [hi2, hj2] at this; exact this q
          · have := pw j i hj1 hi1 n; rw [hi2, hj2] at this; exact this q.symm
      subst this
      refine ok _ (fun a z => z.elim .inl fun ⟨e0, q1, q2⟩ => .inr ?_) g
      rcases mem_set_or q1 with q1 | q1
      · subst q1; exact ⟨_, hm, q2⟩
      · exact ⟨e0, q1, q2⟩
    · rcases mem_set_or he with he | he
      · subst he; exact absurd rfl q
      · exact (w.cell e he).go g fun o r => kp _ _ q r
/-- things of the store are let go -/
theorem Wd.csub (w : Wd C F σ y H) {m : List Cl} (h : m.Sublist y.m) : Wd C F σ ⟨y.l, m⟩ H ∧ Go F σ y H σ ⟨y.l, m⟩ H := by
  refine w.store (fun a o _ e => e) (fun a ⟨e, h1, h2⟩ => h2 ▸ (w.cell e h1).live) (fun e he => .inl ⟨e, h.subset he, rfl, fun z => z, fun z => z⟩) (w.dist.sublist h) fun g e he => (w.cell e (h.subset he)).go g fun _ q => q
end
/-! ### new lists, append -/
section
variable {C : Ct} {y : S} {te : TE} {ts : TA} {tx : TS} {e : En} {Q : Z → S → Prop}
/-- [..], a thing of our own -/
theorem wE_lstL (w : wZ C ts y fun zs y1 => zs.length ≤ sizeLine ∧ ∀ p, Q (.lab p) ⟨y1.l, y1.m ++ [⟨p, true, .lst zs⟩]⟩) : wE C (tLst ts) y Q := by
  intro F σ H K wd k
  refine w F σ H _ wd fun vs H1 zs y1 w1 g1 s1 r1 ⟨hz, q⟩ => ⟨by rw [r1.len]; exact hz, fun p hn => ?_⟩
  obtain ⟨w2, g2, s2⟩ := w1.cnew (o := .lst vs) (c := .lst zs) (b := true) hn fun M g => ⟨vs, upd_same, r1.go g⟩
  exact k _ _ (.lab p) _ w2 (g1.trans g2) (s1.trans s2) (.lab p) (q p)
theorem wE_dnewL (q : ∀ p, Q (.lab p) ⟨y.l, y.m ++ [⟨p, true, .dic []⟩]⟩) : wE C tDNewK y Q := by
  intro F σ H K wd k p hp
  obtain ⟨w2, g2, s2⟩ := wd.cnew (o := .dK []) (c := .dic []) (b := true) hp fun M g => ⟨[], upd_same, .nil⟩
  exact k _ _ (.lab p) _ w2 g2 s2 (.lab p) (q p)
theorem wE_dispL {kk : Key} {v : V} {d : D} (s : Sc v d) (q : ∀ p, Q (.lab p) ⟨y.l, y.m ++ [⟨p, true, .dic [(kk, .d d)]⟩]⟩) : wE C (tDisp [(tC (kV kk), tC v)]) y Q := by
  intro F σ H K wd k p hp
  refine ⟨upd_same, [(kk, v)], rfl, by simp, ?_⟩
  rw [upd_upd]
  obtain ⟨w2, g2, s2⟩ := wd.cnew (o := .dK (mergeK [] [(kk, v)])) (c := .dic [(kk, .d d)]) (b := true) hp fun M g => ⟨[(kk, v)], by rw [upd_same]; rfl, .cons (.d s.rp) .nil⟩
  exact k _ _ (.lab p) _ w2 g2 s2 (.lab p) (q p)
/-- x.append(e) -/
theorem wS_app {i j : Nat} {a : Addr} {b : Bool} {zs0 : List Z} (hi : y.l[i]? = some (some (.lab a))) (hj : y.m[j]? = some ⟨a, b, .lst zs0⟩) (w : wE C te y fun z y1 => ∃ zs, y1.m[j]? = some ⟨a, b, .lst zs⟩ ∧ zs.length < sizeLine ∧ e.nx ⟨y1.l, y1.m.set j ⟨a, b, .lst (zs ++ [z])⟩⟩) :
    wS C (tDrop (tBM C.K "list" rAppend (tVar i) (tCons te tNil))) y e := by
  intro F σ H E st wd k
  obtain ⟨x, h1, h2⟩ := wd.slot i _ hi
  cases h2
  obtain ⟨xs, c1, c2⟩ := (wd.cell _ (List.mem_of_getElem? hj) : CellOk C.K (Mv F σ y) H a (.lst zs0))
  refine ⟨.ref a, h1, Or.inl ⟨rfl, xs, .inl (.inl c1)⟩, w F σ H _ wd fun v H1 z y1 w1 g1 s1 r1 q => ?_⟩
  obtain ⟨zs, hj1, hz, q⟩ := q
  obtain ⟨us, e2, e3⟩ := (w1.cell _ (List.mem_of_getElem? hj1) : CellOk C.K (Mv F σ y1) H1 a (.lst zs))
  refine ⟨a, us, v, rfl, rfl, e2, by rw [e3.len]; exact hz, ?_⟩
  obtain ⟨w2, g2, s2⟩ := w1.cmut (H' := upd H1 a (.lst (us ++ [v]))) (c' := .lst (zs ++ [z])) hj1 rfl rfl (fun b o n e => by rw [upd_ne n]; exact e) fun M _ g => ⟨us ++ [v], upd_same, (e3.go g).app (.cons (r1.w.go g) .nil)⟩
  exact k.nx _ _ _ w2 (g1.trans g2) q
end
/-! ### a list of our own is a list like others from here on -/
section
variable {C : Ct} {y : S} {tx : TS} {e : En}
end
/-! ### less is known -/
def Less (y' y : S) : Prop := y'.l.length = y.l.length ∧ (∀ (i : Nat) (z : Z), y'.l[i]? = some (some z) → y.l[i]? = some (some z)) ∧ y'.m.Sublist y.m
theorem Wd.weak {C : Ct} {F : Fr} {σ : St} {y y' : S} {H : Hp} (w : Wd C F σ y H) (h : Less y' y) : Wd C F σ y' H ∧ Go F σ y H σ y' H := by
  obtain ⟨w1, g1⟩ := w.csub h.2.2
  have g2 : Go F σ ⟨y.l, y'.m⟩ H σ y' H := fun b o n e => ⟨n, e⟩
  exact ⟨w1.to ⟨w1.keep, w1.live0, w1.live, w.len.trans h.1.symm, fun i z e => w1.slot i z (h.2.1 i z e), w1.cell, w1.dist, w1.frsh, w1.sm, w1.nb⟩ g2, g1.trans g2⟩
theorem wS_weak {C : Ct} {t : TS} {y y' : S} {e : En} (w : wS C t y' e) (h : Less y' y) : wS C t y e := by
  intro F σ H E st wd k
  obtain ⟨w1, g1⟩ := wd.weak h
  exact w F σ H E st w1 (k.go g1)
theorem wS_norm {C : Ct} {t : TS} {y y' : S} {e : En} (h : y = y') (w : wS C t y' e) : wS C t y e := h ▸ w
end Ux

set_option maxRecDepth 100000
set_option maxHeartbeats 2000000
/-! exceptions over HandS: own classes with a field found, raise, several clauses -/
namespace Ux
open PySem PySem.Spec PyProof.Rows L2
abbrev Fg := PySem.W.Frag
/-! ### T.__init__(self, ..), T an own class without own __init__, over ValueError -/
structure TxC (K : Fg) (mg : Str → Option Value) (x : Str) : Prop where
  ex : ∃ T : Addr, mg x = some (.ref T) ∧ PySem.W.readsIn K T (.type "type") = true ∧ PySem.W.specialIn K (.ref T) "__getattribute__" = some (some (.builtin "type.__getattribute__")) ∧
    PySem.W.findCls K (.ref T) (.type "type") "__init__" = some (.val (.builtin "ValueError.__init__"))
theorem pe_tinit {X : Cx} {x : Str} {e : Expr} {es : List Expr} {ta : TA} {p1 p2 pos : Pos} {pl : Sem Bool} (hg : Gl X x) (T : TxC X.K X.mg x) (ha : PA X (e :: es) ta) (hdb : (x == ("__debug__" : Str)) = false := by decide)
    (hc : eval (.Call (.Attribute (.Name x p1) "__init__" p2) (e :: es) [] pos) X.env = (do
      let ov ← eval (.Name x p1) X.env
      standAt p2.atName
      let (f, first) ← holding [ov] (getMethod ov "__init__" pl)
      callWith pos f first (backTo pos (starEach (e :: es) X.env)) (backToKw pos (keywordEach [] X.env))) := by rfl)
    (he : starEach (e :: es) X.env = (false, eval e X.env) :: starEach es X.env := by rfl) (hpl : (backTo pos (starEach es X.env)).any (·.1) = false := by rfl) :
    PE X (.Call (.Attribute (.Name x p1) "__init__" p2) (e :: es) [] pos) (tVeI X.K ta) := by
  obtain ⟨T, hm, hrd, hga, hv⟩ := T.ex
  refine ⟨fun pins s σ H Q I h => ?_⟩
  refine PySem.W.methodCall_KW (ld_glob I hg hm ?_ hdb) hc
  refine PySem.W.method_cls I.kIn hga (PySem.W.cls_value I.kIn hrd hv (by decide +kernel) ?_)
  show wpAny _ _ (callWith pos (Value.builtin "ValueError.__init__") [] (backTo pos (starEach (e :: es) X.env)) []) _ _ _
  refine PyProof.Rows.callWith_method1 (thn (ha.run pos pins _ σ H _ (I.tok _) h) fun us s1 ⟨vs, H1, I1, r1, a, C, ws, ev, hl, T, ea, q⟩ => ?_) he hpl
  subst ev
  cases r1 with
  | @cons _ u0 _ ur ra rw' =>
    obtain rfl : u0 = Value.ref a := ra
    have hlen : ur.length ≤ sizeLine := by
      rw [← Paired.length rw', sizeLine_eq]
      omega
    exact oinit_ok T I1 ea hlen fun s' J => ⟨.non, H1, J, rfl, q⟩
/-! ### an own class with __init__(self, found): T.__init__(self, 'text'); self.found = found -/
def spInit (K : Fg) (C : Addr) : Sp := fun vs H Q _ => ∃ (a : Addr) (v : V), vs = [.ref a, v] ∧ OexC K C ∧ PySem.W.findIn K (.ref C) "found" = some none ∧ H a = some (exo a C none) ∧ ∀ dx, H dx = none → dx ≠ a → Q .non (upd (upd H dx (exd dx [(("found" : Str), v)])) a (exo a C (some dx)))
def t_init (K : Fg) (m : Str) : TS := tSeq (tDrop (tVeI K (tCons (tVar 0) (tCons (tC (.str m)) tNil)))) (tOst K "found" (tVar 0) (tVar 1))
theorem init_read {K : Fg} {C : Addr} {m : Str} {vs : List V} {H : Hp} {Q : VK} {E : XK} (h : spInit K C vs H Q E) : t_init K m { nx := fun _ G => Q .non G, rt := Q } (start ["self", "found"] vs) H := by
  obtain ⟨a, v, rfl, T, hn, e, k⟩ := h
  exact ⟨_, rfl, a, C, [.str m], rfl, by simp, T, e, _, rfl, _, rfl, a, C, rfl, T, hn, .inl ⟨e, fun dx h1 h2 => k dx h1 h2⟩⟩
/-- the class x, at C: its instances hold what was found -/
structure Xc (P : Program) (w : World) (K : Fg) (mg : Str → Option Value) (base : Heap) (x : Str) (C : Addr) : Prop where
  gC : mg x = some (.ref C)
  oc : OexC K C
  xf : XfC K C
  no : PySem.W.findIn K (.ref C) "found" = some none
  ini : ∃ (fI : Addr) (fd : FuncData), PySem.W.findIn K (.ref C) "__init__" = some (some (.ref fI)) ∧ PySem.W.typeIn K (.ref fI) = some (.type "function") ∧ FnOk P w K mg base CX0 1 fI fd ["self", "found"] (spInit K C) ∧ Binds K fd ["self", "found"] []
theorem mkO_of {K : Fg} {C : Addr} {H1 : Hp} {v : V} {Q : XK} (oc : OexC K C) (no : PySem.W.findIn K (.ref C) "found" = some none) (q : ∀ d, H1 d = none → Q (.ref C) (some d) (upd H1 d (.xd [(("found" : Str), v)]))) :
    [v].length ≤ 1000 ∧ ∀ a, H1 a = none → spInit K C (.ref a :: ([v] ++ [])) (upd H1 a (exo a C none))
      (fun u H2 => u = .non ∧ ∃ (d : Addr) (fs : List (Str × V)), H2 a = some (exo a C (some d)) ∧ H2 d = some (exd d fs) ∧ H1 d = none ∧ Q (.ref C) (some d) (upd (del H2 a) d (.xd fs))) (fun _ _ _ => False) := by
  refine ⟨by simp, fun b hb => ⟨b, v, rfl, oc, no, upd_same, fun dx h1 h2 => ?_⟩⟩
  have h1' : H1 dx = none := by rw [upd_ne h2] at h1; exact h1
  refine ⟨rfl, dx, [(("found" : Str), v)], upd_same, by rw [upd_ne h2]; exact upd_same, h1', ?_⟩
  have eH : upd (del (upd (upd (upd H1 b (exo b C none)) dx (exd dx [(("found" : Str), v)])) b (exo b C (some dx))) b) dx (.xd [(("found" : Str), v)]) = upd H1 dx (.xd [(("found" : Str), v)]) := by
    funext c
    by_cases hc : c = dx
    · rw [hc, upd_same, upd_same]
    · rw [upd_ne hc, upd_ne hc]
      by_cases hcb : c = b
      · rw [hcb, del_same, hb]
      · rw [del_ne hcb, upd_ne hcb, upd_ne hc, upd_ne hcb]
  rw [eH]
  exact q dx h1'
def tRaiseF (K : Fg) (C : Addr) (W : WX) (ta : TA) : TS := fun _ σ H => tMkO C (spInit K C) [] ta σ H fun cls d H' => W cls d σ H'
section
variable {X : Cx} {x : Str} {C : Addr} {a : Expr} {ta : TA} {p pos pos2 : Pos}
theorem ps_raiseF {W : WX} (hc : X.calm = true) (T : Xc X.prog X.w X.K X.mg X.base x C) (hr : Room 2 X.A) (tk : Takes X W) (ha : PA X [a] ta) (hg : Gl X x) (hdb : (x == ("__debug__" : Str)) = false := by decide)
    (he : starEach (a :: []) X.env = (false, eval a X.env) :: starEach [] X.env := by rfl) (hpl : (backTo pos (starEach [] X.env)).any (·.1) = false := by rfl) :
    PS X (.Raise (some (.Call (.Name x p) [a] [] pos)) none pos2) (tRaiseF X.K C W ta) := by
  obtain ⟨fI, fd, i1, i2, i3, i4⟩ := T.ini
  exact ps_raise hc tk (pmk_oex (dvs := []) (ds := []) T.oc i1 i2 i3 hr i4 .nil pass0 hg T.gC ha hdb he hpl)
end
/-! ### several clauses, with or without a name; the last ones may never be asked -/
def clE (i : Option Nat) (D : Ends) : Ends := match i with
  | none => D
  | some i => { nx := fun σ' H' => D.nx (σ'.set i none) H', rt := D.rt, bk := fun σ' H' => D.bk (σ'.set i none) H', ct := fun σ' H' => D.ct (σ'.set i none) H' }
def clS (i : Option Nat) (a : Addr) (σ : L2.St) : L2.St := match i with
  | none => σ
  | some i => σ.set i (some (.ref a))
def wN (K : Fg) (D : Ends) : List (Value × Option Nat × (Addr → Value → Option Addr → TS)) → WX
  | [] => fun _ _ _ _ => False
  | (c, i, ts) :: r => fun cls d σ H => ∃ b, PySem.W.exmOne K cls c = some b ∧ (b = true → ∀ a, H a = none → ts a cls d (clE i D) (clS i a σ) H) ∧ (b = false → wN K D r cls d σ H)
def tTry (K : Fg) (l : List (Value × Option Nat × (Addr → Value → Option Addr → TS))) (tb : WX → TS) : TS := fun D σ H => tb (wN K D l) D σ H
inductive HdN (X : Cx) : List ExceptHandler → List (Value × Option Nat × (Addr → Value → Option Addr → TS)) → Prop
  | stop {hds : List ExceptHandler} : HdN X hds []
  | cons {x : Str} {c : Value} {ts : Addr → Value → Option Addr → TS} {b₀ : Stmt} {suite : List Stmt} {np pos' : Pos} {hds : List ExceptHandler} {l : List (Value × Option Nat × (Addr → Value → Option Addr → TS))} (hc : Names X x c)
      (hsu : ∀ (a : Addr) (oe : Obj) (cls : Value) (d : Option Addr) (pn : List (Addr × Obj)), Zc cls d oe → (∃ vs, oe.data = .fields vs) → PSs (X.suite a ((a, oe) :: pn)) (b₀ :: suite) (ts a cls d)) (r : HdN X hds l) :
      HdN X (.ExceptHandler (some (.Name x np)) none (b₀ :: suite) pos' :: hds) ((c, none, ts) :: l)
  | as {x n : Str} {i : Nat} {c : Value} {ts : Addr → Value → Option Addr → TS} {b₀ : Stmt} {suite : List Stmt} {np pos' : Pos} {hds : List ExceptHandler} {l : List (Value × Option Nat × (Addr → Value → Option Addr → TS))} (hc : Names X x c)
      (hi : X.N[i]? = some n) (hln : X.env.kindOf n = some .local)
      (hsu : ∀ (a : Addr) (oe : Obj) (cls : Value) (d : Option Addr) (pn : List (Addr × Obj)), Zc cls d oe → (∃ vs, oe.data = .fields vs) → PSs (X.suite a ((a, oe) :: pn)) (b₀ :: suite) (ts a cls d)) (r : HdN X hds l) :
      HdN X (.ExceptHandler (some (.Name x np)) (some n) (b₀ :: suite) pos' :: hds) ((c, some i, ts) :: l)
section
variable {X : Cx} {body : List Stmt} {h₀ : ExceptHandler} {hds : List ExceptHandler} {l : List (Value × Option Nat × (Addr → Value → Option Addr → TS))} {pos : Pos} {tb : WX → TS}
theorem ps_tryN (hs : X.stack = X.env :: X.outer) (hf : X.env.frame = some X.env.locals) (hN : X.N.Nodup)
    (hb : ∀ (W : WX) (pn : List (Addr × Obj)) (xe : Value → Shared → Prop), Takes (X.tr pn xe) W → PassesOwn (model X.prog X.w) X.A X.env xe → PSs (X.tr pn xe) body (tb W))
    (hh : HdN X (h₀ :: hds) l) : PS X (.Try body (h₀ :: hds) [] [] pos) (tTry X.K l tb) := by
  refine ⟨fun pins s σ H D I h => ?_⟩
  have ok := I.ok
  have hfr : X.A.frames = some (X.env :: X.outer) := by rw [ok.frames, hs]
  refine wpAny_Try_except ?_
  refine wpAny_mono ((hb (wN X.K D l) (X.pn ++ pins) (fun e s₁ => wpAny (model X.prog X.w) X.A (noteFrame e X.env) (fun _ s₂ => wpAny (model X.prog X.w) X.A (setFlight e none) (fun _ s₃ =>
    wpAny (model X.prog X.w) X.A (handleBy e X.env (h₀ :: hds)) (SP X pins D) X.xe s₃) X.xe s₂) X.xe s₁) (fun u s' xx => ?_) PassesOwn.looking).run [] s σ H D (I.toTry _) h) (fun f s1 hsp => ?_) (fun e s1 he => he)
  · obtain ⟨a, B, sI, pins', σ', H', cls, d, rfl, J', nb, up, sky, na, os, ag, w⟩ := xx
    have J : Inv X pins σ' H' sI := J'.ofTry ok
    have sky' : Sky B (X.env :: X.outer) a (Zc cls d) X.env.locals s'.heap := by rw [← hs]; exact sky
    show wpAny (model X.prog X.w) X.A (noteFrame (.ref a) X.env) _ _ _
    refine Sky.land Zc.steady hfr hf sky' fun h3 fl3 up3 => ?_
    have J3 : Inv X pins σ' H' { s' with heap := h3 } := J.landed nb fl3.1 (up.trans up3) os ag
    obtain ⟨oe3, vs3, he3, hz3, hd3⟩ := fl3.there
    have notFr : ∀ {h : Heap} {o : Obj} {vs : Array Value}, h.FunFrames B (X.env :: X.outer) → h.get? a = some o → o.data = .fields vs → a ∉ frs (X.env :: X.outer) := fun {h o vs} ff e dd hm => by
      obtain ⟨_, o', e', hnf⟩ := ff.mem hm
      rw [e] at e'; cases e'
      exact hnf _ dd
    have nfr := notFr fl3.2.2.1 he3 hd3
    have nL : a ≠ X.env.locals := fun z => nfr (List.mem_filterMap.mpr ⟨X.env, List.mem_cons_self, by rw [hf, z]⟩)
    have nF : a ∉ X.fs := fun hm => by
      obtain ⟨e, he, q⟩ := List.mem_filterMap.mp hm
      exact nfr (List.mem_filterMap.mpr ⟨e, List.mem_cons_of_mem _ he, q⟩)
    have S3 := J3.suite he3 hd3 na nL nF
    have LT : PySem.W.Looks (model X.prog X.w) h3 (typeOf (.ref a)) cls := fun A Q E s k q => wpAny_typeOf_ref (k _ _ he3) (by rw [hz3.1]; exact q)
    have test : ∀ {x : Str} {c : Value} {np : Pos} {Q : Value → Shared → Prop} {E : Value → Shared → Prop}, Names X x c → Q c { s' with heap := h3 } → wpAny (model X.prog X.w) (X.A.mark (some (.ref a))) (eval (.Name x np) X.env) Q E { s' with heap := h3 } := fun {x c np Q E} hc q => by
      obtain ⟨hg, hdbg, hm | ⟨hm, hv, hnn⟩⟩ := hc
      · exact ld_glob (X := X.suite a ((a, oe3) :: (X.pn ++ pins))) S3 hg hm q hdbg
      · exact ld_blt (X := X.suite a ((a, oe3) :: (X.pn ++ pins))) S3 hg hm hv q hnn hdbg
    have go : ∀ {hds' : List ExceptHandler} {l' : List (Value × Option Nat × (Addr → Value → Option Addr → TS))}, HdN X hds' l' → wN X.K D l' cls d σ' H' →
        wpAny (model X.prog X.w) X.A (handleBy (.ref a) X.env hds') (SP X pins D) X.xe { s' with heap := h3 } := by
      intro hds' l' hk
      induction hk with
      | stop => intro w; exact w.elim
      | @cons x c ts b₀ suite np pos' hds2 l2 hc hsu r ih =>
        intro w
        obtain ⟨b, hb1, hyes, hno⟩ := w
        refine wpAny_handleBy_cons (codeAny_handlers_test ?_) (by intro q; cases q)
        have LM := PySem.W.exm_one (M := model X.prog X.w) (J3.kIn) LT hb1
        refine test hc (LM.here ?_)
        cases b with
        | true =>
          refine codeAny_handlers_suite ?_
          refine HandSPX.lands_againZ fl3 fun h4 fl4 up4 => ?_
          have J4 : Inv X pins σ' H' { s' with heap := h4 } := J.landed nb fl4.1 ((up.trans up3).trans up4) os ag
          obtain ⟨oe4, vs4, he4, hz4, hd4⟩ := fl4.there
          have S4 := J4.suite he4 hd4 na nL nF
          refine wpAny_mono ((hsu a oe4 cls d (X.pn ++ pins) hz4 ⟨_, hd4⟩).run [] _ _ H' _ S4 (hyes rfl a na)) (fun f s6 hsp => ?_) (fun _ _ z => False.elim z)
          cases f with
          | next =>
            obtain ⟨σ6, H6, S6, q6⟩ := hsp
            exact ⟨_, _, S6.unsuite ok, q6⟩
          | brk =>
            obtain ⟨σ6, H6, S6, q6⟩ := hsp
            exact ⟨_, _, S6.unsuite ok, q6⟩
          | cont =>
            obtain ⟨σ6, H6, S6, q6⟩ := hsp
            exact ⟨_, _, S6.unsuite ok, q6⟩
          | ret u =>
            obtain ⟨v6, σ6, H6, S6, r6, q6⟩ := hsp
            exact ⟨_, _, _, S6.unsuite ok, r6, q6⟩
        | false =>
          show wpAny _ X.A (handleBy (.ref a) X.env hds2) _ _ _
          exact ih (hno rfl)
      | @as x n i c ts b₀ suite np pos' hds2 l2 hc hi hln hsu r ih =>
        intro w
        obtain ⟨b, hb1, hyes, hno⟩ := w
        have hloc : Loc X.env.scope n := .inl hln
        refine wpAny_handleBy_cons (codeAny_handlers_test ?_) (by intro q; cases q)
        have LM := PySem.W.exm_one (M := model X.prog X.w) (J3.kIn) LT hb1
        refine test hc (LM.here ?_)
        cases b with
        | true =>
          refine codeAny_handlers_suite_as ?_
          refine HandSPX.lands_againZ fl3 fun h4 fl4 up4 => ?_
          have J4 : Inv X pins σ' H' { s' with heap := h4 } := J.landed nb fl4.1 ((up.trans up3).trans up4) os ag
          obtain ⟨oe4, vs4, he4, hz4, hd4⟩ := fl4.there
          have S4 := J4.suite he4 hd4 na nL nF
          refine store_ok (X := X.suite a ((a, oe4) :: (X.pn ++ pins))) (v := .ref a) S4 hN hi hloc rfl (fun s5 S5 => ?_) (.inr hln)
          refine wpAny_mono ((hsu a oe4 cls d (X.pn ++ pins) hz4 ⟨_, hd4⟩).run [] s5 _ H' _ S5 (hyes rfl a na)) (fun f s6 hsp => ?_) (fun _ _ z => False.elim z)
          have end_ : ∀ {σ6 : L2.St} {H6 : Hp} {Q : Shared → Prop}, Inv (X.suite a ((a, oe4) :: (X.pn ++ pins))) [] σ6 H6 s6 → (∀ s7, Inv X pins (σ6.set i none) H6 s7 → Q s7) →
              wpAny (model X.prog X.w) X.A (do bindName X.env n .none; unbindBehindTheSuite X.env n pos') (fun _ s7 => Q s7) X.xe s6 := fun {σ6 H6 Q} S6 hq => gone_ok (S6.unsuite ok) hN hi hln hq
          cases f with
          | next =>
            obtain ⟨σ6, H6, S6, q6⟩ := hsp
            exact end_ S6 fun s7 J7 => ⟨_, _, J7, q6⟩
          | brk =>
            obtain ⟨σ6, H6, S6, q6⟩ := hsp
            exact end_ S6 fun s7 J7 => ⟨_, _, J7, q6⟩
          | cont =>
            obtain ⟨σ6, H6, S6, q6⟩ := hsp
            exact end_ S6 fun s7 J7 => ⟨_, _, J7, q6⟩
          | ret u =>
            obtain ⟨v6, σ6, H6, S6, r6, q6⟩ := hsp
            exact end_ S6 fun s7 J7 => ⟨_, _, _, J7, r6, q6⟩
        | false =>
          show wpAny _ X.A (handleBy (.ref a) X.env hds2) _ _ _
          exact ih (hno rfl)
    exact go hh w
  · cases f with
    | next =>
      obtain ⟨σ', H', J', q⟩ := hsp
      exact wpAny_execs_nil ⟨σ', H', J'.ofTry ok, q⟩
    | brk =>
      obtain ⟨σ', H', J', q⟩ := hsp
      exact ⟨σ', H', J'.ofTry ok, q⟩
    | cont =>
      obtain ⟨σ', H', J', q⟩ := hsp
      exact ⟨σ', H', J'.ofTry ok, q⟩
    | ret u =>
      obtain ⟨v, σ', H', J', r, q⟩ := hsp
      exact ⟨v, σ', H', J'.ofTry ok, r, q⟩
end
/-! ### defs that may raise, the guards told -/
structure CalX (P : Program) (w : World) (K : Fg) (mg : Str → Option Value) (base : Heap) (k : Nat) (x : Str) (ps : List Str) (sp : Sp) : Prop where
  ex : ∃ (f : Addr) (fd : FuncData), Tq.FnG P w K mg base (L2.CX P w) k f fd ps sp ∧ mg x = some (.ref f) ∧ PySem.W.keepIn K (.ref f) = true ∧ Binds K fd ps []
section
variable {P : Program} {w : World} {K : Fg} {mg : Str → Option Value} {base : Heap} {k : Nat} {x : Str} {ps N : List Str} {sp : Sp} {st : Stmt}
theorem okX (d : Tq.Df K mg x st ps) (Sc : FnScope N ps (defScope st)) (len : ∀ vs H Q E, sp vs H Q E → vs.length = ps.length)
    (hbody : ∀ (f : Addr) (cdv : Value) (A : Around) (outer : List Env) (s : Shared) (H : Hp) (vs : List V) (Q : VK) (E : XK), Room k (A.deeper (envOfC x (defScope st) s.heap.objs.size f cdv)) →
      (A.deeper (envOfC x (defScope st) s.heap.objs.size f cdv)).guards = some [] → sp vs H Q E →
      ∃ t, PSs (cxOf (L2.CX P w) P w K mg base N x (defScope st) f cdv A outer s H E) (defBody st) t ∧ t { nx := fun _ G => Q .non G, rt := Q } (start N vs) H) : CalX P w K mg base (k + 1) x ps sp := by
  obtain ⟨f, fd, F, hm, hb⟩ := d.ex
  have kp := F.kp
  obtain ⟨oc, od, kV, doc, pm, an, cdv, ct, osl, rfl, lk, hcd⟩ := F.ex
  exact ⟨f, _, Tq.fn_ofG lk hcd Sc len fun A outer s H vs Q E hr hgu hsp => hbody f cdv A outer s H vs Q E hr hgu hsp, hm, kp, hb⟩
theorem run_fnSG {X : Cx} {CX : CXT} {f : Addr} {fd : FuncData} {E : L2.St → XK} {pins : List (Addr × Obj)} {σ : L2.St} {H : Hp} {s : Shared} {Q : VK} {us : List Value} {vs : List V} (F : Tq.FnG X.prog X.w X.K X.mg X.base CX k f fd ps sp) (hr : Room k X.A) (hgu : X.A.guards = some []) (hb : Binds X.K fd ps []) (hx : PassesAt CX X σ (E σ))
    (I : Inv X pins σ H s) (r : Vals vs us) (h : sp vs H Q (E σ)) : wpAny (model X.prog X.w) X.A (call (.ref f) us) (EP X pins σ Q) X.xe s := by
  have hl : us.length = ps.length := by rw [← r.length]; exact F.len _ _ _ _ h
  have b := hb s us I.kIn (by rw [List.append_nil]; exact hl)
  rw [List.append_nil] at b
  refine wpAny_call (codeAny_mono (F.run X.A X.stack s H ⟨us, []⟩ us vs Q (E σ) hr hgu I.env0 b r h) fun r s' hq => ?_)
  cases r with
  | error e => exact hx pins H s e s' I hq
  | ok fl =>
    cases fl with
    | ret u => exact I.after hq
    | next => exact False.elim hq
    | brk => exact False.elim hq
    | cont => exact False.elim hq
theorem pe_calX {X : Cx} {W : WX} {p pos : Pos} {e : Expr} {es : List Expr} {t : TA} (c : CalX X.prog X.w X.K X.mg X.base k x ps sp) (hr : Room k X.A) (hgu : X.A.guards = some []) (hg : Gl X x) (tk : Takes X W) (ha : PA X (e :: es) t) (hdb : (x == ("__debug__" : Str)) = false := by decide)
    (he : starEach (e :: es) X.env = (false, eval e X.env) :: starEach es X.env := by rfl)
    (hpl : (backTo pos (starEach es X.env)).any (·.1) = false := by rfl) : PE X (.Call (.Name x p) (e :: es) [] pos) (tCallS sp (WE W) t) := by
  obtain ⟨f, fd, F, hm, hk, hb⟩ := c.ex
  refine ⟨fun pins s σ H Q I h => ?_⟩
  refine wpAny_Call_Name_kw (ld_glob I hg hm ?_ hdb)
  refine PySem.W.callWith_K (h₀ := X.base) I.ok.mod.kin hk (thn (ha.run pos pins s σ H _ I h) fun us s1 ⟨vs, H1, I1, r, q⟩ => ⟨I1.kIn, ?_⟩) he hpl
  exact run_fnSG (E := WE W) F hr hgu hb (passAt tk σ) I1 r q
end
end Ux

set_option maxRecDepth 100000
set_option maxHeartbeats 2000000
namespace Ux
open PySem PySem.Spec PyProof.Rows L2 Tq
/-! ### what a thing is at present -/
def kvD (kvs : List (Key × D)) : List (Key × Z) := kvs.map fun p => (p.1, .d p.2)
def dD (kvs : List (Key × D)) : D := .dict (kvs.map fun p => (kD p.1, p.2))
inductive ResC : Cell → D → Prop
  | lst (ds : List D) : ResC (.lst (ds.map Z.d)) (.list ds)
  | dic (kvs : List (Key × D)) : ResC (.dic (kvD kvs)) (dD kvs)
  | ro {c : Cell} {d : D} : ResC c d → ResC (.ro c) d
inductive Res (m : List Cl) : Z → D → Prop
  | d (d : D) : Res m (.d d) d
  | lab {e : Cl} {d : D} : e ∈ m → ResC e.c d → Res m (.lab e.a) d
inductive ResA (m : List Cl) : List Z → List D → Prop
  | nil : ResA m [] []
  | cons {z : Z} {d : D} {zs : List Z} {ds : List D} : Res m z d → ResA m zs ds → ResA m (z :: zs) (d :: ds)
theorem ResA.ds {m : List Cl} : ∀ (ds : List D), ResA m (ds.map Z.d) ds
  | [] => .nil
  | d :: ds => .cons (.d d) (ResA.ds ds)
theorem ResA.len {m : List Cl} : ∀ {zs : List Z} {ds : List D}, ResA m zs ds → zs.length = ds.length
  | _, _, .nil => rfl
  | _, _, .cons _ b => congrArg (· + 1) b.len
/-- all are for reading alone -/
def Cell.toRo : Cell → Cell
  | .ro c => .ro c
  | c => .ro c
def roM (m : List Cl) : List Cl := m.map fun e => ⟨e.a, false, e.c.toRo⟩
theorem toRo_ro (c : Cell) : c.toRo.isRo = true := by cases c <;> rfl
theorem toRo_ok {K : Fg} {M : Addr → Prop} {H : Hp} {a : Addr} {c : Cell} (h : CellOk K M H a c) : CellOk K M H a c.toRo := by cases c <;> exact h
theorem toRo_res {c : Cell} {d : D} (h : ResC c d) : ResC c.toRo d := by
  cases h with
  | lst ds => exact .ro (.lst ds)
  | dic ds => exact .ro (.dic ds)
  | ro h => exact .ro h
theorem Res.rom {m : List Cl} {z : Z} {d : D} (h : Res m z d) : Res (roM m) z d := by
  cases h with
  | d d => exact .d d
  | @lab e d he hc => exact .lab (e := ⟨e.a, false, e.c.toRo⟩) (List.mem_map.mpr ⟨e, he, rfl⟩) (toRo_res hc)
theorem ResA.rom {m : List Cl} : ∀ {zs : List Z} {ds : List D}, ResA m zs ds → ResA (roM m) zs ds
  | _, _, .nil => .nil
  | _, _, .cons a b => .cons a.rom b.rom
theorem dom_roM {m : List Cl} {a : Addr} : Dom (roM m) a ↔ Dom m a := by
  constructor
  · rintro ⟨e, h1, h2⟩
    obtain ⟨e', h3, rfl⟩ := List.mem_map.mp h1
    exact ⟨e', h3, h2⟩
  · rintro ⟨e, h1, h2⟩
    exact ⟨_, List.mem_map.mpr ⟨e, h1, rfl⟩, h2⟩
def MvX (F : Fr) (σ : St) (y : S) (a : Addr) : Prop := Mv F σ y a ∧ ¬ Dom y.m a
theorem rpk_of {K : Fg} {M : Addr → Prop} {H : Hp} : ∀ {ks : List (Key × V)} {kvs : List (Key × D)}, RwK K M H ks (kvD kvs) → RpK K M H ks (kvs.map fun p => (kD p.1, p.2))
  | [], [], _ => .nil
  | _ :: _, [], h => by cases h
  | [], _ :: _, h => by cases h
  | _ :: _, (k, d) :: r, h => by
    cases h with | cons a b => cases a with | d a => exact .cons a (rpk_of b)
theorem ResC.rp {K : Fg} {M N : Addr → Prop} {H : Hp} {a : Addr} {c : Cell} {d : D} (h : ResC c d) (g : GoH M H N H) (n : ¬ N a) (ok : CellOk K M H a c) : Rp K N H (.ref a) d := by
  induction h with
  | lst ds =>
    obtain ⟨xs, h1, h2⟩ := ok
    exact .lst (.inl ⟨n, .inl h1⟩) (h2.ds.go g)
  | dic kvs =>
    obtain ⟨ks, h1, h2⟩ := ok
    exact .dic n h1 ((rpk_of h2).go g)
  | ro _ ih => exact ih ok
theorem Res.rp {K : Fg} {F : Fr} {σ : St} {y : S} {H : Hp} {v : V} {z : Z} {d : D} (w : Wd0 K F σ y H) (h : Res y.m z d) (r : Rw K (Mv F σ y) H v z) : Rp K (MvX F σ y) H v d := by
  have g : GoH (Mv F σ y) H (MvX F σ y) H := fun a o n e => ⟨fun q => n q.1, e⟩
  cases h with
  | d d => cases r with | d r => exact r.go g
  | @lab e d he hc =>
    cases r
    exact hc.rp g (fun q => q.2 ⟨e, he, rfl⟩) (w.cell e he)
theorem ResA.rp {K : Fg} {F : Fr} {σ : St} {y : S} {H : Hp} (w : Wd0 K F σ y H) : ∀ {vs : List V} {zs : List Z} {ds : List D}, ResA y.m zs ds → RwA K (Mv F σ y) H vs zs → RpA K (MvX F σ y) H vs ds
  | _, _, _, .nil, .nil => .nil
  | _, _, _, .cons a b, .cons c d => .cons (a.rp w c) (b.rp w d)
theorem sc_rp {K : Fg} {M N : Addr → Prop} {H : Hp} {v : V} {d : D} (h : scD d = true) (r : Rp K M H v d) : Rp K N H v d := by
  cases r with
  | non => exact .non
  | bl b => exact .bl b
  | int b => exact .int b
  | str b => exact .str b
  | lst _ _ => cases h
  | tup _ _ => cases h
  | dic _ _ _ => cases h
/-! ### calls of defs over data -/
section
variable {C : Ct} {y : S} {ts : TA} {te : TE} {Q : Z → S → Prop} {E : XK} {n : Nat} {pre : List D → Prop} {post : List D → D → Prop} {cost : List D → Nat} {e : En}
theorem wE_pure (w : wD C ts y fun ds y1 => ds.length = n ∧ pre ds ∧ ∀ d, post ds d → Q (.d d) y1) : wE C (tCall (pureSp C.K n pre post) [] E ts) y Q := by
  intro F σ H K wd k
  refine w F σ H _ wd fun vs H1 ds y1 w1 g1 s1 r1 ⟨hn, hp, q⟩ => ?_
  rw [List.append_nil]
  exact ⟨Mv F σ y1, ds, fun a m e => w1.new e m, r1, hn, hp, fun d v H2 hd gr rv => k v H2 (.d d) y1 (w1.grow gr) (g1.trans (go_grow gr)) s1 rv (q d hd)⟩
theorem wE_det {G : List D → D} (w : wD C ts y fun ds y1 => (ds.length = n ∧ pre ds) ∧ Q (.d (G ds)) y1) : wE C (tCall (detSp C.K n pre G) [] E ts) y Q :=
  wE_pure (wD_mono w fun ds y1 ⟨⟨h1, h2⟩, q⟩ => ⟨h1, h2, fun d e => by subst e; exact q⟩)
/-- what is handed in is taken as it is at present; the answer is plain -/
theorem wE_pureR (w : wZ C ts y fun zs y1 => ∃ ds, ResA y1.m zs ds ∧ ds.length = n ∧ pre ds ∧ ∀ d, post ds d → scD d = true ∧ Q (.d d) y1) : wE C (tCall (pureSp C.K n pre post) [] E ts) y Q := by
  intro F σ H K wd k
  refine w F σ H _ wd fun vs H1 zs y1 w1 g1 s1 r1 ⟨ds, hr, hn, hp, q⟩ => ?_
  rw [List.append_nil]
  exact ⟨MvX F σ y1, ds, fun a m e => w1.new e m.1, hr.rp w1.toWd0 r1, hn, hp, fun d v H2 hd gr rv => k v H2 (.d d) y1 (w1.grow gr) (g1.trans (go_grow gr)) s1 (sc_rp (q d hd).1 rv) (q d hd).2⟩
theorem wE_detR {G : List D → D} (w : wZ C ts y fun zs y1 => ∃ ds, ResA y1.m zs ds ∧ (ds.length = n ∧ pre ds) ∧ scD (G ds) = true ∧ Q (.d (G ds)) y1) : wE C (tCall (detSp C.K n pre G) [] E ts) y Q :=
  wE_pureR (wZ_mono w fun zs y1 ⟨ds, h0, ⟨h1, h2⟩, hs, q⟩ => ⟨ds, h0, h1, h2, fun d e => by subst e; exact ⟨hs, q⟩⟩)
theorem wE_pu {i j : Nat} {p : Addr} {b : Bool} {m0 : Nat} (hi : y.l[i]? = some (some (.lab p))) (hj : y.m[j]? = some ⟨p, b, .pu m0⟩)
    (w : wD C ts y fun ds y1 => ∃ m, y1.m[j]? = some ⟨p, b, .pu m⟩ ∧ ds.length = n ∧ pre ds ∧ cost ds ≤ m ∧ ∀ d, post ds d → Q (.d d) ⟨y1.l, y1.m.set j ⟨p, b, .pu (m - cost ds)⟩⟩) :
    wE C (tCall (puSp C.K n pre cost post) [] E (tCons (tVar i) ts)) y Q := by
  intro F σ H K wd k
  obtain ⟨x, h1, h2⟩ := wd.slot i _ hi
  cases h2
  refine ⟨.ref p, h1, w F σ H _ wd fun vs H1 ds y1 w1 g1 s1 r1 ⟨m, hj1, hn, hp, hc, q⟩ => ?_⟩
  show puSp C.K n pre cost post ((.ref p :: vs) ++ []) H1 K E
  rw [List.append_nil]
  have hm : (⟨p, b, .pu m⟩ : Cl) ∈ y1.m := List.mem_of_getElem? hj1
  refine ⟨Mv F σ y1, p, vs, ds, m, rfl, .inr ⟨_, hm, rfl⟩, fun a m e => w1.new e m, w1.cell _ hm, r1, hn, hp, hc, fun d v H2 hd kp pk rv => ?_⟩
  obtain ⟨w2, g2, s2⟩ := w1.cmut (H' := H2) (c' := .pu (m - cost ds)) hj1 rfl rfl kp fun M _ g => pk
  refine k v H2 (.d d) _ w2 (g1.trans g2) (s1.trans s2) (Rp.go (fun a o na e => ⟨fun z => na (z.elim .inl fun ⟨e', q1, q2⟩ => .inr ?_), e⟩) rv) (q d hd)
  rcases mem_set_or q1 with q1 | q1
  · subst q1; exact ⟨_, hm, q2⟩
  · exact ⟨e', q1, q2⟩
/-- a draw -/
theorem wE_take {i j : Nat} {p : Addr} {b : Bool} {m0 : Nat} (hi : y.l[i]? = some (some (.lab p))) (hj : y.m[j]? = some ⟨p, b, .pu m0⟩)
    (w : wE C te y fun z y1 => ∃ (k : Int) (m : Nat), z = .d (.int k) ∧ y1.m[j]? = some ⟨p, b, .pu m⟩ ∧ (0 < k ∧ k ≤ 10 ^ 40 ∧ 1 ≤ m) ∧ ∀ r : Int, 0 ≤ r → r < k → Q (.d (.int r)) ⟨y1.l, y1.m.set j ⟨p, b, .pu (m - 1)⟩⟩) :
    wE C (tCall (spTake C.K) [] E (tCons (tVar i) (tCons te tNil))) y Q := by
  refine wE_pu hi hj (wD_cons (wE_mono w fun z y1 ⟨k, m, e, hm, ⟨h0, h1, h2⟩, q⟩ => ⟨_, e, wD_nil ⟨m, hm, rfl, ⟨k, rfl, h0, ?_⟩, h2, fun d hd => ?_⟩⟩))
  · have hb : k.natAbs < 2 ^ 200 := Nat.lt_of_le_of_lt (show k.natAbs ≤ 10 ^ 40 by omega) (by decide)
    exact Nat.lt_of_lt_of_le (log2_lt hb (by decide)) (by decide)
  · obtain ⟨k', r, e1, e2, h3, h4⟩ := hd
    cases e1
    subst e2
    exact q r h3 h4
/-- purse = _law_purse(c) -/
theorem wE_purse (w : wD C ts y fun ds y1 => ∃ c : Int, ds = [.int c] ∧ ∀ p, Q (.lab p) ⟨y1.l, y1.m ++ [⟨p, true, .pu 8000000⟩]⟩) : wE C (tCall spPurse [] E ts) y Q := by
  intro F σ H K wd k
  refine w F σ H _ wd fun vs H1 ds y1 w1 g1 s1 r1 ⟨c, hc, q⟩ => ?_
  subst hc
  obtain ⟨v, rfl, rv⟩ := rpA1 r1
  refine ⟨c, by rw [rp_int rv]; rfl, fun p x b hn hx hb hb2 => ?_⟩
  obtain ⟨w2, g2, s2⟩ := w1.cnew (o := .lst [.int x, .int b, .int 0]) (c := .pu 8000000) (b := true) hn fun M g => ⟨x, b, 0, upd_same, hx, hb, hb2, by decide, by decide⟩
  exact k _ _ (.lab p) _ w2 (g1.trans g2) (s1.trans s2) (.lab p) (q p)
end
/-! ### bodies -/
section
variable {K : Fg} {N : List Str} {t : TS} {vs : List V} {H : Hp} {Q : VK} {E : XK} {n : Nat} {pre : List D → Prop} {post : List D → D → Prop} {cost : List D → Nat}
def l0 (N : List Str) (zs : List Z) : List (Option Z) := zs.map some ++ List.replicate (N.length - zs.length) none
theorem l0_slot {M : Addr → Prop} {zs : List Z} {i : Nat} {z : Z} (r : RwA K M H vs zs) (e : (l0 N zs)[i]? = some (some z)) : ∃ x, (start N vs)[i]? = some (some x) ∧ Rw K M H x z := by
  have e1 := getElem?_app_none e
  rw [List.getElem?_map] at e1
  cases q : zs[i]? with
  | none => rw [q] at e1; cases e1
  | some d =>
    rw [q] at e1
    cases e1
    obtain ⟨v, hv, rv⟩ := r.get q
    exact ⟨v, start_get hv, rv⟩
theorem l0_len {M : Addr → Prop} {zs : List Z} (r : RwA K M H vs zs) : (start N vs).length = (l0 N zs).length := by
  unfold L2.start l0
  rw [List.length_append, List.length_append, List.length_map, List.length_map, List.length_replicate, List.length_replicate, r.len]
theorem pure_body (h : pureSp K n pre post vs H Q E) (b : ∀ ds, ds.length = n → pre ds → ∀ e : En, (∀ y, post ds .none → e.nx y) → (∀ d y, post ds d → e.rt (.d d) y) → wS { K := K } t ⟨l0 N (ds.map Z.d), []⟩ e) :
    t { nx := fun _ G => Q .non G, rt := Q } (start N vs) H := by
  obtain ⟨M, ds, al, r, l, hp, k⟩ := h
  refine b ds l hp { nx := fun _ => post ds .none, rt := fun z _ => ∃ d, z = .d d ∧ post ds d } (fun _ q => q) (fun d _ q => ⟨d, rfl, q⟩) ⟨H, fun _ => False, M, true⟩ (start N vs) H _ rfl
    ⟨⟨fun a o _ e => e, al, al, l0_len (RwA.of r), fun i z e => ?_, fun e he => (nomatch he), List.Pairwise.nil, fun e he => (nomatch he), fun a z => z.elim, fun _ e he => (nomatch he)⟩, fun _ _ _ _ _ _ _ _ _ z => z.elim⟩
    ⟨fun σ' H' y' w g q => ?_, fun σ' v H' z y' w g rz q => ?_, fun _ _ _ _ _ q => q.elim, fun _ _ _ _ _ q => q.elim⟩
  · obtain ⟨x, h1, h2⟩ := l0_slot (RwA.of r) e
    exact ⟨x, h1, h2.go fun a o na e => ⟨fun z => z.elim na fun ⟨_, q, _⟩ => (nomatch q), e⟩⟩
  · exact k .none .non H' q (fun a o e => w.keep a o (fun z => z) e) .non
  · obtain ⟨d, rfl, q⟩ := q
    exact k d v H' q (fun a o e => w.keep a o (fun z => z) e) (Rp.go (fun a o n e => ⟨fun z => n (.inl z), e⟩) rz)
theorem pu_body (h : puSp K n pre cost post vs H Q E) (b : ∀ ds m p, ds.length = n → pre ds → cost ds ≤ m → ∀ e : En, (∀ y k o, post ds .none → (⟨p, o, .pu k⟩ : Cl) ∈ y.m → m - cost ds ≤ k → e.nx y) → (∀ d y k o, post ds d → (⟨p, o, .pu k⟩ : Cl) ∈ y.m → m - cost ds ≤ k → e.rt (.d d) y) →
      wS { K := K } t ⟨l0 N (.lab p :: ds.map Z.d), [⟨p, false, .pu m⟩]⟩ e) : t { nx := fun _ G => Q .non G, rt := Q } (start N vs) H := by
  obtain ⟨M, p, us, ds, m, rfl, mp, al, pk, r, l, hp, hc, k⟩ := h
  have rr : RwA K M H (.ref p :: us) (.lab p :: ds.map Z.d) := .cons (.lab p) (RwA.of r)
  have hM : ∀ {a : Addr}, Mv ⟨H, fun a => a = p, M, true⟩ (start N (.ref p :: us)) ⟨l0 N (.lab p :: ds.map Z.d), [⟨p, false, .pu m⟩]⟩ a → M a := fun {a} z => z.elim (fun z => z) fun ⟨e, q1, q2⟩ => by
    rw [List.mem_singleton] at q1; subst q1; exact q2 ▸ mp
  have fin : ∀ {σ' : St} {H' : Hp} {y' : S} {q : Nat} {o : Bool}, Wd { K := K } ⟨H, fun a => a = p, M, true⟩ σ' y' H' → (⟨p, o, .pu q⟩ : Cl) ∈ y'.m → m - cost ds ≤ q → PuOk H' p (m - cost ds) := fun {σ' H' y' q o} w e hq => PuOk.mono (w.cell _ e) hq
  refine b ds m p l hp hc { nx := fun y => post ds .none ∧ ∃ k o, (⟨p, o, .pu k⟩ : Cl) ∈ y.m ∧ m - cost ds ≤ k, rt := fun z y => ∃ d k o, z = .d d ∧ post ds d ∧ (⟨p, o, .pu k⟩ : Cl) ∈ y.m ∧ m - cost ds ≤ k }
    (fun y k o q1 q2 q3 => ⟨q1, k, o, q2, q3⟩) (fun d y k o q1 q2 q3 => ⟨d, k, o, rfl, q1, q2, q3⟩) ⟨H, fun a => a = p, M, true⟩ (start N (.ref p :: us)) H _ rfl
    ⟨⟨fun a o _ e => e, al, al, l0_len rr, fun i z e => ?_, fun e he => ?_, List.pairwise_singleton _ _, fun e he _ => ?_, fun a z => (show a = p from z) ▸ mp, fun _ e he ho => ?_⟩, fun _ _ _ _ _ _ _ _ _ z => z.elim⟩
    ⟨fun σ' H' y' w g q => ?_, fun σ' v H' z y' w g rz q => ?_, fun _ _ _ _ _ q => q.elim, fun _ _ _ _ _ q => q.elim⟩
  · obtain ⟨x, h1, h2⟩ := l0_slot rr e
    exact ⟨x, h1, h2.go fun a o na e => ⟨fun z => na (hM z), e⟩⟩
  · rw [List.mem_singleton] at he; subst he; exact pk
  · rw [List.mem_singleton] at he; subst he; exact .inl rfl
  · rw [List.mem_singleton] at he; subst he; cases ho
  · obtain ⟨q1, c, o, q2, q3⟩ := q
    exact k .none .non H' q1 (fun a o n e => w.keep a o n e) (fin w q2 q3) .non
  · obtain ⟨d, c, o, rfl, q1, q2, q3⟩ := q
    exact k d v H' q1 (fun a o n e => w.keep a o n e) (fin w q2 q3) (Rp.go (fun a o n e => ⟨fun z => n (.inl z), e⟩) rz)
theorem law_body (h : spLaw K vs H Q E) (b : ∀ ns : List Int, ns.length ≤ 63 → ∀ e : En, (∀ y, e.rt (.d (.bool true)) y) → wS { K := K } t ⟨l0 N [.d (.list (ns.map PyData.int))], []⟩ e) :
    t { nx := fun _ G => Q .non G, rt := Q } (start N vs) H := by
  obtain ⟨a, ns, rfl, hs, hl, k⟩ := h
  refine pure_body (K := K) (n := 1) (pre := fun ds => ds = [.list (ns.map PyData.int)]) (post := fun _ d => d = .bool true) (Q := Q) (E := fun _ _ _ => False) ⟨fun _ => False, [.list (ns.map PyData.int)], fun a z => z.elim, .cons (.lst ?_ (rpA_int ns)) .nil, rfl, rfl, fun d v H' e _ r => ?_⟩ ?_
  · rcases hs with hs | hs
    · exact .inl ⟨fun z => z, hs⟩
    · exact .inr hs
  · subst e
    rw [rp_bl r]
    exact k H'
  · rintro ds _ rfl e hn hr
    exact b ns hl e fun y => hr _ y rfl
end
/-! ### defs that read, and may raise -/
def xSp (K : Fg) (n : Nat) (pre : List Z → List D → Prop) (post : List Z → List D → Z → Prop) (xp : List Z → List D → Ex → Prop) : Sp := fun vs H Q E => ∃ (M : Addr → Prop) (m : List Cl) (zs : List Z) (ds : List D),
  (∀ a, M a → H a ≠ none) ∧ RwA K M H vs zs ∧ (∀ e ∈ m, M e.a ∧ CellOk K M H e.a e.c) ∧ (m.Pairwise fun e e' => e.a ≠ e'.a) ∧ ResA m zs ds ∧ zs.length = n ∧ pre zs ds ∧
  (∀ z v H', post zs ds z → (∀ a o, H a = some o → H' a = some o) → Rw K M H' v z → Q v H') ∧
  (∀ ex a v H', xp zs ds ex → (∀ a o, H a = some o → H' a = some o) → H a = none → H' a = some (.xd [(keyZ ex.found, v)]) → Rw K M H' v (valZ ex.found) → E ex.cls (some a) H')
theorem xSp_len {K : Fg} {n : Nat} {pre : List Z → List D → Prop} {post : List Z → List D → Z → Prop} {xp : List Z → List D → Ex → Prop} {ps : List Str} (h : ps.length = n) : ∀ vs H Q E, xSp K n pre post xp vs H Q E → vs.length = ps.length := by
  rintro vs H Q E ⟨M, m, zs, ds, _, r, _, _, _, l, _⟩
  rw [r.len, l, h]
section
variable {K : Fg} {N : List Str} {t : TS} {vs : List V} {H : Hp} {Q : VK} {E : XK} {n : Nat} {pre : List Z → List D → Prop} {post : List Z → List D → Z → Prop} {xp : List Z → List D → Ex → Prop}
theorem x_body (h : xSp K n pre post xp vs H Q E) (b : ∀ m zs ds, zs.length = n → ResA m zs ds → pre zs ds → ∀ e : En, (∀ y, post zs ds (.d .none) → e.nx y) → (∀ z y, post zs ds z → e.rt z y) →
      wS { K := K, W := fun cls d _ H' => E cls d H', ex := fun ex _ => xp zs ds ex } t ⟨l0 N zs, m⟩ e) : t { nx := fun _ G => Q .non G, rt := Q } (start N vs) H := by
  obtain ⟨M, m, zs, ds, al, r, cs, pw, rs, l, hp, k1, k2⟩ := h
  have hM : ∀ {a : Addr} {σ : St} {l : List (Option Z)}, Mv ⟨H, fun _ => False, M, true⟩ σ ⟨l, roM m⟩ a → M a := fun {a σ l} z => z.elim (fun z => z) fun q => by
    obtain ⟨e, q1, q2⟩ := dom_roM.mp q
    exact q2 ▸ (cs e q1).1
  have gM : GoH M H (Mv ⟨H, fun _ => False, M, true⟩ (start N vs) ⟨l0 N zs, roM m⟩) H := fun a o na e => ⟨fun z => na (hM z), e⟩
  refine b (roM m) zs ds l rs.rom hp { nx := fun _ => post zs ds (.d .none), rt := fun z _ => post zs ds z } (fun _ q => q) (fun d _ q => q) ⟨H, fun _ => False, M, true⟩ (start N vs) H _ rfl
    ⟨⟨fun a o _ e => e, al, al, l0_len r, fun i z e => ?_, fun e he => ?_, ?_, fun e he hr => ?_, fun a z => z.elim, fun _ e he ho => ?_⟩, fun σ' y' H' ex cls d w g x q => ?_⟩
    ⟨fun σ' H' y' w g q => ?_, fun σ' v H' z y' w g rz q => ?_, fun _ _ _ _ _ q => q.elim, fun _ _ _ _ _ q => q.elim⟩
  · obtain ⟨x, h1, h2⟩ := l0_slot r e
    exact ⟨x, h1, h2.go gM⟩
  · obtain ⟨e', q1, rfl⟩ := List.mem_map.mp he
    exact toRo_ok ((cs e' q1).2.go gM fun _ q => q)
  · unfold roM
    rw [List.pairwise_map]
    exact pw
  · obtain ⟨e', q1, rfl⟩ := List.mem_map.mp he
    rw [toRo_ro] at hr; cases hr
  · obtain ⟨e', q1, rfl⟩ := List.mem_map.mp he
    cases ho
  · obtain ⟨rfl, a, v, rfl, x1, x2, x3, x4⟩ := x
    exact k2 ex a v H' q (fun a o e => w.keep a o (fun z => z) e) x3 x1 (x4.go fun a o n e => ⟨fun z => n (.inl z), e⟩)
  · exact k1 (.d .none) .non H' q (fun a o e => w.keep a o (fun z => z) e) (.d .non)
  · exact k1 z v H' q (fun a o e => w.keep a o (fun z => z) e) (rz.w.go fun a o n e => ⟨fun z => n (.inl z), e⟩)
end
section
variable {C : Ct} {y : S} {ts : TA} {te : TE} {Q : Z → S → Prop} {n : Nat} {pre : List Z → List D → Prop} {post : List Z → List D → Z → Prop} {xp : List Z → List D → Ex → Prop} {e : En}
theorem wE_x (w : wZ C ts y fun zs y1 => ∃ ds, ResA y1.m zs ds ∧ (zs.length = n ∧ pre zs ds) ∧ (∀ z, post zs ds z → Q z y1) ∧ ∀ ex, xp zs ds ex → C.ex ex y1) : wE C (tCallS (xSp C.K n pre post xp) (WE C.W) ts) y Q := by
  intro F σ H K wd k
  refine w F σ H _ wd fun vs H1 zs y1 w1 g1 s1 r1 ⟨ds, hr, ⟨hn, hp⟩, q, x⟩ => ?_
  refine ⟨Mv F σ y1, y1.m, zs, ds, fun a m e => w1.new e m, r1, fun e he => ⟨.inr ⟨e, he, rfl⟩, w1.cell e he⟩, w1.dist, hr, hn, hp, fun z v H2 hz gr rv => k v H2 z y1 (w1.grow gr) (g1.trans (go_grow gr)) s1 rv.z (q z hz), fun ex a v H2 hx gr ha ha2 rv => ?_⟩
  exact w1.xk σ y1 H2 ex ex.cls (some a) (w1.grow gr).toWd0 (go_grow gr) ⟨rfl, a, v, rfl, ha2, w1.new ha, w1.newH0 ha, rv⟩ (x ex hx)
theorem wS_raise {K : Fg} {Cc : Addr} (hK : K = C.K) (oc : OexC C.K Cc) (no : PySem.W.findIn C.K (.ref Cc) "found" = some none) (w : wZ C ts y fun zs y1 => ∃ z, zs = [z] ∧ C.ex ⟨.ref Cc, z⟩ y1) : wS C (tRaiseF K Cc C.W ts) y e := by
  subst hK
  intro F σ H E st wd k
  refine w F σ H _ wd fun vs H1 zs y1 w1 g1 s1 r1 ⟨z, ez, x⟩ => ?_
  subst ez
  cases r1 with | @cons v _ vs _ rv r2 =>
  cases r2
  refine mkO_of (Q := fun cls d H' => C.W cls d σ H') oc no fun d hd => ?_
  have gr := grow_upd (o := .xd [(("found" : Str), v)]) hd
  exact w1.xk σ y1 _ ⟨.ref Cc, z⟩ (.ref Cc) (some d) (w1.grow gr).toWd0 (go_grow gr) ⟨rfl, d, v, rfl, by rw [rv.kz.1]; exact upd_same, w1.new hd, w1.newH0 hd, by rw [rv.kz.2]; exact rv.go (go_grow (F := F) (σ := σ) (y := y1) gr)⟩ x
/-- e.found in a suite -/
theorem wE_found {a dd Cc : Addr} {i : Nat} {z : Z} {cls : Value} (hc : cls = .ref Cc) (hi : y.l[i]? = some (some (.exc a dd z))) (kz : keyZ z = "found" ∧ valZ z = z) (q : Q z y) : wE C (tXf a cls (some dd) Cc "found" (tVar i)) y Q := by
  intro F σ H K wd k
  obtain ⟨x, h1, h2⟩ := wd.slot i _ hi
  cases h2 with
  | @exc _ _ v _ n c1 c2 =>
    rw [kz.1] at c1
    rw [kz.2] at c2
    exact ⟨.ref a, h1, rfl, hc, dd, _, v, rfl, c1, by simp [List.lookup], k v H z y wd GoH.refl (Sh.refl y) c2.z q⟩
/-- e.f in a suite -/
theorem wE_field {a dd Cc : Addr} {i : Nat} {z : Z} {f : Str} {cls : Value} (hc : cls = .ref Cc) (hi : y.l[i]? = some (some (.exc a dd (.nm f z)))) (q : Q z y) : wE C (tXf a cls (some dd) Cc f (tVar i)) y Q := by
  intro F σ H K wd k
  obtain ⟨x, h1, h2⟩ := wd.slot i _ hi
  cases h2 with
  | @exc _ _ v _ n c1 c2 =>
    have c1 : H dd = some (.xd [(f, v)]) := c1
    exact ⟨.ref a, h1, rfl, hc, dd, _, v, rfl, c1, by simp [List.lookup], k v H z y wd GoH.refl (Sh.refl y) (Rw.z (z := z) c2) q⟩
end
/-! ### try -/
def Hd (C : Ct) (K : Fg) (e : En) : List (Value × Option Nat × (Addr → Value → Option Addr → TS)) → Ex → S → Prop
  | [], _, _ => False
  | (c, none, ts) :: r, ex, y => ∃ b, PySem.W.exmOne K ex.cls c = some b ∧ (b = true → ∀ a dd : Addr, wS C (ts a ex.cls (some dd)) y e) ∧ (b = false → Hd C K e r ex y)
  | (c, some i, ts) :: r, ex, y => ∃ b, PySem.W.exmOne K ex.cls c = some b ∧ (b = true → ∀ a dd : Addr, wS C (ts a ex.cls (some dd)) (y.set i (some (.exc a dd ex.found)))
      { nx := fun y' => e.nx (y'.set i none), rt := e.rt, bk := fun y' => e.bk (y'.set i none), ct := fun y' => e.ct (y'.set i none) }) ∧ (b = false → Hd C K e r ex y)
theorem Wd.unset {C : Ct} {F : Fr} {σ : St} {y : S} {H : Hp} (w : Wd C F σ y H) (i : Nat) : Wd C F (σ.set i none) (y.set i none) H := by
  refine w.to ⟨w.keep, w.live0, w.live, by show (σ.set i _).length = (y.l.set i _).length; rw [List.length_set, List.length_set]; exact w.len, fun j z e => ?_, w.cell, w.dist, w.frsh, w.sm, w.nb⟩ go_set
  have e' : (y.l.set i none)[j]? = some (some z) := e
  by_cases n : j = i
  · subst n
    have hl : j < y.l.length := by
      have := (List.getElem?_eq_some_iff.mp e').1
      rw [List.length_set] at this; exact this
    rw [List.getElem?_set_self hl] at e'
    cases e'
  · rw [List.getElem?_set_ne (Ne.symm n)] at e' ⊢
    exact w.slot j z e'
theorem wS_try {C : Ct} {y : S} {e : En} {tb : WX → TS} {l : List (Value × Option Nat × (Addr → Value → Option Addr → TS))} (w : ∀ W, wS { C with W := W, ex := Hd C C.K e l } (tb W) y e) : wS C (tTry C.K l tb) y e := by
  intro F σ H D st wd k
  have chg : ∀ {σ' : St} {y' : S} {H' : Hp}, Wd { C with W := wN C.K D l, ex := Hd C C.K e l } F σ' y' H' → Go F σ y H σ' y' H' → Wd C F σ' y' H' := fun {σ' y' H'} w' g => wd.to w'.toWd0 g
  refine w (wN C.K D l) F σ H D st ⟨wd.toWd0, fun σ' y' H' ex cls d w0 g x q => ?_⟩ ⟨fun σ' H' y' w' g q => k.nx σ' H' y' (chg w' g) g q, fun σ' v H' z y' w' g r q => k.rt σ' v H' z y' (chg w' g) g r q, fun σ' H' y' w' g q => k.bk σ' H' y' (chg w' g) g q, fun σ' H' y' w' g q => k.ct σ' H' y' (chg w' g) g q⟩
  have w1 : Wd C F σ' y' H' := wd.to w0 g
  obtain ⟨rfl, dd, v, rfl, x1, x2, x3, x4⟩ := x
  have key : ∀ l : List (Value × Option Nat × (Addr → Value → Option Addr → TS)), Hd C C.K e l ex y' → wN C.K D l ex.cls (some dd) σ' H' := by
    intro l
    induction l with
    | nil => exact fun z => z
    | cons cl r ih =>
      obtain ⟨c, i, ts⟩ := cl
      cases i with
      | none =>
        rintro ⟨b, hb, hy, hn⟩
        refine ⟨b, hb, fun hbt a ha => ?_, fun hbf => ih (hn hbf)⟩
        exact hy hbt a dd F σ' H' D st w1 ⟨fun σ3 H3 y3 w3 g3 q => k.nx σ3 H3 y3 w3 (g.trans g3) q, fun σ3 v3 H3 z3 y3 w3 g3 r q => k.rt σ3 v3 H3 z3 y3 w3 (g.trans g3) r q, fun σ3 H3 y3 w3 g3 q => k.bk σ3 H3 y3 w3 (g.trans g3) q, fun σ3 H3 y3 w3 g3 q => k.ct σ3 H3 y3 w3 (g.trans g3) q⟩
      | some i =>
        rintro ⟨b, hb, hy, hn⟩
        refine ⟨b, hb, fun hbt a ha => ?_, fun hbf => ih (hn hbf)⟩
        have w3 := w1.set_z (i := i) (v := .ref a) (z := .exc a dd ex.found) (.exc x2 x1 x4)
        have g3 : Go F σ y H (σ'.set i (some (.ref a))) (y'.set i (some (.exc a dd ex.found))) H' := g.trans (go_set (σ := σ'))
        refine hy hbt a dd F _ H' _ st w3 ⟨fun σ4 H4 y4 w4 g4 q => k.nx _ H4 _ (w4.unset i) ((g3.trans g4).trans (go_set (σ := σ4))) q, fun σ4 v4 H4 z4 y4 w4 g4 r q => k.rt σ4 v4 H4 z4 y4 w4 (g3.trans g4) r q, fun σ4 H4 y4 w4 g4 q => k.bk _ H4 _ (w4.unset i) ((g3.trans g4).trans (go_set (σ := σ4))) q, fun σ4 H4 y4 w4 g4 q => k.ct _ H4 _ (w4.unset i) ((g3.trans g4).trans (go_set (σ := σ4))) q⟩
  exact key l q
end Ux

set_option maxRecDepth 100000
set_option maxHeartbeats 4000000
namespace Ux
open PySem PySem.Spec PyProof.Rows L2 Tq
open PySem.Builtin.Str (occurrences subAt)
section
variable {C : Ct} {y : S} {te : TE} {Q : Z → S → Prop} {E : XK}
theorem wE_powN {a : Int} {n : Nat} (q : Q (.d (.int (a ^ (OfNat.ofNat n : Nat)))) y) (ha : a.natAbs < 2 ^ 64 := by decide) (hn : n ≤ 1000000 := by decide) : wE C (tOp (rI CPow fun i j => .int (i ^ j.toNat)) (tC (.int a)) (tC (.int (OfNat.ofNat n)))) y Q := by
  refine wE_pow (wE_int (wE_int ⟨_, _, rfl, rfl, ⟨?_, ?_, ha⟩, q⟩))
  · show (0 : Int) ≤ (n : Nat); omega
  · show ((n : Nat) : Int) ≤ 1000000; omega
theorem wE_dispS {k : Str} {v : V} {d : D} (s : Sc v d) (h : Q (.d (.dict [(.str k, d)])) y) : wE C (tDisp [(tC (.str k), tC v)]) y Q := wE_disp1 (kk := .inr k) s h
theorem wE_dispI {k : Int} {v : V} {d : D} (s : Sc v d) (h : Q (.d (.dict [(.int k, d)])) y) : wE C (tDisp [(tC (.int k), tC v)]) y Q := wE_disp1 (kk := .inl k) s h
end
section
variable {C : Ct} {y : S} {ta tb : TE} {Q : Z → S → Prop}
theorem wE_eqS (w : wE C ta y fun z y1 => wE C tb y1 fun z' y2 => ∃ d e, z = .d d ∧ z' = .d e ∧ scalD d e = true ∧ Q (.d (.bool (eqS d e))) y2) : wE C (tOp rEq ta tb) y Q := by
  refine wE_op (res := fun d e r => scalD d e = true ∧ r = .bool (eqS d e)) ?_ (wE_mono w fun z y1 h => wE_mono h fun z' y2 ⟨d, e, e1, e2, s, q⟩ => ⟨_, _, _, e1, e2, ⟨s, rfl⟩, q⟩)
  rintro M H x u d e r Q _ rx ru ⟨s, rfl⟩ k
  obtain ⟨h1, h2⟩ := eqS_ok rx ru s
  refine ⟨h1, ?_⟩
  rw [h2]
  exact k _ H (fun _ _ e => e) (.bl _)
theorem wE_neS (w : wE C ta y fun z y1 => wE C tb y1 fun z' y2 => ∃ d e, z = .d d ∧ z' = .d e ∧ scalD d e = true ∧ Q (.d (.bool (!eqS d e))) y2) : wE C (tOp rNe ta tb) y Q := by
  refine wE_op (res := fun d e r => scalD d e = true ∧ r = .bool (!eqS d e)) ?_ (wE_mono w fun z y1 h => wE_mono h fun z' y2 ⟨d, e, e1, e2, s, q⟩ => ⟨_, _, _, e1, e2, ⟨s, rfl⟩, q⟩)
  rintro M H x u d e r Q _ rx ru ⟨s, rfl⟩ k
  obtain ⟨h1, h2⟩ := eqS_ok rx ru s
  refine ⟨h1, ?_⟩
  rw [h2]
  exact k _ H (fun _ _ e => e) (.bl _)
end
theorem wE_reprS {C : Ct} {y : S} {te : TE} {Q : Z → S → Prop} (w : wE C te y fun z y1 => ∃ d, z = .d d ∧ ShOk d ∧ Q (.d (.str d.shown)) y1) : wE C (tCB (rRepr C.K) (tCons te tNil)) y Q :=
  wE_repr (wD_cons (wE_mono w fun z y1 ⟨d, e, ⟨h1, h2, h3, h4⟩, q⟩ => ⟨d, e, wD_nil ⟨d, rfl, h1, h2, h3, h4, q⟩⟩))
theorem wE_index {C : Ct} {ta tb : TE} {y : S} {Q : Z → S → Prop} (w : wE C ta y fun z y1 => ∃ a, z = .d (.str a) ∧ wE C tb y1 fun z' y2 => ∃ b i r, z' = .d (.str b) ∧ occurrences a b 0 a.length 1 = i :: r ∧ Q (.d (.int (i : Nat))) y2) :
    wE C (tM1 rIndex ta tb) y Q := by
  intro F σ H K wd k
  refine w F σ H _ wd fun x H1 z y1 w1 g1 s1 r1 q1 => ?_
  obtain ⟨a, rfl, q1⟩ := q1
  have e := rp_str r1
  subst e
  refine ⟨⟨a, rfl⟩, q1 F σ H1 _ w1 fun x2 H2 z' y2 w2 g2 s2 r2 q2 => ?_⟩
  obtain ⟨b, i, r, rfl, ho, hq⟩ := q2
  exact ⟨a, b, i, r, rfl, by rw [rp_str r2], ho, k _ H2 (.d (.int _)) y2 w2 (g1.trans g2) (s1.trans s2) (.int _) hq⟩

/-! ### things as they are at present -/
section
variable {C : Ct} {y : S} {te ta tb : TE} {Q : Z → S → Prop} {Qi : List D → S → Prop}
theorem wE_isiR {T : String} (w : wE C te y fun z y1 => ∃ d, Res y1.m z d ∧ Q (.d (.bool (isT T d))) y1) (hT : (tyNames.all fun n => (kitB n T).isSome) = true := by decide +kernel) : wE C (tCB (rIsi C.K) (tCons te (tCons (tC (.ty T)) tNil))) y Q := by
  intro F σ H K wd k
  refine w F σ H _ wd fun x H1 z y1 w1 g1 s1 r1 q1 => ?_
  obtain ⟨d, hr, h⟩ := q1
  exact ⟨x, .ty T, _, _, isT T d, rfl, .ty T, rp_ty (hr.rp w1.toWd0 r1.w), kit_ty (kit_isT hT d), k _ H1 (.d (.bool (isT T d))) y1 w1 g1 s1 (.bl _) h⟩
theorem wE_reprR (w : wE C te y fun z y1 => ∃ d, Res y1.m z d ∧ ShOk d ∧ Q (.d (.str d.shown)) y1) : wE C (tCB (rRepr C.K) (tCons te tNil)) y Q := by
  intro F σ H K wd k
  refine w F σ H _ wd fun x H1 z y1 w1 g1 s1 r1 q1 => ?_
  obtain ⟨d, hr, ⟨h1, h2, h3, h4⟩, h⟩ := q1
  exact ⟨x, d, rfl, (hr.rp w1.toWd0 r1.w).any, h1, h2, h3, h4, k _ H1 (.d (.str d.shown)) y1 w1 g1 s1 (.str _) h⟩
def seqZ : Z → Option (List Z)
  | .d (.list ds) => some (ds.map Z.d)
  | .d (.tuple ds) => some (ds.map Z.d)
  | .lst zs => some zs
  | .tup zs => some zs
  | _ => none
theorem atI_rw {K : Fg} {M : Addr → Prop} {H : Hp} {vs : List V} {zs : List Z} {i : Int} {z : Z} (r : RwA K M H vs zs) (h : atI zs i = some z) : ∃ v, atI vs i = some v ∧ Rw K M H v z := by
  unfold atI at h ⊢
  rw [r.len]
  cases e : ixN zs.length i with
  | none => rw [e] at h; cases h
  | some j =>
    rw [e] at h
    exact r.get (i := j) h
theorem rw_seq {K : Fg} {M : Addr → Prop} {H : Hp} {v : V} {z : Z} {zs : List Z} (r : Rw K M H v z) (h : seqZ z = some zs) : ∃ a us, v = .ref a ∧ (LsA K M H a us ∨ TsA K M H a us) ∧ RwA K M H us zs := by
  cases r with
  | lab a => cases h
  | exc _ _ _ => cases h
  | ob _ _ _ _ => cases h
  | tup h1 h2 => cases h; exact ⟨_, _, rfl, .inr h1, h2⟩
  | lst h1 h2 => cases h; exact ⟨_, _, rfl, .inl h1, h2⟩
  | d r =>
    cases r with
    | lst h1 h2 => cases h; exact ⟨_, _, rfl, .inl h1, RwA.of h2⟩
    | tup h1 h2 => cases h; exact ⟨_, _, rfl, .inr h1, RwA.of h2⟩
    | _ => cases h
theorem wE_ixZ (w : wE C ta y fun z y1 => wE C tb y1 fun z' y2 => ∃ zs i u, seqZ z = some zs ∧ z' = .d (.int i) ∧ atI zs i = some u ∧ Q u y2) : wE C (tOp (rIx C.K) ta tb) y Q := by
  intro F σ H K wd k
  refine w F σ H _ wd fun x H1 z y1 w1 g1 s1 r1 q1 => ?_
  refine q1 F σ H1 _ w1 fun x2 H2 z' y2 w2 g2 s2 r2 q2 => ?_
  obtain ⟨zs, i, u, hs, rfl, hi, hq⟩ := q2
  have ey := rp_int r2
  obtain ⟨a, us, rfl, h1, h2⟩ := rw_seq (r1.w.go g2) hs
  obtain ⟨v, e, rv⟩ := atI_rw h2 hi
  rcases h1 with h1 | h1
  · exact .inl ⟨_, _, i, v, rfl, ey, h1.sq, e, k _ H2 u y2 w2 (g1.trans g2) (s1.trans s2) rv.z hq⟩
  · exact .inr (.inl ⟨_, _, i, v, rfl, ey, h1.sq, e, k _ H2 u y2 w2 (g1.trans g2) (s1.trans s2) rv.z hq⟩)
def lstZ : Z → Option (List Z)
  | .d (.list ds) => some (ds.map Z.d)
  | .lst zs => some zs
  | _ => none
theorem rw_lst {K : Fg} {M : Addr → Prop} {H : Hp} {v : V} {z : Z} {zs : List Z} (r : Rw K M H v z) (h : lstZ z = some zs) : ∃ a us, v = .ref a ∧ LsA K M H a us ∧ RwA K M H us zs := by
  cases r with
  | lab a => cases h
  | exc _ _ _ => cases h
  | ob _ _ _ _ => cases h
  | tup h1 h2 => cases h
  | lst h1 h2 => cases h; exact ⟨_, _, rfl, h1, h2⟩
  | d r =>
    cases r with
    | lst h1 h2 => cases h; exact ⟨_, _, rfl, h1, RwA.of h2⟩
    | _ => cases h
theorem wE_catZ (w : wE C ta y fun z y1 => wE C tb y1 fun z' y2 => ∃ xs zs, lstZ z = some xs ∧ lstZ z' = some zs ∧ xs.length + zs.length ≤ sizeLine ∧ Q (.lst (xs ++ zs)) y2) : wE C (tOp (rCatG C.K) ta tb) y Q := by
  intro F σ H K wd k
  refine w F σ H _ wd fun x H1 z y1 w1 g1 s1 r1 q1 => ?_
  refine q1 F σ H1 _ w1 fun x2 H2 z' y2 w2 g2 s2 r2 q2 => ?_
  obtain ⟨xs, zs, e1, e2, hl, hq⟩ := q2
  obtain ⟨a, us, rfl, h1, h2⟩ := rw_lst (r1.w.go g2) e1
  obtain ⟨b, vs, rfl, h3, h4⟩ := rw_lst r2.w e2
  refine ⟨a, b, us, vs, rfl, rfl, h1.sq, h3.sq, by rw [h2.len, h4.len]; exact hl, fun p hp => ?_⟩
  have gr := grow_upd (o := .lst (us ++ vs)) hp
  exact k _ _ (.lst (xs ++ zs)) y2 (w2.grow gr) ((g1.trans g2).trans (go_grow gr)) (s1.trans s2) (.lst (.inl ⟨w2.new hp, .inl upd_same⟩) ((h2.app h4).go (go_grow (F := F) (σ := σ) (y := y2) gr))) hq
theorem wI_any {i : Nat} {d : D} {xs : List D} (h : y.l[i]? = some (some (.d d))) (hx : dItems d = some xs) (q : Qi xs y) : wI C (iAny C.K (tVar i)) y Qi := by
  intro F σ H R wd k
  cases d with
  | list us =>
    cases hx
    exact .inl (wI_list (wE_var h ⟨_, rfl, q⟩) F σ H R wd k)
  | tuple us =>
    cases hx
    exact .inr (wI_tup (wE_var h ⟨_, rfl, q⟩) F σ H R wd k)
  | _ => cases hx
end
/-! ### less is known -/
def LsL (a b : List (Option Z)) : Prop := a.length = b.length ∧ ∀ (i : Nat) (z : Z), a[i]? = some (some z) → b[i]? = some (some z)
theorem less_mk' {a b : List (Option Z)} {m n : List Cl} (h : LsL a b) (s : m.Sublist n) : Less ⟨a, m⟩ ⟨b, n⟩ := ⟨h.1, h.2, s⟩
theorem less_nil : LsL [] [] := ⟨rfl, fun i z e => e⟩
theorem less_none {a b : List (Option Z)} {z : Option Z} (h : LsL a b) : LsL (none :: a) (z :: b) := by
  refine ⟨congrArg (· + 1) h.1, fun i u e => ?_⟩
  cases i with
  | zero => cases e
  | succ i => exact h.2 i u e
theorem less_some {a b : List (Option Z)} {z : Option Z} (h : LsL a b) : LsL (z :: a) (z :: b) := by
  refine ⟨congrArg (· + 1) h.1, fun i u e => ?_⟩
  cases i with
  | zero => exact e
  | succ i => exact h.2 i u e
theorem less_set {a b : S} {i : Nat} {z : Option Z} (h : Less a b) : Less (a.set i z) (b.set i z) := by
  refine ⟨by show (a.l.set i z).length = (b.l.set i z).length; rw [List.length_set, List.length_set, h.1], fun j u e => ?_, h.2.2⟩
  have e : (a.l.set i z)[j]? = some (some u) := e
  show (b.l.set i z)[j]? = some (some u)
  rw [List.getElem?_set] at e ⊢
  rw [← h.1]
  split at e
  · next q => rw [if_pos q]; exact e
  · next q => rw [if_neg q]; exact h.2.1 j u e
theorem Less.refl (y : S) : Less y y := ⟨rfl, fun _ _ e => e, List.Sublist.refl _⟩
/-- a loop whose turns know J alone -/
theorem forJ {C : Ct} {v : Nat} {tx : TS} {xs : List D} {y0 : S} {bk : S → Prop} {rt : Z → S → Prop} {R : S → Prop} (J : Nat → S → Prop) (h0 : ∃ y', J 0 y' ∧ Less y' y0)
    (hb : ∀ i x y', xs[i]? = some x → J i y' → wS C tx (y'.set v (some (.d x))) { nx := fun y => ∃ y', J (i + 1) y' ∧ Less y' y, ct := fun y => ∃ y', J (i + 1) y' ∧ Less y' y, bk := bk, rt := rt }) (he : ∀ y2 y', J xs.length y' → Less y' y2 → R y2) :
    ∃ I : Nat → S → Prop, I 0 y0 ∧ (∀ i x y2, xs[i]? = some x → I i y2 → wG C (gName v) (.d x) y2 fun y3 => wS C tx y3 { nx := I (i + 1), ct := I (i + 1), bk := bk, rt := rt }) ∧ (∀ y2, I xs.length y2 → R y2) :=
  ⟨fun i y => ∃ y', J i y' ∧ Less y' y, h0, fun i x y2 hx ⟨y', hj, hl⟩ => wG_name (wS_weak (hb i x y' hx hj) (less_set hl)), fun y2 ⟨y', hj, hl⟩ => he y2 y' hj hl⟩
/-- what stands between two cells of the script: it alone is known -/
def cellEnd (n : Nat) (s : D) (y : S) : Prop := y.l.length = n + 2 ∧ y.l[0]? = some (some (.d s))
/-- for _law_k in range(max(2, min(c, len(script)))): tb; return True -/
theorem law_loop {K : Fg} {tb : TS} {e : En} {ns : List Int} {c : Int} {n : Nat} (hc : 0 ≤ c ∧ c ≤ 900) (hz : ∀ y, e.rt (.d (.bool true)) y)
    (hb : ∀ k : Int, 0 ≤ k → k < 1000 → wS { K := K } tb ⟨some (.d (.list (ns.map PyData.int))) :: some (.d (.int k)) :: List.replicate n none, []⟩
      { nx := cellEnd n (.list (ns.map PyData.int)), ct := cellEnd n (.list (ns.map PyData.int)), bk := fun y1 => wS { K := K } (tRet (tC (.bl true))) y1 e, rt := e.rt }) :
    wS { K := K } (tSeq (tFor (iRng1 (tCons (tCB rMx (tCons (tC (.int 2)) (tCons (tCB rMn (tCons (tC (.int c)) (tCons (tCB (rLenD K) (tCons (tVar 0) tNil)) tNil))) tNil))) tNil)) (gName 1) tb) (tRet (tC (.bl true))))
      ⟨some (.d (.list (ns.map PyData.int))) :: none :: List.replicate n none, []⟩ e := by
  refine wS_seq (wS_for (wI_rng1 (wD_cons (wE_max2 (wD_cons (wE_int ⟨_, rfl, wD_cons (wE_min2 (wD_cons (wE_int ⟨_, rfl, wD_cons (wE_len (wD_cons (wE_var rfl ⟨_, rfl, wD_nil ⟨_, _, rfl, rfl, ?_⟩⟩))) ⟩)))⟩))))))
  refine ⟨_, rfl, wD_nil ⟨_, _, rfl, _, rfl, wD_nil ⟨_, _, rfl, _, rfl, wD_nil ⟨_, rfl, ?_⟩⟩⟩⟩
  rw [List.length_map]
  generalize hj : (if (if (ns.length : Int) < c then (ns.length : Int) else c) > 2 then (if (ns.length : Int) < c then (ns.length : Int) else c) else 2) = j
  have h1 : 2 ≤ j ∧ j ≤ 900 := by
    rw [← hj]
    constructor
    · split <;> omega
    · split
      · split <;> omega
      · omega
  refine ⟨by omega, by omega, fun _ y => cellEnd n (.list (ns.map PyData.int)) y, ⟨by simp, rfl⟩, fun i x y2 hx ⟨hy1, hy2⟩ => ?_, fun y2 _ => wS_ret (wE_bl (hz _))⟩
  obtain ⟨hi, rfl⟩ := rangeD_get hx
  refine wG_name (wS_weak (hb (0 + (i : Int)) (by omega) (by omega)) ⟨by show _ = (y2.l.set 1 _).length; rw [List.length_set, hy1]; simp, fun k z e => ?_, List.nil_sublist _⟩)
  show (y2.l.set 1 _)[k]? = some (some z)
  match k, e with
  | 0, e =>
    cases e
    rw [List.getElem?_set_ne (by decide)]
    exact hy2
  | 1, e =>
    cases e
    exact List.getElem?_set_self (by omega)
  | k + 2, e =>
    have e2 : (List.replicate n (none : Option Z))[k]? = some (some z) := e
    rw [List.getElem?_replicate] at e2
    split at e2 <;> cases e2
theorem wS_whileJ {C : Ct} {t : TT} {tx : TS} {y : S} {e : En} (J : Nat → S → Prop) (h0 : ∃ m y', J m y' ∧ Less y' y)
    (hs : ∀ m y1, J m y1 → wT C t y1 fun b y2 => if b = true then wS C tx y2 { nx := fun y3 => ∃ m' y', m' < m ∧ J m' y' ∧ Less y' y3, ct := fun y3 => ∃ m' y', m' < m ∧ J m' y' ∧ Less y' y3, bk := e.nx, rt := e.rt } else e.nx y2) :
    wS C (tWhile t tx) y e := by
  intro F σ H E st wd k
  obtain ⟨m0, y0, h0, l0⟩ := h0
  obtain ⟨wd0, g0⟩ := wd.weak l0
  refine ⟨fun m σ1 H1 => ∃ y1, Wd C F σ1 y1 H1 ∧ Go F σ y H σ1 y1 H1 ∧ J m y1, ⟨m0, y0, wd0, g0, h0⟩, ?_⟩
  rintro m σ1 H1 ⟨y1, w1, g1, hw⟩
  refine hs m y1 hw F σ1 H1 _ w1 fun b H2 y2 w2 g2 s2 q => ?_
  have fin : ∀ σ5 H5 y5, Wd C F σ5 y5 H5 → Go F σ1 y2 H2 σ5 y5 H5 → (∃ m' y', m' < m ∧ J m' y' ∧ Less y' y5) → ∃ m', m' < m ∧ ∃ y3, Wd C F σ5 y3 H5 ∧ Go F σ y H σ5 y3 H5 ∧ J m' y3 := by
    rintro σ5 H5 y5 w5 g5 ⟨m', y', hm, q5, l5⟩
    obtain ⟨w6, g6⟩ := w5.weak l5
    exact ⟨m', hm, y', w6, ((g1.trans g2).trans g5).trans g6, q5⟩
  cases b with
  | true =>
    refine ⟨fun σ3 H3 => ∃ m', m' < m ∧ ∃ y3, Wd C F σ3 y3 H3 ∧ Go F σ y H σ3 y3 H3 ∧ J m' y3, fun σ3 H3 ⟨m', hm, z⟩ => ⟨m', hm, z⟩, ?_⟩
    exact q F σ1 H2 _ st w2 ⟨fun σ5 H5 y5 w5 g5 q5 => fin σ5 H5 y5 w5 g5 q5, fun σ5 v5 H5 z5 y5 w5 g5 r5 q5 => k.rt σ5 v5 H5 z5 y5 w5 ((g1.trans g2).trans g5) r5 q5,
      fun σ5 H5 y5 w5 g5 q5 => k.nx σ5 H5 y5 w5 ((g1.trans g2).trans g5) q5, fun σ5 H5 y5 w5 g5 q5 => fin σ5 H5 y5 w5 g5 q5⟩
  | false => exact k.nx σ1 H2 y2 w2 (g1.trans g2) q
end Ux

set_option maxRecDepth 100000
set_option maxHeartbeats 2000000
/-! what the top has written of the exceptions' classes -/
namespace Ux
open PySem PySem.Spec PyProof.Rows L2
/-- the first def of a class -/
def clsFn : Stmt → Stmt
  | .ClassDef _ _ _ (b :: _) _ _ _ _ _ _ _ => b
  | s => s
structure XcT (K : Fg) (mg : Str → Option Value) (x qual : Str) (st : Stmt) (C : Addr) : Prop where
  gC : mg x = some (.ref C)
  oc : OexC K C
  xf : XfC K C
  no : PySem.W.findIn K (.ref C) "found" = some none
  ini : ∃ (fI : Addr) (fd : FuncData), PySem.W.findIn K (.ref C) "__init__" = some (some (.ref fI)) ∧ PySem.W.typeIn K (.ref fI) = some (.type "function") ∧ Fun K "__init__" qual st fI fd ∧ Binds K fd ["self", "found"] []
theorem spInit_len {K : Fg} {C : Addr} : ∀ vs H Q E, spInit K C vs H Q E → vs.length = (["self", "found"] : List Str).length := by
  rintro vs H Q E ⟨a, v, rfl, _⟩
  rfl
theorem xc_ok {P : Program} {w : World} {K : Fg} {mg : Str → Option Value} {base : Heap} {x qual : Str} {st : Stmt} {C : Addr} (T : XcT K mg x qual st C) (Sc : FnScope ["self", "found"] ["self", "found"] (defScope st)) (m : Str)
    (hb : ∀ (fI : Addr) (cdv : Value) (A : Around) (outer : List Env) (s : Shared) (H : Hp) (E : XK), PSs (cxOf CX0 P w K mg base ["self", "found"] qual (defScope st) fI cdv A outer s H E).nox (defBody st) (t_init K m)) : Xc P w K mg base x C := by
  obtain ⟨fI, fd, i1, i2, i3, i4⟩ := T.ini
  exact ⟨T.gC, T.oc, T.xf, T.no, fI, fd, i1, i2, i3.ok Sc spInit_len fun cdv A outer s H vs Q E hr h => ⟨_, hb fI cdv A outer s H E, init_read h⟩, i4⟩
theorem xct_mk {K : Fg} {h : Heap} {mg : Str → Option Value} {x qual : Str} {st : Stmt} {C f : Addr} (X : K.In h) (G : h.Ns mainGlobals mg)
    {nm q : Str} {N : Addr} {bs bm : List Value} {sn : List Str} {sub : List Value} {ab : Bool} {col : Option Bool} {dd : Option Addr} {m0 m1 m2 m3 m5 : Option Value} {od an : Option Addr} {sl : Array (Option Value)} {oc kV dc pm cd ct : Value}
    (hb : ∀ (kV dc pm : Value) (an : Option Addr) (cd ct : Value) (us : List Value), us.length = (["self", "found"] : List Str).length → bindArgs (PySem.W.fnOf "__init__" qual (defArgs st) (defBody st) (defScope st) .none kV dc pm an cd ct) ⟨us, []⟩ = pure ((["self", "found"] : List Str).zip us))
    (aC : PySem.W.nsIn K mainGlobals x = some (some (.ref C)))
    (xL : K.lookup C = some (excClassObj nm q C N bs bm true sn sub ab col dd m0 m1 m2 m3 m5 "ValueError.__new__"))
    (vb : PySem.HandSPX.refsVE bm = true)
    (sa : PySem.W.findIn K (.ref C) "__setattr__" = some (some (.builtin "object.__setattr__"))) (ga : PySem.W.findIn K (.ref C) "__getattribute__" = some (some (.builtin "BaseException.__getattribute__"))) (gg : PySem.W.findIn K (.ref C) "__getattr__" = some none) (nb : PySem.W.findIn K (.ref C) "found" = some none)
    (a1 : PySem.W.findIn K (.ref C) "__init__" = some (some (.ref f))) (t1 : PySem.W.typeIn K (.ref f) = some (.type "function"))
    (l : K.lookup f = some ⟨oc, od, .func (PySem.W.fnOf "__init__" qual (defArgs st) (defBody st) (defScope st) .none kV dc pm an cd ct), sl⟩) (c : PySem.W.codeIn K cd qual = true) (k : PySem.W.keepIn K (.ref f) = true)
    (kC : PySem.W.keepIn K (.ref C) = true) (eC : PySem.W.subIn K (.ref C) (.type "BaseException") = some true) (tC : PySem.W.typeIn K (.ref C) = some (.type "type")) (hC : PySem.W.hasDictIn K C = true) : XcT K mg x qual st C :=
  ⟨PySem.W.mg_of X G aC, ⟨⟨nm, q, N, bs, bm, sn, sub, ab, col, dd, m0, m1, m2, m3, m5, xL, vb⟩, sa, eC, tC, kC⟩, ⟨ga, gg, eC, hC⟩, nb, f, _, a1, t1, fun_mk l c k, (fun_mk l c k).binds hb⟩
theorem txc_mk {K : Fg} {h : Heap} {mg : Str → Option Value} {x : Str} {T : Addr} (X : K.In h) (G : h.Ns mainGlobals mg) (a : PySem.W.nsIn K mainGlobals x = some (some (.ref T))) (r : PySem.W.readsIn K T (.type "type") = true)
    (g : PySem.W.specialIn K (.ref T) "__getattribute__" = some (some (.builtin "type.__getattribute__"))) (v : PySem.W.findCls K (.ref T) (.type "type") "__init__" = some (.val (.builtin "ValueError.__init__"))) : TxC K mg x :=
  ⟨T, PySem.W.mg_of X G a, r, g, v⟩
/-- an exception of the class A, asked of the class B -/
theorem exm_mk {K : Fg} {mg : Str → Option Value} {x y : Str} {A B : Addr} {b : Bool} (hb : PySem.W.subIn K (.ref B) (.type "BaseException") = some true) (ht : PySem.W.typeIn K (.ref B) = some (.type "type")) (hc : PySem.W.isClsIn K B = true) (hs : PySem.W.subIn K (.ref A) (.ref B) = some b) :
    PySem.W.exmOne K (.ref A) (.ref B) = some b := by
  have e1 : (PySem.W.subIn K (.ref B) (.type "BaseException") == some true) = true := by rw [hb] <;> rfl
  have e2 : ((PySem.W.clsIn K B).isSome && PySem.W.typeIn K (.ref B) == some (.type "type")) = true := by
    have h2' : (PySem.W.clsIn K B).isSome = true := hc
    rw [h2', ht] <;> rfl
  show (if (PySem.W.subIn K (.ref B) (.type "BaseException") == some true) = true then (if ((PySem.W.clsIn K B).isSome && PySem.W.typeIn K (.ref B) == some (.type "type")) = true then PySem.W.subIn K (.ref A) (.ref B) else none) else none) = some b
  rw [if_pos e1, if_pos e2]
  exact hs
end Ux

set_option maxRecDepth 100000
set_option maxHeartbeats 2000000
namespace Ux
open PySem PySem.Spec PyProof.Rows L2 Tq
/-! displays by the kind in which they are wanted -/
def tTupZ : TA → TE := tTup
def tLstZ : TA → TE := tLst
def tLstL : TA → TE := tLst
def tDNewL : TE := tDNewK
section
variable {X : Cx} {ts : TA} {es : List Expr} {k : Nat} {pos : Pos}
theorem pe_lstZ (h : PA X es ts) : PE X (.List es pos) (tLstZ ts) := pe_lst h
theorem pe_lstL (h : PA X es ts) : PE X (.List es pos) (tLstL ts) := pe_lst h
theorem pe_dnewL : PE X (.Dict [] [] pos) tDNewL := pe_dnewK
end
theorem Res.at {m : List Cl} {j : Nat} {a : Addr} {b : Bool} {c : Cell} {d : D} (h : m[j]? = some ⟨a, b, c⟩) (r : ResC c d) : Res m (.lab a) d := .lab (e := ⟨a, b, c⟩) (List.mem_of_getElem? h) r
end Ux
namespace Ux
open PySem PySem.Spec PyProof.Rows L2 Tq
/-- a def over things of any kind that lets nothing out -/
theorem wE_xc {C : Ct} {y : S} {ts : TA} {Q : Z → S → Prop} {E : XK} {n : Nat} {pre : List Z → List D → Prop} {post : List Z → List D → Z → Prop} {xp : List Z → List D → Ex → Prop}
    (w : wZ C ts y fun zs y1 => ∃ ds, ResA y1.m zs ds ∧ (zs.length = n ∧ pre zs ds) ∧ (∀ z, post zs ds z → Q z y1)) (hx : ∀ zs ds ex, ¬ xp zs ds ex) : wE C (tCall (xSp C.K n pre post xp) [] E ts) y Q := by
  intro F σ H K wd k
  refine w F σ H _ wd fun vs H1 zs y1 w1 g1 s1 r1 ⟨ds, hr, ⟨hn, hp⟩, q⟩ => ?_
  show xSp C.K n pre post xp (vs ++ []) H1 K E
  rw [List.append_nil]
  exact ⟨Mv F σ y1, y1.m, zs, ds, fun a m e => w1.new e m, r1, fun e he => ⟨.inr ⟨e, he, rfl⟩, w1.cell e he⟩, w1.dist, hr, hn, hp, fun z v H2 hz gr rv => k v H2 z y1 (w1.grow gr) (g1.trans (go_grow gr)) s1 rv.z (q z hz), fun ex _ _ _ h => (hx _ _ _ h).elim⟩
abbrev asSp (K : Fg) (n : Nat) (pre : List Z → List D → Prop) (post : List Z → List D → Z → Prop) : Sp := xSp K n pre post fun _ _ _ => False
theorem wE_as {C : Ct} {y : S} {ts : TA} {Q : Z → S → Prop} {E : XK} {n : Nat} {pre : List Z → List D → Prop} {post : List Z → List D → Z → Prop}
    (w : wZ C ts y fun zs y1 => ∃ ds, ResA y1.m zs ds ∧ (zs.length = n ∧ pre zs ds) ∧ (∀ z, post zs ds z → Q z y1)) : wE C (tCall (asSp C.K n pre post) [] E ts) y Q := wE_xc w fun _ _ _ h => h
/-! what a thing is, by what it is at present -/
theorem ResC.nsc {c : Cell} {d : D} (h : ResC c d) : (∃ ds, d = .list ds) ∨ ∃ kvs, d = .dict kvs := by
  induction h with
  | lst ds => exact .inl ⟨ds, rfl⟩
  | dic kvs => exact .inr ⟨_, rfl⟩
  | ro _ ih => exact ih
theorem Res.int {m : List Cl} {z : Z} {n : Int} (h : Res m z (.int n)) : z = .d (.int n) := by
  cases h with
  | d => rfl
  | lab _ hc => rcases hc.nsc with ⟨_, e⟩ | ⟨_, e⟩ <;> cases e
theorem Res.tup {m : List Cl} {z : Z} {ds : List D} (h : Res m z (.tuple ds)) : z = .d (.tuple ds) := by
  cases h with
  | d => rfl
  | lab _ hc => rcases hc.nsc with ⟨_, e⟩ | ⟨_, e⟩ <;> cases e
theorem resA1 {m : List Cl} {zs : List Z} {ds : List D} (h : ResA m zs ds) (l : zs.length = 1) : ∃ z d, zs = [z] ∧ ds = [d] ∧ Res m z d := by
  cases h with
  | nil => cases l
  | cons a b => cases b with
    | nil => exact ⟨_, _, rfl, rfl, a⟩
    | cons _ _ => simp at l
def rCatZ (K : Fg) : R2 := rCatG K
def rIxZ (K : Fg) : R2 := rIx K
section
variable {X : Cx} (K : Fg)
theorem ixZK (h : X.K = K := by rfl) : IxR X (rIxZ K) := ixK K h
end
end Ux
namespace Ux
open PySem PySem.Spec PyProof.Rows L2 Tq
def tCallR (sp : Sp) (E : XK) (t : TA) : TE := tCall sp [] E t
def tIsiR (K : Fg) (t : TA) : TE := tCB (rIsi K) t
def tReprR (K : Fg) (t : TA) : TE := tCB (rRepr K) t
section
variable {X : Cx} {k : Nat} {x : Str} {ps : List Str} {sp : Sp} {p pos : Pos} {e : Expr} {es : List Expr} {t : TA}
theorem pe_calR (c : Cal X.prog X.w X.K X.mg X.base k x ps sp) (hr : Room k X.A) (hgu : X.A.guards = some []) (hg : Gl X x) (ha : PA X (e :: es) t) (hdb : (x == ("__debug__" : Str)) = false := by decide)
    (he : starEach (e :: es) X.env = (false, eval e X.env) :: starEach es X.env := by rfl)
    (hpl : (backTo pos (starEach es X.env)).any (·.1) = false := by rfl) : PE X (.Call (.Name x p) (e :: es) [] pos) (tCallR sp E0 t) := pe_cal c hr hgu hg ha hdb he hpl
end
theorem zR {X : Cx} {e : Expr} {K : Fg} {t : TA} (h : PE X e (tCB (rIsi K) t)) : PE X e (tIsiR K t) := h
theorem zP {X : Cx} {e : Expr} {K : Fg} {t : TA} (h : PE X e (tCB (rRepr K) t)) : PE X e (tReprR K t) := h
end Ux
namespace Ux
open PySem PySem.Spec PyProof.Rows L2 Tq
section
variable {C : Ct} {y : S} {ts : TA} {te ta tb : TE} {Q : Z → S → Prop} {E : XK} {n : Nat} {pre : List D → Prop} {post : List D → D → Prop}
theorem xE_detR {G : List D → D} (w : wZ C ts y fun zs y1 => ∃ ds, ResA y1.m zs ds ∧ (ds.length = n ∧ pre ds) ∧ scD (G ds) = true ∧ Q (.d (G ds)) y1) : wE C (tCallR (detSp C.K n pre G) E ts) y Q := wE_detR w
theorem xE_pureR (w : wZ C ts y fun zs y1 => ∃ ds, ResA y1.m zs ds ∧ ds.length = n ∧ pre ds ∧ ∀ d, post ds d → scD d = true ∧ Q (.d d) y1) : wE C (tCallR (pureSp C.K n pre post) E ts) y Q := wE_pureR w
theorem xE_isiR {T : String} (w : wE C te y fun z y1 => ∃ d, Res y1.m z d ∧ Q (.d (.bool (isT T d))) y1) (hT : (tyNames.all fun n => (kitB n T).isSome) = true := by decide +kernel) : wE C (tIsiR C.K (tCons te (tCons (tC (.ty T)) tNil))) y Q := wE_isiR w hT
theorem xE_reprR (w : wE C te y fun z y1 => ∃ d, Res y1.m z d ∧ ShOk d ∧ Q (.d (.str d.shown)) y1) : wE C (tReprR C.K (tCons te tNil)) y Q := wE_reprR w
theorem xE_tupZ (w : wZ C ts y fun zs y1 => zs.length ≤ sizeLine ∧ Q (.tup zs) y1) : wE C (tTupZ ts) y Q := wE_tupZ w
theorem xE_lstZ (w : wZ C ts y fun zs y1 => zs.length ≤ sizeLine ∧ Q (.lst zs) y1) : wE C (tLstZ ts) y Q := wE_lstZ w
theorem xE_lstL (w : wZ C ts y fun zs y1 => zs.length ≤ sizeLine ∧ ∀ p, Q (.lab p) ⟨y1.l, y1.m ++ [⟨p, true, .lst zs⟩]⟩) : wE C (tLstL ts) y Q := wE_lstL w
theorem xE_dnewL (q : ∀ p, Q (.lab p) ⟨y.l, y.m ++ [⟨p, true, .dic []⟩]⟩) : wE C tDNewL y Q := wE_dnewL q
theorem xE_ixZ (w : wE C ta y fun z y1 => wE C tb y1 fun z' y2 => ∃ zs i u, seqZ z = some zs ∧ z' = .d (.int i) ∧ atI zs i = some u ∧ Q u y2) : wE C (tOp (rIxZ C.K) ta tb) y Q := wE_ixZ w
theorem xE_catZ (w : wE C ta y fun z y1 => wE C tb y1 fun z' y2 => ∃ xs zs, lstZ z = some xs ∧ lstZ z' = some zs ∧ xs.length + zs.length ≤ sizeLine ∧ Q (.lst (xs ++ zs)) y2) : wE C (tOp (rCatZ C.K) ta tb) y Q := wE_catZ w
end
end Ux

set_option maxRecDepth 100000
set_option maxHeartbeats 4000000
namespace Ux
open PySem PySem.Spec PyProof.Rows L2 Tq
/-! ### odd things that may grow -/
abbrev sev (k : Nat) : List D := List.replicate k (.int 7)
inductive OT (P : D → Bool) (k : Nat) : Z → List Cl → D → Prop
  | pl (d : D) (h1 : isT "list" d = false) (h2 : ShOk d) (h3 : P d = false) : OT P k (.d d) [] d
  | ls (a : Addr) (ds : List D) (h : ∀ j ≤ 4, ShOk (.list (ds ++ sev j))) (h3 : ∀ xs, P (.list xs) = false) (h4 : ds.length ≤ 10) : OT P k (.lab a) [⟨a, true, .lst ((ds ++ sev k).map Z.d)⟩] (.list (ds ++ sev k))
  | dc (a : Addr) (h3 : ∀ xs, P (.dict xs) = false) : OT P k (.lab a) [⟨a, true, .dic []⟩] (.dict [])
theorem OT.no {P : D → Bool} {k : Nat} {z : Z} {m : List Cl} {d : D} (h : OT P k z m d) : P d = false := by
  cases h with
  | pl h1 h2 h3 => assumption
  | ls _ _ _ h3 _ => exact h3 _
  | dc _ h3 => exact h3 _
theorem sh_dict0 : ShOk (.dict []) := ⟨by decide +kernel, by decide +kernel, by decide +kernel, by decide +kernel⟩
theorem OT.sh {P : D → Bool} {k : Nat} {z : Z} {m : List Cl} {d : D} (h : OT P k z m d) (hk : k ≤ 4) : ShOk d := by
  cases h with
  | pl h1 h2 h3 => assumption
  | ls _ _ h _ _ => exact h k hk
  | dc _ _ => exact sh_dict0
theorem OT.res {P : D → Bool} {k : Nat} {z : Z} {m n : List Cl} {d : D} (h : OT P k z m d) (hs : m ⊆ n) : Res n z d := by
  cases h with
  | pl h1 h2 h3 => exact .d _
  | ls a ds _ _ _ => exact .lab (e := ⟨a, true, .lst ((ds ++ sev k).map Z.d)⟩) (hs List.mem_cons_self) (.lst _)
  | dc a _ => exact .lab (e := ⟨a, true, .dic []⟩) (hs List.mem_cons_self) (.dic [])
end Ux
namespace Ux
open PySem PySem.Spec PyProof.Rows L2 Tq
theorem ixZ_any {zs0 : List Z} {r : Int} {R : Z → Prop} (h0 : 0 ≤ r) (h1 : r < zs0.length) (h : ∀ u ∈ zs0, R u) : ∃ zs i u, seqZ (.lst zs0) = some zs ∧ Z.d (.int r) = Z.d (.int i) ∧ atI zs i = some u ∧ R u := by
  obtain ⟨u, hu, hm⟩ := atI_mem (xs := zs0) h0 h1
  exact ⟨_, _, u, rfl, rfl, hu, h u hm⟩
end Ux
namespace Ux
open PySem PySem.Spec PyProof.Rows L2 Tq
theorem ne_same (t : Str) {A B : Prop} (h : B) : if (!eqS (.str t) (.str t)) = true then A else B := itb_f (ne_self t) h
end Ux

namespace Ux
end Ux
namespace Ux
end Ux
namespace Ux
open PySem PySem.Spec PyProof.Rows L2 Tq
theorem ixD_any {ds : List D} {r : Int} {R : D → Prop} (h0 : 0 ≤ r) (h1 : r < ds.length) (h : ∀ n ∈ ds, R n) : ∃ d i g, Z.d (.list ds) = Z.d d ∧ Z.d (.int r) = Z.d (.int i) ∧ dIx d i = some g ∧ R g := by
  obtain ⟨u, hu, hm⟩ := atI_mem (xs := ds) h0 h1
  exact ⟨_, _, u, rfl, rfl, hu, h u hm⟩
end Ux

set_option maxRecDepth 100000
set_option maxHeartbeats 4000000
namespace Ux
open PySem PySem.Spec PyProof.Rows L2 Tq
/-! ### isinstance(e, C) of the exception that a suite holds -/
def rIsX (K : Fg) (cls : Value) (d : Option Addr) (D a : Addr) : List V → Hp → VK → Prop := fun xs H Q => ∃ (T dd : Addr) (fs : List (Str × V)) (b : Bool), cls = .ref D ∧ d = some dd ∧ H dd = some (.xd fs) ∧ xs = [.ref a, .ref T] ∧ PySem.W.kitOne K (.ref D) (.ref T) = some b ∧ Q (.bl b) H
def tIsX (K : Fg) (cls : Value) (d : Option Addr) (D a T : Addr) (te : TE) : TE := tCB (rIsX K cls d D a) (tCons te (tCons (tC (.ref T)) tNil))
theorem wE_isX {C : Ct} {y : S} {Q : Z → S → Prop} {a dd D T : Addr} {i : Nat} {z : Z} {cls : Value} {b : Bool} (hk : PySem.W.kitOne C.K (.ref D) (.ref T) = some b) (hc : cls = .ref D) (hi : y.l[i]? = some (some (.exc a dd z))) (q : Q (.d (.bool b)) y) : wE C (tIsX C.K cls (some dd) D a T (tVar i)) y Q := by
  intro F σ H K wd k
  obtain ⟨x, h1, h2⟩ := wd.slot i _ hi
  cases h2 with
  | @exc _ _ v _ n c1 c2 => exact ⟨.ref a, h1, T, dd, _, b, hc, rfl, c1, rfl, hk, k _ H (.d (.bool b)) y wd GoH.refl (Sh.refl y) (.bl b) q⟩
/-! ### is True -/
section
variable {C : Ct} {y : S} {ta tb : TE} {Q : Z → S → Prop}
theorem wE_isB (w : wE C ta y fun z y1 => wE C tb y1 fun z' y2 => ∃ a b, z = .d (.bool a) ∧ z' = .d (.bool b) ∧ Q (.d (.bool (decide (a = b)))) y2) : wE C (tOp rIsB ta tb) y Q := by
  refine wE_op (res := fun d e r => ∃ a b, d = .bool a ∧ e = .bool b ∧ r = .bool (decide (a = b))) ?_ (wE_mono w fun z y1 h => wE_mono h fun z' y2 ⟨a, b, e1, e2, q⟩ => ⟨_, _, _, e1, e2, ⟨a, b, rfl, rfl, rfl⟩, q⟩)
  rintro M H x u d e r Q _ rx ru ⟨a, b, rfl, rfl, rfl⟩ k
  exact ⟨a, b, rp_bl rx, rp_bl ru, k _ H (fun _ _ e => e) (.bl _)⟩
theorem wE_notB (w : wE C ta y fun z y1 => wE C tb y1 fun z' y2 => ∃ a b, z = .d (.bool a) ∧ z' = .d (.bool b) ∧ Q (.d (.bool (!decide (a = b)))) y2) : wE C (tOp rNotB ta tb) y Q := by
  refine wE_op (res := fun d e r => ∃ a b, d = .bool a ∧ e = .bool b ∧ r = .bool (!decide (a = b))) ?_ (wE_mono w fun z y1 h => wE_mono h fun z' y2 ⟨a, b, e1, e2, q⟩ => ⟨_, _, _, e1, e2, ⟨a, b, rfl, rfl, rfl⟩, q⟩)
  rintro M H x u d e r Q _ rx ru ⟨a, b, rfl, rfl, rfl⟩ k
  exact ⟨a, b, rp_bl rx, rp_bl ru, k _ H (fun _ _ e => e) (.bl _)⟩
end
end Ux
namespace Ux
open PySem PySem.Spec PyProof.Rows L2 Tq
/-! ### d[k] = v -/
theorem RwK.len {K : Fg} {M : Addr → Prop} {H : Hp} : ∀ {vs : List (Key × V)} {zs : List (Key × Z)}, RwK K M H vs zs → vs.length = zs.length
  | _, _, .nil => rfl
  | _, _, .cons _ b => congrArg (· + 1) b.len
theorem RwK.snoc {K : Fg} {M : Addr → Prop} {H : Hp} {k : Key} {v : V} {z : Z} (r : Rw K M H v z) : ∀ {vs : List (Key × V)} {zs : List (Key × Z)}, RwK K M H vs zs → RwK K M H (vs ++ [(k, v)]) (zs ++ [(k, z)])
  | _, _, .nil => .cons r .nil
  | _, _, .cons a b => .cons a (b.snoc r)
end Ux
namespace Ux
open PySem PySem.Spec PyProof.Rows L2 Tq
def putZ (kvs : List (Key × Z)) (k : Key) (z : Z) : List (Key × Z) :=
  if (kvs.any fun kv => decide (kv.1 = k)) = true then kvs.map (fun kv => if kv.1 = k then (kv.1, z) else kv) else kvs ++ [(k, z)]
def putKD (kvs : List (Key × D)) (k : Key) (d : D) : List (Key × D) :=
  if (kvs.any fun kv => decide (kv.1 = k)) = true then kvs.map (fun kv => if kv.1 = k then (kv.1, d) else kv) else kvs ++ [(k, d)]
theorem rwk_map {K : Fg} {M : Addr → Prop} {H : Hp} {k : Key} {v : V} {z : Z} (r : Rw K M H v z) : ∀ {vs : List (Key × V)} {zs : List (Key × Z)}, RwK K M H vs zs → RwK K M H (vs.map fun kv => if kv.1 = k then (kv.1, v) else kv) (zs.map fun kv => if kv.1 = k then (kv.1, z) else kv)
  | _, _, .nil => .nil
  | (j, _) :: _, _, .cons a b => by
    rw [List.map_cons, List.map_cons]
    by_cases h : j = k
    · rw [if_pos (show (j, _).1 = k from h), if_pos (show (j, _).1 = k from h)]; exact .cons r (rwk_map r b)
    · rw [if_neg (show ¬ (j, _).1 = k from h), if_neg (show ¬ (j, _).1 = k from h)]; exact .cons a (rwk_map r b)
theorem rwk_any {K : Fg} {M : Addr → Prop} {H : Hp} {k : Key} : ∀ {vs : List (Key × V)} {zs : List (Key × Z)}, RwK K M H vs zs → (vs.any fun kv => decide (kv.1 = k)) = (zs.any fun kv => decide (kv.1 = k))
  | _, _, .nil => rfl
  | _, _, .cons _ b => by rw [List.any_cons, List.any_cons, rwk_any b]
theorem RwK.put {K : Fg} {M : Addr → Prop} {H : Hp} {k : Key} {v : V} {z : Z} (r : Rw K M H v z) {vs : List (Key × V)} {zs : List (Key × Z)} (h : RwK K M H vs zs) : RwK K M H (putK vs k v) (putZ zs k z) := by
  unfold putK putZ
  rw [rwk_any h]
  split
  · exact rwk_map r h
  · exact h.snoc r
/-- x[k] = e, x a dict of the store -/
theorem wS_dput {C : Ct} {y : S} {te : TE} {e : En} {i j : Nat} {a : Addr} {b : Bool} {kk : Key} (hi : y.l[i]? = some (some (.lab a))) (w : wE C te y fun z y1 => y1.l[i]? = some (some (.lab a)) ∧ ∃ kvs, y1.m[j]? = some ⟨a, b, .dic kvs⟩ ∧ kvs.length < sizeLine ∧ e.nx ⟨y1.l, y1.m.set j ⟨a, b, .dic (putZ kvs kk z)⟩⟩) :
    wS C (tAsg te (gSub (tVar i) (tC (kV kk)) rSetD)) y e := by
  intro F σ H E st wd k
  refine w F σ H _ wd fun v H1 z y1 w1 g1 s1 r1 ⟨hi1, kvs, hj1, hz, q⟩ => ?_
  obtain ⟨x, h1, h2⟩ := w1.slot i _ hi1
  cases h2
  obtain ⟨ks, c1, c2⟩ := (w1.cell _ (List.mem_of_getElem? hj1) : CellOk C.K (Mv F σ y1) H1 a (.dic kvs))
  refine ⟨.ref a, h1, a, _, rfl, DPut.k c1 (by rw [c2.len]; exact hz), ?_⟩
  obtain ⟨w2, g2, s2⟩ := w1.cmut (H' := upd H1 a (.dK (putK ks kk v))) (c' := .dic (putZ kvs kk z)) hj1 rfl rfl (fun b o n e => by rw [upd_ne n]; exact e) fun M _ g => ⟨_, upd_same, (c2.go g).put (r1.w.go g)⟩
  exact k.nx _ _ _ w2 (g1.trans g2) q
/-! ### odd things, handed on as they are -/
inductive Cont where
  | pl (d : D)
  | ls (ds : List D)
  | dc (kvs : List (Key × D))
def Cont.dat : Cont → D
  | .pl d => d
  | .ls ds => .list ds
  | .dc kvs => dD kvs
def Cont.gr : Cont → Cont
  | .pl d => .pl d
  | .ls ds => .ls (ds ++ [.str "more"])
  | .dc kvs => .dc (putKD kvs (.inr "more") (.int 1))
def Cont.len : Cont → Nat
  | .pl _ => 0
  | .ls ds => ds.length
  | .dc kvs => kvs.length
def Cont.plain : Cont → Bool
  | .pl d => !isT "list" d && !isT "dict" d
  | _ => true
inductive Th : Z → List (Addr × Cell) → Cont → Prop
  | pl (d : D) : Th (.d d) [] (.pl d)
  | ls (a : Addr) (ds : List D) : Th (.lab a) [(a, .lst (ds.map Z.d))] (.ls ds)
  | dc (a : Addr) (kvs : List (Key × D)) : Th (.lab a) [(a, .dic (kvD kvs))] (.dc kvs)
def toCl (b : Bool) (nw : List (Addr × Cell)) : List Cl := nw.map fun e => ⟨e.1, b, e.2⟩
theorem Th.res {z : Z} {nw : List (Addr × Cell)} {c : Cont} {b : Bool} {m : List Cl} (h : Th z nw c) (hs : toCl b nw ⊆ m) : Res m z c.dat := by
  cases h with
  | pl d => exact .d _
  | ls a ds => exact .lab (e := ⟨a, b, .lst (ds.map Z.d)⟩) (hs List.mem_cons_self) (.lst _)
  | dc a kvs => exact .lab (e := ⟨a, b, .dic (kvD kvs)⟩) (hs List.mem_cons_self) (.dic _)
/-- a draw that hands out a thing, new where it may change -/
def oSp (K : Fg) (cost : Nat) (post : Z → List (Addr × Cell) → Prop) : Sp := fun vs H Q _ => ∃ (M : Addr → Prop) (p : Addr) (m : Nat), vs = [.ref p] ∧ M p ∧ (∀ a, M a → H a ≠ none) ∧ PuOk H p m ∧ cost ≤ m ∧
  ∀ z nw v H', post z nw → (∀ a o, a ≠ p → H a = some o → H' a = some o) → PuOk H' p (m - cost) → (∀ e ∈ nw, H e.1 = none) → (nw.Pairwise fun e e' => e.1 ≠ e'.1) →
    (∀ e ∈ nw, CellOk K (fun a => M a ∨ ∃ e ∈ nw, e.1 = a) H' e.1 e.2) → Rw K (fun a => M a ∨ ∃ e ∈ nw, e.1 = a) H' v z → Q v H'
end Ux

namespace Ux
open PySem PySem.Spec PyProof.Rows L2 Tq
theorem Th.ro {z : Z} {nw : List (Addr × Cell)} {c : Cont} (h : Th z nw c) : ∀ e ∈ nw, e.2.isRo = false := by
  cases h with
  | pl d => intro e he; cases he
  | ls a ds => intro e he; rw [List.mem_singleton] at he; subst he; rfl
  | dc a kvs => intro e he; rw [List.mem_singleton] at he; subst he; rfl
/-- the call of such a draw -/
theorem wE_odd {C : Ct} {y : S} {E : XK} {cost : Nat} {post : Z → List (Addr × Cell) → Prop} {Q : Z → S → Prop} {i j : Nat} {p : Addr} {b : Bool} {m0 : Nat} (hi : y.l[i]? = some (some (.lab p))) (hj : y.m[j]? = some ⟨p, b, .pu m0⟩) (hm : cost ≤ m0)
    (q : ∀ z nw, post z nw → Q z ⟨y.l, y.m.set j ⟨p, b, .pu (m0 - cost)⟩ ++ toCl true nw⟩) : wE C (tCall (oSp C.K cost post) [] E (tCons (tVar i) tNil)) y Q := by
  intro F σ H K wd k
  obtain ⟨x, h1, h2⟩ := wd.slot i _ hi
  cases h2
  have hmm : (⟨p, b, .pu m0⟩ : Cl) ∈ y.m := List.mem_of_getElem? hj
  refine ⟨.ref p, h1, ?_⟩
  show oSp C.K cost post ([.ref p] ++ []) H K E
  rw [List.append_nil]
  refine ⟨Mv F σ y, p, m0, rfl, .inr ⟨_, hmm, rfl⟩, fun a m e => wd.new e m, wd.cell _ hmm, hm, fun z nw v H' hp kp pk fr pw cs rv => ?_⟩
  have pd : DomW y.m p := ⟨_, hmm, rfl, rfl⟩
  have lvp : H' p ≠ none := by
    obtain ⟨x, b, c, e, _⟩ := pk
    rw [e]; simp
  have inset : ∀ e ∈ y.m.set j ⟨p, b, .pu (m0 - cost)⟩, e.a = p → e = ⟨p, b, .pu (m0 - cost)⟩ := fun e he hq => by
    obtain ⟨i', hi'⟩ := List.getElem?_of_mem he
    have pws := pw_set wd.dist hj (e' := ⟨p, b, .pu (m0 - cost)⟩) rfl
    obtain ⟨hl, _⟩ := List.getElem?_eq_some_iff.mp hj
    have hjj : (y.m.set j ⟨p, b, .pu (m0 - cost)⟩)[j]? = some ⟨p, b, .pu (m0 - cost)⟩ := List.getElem?_set_self hl
    by_cases n : i' = j
    · subst n; rw [hjj] at hi'; cases hi'; rfl
    · exfalso
      rw [List.pairwise_iff_getElem] at pws
      obtain ⟨hi1, hi2⟩ := List.getElem?_eq_some_iff.mp hi'
      obtain ⟨hj1, hj2⟩ := List.getElem?_eq_some_iff.mp hjj
      rcases Nat.lt_or_gt_of_ne n with n | n
      · have := pws i' j hi1 hj1 n; rw [hi2, hj2] at this; exact this hq
      · have := pws j i' hj1 hi1 n; rw [hi2, hj2] at this; exact this hq.symm
  have old : ∀ e ∈ y.m.set j ⟨p, b, .pu (m0 - cost)⟩, ∃ e0 ∈ y.m, e0.a = e.a ∧ (e.own = true → e0.own = true) ∧ (e.c.isRo = false → e0.c.isRo = false) := fun e he => by
    rcases mem_set_or he with he | he
    · subst he; exact ⟨_, hmm, rfl, fun z => z, fun _ => rfl⟩
    · exact ⟨e, he, rfl, fun z => z, fun z => z⟩
  have key := wd.store (m := y.m.set j ⟨p, b, .pu (m0 - cost)⟩ ++ toCl true nw) (H' := H') (fun a o n e => kp a o (fun z => n (z ▸ pd)) e)
    (fun a ⟨e, h1, h2⟩ z => by
      by_cases ha : a = p
      · exact lvp (ha ▸ z)
      · cases r : H a with
        | none => exact (wd.cell e h1).live (h2 ▸ r)
        | some o => rw [kp a o ha r] at z; cases z)
    (fun e he => by
      rcases List.mem_append.mp he with he | he
      · exact .inl (old e he)
      · obtain ⟨e', h1, rfl⟩ := List.mem_map.mp he
        exact .inr (fr e' h1))
    (by
      rw [List.pairwise_append]
      refine ⟨pw_set wd.dist hj rfl, by unfold toCl; rw [List.pairwise_map]; exact pw, fun e he e2 he2 z => ?_⟩
      obtain ⟨e', h1', rfl⟩ := List.mem_map.mp he2
      obtain ⟨e0, q1, q2, _⟩ := old e he
      exact (wd.cell e0 q1).live (by rw [q2, z]; exact fr e' h1'))
    (fun g e he => by
      rcases List.mem_append.mp he with he | he
      · by_cases hq : e.a = p
        · rw [inset e he hq]; exact pk
        · rcases mem_set_or he with he | he
          · subst he; exact absurd rfl hq
          · exact (wd.cell e he).go g fun o r => kp _ _ hq r
      · obtain ⟨e', h1', rfl⟩ := List.mem_map.mp he
        refine (cs e' h1').go (fun a o n e => ⟨fun z => n ?_, e⟩) fun _ r => r
        rcases z with z | ⟨e2, h2, h3⟩
        · exact .inl (.inl z)
        · rcases List.mem_append.mp h2 with h2 | h2
          · obtain ⟨e0, q1, q2, _⟩ := old e2 h2
            exact .inl (.inr ⟨e0, q1, q2.trans h3⟩)
          · obtain ⟨e3, h4, rfl⟩ := List.mem_map.mp h2
            exact .inr ⟨e3, h4, h3⟩)
  refine k v H' z _ key.1 key.2 ⟨rfl, toCl true nw, ?_⟩ (Rw.z (rv.go fun a o n e => ⟨fun z => n ?_, e⟩)) (q z nw hp)
  · show ao (y.m.set j ⟨p, b, .pu (m0 - cost)⟩ ++ toCl true nw) = ao y.m ++ ao (toCl true nw)
    unfold ao
    rw [List.map_append]
    congr 1
    apply List.ext_getElem?
    intro i'
    by_cases n : i' = j
    · subst n
      obtain ⟨hl, _⟩ := List.getElem?_eq_some_iff.mp hj
      rw [List.getElem?_map, List.getElem?_map, List.getElem?_set_self hl, hj]
      rfl
    · rw [List.getElem?_map, List.getElem?_map, List.getElem?_set_ne (Ne.symm n)]
  · rcases z with z | ⟨e2, h2, h3⟩
    · exact .inl (.inl z)
    · rcases List.mem_append.mp h2 with h2 | h2
      · obtain ⟨e0, q1, q2, _⟩ := old e2 h2
        exact .inl (.inr ⟨e0, q1, q2.trans h3⟩)
      · obtain ⟨e3, h4, rfl⟩ := List.mem_map.mp h2
        exact .inr ⟨e3, h4, h3⟩
end Ux
namespace Ux
open PySem PySem.Spec PyProof.Rows L2 Tq
/-! ### the very same thing: it grows, and is shown alike -/
structure VOk (c : Cont) : Prop where
  pl : c.plain = true
  ln : c.len < 1000
  sh : ShOk c.gr.dat
def vSp (K : Fg) : Sp := fun vs H Q _ => ∃ (M : Addr → Prop) (z : Z) (nw : List (Addr × Cell)) (c : Cont) (v v' : V), vs = [v, v'] ∧ (∀ a, M a → H a ≠ none) ∧ (∀ e ∈ nw, M e.1 ∧ CellOk K M H e.1 e.2) ∧ Rw K M H v z ∧ Rw K M H v' z ∧ Th z nw c ∧ VOk c ∧
  ∀ nw' H', Th z nw' c.gr → (∀ a o, (∀ e ∈ nw, e.1 ≠ a) → H a = some o → H' a = some o) → (∀ e ∈ nw', CellOk K M H' e.1 e.2) → Q (.bl true) H'
def setN (m : List Cl) (j : Nat) (b : Bool) : List (Addr × Cell) → List Cl
  | [] => m
  | (a, c) :: _ => m.set j ⟨a, b, c⟩
theorem wE_very {C : Ct} {y : S} {ts : TA} {E : XK} {Q : Z → S → Prop} (w : wZ C ts y fun zs y1 => ∃ z nw c j b, zs = [z, z] ∧ Th z nw c ∧ VOk c ∧ (∀ e ∈ nw, y1.m[j]? = some ⟨e.1, b, e.2⟩) ∧ ∀ nw', Th z nw' c.gr → Q (.d (.bool true)) ⟨y1.l, setN y1.m j b nw'⟩) :
    wE C (tCall (vSp C.K) [] E ts) y Q := by
  intro F σ H K wd k
  refine w F σ H _ wd fun vs H1 zs y1 w1 g1 s1 r1 ⟨z, nw, c, j, b, ez, th, vo, hj, q⟩ => ?_
  subst ez
  cases r1 with | @cons v _ vs _ rv r2 =>
  cases r2 with | @cons v2 _ vs2 _ rv2 r3 =>
  cases r3
  refine ⟨Mv F σ y1, z, nw, c, v, v2, rfl, fun a m e => w1.new e m, fun e he => ?_, rv, rv2, th, vo, fun nw' H' th' kp cs => ?_⟩
  · have hm := List.mem_of_getElem? (hj e he)
    exact ⟨.inr ⟨_, hm, rfl⟩, w1.cell _ hm⟩
  · cases th with
    | pl d =>
      cases th' with
      | pl _ =>
        have gr : ∀ a o, H1 a = some o → H' a = some o := fun a o e => kp a o (fun _ z => nomatch z) e
        exact k _ H' (.d (.bool true)) y1 (w1.grow gr) (g1.trans (go_grow gr)) s1 (.bl true) (q [] (.pl d))
    | ls a ds =>
      cases th' with
      | ls _ ds' =>
        have hc := cs _ List.mem_cons_self
        obtain ⟨w2, g2, s2⟩ := w1.cmut (H' := H') (c' := .lst ((ds ++ [PyData.str "more"]).map Z.d)) (hj _ List.mem_cons_self) rfl rfl (fun x o n e => kp x o (fun e' he => by rw [List.mem_singleton] at he; subst he; exact fun z => n z.symm) e)
          fun M sb g => hc.go (fun a o n e => ⟨fun z => n (sb a z), e⟩) fun _ r => r
        exact k _ H' (.d (.bool true)) _ w2 (g1.trans g2) (s1.trans s2) (.bl true) (q _ (.ls a _))
    | dc a kvs =>
      cases th' with
      | dc _ kvs' =>
        have hc := cs _ List.mem_cons_self
        obtain ⟨w2, g2, s2⟩ := w1.cmut (H' := H') (c' := .dic (kvD (putKD kvs (.inr "more") (.int 1)))) (hj _ List.mem_cons_self) rfl rfl (fun x o n e => kp x o (fun e' he => by rw [List.mem_singleton] at he; subst he; exact fun z => n z.symm) e)
          fun M sb g => hc.go (fun a o n e => ⟨fun z => n (sb a z), e⟩) fun _ r => r
        exact k _ H' (.d (.bool true)) _ w2 (g1.trans g2) (s1.trans s2) (.bl true) (q _ (.dc a _))
end Ux
namespace Ux
open PySem PySem.Spec PyProof.Rows L2 Tq
def tDispL : List (TE × TE) → TE := tDisp
section
variable {C : Ct} {y : S} {Q : Z → S → Prop}
theorem xE_dispS {k : Str} {v : V} {d : D} (s : Sc v d) (q : ∀ p, Q (.lab p) ⟨y.l, y.m ++ [⟨p, true, .dic [(.inr k, .d d)]⟩]⟩) : wE C (tDispL [(tC (.str k), tC v)]) y Q := wE_dispL (kk := .inr k) s q
theorem xE_dispI {k : Int} {v : V} {d : D} (s : Sc v d) (q : ∀ p, Q (.lab p) ⟨y.l, y.m ++ [⟨p, true, .dic [(.inl k, .d d)]⟩]⟩) : wE C (tDispL [(tC (.int k), tC v)]) y Q := wE_dispL (kk := .inl k) s q
end
end Ux
namespace Ux
open PySem PySem.Spec PyProof.Rows L2 Tq
end Ux

set_option maxRecDepth 100000
set_option maxHeartbeats 4000000
namespace Ux
open PySem PySem.Spec PyProof.Rows L2 Tq
/-! ### x == [] -/
def rEqNil (K : Fg) : R2 := fun x y H Q => ∃ a b xs, x = .ref a ∧ y = .ref b ∧ SqL K H a xs ∧ SqL K H b [] ∧ Q (.bl (decide (xs.length = 0))) H
section
variable {C : Ct} {y : S} {ta tb te : TE} {tt : TT} {tx : TS} {e : En} {Q : Z → S → Prop}
theorem wE_eqNil (w : wE C ta y fun z y1 => wE C tb y1 fun z' y2 => ∃ xs, lstZ z = some xs ∧ z' = .d (.list []) ∧ Q (.d (.bool (decide (xs.length = 0)))) y2) : wE C (tOp (rEqNil C.K) ta tb) y Q := by
  intro F σ H K wd k
  refine w F σ H _ wd fun x H1 z y1 w1 g1 s1 r1 q1 => ?_
  refine q1 F σ H1 _ w1 fun x2 H2 z' y2 w2 g2 s2 r2 q2 => ?_
  obtain ⟨xs, e1, rfl, hq⟩ := q2
  obtain ⟨a, us, rfl, h1, h2⟩ := rw_lst (r1.w.go g2) e1
  obtain ⟨b, vs, rfl, h3, h4⟩ := rp_lst r2
  cases h4
  exact ⟨a, b, us, rfl, rfl, h1.sq, h3.sq, k _ H2 (.d (.bool _)) y2 w2 (g1.trans g2) (s1.trans s2) (.bl _) (by rw [h2.len]; exact hq)⟩
/-! ### lists with labels gone through -/
def JOkZ (C : Ct) (F : Fr) (J : It) (σ : St) (y : S) (H : Hp) (xs : List Z) : Prop := ∀ (F1 : Fr) σ1 y1 H1, Wd0 C.K F1 σ1 y1 H1 → GoH (Mv F σ y) H (Mv F1 σ1 y1) H1 → ∀ i : Nat, (i < xs.length → J.go i H1) ∧ (xs.length ≤ i → J.stop i H1) ∧
  ∀ x, xs[i]? = some x → ∀ v H2, J.yld i H1 v H2 → (∀ a o, H1 a = some o → H2 a = some o) ∧ Rw C.K (Mv F1 σ1 y1) H2 v x
def wIZ (C : Ct) (wi : TI) (y : S) (Q : List Z → S → Prop) : Prop := ∀ (F : Fr) σ H (R : It → Hp → Prop), Wd C F σ y H → (∀ J H' xs y', Wd C F σ y' H' → Go F σ y H σ y' H' → Sh y y' → JOkZ C F J σ y' H' xs → Q xs y' → R J H') → wi σ H R
variable {Qi : List Z → S → Prop} {wi : TI}
theorem wIZ_list (w : wE C te y fun z y1 => ∃ xs, lstZ z = some xs ∧ Qi xs y1) : wIZ C (iList C.K te) y Qi := by
  intro F σ H R wd k
  refine w F σ H _ wd fun v H1 z y1 w1 g1 s1 r1 q => ?_
  obtain ⟨xs, ez, q⟩ := q
  obtain ⟨a, us, rfl, h1, h2⟩ := rw_lst r1.w ez
  refine ⟨a, rfl, ⟨us, h1.sq⟩, k _ H1 xs y1 w1 g1 s1 (fun F1 σ2 y2 H2 w2 g2 i => ?_) q⟩
  have e1 := (h1.go g2).sq
  have e2 := h2.go g2
  refine ⟨fun hi => ?_, fun hi => ⟨us, e1, by rw [h2.len]; exact hi⟩, fun x hx v H3 hy => ?_⟩
  · have : i < us.length := by rw [h2.len]; exact hi
    exact ⟨us, us[i], e1, by simp [this]⟩
  · obtain ⟨rfl, hv⟩ := hy
    obtain ⟨d, hd, rd⟩ := e2.getV (hv us e1)
    rw [hx] at hd
    cases hd
    exact ⟨fun _ _ e => e, rd⟩
variable {g : TG}
theorem wS_forZ (w : wIZ C wi y fun xs y1 => ∃ I : Nat → S → Prop, I 0 y1 ∧ (∀ i x y2, xs[i]? = some x → I i y2 → wG C g x y2 fun y3 => wS C tx y3 { nx := I (i + 1), ct := I (i + 1), bk := e.nx, rt := e.rt }) ∧ (∀ y2, I xs.length y2 → e.nx y2)) :
    wS C (tFor wi g tx) y e := by
  intro F σ H E st wd k
  refine w F σ H _ wd fun J H1 xs y1 w1 g1 s1 hJ ⟨I, h0, hs, hd⟩ => ?_
  refine ⟨fun i m σ2 H2 => m = xs.length - i ∧ i ≤ xs.length ∧ ∃ y2, Wd C F σ2 y2 H2 ∧ Go F σ y1 H1 σ2 y2 H2 ∧ I i y2, ⟨xs.length, by simp, Nat.zero_le _, y1, w1, GoH.refl, h0⟩, ?_⟩
  rintro i m σ2 H2 ⟨rfl, hi, y2, w2, g2, hI⟩
  obtain ⟨j1, j2, j3⟩ := hJ F σ2 y2 H2 w2.toWd0 g2 i
  by_cases hlt : i < xs.length
  · refine .inr ⟨j1 hlt, fun σ3 H3 => ∃ y3, Wd C F σ3 y3 H3 ∧ Go F σ y1 H1 σ3 y3 H3 ∧ I (i + 1) y3, fun σ3 H3 ⟨y3, w3, g3, h3⟩ => ⟨xs.length - (i + 1), by omega, rfl, hlt, y3, w3, g3, h3⟩, fun v H3 hy => ?_⟩
    have ex : xs[i]? = some xs[i] := List.getElem?_eq_getElem hlt
    obtain ⟨gr, rv⟩ := j3 _ ex v H3 hy
    have w3 := w2.grow gr
    have g3 := g2.trans (go_grow (F := F) (σ := σ2) (y := y2) gr)
    refine hs i _ y2 ex hI F σ2 H3 v _ w3 rv.z fun σ4 y4 w4 g4 q4 => ?_
    refine q4 F σ4 H3 _ st w4 ⟨fun σ5 H5 y5 w5 g5 q5 => ⟨y5, w5, (g3.trans g4).trans g5, q5⟩, fun σ5 v5 H5 z5 y5 w5 g5 r5 q5 => k.rt σ5 v5 H5 z5 y5 w5 (((g1.trans g3).trans g4).trans g5) r5 q5,
      fun σ5 H5 y5 w5 g5 q5 => k.nx σ5 H5 y5 w5 (((g1.trans g3).trans g4).trans g5) q5, fun σ5 H5 y5 w5 g5 q5 => ⟨y5, w5, (g3.trans g4).trans g5, q5⟩⟩
  · have ei : i = xs.length := by omega
    subst ei
    exact .inl ⟨j2 (Nat.le_refl _), k.nx σ2 H2 y2 w2 (g1.trans g2) (hd y2 hI)⟩
end
/-! ### defs that change what they are handed -/
def mSp (K : Fg) (n : Nat) (pre : List (Addr × Cell) → List Z → Prop) (post : List (Addr × Cell) → List Z → D → List (Addr × Cell) → Prop) : Sp := fun vs H Q _ => ∃ (M : Addr → Prop) (m : List (Addr × Cell)) (zs : List Z), (∀ a, M a → H a ≠ none) ∧ RwA K M H vs zs ∧ (∀ e ∈ m, M e.1 ∧ CellOk K M H e.1 e.2 ∧ e.2.isRo = false) ∧ (m.Pairwise fun e e' => e.1 ≠ e'.1) ∧ zs.length = n ∧ pre m zs ∧
  ∀ d v m' H', post m zs d m' → scD d = true → m'.map (·.1) = m.map (·.1) → (∀ e ∈ m', e.2.isRo = false) → (∀ a o, (∀ e ∈ m, e.1 ≠ a) → H a = some o → H' a = some o) → (∀ e ∈ m', CellOk K M H' e.1 e.2) → Rp K M H' v d → Q v H'
theorem wE_m {C : Ct} {y : S} {ts : TA} {E : XK} {Q : Z → S → Prop} {n : Nat} {pre : List (Addr × Cell) → List Z → Prop} {post : List (Addr × Cell) → List Z → D → List (Addr × Cell) → Prop}
    (w : wZ C ts y fun zs y1 => ∃ A m B b, y1.m = A ++ toCl b m ++ B ∧ (∀ e ∈ m, e.2.isRo = false) ∧ zs.length = n ∧ pre m zs ∧ ∀ d m', post m zs d m' → m'.map (·.1) = m.map (·.1) → (∀ e ∈ m', e.2.isRo = false) → Q (.d d) ⟨y1.l, A ++ toCl b m' ++ B⟩) :
    wE C (tCall (mSp C.K n pre post) [] E ts) y Q := by
  intro F σ H K wd k
  refine w F σ H _ wd fun vs H1 zs y1 w1 g1 s1 r1 ⟨A, m, B, b, em, ro, hn, hp, q⟩ => ?_
  show mSp C.K n pre post (vs ++ []) H1 K E
  rw [List.append_nil]
  have mem : ∀ e ∈ m, (⟨e.1, b, e.2⟩ : Cl) ∈ y1.m := fun e he => by
    rw [em]; exact List.mem_append.mpr (.inl (List.mem_append.mpr (.inr (List.mem_map.mpr ⟨e, he, rfl⟩))))
  have dist := w1.dist
  rw [em] at dist
  have pwm : m.Pairwise fun e e' => e.1 ≠ e'.1 := by
    have := (List.pairwise_append.mp (List.pairwise_append.mp dist).1).2.1
    unfold toCl at this
    rw [List.pairwise_map] at this
    exact this
  refine ⟨Mv F σ y1, m, zs, fun a m e => w1.new e m, r1, fun e he => ⟨.inr ⟨_, mem e he, rfl⟩, w1.cell _ (mem e he), ro e he⟩, pwm, hn, hp, fun d v m' H' hq hs ha ro' kp cs rv => ?_⟩
  have aeq : (A ++ toCl b m' ++ B).map (·.a) = y1.m.map (·.a) := by
    rw [em]
    simp only [List.map_append, toCl, List.map_map]
    congr 2
  have aoeq : ao (A ++ toCl b m' ++ B) = ao y1.m := by
    rw [em]
    unfold ao
    simp only [List.map_append]
    congr 2
    unfold toCl
    rw [List.map_map, List.map_map]
    have e1 : ∀ l : List (Addr × Cell), (∀ e ∈ l, e.2.isRo = false) → l.map ((fun e : Cl => (e.a, e.own, e.c.isRo)) ∘ fun e => (⟨e.1, b, e.2⟩ : Cl)) = (l.map (·.1)).map fun a => (a, b, false) := fun l hl => by
      rw [List.map_map]
      exact List.map_congr_left fun e he => by show (e.1, b, e.2.isRo) = (e.1, b, false); rw [hl e he]
    rw [e1 m' ro', e1 m ro, ha]
  have inm : ∀ a, (∃ e ∈ m, e.1 = a) ↔ ∃ e ∈ m', e.1 = a := fun a => by
    have e1 : ∀ l : List (Addr × Cell), (∃ e ∈ l, e.1 = a) ↔ a ∈ l.map (·.1) := fun l => List.mem_map.symm
    rw [e1, e1, ha]
  have old : ∀ e ∈ A ++ toCl b m' ++ B, ∃ e0 ∈ y1.m, e0.a = e.a ∧ (e.own = true → e0.own = true) ∧ (e.c.isRo = false → e0.c.isRo = false) := fun e he => by
    obtain ⟨e', h1, h2, h3, h4⟩ := own_ao aoeq he
    exact ⟨e', h1, h2, fun z => h3.trans z, fun z => h4.trans z⟩
  have lv : ∀ a, Dom y1.m a → H' a ≠ none := fun a ⟨e, h1, h2⟩ z => by
    by_cases ha : ∃ e ∈ m, e.1 = a
    · obtain ⟨e', q1, q2⟩ := (inm a).mp ha
      exact (cs e' q1).live (q2 ▸ z)
    · cases r : H1 a with
      | none => exact (w1.cell e h1).live (h2 ▸ r)
      | some o => rw [kp a o (fun e he q => ha ⟨e, he, q⟩) r] at z; cases z
  have key := w1.store (m := A ++ toCl b m' ++ B) (H' := H') (fun a o n e => kp a o (fun e' he' z => n ⟨_, mem e' he', z, ro e' he'⟩) e) lv (fun e he => .inl (old e he))
    (by
      have p1 : ∀ l : List Cl, (l.Pairwise fun e e' => e.a ≠ e'.a) ↔ (l.map (·.a)).Pairwise (· ≠ ·) := fun l => by rw [List.pairwise_map]
      rw [p1, aeq, ← p1]
      exact w1.dist)
    (fun g e he => by
      by_cases hq : ∃ e' ∈ m', (⟨e'.1, b, e'.2⟩ : Cl) = e
      · obtain ⟨e', h1', rfl⟩ := hq
        refine (cs e' h1').go (fun a o n e => ⟨fun z => n ?_, e⟩) fun _ r => r
        rcases z with z | ⟨e2, h2, h3⟩
        · exact .inl z
        · obtain ⟨e0, q1, q2, _⟩ := old e2 h2
          exact .inr ⟨e0, q1, q2.trans h3⟩
      · have hAB : e ∈ A ∨ e ∈ B := by
          rcases List.mem_append.mp he with he | he
          · rcases List.mem_append.mp he with he | he
            · exact .inl he
            · obtain ⟨e', h1', rfl⟩ := List.mem_map.mp he
              exact absurd ⟨e', h1', rfl⟩ hq
          · exact .inr he
        have hy : e ∈ y1.m := by
          rw [em]
          rcases hAB with h | h
          · exact List.mem_append.mpr (.inl (List.mem_append.mpr (.inl h)))
          · exact List.mem_append.mpr (.inr h)
        refine (w1.cell e hy).go g fun o r => kp _ _ (fun e' he' z => ?_) r
        have m1 : (⟨e'.1, b, e'.2⟩ : Cl) ∈ toCl b m := List.mem_map.mpr ⟨e', he', rfl⟩
        rcases hAB with h | h
        · exact (List.pairwise_append.mp (List.pairwise_append.mp dist).1).2.2 e h _ m1 z.symm
        · exact (List.pairwise_append.mp dist).2.2 _ (List.mem_append.mpr (.inr m1)) e h z)
  exact k v H' (.d d) _ key.1 (g1.trans key.2) (s1.trans ⟨rfl, [], by rw [show ao ([] : List Cl) = [] from rfl, List.append_nil]; exact aoeq⟩) (sc_rp hs rv) (q d m' hq ha ro')
/-- the very thing, wherever it lies in the store -/
theorem wE_veryA {C : Ct} {y : S} {ts : TA} {E : XK} {Q : Z → S → Prop} (w : wZ C ts y fun zs y1 => ∃ z nw c A B b, zs = [z, z] ∧ Th z nw c ∧ VOk c ∧ y1.m = A ++ toCl b nw ++ B ∧ ∀ nw', Th z nw' c.gr → Q (.d (.bool true)) ⟨y1.l, A ++ toCl b nw' ++ B⟩) :
    wE C (tCall (vSp C.K) [] E ts) y Q := by
  refine wE_very (wZ_mono w fun zs y1 ⟨z, nw, c, A, B, b, e1, th, vo, em, q⟩ => ⟨z, nw, c, A.length, b, e1, th, vo, fun e he => ?_, fun nw' th' => ?_⟩)
  · cases th with
    | pl d => cases he
    | ls a ds => rw [List.mem_singleton] at he; subst he; rw [em]; simp [toCl]
    | dc a ds => rw [List.mem_singleton] at he; subst he; rw [em]; simp [toCl]
  · have h := q nw' th'
    cases th with
    | pl d =>
      cases th' with
      | pl _ => rw [show y1.m = A ++ toCl b [] ++ B from em]; exact h
    | ls a ds =>
      cases th' with
      | ls _ _ =>
        rw [em]
        show Q _ ⟨_, (A ++ [_] ++ B).set A.length _⟩
        rw [List.append_assoc, List.set_append_right _ _ (Nat.le_refl _), Nat.sub_self]
        simpa [toCl] using h
    | dc a ds =>
      cases th' with
      | dc _ _ =>
        rw [em]
        show Q _ ⟨_, (A ++ [_] ++ B).set A.length _⟩
        rw [List.append_assoc, List.set_append_right _ _ (Nat.le_refl _), Nat.sub_self]
        simpa [toCl] using h
end Ux

set_option maxRecDepth 100000
set_option maxHeartbeats 4000000
/-! x != [] -/
namespace Tq
open PySem PySem.Spec PyProof.Rows L2
def rNeNil (K : Fg) : R2 := fun x y H Q => ∃ a b xs, x = .ref a ∧ y = .ref b ∧ SqL K H a xs ∧ SqL K H b [] ∧ Q (.bl (!decide (xs.length = 0))) H
theorem wE_neNil {C : Ct} {y : S} {ta tb : TE} {Q : Z → S → Prop} (w : wE C ta y fun z y1 => wE C tb y1 fun z' y2 => ∃ xs, z = .d (.list xs) ∧ z' = .d (.list []) ∧ Q (.d (.bool (!decide (xs.length = 0)))) y2) : wE C (tOp (rNeNil C.K) ta tb) y Q := by
  refine wE_op (res := fun d e r => ∃ xs, d = .list xs ∧ e = .list [] ∧ r = .bool (!decide (xs.length = 0))) ?_ (wE_mono w fun z y1 h => wE_mono h fun z' y2 ⟨xs, e1, e2, q⟩ => ⟨_, _, _, e1, e2, ⟨xs, rfl, rfl, rfl⟩, q⟩)
  rintro M H x y d e r Q fr rx ry ⟨xs, rfl, rfl, rfl⟩ k
  obtain ⟨a, us, rfl, h1, h2⟩ := rp_lst rx
  obtain ⟨b, vs, rfl, h3, h4⟩ := rp_lst ry
  cases h4
  exact ⟨a, b, us, rfl, rfl, h1.sq, h3.sq, k _ H (fun _ _ e => e) (by rw [h2.len]; exact .bl _)⟩
/-! x not in a tuple of tuples -/
def rNotInTD (K : Fg) : R2 := fun x y H Q => ∃ d ds, Dp K H x d ∧ Dp K H y (.tuple ds) ∧ (SeqAt.shaped d = true ∧ d.depth ≤ 60) ∧ SeqAt.shaped (.tuple ds) = true ∧ Q (.bl (!ds.any fun z => PyData.eqv z d)) H
end Tq
namespace Ux
open PySem PySem.Spec PyProof.Rows L2 Tq
theorem wE_neNil {C : Ct} {y : S} {ta tb : TE} {Q : Z → S → Prop} (w : wE C ta y fun z y1 => wE C tb y1 fun z' y2 => ∃ xs, lstZ z = some xs ∧ z' = .d (.list []) ∧ Q (.d (.bool (!decide (xs.length = 0)))) y2) : wE C (tOp (rNeNil C.K) ta tb) y Q := by
  intro F σ H K wd k
  refine w F σ H _ wd fun x H1 z y1 w1 g1 s1 r1 q1 => ?_
  refine q1 F σ H1 _ w1 fun x2 H2 z' y2 w2 g2 s2 r2 q2 => ?_
  obtain ⟨xs, e1, rfl, hq⟩ := q2
  obtain ⟨a, us, rfl, h1, h2⟩ := rw_lst (r1.w.go g2) e1
  obtain ⟨b, vs, rfl, h3, h4⟩ := rp_lst r2
  cases h4
  exact ⟨a, b, us, rfl, rfl, h1.sq, h3.sq, k _ H2 (.d (.bool _)) y2 w2 (g1.trans g2) (s1.trans s2) (.bl _) (by rw [h2.len]; exact hq)⟩
theorem wE_notInTD {C : Ct} {y : S} {ta tb : TE} {Q : Z → S → Prop} (w : wE C ta y fun z y1 => wE C tb y1 fun z' y2 => ∃ d ds, z = .d d ∧ z' = .d (.tuple ds) ∧ (SeqAt.shaped d = true ∧ d.depth ≤ 60) ∧ SeqAt.shaped (.tuple ds) = true ∧ Q (.d (.bool (!ds.any fun z => PyData.eqv z d))) y2) : wE C (tOp (rNotInTD C.K) ta tb) y Q := by
  refine wE_op (res := fun d e r => ∃ ds, e = .tuple ds ∧ (SeqAt.shaped d = true ∧ d.depth ≤ 60) ∧ SeqAt.shaped (.tuple ds) = true ∧ r = .bool (!ds.any fun z => PyData.eqv z d)) ?_ (wE_mono w fun z y1 h => wE_mono h fun z' y2 ⟨d, ds, e1, e2, s1, s2, q⟩ => ⟨_, _, _, e1, e2, ⟨ds, rfl, s1, s2, rfl⟩, q⟩)
  rintro M H x y d e r Q _ rx ry ⟨ds, rfl, s1, s2, rfl⟩ k
  exact ⟨d, ds, rx.dp (canLay_noDict s1.1), ry.dp (canLay_noDict s2), s1, s2, k _ H (fun _ _ e => e) (.bl _)⟩
end Ux

set_option maxRecDepth 100000
set_option maxHeartbeats 4000000
namespace Ux
open PySem PySem.Spec PyProof.Rows L2 Tq
/-! ### defs with one default, keywords -/
structure DfD (K : Fg) (mg : Str → Option Value) (x : Str) (st : Stmt) (ps : List Str) (dv : V) : Prop where
  ex : ∃ (f : Addr) (fd : FuncData), FunD K x x (defArgs st) (defBody st) (defScope st) [dv] [] f fd ∧ mg x = some (.ref f) ∧ Binds K fd ps [] ∧ (∃ ds, Vals [dv] ds ∧ Binds K fd ps ds) ∧
    ∀ (s : Shared) (us ws : List Value), K.In s.heap → us.length + 1 = ps.length → ws.length = 1 → BindsTo s fd ⟨us, (ps.drop us.length).zip ws⟩ (ps.zip (us ++ ws))
structure CalD (P : Program) (w : World) (K : Fg) (mg : Str → Option Value) (base : Heap) (k : Nat) (x : Str) (ps : List Str) (sp : Sp) (dv : V) : Prop where
  ex : ∃ (f : Addr) (fd : FuncData), Tq.FnG P w K mg base (L2.CX P w) k f fd ps sp ∧ mg x = some (.ref f) ∧ PySem.W.keepIn K (.ref f) = true ∧ Binds K fd ps [] ∧ (∃ ds, Vals [dv] ds ∧ Binds K fd ps ds) ∧
    ∀ (s : Shared) (us ws : List Value), K.In s.heap → us.length + 1 = ps.length → ws.length = 1 → BindsTo s fd ⟨us, (ps.drop us.length).zip ws⟩ (ps.zip (us ++ ws))
section
variable {P : Program} {w : World} {K : Fg} {mg : Str → Option Value} {base : Heap} {k : Nat} {x : Str} {ps N : List Str} {sp : Sp} {st : Stmt} {dv : V}
theorem run_fnSD {X : Cx} {CX : CXT} {f : Addr} {fd : FuncData} {E : L2.St → XK} {pins : List (Addr × Obj)} {σ : L2.St} {H : Hp} {s : Shared} {Q : VK} {us all : List Value} {kw : List (Str × Value)} {vs : List V} (F : Tq.FnG X.prog X.w X.K X.mg X.base CX k f fd ps sp) (hr : Room k X.A) (hgu : X.A.guards = some []) (hx : PassesAt CX X σ (E σ))
    (I : Inv X pins σ H s) (r : Vals vs all) (b : BindsTo s fd ⟨us, kw⟩ (ps.zip all)) (h : sp vs H Q (E σ)) : wpAny (model X.prog X.w) X.A (call (.ref f) us kw) (EP X pins σ Q) X.xe s := by
  refine wpAny_call (codeAny_mono (F.run X.A X.stack s H ⟨us, kw⟩ all vs Q (E σ) hr hgu I.env0 b r h) fun r s' hq => ?_)
  cases r with
  | error e => exact hx pins H s e s' I hq
  | ok fl =>
    cases fl with
    | ret u => exact I.after hq
    | next => exact False.elim hq
    | brk => exact False.elim hq
    | cont => exact False.elim hq
end
/-! ### comprehensions of things told beforehand; lists taken apart -/
section
variable {C : Ct} {y : S} {ta tb tc te : TE} {tt : TT} {wi : TI} {Q : Z → S → Prop}
variable {g : TG} {Qg : S → Prop}
end
theorem Res.str {m : List Cl} {z : Z} {s : Str} (h : Res m z (.str s)) : z = .d (.str s) := by
  cases h with
  | d => rfl
  | lab _ hc => rcases hc.nsc with ⟨_, e⟩ | ⟨_, e⟩ <;> cases e
end Ux

set_option maxRecDepth 100000
set_option maxHeartbeats 4000000
namespace Ux
open PySem PySem.Spec PyProof.Rows L2 Tq
/-! ### defs that may raise and hand out things that are new -/
def xnSp (K : Fg) (n : Nat) (pre : List Z → List D → Prop) (post : List Z → List D → Z → List (Addr × Cell) → Prop) (xp : List Z → List D → Ex → Prop) : Sp := fun vs H Q E => ∃ (M : Addr → Prop) (m : List Cl) (zs : List Z) (ds : List D),
  (∀ a, M a → H a ≠ none) ∧ RwA K M H vs zs ∧ (∀ e ∈ m, M e.a ∧ CellOk K M H e.a e.c) ∧ (m.Pairwise fun e e' => e.a ≠ e'.a) ∧ ResA m zs ds ∧ zs.length = n ∧ pre zs ds ∧
  (∀ z nw v H', post zs ds z nw → (∀ a o, H a = some o → H' a = some o) → (∀ e ∈ nw, H e.1 = none) → (nw.Pairwise fun e e' => e.1 ≠ e'.1) → (∀ e ∈ nw, CellOk K (fun a => M a ∨ ∃ e ∈ nw, e.1 = a) H' e.1 e.2) → Rw K (fun a => M a ∨ ∃ e ∈ nw, e.1 = a) H' v z → Q v H') ∧
  (∀ ex a v H', xp zs ds ex → (∀ a o, H a = some o → H' a = some o) → H a = none → H' a = some (.xd [(keyZ ex.found, v)]) → Rw K M H' v (valZ ex.found) → E ex.cls (some a) H')
section
variable {K : Fg} {N : List Str} {t : TS} {vs : List V} {H : Hp} {Q : VK} {E : XK} {n : Nat} {pre : List Z → List D → Prop} {post : List Z → List D → Z → List (Addr × Cell) → Prop} {xp : List Z → List D → Ex → Prop}
end
section
variable {C : Ct} {y : S} {ts : TA} {te : TE} {Q : Z → S → Prop} {n : Nat} {pre : List Z → List D → Prop} {post : List Z → List D → Z → List (Addr × Cell) → Prop} {xp : List Z → List D → Ex → Prop} {e : En} {E : XK}
theorem xn_call {y1 : S} {F : Fr} {σ : St} {H1 H2 : Hp} {nw : List (Addr × Cell)} (w1 : Wd C F σ y1 H1) (gr : ∀ a o, H1 a = some o → H2 a = some o) (fr : ∀ e ∈ nw, H1 e.1 = none) (pw : nw.Pairwise fun e e' => e.1 ≠ e'.1)
    (cs : ∀ e ∈ nw, CellOk C.K (fun a => Mv F σ y1 a ∨ ∃ e ∈ nw, e.1 = a) H2 e.1 e.2) : Wd C F σ ⟨y1.l, y1.m ++ toCl true nw⟩ H2 ∧ Go F σ y1 H1 σ ⟨y1.l, y1.m ++ toCl true nw⟩ H2 :=
  w1.store (m := y1.m ++ toCl true nw) (H' := H2) (fun a o _ e => gr a o e)
    (fun a ⟨e, h1, h2⟩ z => by
      cases r : H1 a with
      | none => exact (w1.cell e h1).live (h2 ▸ r)
      | some o => rw [gr a o r] at z; cases z)
    (fun e he => by
      rcases List.mem_append.mp he with he | he
      · exact .inl ⟨e, he, rfl, fun z => z, fun z => z⟩
      · obtain ⟨e', h1, rfl⟩ := List.mem_map.mp he
        exact .inr (fr e' h1))
    (by
      rw [List.pairwise_append]
      refine ⟨w1.dist, by unfold toCl; rw [List.pairwise_map]; exact pw, fun e he e2 he2 z => ?_⟩
      obtain ⟨e', h1', rfl⟩ := List.mem_map.mp he2
      exact (w1.cell e he).live (by rw [z]; exact fr e' h1'))
    (fun g e he => by
      rcases List.mem_append.mp he with he | he
      · exact (w1.cell e he).go g fun o r => gr _ _ r
      · obtain ⟨e', h1', rfl⟩ := List.mem_map.mp he
        refine (cs e' h1').go (fun a o n e => ⟨fun z => n ?_, e⟩) fun _ r => r
        rcases z with z | ⟨e2, h2, h3⟩
        · exact .inl (.inl z)
        · rcases List.mem_append.mp h2 with h2 | h2
          · exact .inl (.inr ⟨e2, h2, h3⟩)
          · obtain ⟨e3, h4, rfl⟩ := List.mem_map.mp h2
            exact .inr ⟨e3, h4, h3⟩)
theorem xn_rw {y1 : S} {F : Fr} {σ : St} {H2 : Hp} {nw : List (Addr × Cell)} {v : V} {z : Z} (rv : Rw C.K (fun a => Mv F σ y1 a ∨ ∃ e ∈ nw, e.1 = a) H2 v z) : Rw C.K (Mv F σ ⟨y1.l, y1.m ++ toCl true nw⟩) H2 v z := by
  refine rv.go fun a o n e => ⟨fun z => n ?_, e⟩
  rcases z with z | ⟨e2, h2, h3⟩
  · exact .inl (.inl z)
  · rcases List.mem_append.mp h2 with h2 | h2
    · exact .inl (.inr ⟨e2, h2, h3⟩)
    · obtain ⟨e3, h4, rfl⟩ := List.mem_map.mp h2
      exact .inr ⟨e3, h4, h3⟩
theorem wE_xn (w : wZ C ts y fun zs y1 => ∃ ds, ResA y1.m zs ds ∧ (zs.length = n ∧ pre zs ds) ∧ (∀ z nw, post zs ds z nw → Q z ⟨y1.l, y1.m ++ toCl true nw⟩) ∧ ∀ ex, xp zs ds ex → C.ex ex y1) : wE C (tCallS (xnSp C.K n pre post xp) (WE C.W) ts) y Q := by
  intro F σ H K wd k
  refine w F σ H _ wd fun vs H1 zs y1 w1 g1 s1 r1 ⟨ds, hr, ⟨hn, hp⟩, q, x⟩ => ?_
  refine ⟨Mv F σ y1, y1.m, zs, ds, fun a m e => w1.new e m, r1, fun e he => ⟨.inr ⟨e, he, rfl⟩, w1.cell e he⟩, w1.dist, hr, hn, hp, fun z nw v H2 hz gr fr pw cs rv => ?_, fun ex a v H2 hx gr ha ha2 rv => ?_⟩
  · obtain ⟨w2, g2⟩ := xn_call w1 gr fr pw cs
    exact k v H2 z _ w2 (g1.trans g2) (s1.trans ⟨rfl, toCl true nw, by unfold ao; rw [List.map_append]⟩) (Rw.z (xn_rw rv)) (q z nw hz)
  · exact w1.xk σ y1 H2 ex ex.cls (some a) (w1.grow gr).toWd0 (go_grow gr) ⟨rfl, a, v, rfl, ha2, w1.new ha, w1.newH0 ha, rv⟩ (x ex hx)
abbrev anSp (K : Fg) (n : Nat) (pre : List Z → List D → Prop) (post : List Z → List D → Z → List (Addr × Cell) → Prop) : Sp := xnSp K n pre post fun _ _ _ => False
theorem wE_an (w : wZ C ts y fun zs y1 => ∃ ds, ResA y1.m zs ds ∧ (zs.length = n ∧ pre zs ds) ∧ (∀ z nw, post zs ds z nw → Q z ⟨y1.l, y1.m ++ toCl true nw⟩)) : wE C (tCall (anSp C.K n pre post) [] E ts) y Q := by
  intro F σ H K wd k
  refine w F σ H _ wd fun vs H1 zs y1 w1 g1 s1 r1 ⟨ds, hr, ⟨hn, hp⟩, q⟩ => ?_
  show anSp C.K n pre post (vs ++ []) H1 K E
  rw [List.append_nil]
  refine ⟨Mv F σ y1, y1.m, zs, ds, fun a m e => w1.new e m, r1, fun e he => ⟨.inr ⟨e, he, rfl⟩, w1.cell e he⟩, w1.dist, hr, hn, hp, fun z nw v H2 hz gr fr pw cs rv => ?_, fun ex a v H2 hx => hx.elim⟩
  obtain ⟨w2, g2⟩ := xn_call w1 gr fr pw cs
  exact k v H2 z _ w2 (g1.trans g2) (s1.trans ⟨rfl, toCl true nw, by unfold ao; rw [List.map_append]⟩) (Rw.z (xn_rw rv)) (q z nw hz)
end
/-! ### an own list is frozen -/
theorem wS_frzA {C : Ct} {t : TS} {y : S} {e : En} (i : Nat) {p : Addr} {ds : List D} {A B : List Cl} (hi : y.l[i]? = some (some (.lab p))) (hm : y.m = A ++ ⟨p, true, .lst (ds.map Z.d)⟩ :: B) (w : wS C t ⟨y.l.set i (some (.d (.list ds))), A ++ B⟩ e) : wS C t y e := by
  intro F σ H E st wd k
  obtain ⟨yl, ym⟩ := y
  have hm : ym = A ++ ⟨p, true, .lst (ds.map Z.d)⟩ :: B := hm
  subst hm
  have pm : (⟨p, true, .lst (ds.map Z.d)⟩ : Cl) ∈ A ++ ⟨p, true, .lst (ds.map Z.d)⟩ :: B := List.mem_append.mpr (.inr List.mem_cons_self)
  have hs : (A ++ B).Sublist (A ++ ⟨p, true, .lst (ds.map Z.d)⟩ :: B) := List.Sublist.append_left (List.sublist_cons_self _ _) A
  have nS : ¬ F.S0 p := wd.nb st _ pm rfl
  have h0 : F.H0 p = none := by
    rcases wd.frsh _ pm rfl with q | q
    · exact absurd q nS
    · exact q
  have nM : ¬ F.M0 p := fun z => wd.live0 p z h0
  have dist := wd.dist
  have nAB : ∀ e ∈ A ++ B, e.a ≠ p := by
    have d := List.pairwise_append.mp dist
    intro e he
    rcases List.mem_append.mp he with he | he
    · exact d.2.2 e he _ List.mem_cons_self
    · exact fun z => (List.pairwise_cons.mp d.2.1).1 e he z.symm
  have sub : ∀ {l : List (Option Z)} {a : Addr}, Mv F σ ⟨l, A ++ B⟩ a → Mv F σ ⟨yl, A ++ ⟨p, true, .lst (ds.map Z.d)⟩ :: B⟩ a := fun z => z.elim .inl fun ⟨e, h1, h2⟩ => .inr ⟨e, hs.subset h1, h2⟩
  have g : Go F σ ⟨yl, A ++ ⟨p, true, .lst (ds.map Z.d)⟩ :: B⟩ H σ ⟨yl.set i (some (.d (.list ds))), A ++ B⟩ H := fun a o n e => ⟨fun z => n (sub z), e⟩
  have np : ¬ Mv F σ ⟨yl.set i (some (.d (.list ds))), A ++ B⟩ p := fun z => z.elim nM fun ⟨e, h1, h2⟩ => nAB e h1 h2
  obtain ⟨xs, c1, c2⟩ := (wd.cell _ pm : CellOk C.K _ H p (.lst (ds.map Z.d)))
  refine w F σ H E st (wd.to ⟨wd.keep, wd.live0, wd.live, by show σ.length = (yl.set i _).length; rw [List.length_set]; exact wd.len, fun j z e => ?_, fun e he => (wd.cell e (hs.subset he)).go g fun _ q => q, dist.sublist hs, fun e he => wd.frsh e (hs.subset he), wd.sm, fun st e he => wd.nb st e (hs.subset he)⟩ g) (k.go g)
  have e' : (yl.set i (some (.d (.list ds))))[j]? = some (some z) := e
  by_cases n : j = i
  · subst n
    have hl := (List.getElem?_eq_some_iff.mp (show yl[j]? = _ from hi)).1
    rw [List.getElem?_set_self hl] at e'
    cases e'
    obtain ⟨x, h1, h2⟩ := wd.slot j _ hi
    cases h2
    exact ⟨_, h1, .d (.lst (.inl ⟨np, .inl c1⟩) (c2.go g).ds)⟩
  · rw [List.getElem?_set_ne (Ne.symm n)] at e'
    obtain ⟨x, h1, h2⟩ := wd.slot j z e'
    exact ⟨x, h1, h2.go g⟩
end Ux
namespace Ux
open PySem PySem.Spec PyProof.Rows L2 Tq
section
variable {C : Ct} {y : S} {te : TE} {Qi : List D → S → Prop}
end
end Ux
namespace Ux
end Ux
namespace Ux
open PySem PySem.Spec PyProof.Rows L2 Tq
end Ux
namespace Ux
open PySem PySem.Spec PyProof.Rows L2 Tq
/-! ### lists of our own: made by +, list(..); read by slices, len, tuple(..), reversed -/
def rCatL (K : Fg) : R2 := rCatG K
def rSlLab (K : Fg) : V → Option Int → Option Int → Hp → VK → Prop := rSlD K
def tLenL (K : Fg) (t : TA) : TE := tCB (rLenD K) t
def tListL (K : Fg) (t : TA) : TE := tCB (rListD K) t
def tTupL (K : Fg) (t : TA) : TE := tCB (rTupD K) t
section
variable {X : Cx} (K : Fg)
theorem slLK (h : X.K = K := by rfl) : SlR X (rSlLab K) := slK K h
end
theorem zLen {X : Cx} {e : Expr} {K : Fg} {t : TA} (h : PE X e (tCB (rLenD K) t)) : PE X e (tLenL K t) := h
section
variable {C : Ct} {y : S} {ta tb te : TE} {tl th : TO} {Q : Z → S → Prop}
theorem xE_catL (w : wE C ta y fun z y1 => wE C tb y1 fun z' y2 => ∃ xs zs, lstZ z = some xs ∧ lstZ z' = some zs ∧ xs.length + zs.length ≤ sizeLine ∧ ∀ p, Q (.lab p) ⟨y2.l, y2.m ++ [⟨p, true, .lst (xs ++ zs)⟩]⟩) : wE C (tOp (rCatL C.K) ta tb) y Q := by
  intro F σ H K wd k
  refine w F σ H _ wd fun x H1 z y1 w1 g1 s1 r1 q1 => ?_
  refine q1 F σ H1 _ w1 fun x2 H2 z' y2 w2 g2 s2 r2 q2 => ?_
  obtain ⟨xs, zs, e1, e2, hl, hq⟩ := q2
  obtain ⟨a, us, rfl, h1, h2⟩ := rw_lst (r1.w.go g2) e1
  obtain ⟨b, vs, rfl, h3, h4⟩ := rw_lst r2.w e2
  refine ⟨a, b, us, vs, rfl, rfl, h1.sq, h3.sq, by rw [h2.len, h4.len]; exact hl, fun p hp => ?_⟩
  obtain ⟨w3, g3, s3⟩ := w2.cnew (o := .lst (us ++ vs)) (c := .lst (xs ++ zs)) (b := true) hp fun M g => ⟨us ++ vs, upd_same, (h2.app h4).go g⟩
  exact k _ _ (.lab p) _ w3 ((g1.trans g2).trans g3) ((s1.trans s2).trans s3) (.lab p) (hq p)
/-- a list of ours, as it is at present -/
theorem lab_lst {F : Fr} {σ : St} {H : Hp} {v : V} {p : Addr} {b : Bool} {j : Nat} {zs : List Z} (wd : Wd C F σ y H) (r : Rz C F σ y H v (.lab p)) (hj : y.m[j]? = some ⟨p, b, .lst zs⟩) : v = .ref p ∧ ∃ xs, H p = some (.lst xs) ∧ RwA C.K (Mv F σ y) H xs zs := by
  cases r
  obtain ⟨xs, c1, c2⟩ := (wd.cell _ (List.mem_of_getElem? hj) : CellOk C.K (Mv F σ y) H p (.lst zs))
  exact ⟨rfl, xs, c1, c2⟩
theorem xE_lenL (w : wE C te y fun z y1 => ∃ (p : Addr) (b : Bool) (j : Nat) (zs : List Z), z = .lab p ∧ y1.m[j]? = some (⟨p, b, .lst zs⟩ : Cl) ∧ Q (.d (.int zs.length)) y1) : wE C (tLenL C.K (tCons te tNil)) y Q := by
  intro F σ H K wd k
  refine w F σ H _ wd fun x H1 z y1 w1 g1 s1 r1 q1 => ?_
  obtain ⟨p, b, j, zs, rfl, hj, hq⟩ := q1
  obtain ⟨rfl, xs, c1, c2⟩ := lab_lst w1 r1 hj
  exact ⟨_, zs.length, rfl, .inl ⟨xs, .inl (.inl c1), c2.len.symm⟩, k _ H1 (.d (.int zs.length)) y1 w1 g1 s1 (.int _) hq⟩
theorem xE_listL (w : wE C te y fun z y1 => ∃ d xs, z = .d d ∧ dItems d = some xs ∧ ∀ p, Q (.lab p) ⟨y1.l, y1.m ++ [⟨p, true, .lst (xs.map Z.d)⟩]⟩) : wE C (tListL C.K (tCons te tNil)) y Q := by
  intro F σ H K wd k
  refine w F σ H _ wd fun x H1 z y1 w1 g1 s1 r1 q1 => ?_
  obtain ⟨d, xs, rfl, hx, hq⟩ := q1
  obtain ⟨a, us, rfl, h1, h2⟩ := rp_items r1 hx
  refine ⟨a, us, rfl, h1.elim (fun z => .inl z.sq) (fun z => .inr z.sq), fun p hp => ?_⟩
  obtain ⟨w2, g2, s2⟩ := w1.cnew (o := .lst us) (c := .lst (xs.map Z.d)) (b := true) hp fun M g => ⟨us, upd_same, (RwA.of h2).go g⟩
  exact k _ _ (.lab p) _ w2 (g1.trans g2) (s1.trans s2) (.lab p) (hq p)
theorem xE_tupL (w : wE C te y fun z y1 => ∃ (p : Addr) (b : Bool) (j : Nat) (ds : List D), z = .lab p ∧ y1.m[j]? = some (⟨p, b, .lst (ds.map Z.d)⟩ : Cl) ∧ Q (.d (.tuple ds)) y1) : wE C (tTupL C.K (tCons te tNil)) y Q := by
  intro F σ H K wd k
  refine w F σ H _ wd fun x H1 z y1 w1 g1 s1 r1 q1 => ?_
  obtain ⟨p, b, j, ds, rfl, hj, hq⟩ := q1
  obtain ⟨rfl, xs, c1, c2⟩ := lab_lst w1 r1 hj
  refine ⟨p, xs, rfl, .inl ⟨.inl (.inl c1), fun l hl => ?_⟩⟩
  have gr := grow_upd (o := .tup xs) hl
  exact k _ _ (.d (.tuple ds)) y1 (w1.grow gr) (g1.trans (go_grow gr)) s1 (.tup (.inl ⟨w1.new hl, .inl upd_same⟩) (c2.ds.go (go_grow (F := F) (σ := σ) (y := y1) gr))) hq
theorem xE_slL (w : wE C te y fun z y1 => wO C tl y1 fun l y2 => wO C th y2 fun h y3 => ∃ (p : Addr) (b : Bool) (j : Nat) (ds : List D), z = .lab p ∧ y3.m[j]? = some (⟨p, b, .lst (ds.map Z.d)⟩ : Cl) ∧ Q (.d (.list (cutD ds l h))) y3) : wE C (tSl (rSlLab C.K) te tl th) y Q := by
  intro F σ H K wd k
  refine w F σ H _ wd fun x H1 z y1 w1 g1 s1 r1 q1 => ?_
  refine q1 F σ H1 _ w1 fun l H2 y2 w2 g2 s2 q2 => ?_
  refine q2 F σ H2 _ w2 fun h H3 y3 w3 g3 s3 q3 => ?_
  obtain ⟨p, b, j, ds, rfl, hj, hq⟩ := q3
  have r3 : Rz C F σ y3 H3 x (.lab p) := Rz.go (g2.trans g3) r1
  obtain ⟨rfl, xs, c1, c2⟩ := lab_lst w3 r3 hj
  refine .inl ⟨p, xs, rfl, .inl (.inl c1), fun q hp => ?_⟩
  have gr := grow_upd (o := .lst (cutV xs l h)) hp
  exact k _ _ (.d (.list (cutD ds l h))) y3 (w3.grow gr) (((g1.trans g2).trans g3).trans (go_grow gr)) ((s1.trans s2).trans s3) (.lst (.inl ⟨w3.new hp, .inl upd_same⟩) ((rpA_cut c2.ds l h).go (go_grow (F := F) (σ := σ) (y := y3) gr))) hq
end
/-! ### draws with further arguments that hand out things that are new -/
def oaSp (K : Fg) (n : Nat) (pre : List D → Prop) (cost : Nat) (post : List D → Z → List (Addr × Cell) → Prop) : Sp := fun vs H Q _ => ∃ (M : Addr → Prop) (p : Addr) (m : Nat) (us : List V) (ds : List D), vs = .ref p :: us ∧ M p ∧ (∀ a, M a → H a ≠ none) ∧ PuOk H p m ∧ cost ≤ m ∧ RpA K M H us ds ∧ ds.length = n ∧ pre ds ∧
  ∀ z nw v H', post ds z nw → (∀ a o, a ≠ p → H a = some o → H' a = some o) → PuOk H' p (m - cost) → (∀ e ∈ nw, H e.1 = none) → (nw.Pairwise fun e e' => e.1 ≠ e'.1) →
    (∀ e ∈ nw, CellOk K (fun a => M a ∨ ∃ e ∈ nw, e.1 = a) H' e.1 e.2) → Rw K (fun a => M a ∨ ∃ e ∈ nw, e.1 = a) H' v z → Q v H'
theorem oa_call {C : Ct} {F : Fr} {σ : St} {y : S} {H H' : Hp} {p : Addr} {b : Bool} {m0 k : Nat} {j : Nat} {nw : List (Addr × Cell)} (wd : Wd C F σ y H) (hj : y.m[j]? = some ⟨p, b, .pu m0⟩) (kp : ∀ a o, a ≠ p → H a = some o → H' a = some o) (pk : PuOk H' p k) (fr : ∀ e ∈ nw, H e.1 = none) (pw : nw.Pairwise fun e e' => e.1 ≠ e'.1)
    (cs : ∀ e ∈ nw, CellOk C.K (fun a => Mv F σ y a ∨ ∃ e ∈ nw, e.1 = a) H' e.1 e.2) : Wd C F σ ⟨y.l, y.m.set j ⟨p, b, .pu k⟩ ++ toCl true nw⟩ H' ∧ Go F σ y H σ ⟨y.l, y.m.set j ⟨p, b, .pu k⟩ ++ toCl true nw⟩ H' ∧ Sh y ⟨y.l, y.m.set j ⟨p, b, .pu k⟩ ++ toCl true nw⟩ ∧
      ∀ {v : V} {z : Z}, Rw C.K (fun a => Mv F σ y a ∨ ∃ e ∈ nw, e.1 = a) H' v z → Rw C.K (Mv F σ ⟨y.l, y.m.set j ⟨p, b, .pu k⟩ ++ toCl true nw⟩) H' v z := by
  have hmm : (⟨p, b, .pu m0⟩ : Cl) ∈ y.m := List.mem_of_getElem? hj
  have pd : DomW y.m p := ⟨_, hmm, rfl, rfl⟩
  have lvp : H' p ≠ none := by
    obtain ⟨x, b, c, e, _⟩ := pk
    rw [e]; simp
  have inset : ∀ e ∈ y.m.set j ⟨p, b, .pu k⟩, e.a = p → e = ⟨p, b, .pu k⟩ := fun e he hq => by
    obtain ⟨i', hi'⟩ := List.getElem?_of_mem he
    have pws := pw_set wd.dist hj (e' := ⟨p, b, .pu k⟩) rfl
    obtain ⟨hl, _⟩ := List.getElem?_eq_some_iff.mp hj
    have hjj : (y.m.set j ⟨p, b, .pu k⟩)[j]? = some ⟨p, b, .pu k⟩ := List.getElem?_set_self hl
    by_cases n : i' = j
    · subst n; rw [hjj] at hi'; cases hi'; rfl
    · exfalso
      rw [List.pairwise_iff_getElem] at pws
      obtain ⟨hi1, hi2⟩ := List.getElem?_eq_some_iff.mp hi'
      obtain ⟨hj1, hj2⟩ := List.getElem?_eq_some_iff.mp hjj
      rcases Nat.lt_or_gt_of_ne n with n | n
      · have := pws i' j hi1 hj1 n; rw [hi2, hj2] at this; exact this hq
      · have := pws j i' hj1 hi1 n; rw [hi2, hj2] at this; exact this hq.symm
  have old : ∀ e ∈ y.m.set j ⟨p, b, .pu k⟩, ∃ e0 ∈ y.m, e0.a = e.a ∧ (e.own = true → e0.own = true) ∧ (e.c.isRo = false → e0.c.isRo = false) := fun e he => by
    rcases mem_set_or he with he | he
    · subst he; exact ⟨_, hmm, rfl, fun z => z, fun _ => rfl⟩
    · exact ⟨e, he, rfl, fun z => z, fun z => z⟩
  have mvs : ∀ a, Mv F σ ⟨y.l, y.m.set j ⟨p, b, .pu k⟩ ++ toCl true nw⟩ a → Mv F σ y a ∨ ∃ e ∈ nw, e.1 = a := fun a z => by
    rcases z with z | ⟨e2, h2, h3⟩
    · exact .inl (.inl z)
    · rcases List.mem_append.mp h2 with h2 | h2
      · obtain ⟨e0, q1, q2, _⟩ := old e2 h2
        exact .inl (.inr ⟨e0, q1, q2.trans h3⟩)
      · obtain ⟨e3, h4, rfl⟩ := List.mem_map.mp h2
        exact .inr ⟨e3, h4, h3⟩
  have key := wd.store (m := y.m.set j ⟨p, b, .pu k⟩ ++ toCl true nw) (H' := H') (fun a o n e => kp a o (fun z => n (z ▸ pd)) e)
    (fun a ⟨e, h1, h2⟩ z => by
      by_cases ha : a = p
      · exact lvp (ha ▸ z)
      · cases r : H a with
        | none => exact (wd.cell e h1).live (h2 ▸ r)
        | some o => rw [kp a o ha r] at z; cases z)
    (fun e he => by
      rcases List.mem_append.mp he with he | he
      · exact .inl (old e he)
      · obtain ⟨e', h1, rfl⟩ := List.mem_map.mp he
        exact .inr (fr e' h1))
    (by
      rw [List.pairwise_append]
      refine ⟨pw_set wd.dist hj rfl, by unfold toCl; rw [List.pairwise_map]; exact pw, fun e he e2 he2 z => ?_⟩
      obtain ⟨e', h1', rfl⟩ := List.mem_map.mp he2
      obtain ⟨e0, q1, q2, _⟩ := old e he
      exact (wd.cell e0 q1).live (by rw [q2, z]; exact fr e' h1'))
    (fun g e he => by
      rcases List.mem_append.mp he with he | he
      · by_cases hq : e.a = p
        · rw [inset e he hq]; exact pk
        · rcases mem_set_or he with he | he
          · subst he; exact absurd rfl hq
          · exact (wd.cell e he).go g fun o r => kp _ _ hq r
      · obtain ⟨e', h1', rfl⟩ := List.mem_map.mp he
        exact (cs e' h1').go (fun a o n e => ⟨fun z => n (mvs a z), e⟩) fun _ r => r)
  refine ⟨key.1, key.2, ⟨rfl, toCl true nw, ?_⟩, fun rv => rv.go fun a o n e => ⟨fun z => n (mvs a z), e⟩⟩
  show ao (y.m.set j ⟨p, b, .pu k⟩ ++ toCl true nw) = ao y.m ++ ao (toCl true nw)
  unfold ao
  rw [List.map_append]
  congr 1
  apply List.ext_getElem?
  intro i'
  by_cases n : i' = j
  · subst n
    obtain ⟨hl, _⟩ := List.getElem?_eq_some_iff.mp hj
    rw [List.getElem?_map, List.getElem?_map, List.getElem?_set_self hl, hj]
    rfl
  · rw [List.getElem?_map, List.getElem?_map, List.getElem?_set_ne (Ne.symm n)]
theorem wE_oa {C : Ct} {y : S} {ts : TA} {E : XK} {Q : Z → S → Prop} {n : Nat} {pre : List D → Prop} {cost : Nat} {post : List D → Z → List (Addr × Cell) → Prop}
    (w : wZ C ts y fun zs y1 => ∃ (p : Addr) (ds : List D) (j : Nat) (b : Bool) (m0 : Nat), zs = .lab p :: ds.map Z.d ∧ y1.m[j]? = some (⟨p, b, .pu m0⟩ : Cl) ∧ cost ≤ m0 ∧ ds.length = n ∧ pre ds ∧ ∀ z nw, post ds z nw → Q z ⟨y1.l, y1.m.set j ⟨p, b, .pu (m0 - cost)⟩ ++ toCl true nw⟩) : wE C (tCall (oaSp C.K n pre cost post) [] E ts) y Q := by
  intro F σ H K wd k
  refine w F σ H _ wd fun vs H1 zs y1 w1 g1 s1 r1 ⟨p, ds, j, b, m0, e1, hj, hm, hn, hp, q⟩ => ?_
  subst e1
  cases r1 with | @cons v _ us _ ra rb =>
  cases ra
  have hmm : (⟨p, b, .pu m0⟩ : Cl) ∈ y1.m := List.mem_of_getElem? hj
  show oaSp C.K n pre cost post ((.ref p :: us) ++ []) H1 K E
  rw [List.append_nil]
  refine ⟨Mv F σ y1, p, m0, us, ds, rfl, .inr ⟨_, hmm, rfl⟩, fun a m e => w1.new e m, w1.cell _ hmm, hm, rb.ds, hn, hp, fun z nw v H' hz kp pk fr pw cs rv => ?_⟩
  obtain ⟨w2, g2, s2, rw2⟩ := oa_call w1 hj kp pk fr pw cs
  exact k v H' z _ w2 (g1.trans g2) (s1.trans s2) (Rw.z (rw2 rv)) (q z nw hz)
end Ux
namespace Ux
theorem Less.trans {a b c : S} (h : Less a b) (h' : Less b c) : Less a c := ⟨h.1.trans h'.1, fun i z e => h'.2.1 i z (h.2.1 i z e), h.2.2.trans h'.2.2⟩
end Ux

set_option maxRecDepth 100000
set_option maxHeartbeats 4000000
namespace Ux
open PySem PySem.Spec PyProof.Rows L2 Tq
/-! ### divmod -/
section
variable {C : Ct} {y : S} {ts : TA} {ta tb : TE} {Q : Z → S → Prop}
end
end Ux

set_option maxRecDepth 100000
set_option maxHeartbeats 4000000
namespace Ux
open PySem PySem.Spec PyProof.Rows L2 Tq
/-! ### a thing of the store lent as it is at present, to a test that changes nothing -/
section
variable {C : Ct} {y : S} {te : TE} {Q : Z → S → Prop}
end
end Ux

set_option maxRecDepth 100000
set_option maxHeartbeats 4000000
namespace Ux
open PySem PySem.Spec PyProof.Rows L2 Tq
/-! ### [e for a, b in .. if ..], plain things alone -/
def gNms : List Nat → TGs
  | [] => gNil
  | j :: js => gCons (gName j) (gNms js)
def setV : St → List Nat → List V → St
  | σ, j :: js, v :: vs => setV (σ.set j (some v)) js vs
  | σ, _, _ => σ
def setD : S → List Nat → List D → S
  | y, j :: js, d :: ds => setD (y.set j (some (.d d))) js ds
  | y, _, _ => y
def wipeL : List (Option Z) → List Nat → List (Option Z)
  | l, [] => l
  | l, v :: vs => (wipeL l vs).set v none
def plZ : Option Z → Option Z
  | some (.d d) => some (.d d)
  | _ => none
/-- the plain slots, some of them let go -/
def plY (y : S) (js : List Nat) : S := ⟨wipeL (y.l.map plZ) js, []⟩
theorem gNms_run : ∀ (js : List Nat) (vs : List V) (σ : St) (H : Hp) (Q : St → Hp → Prop), vs.length = js.length → Q (setV σ js vs) H → gNms js vs σ H Q
  | [], [], _, _, _, _, q => ⟨rfl, q⟩
  | j :: js, v :: vs, σ, H, Q, h, q => ⟨v, vs, rfl, gNms_run js vs _ H Q (by simpa using h) q⟩
theorem wipe_get : ∀ (ks : List Nat) (σ : St) (i : Nat), (wipe σ ks)[i]? = if i ∈ ks then (if i < σ.length then some none else none) else σ[i]?
  | [], σ, i => by simp [wipe]
  | k :: ks, σ, i => by
    show ((wipe σ ks).set k none)[i]? = _
    by_cases h : k = i
    · subst h
      rw [if_pos List.mem_cons_self, List.getElem?_set, if_pos rfl, wipe_length]
    · rw [List.getElem?_set_ne h, wipe_get ks σ i]
      by_cases hm : i ∈ ks
      · rw [if_pos hm, if_pos (List.mem_cons_of_mem _ hm)]
      · rw [if_neg hm, if_neg (fun z => (List.mem_cons.mp z).elim (fun z => h z.symm) hm)]
theorem wipeL_some : ∀ (ks : List Nat) {l : List (Option Z)} {i : Nat} {z : Z}, (wipeL l ks)[i]? = some (some z) → l[i]? = some (some z) ∧ i ∉ ks
  | [], _, _, _, h => ⟨h, by simp⟩
  | k :: ks, l, i, z, h => by
    have h : ((wipeL l ks).set k none)[i]? = some (some z) := h
    by_cases e : k = i
    · subst e
      rw [List.getElem?_set, if_pos rfl] at h
      split at h <;> simp at h
    · rw [List.getElem?_set_ne e] at h
      obtain ⟨h1, h2⟩ := wipeL_some ks h
      exact ⟨h1, fun z => (List.mem_cons.mp z).elim (fun z => e z.symm) h2⟩
theorem wipeL_len : ∀ (ks : List Nat) (l : List (Option Z)), (wipeL l ks).length = l.length
  | [], _ => rfl
  | k :: ks, l => by
    show ((wipeL l ks).set k none).length = _
    rw [List.length_set, wipeL_len ks l]
theorem wipe_set {σ : St} {j : Nat} {x : Option V} {ks : List Nat} (h : j ∈ ks) : wipe (σ.set j x) ks = wipe σ ks := by
  apply List.ext_getElem?
  intro i
  rw [wipe_get, wipe_get, List.length_set]
  by_cases hi : i ∈ ks
  · rw [if_pos hi, if_pos hi]
  · rw [if_neg hi, if_neg hi, List.getElem?_set_ne (fun z => hi (by rw [← z]; exact h))]
theorem wipe_wipe {σ : St} {ks : List Nat} : wipe (wipe σ ks) ks = wipe σ ks := by
  apply List.ext_getElem?
  intro i
  rw [wipe_get, wipe_length, wipe_get]
  by_cases hi : i ∈ ks
  · rw [if_pos hi, if_pos hi]
  · rw [if_neg hi, if_neg hi]
theorem wipe_setV {ks : List Nat} : ∀ (js : List Nat) (vs : List V) (σ : St), (∀ j ∈ js, j ∈ ks) → wipe (setV σ js vs) ks = wipe σ ks
  | [], _, _, _ => rfl
  | _ :: _, [], _, _ => rfl
  | j :: js, v :: vs, σ, h => (wipe_setV js vs _ fun x hx => h x (List.mem_cons_of_mem _ hx)).trans (wipe_set (h j List.mem_cons_self))
theorem Wd0.setD {K : Fg} {F : Fr} {H : Hp} : ∀ (js : List Nat) {vs : List V} {ds : List D} {σ : St} {y : S}, Wd0 K F σ y H → RpA K (Mv F σ y) H vs ds → Wd0 K F (setV σ js vs) (setD y js ds) H
  | [], _, _, _, _, w, _ => w
  | _ :: _, [], [], _, _, w, _ => w
  | j :: js, v :: vs, d :: ds, σ, y, w, r => by
    cases r with
    | cons a b => exact Wd0.setD js (w.set_z (.d a)) b
def frL (F : Fr) (σ : St) (y : S) (H : Hp) (l : Addr) : Fr := ⟨H, fun _ => False, fun a => Mv F σ y a ∨ a = l, F.st⟩
theorem Wd0.lentL {K : Fg} {F : Fr} {σ : St} {y : S} {H H2 : Hp} {l : Addr} {ks : List Nat} (w : Wd0 K F σ y H) (hl : H l = none) (gr : ∀ a o, H a = some o → H2 a = some o) (hl2 : H2 l ≠ none) : Wd0 K (frL F σ y H2 l) (wipe σ ks) (plY y ks) H2 := by
  have lv : ∀ a, (Mv F σ y a ∨ a = l) → H2 a ≠ none := fun a m => by
    rcases m with m | rfl
    · cases e : H a with
      | none => exact absurd m (w.new e)
      | some o => rw [gr a o e]; simp
    · exact hl2
  refine ⟨fun a o _ e => e, lv, lv, ?_, fun i z e => ?_, fun e he => (by cases he), List.Pairwise.nil, fun e he => (by cases he), fun a z => z.elim, fun _ e he => (by cases he)⟩
  · show (wipe σ ks).length = (wipeL (y.l.map plZ) ks).length
    rw [wipe_length, wipeL_len, List.length_map]; exact w.len
  · obtain ⟨h1, h2⟩ := wipeL_some ks (show (wipeL (y.l.map plZ) ks)[i]? = some (some z) from e)
    rw [List.getElem?_map] at h1
    obtain ⟨u, hu, rfl⟩ : ∃ u, y.l[i]? = some (some (.d u)) ∧ z = .d u := by
      cases q : y.l[i]? with
      | none => rw [q] at h1; cases h1
      | some o =>
        rw [q] at h1
        have h1 : plZ o = some z := Option.some.inj h1
        cases o with
        | none => cases h1
        | some x =>
          cases x with
          | d d => cases h1; exact ⟨d, rfl, rfl⟩
          | _ => cases h1
    obtain ⟨x, h3, h4⟩ := w.slot i _ hu
    refine ⟨x, by rw [wipe_get, if_neg h2]; exact h3, ?_⟩
    cases h4 with
    | d h4 => exact .d (h4.go fun a o n e => ⟨fun z => z.elim (fun z => z.elim n fun z => by subst z; rw [hl] at e; cases e) fun ⟨_, h, _⟩ => (by cases h), gr a o e⟩)
end Ux

set_option maxRecDepth 100000
set_option maxHeartbeats 4000000
namespace Ux
open PySem PySem.Spec PyProof.Rows L2 Tq
section
variable {C : Ct} {y : S} {te : TE} {Q : Z → S → Prop}
end
end Ux

set_option maxRecDepth 100000
set_option maxHeartbeats 4000000
namespace Ux
open PySem PySem.Spec PyProof.Rows L2 Tq
section
variable {K : Fg} {M : Addr → Prop} {H : Hp}
theorem RwA.rev : ∀ {vs : List V} {zs : List Z}, RwA K M H vs zs → RwA K M H vs.reverse zs.reverse
  | [], [], .nil => .nil
  | _ :: _, _ :: _, .cons h t => by
    rw [List.reverse_cons, List.reverse_cons]
    exact (RwA.rev t).app (.cons h .nil)
end
section
variable {C : Ct} {y : S} {e : En}
/-- x.reverse() -/
theorem wS_rev {i j : Nat} {a : Addr} {b : Bool} {zs : List Z} (hi : y.l[i]? = some (some (.lab a))) (hj : y.m[j]? = some ⟨a, b, .lst zs⟩) (q : e.nx ⟨y.l, y.m.set j ⟨a, b, .lst zs.reverse⟩⟩) :
    wS C (tDrop (tBM0 C.K "list" rReverse (tVar i))) y e := by
  intro F σ H E st wd k
  obtain ⟨x, h1, h2⟩ := wd.slot i _ hi
  cases h2
  obtain ⟨xs, c1, c2⟩ := (wd.cell _ (List.mem_of_getElem? hj) : CellOk C.K (Mv F σ y) H a (.lst zs))
  refine ⟨.ref a, h1, Or.inl ⟨rfl, xs, .inl (.inl c1)⟩, a, xs, rfl, rfl, c1, ?_⟩
  obtain ⟨w2, g2, s2⟩ := wd.cmut (H' := upd H a (.lst xs.reverse)) (c' := .lst zs.reverse) hj rfl rfl (fun b o n e => by rw [upd_ne n]; exact e) fun M _ g => ⟨xs.reverse, upd_same, (c2.go g).rev⟩
  exact k.nx _ _ _ w2 g2 q
end
end Ux

set_option maxRecDepth 100000
set_option maxHeartbeats 4000000
namespace Ux
open PySem PySem.Spec PyProof.Rows L2 Tq
/-! ### a thing lent to a test, the plain slots told too -/
/-! ### x.pop() -/
/-! ### x[n].append(e) -/
theorem iteT_join {c : Bool} {C : Ct} {tt : TT} {tx tz : TS} {y : S} {e : En} (P : S → Prop) (h1 : c = true → wT C tt y fun b y1 => if b = true then wS C tx y1 { nx := P, rt := fun _ _ => False } else P y1) (h2 : c = false → P y) (h : ∀ y, P y → wS C tz y e) :
    if c = true then wT C tt y (fun b y1 => if b = true then wS C tx y1 { nx := fun y2 => wS C tz y2 e, rt := e.rt, bk := e.bk, ct := e.ct } else wS C tz y1 e) else (if false = true then wS C tx y { nx := fun y2 => wS C tz y2 e, rt := e.rt, bk := e.bk, ct := e.ct } else wS C tz y e) := by
  cases c with
  | true =>
    refine itb_t rfl (wT_mono (h1 rfl) fun b y1 q => ?_)
    cases b with
    | true => exact itb_t rfl (wS_mono (show wS C tx y1 _ from q) (fun y hy => h y hy) (fun _ _ z => z.elim) (fun _ z => z.elim) (fun _ z => z.elim))
    | false => exact itb_f rfl (h y1 q)
  | false => exact itb_f rfl (itb_f rfl (h y (h2 rfl)))
/-! ### repr of a tuple, a list, with labels in it -/
inductive ResT (m : List Cl) : Z → D → Prop
  | r {z : Z} {d : D} : Res m z d → ResT m z d
  | tup {zs : List Z} {ds : List D} : ResA m zs ds → ResT m (.tup zs) (.tuple ds)
  | lst {zs : List Z} {ds : List D} : ResA m zs ds → ResT m (.lst zs) (.list ds)
theorem ResT.rp {K : Fg} {F : Fr} {σ : St} {y : S} {H : Hp} {v : V} {z : Z} {d : D} (w : Wd0 K F σ y H) (h : ResT y.m z d) (r : Rw K (Mv F σ y) H v z) : Rp K (MvX F σ y) H v d := by
  have g : GoH (Mv F σ y) H (MvX F σ y) H := fun a o n e => ⟨fun z => n z.1, e⟩
  cases h with
  | r h => exact Res.rp w h r
  | tup h =>
    cases r with
    | tup h1 h2 => exact .tup (h1.go g) (ResA.rp w h h2)
  | lst h =>
    cases r with
    | lst h1 h2 => exact .lst (h1.go g) (ResA.rp w h h2)
end Ux

set_option maxRecDepth 100000
set_option maxHeartbeats 4000000
namespace Ux
open PySem PySem.Spec PyProof.Rows L2 Tq
/-! ### tuples with labels in them handed to defs over data; tuples told by them -/
mutual
def scT : D → Bool
  | .tuple ds => scTs ds
  | .list _ | .dict _ => false
  | _ => true
def scTs : List D → Bool
  | [] => true
  | d :: ds => scT d && scTs ds
end
inductive ResTA (m : List Cl) : List Z → List D → Prop
  | nil : ResTA m [] []
  | cons {z : Z} {d : D} {zs : List Z} {ds : List D} : ResT m z d → ResTA m zs ds → ResTA m (z :: zs) (d :: ds)
theorem ResTA.rp {K : Fg} {F : Fr} {σ : St} {y : S} {H : Hp} (w : Wd0 K F σ y H) : ∀ {vs : List V} {zs : List Z} {ds : List D}, ResTA y.m zs ds → RwA K (Mv F σ y) H vs zs → RpA K (MvX F σ y) H vs ds
  | _, _, _, .nil, .nil => .nil
  | _, _, _, .cons a b, .cons c d => .cons (a.rp w c) (b.rp w d)
theorem cell_notup {K : Fg} {M : Addr → Prop} {H : Hp} {a : Addr} {c : Cell} (h : CellOk K M H a c) (xs : List V) : ¬ Rd H a (.tup xs) := by
  induction c with
  | lst zs => obtain ⟨us, h1, _⟩ := h; rintro (q | ⟨o, q⟩) <;> (rw [h1] at q; cases q)
  | dic kvs => obtain ⟨us, h1, _⟩ := h; rintro (q | ⟨o, q⟩) <;> (rw [h1] at q; cases q)
  | ins _ _ _ => obtain ⟨_, us, h1, _⟩ := h; rintro (q | ⟨o, q⟩) <;> (rw [h1] at q; cases q)
  | pu n => obtain ⟨_, _, _, h1, _⟩ := h; rintro (q | ⟨o, q⟩) <;> (rw [h1] at q; cases q)
  | ro _ ih => exact ih h
mutual
theorem sct_rp {K : Fg} {F : Fr} {σ : St} {y : S} {H : Hp} (w : Wd0 K F σ y H) : ∀ {v : V} {d : D}, scT d = true → Rp K (MvX F σ y) H v d → Rp K (Mv F σ y) H v d
  | _, _, _, .non => .non
  | _, _, _, .bl b => .bl b
  | _, _, _, .int b => .int b
  | _, _, _, .str b => .str b
  | _, _, h, .lst _ _ => by cases h
  | _, _, h, .dic _ _ _ => by cases h
  | _, _, h, .tup h1 h2 => by
    refine .tup (h1.elim (fun q => .inl ⟨fun hm => q.1 ⟨hm, fun ⟨e, he, ea⟩ => ?_⟩, q.2⟩) .inr) (sct_rpA w h h2)
    subst ea
    exact cell_notup (w.cell e he) _ q.2
theorem sct_rpA {K : Fg} {F : Fr} {σ : St} {y : S} {H : Hp} (w : Wd0 K F σ y H) : ∀ {vs : List V} {ds : List D}, scTs ds = true → RpA K (MvX F σ y) H vs ds → RpA K (Mv F σ y) H vs ds
  | _, _, _, .nil => .nil
  | _, _, h, .cons a b => by
    have h := h
    rw [scTs, Bool.and_eq_true] at h
    exact .cons (sct_rp w h.1 a) (sct_rpA w h.2 b)
end
section
variable {X : Cx} {k : Nat} {x : Str} {ps : List Str} {sp : Sp} {p pos : Pos} {e : Expr} {es : List Expr} {t : TA}
end
section
variable {C : Ct} {y : S} {ts : TA} {te ta tb : TE} {Q : Z → S → Prop} {E : XK} {n : Nat} {pre : List D → Prop} {post : List D → D → Prop}
theorem wE_opT {r : R2} {res : D → D → D → Prop} (h : OpD C.K r res) (w : wE C ta y fun z y1 => wE C tb y1 fun z' y2 => ∃ d e g, ResT y2.m z d ∧ ResT y2.m z' e ∧ res d e g ∧ scD g = true ∧ Q (.d g) y2) : wE C (tOp r ta tb) y Q := by
  intro F σ H K wd k
  refine w F σ H _ wd fun x H1 z y1 w1 g1 s1 r1 q1 => ?_
  refine q1 F σ H1 _ w1 fun x2 H2 z' y2 w2 g2 s2 r2 q2 => ?_
  obtain ⟨d, e, g, hz, hz', hres, hsc, hq⟩ := q2
  refine h (MvX F σ y2) H2 x x2 d e g K (fun a q m => w2.new q m.1) (hz.rp w2.toWd0 (r1.w.go g2)) (hz'.rp w2.toWd0 r2.w) hres fun v H3 gr rv => ?_
  exact k v H3 (.d g) y2 (w2.grow gr) ((g1.trans g2).trans (go_grow gr)) (s1.trans s2) (sc_rp hsc rv) hq
end
/-! ### a list of our own, read by places -/
def rIxL (K : Fg) : R2 := rIx K
theorem ixLK {X : Cx} (K : Fg) (h : X.K = K := by rfl) : IxR X (rIxL K) := ixK K h
theorem wE_ixL {C : Ct} {y : S} {ta tb : TE} {Q : Z → S → Prop} (w : wE C ta y fun z y1 => wE C tb y1 fun z' y2 => ∃ (p : Addr) (b : Bool) (j : Nat) (zs : List Z) (i : Int) (u : Z), z = .lab p ∧ y2.m[j]? = some ⟨p, b, .lst zs⟩ ∧ z' = .d (.int i) ∧ atI zs i = some u ∧ Q u y2) : wE C (tOp (rIxL C.K) ta tb) y Q := by
  intro F σ H K wd k
  refine w F σ H _ wd fun x H1 z y1 w1 g1 s1 r1 q1 => ?_
  refine q1 F σ H1 _ w1 fun x2 H2 z' y2 w2 g2 s2 r2 q2 => ?_
  obtain ⟨p, b, j, zs, i, u, rfl, hj, rfl, hi, hq⟩ := q2
  have ey := rp_int r2
  cases r1.w with
  | lab a =>
    obtain ⟨us, c1, c2⟩ := (w2.cell _ (List.mem_of_getElem? hj) : CellOk C.K (Mv F σ y2) H2 p (.lst zs))
    obtain ⟨v, e, rv⟩ := atI_rw c2 hi
    exact .inl ⟨_, _, i, v, rfl, ey, .inl (.inl c1), e, k _ H2 u y2 w2 (g1.trans g2) (s1.trans s2) rv.z hq⟩
end Ux

set_option maxRecDepth 100000
set_option maxHeartbeats 4000000
namespace Tq
open PySem PySem.Spec PyProof.Rows L2
open PySem.Builtin.Str (occurrences subAt strSub)
/-! ### texts taken apart at a sign -/
section
variable {C : Ct} {y : S} {ta tb : TE} {Q : Z → S → Prop}
end
/-! ### what the parts are -/
end Tq

set_option maxRecDepth 100000
set_option maxHeartbeats 4000000
namespace Ux
open PySem PySem.Spec PyProof.Rows L2 Tq
section
variable {C : Ct} {y : S} {ta tb : TE} {Q : Z → S → Prop}
end
section
variable {C : Ct} {y : S} {ta tb : TE} {Q : Z → S → Prop}
end
end Ux

set_option maxRecDepth 100000
set_option maxHeartbeats 4000000
namespace Tq
open PySem PySem.Spec PyProof.Rows L2
/-! ### fractions shown -/
end Tq

set_option maxRecDepth 100000
set_option maxHeartbeats 4000000
namespace Ux
open PySem PySem.Spec PyProof.Rows L2 Tq
/-! ### things that may grow by a 9 -/
abbrev nin (k : Nat) : List D := List.replicate k (.int 9)
def shXB (d : D) : Bool := sw2 d && decide (d.depth ≤ 60) && decide (d.shown.length ≤ sizeLine)
theorem shXB_ok {d : D} (h : shXB d = true) : ShX d := by
  unfold shXB at h
  rw [Bool.and_eq_true, Bool.and_eq_true] at h
  exact ⟨h.1.1, of_decide_eq_true h.1.2, of_decide_eq_true h.2⟩
def sh3 (d : D) : Prop := ShX d ∧ ShX (.tuple [.str "fraction", d]) ∧ ShX (.tuple [.str "number", d])
theorem sh3_ok {d : D} (h : (shXB d && shXB (.tuple [.str "fraction", d]) && shXB (.tuple [.str "number", d])) = true) : sh3 d := by
  rw [Bool.and_eq_true, Bool.and_eq_true] at h
  exact ⟨shXB_ok h.1.1, shXB_ok h.1.2, shXB_ok h.2⟩
inductive OV (k : Nat) : Z → List Cl → D → Prop
  | pl (d : D) (h1 : isT "list" d = false) (h2 : sh3 d) : OV k (.d d) [] d
  | ls (a : Addr) (ds : List D) (h : ∀ j ≤ 1, sh3 (.list (ds ++ nin j))) (h4 : ds.length ≤ 10) : OV k (.lab a) [⟨a, true, .lst ((ds ++ nin k).map Z.d)⟩] (.list (ds ++ nin k))
  | dc (a : Addr) : OV k (.lab a) [⟨a, true, .dic []⟩] (.dict [])
theorem sh3_dict0 : sh3 (.dict []) := sh3_ok (by decide +kernel)
theorem OV.sh {k : Nat} {z : Z} {m : List Cl} {d : D} (h : OV k z m d) (hk : k ≤ 1) : sh3 d := by
  cases h with
  | pl _ h1 h2 => exact h2
  | ls _ _ h _ => exact h k hk
  | dc _ => exact sh3_dict0
theorem OV.res {k : Nat} {z : Z} {m n : List Cl} {d : D} (h : OV k z m d) (hs : m ⊆ n) : Res n z d := by
  cases h with
  | pl _ h1 h2 => exact .d _
  | ls a ds _ _ => exact .lab (e := ⟨a, true, .lst ((ds ++ nin k).map Z.d)⟩) (hs List.mem_cons_self) (.lst _)
  | dc a => exact .lab (e := ⟨a, true, .dic []⟩) (hs List.mem_cons_self) (.dic [])
/-! ### x != y, labels in both -/
def rNeT (K : Fg) : R2 := rNeD K
theorem neTK {X : Cx} (K : Fg) (hu : X.A.units + 64 < cLine) (h : X.K = K := by rfl) : OpR X (compareOp .NotEq) (rNeT K) := neK K hu h
theorem wE_neT {C : Ct} {y : S} {ta tb : TE} {Q : Z → S → Prop} (w : wE C ta y fun z y1 => wE C tb y1 fun z' y2 => ∃ d e, ResT y2.m z d ∧ ResT y2.m z' e ∧ SeqAt.shaped d = true ∧ SeqAt.shaped e = true ∧ Q (.d (.bool (!PyData.eqv d e))) y2) : wE C (tOp (rNeT C.K) ta tb) y Q := by
  refine wE_opT (res := fun d e r => SeqAt.shaped d = true ∧ SeqAt.shaped e = true ∧ r = .bool (!PyData.eqv d e)) ?_ (wE_mono w fun z y1 h => wE_mono h fun z' y2 ⟨d, e, e1, e2, s1, s2, q⟩ => ⟨_, _, _, e1, e2, ⟨s1, s2, rfl⟩, rfl, q⟩)
  rintro M H x y d e r Q _ rx ry ⟨s1, s2, rfl⟩ k
  exact ⟨d, e, rx.dp (canLay_noDict s1), ry.dp (canLay_noDict s2), s1, s2, k _ H (fun _ _ e => e) (.bl _)⟩
end Ux
namespace Ux
open PySem PySem.Spec PyProof.Rows L2 Tq
theorem eqv_same {d : D} (h : SeqAt.shaped d = true) : PyData.eqv d d = true := PySem.SeqAt.eqv_refl _ (SeqAt.canLay_of_shaped h)
theorem cutD_takeN {α : Type} (xs : List α) (j : Nat) : Tq.cutD xs none (some (j : Int)) = xs.take j := by
  unfold Tq.cutD
  have h1 : HT.sIx xs.length 0 none = 0 := rfl
  rw [h1, HT.sIx_nat, List.drop_zero, Nat.sub_zero]
  by_cases h : j ≤ xs.length
  · rw [Nat.min_eq_left h]
  · rw [Nat.min_eq_right (by omega), List.take_length, List.take_of_length_le (by omega)]
end Ux

set_option maxRecDepth 100000
set_option maxHeartbeats 4000000
/-! own objects without fields, or that never change: made, their methods called -/
namespace Ux
open PySem PySem.Spec PyProof.Rows L2 Tq
/-- what a class without __init__ must have to be made -/
structure Mk0 (K : Fg) (C : Addr) : Prop where
  makes : PySem.W.makesIn K C = true
  init : PySem.W.findIn K (.ref C) "__init__" = some (some (.builtin "object.__init__"))
  po : PySem.W.plainOver K C = true
  kp : PySem.W.keepIn K (.ref C) = true
def tMk0 (C : Addr) : TE := fun σ H Q => ∀ x dx, H x = none → H dx = none → dx ≠ x → Q (.ref x) (upd (upd H dx (.own x)) x (.ins C dx []))
/-! ### methods, by the class that an object has -/
structure VMeth (P : Program) (w : World) (K : Fg) (mg : Str → Option Value) (base : Heap) (CX : CXT) (k : Nat) (m : Str) (C : Addr) (sp : Sp) : Prop where
  cls : Cls K C
  ex : ∃ (f : Addr) (fd : FuncData) (ps : List Str), Meth K C m f ∧ FnG P w K mg base CX k f fd ps sp ∧ Binds K fd ps []
def VTab (P : Program) (w : World) (K : Fg) (mg : Str → Option Value) (base : Heap) (CX : CXT) (k : Nat) (m : Str) (tab : List (Addr × Sp)) : Prop := ∀ e ∈ tab, VMeth P w K mg base CX k m e.1 e.2
theorem VTab.nil {P : Program} {w : World} {K : Fg} {mg : Str → Option Value} {base : Heap} {CX : CXT} {k : Nat} {m : Str} : VTab P w K mg base CX k m [] := fun _ h => nomatch h
theorem VTab.cons {P : Program} {w : World} {K : Fg} {mg : Str → Option Value} {base : Heap} {CX : CXT} {k : Nat} {m : Str} {C : Addr} {sp : Sp} {tab : List (Addr × Sp)} (a : VMeth P w K mg base CX k m C sp) (b : VTab P w K mg base CX k m tab) : VTab P w K mg base CX k m ((C, sp) :: tab) := fun e h => by
  rcases List.mem_cons.mp h with rfl | h
  · exact a
  · exact b e h
/-- a def of a class, as the top has it -/
structure MFn (K : Fg) (x qual : Str) (st : Stmt) (ps : List Str) (f : Addr) : Prop where
  ex : ∃ fd : FuncData, Fun K x qual st f fd ∧ Binds K fd ps []
structure MCal (P : Program) (w : World) (K : Fg) (mg : Str → Option Value) (base : Heap) (CX : CXT) (k : Nat) (ps : List Str) (sp : Sp) (f : Addr) : Prop where
  ex : ∃ fd : FuncData, FnG P w K mg base CX k f fd ps sp ∧ Binds K fd ps []
section
variable {P : Program} {w : World} {K : Fg} {mg : Str → Option Value} {base : Heap} {CX : CXT} {j k : Nat} {x qual : Str} {ps N : List Str} {sp : Sp} {st : Stmt} {C f : Addr}
theorem VMeth.of (c : Cls K C) (m : Meth K C x f) (F : MCal P w K mg base CX j ps sp f) (h : j ≤ k) : VMeth P w K mg base CX k x C sp :=
  let ⟨fd, h1, h2⟩ := F.ex
  ⟨c, f, fd, ps, m, h1.mono h, h2⟩
theorem MFn.ok (d : MFn K x qual st ps f) (Sc : FnScope N ps (defScope st)) (len : ∀ vs H Q E, sp vs H Q E → vs.length = ps.length)
    (hbody : ∀ (cdv : Value) (A : Around) (outer : List Env) (s : Shared) (H : Hp) (vs : List V) (Q : VK) (E : XK), Room k (A.deeper (envOfC qual (defScope st) s.heap.objs.size f cdv)) →
      (A.deeper (envOfC qual (defScope st) s.heap.objs.size f cdv)).guards = some [] → sp vs H Q E →
      ∃ t, PSs (cxOf CX0 P w K mg base N qual (defScope st) f cdv A outer s H E).nox (defBody st) t ∧ t { nx := fun _ G => Q .non G, rt := Q } (start N vs) H) : MCal P w K mg base CX0 (k + 1) ps sp f := by
  obtain ⟨fd, F, hb⟩ := d.ex
  exact ⟨fd, okG F Sc len hbody, hb⟩
theorem MFn.okX (d : MFn K x qual st ps f) (Sc : FnScope N ps (defScope st)) (len : ∀ vs H Q E, sp vs H Q E → vs.length = ps.length)
    (hbody : ∀ (cdv : Value) (A : Around) (outer : List Env) (s : Shared) (H : Hp) (vs : List V) (Q : VK) (E : XK), Room k (A.deeper (envOfC qual (defScope st) s.heap.objs.size f cdv)) →
      (A.deeper (envOfC qual (defScope st) s.heap.objs.size f cdv)).guards = some [] → sp vs H Q E →
      ∃ t, PSs (cxOf (L2.CX P w) P w K mg base N qual (defScope st) f cdv A outer s H E) (defBody st) t ∧ t { nx := fun _ G => Q .non G, rt := Q } (start N vs) H) : MCal P w K mg base (L2.CX P w) (k + 1) ps sp f := by
  obtain ⟨fd, F, hb⟩ := d.ex
  obtain ⟨oc, od, kV, doc, pm, an, cdv, ct, osl, rfl, lk, hcd⟩ := F.ex
  exact ⟨_, Tq.fn_ofG lk hcd Sc len fun A outer s H vs Q E hr hgu hsp => hbody cdv A outer s H vs Q E hr hgu hsp, hb⟩
end
theorem mfn_mk {K : Fg} {h : Heap} {x qual : Str} {st : Stmt} {ps : List Str} {f : Addr} {od an : Option Addr} {sl : Array (Option Value)} {oc kV dc pm cd ct : Value} (X : K.In h)
    (hb : ∀ (kV dc pm : Value) (an : Option Addr) (cd ct : Value) (us : List Value), us.length = ps.length → bindArgs (PySem.W.fnOf x qual (defArgs st) (defBody st) (defScope st) .none kV dc pm an cd ct) ⟨us, []⟩ = pure (ps.zip us))
    (l : K.lookup f = some ⟨oc, od, .func (PySem.W.fnOf x qual (defArgs st) (defBody st) (defScope st) .none kV dc pm an cd ct), sl⟩) (c : PySem.W.codeIn K cd qual = true) (k : PySem.W.keepIn K (.ref f) = true) : MFn K x qual st ps f :=
  ⟨_, fun_mk l c k, (fun_mk l c k).binds hb⟩
/-- the n-th def of a class -/
def clsFnN (n : Nat) : Stmt → Stmt
  | .ClassDef _ _ _ b _ _ _ _ _ _ _ => b.getD n (.Pass ⟨0, 0, 0, 0⟩)
  | s => s
def tMethU (tab : List (Addr × Sp)) (m : Str) (E : XK) (ta : TE) (t : TA) : TE := fun σ H Q => ta σ H fun x H1 => ∃ a C dx fs sp, x = .ref a ∧ H1 a = some (.ins C dx fs) ∧ fs.lookup m = none ∧ (C, sp) ∈ tab ∧ t σ H1 fun vs H2 => sp (x :: vs) H2 Q E
section
variable {X : Cx} {o e : Expr} {es : List Expr} {ta : TE} {t : TA} {k : Nat} {m : Str} {tab : List (Addr × Sp)} {p pos apos : Pos}
end
/-! ### objects as values -/
section
variable {C : Ct} {y : S} {te : TE} {ts : TA} {Q : Z → S → Prop}
theorem wE_mk0 {D : Addr} (q : Q (.ob D [] []) y) : wE C (tMk0 D) y Q := by
  intro F σ H K wd k x dx hx hdx ne
  have gr : ∀ a u, H a = some u → upd (upd H dx (.own x)) x (.ins D dx []) a = some u := fun a u e => by
    rw [upd_ne (ne_of_none e hx), upd_ne (ne_of_none e hdx)]; exact e
  exact k _ _ (.ob D [] []) y (wd.grow gr) (go_grow gr) (Sh.refl y) (.ob (xs := []) (wd.new hx) upd_same rfl .nil) q
end
/-- a def of an object without fields and of data: reads alone, raises nothing -/
def obSp {ι : Type} (K : Fg) (cl : ι → Addr) (n : Nat) (pre : ι → List D → Prop) (post : ι → List D → D → Prop) : Sp := fun vs H Q _ => ∃ (i : ι) (M : Addr → Prop) (v : V) (us : List V) (ds : List D), vs = v :: us ∧ (∀ a, M a → H a ≠ none) ∧ Rw K M H v (.ob (cl i) [] []) ∧ RpA K M H us ds ∧ ds.length = n ∧ pre i ds ∧
  ∀ d v' H', post i ds d → (∀ a o, H a = some o → H' a = some o) → Rp K M H' v' d → Q v' H'
abbrev odSp {ι : Type} (K : Fg) (cl : ι → Addr) (n : Nat) (pre : ι → List D → Prop) (f : ι → List D → D) : Sp := obSp K cl n pre fun i ds d => d = f i ds
section
variable {ι : Type} {cl : ι → Addr} {C : Ct} {y : S} {te : TE} {ts : TA} {E : XK} {Q : Z → S → Prop} {n : Nat} {pre : ι → List D → Prop} {post : ι → List D → D → Prop}
theorem ob_call {F : Fr} {σ : St} {y1 : S} {H1 : Hp} {K : VK} {v : V} {us : List V} {zs : List Z} {ds : List D} {i : ι} (wd : Wd C F σ y1 H1) (rv : Rw C.K (Mv F σ y1) H1 v (.ob (cl i) [] [])) (r : RwA C.K (Mv F σ y1) H1 us zs) (hr : ResTA y1.m zs ds) (hn : ds.length = n) (hp : pre i ds)
    (q : ∀ d v' H2, post i ds d → (∀ a o, H1 a = some o → H2 a = some o) → Rp C.K (MvX F σ y1) H2 v' d → K v' H2) : obSp C.K cl n pre post (v :: us) H1 K E :=
  ⟨i, MvX F σ y1, v, us, ds, rfl, fun a m e => wd.new e m.1, rv.go fun a o n e => ⟨fun z => n z.1, e⟩, hr.rp wd.toWd0 r, hn, hp, q⟩
/-- f(an object, ..) -/
theorem wE_ob (w : wZ C ts y fun zs y1 => ∃ i zs' ds, zs = .ob (cl i) [] [] :: zs' ∧ ResTA y1.m zs' ds ∧ (ds.length = n ∧ pre i ds) ∧ ∀ d, post i ds d → scT d = true ∧ Q (.d d) y1) : wE C (tCall (obSp C.K cl n pre post) [] E ts) y Q := by
  intro F σ H K wd k
  refine w F σ H _ wd fun vs H1 zs y1 w1 g1 s1 r1 ⟨i, zs', ds, ez, hr, ⟨hn, hp⟩, q⟩ => ?_
  subst ez
  cases r1 with | @cons v _ us _ rv r2 =>
  show obSp C.K cl n pre post ((v :: us) ++ []) H1 K E
  rw [List.append_nil]
  refine ob_call w1 rv r2 hr hn hp fun d v' H2 hd gr rv' => ?_
  have w2 := w1.grow gr
  exact k v' H2 (.d d) y1 w2 (g1.trans (go_grow gr)) s1 (sct_rp w2.toWd0 (q d hd).1 rv') (q d hd).2
theorem wE_od {f : ι → List D → D} (w : wZ C ts y fun zs y1 => ∃ i zs' ds, zs = .ob (cl i) [] [] :: zs' ∧ ResTA y1.m zs' ds ∧ (ds.length = n ∧ pre i ds) ∧ scT (f i ds) = true ∧ Q (.d (f i ds)) y1) : wE C (tCall (odSp C.K cl n pre f) [] E ts) y Q :=
  wE_ob (wZ_mono w fun zs y1 ⟨i, zs', ds, e, hr, hp, h1, h2⟩ => ⟨i, zs', ds, e, hr, hp, fun d hd => by subst hd; exact ⟨h1, h2⟩⟩)
end
section
variable {C : Ct} {y : S} {te : TE} {ts : TA} {E : XK} {Q : Z → S → Prop}
/-- a def of a class without fields, of data -/
abbrev omSp (K : Fg) (n : Nat) (pre : List D → Prop) (f : List D → D) : Sp := odSp (ι := Addr) K id n (fun _ => pre) fun _ => f
/-- o.m(..) -/
theorem wE_meth {tab : List (Addr × Sp)} {m : Str} (w : wE C te y fun z y1 => ∃ D0 n pre f, z = .ob D0 [] [] ∧ (D0, omSp C.K n pre f) ∈ tab ∧ wZ C ts y1 fun zs y2 => ∃ ds, ResTA y2.m zs ds ∧ (ds.length = n ∧ pre ds) ∧ scT (f ds) = true ∧ Q (.d (f ds)) y2) : wE C (tMethU tab m E te ts) y Q := by
  intro F σ H K wd k
  refine w F σ H _ wd fun x H1 z y1 w1 g1 s1 r1 ⟨D0, n, pre, f, ez, hm, q1⟩ => ?_
  subst ez
  have r1w := r1.w
  cases r1w with | @ob a dx _ _ xs _ na ea hl rx =>
  refine ⟨a, D0, dx, _, _, rfl, ea, rfl, hm, ?_⟩
  refine q1 F σ H1 _ w1 fun vs H2 zs y2 w2 g2 s2 r2 ⟨ds, hr, ⟨hn, hp⟩, hs, q⟩ => ?_
  refine ob_call (ι := Addr) (cl := id) (i := D0) w2 (r1.w.go g2) r2 hr hn hp fun d v' H3 hd gr rv' => ?_
  subst hd
  have w3 := w2.grow gr
  exact k v' H3 (.d _) y2 w3 ((g1.trans g2).trans (go_grow gr)) (s1.trans s2) (sct_rp w3.toWd0 hs rv') q
end
/-! ### defs of objects and of things of any kind, that may raise -/
inductive ResO (m : List Cl) : Z → D → Prop
  | r {z : Z} {d : D} : Res m z d → ResO m z d
  | ob (C : Addr) : ResO m (.ob C [] []) .none
inductive ResOA (m : List Cl) : List Z → List D → Prop
  | nil : ResOA m [] []
  | cons {z : Z} {d : D} {zs : List Z} {ds : List D} : ResO m z d → ResOA m zs ds → ResOA m (z :: zs) (d :: ds)
def bxSp {ι : Type} (K : Fg) (n : Nat) (pre : ι → List Z → List D → Prop) (post : ι → List Z → List D → Z → Prop) (xp : ι → List Z → List D → Ex → Prop) : Sp := fun vs H Q E => ∃ (i : ι) (M : Addr → Prop) (m : List Cl) (zs : List Z) (ds : List D),
  (∀ a, M a → H a ≠ none) ∧ RwA K M H vs zs ∧ (∀ e ∈ m, M e.a ∧ CellOk K M H e.a e.c) ∧ (m.Pairwise fun e e' => e.a ≠ e'.a) ∧ ResOA m zs ds ∧ zs.length = n ∧ pre i zs ds ∧
  (∀ z v H', post i zs ds z → (∀ a o, H a = some o → H' a = some o) → Rw K M H' v z → Q v H') ∧
  (∀ ex a v H', xp i zs ds ex → (∀ a o, H a = some o → H' a = some o) → H a = none → H' a = some (.xd [(keyZ ex.found, v)]) → Rw K M H' v (valZ ex.found) → E ex.cls (some a) H')
section
variable {K : Fg} {N : List Str} {t : TS} {vs : List V} {H : Hp} {Q : VK} {E : XK} {n : Nat} {ι : Type} {pre : ι → List Z → List D → Prop} {post : ι → List Z → List D → Z → Prop} {xp : ι → List Z → List D → Ex → Prop}
end
theorem wE_bx {C : Ct} {y : S} {ts : TA} {Q : Z → S → Prop} {n : Nat} {ι : Type} {pre : ι → List Z → List D → Prop} {post : ι → List Z → List D → Z → Prop} {xp : ι → List Z → List D → Ex → Prop} (w : wZ C ts y fun zs y1 => ∃ i ds, ResOA y1.m zs ds ∧ (zs.length = n ∧ pre i zs ds) ∧ (∀ z, post i zs ds z → Q z y1) ∧ ∀ ex, xp i zs ds ex → C.ex ex y1) : wE C (tCallS (bxSp C.K n pre post xp) (WE C.W) ts) y Q := by
  intro F σ H K wd k
  refine w F σ H _ wd fun vs H1 zs y1 w1 g1 s1 r1 ⟨i, ds, hr, ⟨hn, hp⟩, q, x⟩ => ?_
  refine ⟨i, Mv F σ y1, y1.m, zs, ds, fun a m e => w1.new e m, r1, fun e he => ⟨.inr ⟨e, he, rfl⟩, w1.cell e he⟩, w1.dist, hr, hn, hp, fun z v H2 hz gr rv => k v H2 z y1 (w1.grow gr) (g1.trans (go_grow gr)) s1 rv.z (q z hz), fun ex a v H2 hx gr ha ha2 rv => ?_⟩
  exact w1.xk σ y1 H2 ex ex.cls (some a) (w1.grow gr).toWd0 (go_grow gr) ⟨rfl, a, v, rfl, ha2, w1.new ha, w1.newH0 ha, rv⟩ (x ex hx)
/-! ### defs that change what they are handed, by an index -/
def miSp {ι : Type} (K : Fg) (n : Nat) (pre : ι → List (Addr × Cell) → List Z → Prop) (post : ι → List (Addr × Cell) → List Z → D → List (Addr × Cell) → Prop) : Sp := fun vs H Q E => ∃ i, mSp K n (pre i) (post i) vs H Q E
theorem wE_mi {ι : Type} {C : Ct} {y : S} {ts : TA} {E : XK} {Q : Z → S → Prop} {n : Nat} {pre : ι → List (Addr × Cell) → List Z → Prop} {post : ι → List (Addr × Cell) → List Z → D → List (Addr × Cell) → Prop}
    (w : wZ C ts y fun zs y1 => ∃ i A m B b, y1.m = A ++ toCl b m ++ B ∧ (∀ e ∈ m, e.2.isRo = false) ∧ zs.length = n ∧ pre i m zs ∧ ∀ d m', post i m zs d m' → m'.map (·.1) = m.map (·.1) → (∀ e ∈ m', e.2.isRo = false) → Q (.d d) ⟨y1.l, A ++ toCl b m' ++ B⟩) :
    wE C (tCall (miSp C.K n pre post) [] E ts) y Q := by
  intro F σ H K wd k
  refine w F σ H _ wd fun vs H1 zs y1 w1 g1 s1 r1 ⟨i, A, m, B, b, em, ro, hn, hp, q⟩ => ?_
  refine ⟨i, ?_⟩
  show mSp C.K n (pre i) (post i) (vs ++ []) H1 K E
  rw [List.append_nil]
  have mem : ∀ e ∈ m, (⟨e.1, b, e.2⟩ : Cl) ∈ y1.m := fun e he => by
    rw [em]; exact List.mem_append.mpr (.inl (List.mem_append.mpr (.inr (List.mem_map.mpr ⟨e, he, rfl⟩))))
  have dist := w1.dist
  rw [em] at dist
  have pwm : m.Pairwise fun e e' => e.1 ≠ e'.1 := by
    have := (List.pairwise_append.mp (List.pairwise_append.mp dist).1).2.1
    unfold toCl at this
    rw [List.pairwise_map] at this
    exact this
  refine ⟨Mv F σ y1, m, zs, fun a m e => w1.new e m, r1, fun e he => ⟨.inr ⟨_, mem e he, rfl⟩, w1.cell _ (mem e he), ro e he⟩, pwm, hn, hp, fun d v m' H' hq hs ha ro' kp cs rv => ?_⟩
  have aeq : (A ++ toCl b m' ++ B).map (·.a) = y1.m.map (·.a) := by
    rw [em]
    simp only [List.map_append, toCl, List.map_map]
    congr 2
  have aoeq : ao (A ++ toCl b m' ++ B) = ao y1.m := by
    rw [em]
    unfold ao
    simp only [List.map_append]
    congr 2
    unfold toCl
    rw [List.map_map, List.map_map]
    have e1 : ∀ l : List (Addr × Cell), (∀ e ∈ l, e.2.isRo = false) → l.map ((fun e : Cl => (e.a, e.own, e.c.isRo)) ∘ fun e => (⟨e.1, b, e.2⟩ : Cl)) = (l.map (·.1)).map fun a => (a, b, false) := fun l hl => by
      rw [List.map_map]
      exact List.map_congr_left fun e he => by show (e.1, b, e.2.isRo) = (e.1, b, false); rw [hl e he]
    rw [e1 m' ro', e1 m ro, ha]
  have inm : ∀ a, (∃ e ∈ m, e.1 = a) ↔ ∃ e ∈ m', e.1 = a := fun a => by
    have e1 : ∀ l : List (Addr × Cell), (∃ e ∈ l, e.1 = a) ↔ a ∈ l.map (·.1) := fun l => List.mem_map.symm
    rw [e1, e1, ha]
  have old : ∀ e ∈ A ++ toCl b m' ++ B, ∃ e0 ∈ y1.m, e0.a = e.a ∧ (e.own = true → e0.own = true) ∧ (e.c.isRo = false → e0.c.isRo = false) := fun e he => by
    obtain ⟨e', h1, h2, h3, h4⟩ := own_ao aoeq he
    exact ⟨e', h1, h2, fun z => h3.trans z, fun z => h4.trans z⟩
  have lv : ∀ a, Dom y1.m a → H' a ≠ none := fun a ⟨e, h1, h2⟩ z => by
    by_cases ha : ∃ e ∈ m, e.1 = a
    · obtain ⟨e', q1, q2⟩ := (inm a).mp ha
      exact (cs e' q1).live (q2 ▸ z)
    · cases r : H1 a with
      | none => exact (w1.cell e h1).live (h2 ▸ r)
      | some o => rw [kp a o (fun e he q => ha ⟨e, he, q⟩) r] at z; cases z
  have key := w1.store (m := A ++ toCl b m' ++ B) (H' := H') (fun a o n e => kp a o (fun e' he' z => n ⟨_, mem e' he', z, ro e' he'⟩) e) lv (fun e he => .inl (old e he))
    (by
      have p1 : ∀ l : List Cl, (l.Pairwise fun e e' => e.a ≠ e'.a) ↔ (l.map (·.a)).Pairwise (· ≠ ·) := fun l => by rw [List.pairwise_map]
      rw [p1, aeq, ← p1]
      exact w1.dist)
    (fun g e he => by
      by_cases hq : ∃ e' ∈ m', (⟨e'.1, b, e'.2⟩ : Cl) = e
      · obtain ⟨e', h1', rfl⟩ := hq
        refine (cs e' h1').go (fun a o n e => ⟨fun z => n ?_, e⟩) fun _ r => r
        rcases z with z | ⟨e2, h2, h3⟩
        · exact .inl z
        · obtain ⟨e0, q1, q2, _⟩ := old e2 h2
          exact .inr ⟨e0, q1, q2.trans h3⟩
      · have hAB : e ∈ A ∨ e ∈ B := by
          rcases List.mem_append.mp he with he | he
          · rcases List.mem_append.mp he with he | he
            · exact .inl he
            · obtain ⟨e', h1', rfl⟩ := List.mem_map.mp he
              exact absurd ⟨e', h1', rfl⟩ hq
          · exact .inr he
        have hy : e ∈ y1.m := by
          rw [em]
          rcases hAB with h | h
          · exact List.mem_append.mpr (.inl (List.mem_append.mpr (.inl h)))
          · exact List.mem_append.mpr (.inr h)
        refine (w1.cell e hy).go g fun o r => kp _ _ (fun e' he' z => ?_) r
        have m1 : (⟨e'.1, b, e'.2⟩ : Cl) ∈ toCl b m := List.mem_map.mpr ⟨e', he', rfl⟩
        rcases hAB with h | h
        · exact (List.pairwise_append.mp (List.pairwise_append.mp dist).1).2.2 e h _ m1 z.symm
        · exact (List.pairwise_append.mp dist).2.2 _ (List.mem_append.mpr (.inr m1)) e h z)
  exact k v H' (.d d) _ key.1 (g1.trans key.2) (s1.trans ⟨rfl, [], by rw [show ao ([] : List Cl) = [] from rfl, List.append_nil]; exact aoeq⟩) (sc_rp hs rv) (q d m' hq ha ro')
/-! ### the store in another order -/
/-! ### a slice of a list of ours, as a new list of ours -/
def rSlNew (K : Fg) : V → Option Int → Option Int → Hp → VK → Prop := rSlD K
theorem xE_slN {C : Ct} {y : S} {te : TE} {tl th : TO} {Q : Z → S → Prop} (w : wE C te y fun z y1 => wO C tl y1 fun l y2 => wO C th y2 fun h y3 => ∃ (p : Addr) (b : Bool) (j : Nat) (ds : List D), z = .lab p ∧ y3.m[j]? = some (⟨p, b, .lst (ds.map Z.d)⟩ : Cl) ∧ ∀ q, Q (.lab q) ⟨y3.l, y3.m ++ [⟨q, true, .lst ((cutD ds l h).map Z.d)⟩]⟩) : wE C (tSl (rSlNew C.K) te tl th) y Q := by
  intro F σ H K wd k
  refine w F σ H _ wd fun x H1 z y1 w1 g1 s1 r1 q1 => ?_
  refine q1 F σ H1 _ w1 fun l H2 y2 w2 g2 s2 q2 => ?_
  refine q2 F σ H2 _ w2 fun h H3 y3 w3 g3 s3 q3 => ?_
  obtain ⟨p, b, j, ds, rfl, hj, hq⟩ := q3
  have r3 : Rz C F σ y3 H3 x (.lab p) := Rz.go (g2.trans g3) r1
  obtain ⟨rfl, xs, c1, c2⟩ := lab_lst w3 r3 hj
  refine .inl ⟨p, xs, rfl, .inl (.inl c1), fun q hp => ?_⟩
  obtain ⟨w4, g4, s4⟩ := w3.cnew (o := .lst (cutV xs l h)) (c := .lst ((cutD ds l h).map Z.d)) (b := true) hp fun M g => ⟨cutV xs l h, upd_same, RwA.of ((rpA_cut c2.ds l h).go g)⟩
  exact k _ _ (.lab q) _ w4 (((g1.trans g2).trans g3).trans g4) (((s1.trans s2).trans s3).trans s4) (.lab q) (hq q)
/-! ### three parameters, the last one by its default -/
section
variable {P : Program} {w : World} {K : Fg} {mg : Str → Option Value} {base : Heap} {k : Nat} {x : Str} {ps N : List Str} {sp : Sp} {st : Stmt} {dv : V}
end
/-! ### list(x) of a thing, as data -/
def tListD (K : Fg) (t : TA) : TE := tCB (rListD K) t
theorem xE_listD {C : Ct} {y : S} {te : TE} {Q : Z → S → Prop} (w : wE C te y fun z y1 => ∃ d xs, Res y1.m z d ∧ dItems d = some xs ∧ Q (.d (.list xs)) y1) : wE C (tListD C.K (tCons te tNil)) y Q := by
  intro F σ H K wd k
  refine w F σ H _ wd fun x H1 z y1 w1 g1 s1 r1 ⟨d, xs, hr, hx, hq⟩ => ?_
  have key : ∃ a us, x = .ref a ∧ (SqL C.K H1 a us ∨ SqT C.K H1 a us) ∧ RpA C.K (Mv F σ y1) H1 us xs := by
    cases hr with
    | d d =>
      obtain ⟨a, us, rfl, h1, h2⟩ := rp_items r1 hx
      exact ⟨a, us, rfl, h1.elim (fun z => .inl z.sq) (fun z => .inr z.sq), h2⟩
    | @lab e d he hc =>
      have r1w := r1.w
      cases r1w
      have ok := w1.cell e he
      generalize e.c = c at hc ok
      induction hc with
      | lst ds =>
        cases hx
        obtain ⟨us, h1, h2⟩ := ok
        exact ⟨_, us, rfl, .inl (SqL.of h1), h2.ds⟩
      | dic kvs => cases hx
      | ro _ ih => exact ih hx ok
  obtain ⟨a, us, rfl, h1, h2⟩ := key
  refine ⟨a, us, rfl, h1, fun p hp => ?_⟩
  have gr := grow_upd (o := .lst us) hp
  exact k _ _ (.d (.list xs)) y1 (w1.grow gr) (g1.trans (go_grow gr)) s1 (.lst (.inl ⟨w1.new hp, .inl upd_same⟩) (h2.go (go_grow (F := F) (σ := σ) (y := y1) gr))) hq
end Ux

set_option maxRecDepth 100000
set_option maxHeartbeats 4000000
/-! exceptions whose field has another name; keywords for the third parameter -/
namespace Ux
open PySem PySem.Spec PyProof.Rows L2 Tq
/-! ### an own class with __init__(self, found): T.__init__(self, 'text'); self.found = found -/
def spInitN (f : Str) (K : Fg) (C : Addr) : Sp := fun vs H Q _ => ∃ (a : Addr) (v : V), vs = [.ref a, v] ∧ OexC K C ∧ PySem.W.findIn K (.ref C) f = some none ∧ H a = some (exo a C none) ∧ ∀ dx, H dx = none → dx ≠ a → Q .non (upd (upd H dx (exd dx [(f, v)])) a (exo a C (some dx)))
/-- the class x, at C: its instances hold what was found -/
structure XcN (P : Program) (w : World) (K : Fg) (mg : Str → Option Value) (base : Heap) (f x : Str) (C : Addr) : Prop where
  gC : mg x = some (.ref C)
  oc : OexC K C
  xf : XfC K C
  no : PySem.W.findIn K (.ref C) f = some none
  ini : ∃ (fI : Addr) (fd : FuncData), PySem.W.findIn K (.ref C) "__init__" = some (some (.ref fI)) ∧ PySem.W.typeIn K (.ref fI) = some (.type "function") ∧ FnOk P w K mg base CX0 1 fI fd ["self", f] (spInitN f K C) ∧ Binds K fd ["self", f] []
section
variable {X : Cx} {f x : Str} {C : Addr} {a : Expr} {ta : TA} {p pos pos2 : Pos}
end
structure XcTN (K : Fg) (mg : Str → Option Value) (f x qual : Str) (st : Stmt) (C : Addr) : Prop where
  gC : mg x = some (.ref C)
  oc : OexC K C
  xf : XfC K C
  no : PySem.W.findIn K (.ref C) f = some none
  ini : ∃ (fI : Addr) (fd : FuncData), PySem.W.findIn K (.ref C) "__init__" = some (some (.ref fI)) ∧ PySem.W.typeIn K (.ref fI) = some (.type "function") ∧ Fun K "__init__" qual st fI fd ∧ Binds K fd ["self", f] []
section
variable {C : Ct} {y : S} {ts : TA} {e : En}
end
theorem Res.kz {m : List Cl} {z : Z} {d : D} (r : Res m z d) : keyZ z = "found" ∧ valZ z = z := by cases r <;> exact ⟨rfl, rfl⟩
section
variable {P : Program} {w : World} {K : Fg} {mg : Str → Option Value} {base : Heap} {k : Nat} {x : Str} {ps N : List Str} {sp : Sp} {st : Stmt} {dv : V}
end

/-! ### new lists that nobody changes: plain data at once -/
/-! ### methods of one class, that call others of it -/
/-! ### a list of ours, many times -/
end Ux

set_option maxRecDepth 100000
set_option maxHeartbeats 4000000
/-! objects with fields that change: defs that read and change what they are handed, hand out new things, may raise -/
namespace Ux
open PySem PySem.Spec PyProof.Rows L2 Tq
abbrev AC := List (Addr × Cell)
def Same (m m' : AC) : Prop := m'.map (·.1) = m.map (·.1) ∧ ∀ e ∈ m', e.2.isRo = false
/-- the things m change (to m'), the things r are read alone, the things nw are new -/
def gSp {ι : Type} (K : Fg) (n : Nat) (pre : ι → AC → List Cl → List Z → Prop) (post : ι → AC → List Cl → List Z → Z → AC → AC → Prop) (xp : ι → AC → List Cl → List Z → Ex → AC → AC → Prop) : Sp := fun vs H Q E => ∃ (i : ι) (M : Addr → Prop) (m : AC) (r : List Cl) (zs : List Z),
  (∀ a, M a → H a ≠ none) ∧ RwA K M H vs zs ∧ (∀ e ∈ m, M e.1 ∧ CellOk K M H e.1 e.2 ∧ e.2.isRo = false) ∧ (∀ e ∈ r, M e.a ∧ CellOk K M H e.a e.c) ∧ ((toCl false m ++ r).Pairwise fun e e' => e.a ≠ e'.a) ∧ zs.length = n ∧ pre i m r zs ∧
  (∀ z v m' nw H', post i m r zs z m' nw → Same m m' → (∀ e ∈ nw, e.2.isRo = false) → (∀ a o, (∀ e ∈ m, e.1 ≠ a) → H a = some o → H' a = some o) → (∀ e ∈ nw, H e.1 = none) → (nw.Pairwise fun e e' => e.1 ≠ e'.1) →
    (∀ e ∈ m' ++ nw, CellOk K (fun a => M a ∨ ∃ e ∈ nw, e.1 = a) H' e.1 e.2) → Rw K (fun a => M a ∨ ∃ e ∈ nw, e.1 = a) H' v z → Q v H') ∧
  (∀ ex a v m' nw H', xp i m r zs ex m' nw → Same m m' → (∀ e ∈ nw, e.2.isRo = false) → (∀ a o, (∀ e ∈ m, e.1 ≠ a) → H a = some o → H' a = some o) → (∀ e ∈ nw, H e.1 = none) → (nw.Pairwise fun e e' => e.1 ≠ e'.1) →
    (∀ e ∈ m' ++ nw, CellOk K (fun a => M a ∨ ∃ e ∈ nw, e.1 = a) H' e.1 e.2) → H a = none → ¬ (M a ∨ ∃ e ∈ nw, e.1 = a) → H' a = some (.xd [(keyZ ex.found, v)]) → Rw K (fun a => M a ∨ ∃ e ∈ nw, e.1 = a) H' v (valZ ex.found) → E ex.cls (some a) H')
section
variable {ι : Type} {K : Fg} {n : Nat} {pre : ι → AC → List Cl → List Z → Prop} {post : ι → AC → List Cl → List Z → Z → AC → AC → Prop} {xp : ι → AC → List Cl → List Z → Ex → AC → AC → Prop}
theorem gSp_len {ps : List Str} (h : ps.length = n) : ∀ vs H Q E, gSp K n pre post xp vs H Q E → vs.length = ps.length := by
  rintro vs H Q E ⟨i, M, m, r, zs, _, ra, _, _, _, l, _⟩
  rw [ra.len, l, h]
/-- the end of a def's body -/
def gEnd (q : Z → AC → AC → Prop) (m : AC) (z : Z) (y : S) : Prop := ∃ m' nw, q z m' nw ∧ Same m m' ∧ (∀ e ∈ nw, e.2.isRo = false) ∧ toCl false m' ⊆ y.m ∧ (toCl true nw).Sublist y.m
theorem g_body {N : List Str} {t : TS} {vs : List V} {H : Hp} {Q : VK} {E : XK} (h : gSp K n pre post xp vs H Q E)
    (b : ∀ i m r zs, zs.length = n → ((toCl false m ++ roM r).Pairwise fun e e' => e.a ≠ e'.a) → (∀ e ∈ m, e.2.isRo = false) → pre i m r zs → ∀ e : En, (∀ y, gEnd (post i m r zs) m (.d .none) y → e.nx y) → (∀ z y, gEnd (post i m r zs) m z y → e.rt z y) →
      wS { K := K, W := fun cls d _ H' => E cls d H', ex := fun ex y => ∃ m' nw, xp i m r zs ex m' nw ∧ Same m m' ∧ (∀ e ∈ nw, e.2.isRo = false) ∧ toCl false m' ⊆ y.m ∧ (toCl true nw).Sublist y.m } t ⟨l0 N zs, toCl false m ++ roM r⟩ e) :
    t { nx := fun _ G => Q .non G, rt := Q } (start N vs) H := by
  obtain ⟨i, M, m, r, zs, al, rr, cs, cr, pw, hl, hp, k1, k2⟩ := h
  have roMem : ∀ {l : List Cl} {e : Cl}, e ∈ roM l → ∃ e' ∈ l, e = ⟨e'.a, false, e'.c.toRo⟩ := fun {l e} he => by
    obtain ⟨e', q1, q2⟩ := List.mem_map.mp he
    exact ⟨e', q1, q2.symm⟩
  have hM : ∀ {a : Addr} {σ : St} {l : List (Option Z)}, Mv ⟨H, fun a => ∃ e ∈ m, e.1 = a, M, true⟩ σ ⟨l, toCl false m ++ roM r⟩ a → M a := fun {a σ l} z => z.elim (fun z => z) fun ⟨e, q1, q2⟩ => by
    rcases List.mem_append.mp q1 with q1 | q1
    · obtain ⟨e', q3, rfl⟩ := List.mem_map.mp q1
      exact q2 ▸ (cs e' q3).1
    · obtain ⟨e', q3, rfl⟩ := roMem q1
      exact q2 ▸ (cr e' q3).1
  have gM : GoH M H (Mv ⟨H, fun a => ∃ e ∈ m, e.1 = a, M, true⟩ (start N vs) ⟨l0 N zs, toCl false m ++ roM r⟩) H := fun a o na e => ⟨fun z => na (hM z), e⟩
  have pw' : (toCl false m ++ roM r).Pairwise fun e e' => e.a ≠ e'.a := by
    rw [List.pairwise_append] at pw ⊢
    refine ⟨pw.1, ?_, fun e he e' he' => ?_⟩
    · unfold roM; rw [List.pairwise_map]; exact pw.2.1
    · obtain ⟨e2, q3, rfl⟩ := roMem he'
      exact pw.2.2 e he e2 q3
  have gW : ∀ {σ' : St} {y' : S} {H' : Hp} {nw : AC}, (toCl true nw).Sublist y'.m → GoH (Mv ⟨H, fun a => ∃ e ∈ m, e.1 = a, M, true⟩ σ' y') H' (fun a => M a ∨ ∃ e ∈ nw, e.1 = a) H' := fun {σ' y' H' nw} sub a o n e =>
    ⟨fun z => n (z.elim .inl fun ⟨e', h1, h2⟩ => .inr ⟨_, sub.subset (List.mem_map.mpr ⟨e', h1, rfl⟩), h2⟩), e⟩
  have fin : ∀ {σ' : St} {y' : S} {H' : Hp} {m' nw : AC}, Wd0 K ⟨H, fun a => ∃ e ∈ m, e.1 = a, M, true⟩ σ' y' H' → (∀ e ∈ nw, e.2.isRo = false) → toCl false m' ⊆ y'.m → (toCl true nw).Sublist y'.m →
      (∀ a o, (∀ e ∈ m, e.1 ≠ a) → H a = some o → H' a = some o) ∧ (∀ e ∈ nw, H e.1 = none) ∧ (nw.Pairwise fun e e' => e.1 ≠ e'.1) ∧ ∀ e ∈ m' ++ nw, CellOk K (fun a => M a ∨ ∃ e ∈ nw, e.1 = a) H' e.1 e.2 := fun {σ' y' H' m' nw} w q0 sm sn => by
    have mem : ∀ e ∈ nw, (⟨e.1, true, e.2⟩ : Cl) ∈ y'.m := fun e he => sn.subset (List.mem_map.mpr ⟨e, he, rfl⟩)
    refine ⟨fun a o n e => w.keep a o (fun ⟨e', h1, h2⟩ => n e' h1 h2) e, fun e he => ?_, ?_, fun e he => ?_⟩
    · rcases w.frsh _ (mem e he) (q0 e he) with q | q
      · exact absurd q (w.nb rfl _ (mem e he) rfl)
      · exact q
    · have := w.dist.sublist sn
      unfold toCl at this
      rw [List.pairwise_map] at this
      exact this
    · rcases List.mem_append.mp he with he | he
      · exact (w.cell _ (sm (List.mem_map.mpr ⟨e, he, rfl⟩))).go (gW sn) fun _ q => q
      · exact (w.cell _ (mem e he)).go (gW sn) fun _ q => q
  refine b i m r zs hl pw' (fun e he => (cs e he).2.2) hp { nx := fun y => gEnd (post i m r zs) m (.d .none) y, rt := fun z y => gEnd (post i m r zs) m z y } (fun _ q => q) (fun _ _ q => q) ⟨H, fun a => ∃ e ∈ m, e.1 = a, M, true⟩ (start N vs) H _ rfl
    ⟨⟨fun a o _ e => e, al, al, l0_len rr, fun i u e => ?_, fun e he => ?_, pw', fun e he hr => ?_, fun a ⟨e, q1, q2⟩ => q2 ▸ (cs e q1).1, fun _ e he ho => ?_⟩, fun σ' y' H' ex cls d w g x q => ?_⟩
    ⟨fun σ' H' y' w g q => ?_, fun σ' u H' z' y' w g rz q => ?_, fun _ _ _ _ _ q => q.elim, fun _ _ _ _ _ q => q.elim⟩
  · obtain ⟨x, h1, h2⟩ := l0_slot rr e
    exact ⟨x, h1, h2.go gM⟩
  · rcases List.mem_append.mp he with he | he
    · obtain ⟨e', q3, rfl⟩ := List.mem_map.mp he
      exact (cs e' q3).2.1.go gM fun _ q => q
    · obtain ⟨e', q3, rfl⟩ := roMem he
      exact toRo_ok ((cr e' q3).2.go gM fun _ q => q)
  · rcases List.mem_append.mp he with he | he
    · obtain ⟨e', q3, rfl⟩ := List.mem_map.mp he
      exact .inl ⟨e', q3, rfl⟩
    · obtain ⟨e', q3, rfl⟩ := roMem he
      rw [toRo_ro] at hr; cases hr
  · rcases List.mem_append.mp he with he | he
    · obtain ⟨e', q3, rfl⟩ := List.mem_map.mp he
      cases ho
    · obtain ⟨e', q3, rfl⟩ := roMem he
      cases ho
  · obtain ⟨m', nw, q1, q2, q3, q4, q5⟩ := q
    obtain ⟨rfl, a, v, rfl, x1, x2, x3, x4⟩ := x
    obtain ⟨f1, f2, f3, f4⟩ := fin w q3 q4 q5
    exact k2 ex a v m' nw H' q1 q2 q3 f1 f2 f3 f4 x3 ((gW q5) a _ x2 x1).1 x1 (x4.go (gW q5))
  · obtain ⟨m', nw, q1, q2, q3, q4, q5⟩ := q
    obtain ⟨f1, f2, f3, f4⟩ := fin w.toWd0 q3 q4 q5
    exact k1 (.d .none) .non m' nw H' q1 q2 q3 f1 f2 f3 f4 (.d .non)
  · obtain ⟨m', nw, q1, q2, q3, q4, q5⟩ := q
    obtain ⟨f1, f2, f3, f4⟩ := fin w.toWd0 q3 q4 q5
    exact k1 z' u m' nw H' q1 q2 q3 f1 f2 f3 f4 (rz.w.go (gW q5))
end
section
variable {C : Ct} {y : S} {ts : TA} {te : TE} {Q : Z → S → Prop} {ι : Type} {n : Nat} {pre : ι → AC → List Cl → List Z → Prop} {post : ι → AC → List Cl → List Z → Z → AC → AC → Prop} {xp : ι → AC → List Cl → List Z → Ex → AC → AC → Prop}
theorem own_ao2 {m m' : List Cl} (h : ao m' = ao m) {e : Cl} (he : e ∈ m') : ∃ e0 ∈ m, e0.a = e.a ∧ e0.own = e.own ∧ e0.c.isRo = e.c.isRo := by
  have : (e.a, e.own, e.c.isRo) ∈ ao m := by rw [← h]; exact List.mem_map.mpr ⟨e, he, rfl⟩
  obtain ⟨e0, h1, h2⟩ := List.mem_map.mp this
  cases e0; cases e
  simp only [Prod.mk.injEq] at h2
  exact ⟨_, h1, h2.1, h2.2.1, h2.2.2⟩
/-- the store behind a call: the things m are m' now, nw are new -/
theorem g_store {y1 : S} {F : Fr} {σ : St} {H1 H' : Hp} {A B : List Cl} {b : Bool} {m m' nw : AC} (w1 : Wd C F σ y1 H1) (em : y1.m = A ++ toCl b m ++ B) (ro : ∀ e ∈ m, e.2.isRo = false) (sm : Same m m') (rn : ∀ e ∈ nw, e.2.isRo = false)
    (kp : ∀ a o, (∀ e ∈ m, e.1 ≠ a) → H1 a = some o → H' a = some o) (fr : ∀ e ∈ nw, H1 e.1 = none) (pw : nw.Pairwise fun e e' => e.1 ≠ e'.1) (cs : ∀ e ∈ m' ++ nw, CellOk C.K (fun a => Mv F σ y1 a ∨ ∃ e ∈ nw, e.1 = a) H' e.1 e.2) :
    Wd C F σ ⟨y1.l, A ++ toCl b m' ++ B ++ toCl true nw⟩ H' ∧ Go F σ y1 H1 σ ⟨y1.l, A ++ toCl b m' ++ B ++ toCl true nw⟩ H' ∧ Sh y1 ⟨y1.l, A ++ toCl b m' ++ B ++ toCl true nw⟩ := by
  obtain ⟨ha, ro'⟩ := sm
  have mem : ∀ e ∈ m, (⟨e.1, b, e.2⟩ : Cl) ∈ y1.m := fun e he => by
    rw [em]; exact List.mem_append.mpr (.inl (List.mem_append.mpr (.inr (List.mem_map.mpr ⟨e, he, rfl⟩))))
  have dist := w1.dist
  rw [em] at dist
  have aeq : (A ++ toCl b m' ++ B).map (·.a) = y1.m.map (·.a) := by
    rw [em]
    simp only [List.map_append, toCl, List.map_map]
    congr 2
  have aoeq : ao (A ++ toCl b m' ++ B) = ao y1.m := by
    rw [em]
    unfold ao
    simp only [List.map_append]
    congr 2
    unfold toCl
    rw [List.map_map, List.map_map]
    have e1 : ∀ l : List (Addr × Cell), (∀ e ∈ l, e.2.isRo = false) → l.map ((fun e : Cl => (e.a, e.own, e.c.isRo)) ∘ fun e => (⟨e.1, b, e.2⟩ : Cl)) = (l.map (·.1)).map fun a => (a, b, false) := fun l hl => by
      rw [List.map_map]
      exact List.map_congr_left fun e he => by show (e.1, b, e.2.isRo) = (e.1, b, false); rw [hl e he]
    rw [e1 m' ro', e1 m ro, ha]
  have inm : ∀ a, (∃ e ∈ m, e.1 = a) ↔ ∃ e ∈ m', e.1 = a := fun a => by
    have e1 : ∀ l : List (Addr × Cell), (∃ e ∈ l, e.1 = a) ↔ a ∈ l.map (·.1) := fun l => List.mem_map.symm
    rw [e1, e1, ha]
  have old : ∀ e ∈ A ++ toCl b m' ++ B, ∃ e0 ∈ y1.m, e0.a = e.a ∧ (e.own = true → e0.own = true) ∧ (e.c.isRo = false → e0.c.isRo = false) := fun e he => by
    obtain ⟨e', h1, h2, h3, h4⟩ := own_ao2 aoeq he
    exact ⟨e', h1, h2, fun z => h3.trans z, fun z => h4.trans z⟩
  have lv : ∀ a, Dom y1.m a → H' a ≠ none := fun a ⟨e, h1, h2⟩ z => by
    by_cases ha : ∃ e ∈ m, e.1 = a
    · obtain ⟨e', q1, q2⟩ := (inm a).mp ha
      exact (cs e' (List.mem_append.mpr (.inl q1))).live (q2 ▸ z)
    · cases r : H1 a with
      | none => exact (w1.cell e h1).live (h2 ▸ r)
      | some o => rw [kp a o (fun e he q => ha ⟨e, he, q⟩) r] at z; cases z
  have dAB : (A ++ toCl b m' ++ B).Pairwise fun e e' => e.a ≠ e'.a := by
    have p1 : ∀ l : List Cl, (l.Pairwise fun e e' => e.a ≠ e'.a) ↔ (l.map (·.a)).Pairwise (· ≠ ·) := fun l => by rw [List.pairwise_map]
    rw [p1, aeq, ← p1]
    exact w1.dist
  have key := w1.store (m := A ++ toCl b m' ++ B ++ toCl true nw) (H' := H') (fun a o n e => kp a o (fun e' he' z => n ⟨_, mem e' he', z, ro e' he'⟩) e) lv
    (fun e he => by
      rcases List.mem_append.mp he with he | he
      · exact .inl (old e he)
      · obtain ⟨e', h1, rfl⟩ := List.mem_map.mp he
        exact .inr (fr e' h1))
    (by
      rw [List.pairwise_append]
      refine ⟨dAB, by unfold toCl; rw [List.pairwise_map]; exact pw, fun e he e2 he2 z => ?_⟩
      obtain ⟨e', h1', rfl⟩ := List.mem_map.mp he2
      obtain ⟨e0, q1, q2, _⟩ := old e he
      exact (w1.cell e0 q1).live (by rw [q2, z]; exact fr e' h1'))
    (fun g e he => by
      have sub : ∀ a, (Mv F σ y1 a ∨ ∃ e ∈ nw, e.1 = a) → Mv F σ ⟨y1.l, A ++ toCl b m' ++ B ++ toCl true nw⟩ a := fun a z => by
        rcases z with (z | ⟨e2, h2, h3⟩) | ⟨e2, h2, h3⟩
        · exact .inl z
        · have : a ∈ (A ++ toCl b m' ++ B).map (·.a) := by rw [aeq]; exact List.mem_map.mpr ⟨e2, h2, h3⟩
          obtain ⟨e4, h4, h5⟩ := List.mem_map.mp this
          exact .inr ⟨e4, List.mem_append.mpr (.inl h4), h5⟩
        · exact .inr ⟨_, List.mem_append.mpr (.inr (List.mem_map.mpr ⟨e2, h2, rfl⟩)), h3⟩
      have sup : ∀ a, Mv F σ ⟨y1.l, A ++ toCl b m' ++ B ++ toCl true nw⟩ a → Mv F σ y1 a ∨ ∃ e ∈ nw, e.1 = a := fun a z => by
        rcases z with z | ⟨e2, h2, h3⟩
        · exact .inl (.inl z)
        · rcases List.mem_append.mp h2 with h2 | h2
          · obtain ⟨e0, q1, q2, _⟩ := old e2 h2
            exact .inl (.inr ⟨e0, q1, q2.trans h3⟩)
          · obtain ⟨e', h1', rfl⟩ := List.mem_map.mp h2
            exact .inr ⟨e', h1', h3⟩
      by_cases hq : ∃ e' ∈ m' ++ nw, e'.1 = e.a ∧ e'.2 = e.c
      · obtain ⟨e', h1', h2', h3'⟩ := hq
        rw [← h2', ← h3']
        exact (cs e' h1').go (fun a o n e => ⟨fun z => n (sup a z), e⟩) fun _ r => r
      · have hAB : e ∈ A ∨ e ∈ B := by
          rcases List.mem_append.mp he with he | he
          · rcases List.mem_append.mp he with he | he
            · rcases List.mem_append.mp he with he | he
              · exact .inl he
              · obtain ⟨e', h1', rfl⟩ := List.mem_map.mp he
                exact absurd ⟨e', List.mem_append.mpr (.inl h1'), rfl, rfl⟩ hq
            · exact .inr he
          · obtain ⟨e', h1', rfl⟩ := List.mem_map.mp he
            exact absurd ⟨e', List.mem_append.mpr (.inr h1'), rfl, rfl⟩ hq
        have hy : e ∈ y1.m := by
          rw [em]
          rcases hAB with h | h
          · exact List.mem_append.mpr (.inl (List.mem_append.mpr (.inl h)))
          · exact List.mem_append.mpr (.inr h)
        refine (w1.cell e hy).go g fun o r => kp _ _ (fun e' he' z => ?_) r
        have m1 : (⟨e'.1, b, e'.2⟩ : Cl) ∈ toCl b m := List.mem_map.mpr ⟨e', he', rfl⟩
        rcases hAB with h | h
        · exact (List.pairwise_append.mp (List.pairwise_append.mp dist).1).2.2 e h _ m1 z.symm
        · exact (List.pairwise_append.mp dist).2.2 _ (List.mem_append.mpr (.inr m1)) e h z)
  refine ⟨key.1, key.2, rfl, toCl true nw, ?_⟩
  show ao (A ++ toCl b m' ++ B ++ toCl true nw) = _
  rw [show ao (A ++ toCl b m' ++ B ++ toCl true nw) = ao (A ++ toCl b m' ++ B) ++ ao (toCl true nw) from List.map_append, aoeq]
/-- how a call stands to the store at y1 -/
def gCall (C : Ct) (n : Nat) (pre : ι → AC → List Cl → List Z → Prop) (post : ι → AC → List Cl → List Z → Z → AC → AC → Prop) (xp : ι → AC → List Cl → List Z → Ex → AC → AC → Prop) (zs : List Z) (y1 : S) (Q : Z → S → Prop) (X : Ex → S → Prop) : Prop :=
  ∃ i A m B b, y1.m = A ++ toCl b m ++ B ∧ (∀ e ∈ m, e.2.isRo = false) ∧ zs.length = n ∧ pre i m (A ++ B) zs ∧
    (∀ z m' nw, post i m (A ++ B) zs z m' nw → Same m m' → (∀ e ∈ nw, e.2.isRo = false) → Q z ⟨y1.l, A ++ toCl b m' ++ B ++ toCl true nw⟩) ∧
    ∀ ex m' nw, xp i m (A ++ B) zs ex m' nw → Same m m' → (∀ e ∈ nw, e.2.isRo = false) → X ex ⟨y1.l, A ++ toCl b m' ++ B ++ toCl true nw⟩
theorem g_nw {K : Fg} {M M' : Addr → Prop} {H : Hp} {v : V} {z : Z} (h : ∀ a, M' a → M a) (r : Rw K M H v z) : Rw K M' H v z := r.go fun a o n e => ⟨fun z => n (h a z), e⟩
theorem g_run {F : Fr} {σ : St} {y1 : S} {H1 : Hp} {K : VK} {E : XK} {vs : List V} {zs : List Z} (w1 : Wd C F σ y1 H1) (r1 : RwA C.K (Mv F σ y1) H1 vs zs)
    (k : ∀ v H' z y', Wd C F σ y' H' → Go F σ y1 H1 σ y' H' → Sh y1 y' → Rz C F σ y' H' v z → Q z y' → K v H') {X : Ex → S → Prop}
    (x : ∀ ex a H' y', Wd0 C.K F σ y' H' → Go F σ y1 H1 σ y' H' → XRep C.K F σ y' H' ex ex.cls (some a) → X ex y' → E ex.cls (some a) H') (w : gCall C n pre post xp zs y1 Q X) :
    gSp C.K n pre post xp vs H1 K E := by
  obtain ⟨i, A, m, B, b, em, ro, hn, hp, q, qx⟩ := w
  have mem : ∀ e ∈ m, (⟨e.1, b, e.2⟩ : Cl) ∈ y1.m := fun e he => by
    rw [em]; exact List.mem_append.mpr (.inl (List.mem_append.mpr (.inr (List.mem_map.mpr ⟨e, he, rfl⟩))))
  have memR : ∀ e ∈ A ++ B, e ∈ y1.m := fun e he => by
    rw [em]
    rcases List.mem_append.mp he with h | h
    · exact List.mem_append.mpr (.inl (List.mem_append.mpr (.inl h)))
    · exact List.mem_append.mpr (.inr h)
  have dist := w1.dist
  rw [em] at dist
  have pw : (toCl false m ++ (A ++ B)).Pairwise fun e e' => e.a ≠ e'.a := by
    have p1 : ∀ l : List Cl, (l.Pairwise fun e e' => e.a ≠ e'.a) ↔ (l.map (·.a)).Pairwise (· ≠ ·) := fun l => by rw [List.pairwise_map]
    have t1 : (toCl false m).map (·.a) = (toCl b m).map (·.a) := by unfold toCl; rw [List.map_map, List.map_map]; rfl
    rw [p1, List.map_append, t1, ← List.map_append, ← p1]
    refine (List.Perm.pairwise_iff (fun {x y} h => Ne.symm h) ?_).mp dist
    rw [List.append_assoc]; exact List.perm_append_comm_assoc A (toCl b m) B
  have supW : ∀ {m' nw : AC}, Same m m' → ∀ a, Mv F σ ⟨y1.l, A ++ toCl b m' ++ B ++ toCl true nw⟩ a → Mv F σ y1 a ∨ ∃ e ∈ nw, e.1 = a := fun {m' nw} sm a z => by
    rcases z with z | ⟨e2, h2, h3⟩
    · exact .inl (.inl z)
    · rcases List.mem_append.mp h2 with h2 | h2
      · have : a ∈ (A ++ toCl b m' ++ B).map (·.a) := List.mem_map.mpr ⟨e2, h2, h3⟩
        have aeq : (A ++ toCl b m' ++ B).map (·.a) = y1.m.map (·.a) := by
          rw [em]
          simp only [List.map_append, toCl, List.map_map]
          congr 2
          exact sm.1
        rw [aeq] at this
        obtain ⟨e4, h4, h5⟩ := List.mem_map.mp this
        exact .inl (.inr ⟨e4, h4, h5⟩)
      · obtain ⟨e', h1', rfl⟩ := List.mem_map.mp h2
        exact .inr ⟨e', h1', h3⟩
  refine ⟨i, Mv F σ y1, m, A ++ B, zs, fun a m e => w1.new e m, r1, fun e he => ⟨.inr ⟨_, mem e he, rfl⟩, w1.cell _ (mem e he), ro e he⟩, fun e he => ⟨.inr ⟨e, memR e he, rfl⟩, w1.cell e (memR e he)⟩, pw, hn, hp,
    fun z v m' nw H' hq sm rn kp fr pw' cs rv => ?_, fun ex a v m' nw H' hq sm rn kp fr pw' cs ha na hx rv => ?_⟩
  · obtain ⟨w2, g2, s2⟩ := g_store w1 em ro sm rn kp fr pw' cs
    exact k v H' z _ w2 g2 s2 (Rw.z (g_nw (supW sm) rv)) (q z m' nw hq sm rn)
  · obtain ⟨w2, g2, s2⟩ := g_store w1 em ro sm rn kp fr pw' cs
    exact x ex a H' _ w2.toWd0 g2 ⟨rfl, a, v, rfl, hx, fun z => na (supW sm a z), w1.newH0 ha, g_nw (supW sm) rv⟩ (qx ex m' nw hq sm rn)
end
/-! ### fields -/
def idxS (f : Str) : List Str → Option Nat
  | [] => none
  | g :: ks => if g = f then some 0 else (idxS f ks).map (· + 1)
theorem idxS_look {f : Str} : ∀ {ks : List Str} {xs : List V} {i : Nat} {v : V}, idxS f ks = some i → xs[i]? = some v → (ks.zip xs).lookup f = some v
  | [], _, _, _, h, _ => by cases h
  | _ :: _, [], i, _, _, e => by simp at e
  | g :: ks, x :: xs, i, v, h, e => by
    unfold idxS at h
    by_cases q : g = f
    · rw [if_pos q] at h
      cases h
      have e : x = v := by simpa using e
      have hb : (f == g) = true := beq_iff_eq.mpr q.symm
      show List.lookup f ((g, x) :: ks.zip xs) = _
      simp only [List.lookup, hb, e]
    · rw [if_neg q] at h
      cases hi : idxS f ks with
      | none => rw [hi] at h; cases h
      | some j =>
        rw [hi] at h
        cases h
        have hb : (f == g) = false := beq_eq_false_iff_ne.mpr (Ne.symm q)
        show List.lookup f ((g, x) :: ks.zip xs) = _
        simp only [List.lookup, hb]
        exact idxS_look hi (by simpa using e)
theorem idxS_none {f : Str} : ∀ {ks : List Str} {xs : List V}, idxS f ks = none → (ks.zip xs).lookup f = none
  | [], _, _ => rfl
  | _ :: _, [], _ => rfl
  | g :: ks, x :: xs, h => by
    unfold idxS at h
    by_cases q : g = f
    · rw [if_pos q] at h; cases h
    · rw [if_neg q] at h
      have hb : (f == g) = false := beq_eq_false_iff_ne.mpr (Ne.symm q)
      show List.lookup f ((g, x) :: ks.zip xs) = _
      simp only [List.lookup, hb]
      refine idxS_none ?_
      cases hi : idxS f ks with
      | none => rfl
      | some j => rw [hi] at h; cases h
def putI {α : Type} (f : Str) (u : α) (ks : List Str) (zs : List α) : List Str × List α := match idxS f ks with
  | some i => (ks, zs.set i u)
  | none => (ks ++ [f], zs ++ [u])
theorem putF_zip {f : Str} {v : V} : ∀ {ks : List Str} {xs : List V}, ks.length = xs.length → putF f v (ks.zip xs) = (putI f v ks xs).1.zip (putI f v ks xs).2 ∧ (putI f v ks xs).1.length = (putI f v ks xs).2.length
  | [], [], _ => ⟨rfl, rfl⟩
  | [], _ :: _, h => by cases h
  | _ :: _, [], h => by cases h
  | g :: ks, x :: xs, h => by
    have h' : ks.length = xs.length := by simpa using h
    obtain ⟨i1, i2⟩ := putF_zip (f := f) (v := v) h'
    by_cases q : g = f
    · have e : putI f v (g :: ks) (x :: xs) = (g :: ks, v :: xs) := by unfold putI idxS; rw [if_pos q]; rfl
      rw [e]
      refine ⟨?_, by simpa using h'⟩
      show putF f v ((g, x) :: ks.zip xs) = _
      unfold putF
      rw [if_pos q]
      rfl
    · have e : putI f v (g :: ks) (x :: xs) = (g :: (putI f v ks xs).1, x :: (putI f v ks xs).2) := by
        unfold putI
        rw [show idxS f (g :: ks) = (idxS f ks).map (· + 1) from by rw [idxS, if_neg q]]
        cases idxS f ks <;> rfl
      rw [e]
      refine ⟨?_, by simpa using i2⟩
      show putF f v ((g, x) :: ks.zip xs) = _
      unfold putF
      rw [if_neg q, i1]
      rfl
theorem rwA_putI {K : Fg} {M : Addr → Prop} {H : Hp} {f : Str} {v : V} {u : Z} {ks : List Str} {xs : List V} {zs : List Z} (r : Rw K M H v u) (rs : RwA K M H xs zs) : (putI f v ks xs).1 = (putI f u ks zs).1 ∧ RwA K M H (putI f v ks xs).2 (putI f u ks zs).2 := by
  unfold putI
  cases idxS f ks with
  | some i => exact ⟨rfl, rs.set i r⟩
  | none => exact ⟨rfl, rs.app (.cons r .nil)⟩
/-- a class whose instances are plain, and have these fields alone by their dict -/
structure AtC (K : Fg) (D : Addr) (fs : List Str) : Prop where
  cls : Cls K D
  no : ∀ f ∈ fs, NoAttr K D f
theorem AtC.get {K : Fg} {D : Addr} {fs : List Str} {f : Str} (h : AtC K D fs) (hf : f ∈ fs) : Cls K D ∧ NoAttr K D f := ⟨h.cls, h.no f hf⟩
section
variable {C : Ct} {y : S} {te tv : TE} {Q : Z → S → Prop} {f : Str}
def SetP (C : Ct) (f : Str) (u : Z) (R : S → Prop) (z : Z) (y2 : S) : Prop := ∃ (a : Addr) (j : Nat) (b : Bool) (D : Addr) (ks : List Str) (zs : List Z) (ks' : List Str) (zs' : List Z), z = .lab a ∧ y2.m[j]? = some ⟨a, b, .ins D ks zs⟩ ∧ (Cls C.K D ∧ NoAttr C.K D f) ∧ ks.length < 1000 ∧ putI f u ks zs = (ks', zs') ∧ R ⟨y2.l, y2.m.set j ⟨a, b, .ins D ks' zs'⟩⟩
theorem wS_fld {e : En} (w : wE C tv y fun u y1 => wE C te y1 (SetP C f u e.nx)) :
    wS C (sFld C.K te tv f) y e := by
  intro F σ H E st wd k
  refine w F σ H _ wd fun v H1 u y1 w1 g1 s1 r1 w' => ?_
  refine w' F σ H1 _ w1 fun v2 H2 z y2 w2 g2 s2 r2 ⟨a, j, b, D, ks, zs, ks', zs', ez, hj, ⟨hc, hn⟩, hl, hp, q⟩ => ?_
  subst ez
  cases (r2 : Rw C.K (Mv F σ y2) H2 v2 (.lab a))
  obtain ⟨dx, xs, h1, h2, h3⟩ := (w2.cell _ (List.mem_of_getElem? hj) : CellOk C.K (Mv F σ y2) H2 a (.ins D ks zs))
  obtain ⟨p1, p2⟩ := putF_zip (f := f) (v := v) h2
  have ru : Rw C.K (Mv F σ y2) H2 v u := (r1.go g2).w
  refine ⟨a, D, dx, _, rfl, h1, hc, hn, by rw [List.length_zip]; omega, ?_⟩
  obtain ⟨w3, g3, s3⟩ := w2.cmut (H' := upd H2 a (.ins D dx (putF f v (ks.zip xs)))) (c' := .ins D ks' zs') hj rfl rfl (fun b o n e => by rw [upd_ne n]; exact e) fun M _ g => by
    obtain ⟨q1, q2⟩ := rwA_putI (f := f) (ks := ks) (ru.go g) (h3.go g)
    rw [hp] at q1 q2
    refine ⟨dx, (putI f v ks xs).2, ?_, ?_, q2⟩
    · rw [upd_same, p1, q1]
    · show ks'.length = _
      rw [← p2, q1]
  exact k.nx _ _ _ w3 ((g1.trans g2).trans g3) q
end
end Ux

set_option maxRecDepth 100000
set_option maxHeartbeats 4000000
/-! defs with several truths as defaults, called in any way: by places, by names in any order, left out -/
namespace Ux
open PySem PySem.Spec PyProof.Rows L2 Tq
/-- what a parameter is handed: the thing told at a place, a default -/
inductive Sl
  | at (i : Nat)
  | df (j : Nat) (b : Bool)
def Sl.ok (n : Nat) (dbs : List Bool) : Sl → Bool
  | .at i => decide (i < n)
  | .df j b => decide (dbs[j]? = some b)
def permU (sel : List Sl) (us its : List Value) : List Value := sel.map fun
  | .at i => us.getD i .none
  | .df j _ => its.getD j .none
structure Shp where
  m : Nat
  ks : List Str
  sel : List Sl
def dfU (dbs : List Bool) : List Value := dbs.map Value.bool
structure DfM (K : Fg) (mg : Str → Option Value) (x : Str) (st : Stmt) (ps : List Str) (dbs : List Bool) (shs : List Shp) : Prop where
  ex : ∃ (f : Addr) (fd : FuncData), FunD K x x (defArgs st) (defBody st) (defScope st) (dbs.map V.bl) [] f fd ∧ mg x = some (.ref f) ∧
    ∀ sh ∈ shs, sh.sel.all (Sl.ok (sh.m + sh.ks.length) dbs) = true ∧ ∀ (s : Shared) (us ws : List Value), K.In s.heap → us.length = sh.m → ws.length = sh.ks.length → BindsTo s fd ⟨us, sh.ks.zip ws⟩ (ps.zip (permU sh.sel (us ++ ws) (dfU dbs)))
structure CalM (P : Program) (w : World) (K : Fg) (mg : Str → Option Value) (base : Heap) (k : Nat) (x : Str) (ps : List Str) (sp : Sp) (dbs : List Bool) (shs : List Shp) : Prop where
  ex : ∃ (f : Addr) (fd : FuncData), Tq.FnG P w K mg base (L2.CX P w) k f fd ps sp ∧ mg x = some (.ref f) ∧ PySem.W.keepIn K (.ref f) = true ∧
    ∀ sh ∈ shs, sh.sel.all (Sl.ok (sh.m + sh.ks.length) dbs) = true ∧ ∀ (s : Shared) (us ws : List Value), K.In s.heap → us.length = sh.m → ws.length = sh.ks.length → BindsTo s fd ⟨us, sh.ks.zip ws⟩ (ps.zip (permU sh.sel (us ++ ws) (dfU dbs)))
theorem getD_rel {vs : List V} {us : List Value} (r : Vals vs us) (i : Nat) (h : i < vs.length) : RelV (vs.getD i .non) (us.getD i .none) := by
  induction r generalizing i with
  | nil => exact absurd h (by simp)
  | @cons v u vs us rv r ih =>
    cases i with
    | zero => exact rv
    | succ i => exact ih i (by simpa using h)
section
variable {P : Program} {w : World} {K : Fg} {mg : Str → Option Value} {base : Heap} {k : Nat} {x : Str} {ps N : List Str} {sp : Sp} {st : Stmt} {dbs : List Bool} {shs : List Shp}
end
section
variable {C : Ct} {y : S} {te tk : TA} {Q : Z → S → Prop} {n : Nat} {pre : List Z → List D → Prop} {post : List Z → List D → Z → Prop} {xp : List Z → List D → Ex → Prop} {sh : Shp}
theorem rw_at {K : Fg} {M : Addr → Prop} {H : Hp} {vs : List V} {zs : List Z} (r : RwA K M H vs zs) {i : Nat} (h : i < zs.length) : Rw K M H (vs.getD i .non) (zs.getD i (.d .none)) := by
  obtain ⟨v, h1, h2⟩ := r.get (i := i) (z := zs[i]) (by simp [h])
  rw [List.getD_eq_getElem?_getD, List.getD_eq_getElem?_getD, h1]
  simp [h]
  exact h2
end
end Ux

set_option maxRecDepth 100000
set_option maxHeartbeats 4000000
/-! calls of defs of classes: C(..), C.m(..), o.m(..) that may raise; defaults of any plain kind, in any shape of call -/
namespace Ux
open PySem PySem.Spec PyProof.Rows L2 Tq
inductive Dv where
  | n
  | b (x : Bool)
  | i (x : Int)
  | s (x : Str)
def Dv.v : Dv → V
  | .n => .non
  | .b x => .bl x
  | .i x => .int x
  | .s x => .str x
def Dv.d : Dv → D
  | .n => .none
  | .b x => .bool x
  | .i x => .int x
  | .s x => .str x
theorem Dv.rp {K : Fg} {M : Addr → Prop} {H : Hp} (x : Dv) : Rp K M H x.v x.d := by cases x <;> constructor
/-- what a parameter is handed: the thing told at a place, a default -/
inductive Sq
  | at (i : Nat)
  | df (j : Nat)
def Sq.ok (n q : Nat) : Sq → Bool
  | .at i => decide (i < n)
  | .df j => decide (j < q)
def qermU (sel : List Sq) (us its : List Value) : List Value := sel.map fun
  | .at i => us.getD i .none
  | .df j => its.getD j .none
def qermV (dvs : List Dv) (sel : List Sq) (vs : List V) : List V := sel.map fun
  | .at i => vs.getD i .non
  | .df j => (dvs.map Dv.v).getD j .non
def qermZ (dvs : List Dv) (sel : List Sq) (zs : List Z) : List Z := sel.map fun
  | .at i => zs.getD i (.d .none)
  | .df j => ((dvs.map fun x => Z.d x.d)).getD j (.d .none)
/-- m things by place (the object itself, too), the names of the others -/
structure Shq where
  m : Nat
  ks : List Str
  sel : List Sq
def BnQ (K : Fg) (fd : FuncData) (ps : List Str) (dvs : List Dv) (sh : Shq) : Prop := sh.sel.all (Sq.ok (sh.m + sh.ks.length) dvs.length) = true ∧ ∃ its : List Value, Vals (dvs.map Dv.v) its ∧
  ∀ (s : Shared) (us ws : List Value), K.In s.heap → us.length = sh.m → ws.length = sh.ks.length → BindsTo s fd ⟨us, sh.ks.zip ws⟩ (ps.zip (qermU sh.sel (us ++ ws) its))
theorem qerm_rel {n : Nat} {dvs : List Dv} {vs : List V} {us its : List Value} (r : Vals vs us) (hn : vs.length = n) (ri : Vals (dvs.map Dv.v) its) : ∀ sel : List Sq, sel.all (Sq.ok n dvs.length) = true → Vals (qermV dvs sel vs) (qermU sel us its)
  | [], _ => .nil
  | s :: sel, h => by
    rw [List.all_cons, Bool.and_eq_true] at h
    refine .cons ?_ (qerm_rel r hn ri sel h.2)
    cases s with
    | «at» i => exact getD_rel r i (by rw [hn]; exact of_decide_eq_true h.1)
    | df j => exact getD_rel ri j (by rw [List.length_map]; exact of_decide_eq_true h.1)
/-- a def of a class with defaults, as the top has it -/
structure DfQ (K : Fg) (x qual : Str) (st : Stmt) (ps : List Str) (dvs : List Dv) (shs : List Shq) (f : Addr) : Prop where
  ex : ∃ fd : FuncData, FunD K x qual (defArgs st) (defBody st) (defScope st) (dvs.map Dv.v) [] f fd ∧ ∀ sh ∈ shs, BnQ K fd ps dvs sh
structure CalQ (P : Program) (w : World) (K : Fg) (mg : Str → Option Value) (base : Heap) (CX : CXT) (k : Nat) (ps : List Str) (sp : Sp) (dvs : List Dv) (shs : List Shq) (f : Addr) : Prop where
  ex : ∃ fd : FuncData, FnG P w K mg base CX k f fd ps sp ∧ PySem.W.keepIn K (.ref f) = true ∧ ∀ sh ∈ shs, BnQ K fd ps dvs sh
section
variable {P : Program} {w : World} {K : Fg} {mg : Str → Option Value} {base : Heap} {j k : Nat} {x qual : Str} {ps N : List Str} {sp : Sp} {st : Stmt} {dvs : List Dv} {shs : List Shq} {C f : Addr}
theorem DfQ.ok (d : DfQ K x qual st ps dvs shs f) (Sc : FnScope N ps (defScope st)) (len : ∀ vs H Q E, sp vs H Q E → vs.length = ps.length)
    (hbody : ∀ (cdv : Value) (A : Around) (outer : List Env) (s : Shared) (H : Hp) (vs : List V) (Q : VK) (E : XK), Room k (A.deeper (envOfC qual (defScope st) s.heap.objs.size f cdv)) →
      (A.deeper (envOfC qual (defScope st) s.heap.objs.size f cdv)).guards = some [] → sp vs H Q E →
      ∃ t, PSs (cxOf (L2.CX P w) P w K mg base N qual (defScope st) f cdv A outer s H E) (defBody st) t ∧ t { nx := fun _ G => Q .non G, rt := Q } (start N vs) H) : CalQ P w K mg base (L2.CX P w) (k + 1) ps sp dvs shs f := by
  obtain ⟨fd, F, hb⟩ := d.ex
  have kp := F.kp
  obtain ⟨oc, od, dV, kV, doc, pm, an, cdv, ct, osl, rfl, lk, hcd, _, _⟩ := F.ex
  exact ⟨_, Tq.fn_ofG lk hcd Sc len fun A outer s H vs Q E hr hgu hsp => hbody cdv A outer s H vs Q E hr hgu hsp, kp, hb⟩
end
theorem dfq_mk {K : Fg} {h : Heap} {x qual : Str} {ps : List Str} {st : Stmt} {f T : Addr} {od od2 an : Option Addr} {sl sl2 : Array (Option Value)} {oc oc2 kV dc pm cd ct : Value} {dvs : List Dv} {its : List Value} {shs : List Shq} {n : Nat} (X : K.In h)
    (hd : dvs ≠ []) (rv : Vals (dvs.map Dv.v) its)
    (hb : ∀ sh ∈ shs, sh.sel.all (Sq.ok (sh.m + sh.ks.length) dvs.length) = true ∧ ∀ (T : Addr) (kV doc pm : Value) (an : Option Addr) (cdv ct : Value) (us ws its : List Value), us.length = sh.m → ws.length = sh.ks.length → its.length = dvs.length →
      ∃ k, bindArgs (PySem.W.fnOf x qual (defArgs st) (defBody st) (defScope st) (.ref T) kV doc pm an cdv ct) ⟨us, sh.ks.zip ws⟩ = seqItems? (.ref T) >>= k ∧ k (some its.toArray) = pure (ps.zip (qermU sh.sel (us ++ ws) its)))
    (l : K.lookup f = some ⟨oc, od, .func (PySem.W.fnOf x qual (defArgs st) (defBody st) (defScope st) (.ref T) kV dc pm an cd ct), sl⟩) (lT : K.lookup T = some ⟨oc2, od2, .seq its.toArray n, sl2⟩)
    (c : PySem.W.codeIn K cd qual = true) (k : PySem.W.keepIn K (.ref f) = true) : DfQ K x qual st ps dvs shs f := by
  have F : FunD K x qual (defArgs st) (defBody st) (defScope st) (dvs.map Dv.v) [] f (PySem.W.fnOf x qual (defArgs st) (defBody st) (defScope st) (.ref T) kV dc pm an cd ct) :=
    ⟨⟨oc, od, .ref T, kV, dc, pm, an, cd, ct, sl, rfl, l, c, .inr ⟨by intro z; exact hd (List.map_eq_nil_iff.mp z), T, _, its, n, rfl, lT, rfl, rv⟩, .inl rfl⟩, k⟩
  refine ⟨_, F, fun sh hs => ⟨(hb sh hs).1, its, rv, fun s us ws X l1 l2 => ?_⟩⟩
  obtain ⟨k, e1, e2⟩ := (hb sh hs).2 T kV dc pm an cd ct us ws its l1 l2 (by rw [← rv.length, List.length_map])
  refine BindsTo.of_looks fun M => ?_
  show PySem.W.Looks M s.heap (bindArgs _ ⟨us, sh.ks.zip ws⟩) _
  rw [e1]
  exact looks_items X lT rfl (.of_pure e2)
/-! ### C(es, kws) -/
def tMkG (C : Addr) (dvs : List Dv) (sh : Shq) (sp : Sp) (E : L2.St → XK) (te tk : TA) : TE := fun σ H Q => te σ H fun vs H1 => tk σ H1 fun zs H2 => vs.length + 1 = sh.m ∧ zs.length = sh.ks.length ∧
  ∀ x dx, H2 x = none → H2 dx = none → dx ≠ x → sp (qermV dvs sh.sel (.ref x :: (vs ++ zs))) (upd (upd H2 dx (.own x)) x (.ins C dx [])) (fun v H3 => v = .non ∧ Q (.ref x) H3) (E σ)
theorem make_guards {A : Around} {C : Addr} {us : List Value} {kw : List (Str × Value)} : (A.under (.builtin "type.__call__" ⟨.ref C :: us, kw⟩)).guards = A.guards := by
  first | rfl | simp [Around.under, Code.guards, Code.isGuard, pushGuards, guardIds]
section
variable {X : Cx} {k : Nat} {f D : Addr} {ps : List Str} {dvs : List Dv} {shs : List Shq} {sp : Sp} {x m : Str} {p p1 p2 pos : Pos} {e : Expr} {es : List Expr} {kws : List Keyword} {te tk2 : TA} {W : WX}
theorem run_mkG {sh : Shq} {pins : List (Addr × Obj)} {σ : L2.St} {H : Hp} {s : Shared} {Q : VK} {us ws : List Value} {vs zs : List V} (M : Mk X.K D f) (c : CalQ X.prog X.w X.K X.mg X.base (L2.CX X.prog X.w) k ps sp dvs shs f) (hs : sh ∈ shs) (hr : Room (k + 1) X.A) (hgu : X.A.guards = some []) (tk : Takes X W)
    (I : Inv X pins σ H s) (r : Vals vs us) (rz : Vals zs ws) (l1 : vs.length + 1 = sh.m) (l2 : zs.length = sh.ks.length)
    (h : ∀ x dx, H x = none → H dx = none → dx ≠ x → sp (qermV dvs sh.sel (.ref x :: (vs ++ zs))) (upd (upd H dx (.own x)) x (.ins D dx [])) (fun v H2 => v = .non ∧ Q (.ref x) H2) (WE W σ)) :
    wpAny (model X.prog X.w) X.A (call (.ref D) us (sh.ks.zip ws)) (EP X pins σ Q) X.xe s := by
  obtain ⟨fd, F, _, hb⟩ := c.ex
  obtain ⟨ho, its, ri, hb⟩ := hb sh hs
  have hq := h (s.heap.objs.size + 1) s.heap.objs.size (I.hok.fresh (Nat.le_succ _)) (I.hok.fresh (Nat.le_refl _)) (Nat.ne_of_lt (Nat.lt_succ_self _))
  have I2 := Inv.made (C := D) I
  have r1 : Vals (V.ref (s.heap.objs.size + 1) :: (vs ++ zs)) (Value.ref (s.heap.objs.size + 1) :: (us ++ ws)) := .cons rfl (r.append rz)
  have r2 := qerm_rel r1 (n := sh.m + sh.ks.length) (by rw [List.length_cons, List.length_append, ← l1, ← l2]; omega) ri sh.sel ho
  have e1 : (Value.ref (s.heap.objs.size + 1) :: us).length = sh.m := by rw [List.length_cons, ← r.length]; exact l1
  have e2 : ws.length = sh.ks.length := rz.length.symm.trans l2
  refine wpAny_call (make_map (f := f) I.kIn M.makes M.init (beq_iff_eq.mp M.fn) (codeAny_mono (F.run _ X.stack _ _ ⟨Value.ref (s.heap.objs.size + 1) :: us, sh.ks.zip ws⟩ (qermU sh.sel (Value.ref (s.heap.objs.size + 1) :: (us ++ ws)) its) _ _ (WE W σ) (hr.make D us (sh.ks.zip ws))
    (make_guards.trans hgu) (I2.env0.make D us (sh.ks.zip ws)) (hb _ (Value.ref (s.heap.objs.size + 1) :: us) ws I2.kIn e1 e2) r2 hq) fun r s' hq' => ?_))
  cases r with
  | error e => exact passAt tk σ pins _ _ e s' I2 hq'
  | ok fl =>
    cases fl with
    | ret u =>
      obtain ⟨v, H', I3, rv, ev, q3⟩ := I2.after hq'
      subst ev
      exact ⟨rv, ⟨V.ref (s.heap.objs.size + 1), H', I3, rfl, q3⟩⟩
    | next => exact False.elim hq'
    | brk => exact False.elim hq'
    | cont => exact False.elim hq'
theorem pe_mkG (sh : Shq) (M : Mk X.K D f) (c : CalQ X.prog X.w X.K X.mg X.base (L2.CX X.prog X.w) k ps sp dvs shs f) (hs : sh ∈ shs) (hr : Room (k + 1) X.A) (hgu : X.A.guards = some []) (hg : Gl X x) (hm : X.mg x = some (.ref D)) (tk : Takes X W) (ha : PA X (e :: es) te) (hkw : PK X kws tk2)
    (hall : (backToKw pos (keywordEach kws X.env)).all (·.1.isSome) = true := by rfl) (hks : (backToKw pos (keywordEach kws X.env)).filterMap (·.1) = sh.ks := by rfl)
    (hdb : (x == ("__debug__" : Str)) = false := by decide) (he : starEach (e :: es) X.env = (false, eval e X.env) :: starEach es X.env := by rfl)
    (hpl : ((backTo pos (starEach (e :: es) X.env)).any (·.1) || (backToKw pos (keywordEach kws X.env)).any (·.1.isNone)) = false := by rfl) :
    PE X (.Call (.Name x p) (e :: es) kws pos) (tMkG D dvs sh sp (WE W) te tk2) := by
  refine ⟨fun pins s σ H Q I h => ?_⟩
  refine wpAny_Call_Name_kw (ld_glob I hg hm ?_ hdb)
  refine PySem.W.callWith_KW (h₀ := X.base) I.ok.mod.kin M.kp hall (thn (ha.run pos pins s σ H _ I h) fun us s1 ⟨vs, H1, I1, r, q⟩ => ?_) hpl he
  refine thn (hkw.run pos pins s1 σ H1 _ I1 q) fun ws s2 ⟨zs, H2, I2, rz, l1, l2, q2⟩ => ⟨I2.kIn, ?_⟩
  rw [hks]
  exact run_mkG M c hs hr hgu tk I2 r rz l1 l2 q2
/-! ### C.m(e, ..), the def read off the class -/
structure ClF (K : Fg) (mg : Str → Option Value) (x m : Str) (f : Addr) : Prop where
  ex : ∃ T : Addr, mg x = some (.ref T) ∧ PySem.W.readsIn K T (.type "type") = true ∧ PySem.W.specialIn K (.ref T) "__getattribute__" = some (some (.builtin "type.__getattribute__")) ∧
    PySem.W.findCls K (.ref T) (.type "type") m = some (.val (.ref f)) ∧ PySem.W.keepIn K (.ref f) = true
/-! ### o.m(e, ..), may raise -/
def tMethX (tab : List (Addr × Sp)) (m : Str) (E : L2.St → XK) (ta : TE) (t : TA) : TE := fun σ H Q => ta σ H fun x H1 => ∃ a C dx fs sp, x = .ref a ∧ H1 a = some (.ins C dx fs) ∧ fs.lookup m = none ∧ (C, sp) ∈ tab ∧ t σ H1 fun vs H2 => sp (x :: vs) H2 Q (E σ)
variable {o : Expr} {apos : Pos} {tab : List (Addr × Sp)} {ta : TE}
theorem pe_methX {pl : Sem Bool} (V : VTab X.prog X.w X.K X.mg X.base (L2.CX X.prog X.w) k m tab) (hr : Room k X.A) (hgu : X.A.guards = some []) (tk : Takes X W) (he : PE X o ta) (ha : PA X (e :: es) te)
    (hst : starEach (e :: es) X.env = (false, eval e X.env) :: starEach es X.env := by rfl) (hpl : (backTo pos (starEach es X.env)).any (·.1) = false := by rfl)
    (ht : eval (.Call (.Attribute o m apos) (e :: es) [] pos) X.env = (do
      let ov ← eval o X.env
      standAt apos.atName
      let (f, first) ← holding [ov] (getMethod ov m pl)
      callWith pos f first (backTo pos (starEach (e :: es) X.env)) (backToKw pos (keywordEach [] X.env))) := by rfl) :
    PE X (.Call (.Attribute o m apos) (e :: es) [] pos) (tMethX tab m (WE W) ta te) := by
  refine ⟨fun pins s σ H Q I h => ?_⟩
  refine PySem.W.methodCall_KW (pl := pl) (thn (he.run pins s σ H _ I h) fun u s1 ⟨x, H1, I1, rx, a, C, dx, fs, sp, ex, ea, l, hm, q⟩ => ?_) ht
  subst ex
  obtain rfl : u = Value.ref a := rx
  obtain ⟨c, f, fd, ps, km, F, hb⟩ := V _ hm
  refine getmeth_ok I1 ea c km l ?_
  refine PySem.W.callWith_K (first := [.ref a]) (h₀ := X.base) I.ok.mod.kin km.kp (thn (ha.run pos pins s1 σ H1 _ I1 q) fun us s2 ⟨vs, H2, I2, r, q2⟩ => ⟨I2.kIn, ?_⟩) hst hpl
  exact run_fnSG (us := .ref a :: us) (vs := .ref a :: vs) (E := WE W) F hr hgu hb (passAt tk σ) I2 (.cons rfl r) q2
theorem pe_methX0 {pl : Sem Bool} (V : VTab X.prog X.w X.K X.mg X.base (L2.CX X.prog X.w) k m tab) (hr : Room k X.A) (hgu : X.A.guards = some []) (tk : Takes X W) (he : PE X o ta)
    (ht : eval (.Call (.Attribute o m apos) [] [] pos) X.env = (do
      let ov ← eval o X.env
      standAt apos.atName
      let (f, first) ← holding [ov] (getMethod ov m pl)
      callWith pos f first (backTo pos (starEach [] X.env)) (backToKw pos (keywordEach [] X.env))) := by rfl) :
    PE X (.Call (.Attribute o m apos) [] [] pos) (tMethX tab m (WE W) ta tNil) := by
  refine ⟨fun pins s σ H Q I h => ?_⟩
  refine PySem.W.methodCall_KW (pl := pl) (thn (he.run pins s σ H _ I h) fun u s1 ⟨x, H1, I1, rx, a, C, dx, fs, sp, ex, ea, l, hm, q⟩ => ?_) ht
  subst ex
  obtain rfl : u = Value.ref a := rx
  obtain ⟨c, f, fd, ps, km, F, hb⟩ := V _ hm
  refine getmeth_ok I1 ea c km l ?_
  exact PySem.W.callWith_K0 (first := [.ref a]) I1.kIn km.kp (run_fnSG (us := [.ref a]) (vs := [.ref a]) (E := WE W) F hr hgu hb (passAt tk σ) I1 (.cons rfl .nil) q)
end
/-! ### the rules -/
section
variable {C : Ct} {y : S} {te : TE} {ts tk : TA} {Q : Z → S → Prop} {m : Str}
theorem rw_qerm {K : Fg} {M : Addr → Prop} {H : Hp} {dvs : List Dv} {vs : List V} {zs : List Z} (r : RwA K M H vs zs) : ∀ sel : List Sq, sel.all (Sq.ok zs.length dvs.length) = true → RwA K M H (qermV dvs sel vs) (qermZ dvs sel zs)
  | [], _ => .nil
  | s :: sel, h => by
    rw [List.all_cons, Bool.and_eq_true] at h
    refine .cons ?_ (rw_qerm r sel h.2)
    cases s with
    | «at» i => exact rw_at r (of_decide_eq_true h.1)
    | df j =>
      have hj : j < dvs.length := of_decide_eq_true h.1
      show Rw K M H ((dvs.map Dv.v).getD j .non) ((dvs.map fun x => Z.d x.d).getD j (.d .none))
      rw [List.getD_eq_getElem?_getD, List.getD_eq_getElem?_getD, List.getElem?_map, List.getElem?_map, List.getElem?_eq_getElem hj]
      exact .d (Dv.rp _)
/-- a new object -/
theorem mk_store {F : Fr} {σ : L2.St} {H : Hp} {x dx D : Addr} (w : Wd C F σ y H) (hx : H x = none) (hdx : H dx = none) (ne : dx ≠ x) :
    Wd C F σ ⟨y.l, y.m ++ [⟨x, true, .ins D [] []⟩]⟩ (upd (upd H dx (.own x)) x (.ins D dx [])) ∧ Go F σ y H σ ⟨y.l, y.m ++ [⟨x, true, .ins D [] []⟩]⟩ (upd (upd H dx (.own x)) x (.ins D dx [])) := by
  have gr : ∀ a u, H a = some u → upd (upd H dx (.own x)) x (.ins D dx []) a = some u := fun a u e => by
    rw [upd_ne (ne_of_none e hx), upd_ne (ne_of_none e hdx)]; exact e
  exact xn_call (nw := [(x, .ins D [] [])]) w gr (fun e he => by rw [List.mem_singleton] at he; subst he; exact hx) (List.pairwise_singleton _ _)
    (fun e he => by rw [List.mem_singleton] at he; subst he; exact ⟨dx, [], upd_same, rfl, .nil⟩)
/-! ### isinstance(o, T), o an own object -/
structure IsiC (K : Fg) (D : Addr) : Prop where
  cl : Cls K D
  ha : PySem.W.findIn K (.ref D) "__class__" = some (some (.builtin "object.__class__"))
  hn : PySem.W.specialIn K (.builtin "object.__class__") "__get__" = some (some (.builtin "getset_descriptor.__get__"))
  htk : PySem.W.takesIn K (.builtin "object.__class__") = some true
  hm : PySem.W.mroIn K D (.type "object") = some true
def rIsC (K : Fg) : List V → Hp → VK → Prop := fun xs H Q => ∃ (a D dx T : Addr) (fs : List (Str × V)) (b : Bool), xs = [.ref a, .ref T] ∧ H a = some (.ins D dx fs) ∧ IsiC K D ∧ PySem.W.kitOne K (.ref D) (.ref T) = some b ∧ Q (.bl b) H
theorem call_isC {X : Cx} : CallR X (.builtin "isinstance") (rIsC X.K) := by
  intro pins s σ H xs us Q I r h
  obtain ⟨a, D, dx, T, fs, b, rfl, hd, ic, e, q⟩ := h
  cases r with
  | cons rx rr =>
    cases rr with
    | cons rt rr =>
      cases rr
      cases rx
      cases rt
      exact isinst_ok (x := .ref a) I rfl (.ins hd ic.cl ic.ha ic.hn ic.htk ic.hm) e fun tk => ⟨.bl b, H, I.kept (t' := tk) fun _ _ z => z, rfl, q⟩
def tIsC (K : Fg) (te : TE) (T : Addr) : TE := tCB (rIsC K) (tCons te (tCons (tC (.ref T)) tNil))
theorem zIC {X : Cx} {e : Expr} {K : Fg} {te : TE} {T : Addr} (h : PE X e (tCB (rIsC K) (tCons te (tCons (tC (.ref T)) tNil)))) : PE X e (tIsC K te T) := h
/-! ### list(x) of a thing, a new list of ours -/
def tListR (K : Fg) (t : TA) : TE := tCB (rListD K) t
theorem zListR {X : Cx} {e : Expr} {K : Fg} {t : TA} (h : PE X e (tCB (rListD K) t)) : PE X e (tListR K t) := h
theorem xE_listR {te : TE} (w : wE C te y fun z y1 => ∃ d xs, Res y1.m z d ∧ dItems d = some xs ∧ ∀ p, Q (.lab p) ⟨y1.l, y1.m ++ [⟨p, true, .lst (xs.map Z.d)⟩]⟩) : wE C (tListR C.K (tCons te tNil)) y Q := by
  intro F σ H K wd k
  refine w F σ H _ wd fun x H1 z y1 w1 g1 s1 r1 ⟨d, xs, hr, hx, hq⟩ => ?_
  have key : ∃ a us, x = .ref a ∧ (SqL C.K H1 a us ∨ SqT C.K H1 a us) ∧ RpA C.K (Mv F σ y1) H1 us xs := by
    cases hr with
    | d d =>
      obtain ⟨a, us, rfl, h1, h2⟩ := rp_items r1 hx
      exact ⟨a, us, rfl, h1.elim (fun z => .inl z.sq) (fun z => .inr z.sq), h2⟩
    | @lab e d he hc =>
      have r1w := r1.w
      cases r1w
      have ok := w1.cell e he
      generalize e.c = c at hc ok
      induction hc with
      | lst ds =>
        cases hx
        obtain ⟨us, h1, h2⟩ := ok
        exact ⟨_, us, rfl, .inl (SqL.of h1), h2.ds⟩
      | dic kvs => cases hx
      | ro _ ih => exact ih hx ok
  obtain ⟨a, us, rfl, h1, h2⟩ := key
  refine ⟨a, us, rfl, h1, fun p hp => ?_⟩
  obtain ⟨w2, g2, s2⟩ := w1.cnew (o := .lst us) (c := .lst (xs.map Z.d)) (b := true) hp fun M g => ⟨us, upd_same, (RwA.of h2).go g⟩
  exact k _ _ (.lab p) _ w2 (g1.trans g2) (s1.trans s2) (.lab p) (hq p)
/-! ### a thing of a tuple, a list of ours read -/
theorem g_end {q : Z → AC → AC → Prop} {m m' nw : AC} {z : Z} {y : S} {A : List Cl} (h : q z m' nw) (sm : Same m m') (rn : ∀ e ∈ nw, e.2.isRo = false) (e : y.m = toCl false m' ++ A ++ toCl true nw) : gEnd q m z y :=
  ⟨m', nw, h, sm, rn, by rw [e, List.append_assoc]; exact List.subset_append_left _ _, by rw [e]; exact List.sublist_append_right _ _⟩
theorem g_end0 {q : Z → AC → AC → Prop} {m m' : AC} {z : Z} {y : S} {A : List Cl} (h : q z m' []) (sm : Same m m') (e : y.m = toCl false m' ++ A) : gEnd q m z y :=
  g_end (A := A) (nw := []) h sm (by simp) (by rw [e]; simp [toCl])
end
end Ux

set_option maxRecDepth 100000
set_option maxHeartbeats 4000000
/-! objects with fields that never change once they are made (numbers with a root): made, read, their methods called; calls that are told nothing of the rest of the store -/
namespace Ux
open PySem PySem.Spec PyProof.Rows L2 Tq
/-! ### calls that are told nothing of the rest of the store -/
section
variable {ι : Type} {K : Fg} {n : Nat} {pre : ι → AC → List Cl → List Z → Prop} {post : ι → AC → List Cl → List Z → Z → AC → AC → Prop} {xp : ι → AC → List Cl → List Z → Ex → AC → AC → Prop}
theorem gSp_r0 {vs : List V} {H : Hp} {Q : VK} {E : XK} (h : gSp K n (fun i m _ zs => pre i m [] zs) (fun i m _ zs => post i m [] zs) (fun i m _ zs => xp i m [] zs) vs H Q E) : gSp K n pre post xp vs H Q E := by
  obtain ⟨i, M, m, r, zs, al, rr, cm, cr, pw, hl, hp, k1, k2⟩ := h
  refine ⟨i, M, m, [], zs, al, rr, cm, fun e he => (nomatch he), ?_, hl, hp, k1, k2⟩
  rw [List.append_nil]
  exact (List.pairwise_append.mp pw).1
end
/-- how a call that changes nothing stands to the store at y1 -/
def gCall0 {ι : Type} (C : Ct) (n : Nat) (pre : ι → AC → List Cl → List Z → Prop) (post : ι → AC → List Cl → List Z → Z → AC → AC → Prop) (xp : ι → AC → List Cl → List Z → Ex → AC → AC → Prop) (zs : List Z) (y1 : S) (Q : Z → S → Prop) (X : Ex → S → Prop) : Prop :=
  ∃ i, zs.length = n ∧ pre i [] [] zs ∧ (∀ z nw, post i [] [] zs z [] nw → (∀ e ∈ nw, e.2.isRo = false) → Q z ⟨y1.l, y1.m ++ toCl true nw⟩) ∧
    ∀ ex nw, xp i [] [] zs ex [] nw → (∀ e ∈ nw, e.2.isRo = false) → X ex ⟨y1.l, y1.m ++ toCl true nw⟩
/-- a call that changes the things m of the store -/
def gCall1 {ι : Type} (C : Ct) (n : Nat) (pre : ι → AC → List Cl → List Z → Prop) (post : ι → AC → List Cl → List Z → Z → AC → AC → Prop) (xp : ι → AC → List Cl → List Z → Ex → AC → AC → Prop) (zs : List Z) (y1 : S) (Q : Z → S → Prop) (X : Ex → S → Prop) : Prop :=
  gCall C n (fun i m _ zs => pre i m [] zs) (fun i m _ zs => post i m [] zs) (fun i m _ zs => xp i m [] zs) zs y1 Q X
section
variable {C : Ct} {y : S} {ts tk : TA} {te : TE} {Q : Z → S → Prop} {ι : Type} {n : Nat} {pre : ι → AC → List Cl → List Z → Prop} {post : ι → AC → List Cl → List Z → Z → AC → AC → Prop} {xp : ι → AC → List Cl → List Z → Ex → AC → AC → Prop}
theorem same_nil {m' : AC} (h : Same [] m') : m' = [] := by
  have := h.1
  simpa using this
theorem gCall0.to {zs : List Z} {y1 : S} {X : Ex → S → Prop} (h : gCall0 C n pre post xp zs y1 Q X) : gCall1 C n pre post xp zs y1 Q X := by
  obtain ⟨i, hl, hp, q, x⟩ := h
  refine ⟨i, y1.m, [], [], false, by simp [toCl], fun e he => (nomatch he), hl, hp, fun z m' nw hq sm rn => ?_, fun ex m' nw hq sm rn => ?_⟩
  · cases same_nil sm
    have := q z nw hq rn
    simpa [toCl] using this
  · cases same_nil sm
    have := x ex nw hq rn
    simpa [toCl] using this
theorem wE_g1 (w : wZ C ts y fun zs y1 => gCall1 C n pre post xp zs y1 Q C.ex) : wE C (tCallS (gSp C.K n pre post xp) (WE C.W) ts) y Q := by
  intro F σ H K wd k
  refine w F σ H _ wd fun vs H1 zs y1 w1 g1 s1 r1 hc => gSp_r0 ?_
  exact g_run w1 r1 (fun v H' z y' w2 g2 s2 r q => k v H' z y' w2 (g1.trans g2) (s1.trans s2) r q) (fun ex a H' y' w2 g2 xr hx => w1.xk σ y' H' ex ex.cls (some a) w2 g2 xr hx) hc
theorem wE_g10 {E : XK} (w : wZ C ts y fun zs y1 => gCall1 C n pre post xp zs y1 Q fun _ _ => False) : wE C (tCall (gSp C.K n pre post xp) [] E ts) y Q := by
  intro F σ H K wd k
  refine w F σ H _ wd fun vs H1 zs y1 w1 g1 s1 r1 hc => ?_
  show gSp C.K n pre post xp (vs ++ []) H1 K E
  rw [List.append_nil]
  exact gSp_r0 (g_run w1 r1 (fun v H' z y' w2 g2 s2 r q => k v H' z y' w2 (g1.trans g2) (s1.trans s2) r q) (fun _ _ _ _ _ _ _ hx => hx.elim) hc)
/-! ### fields, methods of an object that never changes -/
def FldO (C : Ct) (f : Str) (Q : Z → S → Prop) (z : Z) (y1 : S) : Prop := ∃ (D : Addr) (ks : List Str) (zs : List Z) (i : Nat) (u : Z), z = .ob D ks zs ∧ (Cls C.K D ∧ NoAttr C.K D f) ∧ idxS f ks = some i ∧ zs[i]? = some u ∧ Q u y1
theorem wE_fldO {f : Str} (w : wE C te y (FldO C f Q)) : wE C (tFld C.K te f) y Q := by
  intro F σ H K wd k
  refine w F σ H _ wd fun v H1 z y1 w1 g1 s1 r1 hw => ?_
  obtain ⟨D, ks, zs, i, u, ez, ⟨hc, hn⟩, hi, hu, q⟩ := hw
  subst ez
  cases (r1 : Rw C.K (Mv F σ y1) H1 v (.ob D ks zs)) with
  | @ob a dx _ _ xs _ na ha hl rs =>
    obtain ⟨x, hx, rx⟩ := rs.get hu
    exact ⟨a, D, dx, _, x, rfl, ha, hc, hn, idxS_look hi hx, k x H1 u y1 w1 g1 s1 rx.z q⟩
def MethO (C : Ct) (m : Str) (tab : List (Addr × Sp)) (ts : TA) (Q : Z → S → Prop) (z : Z) (y1 : S) : Prop := ∃ (D : Addr) (ks : List Str) (zs : List Z) (ι : Type) (n : Nat) (pre : ι → AC → List Cl → List Z → Prop) (post : ι → AC → List Cl → List Z → Z → AC → AC → Prop) (xp : ι → AC → List Cl → List Z → Ex → AC → AC → Prop),
      z = .ob D ks zs ∧ idxS m ks = none ∧ (D, gSp C.K n pre post xp) ∈ tab ∧ wZ C ts y1 fun us y2 => gCall0 C n pre post xp (.ob D ks zs :: us) y2 Q C.ex
theorem wE_methO {m : Str} {tab : List (Addr × Sp)} (w : wE C te y (MethO C m tab ts Q)) : wE C (tMethX tab m (WE C.W) te ts) y Q := by
  intro F σ H K wd k
  refine w F σ H _ wd fun v H1 z y1 w1 g1 s1 r1 hw => ?_
  obtain ⟨D, ks, zs, ι, n, pre, post, xp, ez, hi, hm, w'⟩ := hw
  subst ez
  have r1 : Rw C.K (Mv F σ y1) H1 v (.ob D ks zs) := r1
  have r1c := r1
  cases r1 with
  | @ob a dx _ _ xs _ na ha hl rs =>
    refine ⟨a, D, dx, _, _, rfl, ha, idxS_none hi, hm, ?_⟩
    refine w' F σ H1 _ w1 fun vs H2 us y2 w2 g2 s2 r2 hc => gSp_r0 ?_
    exact g_run w2 (.cons (r1c.go g2) r2) (fun v H' z y' w3 g3 s3 r q => k v H' z y' w3 ((g1.trans g2).trans g3) ((s1.trans s2).trans s3) r q) (fun ex a H' y' w3 g3 xr hx => w2.xk σ y' H' ex ex.cls (some a) w3 g3 xr hx) hc.to
theorem wE_isCO {T : Addr} (w : wE C te y fun z y1 => ∃ (D : Addr) (ks : List Str) (zs : List Z) (r : Bool), z = .ob D ks zs ∧ IsiC C.K D ∧ PySem.W.kitOne C.K (.ref D) (.ref T) = some r ∧ Q (.d (.bool r)) y1) : wE C (tIsC C.K te T) y Q := by
  intro F σ H K wd k
  refine w F σ H _ wd fun v H1 z y1 w1 g1 s1 r1 hw => ?_
  obtain ⟨D, ks, zs, r, ez, hi, hk, q⟩ := hw
  subst ez
  cases (r1 : Rw C.K (Mv F σ y1) H1 v (.ob D ks zs)) with
  | @ob a dx _ _ xs _ na ha hl rs => exact ⟨a, D, dx, T, _, r, rfl, ha, hi, hk, k _ H1 (.d (.bool r)) y1 w1 g1 s1 (.bl r) q⟩
/-- C(..): what __init__ leaves is the object -/
def mkO (C : Ct) (D : Addr) (dvs : List Dv) (sh : Shq) (n : Nat) (pre : ι → AC → List Cl → List Z → Prop) (post : ι → AC → List Cl → List Z → Z → AC → AC → Prop) (xp : ι → AC → List Cl → List Z → Ex → AC → AC → Prop) (Q : Z → S → Prop) (us : List Z) (y2 : S) : Prop :=
  sh.sel.all (Sq.ok (sh.m + sh.ks.length) dvs.length) = true ∧ ∀ x, ∃ i, (qermZ dvs sh.sel (.lab x :: us)).length = n ∧ pre i [(x, .ins D [] [])] [] (qermZ dvs sh.sel (.lab x :: us)) ∧
    (∀ z m' nw, post i [(x, .ins D [] [])] [] (qermZ dvs sh.sel (.lab x :: us)) z m' nw → ∃ ks zs', z = .d .none ∧ m' = [(x, .ins D ks zs')] ∧ nw = [] ∧ Q (.ob D ks zs') y2) ∧
    ∀ ex m' nw, xp i [(x, .ins D [] [])] [] (qermZ dvs sh.sel (.lab x :: us)) ex m' nw → ∀ y', y'.l = y2.l → y2.m.Sublist y'.m → C.ex ex y'
theorem sub_app {m m' nw : AC} {b : Bool} {y2 : S} : y2.m.Sublist (y2.m ++ toCl b m' ++ [] ++ toCl true nw) := by
  rw [List.append_nil, List.append_assoc]
  exact List.sublist_append_left _ _
theorem wE_mkO {D : Addr} {dvs : List Dv} {sh : Shq}
    (w : wZ C ts y fun us y1 => wZ C tk y1 fun ws y2 => us.length + 1 = sh.m ∧ ws.length = sh.ks.length ∧ mkO C D dvs sh n pre post xp Q (us ++ ws) y2) : wE C (tMkG D dvs sh (gSp C.K n pre post xp) (WE C.W) ts tk) y Q := by
  intro F σ H K wd k
  refine w F σ H _ wd fun vs H1 us y1 w1 g1 s1 r1 w' => ?_
  refine w' F σ H1 _ w1 fun zs H2 ws y2 w2 g2 s2 r2 ⟨l1, l2, ho, hc⟩ => ?_
  refine ⟨by rw [r1.len]; exact l1, by rw [r2.len]; exact l2, fun x dx hx hdx ne => ?_⟩
  obtain ⟨w3, g3⟩ := mk_store (D := D) w2 hx hdx ne
  have rr : RwA C.K (Mv F σ ⟨y2.l, y2.m ++ [⟨x, true, .ins D [] []⟩]⟩) (upd (upd H2 dx (.own x)) x (.ins D dx [])) (.ref x :: (vs ++ zs)) (.lab x :: (us ++ ws)) := .cons (.lab x) (((r1.go g2).app r2).go g3)
  obtain ⟨i, hn, hp, q, qx⟩ := hc x
  refine gSp_r0 (g_run (Q := fun z y' => ∃ ks zs', z = .d .none ∧ y' = ⟨y2.l, y2.m ++ [⟨x, true, .ins D ks zs'⟩]⟩ ∧ Q (.ob D ks zs') y2) (X := fun ex y' => C.ex ex y') w3 (rw_qerm rr sh.sel ?_) (fun v H' z y' w4 g4 s4 r q => ?_) (fun ex a H' y' w4 g4 xr hx => w3.xk σ y' H' ex ex.cls (some a) w4 g4 xr hx) ⟨i, y2.m, [(x, .ins D [] [])], [], true, ?_, ?_, hn, hp, fun z m' nw hq _ _ => ?_, fun ex m' nw hq _ _ => ?_⟩)
  · rw [show (Z.lab x :: (us ++ ws)).length = sh.m + sh.ks.length by rw [List.length_cons, List.length_append, ← l1, ← l2]; omega]
    exact ho
  · obtain ⟨ks, zs', rfl, rfl, q⟩ := q
    have : v = .non := by cases (r : Rp C.K _ H' v .none); rfl
    refine ⟨this, ?_⟩
    obtain ⟨dx', xs, h1, h2, h3⟩ := (w4.cell ⟨x, true, .ins D ks zs'⟩ (List.mem_append.mpr (.inr (List.mem_singleton.mpr rfl))) : CellOk C.K _ H' x (.ins D ks zs'))
    obtain ⟨w5, g5⟩ := w4.weak (y' := y2) ⟨rfl, fun _ _ e => e, List.sublist_append_left _ _⟩
    exact k (.ref x) H' (.ob D ks zs') y2 w5 ((((g1.trans g2).trans g3).trans g4).trans g5) (s1.trans s2) (Rw.ob (w2.new hx) h1 h2 (h3.go g5)) q
  · simp [toCl]
  · intro e he
    rw [List.mem_singleton] at he
    subst he
    rfl
  · obtain ⟨ks, zs', h1, rfl, rfl, h4⟩ := q z m' nw hq
    exact ⟨ks, zs', h1, by simp [toCl], h4⟩
  · exact qx ex m' nw hq _ rfl (sub_app (m := []))
end
/-! ### o.m(es, kws), in any shape of call -/
structure VMethQ (P : Program) (w : World) (K : Fg) (mg : Str → Option Value) (base : Heap) (CX : CXT) (k : Nat) (m : Str) (C : Addr) (sp : Sp) (dvs : List Dv) (shs : List Shq) : Prop where
  cls : Cls K C
  ex : ∃ (f : Addr) (fd : FuncData) (ps : List Str), Meth K C m f ∧ FnG P w K mg base CX k f fd ps sp ∧ ∀ sh ∈ shs, BnQ K fd ps dvs sh
theorem VMethQ.of {P : Program} {w : World} {K : Fg} {mg : Str → Option Value} {base : Heap} {j k : Nat} {x : Str} {ps : List Str} {sp : Sp} {dvs : List Dv} {shs : List Shq} {C f : Addr} (c : Cls K C) (m : Meth K C x f) (F : CalQ P w K mg base (L2.CX P w) j ps sp dvs shs f) (h : j ≤ k) : VMethQ P w K mg base (L2.CX P w) k x C sp dvs shs :=
  let ⟨fd, h1, _, h3⟩ := F.ex
  ⟨c, f, fd, ps, m, h1.mono h, h3⟩
def tMethQ (C : Addr) (dvs : List Dv) (sh : Shq) (sp : Sp) (m : Str) (E : L2.St → XK) (ta : TE) (te tk : TA) : TE := fun σ H Q => ta σ H fun x H1 => ∃ a dx fs, x = .ref a ∧ H1 a = some (.ins C dx fs) ∧ fs.lookup m = none ∧ te σ H1 fun vs H2 => tk σ H2 fun zs H3 => vs.length + 1 = sh.m ∧ zs.length = sh.ks.length ∧
  sp (qermV dvs sh.sel (x :: (vs ++ zs))) H3 Q (E σ)
section
variable {X : Cx} {W : WX} {k : Nat} {C : Addr} {sp : Sp} {dvs : List Dv} {shs : List Shq} {m : Str} {o e : Expr} {es : List Expr} {kws : List Keyword} {ta : TE} {te tk2 : TA} {apos pos : Pos}
theorem run_methQ {sh : Shq} {pins : List (Addr × Obj)} {σ : L2.St} {H : Hp} {s : Shared} {Q : VK} {f a : Addr} {fd : FuncData} {ps : List Str} {us ws : List Value} {vs zs : List V} (F : FnG X.prog X.w X.K X.mg X.base (L2.CX X.prog X.w) k f fd ps sp) (hb : BnQ X.K fd ps dvs sh) (hr : Room k X.A) (hgu : X.A.guards = some []) (tk : Takes X W)
    (I : Inv X pins σ H s) (r : Vals vs us) (rz : Vals zs ws) (l1 : vs.length + 1 = sh.m) (l2 : zs.length = sh.ks.length) (h : sp (qermV dvs sh.sel (.ref a :: (vs ++ zs))) H Q (WE W σ)) :
    wpAny (model X.prog X.w) X.A (call (.ref f) (.ref a :: us) (sh.ks.zip ws)) (EP X pins σ Q) X.xe s := by
  obtain ⟨ho, its, ri, hb⟩ := hb
  have r1 : Vals (V.ref a :: (vs ++ zs)) (Value.ref a :: (us ++ ws)) := .cons rfl (r.append rz)
  have r2 := qerm_rel r1 (n := sh.m + sh.ks.length) (by rw [List.length_cons, List.length_append, ← l1, ← l2]; omega) ri sh.sel ho
  have e1 : (Value.ref a :: us).length = sh.m := by rw [List.length_cons, ← r.length]; exact l1
  have e2 : ws.length = sh.ks.length := rz.length.symm.trans l2
  exact run_fnSD (E := WE W) F hr hgu (passAt tk σ) I r2 (hb s (Value.ref a :: us) ws I.kIn e1 e2) h
theorem pe_methQ {pl : Sem Bool} (sh : Shq) (V : VMethQ X.prog X.w X.K X.mg X.base (L2.CX X.prog X.w) k m C sp dvs shs) (hs : sh ∈ shs) (hr : Room k X.A) (hgu : X.A.guards = some []) (tk : Takes X W) (he : PE X o ta) (ha : PA X (e :: es) te) (hkw : PK X kws tk2)
    (hall : (backToKw pos (keywordEach kws X.env)).all (·.1.isSome) = true := by rfl) (hks : (backToKw pos (keywordEach kws X.env)).filterMap (·.1) = sh.ks := by rfl)
    (hst : starEach (e :: es) X.env = (false, eval e X.env) :: starEach es X.env := by rfl)
    (hpl : ((backTo pos (starEach (e :: es) X.env)).any (·.1) || (backToKw pos (keywordEach kws X.env)).any (·.1.isNone)) = false := by rfl)
    (ht : eval (.Call (.Attribute o m apos) (e :: es) kws pos) X.env = (do
      let ov ← eval o X.env
      standAt apos.atName
      let (f, first) ← holding [ov] (getMethod ov m pl)
      callWith pos f first (backTo pos (starEach (e :: es) X.env)) (backToKw pos (keywordEach kws X.env))) := by rfl) :
    PE X (.Call (.Attribute o m apos) (e :: es) kws pos) (tMethQ C dvs sh sp m (WE W) ta te tk2) := by
  obtain ⟨c, f, fd, ps, km, F, hb⟩ := V
  refine ⟨fun pins s σ H Q I h => ?_⟩
  refine PySem.W.methodCall_KW (pl := pl) (thn (he.run pins s σ H _ I h) fun u s1 ⟨x, H1, I1, rx, a, dx, fs, ex, ea, l, q⟩ => ?_) ht
  subst ex
  obtain rfl : u = Value.ref a := rx
  refine getmeth_ok I1 ea c km l ?_
  refine PySem.W.callWith_KW (first := [.ref a]) (h₀ := X.base) I.ok.mod.kin km.kp hall (thn (ha.run pos pins s1 σ H1 _ I1 q) fun us s2 ⟨vs, H2, I2, r, q2⟩ => ?_) hpl hst
  refine thn (hkw.run pos pins s2 σ H2 _ I2 q2) fun ws s3 ⟨zs, H3, I3, rz, l1, l2, q3⟩ => ⟨I3.kIn, ?_⟩
  rw [hks]
  exact run_methQ F (hb sh hs) hr hgu tk I3 r rz l1 l2 q3
theorem pe_methQ0 {pl : Sem Bool} (sh : Shq) (V : VMethQ X.prog X.w X.K X.mg X.base (L2.CX X.prog X.w) k m C sp dvs shs) (hs : sh ∈ shs) (hr : Room k X.A) (hgu : X.A.guards = some []) (tk : Takes X W) (he : PE X o ta) (hkw : PK X kws tk2)
    (hall : (backToKw pos (keywordEach kws X.env)).all (·.1.isSome) = true := by rfl) (hks : (backToKw pos (keywordEach kws X.env)).filterMap (·.1) = sh.ks := by rfl)
    (hpl : ((backTo pos (starEach [] X.env)).any (·.1) || (backToKw pos (keywordEach kws X.env)).any (·.1.isNone)) = false := by rfl)
    (ht : eval (.Call (.Attribute o m apos) [] kws pos) X.env = (do
      let ov ← eval o X.env
      standAt apos.atName
      let (f, first) ← holding [ov] (getMethod ov m pl)
      callWith pos f first (backTo pos (starEach [] X.env)) (backToKw pos (keywordEach kws X.env))) := by rfl) :
    PE X (.Call (.Attribute o m apos) [] kws pos) (tMethQ C dvs sh sp m (WE W) ta tNil tk2) := by
  obtain ⟨c, f, fd, ps, km, F, hb⟩ := V
  refine ⟨fun pins s σ H Q I h => ?_⟩
  refine PySem.W.methodCall_KW (pl := pl) (thn (he.run pins s σ H _ I h) fun u s1 ⟨x, H1, I1, rx, a, dx, fs, ex, ea, l, q⟩ => ?_) ht
  subst ex
  obtain rfl : u = Value.ref a := rx
  refine getmeth_ok I1 ea c km l ?_
  refine PySem.W.callWith_KW0 (first := [.ref a]) (h₀ := X.base) I.ok.mod.kin km.kp hall ?_ hpl
  refine thn (hkw.run pos pins s1 σ H1 _ I1 q) fun ws s3 ⟨zs, H3, I3, rz, l1, l2, q3⟩ => ⟨I3.kIn, ?_⟩
  rw [hks]
  exact run_methQ (us := []) (vs := []) F (hb sh hs) hr hgu tk I3 .nil rz l1 l2 q3
end
section
variable {C : Ct} {y : S} {ts tk : TA} {te : TE} {Q : Z → S → Prop} {ι : Type} {n : Nat} {pre : ι → AC → List Cl → List Z → Prop} {post : ι → AC → List Cl → List Z → Z → AC → AC → Prop} {xp : ι → AC → List Cl → List Z → Ex → AC → AC → Prop}
theorem wE_methQ {D : Addr} {dvs : List Dv} {sh : Shq} {m : Str} (w : wE C te y fun z y1 => ∃ ks zs, z = .ob D ks zs ∧ idxS m ks = none ∧ wZ C ts y1 fun us y2 => wZ C tk y2 fun ws y3 => us.length + 1 = sh.m ∧ ws.length = sh.ks.length ∧ sh.sel.all (Sq.ok (sh.m + sh.ks.length) dvs.length) = true ∧
      gCall1 C n pre post xp (qermZ dvs sh.sel (.ob D ks zs :: (us ++ ws))) y3 Q C.ex) : wE C (tMethQ D dvs sh (gSp C.K n pre post xp) m (WE C.W) te ts tk) y Q := by
  intro F σ H K wd k
  refine w F σ H _ wd fun v H1 z y1 w1 g1 s1 r1 hw => ?_
  obtain ⟨ks, zs, ez, hi, w'⟩ := hw
  subst ez
  have r1 : Rw C.K (Mv F σ y1) H1 v (.ob D ks zs) := r1
  have r1c := r1
  cases r1 with
  | @ob a dx _ _ xs _ na ha hl rs =>
    refine ⟨a, dx, _, rfl, ha, idxS_none hi, ?_⟩
    refine w' F σ H1 _ w1 fun vs H2 us y2 w2 g2 s2 r2 w'' => ?_
    refine w'' F σ H2 _ w2 fun xs2 H3 ws y3 w3 g3 s3 r3 ⟨l1, l2, ho, hc⟩ => ?_
    refine ⟨by rw [r2.len]; exact l1, by rw [r3.len]; exact l2, gSp_r0 ?_⟩
    have rr : RwA C.K (Mv F σ y3) H3 (.ref a :: (vs ++ xs2)) (.ob D ks zs :: (us ++ ws)) := .cons ((r1c.go g2).go g3) ((r2.go g3).app r3)
    refine g_run w3 (rw_qerm rr sh.sel ?_) (fun v H' z y' w4 g4 s4 r q => k v H' z y' w4 (((g1.trans g2).trans g3).trans g4) (((s1.trans s2).trans s3).trans s4) r q) (fun ex a H' y' w4 g4 xr hx => w3.xk σ y' H' ex ex.cls (some a) w4 g4 xr hx) hc
    rw [show (Z.ob D ks zs :: (us ++ ws)).length = sh.m + sh.ks.length by rw [List.length_cons, List.length_append, ← l1, ← l2]; omega]
    exact ho
end
end Ux

set_option maxRecDepth 100000
set_option maxHeartbeats 4000000
namespace Ux
open PySem PySem.Spec PyProof.Rows L2 Tq
/-- [e for a, b in .. if ..] as a list of our own -/
theorem wE_lcTO {C : Ct} {y : S} {te : TE} {tt : TT} {wi : TI} {Q : Z → S → Prop} {n : Nat} (js : List Nat) (p : List D → Bool) (f : List D → D) (hn : n = js.length)
    (w : wI C wi y fun xs y1 => ∃ dss : List (List D), xs = dss.map PyData.tuple ∧ dss.length ≤ sizeLine ∧ (∀ ds ∈ dss, ds.length = js.length ∧ wT C.q tt (setD (plY y1 js) js ds) fun b y3 => b = p ds ∧ (p ds = true → wE C.q te y3 fun z _ => z = .d (f ds))) ∧ ∀ q, Q (.lab q) ⟨y1.l, y1.m ++ [⟨q, true, .lst (((dss.filter p).map f).map Z.d)⟩]⟩) :
    wE C (tLc wi (gTup C.K n (gNms js)) tt te js) y Q := by
  intro F σ H K wd k
  refine w F σ H _ wd fun J H1 xs y1 w1 g1 s1 hJ ⟨dss, ex, hz, hs, hq⟩ => ?_
  subst ex
  intro l hl
  refine ⟨fun i n H2 => n = dss.length - i ∧ i ≤ dss.length ∧ (∀ a o, H1 a = some o → H2 a = some o) ∧ ∃ vs, H2 l = some (.lst vs) ∧ RpA C.K (fun a => Mv F σ y1 a ∨ a = l) H2 vs (((dss.take i).filter p).map f),
    ⟨dss.length, rfl, Nat.zero_le _, grow_upd hl, [], upd_same, .nil⟩, ?_⟩
  rintro i n H2 ⟨rfl, hi, gr, vs, hl2, rv⟩
  have w2 := w1.toWd0.lentL (ks := []) hl gr (by rw [hl2]; simp)
  have go2 : GoH (Mv F σ y1) H1 (Mv (frL F σ y1 H2 l) σ (plY y1 [])) H2 := fun a o n e => ⟨fun z => z.elim (fun z => z.elim n fun z => by subst z; rw [hl] at e; cases e) fun ⟨_, h, _⟩ => (by cases h), gr a o e⟩
  obtain ⟨j1, j2, j3⟩ := hJ _ _ _ _ w2 go2 i
  rw [List.length_map] at j1 j2
  by_cases hlt : i < dss.length
  · refine .inr ⟨j1 hlt, fun H3 => (∀ a o, H1 a = some o → H3 a = some o) ∧ ∃ vs, H3 l = some (.lst vs) ∧ RpA C.K (fun a => Mv F σ y1 a ∨ a = l) H3 vs (((dss.take (i + 1)).filter p).map f),
      fun H3 h => ⟨dss.length - (i + 1), by omega, rfl, hlt, h⟩, fun v H3 hy => ?_⟩
    have ex : dss[i]? = some dss[i] := List.getElem?_eq_getElem hlt
    obtain ⟨gr3, rv3⟩ := j3 (.tuple dss[i]) (by rw [List.getElem?_map, ex]; rfl) v H3 hy
    obtain ⟨hlen, ht⟩ := hs dss[i] (List.getElem_mem hlt)
    obtain ⟨a, us, rfl, h1, h2⟩ := rp_tup rv3
    have gr13 : ∀ a o, H1 a = some o → H3 a = some o := fun a o e => gr3 a o (gr a o e)
    have hl3 : H3 l = some (.lst vs) := gr3 l _ hl2
    have w3 := w1.toWd0.lentL (ks := js) hl gr13 (by rw [hl3]; simp)
    have rA : RpA C.K (Mv (frL F σ y1 H3 l) (wipe σ js) (plY y1 js)) H3 us dss[i] := h2.go fun a o n e => ⟨fun z => n (z.elim .inl fun ⟨_, h, _⟩ => (by cases h)), e⟩
    have w4 := Wd0.setD js w3 rA
    refine ⟨a, us, rfl, h1.sq, by rw [hn, h2.len, hlen], gNms_run js us _ H3 _ (by rw [h2.len, hlen]) ⟨?_, ?_⟩⟩
    · rw [wipe_setV js us _ fun j hj => hj, wipe_wipe]
    refine ht _ _ H3 _ w4.q fun b H5 y5 w5 g5 s5 q5 => ?_
    obtain ⟨rfl, q6⟩ := q5
    have k5 : ∀ a o, H3 a = some o → H5 a = some o := fun a o e => w5.keep a o (fun z => z) e
    have sp : dss.take (i + 1) = dss.take i ++ [dss[i]] := by rw [List.take_succ, ex]; rfl
    cases hp : p dss[i] with
    | false =>
      refine ⟨fun a o e => k5 a o (gr13 a o e), vs, k5 _ _ hl3, ?_⟩
      rw [sp, List.filter_append, List.filter_cons_of_neg (by rw [hp]; simp), List.filter_nil, List.append_nil]
      exact rv.go fun a o n e => ⟨n, k5 a o (gr3 a o e)⟩
    | true =>
      refine q6 hp _ _ H5 _ w5 fun x6 H6 z6 y6 w6 g6 s6 r6 ez => ?_
      subst ez
      have k6 : ∀ a o, H3 a = some o → H6 a = some o := fun a o e => w6.keep a o (fun z => z) e
      have lv : vs.length ≤ i := by
        rw [rv.len, List.length_map]
        refine Nat.le_trans (List.length_filter_le _ _) ?_
        rw [List.length_take]; omega
      refine ⟨vs, k6 _ _ hl3, by omega, fun a o e => by rw [upd_ne (ne_of_none e hl)]; exact k6 a o (gr13 a o e), vs ++ [x6], upd_same, ?_⟩
      rw [sp, List.filter_append, List.filter_cons_of_pos hp, List.filter_nil, List.map_append]
      have r6 : Rp C.K (Mv (frL F σ y1 H3 l) (setV (wipe σ js) js us) y6) H6 x6 (f dss[i]) := r6
      exact (rv.go fun a o n e => ⟨n, by rw [upd_ne (fun z => n (.inr z))]; exact k6 a o (gr3 a o e)⟩).app (.cons (r6.go fun a o n e => ⟨fun z => n (.inl z), by rw [upd_ne (fun z => n (.inl (.inr z)))]; exact e⟩) .nil)
  · have ei : i = dss.length := by omega
    subst ei
    refine .inl ⟨j2 (Nat.le_refl _), ?_⟩
    rw [List.take_length] at rv
    obtain ⟨w5, g5⟩ := xn_call (nw := [(l, .lst (((dss.filter p).map f).map Z.d))]) w1 gr (fun e he => by rw [List.mem_singleton] at he; subst he; exact hl) (List.pairwise_singleton _ _)
      (fun e he => by rw [List.mem_singleton] at he; subst he; exact ⟨vs, hl2, RwA.of (rv.go fun a o n e => ⟨fun z => n (z.elim .inl fun ⟨e2, he2, h2⟩ => .inr (by rw [List.mem_singleton] at he2; subst he2; exact h2.symm)), e⟩)⟩)
    exact k _ H2 (.lab l) _ w5 (g1.trans g5) (s1.trans ⟨rfl, [⟨l, true, .lst (((dss.filter p).map f).map Z.d)⟩], by unfold ao; rw [List.map_append]; rfl⟩) (.lab l) (hq l)
/-! ### a slice of a plain list as a new list of ours -/
def rSlO (K : Fg) : V → Option Int → Option Int → Hp → VK → Prop := rSlD K
theorem slOK {X : Cx} (K : Fg) (h : X.K = K := by rfl) : SlR X (rSlO K) := slK K h
theorem xE_slO {C : Ct} {y : S} {te : TE} {tl th : TO} {Q : Z → S → Prop} (w : wE C te y fun z y1 => wO C tl y1 fun l y2 => wO C th y2 fun h y3 => ∃ ds : List D, z = .d (.list ds) ∧ ∀ q, Q (.lab q) ⟨y3.l, y3.m ++ [⟨q, true, .lst ((cutD ds l h).map Z.d)⟩]⟩) : wE C (tSl (rSlO C.K) te tl th) y Q := by
  intro F σ H K wd k
  refine w F σ H _ wd fun x H1 z y1 w1 g1 s1 r1 q1 => ?_
  refine q1 F σ H1 _ w1 fun l H2 y2 w2 g2 s2 q2 => ?_
  refine q2 F σ H2 _ w2 fun h H3 y3 w3 g3 s3 q3 => ?_
  obtain ⟨ds, rfl, hq⟩ := q3
  have r3 : Rp C.K (Mv F σ y3) H3 x (.list ds) := Rz.go (g2.trans g3) r1
  obtain ⟨a, xs, rfl, c1, c2⟩ := rp_lst r3
  refine .inl ⟨a, xs, rfl, c1.sq, fun q hp => ?_⟩
  obtain ⟨w4, g4, s4⟩ := w3.cnew (o := .lst (cutV xs l h)) (c := .lst ((cutD ds l h).map Z.d)) (b := true) hp fun M g => ⟨cutV xs l h, upd_same, RwA.of ((rpA_cut c2 l h).go g)⟩
  exact k _ _ (.lab q) _ w4 (((g1.trans g2).trans g3).trans g4) (((s1.trans s2).trans s3).trans s4) (.lab q) (hq q)
/-! ### a method of a built-in thing, called in an except suite -/
theorem pe_bmS {X : Cx} {K : Fg} {o e : Expr} {es : List Expr} {to : TE} {t : TA} {T : String} {name : Str} {id : String} {r : V → List V → Hp → VK → Prop} {apos cpos : Pos} (hK : X.K = K) (pa : PlainAttrs T) (slot : Slot T name id) (hty : typeOf (.builtin id) = pure (.type "method_descriptor")) (hm : MtR X id r) (ho : PE X o to) (ha : PA X (e :: es) t)
    (hbase : attributeBase o name X.env (eval o X.env) = eval o X.env := by rfl)
    (hfew : ((backTo cpos (starEach (e :: es) X.env)).all (fun x => !x.1) && (backToKw cpos (keywordEach [] X.env)).all (fun x => x.1.isSome)
      && decide ((e :: es).length + ([] : List Keyword).length + (if ([] : List Keyword).isEmpty then 0 else 1) < 30)) = true := by rfl)
    (hline : (apos.endLine == cpos.line) = true := by rfl) (hs : starEach (e :: es) X.env = (false, eval e X.env) :: starEach es X.env := by rfl) (hplain : (backTo cpos (starEach es X.env)).any (·.1) = false := by rfl) :
    PE X (.Call (.Attribute o name apos) (e :: es) [] cpos) (tBM K T r to t) := by
  subst hK
  exact pe_bm pa slot hty hm ho ha hbase hfew hline hs hplain
/-! ### x is None, x an object or plain -/
def rIsNO : R2 := fun x y H Q => y = .non ∧ Q (.bl (decide (x = .non))) H
theorem isNOK {X : Cx} : OpR X (compareOp .Is) rIsNO := op_isN
def zNone : Z → Bool
  | .d .none => true
  | _ => false
theorem wE_isNO {C : Ct} {y : S} {ta tb : TE} {Q : Z → S → Prop} (w : wE C ta y fun z y1 => wE C tb y1 fun z' y2 => z' = .d .none ∧ Q (.d (.bool (zNone z))) y2) : wE C (tOp rIsNO ta tb) y Q := by
  intro F σ H K wd k
  refine w F σ H _ wd fun v H1 z y1 w1 g1 s1 r1 q1 => ?_
  refine q1 F σ H1 _ w1 fun v2 H2 z2 y2 w2 g2 s2 r2 ⟨ez, q⟩ => ?_
  subst ez
  have e2 : v2 = .non := by cases (r2 : Rp C.K (Mv F σ y2) H2 v2 .none); rfl
  refine ⟨e2, k _ H2 (.d (.bool (zNone z))) y2 w2 (g1.trans g2) (s1.trans s2) ?_ q⟩
  have e1 : decide (v = .non) = zNone z := by
    cases (r1.w : Rw C.K (Mv F σ y1) H1 v z) with
    | d h => cases h <;> first | rfl | exact decide_eq_false (fun z => by cases z)
    | lab a => exact decide_eq_false (fun z => by cases z)
    | tup _ _ => exact decide_eq_false (fun z => by cases z)
    | lst _ _ => exact decide_eq_false (fun z => by cases z)
    | exc _ _ _ => exact decide_eq_false (fun z => by cases z)
    | ob _ _ _ _ => exact decide_eq_false (fun z => by cases z)
  rw [e1]
  exact Rp.bl _
end Ux

set_option maxRecDepth 100000
set_option maxHeartbeats 4000000
/-! x[i] = e of a list; a written dict asked at once -/
namespace Ux
open PySem PySem.Spec PyProof.Rows L2 Tq
/-- nothing is raised outside of a try -/
theorem wS_plain {C : Ct} {t : TS} {y : S} {e : En} (w : wS { K := C.K } t y e) : wS C t y e := fun F σ H E st wd k =>
  w F σ H E st ⟨wd.toWd0, fun _ _ _ _ _ _ _ _ _ h => h.elim⟩ ⟨fun σ' H' y' w' g q => k.nx σ' H' y' (wd.to w'.toWd0 g) g q, fun σ' v H' z y' w' g r q => k.rt σ' v H' z y' (wd.to w'.toWd0 g) g r q, fun σ' H' y' w' g q => k.bk σ' H' y' (wd.to w'.toWd0 g) g q, fun σ' H' y' w' g q => k.ct σ' H' y' (wd.to w'.toWd0 g) g q⟩
end Ux

set_option maxRecDepth 100000
set_option maxHeartbeats 4000000
namespace Ux
open PySem PySem.Spec PyProof.Rows L2 Tq
/-! ### x.extend(list) -/
/-! ### [t + "..", .., t.replace("x", "y"), ..] -/
end Ux

set_option maxRecDepth 100000
set_option maxHeartbeats 4000000
namespace Ux
open PySem PySem.Spec PyProof.Rows L2 Tq
end Ux
namespace Ux
open PySem PySem.Spec PyProof.Rows L2 Tq
end Ux
namespace Ux
open PySem PySem.Spec PyProof.Rows L2 Tq
end Ux
namespace Ux
open PySem PySem.Spec PyProof.Rows L2 Tq
/-- branches that meet again at a statement, or return -/
theorem seq_joinR {C : Ct} {tx tz : TS} {y : S} {e : En} (P : S → Prop) (h1 : wS C tx y { e with nx := P }) (h : ∀ y, P y → wS C tz y e) : wS C (tSeq tx tz) y e :=
  wS_seq (wS_mono h1 (fun y hy => h y hy) (fun _ _ z => z) (fun _ z => z) (fun _ z => z))
end Ux

set_option maxRecDepth 100000
set_option maxHeartbeats 4000000
/-! ### defs that raise nothing, called in an except suite -/
namespace Ux
open PySem PySem.Spec PyProof.Rows L2 Tq
/-- room where an exception may be handled -/
structure RoomW (k : Nat) (A : Around) : Prop where
  dp : A.depth + 3 * k + 5 < recursionLimit
  un : A.units + 16 * k + 200 < cLine
theorem RoomW.mono {j k : Nat} {A : Around} (r : RoomW k A) (h : j ≤ k) : RoomW j A := ⟨by have := r.dp; omega, by have := r.un; omega⟩
theorem RoomW.units {k : Nat} {A : Around} (r : RoomW k A) : A.units + 64 < cLine := by have := r.un; omega
theorem RoomW.put {k : Nat} {A : Around} (r : RoomW k A) : A.units + 1 < cLine := by have := r.un; omega
theorem Room.w {k : Nat} {A : Around} (r : Room k A) : RoomW k A := ⟨r.dp, r.un⟩
/-- the room of a suite of a body -/
theorem Room.suiteW {k : Nat} {A : Around} {v : Option Value} (r : Room k A) : RoomW k (A.mark v) := ⟨r.dp, r.un⟩
structure FnW (P : Program) (w : World) (K : Fg) (mg : Str → Option Value) (base : Heap) (k : Nat) (f : Addr) (fd : FuncData) (ps : List Str) (sp : Sp) : Prop where
  len : ∀ vs H Q E, sp vs H Q E → vs.length = ps.length
  run : ∀ (A : Around) (outer : List Env) (s : Shared) (H : Hp) (args : Args) (us : List Value) (vs : List V) (Q : VK) (E : XK), RoomW k A → A.guards = some [] →
    Env0 P w K mg base A outer s H → BindsTo s fd args (ps.zip us) → Vals vs us → sp vs H Q E → codeAny (model P w) A (.call (.ref f) args) (CR CX0 outer P w H s Q E) s
/-- the name x is a def that keeps sp, in a suite too -/
structure CalW (P : Program) (w : World) (K : Fg) (mg : Str → Option Value) (base : Heap) (k : Nat) (x : Str) (ps : List Str) (sp : Sp) : Prop where
  ex : ∃ (f : Addr) (fd : FuncData), FnW P w K mg base k f fd ps sp ∧ mg x = some (.ref f) ∧ PySem.W.keepIn K (.ref f) = true ∧ Binds K fd ps []
section
variable {P : Program} {w : World} {K : Fg} {mg : Str → Option Value} {base : Heap} {k : Nat} {x : Str} {ps N : List Str} {sp : Sp} {st : Stmt}
end
end Ux

set_option maxRecDepth 100000
set_option maxHeartbeats 4000000
namespace Tq
open PySem PySem.Spec PyProof.Rows L2
open PySem.NumText (digitsVal AllDigits)
def topS (i : Nat) : Stmt := PySem.Challenge.pw_termstream_k36_terms_walked.main.body.getD i (.Pass ⟨0, 0, 0, 0⟩)
local macro_rules | `(tactic| walk_at "less") => `(tactic| (repeat' (first | exact less_nil | refine less_none ?_ | refine less_some ?_)))
local macro_rules | `(tactic| walk_at "bd") => `(tactic| (repeat' (first | assumption | with_reducible apply Bd.mul | with_reducible apply Bd.add | with_reducible apply Bd.sub | with_reducible apply Bd.neg | (with_reducible apply Bd.div; rotate_left; omega) | exact Bd.lit (k := 40) (by first | decide | omega))))
local macro_rules | `(tactic| walk_at "dqStSeq") => `(tactic| (first
  | (with_reducible show wS _ (tSeq (tAsg (tLst _) (gName _)) (tSeq (tDrop (tBM _ _ rAppend _ _)) _)) _ _; refine wS_seq (wS_own ?_))
  | (with_reducible show wS _ (tSeq (tDrop (tBM _ _ rAppend (tVar _) _)) _) _ _; refine wS_seq (wS_app rfl ?_))
  | (with_reducible show wS _ (tSeq (tAsg (tCall spPurse _ _ _) _) _) _ _; refine wS_seq (wS_purse ?_))
  | (with_reducible show wS _ (tSeq (tAsg _ (gName _)) _) _ _; refine wS_seqA ?_)
  | (with_reducible show wS _ (tSeq (tPar _ _ _) _) _ _; refine wS_seqP ?_)
  | (with_reducible show wS _ (tSeq (tIfS _ _ tNext) _) _ _; refine wS_seqI ?_)
  | (with_reducible show wS _ (tSeq _ _) _ _; refine wS_seq ?_)
  | fail))
local macro_rules | `(tactic| walk_at "dqS") => `(tactic| (first
  | (with_reducible show wS _ _ (List.set _ _ _) _; refine wS_norm (by simp only [List.set]; first | done | exact rfl) ?_)
  | (with_reducible show wS _ (tSeq _ _) _ _; walk_at "dqStSeq")
  | (with_reducible show wS _ (tDrop (tCall _ _ _ _)) _ _; refine wS_drop ?_)
  | (with_reducible show wS _ (tAsg _ (gName _)) _ _; refine wS_asg ?_)
  | (with_reducible show wS _ (tAsg _ _) _ _; refine wS_asgG ?_)
  | (with_reducible show wS _ (tPar _ _ _) _ _; refine wS_par ?_)
  | (with_reducible show wS _ (tIfS _ _ tNext) _ _; refine wS_ifN ?_)
  | (with_reducible show wS _ (tIfS _ _ _) _ _; refine wS_if ?_)
  | (with_reducible show wS _ (tRet _) _ _; refine wS_ret ?_)
  | (with_reducible show wS _ tRetN _ _; refine wS_retN ?_)
  | (with_reducible show wS _ tNext _ _; refine wS_next ?_)
  | (with_reducible show wS _ (tAug _ _ _) _ _; refine wS_aug rfl ?_)
  | fail))
local macro_rules | `(tactic| walk_at "dqEtC") => `(tactic| (first
  | (with_reducible show wE _ (tC (.int _)) _ _; refine wE_int ?_)
  | (with_reducible show wE _ (tC (.str _)) _ _; refine wE_str ?_)
  | (with_reducible show wE _ (tC (.bl _)) _ _; refine wE_bl ?_)
  | (with_reducible show wE _ (tC .non) _ _; refine wE_non ?_)
  | fail))
local macro_rules | `(tactic| walk_at "dqEtOp") => `(tactic| (first
  | (with_reducible show wE _ (tOp (rI0 _) _ _) _ _; first | with_reducible refine wE_add ?_ | with_reducible refine wE_sub ?_ | with_reducible refine wE_lt ?_ | with_reducible refine wE_le ?_ | with_reducible refine wE_gt ?_ | with_reducible refine wE_ge ?_)
  | (with_reducible show wE _ (tOp (rI CPow _) (tC _) (tC _)) _ _; refine wE_powN ?_)
  | (with_reducible show wE _ (tOp (rI _ _) _ _) _ _; first | with_reducible refine wE_mod ?_ | with_reducible refine wE_fdivW ?_ | with_reducible refine wE_mulW ?_ | with_reducible refine wE_pow ?_ | with_reducible refine wE_fdivZ ?_ | with_reducible refine wE_modN ?_ | with_reducible refine wE_mul ?_)
  | (with_reducible show wE _ (tOp (rIx _) _ _) _ _; refine wE_ix ?_)
  | (with_reducible show wE _ (tOp (rCatG _) _ _) _ _; refine wE_catG ?_)
  | (with_reducible show wE _ (tOp rEq _ _) _ _; refine wE_eqS ?_)
  | (with_reducible show wE _ (tOp rNe _ _) _ _; refine wE_neS ?_)
  | (with_reducible show wE _ (tOp (rEqD _) _ _) _ _; refine wE_eqD ?_)
  | (with_reducible show wE _ (tOp (rNeD _) _ _) _ _; refine wE_neD ?_)
  | (with_reducible show wE _ (tOp _ _ _) _ _; first | with_reducible refine wE_addS ?_ | with_reducible refine wE_isN ?_ | with_reducible refine wE_notN ?_ | with_reducible refine wE_inSign ?_ | with_reducible refine wE_ltS ?_ | with_reducible refine wE_leS ?_)
  | fail))
local macro_rules | `(tactic| walk_at "dqEtCall") => `(tactic| (first
  | (with_reducible show wE _ (tCall (spTake _) _ _ _) _ _; refine wE_take rfl ?_)
  | (with_reducible show wE _ (tCall (detSp _ _ _ _) _ _ _) _ _; refine wE_det ?_)
  | (with_reducible show wE _ (tCall (pureSp _ _ _ _) _ _ _) _ _; refine wE_pure ?_)
  | (with_reducible show wE _ (tCall (puSp _ _ _ _ _) _ _ _) _ _; refine wE_pu rfl ?_)
  | fail))
local macro_rules | `(tactic| walk_at "dqEtCB") => `(tactic| (first
  | (with_reducible show wE _ (tCB (rIsi _) _) _ _; refine wE_isi ?_)
  | (with_reducible show wE _ (tCB (rIsiT _) _) _ _; refine wE_isi2 ?_)
  | (with_reducible show wE _ (tCB (rAll _) _) _ _; refine wE_all ?_)
  | (with_reducible show wE _ (tCB (rAny _) _) _ _; refine wE_any ?_)
  | (with_reducible show wE _ (tCB (rSum _) _) _ _; refine wE_sum ?_)
  | (with_reducible show wE _ (tCB (rRepr _) _) _ _; refine wE_reprS ?_)
  | (with_reducible show wE _ (tCB _ _) _ _; first | refine wE_len ?_ | with_reducible refine wE_abs ?_ | with_reducible refine wE_max2 ?_ | with_reducible refine wE_min2 ?_ | with_reducible refine wE_strI ?_ | with_reducible refine wE_intS ?_ | with_reducible refine wE_int1 ?_ | refine wE_listOf ?_ | refine wE_tupOf ?_)
  | fail))
local macro_rules | `(tactic| walk_at "dqE") => `(tactic| (first
  | (with_reducible show wE _ (tVar _) _ _; first | refine wE_var rfl ?_ | refine wE_ptr rfl ?_)
  | (with_reducible show wE _ (tC _) _ _; walk_at "dqEtC")
  | (with_reducible show wE _ (tOp _ _ _) _ _; walk_at "dqEtOp")
  | (with_reducible show wE _ (tDisp _) _ _; first | refine wE_dispS (by constructor) ?_ | refine wE_dispI (by constructor) ?_)
  | (with_reducible show wE _ (tCall _ _ _ _) _ _; walk_at "dqEtCall")
  | (with_reducible show wE _ (tUn _ _) _ _; refine wE_neg ?_)
  | (with_reducible show wE _ (tLst _) _ _; refine wE_lst ?_)
  | (with_reducible show wE _ (tTup _) _ _; refine wE_tup ?_)
  | (with_reducible show wE _ tDNewK _ _; refine wE_dnew ?_)
  | (with_reducible show wE _ (tCB _ _) _ _; walk_at "dqEtCB")
  | (with_reducible show wE _ (tSl _ _ _ _) _ _; refine wE_sl ?_)
  | (with_reducible show wE _ (tChain _ _ _ _ _) _ _; first | with_reducible refine wE_chainI ?_ | with_reducible refine wE_chainS ?_)
  | (with_reducible show wE _ (tAndV _ _) _ _; refine wE_andV ?_)
  | (with_reducible show wE _ (tOrV _ _) _ _; refine wE_orV ?_)
  | (with_reducible show wE _ (tNotV _) _ _; refine wE_notV ?_)
  | (with_reducible show wE _ (tIf _ _ _) _ _; refine wE_if ?_)
  | (with_reducible show wE _ (tM1 _ _ _) _ _; first | with_reducible refine wE_starts ?_ | with_reducible refine wE_index ?_ | refine wE_join ?_)
  | fail))
local macro_rules | `(tactic| walk_at "dqT") => `(tactic| (first
  | (with_reducible show wT _ (tTest _) _ _; refine wT_test ?_)
  | (with_reducible show wT _ (tB _) _ _; refine wT_B ?_)
  | (with_reducible show wT _ (tAnd _ _) _ _; refine wT_and ?_)
  | (with_reducible show wT _ (tOr _ _) _ _; refine wT_or ?_)
  | (with_reducible show wT _ (tNot _) _ _; refine wT_not ?_)
  | (with_reducible show wT _ tYes _ _; refine wT_yes ?_)
  | fail))
local macro_rules | `(tactic| walk_at "dqI") => `(tactic| (first
  | (with_reducible show wI _ (iList _ _) _ _; refine wI_list ?_)
  | (with_reducible show wI _ (iTup _ _) _ _; refine wI_tup ?_)
  | (with_reducible show wI _ (iAny _ _) _ _; refine wI_any rfl rfl ?_)
  | (with_reducible show wI _ (iStr _) _ _; refine wI_str ?_)
  | (with_reducible show wI _ (iRng1 _) _ _; refine wI_rng1 ?_)
  | (with_reducible show wI _ (iRng2 _) _ _; refine wI_rng2 ?_)
  | fail))
local macro_rules | `(tactic| walk_at "dq") => `(tactic| (first
  | (with_reducible show wS _ _ _ _; walk_at "dqS")
  | (with_reducible show wE _ _ _ _; walk_at "dqE")
  | (with_reducible show wD _ (tCons _ _) _ _; refine wD_cons ?_)
  | (with_reducible show wD _ tNil _ _; refine wD_nil ?_)
  | (with_reducible show wO _ tNoPart _ _; refine wO_no ?_)
  | (with_reducible show wO _ (tPart _) _ _; refine wO_part ?_)
  | (with_reducible show wT _ _ _ _; walk_at "dqT")
  | (with_reducible show wI _ _ _ _; walk_at "dqI")
  | (with_reducible show wG _ (gName _) _ _ _; refine wG_name ?_)
  | (with_reducible show wG _ (gTup _ _ _) _ _ _; refine wG_tup rfl ?_)
  | (with_reducible show wGs _ (gCons _ _) _ _ _; refine wGs_cons ?_)
  | (with_reducible show wGs _ gNil _ _ _; refine wGs_nil ?_)
  | (with_reducible show ite _ _ _; first | refine itb_t rfl ?_ | refine itb_f rfl ?_)
  | (with_reducible show @Exists _ _; first | refine ⟨_, _, rfl, rfl, by omega, fun r h0 h1 => ?_⟩ | refine ⟨_, rfl, ?_⟩ | refine ⟨_, _, rfl, dLen_str (by first | omega | decide), ?_⟩ | refine ⟨_, _, rfl, dCut_str (by first | omega | decide) _ _, ?_⟩ | refine ⟨_, _, rfl, rfl, sz_small (by first | omega | (simp only [strLen_append]; omega)), ?_⟩ | refine ⟨_, _, rfl, rfl, ?_⟩ | refine ⟨_, _, rfl, ?_⟩ | refine ⟨_, _, _, rfl, rfl, rfl, ?_⟩ | refine ⟨_, _, _, rfl, rfl, ?_⟩)
  | (with_reducible show CMulW _ _ ∧ _; refine ⟨Bd.mulW (by walk_at "bd") (by walk_at "bd"), ?_⟩)
  | (with_reducible show CDivW _ _ ∧ _; refine ⟨Bd.divW (by walk_at "bd") (by omega), ?_⟩)
  | (with_reducible show _ ∧ _; first | (refine ⟨sz_small ?_, ?_⟩; focus first | (simp; done) | (simp only [List.length_map, List.length_append, List.length_take, List.length_drop, List.length_cons, List.length_nil]; omega)) | (refine ⟨sz_lt1 ?_, ?_⟩; focus first | (simp; done) | (simp only [List.length_map, List.length_append, List.length_take, List.length_drop, List.length_cons, List.length_nil]; omega)) | refine and_sw ?_ ⟨rfl, trivial⟩ | refine and_sw ?_ ⟨rfl, ⟨_, rfl⟩⟩ | refine and_sw ?_ ⟨rfl, ⟨_, _, rfl⟩⟩ | refine and_sw ?_ ⟨rfl, ⟨_, _, _, rfl⟩⟩ | refine and_sw ?_ ⟨rfl, ⟨_, rfl, ?_⟩⟩ | refine and_sw ?_ ⟨rfl, ⟨_, _, rfl, ?_⟩⟩ | refine ⟨rfl, ?_⟩ | refine ⟨trivial, ?_⟩ | refine ⟨by omega, ?_⟩)
  | (with_reducible show _ ≤ sizeLine; exact sz_small (by omega))
  | fail))

abbrev tup3 (p d q : Int) : D := .tuple [.int p, .int d, .int q]
abbrev sp_greatest_part (K : Fg) : Sp := detSp K 2 (fun ds => ∃ a b : Int, ds = [.int a, .int b]) (fun ds => .int (gcdI (toI (a0 ds)) (toI (a1 ds))))
abbrev sp_root_of (K : Fg) : Sp := detSp K 1 (fun ds => ∃ N : Int, ds = [.int N] ∧ 0 ≤ N ∧ Bd 20000 N) (fun ds => .int (isq (toI (a0 ds))))
abbrev sp_side_of (K : Fg) : Sp := detSp K 1 (fun ds => ∃ x : Int, ds = [.int x]) (fun ds => .int (sgI (toI (a0 ds))))
def a3 (ds : List D) : D := ds.getD 3 .none
def a4 (ds : List D) : D := ds.getD 4 .none
abbrev sp_side_of_two (K : Fg) : Sp := detSp K 3 (fun ds => ∃ a b m : Int, ds = [.int a, .int b, .int m] ∧ Bd 24000 a ∧ Bd 24000 b ∧ Bd 24000 m) (fun ds => .int (sg2 (toI (a0 ds)) (toI (a1 ds)) (toI (a2 ds))))
abbrev sp_side_of_three (K : Fg) : Sp := detSp K 5 (fun ds => ∃ a b m c n : Int, ds = [.int a, .int b, .int m, .int c, .int n] ∧ Bd 4100 a ∧ Bd 2500 b ∧ Bd 2500 m ∧ Bd 2500 c ∧ Bd 2500 n) (fun ds => .int (sg3 (toI (a0 ds)) (toI (a1 ds)) (toI (a2 ds)) (toI (a3 ds)) (toI (a4 ds))))
def apD (ds : List D) : D := match ds with
  | [.tuple [.int p, .int d, .int q], .tuple [.int r, .int e, .int s]] => .int (apS p d q r e s)
  | _ => .none
abbrev sp_side_apart (K : Fg) : Sp := detSp K 2 (fun ds => ∃ p d q r e s : Int, ds = [tup3 p d q, tup3 r e s] ∧ Bd 1000 p ∧ Bd 1000 d ∧ Bd 1000 q ∧ Bd 1000 r ∧ Bd 1000 e ∧ Bd 1000 s) apD
def lowD (ds : List D) : D := .tuple ((lowL (((intsD (a0 ds)).getD []))).map PyData.int)
abbrev sp_in_lowest (K : Fg) : Sp := detSp K 1 (fun ds => ∃ ns : List Int, ds = [.list (ns.map PyData.int)] ∧ ns.length ≤ 10 ∧ (∃ x ∈ ns, x ≠ 0) ∧ ∀ x ∈ ns, Bd 2000 x) lowD
abbrev sp_fraction_terms (K : Fg) : Sp := detSp K 2 (fun ds => ∃ a b : Int, ds = [.int a, .int b] ∧ 0 < b ∧ Bd 1600 b) (fun ds => .list ((floorsE (toI (a0 ds)) (toI (a1 ds))).map PyData.int))
def floD (ds : List D) : D := match ds with
  | [.tuple [.int p, .int d, .int q]] => .int (flo p d q)
  | _ => .none
abbrev sp_floor_of (K : Fg) : Sp := detSp K 1 (fun ds => ∃ p d q : Int, ds = [tup3 p d q] ∧ 0 ≤ d ∧ q ≠ 0 ∧ Bd 1900 p ∧ Bd 1900 d ∧ Bd 1900 q) floD
def sclD (ds : List D) : D := match ds with
  | [.tuple [.int p, .int d, .int q]] => tup3 (scl p d q).1 (scl p d q).2.1 (scl p d q).2.2
  | _ => .none
abbrev sp_scaled (K : Fg) : Sp := detSp K 1 (fun ds => ∃ p d q : Int, ds = [tup3 p d q] ∧ q ≠ 0 ∧ Bd 1900 p ∧ Bd 1900 d ∧ Bd 1900 q) sclD
theorem cdivZ {k : Nat} {x y : Int} (hy : y ≠ 0) (h : Bd k y) (hk : k ≤ 2000 := by decide) : CDivZ x y := by
  refine ⟨hy, ?_⟩
  have : CDivW x (y.natAbs : Int) := Bd.divW (k := k) (by unfold Bd at *; rwa [Int.natAbs_natCast]) (by omega) hk
  have := this.2
  rwa [Int.natAbs_natCast] at this
theorem part_bd {k : Nat} {ns : List Int} (h0 : ∃ x ∈ ns, x ≠ 0) (h : ∀ x ∈ ns, Bd k x) : 0 < gcdL ns ∧ Bd k (gcdL ns) := by
  have key : ∀ (ns : List Int) (g : Int), 0 ≤ g → (g ≠ 0 ∨ ∃ x ∈ ns, x ≠ 0) → (g ≠ 0 → Bd k g) → (∀ x ∈ ns, Bd k x) → 0 < ns.foldl gcdI g ∧ Bd k (ns.foldl gcdI g) := by
    intro ns
    induction ns with
    | nil =>
      intro g g0 h1 h2 h3
      have : g ≠ 0 := h1.elim id fun ⟨x, hx, _⟩ => by cases hx
      exact ⟨by show 0 < g; omega, h2 this⟩
    | cons y ns ih =>
      intro g g0 h1 h2 h3
      show 0 < ns.foldl gcdI (gcdI g y) ∧ _
      refine ih (gcdI g y) (gcdI_nn _ _) ?_ (fun hne => ?_) fun x hx => h3 x (List.mem_cons_of_mem _ hx)
      · by_cases hg : g = 0
        · by_cases hy : y = 0
          · refine .inr ?_
            rcases h1 with h1 | ⟨x, hx, hx0⟩
            · exact absurd hg h1
            · rcases List.mem_cons.mp hx with rfl | hx
              · exact absurd hy hx0
              · exact ⟨x, hx, hx0⟩
          · exact .inl (by have := gcdI_pos (a := g) (b := y) (.inr hy); omega)
        · exact .inl (by have := gcdI_pos (a := g) (b := y) (.inl hg); omega)
      · by_cases hy : y = 0
        · have hg : g ≠ 0 := fun z => hne (by rw [z, hy]; rfl)
          refine (h2 hg).of_le ?_
          unfold gcdI
          rw [Int.natAbs_natCast]
          exact Nat.le_of_dvd (by omega) (Nat.gcd_dvd_left _ _)
        · refine (h3 y List.mem_cons_self).of_le ?_
          unfold gcdI
          rw [Int.natAbs_natCast]
          exact Nat.le_of_dvd (by omega) (Nat.gcd_dvd_right _ _)
  exact key ns 0 (by decide) (.inr h0) (fun z => absurd rfl z) h
theorem firstNZ_filter : ∀ ns : List Int, (∃ x ∈ ns, x ≠ 0) → ∃ us, ns.filter (fun x => !decide (x = 0)) = firstNZ ns :: us
  | [], ⟨x, hx, _⟩ => by cases hx
  | x :: ns, h => by
    unfold firstNZ
    by_cases hx : x = 0
    · rw [if_pos hx, List.filter_cons_of_neg (by rw [hx]; decide)]
      refine firstNZ_filter ns ?_
      obtain ⟨y, hy, h0⟩ := h
      rcases List.mem_cons.mp hy with rfl | hy
      · exact absurd hx h0
      · exact ⟨y, hy, h0⟩
    · rw [if_neg hx, List.filter_cons_of_pos (by rw [decide_eq_false hx]; rfl)]
      exact ⟨_, rfl⟩

theorem sqI (x : Int) : x ^ (Int.toNat 2) = x * x := by show x ^ 2 = x * x; simp [Int.pow_succ]
abbrev sp_law_parts (K : Fg) : Sp := puSp K 0 (fun _ => True) (fun _ => 12) (fun _ r => ∃ p d q : Int, r = tup3 p d q ∧ SB 31 (p, d, q) ∧ Bd 7 q)

def agD (ds : List D) : D := match ds with
  | [.tuple [.int p, .int d, .int q], .int t, .int s] => .int (agI p d q t s)
  | _ => .none
abbrev sp_law_against (K : Fg) : Sp := detSp K 3 (fun ds => ∃ p d q t s : Int, ds = [tup3 p d q, .int t, .int s] ∧ Bd 31 p ∧ Bd 31 d ∧ Bd 31 q ∧ Bd 17000 t ∧ Bd 17000 s) agD
def begD (ds : List D) : D := match ds with
  | [.tuple [.int p, .int d, .int q], l] => .bool (begE p d q ((intsD l).getD []))
  | _ => .none
abbrev sp_law_begins (K : Fg) : Sp := detSp K 2 (fun ds => ∃ (p d q : Int) (ts : List Int), ds = [tup3 p d q, .list (ts.map PyData.int)] ∧ Bd 31 p ∧ Bd 31 d ∧ Bd 31 q ∧ Pos1 ts ∧ ts.length ≤ 400 ∧ ∀ t ∈ ts, Bd 40 t) begD
def allD (ds : List D) : D := match ds with
  | [.tuple [.int p, .int d, .int q], l] => .bool (allE p d q ((intsD l).getD []))
  | _ => .none
abbrev sp_law_is_all (K : Fg) : Sp := detSp K 2 (fun ds => ∃ (p d q : Int) (ts : List Int), ds = [tup3 p d q, .list (ts.map PyData.int)] ∧ Bd 31 p ∧ Bd 31 d ∧ Bd 31 q ∧ ts.length ≤ 400 ∧ ∀ t ∈ ts, Bd 40 t) allD

theorem eqvn_ints (ts : List Int) : (PyData.list (ts.map PyData.int)).eqv (.list []) = ts.isEmpty := by cases ts <;> rfl
theorem agI_bd (p d q t s : Int) : Bd 1 (agI p d q t s) := by
  unfold agI
  have h := sgI_bd (s * s * d - (q * t - p * s) * (q * t - p * s))
  generalize sgI (s * s * d - (q * t - p * s) * (q * t - p * s)) = x at *
  have l1 : Bd 1 (1 : Int) := Bd.lit (by decide)
  split <;> split
  · exact l1
  · exact h
  · exact l1.neg
  · exact h.neg

section
variable {P : Program} {w : World} {K : Fg} {mg : Str → Option Value} {base : Heap}
abbrev s_is_number : Stmt := topS 6
abbrev N_is_number : List Str := ["thing"]
theorem sc_is_number : FnScope N_is_number ["thing"] (defScope s_is_number) := ⟨rfl, rfl, rfl, by decide +kernel, rfl, by decide +kernel, by decide +kernel⟩
theorem ok_is_number (d : Df K mg "is_number" s_is_number ["thing"]) (b_bool : mg "bool" = none) (b_int : mg "int" = none) (b_isinstance : mg "isinstance" = none) : Cal P w K mg base 1 "is_number" ["thing"] (sp_is_number K) := by
  refine d.ok sc_is_number (pureSp_len rfl) (fun f cdv A outer s H vs Q E hr hgu h => ?_)
  refine ⟨_, (pss_one (ps_ret (pe_and (pe_callB (isiK K) (by rfl) b_isinstance (by decide +kernel) (pa_cons (pv 0) (pa_cons (pe_bltn (v := .ty "int") (by rfl) b_int (by decide +kernel) rfl) pa_nil))) (pe_one (pe_not (pe_callB (isiK K) (by rfl) b_isinstance (by decide +kernel) (pa_cons (pv 0) (pa_cons (pe_bltn (v := .ty "bool") (by rfl) b_bool (by decide +kernel) rfl) pa_nil)))))))), ?_⟩
  try dsimp only [cxOf]
  refine pure_body h (fun ds hl hp e hn hz => ?_)
  obtain ⟨x, rfl⟩ : ∃ x, ds = [x] := len1 hl
  show wS _ _ [some (.d x)] _
  repeat' walk_at "dq"
  refine ite2 (fun b => ?_) (fun b => ?_)
  · repeat' walk_at "dq"
    refine hz _ _ ?_
    show PyData.bool (!isT "bool" x) = .bool (isNum x)
    rw [isNum_eq, b]; rfl
  · refine hz _ _ ?_
    show PyData.bool false = .bool (isNum x)
    rw [isNum_eq, Bool.eq_false_iff.mpr b]; rfl
abbrev s_law_cell : Stmt := topS 23
abbrev N_law_cell : List Str := ["_law_script", "_law_k"]
theorem sc_law_cell : FnScope N_law_cell ["_law_script", "_law_k"] (defScope s_law_cell) := ⟨rfl, rfl, rfl, by decide +kernel, rfl, by decide +kernel, by decide +kernel⟩
theorem ok_law_cell (d : Df K mg "_law_cell" s_law_cell ["_law_script", "_law_k"]) (b_len : mg "len" = none) : Cal P w K mg base 1 "_law_cell" ["_law_script", "_law_k"] (sp_law_cell K) := by
  refine d.ok sc_law_cell (pureSp_len rfl) (fun f cdv A outer s H vs Q E hr hgu h => ?_)
  refine ⟨_, (pss_cons (ps_if (pt_cmpR op_lt (pv 1) (pe_callB (lenK K) (by rfl) b_len (by decide +kernel) (pa_cons (pv 0) pa_nil)) (nomark _)) (pss_one (ps_ret (pe_ix (ixK K) (pv 0) (pv 1) (fun _ _ => rfl)))) pss_nil)
    (pss_one (ps_ret (pe_op op_add (pe_op op_mulW pe_int (pv 1)) pe_int)))), ?_⟩
  try dsimp only [cxOf]
  refine pure_body h (fun ds hl hp e hn hz => ?_)
  obtain ⟨ns, k, rfl, k0, k1⟩ := hp
  show wS _ _ [some (.d (.list (ns.map PyData.int))), some (.d (.int k))] _
  repeat' walk_at "dq"
  refine ite2 (fun b => ?_) (fun b => ?_)
  · repeat' walk_at "dq"
    obtain ⟨x, hx, hm⟩ := atI_mem (xs := ns.map PyData.int) k0 (of_decide_eq_true b)
    refine ⟨_, _, x, rfl, rfl, hx, hz _ _ ?_⟩
    obtain ⟨n, _, rfl⟩ := List.mem_map.mp hm
    exact ⟨n, rfl⟩
  · repeat' walk_at "dq"
    exact hz _ _ ⟨_, rfl⟩
abbrev s_law_box : Stmt := topS 24
abbrev N_law_box : List Str := ["_law_cell_here"]
theorem sc_law_box : FnScope N_law_box ["_law_cell_here"] (defScope s_law_box) := ⟨rfl, rfl, rfl, by decide +kernel, rfl, by decide +kernel, by decide +kernel⟩
theorem ok_law_box (d : Df K mg "_law_box" s_law_box ["_law_cell_here"]) (b_max : mg "max" = none) : Cal P w K mg base 1 "_law_box" ["_law_cell_here"] (sp_law_purse K) := by
  refine d.ok sc_law_box (fun vs H Q E z => by obtain ⟨c, rfl, _⟩ := z; rfl) (fun f cdv A outer s H vs Q E hr hgu h => ?_)
  exact ⟨t_purse, (pss_one (ps_ret (pe_lst (pa_cons (pe_callB (call_max2 rfl) (by rfl) b_max (by decide +kernel) (pa_cons pe_int (pa_cons (pe_op op_sub (pv 0) (pe_op op_pow pe_int pe_int)) pa_nil))) (pa_cons (pe_op op_mod (pv 0) pe_int) (pa_cons pe_int pa_nil)))))), purse_read rfl h⟩
abbrev s_law_take : Stmt := topS 25
abbrev N_law_take : List Str := ["_law_box_here", "_law_count", "_law_digit", "_law_number"]
theorem sc_law_take : FnScope N_law_take ["_law_box_here", "_law_count"] (defScope s_law_take) := ⟨rfl, rfl, rfl, by decide +kernel, rfl, by decide +kernel, by decide +kernel⟩
theorem ok_law_take (d : Df K mg "_law_take" s_law_take ["_law_box_here", "_law_count"])  : Cal P w K mg base 1 "_law_take" ["_law_box_here", "_law_count"] (sp_law_take K) := by
  refine d.ok sc_law_take (puSp_len rfl) (fun f cdv A outer s H vs Q E hr hgu h => ?_)
  exact ⟨t_take4 K _ _ _, (pss_cons (ps_if (pt_cmpR op_gt (pe_ix (ixK K) (pv 0) pe_int (fun _ _ => rfl)) pe_int (nomark _)) (pss_cons (ps_set (i := 2) sc_law_take.nd rfl (Or.inl rfl) (pe_op op_mod (pe_ix (ixK K) (pv 0) pe_int (fun _ _ => rfl)) (pv 1)))
    (pss_cons (ps_asg (pe_op op_fdivW (pe_ix (ixK K) (pv 0) pe_int (fun _ _ => rfl)) (pv 1)) (pg_sub (pv 0) pe_int set_list))
    (pss_one (ps_ret (pv 2))))) pss_nil)
    (pss_cons (ps_asg (pe_op op_add (pe_ix (ixK K) (pv 0) pe_int (fun _ _ => rfl)) pe_int) (pg_sub (pv 0) pe_int set_list))
    (pss_cons (ps_set (i := 3) sc_law_take.nd rfl (Or.inl rfl) (pe_op op_mod (pe_op op_pow (pe_op op_add (pe_op op_add (pe_ix (ixK K) (pv 0) pe_int (fun _ _ => rfl)) (pe_op op_mul pe_int (pe_ix (ixK K) (pv 0) pe_int (fun _ _ => rfl)))) pe_int) pe_int) pe_int))
    (pss_cons (ps_set (i := 3) sc_law_take.nd rfl (Or.inl rfl) (pe_op op_mod (pe_op op_pow (pe_op op_add (pe_op op_fdivW (pv 3) pe_int) (pe_op op_mul pe_int (pe_ix (ixK K) (pv 0) pe_int (fun _ _ => rfl)))) pe_int) pe_int))
    (pss_one (ps_ret (pe_op op_mod (pe_op op_fdivW (pv 3) pe_int) (pv 1)))))))), take4_read (by decide) (by decide) (by decide) rfl h⟩
abbrev s_law_parts : Stmt := topS 26
abbrev N_law_parts : List Str := ["_law_box_here", "_law_way", "_law_p", "_law_q", "_law_sign", "_law_great"]
theorem sc_law_parts : FnScope N_law_parts ["_law_box_here"] (defScope s_law_parts) := ⟨rfl, rfl, rfl, by decide +kernel, rfl, by decide +kernel, by decide +kernel⟩
theorem ok_law_parts (d : Df K mg "_law_parts" s_law_parts ["_law_box_here"]) (c_law_take : Cal P w K mg base 1 "_law_take" ["_law_box_here", "_law_count"] (sp_law_take K)) (b_int : mg "int" = none) : Cal P w K mg base 2 "_law_parts" ["_law_box_here"] (sp_law_parts K) := by
  refine d.ok sc_law_parts (puSp_len rfl) (fun f cdv A outer s H vs Q E hr hgu h => ?_)
  refine ⟨_, (pss_cons (ps_set (i := 1) sc_law_parts.nd rfl (Or.inl rfl) (pe_cal c_law_take (hr.mono (by decide)) hgu (by rfl) (pa_cons (pv 0) (pa_cons pe_int pa_nil))))
    (pss_cons (ps_set (i := 2) sc_law_parts.nd rfl (Or.inl rfl) (pe_op op_sub (pe_cal c_law_take (hr.mono (by decide)) hgu (by rfl) (pa_cons (pv 0) (pa_cons pe_int pa_nil))) pe_int))
    (pss_cons (ps_set (i := 3) sc_law_parts.nd rfl (Or.inl rfl) (pe_op op_mulW (pe_ix (ixK K) (pe_lst (pa_cons pe_int (pa_cons pe_int (pa_cons pe_int (pa_cons pe_int (pa_cons pe_int (pa_cons pe_int (pa_cons pe_int (pa_cons pe_int pa_nil))))))))) (pe_cal c_law_take (hr.mono (by decide)) hgu (by rfl) (pa_cons (pv 0) (pa_cons pe_int pa_nil))) (fun _ _ => rfl)) (pe_op op_sub pe_int (pe_op op_mulW pe_int (pe_cal c_law_take (hr.mono (by decide)) hgu (by rfl) (pa_cons (pv 0) (pa_cons pe_int pa_nil)))))))
    (pss_cons (ps_if (pt_cmpR op_lt (pv 1) pe_int (nomark _)) (pss_one (ps_ret (pe_tup (pa_cons (pv 2) (pa_cons (pe_cal c_law_take (hr.mono (by decide)) hgu (by rfl) (pa_cons (pv 0) (pa_cons pe_int pa_nil))) (pa_cons (pv 3) pa_nil)))))) pss_nil)
    (pss_cons (ps_if (pt_cmpR op_eq (pv 1) pe_int (nomark _)) (pss_one (ps_ret (pe_tup (pa_cons (pv 2) (pa_cons (pe_op op_pow (pe_cal c_law_take (hr.mono (by decide)) hgu (by rfl) (pa_cons (pv 0) (pa_cons pe_int pa_nil))) pe_int) (pa_cons (pv 3) pa_nil)))))) pss_nil)
    (pss_cons (ps_if (pt_cmpR op_eq (pv 1) pe_int (nomark _)) (pss_one (ps_ret (pe_tup (pa_cons (pv 2) (pa_cons (pe_op op_mulW (pe_op op_pow (pe_op op_add pe_int (pe_cal c_law_take (hr.mono (by decide)) hgu (by rfl) (pa_cons (pv 0) (pa_cons pe_int pa_nil)))) pe_int) (pe_op op_add pe_int (pe_cal c_law_take (hr.mono (by decide)) hgu (by rfl) (pa_cons (pv 0) (pa_cons pe_int pa_nil))))) (pa_cons (pv 3) pa_nil)))))) pss_nil)
    (pss_cons (ps_if (pt_cmpR op_eq (pv 1) pe_int (nomark _)) (pss_one (ps_ret (pe_tup (pa_cons (pv 2) (pa_cons (pe_op op_sub (pe_op op_pow pe_int pe_int) (pe_cal c_law_take (hr.mono (by decide)) hgu (by rfl) (pa_cons (pv 0) (pa_cons (pe_op op_pow pe_int pe_int) pa_nil)))) (pa_cons (pv 3) pa_nil)))))) pss_nil)
    (pss_cons (ps_set (i := 4) sc_law_parts.nd rfl (Or.inl rfl) (pe_op op_sub pe_int (pe_op op_mulW pe_int (pe_cal c_law_take (hr.mono (by decide)) hgu (by rfl) (pa_cons (pv 0) (pa_cons pe_int pa_nil))))))
    (pss_cons (ps_set (i := 5) sc_law_parts.nd rfl (Or.inl rfl) (pe_op op_add (pe_callTy call_int_str (by rfl) b_int (by decide +kernel) (pa_cons (pe_op op_add_str pe_str (pe_op op_repU pe_str (pe_op op_sub pe_int (pe_cal c_law_take (hr.mono (by decide)) hgu (by rfl) (pa_cons (pv 0) (pa_cons pe_int pa_nil)))))) pa_nil)) (pe_cal c_law_take (hr.mono (by decide)) hgu (by rfl) (pa_cons (pv 0) (pa_cons (pe_op op_pow pe_int pe_int) pa_nil)))))
    (pss_one (ps_ret (pe_tup (pa_cons (pe_op op_mulW (pv 4) (pv 5)) (pa_cons (pe_op op_add (pv 5) (pe_cal c_law_take (hr.mono (by decide)) hgu (by rfl) (pa_cons (pv 0) (pa_cons (pe_op op_pow pe_int pe_int) pa_nil)))) (pa_cons (pe_op op_mulW (pv 4) (pe_op op_add pe_int (pe_cal c_law_take (hr.mono (by decide)) hgu (by rfl) (pa_cons (pv 0) (pa_cons (pe_op op_pow pe_int pe_int) pa_nil))))) pa_nil))))))))))))))), ?_⟩
  try dsimp only [cxOf]
  refine pu_body h (fun ds m hl hp hc e hn hz => ?_)
  have hc : 12 ≤ m := hc
  cases ds with | cons _ _ => exact absurd hl (by simp) | nil =>
  have fin : ∀ p d q, 0 ≤ d → q ≠ 0 → Bd 31 p → Bd 31 d → Bd 7 q → ∀ (m' : Nat) (y : S), m ≤ m' + 12 → y[0]? = some (some (.pu m')) → e.rt (.d (tup3 p d q)) y := fun p d q h1 h2 h3 h4 h5 m' y h6 h8 => hz _ _ m' ⟨p, d, q, rfl, ⟨h1, h2, h3, h4, h5.mono (by decide)⟩, h5⟩ h8 (by show m - 12 ≤ m'; omega)
  show wS _ _ [some (.pu m), none, none, none, none, none] _
  repeat' walk_at "dq"
  rename_i way w0 w1 x1 x10 x11 x2 x20 x21
  have bp : Bd 31 (x1 - 20) := by unfold Bd; omega
  generalize x1 - 20 = p at *
  refine ixI_any x20 x21 (fun g hg => ?_)
  obtain ⟨a, rfl, a0, a1⟩ : ∃ a : Int, g = .int a ∧ 1 ≤ a ∧ a ≤ 12 := by
    simp only [List.mem_cons, List.not_mem_nil, or_false] at hg
    rcases hg with rfl | rfl | rfl | rfl | rfl | rfl | rfl | rfl <;> exact ⟨_, rfl, by decide, by decide⟩
  have ba : Bd 2 a := by unfold Bd; omega
  repeat' walk_at "dq"
  rename_i u u0 u1
  have bu : Bd 1 (1 - 2 * u) := by unfold Bd; omega
  have qq : a * (1 - 2 * u) ≠ 0 ∧ Bd 7 (a * (1 - 2 * u)) := ⟨fun z => by rcases Int.mul_eq_zero.mp z with z | z <;> omega, (ba.mul bu).mono (by decide)⟩
  repeat' walk_at "dq"
  generalize a * (1 - 2 * u) = q at *
  obtain ⟨q0, bq⟩ := qq
  refine ite2 (fun hw => ?_) (fun hw => ?_)
  · repeat' walk_at "dq"
    rename_i v v0 v1
    exact fin p v q v0 q0 bp (by unfold Bd; omega) bq (m - 1 - 1 - 1 - 1 - 1) _ (by omega) rfl
  · repeat' walk_at "dq"
    refine ite2 (fun hw => ?_) (fun hw => ?_)
    · repeat' walk_at "dq"
      rename_i v v0 v1
      refine ⟨⟨by decide, by decide, by omega⟩, ?_⟩
      rw [sqI]
      have v2 : 0 ≤ v * v := Int.mul_nonneg v0 v0
      have v3 : v * v ≤ 40 * 40 := Int.mul_le_mul (by omega) (by omega) v0 (by decide)
      repeat' walk_at "dq"
      exact fin p _ q v2 q0 bp (by unfold Bd; omega) bq (m - 1 - 1 - 1 - 1 - 1) _ (by omega) rfl
    · repeat' walk_at "dq"
      refine ite2 (fun hw => ?_) (fun hw => ?_)
      · repeat' walk_at "dq"
        rename_i v v0 v1
        refine ⟨⟨by decide, by decide, by omega⟩, ?_⟩
        rw [sqI]
        have v2 : 0 ≤ (1 + v) * (1 + v) := Int.mul_nonneg (by omega) (by omega)
        have v3 : (1 + v) * (1 + v) ≤ 40 * 40 := Int.mul_le_mul (by omega) (by omega) (by omega) (by decide)
        have v4 : Bd 4 ((1 + v) * (1 + v)) := by unfold Bd; omega
        generalize (1 + v) * (1 + v) = sq at *
        repeat' walk_at "dq"
        rename_i x x0 x1
        have v5 : Bd 2 (2 + x) := by unfold Bd; omega
        repeat' walk_at "dq"
        exact fin p _ q (Int.mul_nonneg v2 (by omega)) q0 bp ((v4.mul v5).mono (by decide)) bq (m - 1 - 1 - 1 - 1 - 1 - 1) _ (by omega) rfl
      · repeat' walk_at "dq"
        refine ite2 (fun hw => ?_) (fun hw => ?_)
        · repeat' walk_at "dq"
          rename_i v v0 v1
          exact fin p _ q (by omega) q0 bp (by unfold Bd; omega) bq (m - 1 - 1 - 1 - 1 - 1) _ (by omega) rfl
        · repeat' walk_at "dq"
          rename_i sg sg0 sg1
          refine wE_repU ?_
          repeat' walk_at "dq"
          rename_i v v0 v1
          obtain ⟨k, rfl⟩ : ∃ k : Nat, v = k := ⟨v.toNat, by omega⟩
          obtain ⟨big, b1, b2, b3, b4⟩ := great_text k (by omega)
          refine ⟨⟨by omega, by omega, by decide⟩, ?_⟩
          repeat' walk_at "dq"
          refine ⟨by rw [repU_len]; show 1 + _ * 1 ≤ sizeLine; exact sz_small (by omega), ?_⟩
          repeat' walk_at "dq"
          refine ⟨_, _, rfl, b1, b4, ?_⟩
          have c31 : Bd 31 big := by unfold Bd; omega
          repeat' walk_at "dq"
          rename_i v1_ v10 v11 v2_ v20 v21 v3_ v30 v31
          have k11 : v1_ < 1000000 := v11
          have k21 : v2_ < 1000000 := v21
          have k31 : v3_ < 1000000 := v31
          clear v11 v21 v31
          have cg : Bd 30 (big + v1_) := by unfold Bd; omega
          have cs : Bd 1 (1 - 2 * sg) := by unfold Bd; omega
          have ch : Bd 7 (1 + v3_) := by unfold Bd; omega
          have cq : Bd 7 ((1 - 2 * sg) * (1 + v3_)) := by
            have : (1 - 2 * sg) = 1 ∨ (1 - 2 * sg) = -1 := by omega
            rcases this with z | z <;> rw [z] <;> unfold Bd <;> omega
          have hs : (1 - 2 * sg) ≠ 0 := by omega
          exact fin ((1 - 2 * sg) * (big + v1_)) (big + v1_ + v2_) ((1 - 2 * sg) * (1 + v3_)) (by omega) (fun z => by rcases Int.mul_eq_zero.mp z with z | z <;> omega) (cs.mul cg) (by unfold Bd at *; omega) cq (m - 1 - 1 - 1 - 1 - 1 - 1 - 1 - 1 - 1) _ (by omega) rfl
abbrev s_is_whole : Stmt := topS 7
abbrev N_is_whole : List Str := ["thing", "low", "high"]
theorem sc_is_whole : FnScope N_is_whole ["thing", "low", "high"] (defScope s_is_whole) := ⟨rfl, rfl, rfl, by decide +kernel, rfl, by decide +kernel, by decide +kernel⟩
theorem ok_is_whole (d : Df K mg "is_whole" s_is_whole ["thing", "low", "high"]) (c_is_number : Cal P w K mg base 1 "is_number" ["thing"] (sp_is_number K)) : Cal P w K mg base 2 "is_whole" ["thing", "low", "high"] (sp_is_whole K) := by
  refine d.ok sc_is_whole (pureSp_len rfl) (fun f cdv A outer s H vs Q E hr hgu h => ?_)
  refine ⟨_, (pss_one (ps_ret (pe_and (pe_cal c_is_number (hr.mono (by decide)) hgu (by rfl) (pa_cons (pv 0) pa_nil)) (pe_one (pe_chain op_le op_le (pv 1) (pv 0) (pv 2)))))), ?_⟩
  try dsimp only [cxOf]
  refine pure_body h (fun ds hl hp e hn hz => ?_)
  obtain ⟨x, lo, hi, rfl⟩ := hp
  show wS _ _ [some (.d x), some (.d (.int lo)), some (.d (.int hi))] _
  repeat' walk_at "dq"
  refine ite2 (fun b => ?_) (fun b => ?_)
  · obtain ⟨i, rfl⟩ : ∃ i, x = .int i := by cases x <;> first | exact ⟨_, rfl⟩ | cases b
    repeat' walk_at "dq"
    refine ite2 (fun b1 => ?_) (fun b1 => ?_)
    · repeat' walk_at "dq"
      refine hz _ _ ?_
      show PyData.bool (decide (i ≤ hi)) = .bool (decide (lo ≤ i) && decide (i ≤ hi))
      rw [b1]; rfl
    · refine hz _ _ ?_
      show PyData.bool false = .bool (decide (lo ≤ i) && decide (i ≤ hi))
      rw [Bool.eq_false_iff.mpr b1]; rfl
  · refine hz _ _ ?_
    show PyData.bool false = .bool (wholeB x lo hi)
    cases x <;> first | rfl | exact absurd rfl b
abbrev s_fraction_terms : Stmt := topS 17
abbrev N_fraction_terms : List Str := ["top", "bottom", "found"]
theorem sc_fraction_terms : FnScope N_fraction_terms ["top", "bottom"] (defScope s_fraction_terms) := ⟨rfl, rfl, rfl, by decide +kernel, rfl, by decide +kernel, by decide +kernel⟩
theorem ok_fraction_terms (d : Df K mg "fraction_terms" s_fraction_terms ["top", "bottom"])  : Cal P w K mg base 1 "fraction_terms" ["top", "bottom"] (sp_fraction_terms K) := by
  refine d.ok sc_fraction_terms (pureSp_len rfl) (fun f cdv A outer s H vs Q E hr hgu h => ?_)
  refine ⟨_, (pss_cons (ps_set (i := 2) sc_fraction_terms.nd rfl (Or.inl rfl) (pe_lst pa_nil))
    (pss_cons (ps_while PassesOwn.never (pt_cmpR op_gt (pv 1) pe_int (nomark _)) (pss_cons (ps_expr (pe_bm PySem.F.plainAttrs_list PySem.F.slot_list_append PySem.F.type_list_append mt_append (pv 2) (pa_cons (pe_op op_fdivW (pv 0) (pv 1)) pa_nil)))
    (pss_one (ps_par (i := 0) (j := 1) (by rfl) sc_fraction_terms.nd rfl rfl (by decide) rfl rfl (pa_cons (pv 1) (pa_cons (pe_op op_mod (pv 0) (pv 1)) pa_nil)) (by rfl)))))
    (pss_one (ps_ret (pv 2))))), ?_⟩
  try dsimp only [cxOf]
  refine pure_body h (fun ds hl hp e hn hz => ?_)
  obtain ⟨a, b, rfl, b0, bb⟩ := hp
  show wS _ _ [some (.d (.int a)), some (.d (.int b)), none] _
  have fin : ∀ x y, x = .list ((floorsE a b).map PyData.int) → e.rt (.d x) y := fun x y hx => hz _ _ (by rw [hx]; rfl)
  have hlen := floors_lenB b0 bb a
  refine wS_seq (wS_own (wD_nil ⟨by decide, ?_⟩))
  dsimp only [List.set]
  repeat' walk_at "dq"
  refine wS_whileJ (fun m y => ∃ (dn : List Int) (u v : Int), y = [some (.d (.int u)), some (.d (.int v)), some (.own (dn.map PyData.int))] ∧ 0 ≤ v ∧ v ≤ b ∧ dn ++ floorsE u v = floorsE a b ∧ m = v.toNat) ⟨_, _, ⟨[], a, b, rfl, by omega, Int.le_refl _, rfl, rfl⟩, by walk_at "less"⟩ ?_
  rintro m y ⟨dn, u, v, rfl, v0, v1, hrow, rfl⟩
  have bv : Bd 1600 v := bb.of_le (by omega)
  repeat' walk_at "dq"
  refine ite2 (fun hc => ?_) (fun hc => ?_)
  · have hc : 0 < v := of_decide_eq_true hc
    have m0 := Int.emod_nonneg u (show v ≠ 0 by omega)
    have m1 := Int.emod_lt_of_pos u hc
    rw [floors_cons (p := u) (by omega)] at hrow
    have hdl : dn.length ≤ 13000 := by rw [← hrow, List.length_append] at hlen; omega
    repeat' walk_at "dq"
    refine ⟨(u % v).toNat, _, by omega, ⟨dn ++ [u / v], v, u % v, rfl, m0, by omega, by rw [List.append_assoc]; exact hrow, rfl⟩, ?_⟩
    rw [List.map_append]
    walk_at "less"
  · have hc : v = 0 := by have := of_decide_eq_false (Bool.eq_false_iff.mpr hc); omega
    subst hc
    rw [floors_zero, List.append_nil] at hrow
    show wS _ (tRet _) _ _
    refine wS_freeze 2 rfl ?_
    repeat' walk_at "dq"
    exact fin _ _ (by rw [hrow])
abbrev s_root_of : Stmt := topS 11
abbrev N_root_of : List Str := ["number", "low", "high", "middle"]
theorem sc_root_of : FnScope N_root_of ["number"] (defScope s_root_of) := ⟨rfl, rfl, rfl, by decide +kernel, rfl, by decide +kernel, by decide +kernel⟩
theorem ok_root_of (d : Df K mg "root_of" s_root_of ["number"])  : Cal P w K mg base 1 "root_of" ["number"] (sp_root_of K) := by
  refine d.ok sc_root_of (pureSp_len rfl) (fun f cdv A outer s H vs Q E hr hgu h => ?_)
  refine ⟨_, (pss_cons (ps_asg (pe_tup (pa_cons pe_int (pa_cons pe_int pa_nil))) (pgT K rfl (pgs_cons (pg_name (i := 1) sc_root_of.nd rfl (Or.inl rfl)) (pgs_cons (pg_name (i := 2) sc_root_of.nd rfl (Or.inl rfl)) pgs_nil))))
    (pss_cons (ps_while PassesOwn.never (pt_cmpR op_le (pe_op op_mulW (pv 2) (pv 2)) (pv 0) (nomark _)) (pss_one (ps_par (i := 1) (j := 2) (by rfl) sc_root_of.nd rfl rfl (by decide) rfl rfl (pa_cons (pv 2) (pa_cons (pe_op op_mulW pe_int (pv 2)) pa_nil)) (by rfl))))
    (pss_cons (ps_while PassesOwn.never (pt_cmpR op_gt (pe_op op_sub (pv 2) (pv 1)) pe_int (nomark _)) (pss_cons (ps_set (i := 3) sc_root_of.nd rfl (Or.inl rfl) (pe_op op_fdivW (pe_op op_add (pv 1) (pv 2)) pe_int))
    (pss_one (ps_if (pt_cmpR op_le (pe_op op_mulW (pv 3) (pv 3)) (pv 0) (nomark _)) (pss_one (ps_set (i := 1) sc_root_of.nd rfl (Or.inl rfl) (pv 3))) (pss_one (ps_set (i := 2) sc_root_of.nd rfl (Or.inl rfl) (pv 3)))))))
    (pss_one (ps_ret (pv 1)))))), ?_⟩
  try dsimp only [cxOf]
  refine pure_body h (fun ds hl hp e hn hz => ?_)
  obtain ⟨N, rfl, n0, n1⟩ := hp
  show wS _ _ [some (.d (.int N)), none, none, none] _
  repeat' walk_at "dq"
  refine wS_whileJ (fun m y => ∃ lo hi : Int, y = [some (.d (.int N)), some (.d (.int lo)), some (.d (.int hi)), none] ∧ 0 ≤ lo ∧ lo < hi ∧ hi ≤ 2 * N + 1 ∧ lo * lo ≤ N ∧ m = (2 * N + 2 - hi).toNat) ⟨_, _, ⟨0, 1, rfl, by decide, by decide, by omega, by omega, rfl⟩, by walk_at "less"⟩ ?_
  rintro m y ⟨lo, hi, rfl, l0, l1, l2, l3, rfl⟩
  have bN : Bd 20001 (2 * N + 1) := by
    have y1 : (10 : Nat) ^ 20001 = 10 * 10 ^ 20000 := by rw [Nat.pow_succ, Nat.mul_comm]
    have y0 : 1 ≤ (10 : Nat) ^ 20000 := Nat.one_le_pow _ _ (by decide)
    unfold Bd at *
    generalize (10 : Nat) ^ 20000 = X at *
    omega
  have bh : Bd 20001 hi := bN.of_le (by omega)
  repeat' walk_at "dq"
  refine ite2 (fun c => ?_) (fun c => ?_)
  · have c : hi * hi ≤ N := of_decide_eq_true c
    have c2 : 1 * hi ≤ hi * hi := Int.mul_le_mul_of_nonneg_right (by omega) (by omega)
    repeat' walk_at "dq"
    exact ⟨_, _, by omega, ⟨hi, 2 * hi, rfl, by omega, by omega, by omega, c, rfl⟩, by walk_at "less"⟩
  · have c : N < hi * hi := by have := of_decide_eq_false (Bool.eq_false_iff.mpr c); omega
    repeat' walk_at "dq"
    refine wS_whileJ (fun m y => ∃ lo hi : Int, y = [some (.d (.int N)), some (.d (.int lo)), some (.d (.int hi)), none] ∧ 0 ≤ lo ∧ lo < hi ∧ hi ≤ 2 * N + 1 ∧ lo * lo ≤ N ∧ N < hi * hi ∧ m = (hi - lo).toNat) ⟨_, _, ⟨lo, hi, rfl, l0, l1, l2, l3, c, rfl⟩, by walk_at "less"⟩ ?_
    clear c bh l0 l1 l2 l3
    rintro m y ⟨lo, hi, rfl, l0, l1, l2, l3, l4, rfl⟩
    repeat' walk_at "dq"
    refine ite2 (fun c => ?_) (fun c => ?_)
    · have c : 1 < hi - lo := of_decide_eq_true c
      have bm : Bd 20001 ((lo + hi) / 2) := bN.of_le (by omega)
      repeat' walk_at "dq"
      generalize hM : (lo + hi) / 2 = mi at *
      refine ite2 (fun c2 => ?_) (fun c2 => ?_)
      · have c2 : mi * mi ≤ N := of_decide_eq_true c2
        repeat' walk_at "dq"
        exact ⟨_, _, by omega, ⟨mi, hi, rfl, by omega, by omega, l2, c2, l4, rfl⟩, by walk_at "less"⟩
      · have c2 : N < mi * mi := by have := of_decide_eq_false (Bool.eq_false_iff.mpr c2); omega
        repeat' walk_at "dq"
        exact ⟨_, _, by omega, ⟨lo, mi, rfl, by omega, by omega, by omega, l3, c2, rfl⟩, by walk_at "less"⟩
    · have c : hi = lo + 1 := by have := of_decide_eq_false (Bool.eq_false_iff.mpr c); omega
      repeat' walk_at "dq"
      refine hz _ _ ?_
      show PyData.int lo = .int (isq N)
      rw [isq_uniq l0 l3 (by rw [← c]; exact l4)]
abbrev s_greatest_part : Stmt := topS 10
abbrev N_greatest_part : List Str := ["one", "other"]
theorem sc_greatest_part : FnScope N_greatest_part ["one", "other"] (defScope s_greatest_part) := ⟨rfl, rfl, rfl, by decide +kernel, rfl, by decide +kernel, by decide +kernel⟩
theorem ok_greatest_part (d : Df K mg "greatest_part" s_greatest_part ["one", "other"]) (b_abs : mg "abs" = none) : Cal P w K mg base 1 "greatest_part" ["one", "other"] (sp_greatest_part K) := by
  refine d.ok sc_greatest_part (pureSp_len rfl) (fun f cdv A outer s H vs Q E hr hgu h => ?_)
  refine ⟨_, (pss_cons (ps_par (i := 0) (j := 1) (by rfl) sc_greatest_part.nd rfl rfl (by decide) rfl rfl (pa_cons (pe_callB call_abs (by rfl) b_abs (by decide +kernel) (pa_cons (pv 0) pa_nil)) (pa_cons (pe_callB call_abs (by rfl) b_abs (by decide +kernel) (pa_cons (pv 1) pa_nil)) pa_nil)) (by rfl))
    (pss_cons (ps_while PassesOwn.never (pt_cmpR op_gt (pv 1) pe_int (nomark _)) (pss_one (ps_par (i := 0) (j := 1) (by rfl) sc_greatest_part.nd rfl rfl (by decide) rfl rfl (pa_cons (pv 1) (pa_cons (pe_op op_mod (pv 0) (pv 1)) pa_nil)) (by rfl))))
    (pss_one (ps_ret (pv 0))))), ?_⟩
  try dsimp only [cxOf]
  refine pure_body h (fun ds hl hp e hn hz => ?_)
  obtain ⟨a, b, rfl⟩ := hp
  show wS _ _ [some (.d (.int a)), some (.d (.int b))] _
  repeat' walk_at "dq"
  refine wS_while (fun m y => ∃ u v : Int, y = [some (.d (.int u)), some (.d (.int v))] ∧ 0 ≤ u ∧ 0 ≤ v ∧ gcdI u v = gcdI a b ∧ m = v.toNat) ⟨_, _, _, rfl, by split <;> omega, by split <;> omega, gcd_abs a b, rfl⟩ ?_
  rintro m y ⟨u, v, rfl, hu, hv, hg, rfl⟩
  repeat' walk_at "dq"
  refine ite2 (fun e1 => ?_) (fun e1 => ?_)
  · have hv1 : 0 < v := of_decide_eq_true e1
    have h1 := Int.emod_nonneg u (show v ≠ 0 by omega)
    have h2 := Int.emod_lt_of_pos u hv1
    repeat' walk_at "dq"
    refine ⟨_, ?_, _, _, rfl, hv, h1, (gcd_turn hu hv1).trans hg, rfl⟩
    omega
  · have hv1 : v = 0 := by have := of_decide_eq_false (Bool.eq_false_iff.mpr e1); omega
    repeat' walk_at "dq"
    refine hz _ _ ?_
    show PyData.int u = .int (gcdI a b)
    rw [← hg, hv1, gcd_zero hu]
abbrev s_in_lowest : Stmt := topS 15
abbrev N_in_lowest : List Str := ["numbers", "part", "number"]
theorem sc_in_lowest : FnScope N_in_lowest ["numbers"] (defScope s_in_lowest) := ⟨rfl, rfl, rfl, by decide +kernel, rfl, by decide +kernel, by decide +kernel⟩
theorem ok_in_lowest (d : Df K mg "in_lowest" s_in_lowest ["numbers"]) (c_greatest_part : Cal P w K mg base 1 "greatest_part" ["one", "other"] (sp_greatest_part K)) (b_tuple : mg "tuple" = none) : Cal P w K mg base 2 "in_lowest" ["numbers"] (sp_in_lowest K) := by
  refine d.ok sc_in_lowest (pureSp_len rfl) (fun f cdv A outer s H vs Q E hr hgu h => ?_)
  refine ⟨_, (pss_cons (ps_set (i := 1) sc_in_lowest.nd rfl (Or.inr rfl) pe_int)
    (pss_cons (ps_for PassesOwn.never rfl (piA K (pv 0)) (pg_name (i := 2) sc_in_lowest.nd rfl (Or.inl rfl)) (pss_one (ps_set (i := 1) sc_in_lowest.nd rfl (Or.inr rfl) (pe_cal c_greatest_part (hr.mono (by decide)) hgu (by rfl) (pa_cons (pv 1) (pa_cons (pv 2) pa_nil))))))
    (pss_cons (ps_if (pt_cmpR op_lt (pe_ix (ixK K) (pe_lc (own := [("number", 2)]) (g := gName 2) rfl sc_in_lowest.nd (piA K (pv 0)) (blkOk_by (own := [("number", 2)]) (N := N_in_lowest) (sc := defScope s_in_lowest) (by decide +kernel)) (fun _ _ _ _ _ => (pg_name (i := 2) sc_in_lowest.nd rfl (Or.inl rfl))) (fun _ _ _ _ _ => (pts_one (pt_cmpR op_ne (pv 2) pe_int (nomark _)))) (fun _ _ _ _ _ => (pv 2))) pe_int (fun _ _ => rfl)) pe_int (nomark _)) (pss_one (ps_set (i := 1) sc_in_lowest.nd rfl (Or.inr rfl) (pe_un un_neg (pv 1)))) pss_nil)
    (pss_one (ps_ret (pe_callTy (tupK K) (by rfl) b_tuple (by decide +kernel) (pa_cons (pe_lc (own := [("number", 2)]) (g := gName 2) rfl sc_in_lowest.nd (piA K (pv 0)) (blkOk_by (own := [("number", 2)]) (N := N_in_lowest) (sc := defScope s_in_lowest) (by decide +kernel)) (fun _ _ _ _ _ => (pg_name (i := 2) sc_in_lowest.nd rfl (Or.inl rfl))) (fun _ _ _ _ _ => pts_nil) (fun _ _ _ _ _ => (pe_op op_fdivZ (pv 2) (pv 1)))) pa_nil))))))), ?_⟩
  try dsimp only [cxOf]
  refine pure_body h (fun ds hl hp e hn hz => ?_)
  obtain ⟨ns, rfl, hl, h0, hb⟩ := hp
  have pb := part_bd h0 hb
  obtain ⟨us, hf⟩ := firstNZ_filter ns h0
  have hts : intsD (.list (ns.map PyData.int)) = some ns := allInts_ints ns
  have fin : ∀ y, e.rt (.d (.tuple ((lowL ns).map PyData.int))) y := fun y => hz _ _ (by show _ = lowD [.list (ns.map PyData.int)]; unfold lowD; rw [show a0 [PyData.list (ns.map PyData.int)] = .list (ns.map PyData.int) from rfl, hts]; rfl)
  have hin : ∀ x ∈ ns.map PyData.int, ∃ t : Int, x = .int t := fun x hx => by
    obtain ⟨t, _, rfl⟩ := List.mem_map.mp hx
    exact ⟨t, rfl⟩
  show wS _ _ [some (.d (.list (ns.map PyData.int))), none, none] _
  repeat' walk_at "dq"
  refine wS_for (wI_any rfl rfl ?_)
  refine forJ (fun i y => y = [some (.d (.list (ns.map PyData.int))), some (.d (.int ((ns.take i).foldl gcdI 0))), none]) (h0 := ⟨_, rfl, by walk_at "less"⟩) (hb := ?_) (he := ?_)
  · rintro i x y hx rfl
    obtain ⟨t, ht, rfl⟩ : ∃ t, ns[i]? = some t ∧ x = .int t := by
      rw [List.getElem?_map] at hx
      cases q : ns[i]? with
      | none => rw [q] at hx; cases hx
      | some t => rw [q] at hx; cases hx; exact ⟨t, rfl, rfl⟩
    rw [take_snoc ht, List.foldl_append]
    repeat' walk_at "dq"
    walk_at "less"
  · rintro y2 y' rfl hl
    refine wS_weak ?_ hl
    rw [List.length_map, List.take_length]
    rw [show ns.foldl gcdI 0 = gcdL ns from rfl]
    repeat' walk_at "dq"
    refine wE_lcF (y' := [some (.d (.list (ns.map PyData.int))), some (.d (.int (gcdL ns))), none]) (fun d => !decide (toI d = 0)) (fun d => d) rfl ?_
    repeat' walk_at "dq"
    refine ⟨fun x hx => ?_, ?_⟩
    · obtain ⟨t, rfl⟩ := hin x hx
      repeat' walk_at "dq"
      intro _
      repeat' (first | walk_at "dq" | rfl)
    · rw [show ((ns.map PyData.int).filter fun d => !decide (toI d = 0)).map (fun d => d) = (ns.filter fun x => !decide (x = 0)).map PyData.int by rw [List.filter_map, List.map_map]; rfl, hf]
      have fin2 : ∀ y2 : S, y2 = [some (.d (.list (ns.map PyData.int))), some (.d (.int (partL ns))), none] → wS { K := K, pp := false } (tRet (tCB (rTupD K) (tCons (tLc (iAny K (tVar 0)) (gName 2) tYes (tOp (rI CDivZ fun i j => V.int (i.fdiv j)) (tVar 2) (tVar 1)) (List.map (fun x => x.snd) [(Str.ofString "number", 2)])) tNil))) y2 e := by
        rintro y2 rfl
        have hpl : partL ns ≠ 0 ∧ Bd 2000 (partL ns) := by
          unfold partL
          split
          · exact ⟨by omega, pb.2.neg⟩
          · exact ⟨by omega, pb.2⟩
        repeat' walk_at "dq"
        refine wE_lcF (y' := [some (.d (.list (ns.map PyData.int))), some (.d (.int (partL ns))), none]) (fun _ => true) (fun d => .int ((toI d).fdiv (partL ns))) rfl ?_
        repeat' walk_at "dq"
        refine ⟨fun x hx => ?_, ?_⟩
        · obtain ⟨t, rfl⟩ := hin x hx
          repeat' walk_at "dq"
          intro _
          repeat' walk_at "dq"
          refine ⟨cdivZ hpl.1 hpl.2, ?_⟩
          repeat' (first | walk_at "dq" | rfl)
        · rw [filter_tt, List.map_map, show ((fun d => PyData.int ((toI d).fdiv (partL ns))) ∘ PyData.int) = PyData.int ∘ (fun x => x.fdiv (partL ns)) from rfl, ← List.map_map]
          repeat' walk_at "dq"
          exact fin _
      have hpar : partL ns = if firstNZ ns < 0 then -gcdL ns else gcdL ns := rfl
      repeat' walk_at "dq"
      refine ⟨_, _, .int (firstNZ ns), rfl, rfl, dIx_int (i := 0) (allInts_ints (firstNZ ns :: us)) rfl, ?_⟩
      repeat' walk_at "dq"
      refine ite2 (fun hc => ?_) (fun hc => ?_)
      · have hc := of_decide_eq_true hc
        rw [if_pos hc] at hpar
        repeat' (first | ((with_reducible show wS _ (tRet _) _ _); exact fin2 _ (by first | (rw [hpar]; rfl) | (rw [hpar]; done))) | walk_at "dq")
      · have hc := of_decide_eq_false (Bool.eq_false_iff.mpr hc)
        rw [if_neg hc] at hpar
        exact fin2 _ (by first | (rw [hpar]; rfl) | (rw [hpar]; done))
abbrev s_floor_of : Stmt := topS 20
abbrev N_floor_of : List Str := ["parts", "p", "d", "q", "root"]
theorem sc_floor_of : FnScope N_floor_of ["parts"] (defScope s_floor_of) := ⟨rfl, rfl, rfl, by decide +kernel, rfl, by decide +kernel, by decide +kernel⟩
theorem ok_floor_of (d : Df K mg "floor_of" s_floor_of ["parts"]) (c_root_of : Cal P w K mg base 1 "root_of" ["number"] (sp_root_of K)) (b_int : mg "int" = none) : Cal P w K mg base 2 "floor_of" ["parts"] (sp_floor_of K) := by
  refine d.ok sc_floor_of (pureSp_len rfl) (fun f cdv A outer s H vs Q E hr hgu h => ?_)
  refine ⟨_, (pss_cons (ps_asg (pv 0) (pgT K rfl (pgs_cons (pg_name (i := 1) sc_floor_of.nd rfl (Or.inl rfl)) (pgs_cons (pg_name (i := 2) sc_floor_of.nd rfl (Or.inl rfl)) (pgs_cons (pg_name (i := 3) sc_floor_of.nd rfl (Or.inl rfl)) pgs_nil)))))
    (pss_cons (ps_set (i := 4) sc_floor_of.nd rfl (Or.inl rfl) (pe_cal c_root_of (hr.mono (by decide)) hgu (by rfl) (pa_cons (pv 2) pa_nil)))
    (pss_cons (ps_if (pt_cmpR op_gt (pv 3) pe_int (nomark _)) (pss_one (ps_ret (pe_op op_fdivW (pe_op op_add (pv 1) (pv 4)) (pv 3)))) pss_nil)
    (pss_one (ps_ret (pe_op op_fdivW (pe_op op_sub (pe_op op_sub (pe_un un_neg (pv 1)) (pv 4)) (pe_callTy call_int1 (by rfl) b_int (by decide +kernel) (pa_cons (pe_cmpR op_ne (pe_op op_mulW (pv 4) (pv 4)) (pv 2) (nomark _)) pa_nil))) (pe_un un_neg (pv 3)))))))), ?_⟩
  try dsimp only [cxOf]
  refine pure_body h (fun ds hl hp e hn hz => ?_)
  obtain ⟨p, d, q, rfl, d0, q0, bp, bd, bq⟩ := hp
  show wS _ _ [some (.d (.tuple [.int p, .int d, .int q])), none, none, none, none] _
  have br := bd_isq bd d0
  have bd2 : Bd 20000 d := bd.mono (by decide)
  have fin : ∀ x y, x = flo p d q → e.rt (.d (.int x)) y := fun x y hx => hz _ _ (by rw [hx]; rfl)
  unfold flo at fin
  repeat' (first | exact bd2 | exact d0 | walk_at "dq")
  rw [show toI (a0 [PyData.int d]) = d from rfl]
  refine ite2 (fun hc => ?_) (fun hc => ?_)
  · have hc := of_decide_eq_true hc
    rw [if_pos hc] at fin
    generalize isq d = r at *
    repeat' walk_at "dq"
    exact fin _ _ rfl
  · have hc := of_decide_eq_false (Bool.eq_false_iff.mpr hc)
    rw [if_neg hc] at fin
    repeat' walk_at "dq"
    refine .inr ⟨_, rfl, ?_⟩
    repeat' walk_at "dq"
    refine fin _ _ ?_
    congr 2
    rw [show eqS (.int (isq d * isq d)) (.int d) = decide (isq d * isq d = d) from eqv_int _ _]
    by_cases w : isq d * isq d = d
    · rw [decide_eq_true w, if_pos w]; rfl
    · rw [decide_eq_false w, if_neg w]; rfl
abbrev s_scaled : Stmt := topS 21
abbrev N_scaled : List Str := ["parts", "p", "d", "q"]
theorem sc_scaled : FnScope N_scaled ["parts"] (defScope s_scaled) := ⟨rfl, rfl, rfl, by decide +kernel, rfl, by decide +kernel, by decide +kernel⟩
theorem ok_scaled (d : Df K mg "scaled" s_scaled ["parts"]) (b_abs : mg "abs" = none) : Cal P w K mg base 1 "scaled" ["parts"] (sp_scaled K) := by
  refine d.ok sc_scaled (pureSp_len rfl) (fun f cdv A outer s H vs Q E hr hgu h => ?_)
  refine ⟨_, (pss_cons (ps_asg (pv 0) (pgT K rfl (pgs_cons (pg_name (i := 1) sc_scaled.nd rfl (Or.inl rfl)) (pgs_cons (pg_name (i := 2) sc_scaled.nd rfl (Or.inl rfl)) (pgs_cons (pg_name (i := 3) sc_scaled.nd rfl (Or.inl rfl)) pgs_nil)))))
    (pss_cons (ps_if (pt_cmpR op_eq (pe_op op_modN (pe_op op_sub (pv 2) (pe_op op_mulW (pv 1) (pv 1))) (pv 3)) pe_int (nomark _)) (pss_one (ps_ret (pv 0))) pss_nil)
    (pss_one (ps_ret (pe_tup (pa_cons (pe_op op_mulW (pv 1) (pe_callB call_abs (by rfl) b_abs (by decide +kernel) (pa_cons (pv 3) pa_nil))) (pa_cons (pe_op op_mulW (pe_op op_mulW (pv 2) (pv 3)) (pv 3)) (pa_cons (pe_op op_mulW (pv 3) (pe_callB call_abs (by rfl) b_abs (by decide +kernel) (pa_cons (pv 3) pa_nil))) pa_nil)))))))), ?_⟩
  try dsimp only [cxOf]
  refine pure_body h (fun ds hl hp e hn hz => ?_)
  obtain ⟨p, d, q, rfl, q0, bp, bd, bq⟩ := hp
  show wS _ _ [some (.d (.tuple [.int p, .int d, .int q])), none, none, none] _
  have fin : ∀ x y, x = tup3 (scl p d q).1 (scl p d q).2.1 (scl p d q).2.2 → e.rt (.d x) y := fun x y hx => hz _ _ (by rw [hx]; rfl)
  unfold scl at fin
  have ea : (if q < 0 then -q else q) = (q.natAbs : Int) := by split <;> omega
  have bn := bq.abs
  repeat' walk_at "dq"
  rw [show eqS (.int ((d - p * p).fmod q)) (.int 0) = decide ((d - p * p).fmod q = 0) from eqv_int _ _]
  refine ite2 (fun hc => ?_) (fun hc => ?_)
  · have hc := of_decide_eq_true hc
    rw [if_pos hc] at fin
    repeat' walk_at "dq"
    exact fin _ _ rfl
  · have hc := of_decide_eq_false (Bool.eq_false_iff.mpr hc)
    rw [if_neg hc] at fin
    repeat' (first | walk_at "dq" | rw [ea])
    exact fin _ _ rfl
abbrev s_side_of : Stmt := topS 12
abbrev N_side_of : List Str := ["number"]
theorem sc_side_of : FnScope N_side_of ["number"] (defScope s_side_of) := ⟨rfl, rfl, rfl, by decide +kernel, rfl, by decide +kernel, by decide +kernel⟩
theorem ok_side_of (d : Df K mg "side_of" s_side_of ["number"]) (b_int : mg "int" = none) : Cal P w K mg base 1 "side_of" ["number"] (sp_side_of K) := by
  refine d.ok sc_side_of (pureSp_len rfl) (fun f cdv A outer s H vs Q E hr hgu h => ?_)
  refine ⟨_, (pss_one (ps_ret (pe_op op_sub (pe_callTy call_int1 (by rfl) b_int (by decide +kernel) (pa_cons (pe_cmpR op_gt (pv 0) pe_int (nomark _)) pa_nil)) (pe_callTy call_int1 (by rfl) b_int (by decide +kernel) (pa_cons (pe_cmpR op_lt (pv 0) pe_int (nomark _)) pa_nil))))), ?_⟩
  try dsimp only [cxOf]
  refine pure_body h (fun ds hl hp e hn hz => ?_)
  obtain ⟨x, rfl⟩ := hp
  show wS _ _ [some (.d (.int x))] _
  repeat' walk_at "dq"
  refine .inr ⟨_, rfl, ?_⟩
  repeat' walk_at "dq"
  refine .inr ⟨_, rfl, ?_⟩
  repeat' walk_at "dq"
  refine hz _ _ ?_
  show PyData.int _ = .int (sgI x)
  rw [sgI_val, Int.sub_zero]
  rfl
abbrev s_side_of_two : Stmt := topS 13
abbrev N_side_of_two : List Str := ["a", "b", "m", "one", "other"]
theorem sc_side_of_two : FnScope N_side_of_two ["a", "b", "m"] (defScope s_side_of_two) := ⟨rfl, rfl, rfl, by decide +kernel, rfl, by decide +kernel, by decide +kernel⟩
theorem ok_side_of_two (d : Df K mg "side_of_two" s_side_of_two ["a", "b", "m"]) (c_side_of : Cal P w K mg base 1 "side_of" ["number"] (sp_side_of K)) : Cal P w K mg base 2 "side_of_two" ["a", "b", "m"] (sp_side_of_two K) := by
  refine d.ok sc_side_of_two (pureSp_len rfl) (fun f cdv A outer s H vs Q E hr hgu h => ?_)
  refine ⟨_, (pss_cons (ps_set (i := 3) sc_side_of_two.nd rfl (Or.inl rfl) (pe_cal c_side_of (hr.mono (by decide)) hgu (by rfl) (pa_cons (pv 0) pa_nil)))
    (pss_cons (ps_set (i := 4) sc_side_of_two.nd rfl (Or.inl rfl) (pe_cal c_side_of (hr.mono (by decide)) hgu (by rfl) (pa_cons (pe_op op_mulW (pv 1) (pv 2)) pa_nil)))
    (pss_cons (ps_if (pt_cmpR op_ge (pe_op op_mulW (pv 3) (pv 4)) pe_int (nomark _)) (pss_one (ps_ret (pe_cal c_side_of (hr.mono (by decide)) hgu (by rfl) (pa_cons (pe_op op_add (pv 3) (pv 4)) pa_nil)))) pss_nil)
    (pss_one (ps_ret (pe_op op_mulW (pv 3) (pe_cal c_side_of (hr.mono (by decide)) hgu (by rfl) (pa_cons (pe_op op_sub (pe_op op_mulW (pv 0) (pv 0)) (pe_op op_mulW (pe_op op_mulW (pv 1) (pv 1)) (pv 2))) pa_nil)))))))), ?_⟩
  try dsimp only [cxOf]
  refine pure_body h (fun ds hl hp e hn hz => ?_)
  obtain ⟨a, b, m, rfl, ba, bb, bm⟩ := hp
  show wS _ _ [some (.d (.int a)), some (.d (.int b)), some (.d (.int m)), none, none] _
  have s1 := sgI_bd a
  have s2 := sgI_bd (b * m)
  have e2 : sg2 a b m = if 0 ≤ sgI a * sgI (b * m) then sgI (sgI a + sgI (b * m)) else sgI a * sgI (a * a - b * b * m) := rfl
  have s3 := sgI_bd (a * a - b * b * m)
  have fin : ∀ x y, x = sg2 a b m → e.rt (.d (.int x)) y := fun x y hx => hz _ _ (by rw [hx]; rfl)
  rw [e2] at fin
  repeat' walk_at "dq"
  rw [show toI (a0 [PyData.int a]) = a from rfl, show toI (a0 [PyData.int (b * m)]) = b * m from rfl]
  generalize sgI a = u at *
  generalize sgI (b * m) = v at *
  repeat' walk_at "dq"
  refine ite2 (fun c => ?_) (fun c => ?_)
  · rw [if_pos (of_decide_eq_true c)] at fin
    repeat' walk_at "dq"
    exact fin _ _ rfl
  · rw [if_neg (of_decide_eq_false (Bool.eq_false_iff.mpr c))] at fin
    repeat' walk_at "dq"
    rw [show toI (a0 [PyData.int (a * a - b * b * m)]) = a * a - b * b * m from rfl]
    repeat' walk_at "dq"
    exact fin _ _ rfl
abbrev s_side_of_three : Stmt := topS 14
abbrev N_side_of_three : List Str := ["a", "b", "m", "c", "n", "one", "other"]
theorem sc_side_of_three : FnScope N_side_of_three ["a", "b", "m", "c", "n"] (defScope s_side_of_three) := ⟨rfl, rfl, rfl, by decide +kernel, rfl, by decide +kernel, by decide +kernel⟩
theorem ok_side_of_three (d : Df K mg "side_of_three" s_side_of_three ["a", "b", "m", "c", "n"]) (c_side_of : Cal P w K mg base 1 "side_of" ["number"] (sp_side_of K)) (c_side_of_two : Cal P w K mg base 2 "side_of_two" ["a", "b", "m"] (sp_side_of_two K)) : Cal P w K mg base 3 "side_of_three" ["a", "b", "m", "c", "n"] (sp_side_of_three K) := by
  refine d.ok sc_side_of_three (pureSp_len rfl) (fun f cdv A outer s H vs Q E hr hgu h => ?_)
  refine ⟨_, (pss_cons (ps_set (i := 5) sc_side_of_three.nd rfl (Or.inl rfl) (pe_cal c_side_of_two (hr.mono (by decide)) hgu (by rfl) (pa_cons (pv 0) (pa_cons (pv 1) (pa_cons (pv 2) pa_nil)))))
    (pss_cons (ps_set (i := 6) sc_side_of_three.nd rfl (Or.inl rfl) (pe_cal c_side_of (hr.mono (by decide)) hgu (by rfl) (pa_cons (pe_op op_mulW (pv 3) (pv 4)) pa_nil)))
    (pss_cons (ps_if (pt_cmpR op_ge (pe_op op_mulW (pv 5) (pv 6)) pe_int (nomark _)) (pss_one (ps_ret (pe_cal c_side_of (hr.mono (by decide)) hgu (by rfl) (pa_cons (pe_op op_add (pv 5) (pv 6)) pa_nil)))) pss_nil)
    (pss_one (ps_ret (pe_op op_mulW (pv 5) (pe_cal c_side_of_two (hr.mono (by decide)) hgu (by rfl) (pa_cons (pe_op op_sub (pe_op op_add (pe_op op_mulW (pv 0) (pv 0)) (pe_op op_mulW (pe_op op_mulW (pv 1) (pv 1)) (pv 2))) (pe_op op_mulW (pe_op op_mulW (pv 3) (pv 3)) (pv 4))) (pa_cons (pe_op op_mulW (pe_op op_mulW pe_int (pv 0)) (pv 1)) (pa_cons (pv 2) pa_nil)))))))))), ?_⟩
  try dsimp only [cxOf]
  refine pure_body h (fun ds hl hp e hn hz => ?_)
  obtain ⟨a, b, m, c, n, rfl, ba, bb, bm, bc, bn⟩ := hp
  show wS _ _ [some (.d (.int a)), some (.d (.int b)), some (.d (.int m)), some (.d (.int c)), some (.d (.int n)), none, none] _
  have s1 : Bd 1 (sg2 a b m) := by rcases sg2_range a b m with z | z | z <;> rw [z] <;> exact Bd.lit (by decide)
  have s2 := sgI_bd (c * n)
  have e2 : sg3 a b m c n = if 0 ≤ sg2 a b m * sgI (c * n) then sgI (sg2 a b m + sgI (c * n)) else sg2 a b m * sg2 (a * a + b * b * m - c * c * n) (2 * a * b) m := rfl
  have s3 : Bd 1 (sg2 (a * a + b * b * m - c * c * n) (2 * a * b) m) := by rcases sg2_range (a * a + b * b * m - c * c * n) (2 * a * b) m with z | z | z <;> rw [z] <;> exact Bd.lit (by decide)
  have b2 : Bd 1 (2 : Int) := Bd.lit (by decide)
  have w1 : Bd 24000 (a * a + b * b * m - c * c * n) := ((((ba.mul ba).add ((bb.mul bb).mul bm)).sub ((bc.mul bc).mul bn))).mono (by decide)
  have w2 : Bd 24000 (2 * a * b) := ((b2.mul ba).mul bb).mono (by decide)
  have fin : ∀ x y, x = sg3 a b m c n → e.rt (.d (.int x)) y := fun x y hx => hz _ _ (by rw [hx]; rfl)
  rw [e2] at fin
  repeat' walk_at "dq"
  refine ⟨⟨rfl, a, b, m, rfl, ba.mono (by decide), bb.mono (by decide), bm.mono (by decide)⟩, ?_⟩
  repeat' walk_at "dq"
  rw [show (sg2 (toI (a0 [PyData.int a, PyData.int b, PyData.int m])) (toI (a1 [PyData.int a, PyData.int b, PyData.int m])) (toI (a2 [PyData.int a, PyData.int b, PyData.int m]))) = sg2 a b m from rfl, show toI (a0 [PyData.int (c * n)]) = c * n from rfl]
  generalize sg2 a b m = u at *
  generalize sgI (c * n) = v at *
  repeat' walk_at "dq"
  refine ite2 (fun hc => ?_) (fun hc => ?_)
  · rw [if_pos (of_decide_eq_true hc)] at fin
    repeat' walk_at "dq"
    exact fin _ _ rfl
  · rw [if_neg (of_decide_eq_false (Bool.eq_false_iff.mpr hc))] at fin
    repeat' walk_at "dq"
    refine ⟨⟨rfl, _, _, m, rfl, w1, w2, bm.mono (by decide)⟩, ?_⟩
    rw [show (sg2 (toI (a0 [PyData.int (a * a + b * b * m - c * c * n), PyData.int (2 * a * b), PyData.int m])) (toI (a1 [PyData.int (a * a + b * b * m - c * c * n), PyData.int (2 * a * b), PyData.int m])) (toI (a2 [PyData.int (a * a + b * b * m - c * c * n), PyData.int (2 * a * b), PyData.int m]))) = sg2 (a * a + b * b * m - c * c * n) (2 * a * b) m from rfl]
    repeat' walk_at "dq"
    exact fin _ _ rfl
abbrev s_side_apart : Stmt := topS 19
abbrev N_side_apart : List Str := ["one", "other", "p", "d", "q", "r", "e", "s"]
theorem sc_side_apart : FnScope N_side_apart ["one", "other"] (defScope s_side_apart) := ⟨rfl, rfl, rfl, by decide +kernel, rfl, by decide +kernel, by decide +kernel⟩
theorem ok_side_apart (d : Df K mg "side_apart" s_side_apart ["one", "other"]) (c_side_of : Cal P w K mg base 1 "side_of" ["number"] (sp_side_of K)) (c_side_of_three : Cal P w K mg base 3 "side_of_three" ["a", "b", "m", "c", "n"] (sp_side_of_three K)) : Cal P w K mg base 4 "side_apart" ["one", "other"] (sp_side_apart K) := by
  refine d.ok sc_side_apart (pureSp_len rfl) (fun f cdv A outer s H vs Q E hr hgu h => ?_)
  refine ⟨_, (pss_cons (ps_asg (pv 0) (pgT K rfl (pgs_cons (pg_name (i := 2) sc_side_apart.nd rfl (Or.inl rfl)) (pgs_cons (pg_name (i := 3) sc_side_apart.nd rfl (Or.inl rfl)) (pgs_cons (pg_name (i := 4) sc_side_apart.nd rfl (Or.inl rfl)) pgs_nil)))))
    (pss_cons (ps_asg (pv 1) (pgT K rfl (pgs_cons (pg_name (i := 5) sc_side_apart.nd rfl (Or.inl rfl)) (pgs_cons (pg_name (i := 6) sc_side_apart.nd rfl (Or.inl rfl)) (pgs_cons (pg_name (i := 7) sc_side_apart.nd rfl (Or.inl rfl)) pgs_nil)))))
    (pss_one (ps_ret (pe_op op_mulW (pe_op op_mulW (pe_cal c_side_of_three (hr.mono (by decide)) hgu (by rfl) (pa_cons (pe_op op_sub (pe_op op_mulW (pv 2) (pv 7)) (pe_op op_mulW (pv 5) (pv 4))) (pa_cons (pv 7) (pa_cons (pv 3) (pa_cons (pe_un un_neg (pv 4)) (pa_cons (pv 6) pa_nil)))))) (pe_cal c_side_of (hr.mono (by decide)) hgu (by rfl) (pa_cons (pv 4) pa_nil))) (pe_cal c_side_of (hr.mono (by decide)) hgu (by rfl) (pa_cons (pv 7) pa_nil))))))), ?_⟩
  try dsimp only [cxOf]
  refine pure_body h (fun ds hl hp e hn hz => ?_)
  obtain ⟨p, d, q, r, e', s, rfl, bp, bd, bq, br, be, bs⟩ := hp
  show wS _ _ [some (.d (.tuple [.int p, .int d, .int q])), some (.d (.tuple [.int r, .int e', .int s])), none, none, none, none, none, none] _
  have s1 : Bd 1 (sg3 (p * s - r * q) s d (-q) e') := by rcases sg3_range (p * s - r * q) s d (-q) e' with z | z | z <;> rw [z] <;> exact Bd.lit (by decide)
  have s2 := sgI_bd q
  have s3 := sgI_bd s
  have w1 : Bd 4100 (p * s - r * q) := ((bp.mul bs).sub (br.mul bq)).mono (by decide)
  have fin : ∀ x y, x = apS p d q r e' s → e.rt (.d (.int x)) y := fun x y hx => hz _ _ (by rw [hx]; rfl)
  repeat' walk_at "dq"
  refine ⟨⟨rfl, _, _, _, _, _, rfl, w1, bs.mono (by decide), bd.mono (by decide), bq.neg.mono (by decide), be.mono (by decide)⟩, ?_⟩
  rw [show (sg3 (toI (a0 [PyData.int (p * s - r * q), PyData.int s, PyData.int d, PyData.int (-q), PyData.int e'])) (toI (a1 [PyData.int (p * s - r * q), PyData.int s, PyData.int d, PyData.int (-q), PyData.int e'])) (toI (a2 [PyData.int (p * s - r * q), PyData.int s, PyData.int d, PyData.int (-q), PyData.int e'])) (toI (a3 [PyData.int (p * s - r * q), PyData.int s, PyData.int d, PyData.int (-q), PyData.int e'])) (toI (a4 [PyData.int (p * s - r * q), PyData.int s, PyData.int d, PyData.int (-q), PyData.int e']))) = sg3 (p * s - r * q) s d (-q) e' from rfl]
  unfold apS at fin
  generalize sg3 (p * s - r * q) s d (-q) e' = u at *
  repeat' walk_at "dq"
  rw [show toI (a0 [PyData.int q]) = q from rfl]
  repeat' walk_at "dq"
  rw [show toI (a0 [PyData.int s]) = s from rfl]
  repeat' walk_at "dq"
  exact fin _ _ rfl
abbrev s_law_against : Stmt := topS 28
abbrev N_law_against : List Str := ["_law_parts_here", "_law_top", "_law_bottom", "_law_p", "_law_d", "_law_q", "_law_left", "_law_right_here", "_law_side"]
theorem sc_law_against : FnScope N_law_against ["_law_parts_here", "_law_top", "_law_bottom"] (defScope s_law_against) := ⟨rfl, rfl, rfl, by decide +kernel, rfl, by decide +kernel, by decide +kernel⟩
theorem ok_law_against (d : Df K mg "_law_against" s_law_against ["_law_parts_here", "_law_top", "_law_bottom"]) (b_int : mg "int" = none) : Cal P w K mg base 1 "_law_against" ["_law_parts_here", "_law_top", "_law_bottom"] (sp_law_against K) := by
  refine d.ok sc_law_against (pureSp_len rfl) (fun f cdv A outer s H vs Q E hr hgu h => ?_)
  refine ⟨_, (pss_cons (ps_asg (pv 0) (pgT K rfl (pgs_cons (pg_name (i := 3) sc_law_against.nd rfl (Or.inl rfl)) (pgs_cons (pg_name (i := 4) sc_law_against.nd rfl (Or.inl rfl)) (pgs_cons (pg_name (i := 5) sc_law_against.nd rfl (Or.inl rfl)) pgs_nil)))))
    (pss_cons (ps_set (i := 6) sc_law_against.nd rfl (Or.inl rfl) (pe_op op_sub (pe_op op_mulW (pv 5) (pv 1)) (pe_op op_mulW (pv 3) (pv 2))))
    (pss_cons (ps_set (i := 7) sc_law_against.nd rfl (Or.inl rfl) (pe_op op_mulW (pe_op op_mulW (pv 2) (pv 2)) (pv 4)))
    (pss_cons (ps_if (pt_cmpR op_lt (pv 6) pe_int (nomark _)) (pss_one (ps_set (i := 8) sc_law_against.nd rfl (Or.inl rfl) pe_int)) (pss_one (ps_set (i := 8) sc_law_against.nd rfl (Or.inl rfl) (pe_op op_sub (pe_callTy call_int1 (by rfl) b_int (by decide +kernel) (pa_cons (pe_cmpR op_gt (pv 7) (pe_op op_mulW (pv 6) (pv 6)) (nomark _)) pa_nil)) (pe_callTy call_int1 (by rfl) b_int (by decide +kernel) (pa_cons (pe_cmpR op_lt (pv 7) (pe_op op_mulW (pv 6) (pv 6)) (nomark _)) pa_nil))))))
    (pss_one (ps_ret (pe_ifExp (pt_cmpR op_gt (pv 5) pe_int (nomark _)) (pv 8) (pe_un un_neg (pv 8))))))))), ?_⟩
  try dsimp only [cxOf]
  refine pure_body h (fun ds hl hp e hn hz => ?_)
  obtain ⟨p, d, q, t, s, rfl, bp, bd, bq, bt, bs⟩ := hp
  show wS _ _ [some (.d (.tuple [.int p, .int d, .int q])), some (.d (.int t)), some (.d (.int s)), none, none, none, none, none, none] _
  have fin : ∀ x y, x = agI p d q t s → e.rt (.d (.int x)) y := fun x y hx => hz _ _ (by rw [hx]; rfl)
  unfold agI at fin
  have end2 : ∀ sd : Int, sd = (if q * t - p * s < 0 then 1 else sgI (s * s * d - (q * t - p * s) * (q * t - p * s))) → wS { K := K, pp := false } (tRet (tIf (tTest (tOp (rI0 fun i j => .bl (decide (j < i))) (tVar 5) (tC (.int 0)))) (tVar 8) (tUn (rU fun i => .int (-i)) (tVar 8))))
      [some (.d (.tuple [.int p, .int d, .int q])), some (.d (.int t)), some (.d (.int s)), some (.d (.int p)), some (.d (.int d)), some (.d (.int q)), some (.d (.int (q * t - p * s))), some (.d (.int (s * s * d))), some (.d (.int sd))] e := by
    intro sd hsd
    rw [← hsd] at fin
    repeat' walk_at "dq"
    refine ite2 (fun hc => ?_) (fun hc => ?_)
    · rw [if_pos (of_decide_eq_true hc)] at fin
      repeat' walk_at "dq"
      exact fin _ _ rfl
    · rw [if_neg (of_decide_eq_false (Bool.eq_false_iff.mpr hc))] at fin
      repeat' walk_at "dq"
      exact fin _ _ rfl
  have bl : Bd 35000 (q * t - p * s) := ((bq.mul bt).sub (bp.mul bs)).mono (by decide)
  repeat' walk_at "dq"
  refine ite2 (fun hc => ?_) (fun hc => ?_)
  · rw [if_pos (of_decide_eq_true hc)] at end2
    repeat' (first | ((with_reducible show wS _ (tRet _) _ _); exact end2 _ rfl) | walk_at "dq")
  · rw [if_neg (of_decide_eq_false (Bool.eq_false_iff.mpr hc))] at end2
    repeat' walk_at "dq"
    refine .inr ⟨_, rfl, ?_⟩
    repeat' walk_at "dq"
    refine .inr ⟨_, rfl, ?_⟩
    repeat' (first | ((with_reducible show wS _ (tRet _) _ _); exact end2 _ (sgI_val ..)) | walk_at "dq")
abbrev s_law_begins : Stmt := topS 29
abbrev N_law_begins : List Str := ["_law_parts_here", "_law_terms", "_law_a", "_law_b", "_law_c", "_law_d", "_law_at", "_law_term", "_law_one", "_law_other"]
theorem sc_law_begins : FnScope N_law_begins ["_law_parts_here", "_law_terms"] (defScope s_law_begins) := ⟨rfl, rfl, rfl, by decide +kernel, rfl, by decide +kernel, by decide +kernel⟩
theorem ok_law_begins (d : Df K mg "_law_begins" s_law_begins ["_law_parts_here", "_law_terms"]) (c_law_against : Cal P w K mg base 1 "_law_against" ["_law_parts_here", "_law_top", "_law_bottom"] (sp_law_against K)) (b_bool : mg "bool" = none) (b_enumerate : mg "enumerate" = none) (b_int : mg "int" = none) (b_isinstance : mg "isinstance" = none) (b_len : mg "len" = none) : Cal P w K mg base 2 "_law_begins" ["_law_parts_here", "_law_terms"] (sp_law_begins K) := by
  refine d.ok sc_law_begins (pureSp_len rfl) (fun f cdv A outer s H vs Q E hr hgu h => ?_)
  refine ⟨_, (pss_cons (ps_asg (pe_tup (pa_cons pe_int (pa_cons pe_int (pa_cons pe_int (pa_cons pe_int pa_nil))))) (pgT K rfl (pgs_cons (pg_name (i := 2) sc_law_begins.nd rfl (Or.inl rfl)) (pgs_cons (pg_name (i := 3) sc_law_begins.nd rfl (Or.inl rfl)) (pgs_cons (pg_name (i := 4) sc_law_begins.nd rfl (Or.inl rfl)) (pgs_cons (pg_name (i := 5) sc_law_begins.nd rfl (Or.inl rfl)) pgs_nil))))))
    (pss_cons (ps_for PassesOwn.never rfl (piE K (by rfl) b_enumerate (pa_cons (pv 1) pa_nil)) (pgT K rfl (pgs_cons (pg_name (i := 6) sc_law_begins.nd rfl (Or.inl rfl)) (pgs_cons (pg_name (i := 7) sc_law_begins.nd rfl (Or.inl rfl)) pgs_nil))) (pss_cons (ps_if (PW.pt (pw_or (pt_not (pt_val (pe_callB (isiK K) (by rfl) b_isinstance (by decide +kernel) (pa_cons (pv 7) (pa_cons (pe_bltn (v := .ty "int") (by rfl) b_int (by decide +kernel) rfl) pa_nil))))) (pw_or (pt_val (pe_callB (isiK K) (by rfl) b_isinstance (by decide +kernel) (pa_cons (pv 7) (pa_cons (pe_bltn (v := .ty "bool") (by rfl) b_bool (by decide +kernel) rfl) pa_nil)))) (pw_or1 (PW.pt (pw_and (pt_cmpR op_gt (pv 6) pe_int (nomark _)) (pw_and1 (pt_cmpR op_lt (pv 7) pe_int (nomark _))))))))) (pss_one (ps_ret pe_bl)) pss_nil)
    (pss_one (ps_asg (pe_tup (pa_cons (pe_op op_add (pe_op op_mulW (pv 2) (pv 7)) (pv 3)) (pa_cons (pv 2) (pa_cons (pe_op op_add (pe_op op_mulW (pv 4) (pv 7)) (pv 5)) (pa_cons (pv 4) pa_nil))))) (pgT K rfl (pgs_cons (pg_name (i := 2) sc_law_begins.nd rfl (Or.inl rfl)) (pgs_cons (pg_name (i := 3) sc_law_begins.nd rfl (Or.inl rfl)) (pgs_cons (pg_name (i := 4) sc_law_begins.nd rfl (Or.inl rfl)) (pgs_cons (pg_name (i := 5) sc_law_begins.nd rfl (Or.inl rfl)) pgs_nil)))))))))
    (pss_cons (ps_if (pt_cmpR (eqK K hr.units) (pv 1) (pe_lst pa_nil) (nomark _)) (pss_one (ps_ret pe_bl)) pss_nil)
    (pss_cons (ps_par (i := 8) (j := 9) (by rfl) sc_law_begins.nd rfl rfl (by decide) rfl rfl (pa_cons (pe_cal c_law_against (hr.mono (by decide)) hgu (by rfl) (pa_cons (pv 0) (pa_cons (pv 2) (pa_cons (pv 4) pa_nil)))) (pa_cons (pe_cal c_law_against (hr.mono (by decide)) hgu (by rfl) (pa_cons (pv 0) (pa_cons (pe_op op_add (pv 2) (pv 3)) (pa_cons (pe_op op_add (pv 4) (pv 5)) pa_nil)))) pa_nil)) (by rfl))
    (pss_one (ps_ret (pe_or (pe_and (pe_cmpR op_eq (pv 8) pe_int (nomark _)) (pe_one (pe_or (pe_cmpR op_eq (pe_callB (lenK K) (by rfl) b_len (by decide +kernel) (pa_cons (pv 1) pa_nil)) pe_int (nomark _)) (pe_one (pe_cmpR op_gt (pe_ix (ixK K) (pv 1) (pe_un un_neg pe_int) (fun _ _ => rfl)) pe_int (nomark _)))))) (pe_one (pe_cmpR op_lt (pe_op op_mulW (pv 8) (pv 9)) pe_int (nomark _)))))))))), ?_⟩
  try dsimp only [cxOf]
  refine pure_body h (fun ds hl hp e hn hz => ?_)
  obtain ⟨p, d, q, ts, rfl, bp, bd, bq, hpos, hl4, hb⟩ := hp
  have fin : ∀ b y, b = begE p d q ts → e.rt (.d (.bool b)) y := fun b y hb => hz _ _ (by
    rw [hb]
    show _ = PyData.bool (begE p d q ((intsD (.list (ts.map PyData.int))).getD []))
    rw [show intsD (.list (ts.map PyData.int)) = some ts from allInts_ints ts]
    rfl)
  show wS _ _ [some (.d (tup3 p d q)), some (.d (.list (ts.map PyData.int))), none, none, none, none, none, none, none, none] _
  repeat' walk_at "dq"
  refine wS_for (wI_enum (wE_var rfl ⟨_, rfl, ?_⟩))
  refine ⟨fun i y => i ≤ ts.length ∧ ∃ q6 q7, y = [some (.d (tup3 p d q)), some (.d (.list (ts.map PyData.int))), some (.d (.int (turnL (ts.take i)).a)), some (.d (.int (turnL (ts.take i)).b)), some (.d (.int (turnL (ts.take i)).c)), some (.d (.int (turnL (ts.take i)).d)), q6, q7, none, none], ⟨Nat.zero_le _, _, _, rfl⟩, ?_, ?_⟩
  · rintro i x y hx ⟨hi, q6, q7, rfl⟩
    obtain ⟨u, hu, rfl⟩ := enumD_get hx
    obtain ⟨t, ht, rfl⟩ : ∃ t, ts[i]? = some t ∧ u = .int t := by
      rw [List.getElem?_map] at hu
      cases q : ts[i]? with
      | none => rw [q] at hu; cases hu
      | some t => rw [q] at hu; cases hu; exact ⟨t, rfl, rfl⟩
    have bt : Bd 40 t := hb t (List.mem_of_getElem? ht)
    have hi2 : i < ts.length := (List.getElem?_eq_some_iff.mp ht).1
    have mb := (mb_turnW (ts.take i) fun t h => hb t (List.mem_of_mem_take h)).mono (show _ ≤ 16500 by rw [List.length_take]; omega)
    have es : turnL (ts.take (i + 1)) = (turnL (ts.take i)).mul (.term t) := by rw [take_snoc ht, turn_snoc]
    have hti : i ≠ 0 → 1 ≤ t := fun h0 => hpos t (by
      have : (ts.drop 1)[i - 1]? = some t := by rw [List.getElem?_drop, show 1 + (i - 1) = i by omega]; exact ht
      exact List.mem_of_getElem? this)
    rw [Mx.mul_term] at es
    obtain ⟨b1, b2, b3, b4⟩ := mb
    generalize turnL (ts.take i) = M at *
    obtain ⟨a, b, c, d'⟩ := M
    dsimp only at es
    dsimp only at b1 b2 b3 b4 ⊢
    repeat' walk_at "dq"
    refine ite2 (fun hi0 => ?_) (fun hi0 => ?_)
    · have := of_decide_eq_true hi0
      have := hti (by omega)
      repeat' walk_at "dq"
      refine itb_f (decide_eq_false (by omega)) ?_
      repeat' walk_at "dq"
      rw [es]
      exact ⟨_, _, rfl⟩
    · repeat' walk_at "dq"
      rw [es]
      exact ⟨_, _, rfl⟩
  · rintro y2 ⟨_, q6, q7, rfl⟩
    have el : (enumD (ts.map PyData.int)).length = ts.length := by unfold enumD; rw [List.length_map, List.length_zipIdx, List.length_map]
    rw [el, List.take_length]
    have mb := (mb_turnW ts hb).mono (show _ ≤ 16500 by omega)
    obtain ⟨b1, b2, b3, b4⟩ := mb
    have ef : begE p d q ts = (ts.isEmpty || ((decide (agI p d q (turnL ts).a (turnL ts).c = 0) && (decide (ts.length = 1) || decide (1 < ts.getLast?.getD 0))) ||
      decide (agI p d q (turnL ts).a (turnL ts).c * agI p d q ((turnL ts).a + (turnL ts).b) ((turnL ts).c + (turnL ts).d) < 0))) := rfl
    rw [ef] at fin
    have hlast : ts ≠ [] → dIx (.list (ts.map PyData.int)) (-1) = some (.int (ts.getLast?.getD 0)) := fun hn => by
      show atI (ts.map PyData.int) (-1) = _
      rw [atI_last (by intro h; rw [List.map_eq_nil_iff] at h; exact hn h), List.getLast?_map]
      cases q : ts.getLast? with
      | none => rw [List.getLast?_eq_none_iff] at q; exact absurd q hn
      | some l => rfl
    have hdl : dLen (.list (ts.map PyData.int)) = some ts.length := dLen_int (allInts_ints ts)
    generalize turnL ts = M at *
    obtain ⟨a, b, c, d'⟩ := M
    dsimp only at b1 b2 b3 b4 fin ⊢
    have b5 := (b1.add b2).mono (show _ ≤ 50000 by decide)
    have b6 : Bd 17000 (a + b) := (bd1 b1 b2).mono (by decide)
    have b7 : Bd 17000 (c + d') := (bd1 b3 b4).mono (by decide)
    repeat' walk_at "dq"
    refine ⟨shaped_list (elok_ints ts), rfl, ?_⟩
    rw [eqvn_ints]
    refine ⟨_, rfl, ite2 (fun hn => ?_) (fun hn => ?_)⟩
    · rw [hn] at fin
      repeat' walk_at "dq"
      exact fin _ _ rfl
    · have hn0 : ts ≠ [] := fun z => by rw [z] at hn; exact hn rfl
      rw [Bool.eq_false_iff.mpr hn, Bool.false_or] at fin
      repeat' walk_at "dq"
      refine ⟨⟨rfl, p, d, q, a, c, rfl, bp, bd, bq, b1.mono (by decide), b3.mono (by decide)⟩, ?_⟩
      repeat' walk_at "dq"
      refine ⟨⟨rfl, p, d, q, _, _, rfl, bp, bd, bq, b6, b7⟩, ?_⟩
      rw [show agD [tup3 p d q, PyData.int a, PyData.int c] = .int (agI p d q a c) from rfl, show agD [tup3 p d q, PyData.int (a + b), PyData.int (c + d')] = .int (agI p d q (a + b) (c + d')) from rfl]
      have rx : Bd 1 (agI p d q a c) := agI_bd ..
      have ry : Bd 1 (agI p d q (a + b) (c + d')) := agI_bd ..
      generalize agI p d q a c = X at *
      generalize agI p d q (a + b) (c + d') = Y2 at *
      repeat' walk_at "dq"
      have ex : eqS (.int X) (.int 0) = decide (X = 0) := eqv_int _ _
      have el1 : eqS (.int (ts.length : Nat)) (.int 1) = decide (ts.length = 1) := (eqv_int _ _).trans (decide_eq_decide.mpr (by omega))
      refine ite2 (fun hx => ?_) (fun hx => ?_)
      · rw [ex] at hx
        rw [hx, Bool.true_and] at fin
        repeat' walk_at "dq"
        rw [List.length_map, el1]
        refine ite2 (fun hl => ?_) (fun hl => ?_)
        · rw [hl, Bool.true_or, Bool.true_or] at fin
          repeat' walk_at "dq"
          exact fin _ _ rfl
        · rw [Bool.eq_false_iff.mpr hl, Bool.false_or] at fin
          repeat' walk_at "dq"
          refine ⟨_, _, _, rfl, rfl, hlast hn0, ?_⟩
          repeat' walk_at "dq"
          refine ite2 (fun hk => ?_) (fun hk => ?_)
          · rw [hk, Bool.true_or] at fin
            repeat' walk_at "dq"
            exact fin _ _ rfl
          · rw [Bool.eq_false_iff.mpr hk, Bool.false_or] at fin
            repeat' walk_at "dq"
            exact fin _ _ rfl
      · rw [ex] at hx
        rw [Bool.eq_false_iff.mpr hx, Bool.false_and, Bool.false_or] at fin
        repeat' walk_at "dq"
        exact fin _ _ rfl
abbrev s_law_is_all : Stmt := topS 32
abbrev N_law_is_all : List Str := ["_law_parts_here", "_law_terms", "_law_a", "_law_b", "_law_c", "_law_d", "_law_term"]
theorem sc_law_is_all : FnScope N_law_is_all ["_law_parts_here", "_law_terms"] (defScope s_law_is_all) := ⟨rfl, rfl, rfl, by decide +kernel, rfl, by decide +kernel, by decide +kernel⟩
theorem ok_law_is_all (d : Df K mg "_law_is_all" s_law_is_all ["_law_parts_here", "_law_terms"]) (c_law_against : Cal P w K mg base 1 "_law_against" ["_law_parts_here", "_law_top", "_law_bottom"] (sp_law_against K)) : Cal P w K mg base 2 "_law_is_all" ["_law_parts_here", "_law_terms"] (sp_law_is_all K) := by
  refine d.ok sc_law_is_all (pureSp_len rfl) (fun f cdv A outer s H vs Q E hr hgu h => ?_)
  refine ⟨_, (pss_cons (ps_asg (pe_tup (pa_cons pe_int (pa_cons pe_int (pa_cons pe_int (pa_cons pe_int pa_nil))))) (pgT K rfl (pgs_cons (pg_name (i := 2) sc_law_is_all.nd rfl (Or.inl rfl)) (pgs_cons (pg_name (i := 3) sc_law_is_all.nd rfl (Or.inl rfl)) (pgs_cons (pg_name (i := 4) sc_law_is_all.nd rfl (Or.inl rfl)) (pgs_cons (pg_name (i := 5) sc_law_is_all.nd rfl (Or.inl rfl)) pgs_nil))))))
    (pss_cons (ps_for PassesOwn.never rfl (piA K (pv 1)) (pg_name (i := 6) sc_law_is_all.nd rfl (Or.inl rfl)) (pss_one (ps_asg (pe_tup (pa_cons (pe_op op_add (pe_op op_mulW (pv 2) (pv 6)) (pv 3)) (pa_cons (pv 2) (pa_cons (pe_op op_add (pe_op op_mulW (pv 4) (pv 6)) (pv 5)) (pa_cons (pv 4) pa_nil))))) (pgT K rfl (pgs_cons (pg_name (i := 2) sc_law_is_all.nd rfl (Or.inl rfl)) (pgs_cons (pg_name (i := 3) sc_law_is_all.nd rfl (Or.inl rfl)) (pgs_cons (pg_name (i := 4) sc_law_is_all.nd rfl (Or.inl rfl)) (pgs_cons (pg_name (i := 5) sc_law_is_all.nd rfl (Or.inl rfl)) pgs_nil))))))))
    (pss_one (ps_ret (pe_cmpR op_eq (pe_cal c_law_against (hr.mono (by decide)) hgu (by rfl) (pa_cons (pv 0) (pa_cons (pv 2) (pa_cons (pv 4) pa_nil)))) pe_int (nomark _)))))), ?_⟩
  try dsimp only [cxOf]
  refine pure_body h (fun ds hl hp e hn hz => ?_)
  obtain ⟨p, d, q, ts, rfl, bp, bd, bq, hl4, hb⟩ := hp
  have fin : ∀ b y, b = allE p d q ts → e.rt (.d (.bool b)) y := fun b y hb => hz _ _ (by
    rw [hb]
    show _ = PyData.bool (allE p d q ((intsD (.list (ts.map PyData.int))).getD []))
    rw [show intsD (.list (ts.map PyData.int)) = some ts from allInts_ints ts]
    rfl)
  show wS _ _ [some (.d (tup3 p d q)), some (.d (.list (ts.map PyData.int))), none, none, none, none, none] _
  repeat' walk_at "dq"
  refine wS_for (wI_any rfl rfl ?_)
  refine forJ (fun i y => y = [some (.d (tup3 p d q)), some (.d (.list (ts.map PyData.int))), some (.d (.int (turnL (ts.take i)).a)), some (.d (.int (turnL (ts.take i)).b)), some (.d (.int (turnL (ts.take i)).c)), some (.d (.int (turnL (ts.take i)).d)), none] ∧ i ≤ ts.length) (h0 := ⟨_, ⟨rfl, Nat.zero_le _⟩, by walk_at "less"⟩) (hb := ?_) (he := ?_)
  · rintro i x y hx ⟨rfl, hi⟩
    obtain ⟨t, ht, rfl⟩ : ∃ t, ts[i]? = some t ∧ x = .int t := by
      rw [List.getElem?_map] at hx
      cases q : ts[i]? with
      | none => rw [q] at hx; cases hx
      | some t => rw [q] at hx; cases hx; exact ⟨t, rfl, rfl⟩
    have bt : Bd 40 t := hb t (List.mem_of_getElem? ht)
    have hi2 : i < ts.length := (List.getElem?_eq_some_iff.mp ht).1
    have mb := (mb_turnW (ts.take i) fun t h => hb t (List.mem_of_mem_take h)).mono (show _ ≤ 16500 by rw [List.length_take]; omega)
    have es : turnL (ts.take (i + 1)) = (turnL (ts.take i)).mul (.term t) := by rw [take_snoc ht, turn_snoc]
    rw [es, Mx.mul_term]
    obtain ⟨b1, b2, b3, b4⟩ := mb
    generalize turnL (ts.take i) = M at *
    obtain ⟨a, b, c, d'⟩ := M
    dsimp only at b1 b2 b3 b4 ⊢
    repeat' walk_at "dq"
    exact ⟨_, ⟨rfl, hi2⟩, by walk_at "less"⟩
  · rintro y2 y' ⟨rfl, _⟩ hl
    refine wS_weak ?_ hl
    rw [List.length_map, List.take_length]
    have mb := (mb_turnW ts hb).mono (show _ ≤ 16500 by omega)
    obtain ⟨b1, b2, b3, b4⟩ := mb
    have ef : allE p d q ts = decide (agI p d q (turnL ts).a (turnL ts).c = 0) := rfl
    rw [ef] at fin
    generalize turnL ts = M at *
    obtain ⟨a, b, c, d'⟩ := M
    dsimp only at b1 b2 b3 b4 fin ⊢
    repeat' walk_at "dq"
    refine ⟨⟨rfl, p, d, q, a, c, rfl, bp, bd, bq, b1.mono (by decide), b3.mono (by decide)⟩, ?_⟩
    rw [show agD [tup3 p d q, PyData.int a, PyData.int c] = .int (agI p d q a c) from rfl]
    repeat' walk_at "dq"
    exact fin _ _ (eqv_int _ _)
end
end Tq
namespace Ux
open PySem PySem.Spec PyProof.Rows L2 Tq
open PySem.NumText (digitsVal AllDigits)
local macro_rules | `(tactic| walk_at "fld") => `(tactic| (refine ⟨_, _, _, _, _, rfl, ?_, rfl, rfl, ?_⟩; (exact AtC.get (by assumption) (by decide)); try dsimp only []))
local macro_rules | `(tactic| walk_at "set") => `(tactic| (first
  | (refine ⟨_, 0, _, _, _, _, _, _, rfl, rfl, ?_, by decide, rfl, ?_⟩; (exact AtC.get (by assumption) (by decide)); try dsimp only [])
  | (refine ⟨_, 1, _, _, _, _, _, _, rfl, rfl, ?_, by decide, rfl, ?_⟩; (exact AtC.get (by assumption) (by decide)); try dsimp only [])
  | (refine ⟨_, 2, _, _, _, _, _, _, rfl, rfl, ?_, by decide, rfl, ?_⟩; (exact AtC.get (by assumption) (by decide)); try dsimp only [])
  | (refine ⟨_, 3, _, _, _, _, _, _, rfl, rfl, ?_, by decide, rfl, ?_⟩; (exact AtC.get (by assumption) (by decide)); try dsimp only [])
  | (refine ⟨_, 4, _, _, _, _, _, _, rfl, rfl, ?_, by decide, rfl, ?_⟩; (exact AtC.get (by assumption) (by decide)); try dsimp only [])))
local macro_rules | `(tactic| walk_at "meth") => `(tactic| refine ⟨_, _, _, _, _, _, _, _, rfl, rfl, .head _, ?_⟩)
local macro_rules | `(tactic| walk_at "lessu") => `(tactic| (refine less_mk' ?_ ?_; (repeat' (first | exact less_nil | refine less_none ?_ | refine less_some ?_)); (first | exact List.nil_sublist _ | exact List.Sublist.refl _ | decide)))
local macro_rules | `(tactic| walk_at "bd") => `(tactic| (repeat' (first | assumption | with_reducible apply Bd.mul | with_reducible apply Bd.add | with_reducible apply Bd.sub | with_reducible apply Bd.neg | (with_reducible apply Bd.div; rotate_left; omega) | exact Bd.lit (k := 40) (by first | decide | omega))))
local macro_rules | `(tactic| walk_at "uyEtOp") => `(tactic| (first
  | (with_reducible show wE _ (tOp rIsNO _ _) _ _; refine wE_isNO ?_)
  | (with_reducible show wE _ (tOp (rNotInTD _) _ _) _ _; refine wE_notInTD ?_)
  | (with_reducible show wE _ (tOp (rNeNil _) _ _) _ _; refine wE_neNil ?_)
  | (with_reducible show wE _ (tOp (rIxL _) _ _) _ _; refine wE_ixL ?_)
  | (with_reducible show wE _ (tOp (rEqNil _) _ _) _ _; refine wE_eqNil ?_)
  | (with_reducible show wE _ (tOp rIsB _ _) _ _; refine wE_isB ?_)
  | (with_reducible show wE _ (tOp rNotB _ _) _ _; refine wE_notB ?_)
  | (with_reducible show wE _ (tOp (rCatL _) _ _) _ _; refine xE_catL ?_)
  | (with_reducible show wE _ (tOp (rI0 _) _ _) _ _; first | with_reducible refine wE_add ?_ | with_reducible refine wE_sub ?_ | with_reducible refine wE_lt ?_ | with_reducible refine wE_le ?_ | with_reducible refine wE_gt ?_ | with_reducible refine wE_ge ?_)
  | (with_reducible show wE _ (tOp (rI CPow _) (tC _) (tC _)) _ _; refine wE_powN ?_)
  | (with_reducible show wE _ (tOp (rI _ _) _ _) _ _; first | with_reducible refine wE_mod ?_ | with_reducible refine wE_fdivW ?_ | with_reducible refine wE_mulW ?_ | with_reducible refine wE_pow ?_ | with_reducible refine wE_fdivZ ?_ | with_reducible refine wE_modN ?_ | with_reducible refine wE_mul ?_)
  | (with_reducible show wE _ (tOp (rIxZ _) _ _) _ _; refine xE_ixZ ?_)
  | (with_reducible show wE _ (tOp (rCatZ _) _ _) _ _; refine xE_catZ ?_)
  | (with_reducible show wE _ (tOp (rIx _) _ _) _ _; refine wE_ix ?_)
  | (with_reducible show wE _ (tOp (rCatG _) _ _) _ _; refine wE_catG ?_)
  | (with_reducible show wE _ (tOp rEq _ _) _ _; refine wE_eqS ?_)
  | (with_reducible show wE _ (tOp rNe _ _) _ _; refine wE_neS ?_)
  | (with_reducible show wE _ (tOp (rEqD _) _ _) _ _; refine wE_eqD ?_)
  | (with_reducible show wE _ (tOp (rNeD _) _ _) _ _; refine wE_neD ?_)
  | (with_reducible show wE _ (tOp _ _ _) _ _; first | with_reducible refine wE_addS ?_ | with_reducible refine wE_isN ?_ | with_reducible refine wE_notN ?_ | with_reducible refine wE_inSign ?_ | with_reducible refine wE_ltS ?_ | with_reducible refine wE_leS ?_)
  | fail))
local macro_rules | `(tactic| walk_at "uyEtSl") => `(tactic| (first
  | (with_reducible show wE _ (tSl (rSlO _) _ _ _) _ _; refine xE_slO ?_)
  | (with_reducible show wE _ (tSl (rSlNew _) _ _ _) _ _; refine xE_slN ?_)
  | (with_reducible show wE _ (tSl (rSlLab _) _ _ _) _ _; refine xE_slL ?_)
  | (with_reducible show wE _ (tSl _ _ _ _) _ _; refine wE_sl ?_)
  | fail))
local macro_rules | `(tactic| walk_at "uyEtCallS") => `(tactic| (first
  | (with_reducible show wE _ (tCallS (gSp _ _ _ _ _) _ _) _ _; refine wE_g1 ?_)
  | (with_reducible show wE _ (tCallS (bxSp _ _ _ _ _) _ _) _ _; refine wE_bx ?_)
  | (with_reducible show wE _ (tCallS (xnSp _ _ _ _ _) _ _) _ _; refine wE_xn ?_)
  | (with_reducible show wE _ (tCallS _ _ _) _ _; refine wE_x ?_)
  | fail))
local macro_rules | `(tactic| walk_at "uyEtCall") => `(tactic| (first
  | (with_reducible show wE _ (tCall (gSp _ _ _ _ _) _ _ _) _ _; refine wE_g10 ?_)
  | (with_reducible show wE _ (tCall (odSp _ _ _ _ _) _ _ _) _ _; refine wE_od ?_)
  | (with_reducible show wE _ (tCall (miSp _ _ _ _) _ _ _) _ _; refine wE_mi ?_)
  | (with_reducible show wE _ (tCall (mSp _ _ _ _) _ _ _) _ _; refine wE_m ?_)
  | (with_reducible show wE _ (tCall (vSp _) _ _ _) _ _; refine wE_veryA ?_)
  | (with_reducible show wE _ (tCall (oSp _ _ _) _ _ _) _ _; first | refine wE_odd (j := 0) rfl rfl (by omega) ?_ | refine wE_odd (j := 1) rfl rfl (by omega) ?_ | refine wE_odd (j := 2) rfl rfl (by omega) ?_)
  | (with_reducible show wE _ (tCall (oaSp _ _ _ _ _) _ _ _) _ _; refine wE_oa ?_)
  | (with_reducible show wE _ (tCall (anSp _ _ _ _) _ _ _) _ _; refine wE_an ?_)
  | (with_reducible show wE _ (tCall (spTake _) _ _ _) _ _; first | refine wE_take (j := 0) rfl rfl ?_ | refine wE_take (j := 1) rfl rfl ?_ | refine wE_take (j := 2) rfl rfl ?_ | refine wE_take (j := 3) rfl rfl ?_)
  | (with_reducible show wE _ (tCall (asSp _ _ _ _) _ _ _) _ _; refine wE_as ?_)
  | (with_reducible show wE _ (tCall (detSp _ _ _ _) _ _ _) _ _; refine wE_det ?_)
  | (with_reducible show wE _ (tCall (pureSp _ _ _ _) _ _ _) _ _; refine wE_pure ?_)
  | (with_reducible show wE _ (tCall (puSp _ _ _ _ _) _ _ _) _ _; first | refine wE_pu (j := 0) rfl rfl ?_ | refine wE_pu (j := 1) rfl rfl ?_ | refine wE_pu (j := 2) rfl rfl ?_ | refine wE_pu (j := 3) rfl rfl ?_)
  | (with_reducible show wE _ (tCall spPurse _ _ _) _ _; refine wE_purse ?_)
  | fail))
local macro_rules | `(tactic| walk_at "uyEtC") => `(tactic| (first
  | (with_reducible show wE _ (tC (.int _)) _ _; refine wE_int ?_)
  | (with_reducible show wE _ (tC (.str _)) _ _; refine wE_str ?_)
  | (with_reducible show wE _ (tC (.bl _)) _ _; refine wE_bl ?_)
  | (with_reducible show wE _ (tC .non) _ _; refine wE_non ?_)
  | fail))
local macro_rules | `(tactic| walk_at "uyEtCB") => `(tactic| (first
  | (with_reducible show wE _ (tCB (rIsi _) _) _ _; refine wE_isi ?_)
  | (with_reducible show wE _ (tCB (rIsiT _) _) _ _; refine wE_isi2 ?_)
  | (with_reducible show wE _ (tCB (rAll _) _) _ _; refine wE_all ?_)
  | (with_reducible show wE _ (tCB (rAny _) _) _ _; refine wE_any ?_)
  | (with_reducible show wE _ (tCB (rSum _) _) _ _; refine wE_sum ?_)
  | (with_reducible show wE _ (tCB (rRepr _) _) _ _; refine wE_reprS ?_)
  | (with_reducible show wE _ (tCB _ _) _ _; first | refine wE_len ?_ | with_reducible refine wE_abs ?_ | with_reducible refine wE_max2 ?_ | with_reducible refine wE_min2 ?_ | with_reducible refine wE_strI ?_ | with_reducible refine wE_intS ?_ | with_reducible refine wE_int1 ?_ | refine wE_listOf ?_ | refine wE_tupOf ?_)
  | fail))
local macro_rules | `(tactic| walk_at "uyE") => `(tactic| (first
  | (with_reducible show wE _ (tOp _ _ _) _ _; walk_at "uyEtOp")
  | (with_reducible show wE _ (tSl _ _ _ _) _ _; walk_at "uyEtSl")
  | (with_reducible show wE _ (tFld _ _ _) _ _; refine wE_fldO ?_)
  | (with_reducible show wE _ (tMethX _ _ _ _ _) _ _; refine wE_methO ?_)
  | (with_reducible show wE _ (tMethQ _ _ _ _ _ _ _ _ _) _ _; refine wE_methQ ?_)
  | (with_reducible show wE _ (tMkG _ _ _ _ _ _ _) _ _; refine wE_mkO ?_)
  | (with_reducible show wE _ (tCallS _ _ _) _ _; walk_at "uyEtCallS")
  | (with_reducible show wE _ (tCall _ _ _ _) _ _; walk_at "uyEtCall")
  | (with_reducible show wE _ (tIsC _ _ _) _ _; refine wE_isCO ?_)
  | (with_reducible show wE _ (tListR _ _) _ _; refine xE_listR ?_)
  | (with_reducible show wE _ (tMk0 _) _ _; refine wE_mk0 ?_)
  | (with_reducible show wE _ (tMethU _ _ _ _ _) _ _; refine wE_meth ?_)
  | (with_reducible show wE _ (tListD _ _) _ _; refine xE_listD ?_)
  | (with_reducible show wE _ (tVar _) _ _; refine wE_var rfl ?_)
  | (with_reducible show wE _ (tC _) _ _; walk_at "uyEtC")
  | (with_reducible show wE _ (tTupZ _) _ _; refine xE_tupZ ?_)
  | (with_reducible show wE _ (tLstZ _) _ _; refine xE_lstZ ?_)
  | (with_reducible show wE _ (tLstL _) _ _; refine xE_lstL ?_)
  | (with_reducible show wE _ tDNewL _ _; refine xE_dnewL ?_)
  | (with_reducible show wE _ (tDispL _) _ _; first | refine xE_dispS (by constructor) ?_ | refine xE_dispI (by constructor) ?_)
  | (with_reducible show wE _ (tIsX _ _ _ _ _ _ (tVar _)) _ _; refine wE_isX (by assumption) rfl rfl ?_)
  | (with_reducible show wE _ (tXf _ _ _ _ _ (tVar _)) _ _; first | refine wE_field rfl rfl ?_ | refine wE_found rfl rfl ⟨rfl, rfl⟩ ?_ | refine wE_found rfl rfl (Res.kz (by assumption)) ?_ | refine wE_found rfl rfl ?_ ?_)
  | (with_reducible show wE _ (tLenL _ _) _ _; refine xE_lenL ?_)
  | (with_reducible show wE _ (tListL _ _) _ _; refine xE_listL ?_)
  | (with_reducible show wE _ (tTupL _ _) _ _; refine xE_tupL ?_)
  | (with_reducible show wE _ (tDisp _) _ _; first | refine wE_dispS (by constructor) ?_ | refine wE_dispI (by constructor) ?_)
  | (with_reducible show wE _ (tCallR (detSp _ _ _ _) _ _) _ _; refine xE_detR ?_)
  | (with_reducible show wE _ (tCallR (pureSp _ _ _ _) _ _) _ _; refine xE_pureR ?_)
  | (with_reducible show wE _ (tIsiR _ _) _ _; refine xE_isiR ?_)
  | (with_reducible show wE _ (tReprR _ _) _ _; refine xE_reprR ?_)
  | (with_reducible show wE _ (tUn _ _) _ _; refine wE_neg ?_)
  | (with_reducible show wE _ (tLst _) _ _; refine wE_lst ?_)
  | (with_reducible show wE _ (tTup _) _ _; refine wE_tup ?_)
  | (with_reducible show wE _ tDNewK _ _; refine wE_dnew ?_)
  | (with_reducible show wE _ (tCB _ _) _ _; walk_at "uyEtCB")
  | (with_reducible show wE _ (tChain _ _ _ _ _) _ _; first | with_reducible refine wE_chainI ?_ | with_reducible refine wE_chainS ?_)
  | (with_reducible show wE _ (tAndV _ _) _ _; refine wE_andV ?_)
  | (with_reducible show wE _ (tOrV _ _) _ _; refine wE_orV ?_)
  | (with_reducible show wE _ (tNotV _) _ _; refine wE_notV ?_)
  | (with_reducible show wE _ (tIf _ _ _) _ _; refine wE_if ?_)
  | (with_reducible show wE _ (tM1 _ _ _) _ _; first | with_reducible refine wE_starts ?_ | with_reducible refine wE_index ?_ | refine wE_join ?_)
  | fail))
local macro_rules | `(tactic| walk_at "uyStSeq") => `(tactic| (first
  | (with_reducible show wS _ (tSeq (tDrop (tBM _ _ rAppend (tVar _) _)) _) _ _; first | refine wS_seq (wS_app (j := 0) rfl rfl ?_) | refine wS_seq (wS_app (j := 1) rfl rfl ?_) | refine wS_seq (wS_app (j := 2) rfl rfl ?_) | refine wS_seq (wS_app (j := 3) rfl rfl ?_))
  | (with_reducible show wS _ (tSeq (tAsg _ (gName _)) _) _ _; refine wS_seqA ?_)
  | (with_reducible show wS _ (tSeq (tPar _ _ _) _) _ _; refine wS_seqP ?_)
  | (with_reducible show wS _ (tSeq (tIfS _ _ tNext) _) _ _; refine wS_seqI ?_)
  | (with_reducible show wS _ (tSeq _ _) _ _; refine wS_seq ?_)
  | fail))
local macro_rules | `(tactic| walk_at "uyS") => `(tactic| (first
  | (with_reducible show wS _ (sFld _ _ _ _) _ _; refine wS_fld ?_)
  | (with_reducible show wS _ _ (S.set _ _ _) _; refine wS_norm (by simp only [S.set, List.set]; first | done | exact rfl) ?_)
  | (with_reducible show wS _ (tSeq _ _) _ _; walk_at "uyStSeq")
  | (with_reducible show wS _ (tDrop (tCall _ _ _ _)) _ _; refine wS_drop ?_)
  | (with_reducible show wS _ (tDrop (tCallS _ _ _)) _ _; refine wS_drop ?_)
  | (with_reducible show wS _ (tAsg _ (gName _)) _ _; refine wS_asg ?_)
  | (with_reducible show wS _ (tAsg _ _) _ _; refine wS_asgG ?_)
  | (with_reducible show wS _ (tPar _ _ _) _ _; refine wS_par ?_)
  | (with_reducible show wS _ (tIfS _ _ tNext) _ _; refine wS_ifN ?_)
  | (with_reducible show wS _ (tIfS _ _ _) _ _; refine wS_if ?_)
  | (with_reducible show wS _ (tRet _) _ _; refine wS_ret ?_)
  | (with_reducible show wS _ tRetN _ _; refine wS_retN ?_)
  | (with_reducible show wS _ tNext _ _; refine wS_next ?_)
  | (with_reducible show wS _ (tAug _ _ _) _ _; refine wS_aug rfl ?_)
  | fail))
local macro_rules | `(tactic| walk_at "uyT") => `(tactic| (first
  | (with_reducible show wT _ (tTest _) _ _; refine wT_test ?_)
  | (with_reducible show wT _ (tB _) _ _; refine wT_B ?_)
  | (with_reducible show wT _ (tAnd _ _) _ _; refine wT_and ?_)
  | (with_reducible show wT _ (tOr _ _) _ _; refine wT_or ?_)
  | (with_reducible show wT _ (tNot _) _ _; refine wT_not ?_)
  | (with_reducible show wT _ tYes _ _; refine wT_yes ?_)
  | fail))
local macro_rules | `(tactic| walk_at "uyI") => `(tactic| (first
  | (with_reducible show wI _ (iList _ _) _ _; refine wI_list ?_)
  | (with_reducible show wI _ (iTup _ _) _ _; refine wI_tup ?_)
  | (with_reducible show wI _ (iAny _ _) _ _; refine wI_any rfl rfl ?_)
  | (with_reducible show wI _ (iStr _) _ _; refine wI_str ?_)
  | (with_reducible show wI _ (iRng1 _) _ _; refine wI_rng1 ?_)
  | (with_reducible show wI _ (iRng2 _) _ _; refine wI_rng2 ?_)
  | fail))
local macro_rules | `(tactic| walk_at "uy") => `(tactic| (first
  | (with_reducible show wE _ _ _ _; walk_at "uyE")
  | (with_reducible show wS _ _ _ _; walk_at "uyS")
  | (with_reducible show wD _ (tCons _ _) _ _; refine wD_cons ?_)
  | (with_reducible show wD _ tNil _ _; refine wD_nil ?_)
  | (with_reducible show wZ _ (tCons _ _) _ _; refine wZ_cons ?_)
  | (with_reducible show wZ _ tNil _ _; refine wZ_nil ?_)
  | (with_reducible show wIZ _ (iList _ _) _ _; refine wIZ_list ?_)
  | (with_reducible show wO _ tNoPart _ _; refine wO_no ?_)
  | (with_reducible show wO _ (tPart _) _ _; refine wO_part ?_)
  | (with_reducible show wT _ _ _ _; walk_at "uyT")
  | (with_reducible show wI _ _ _ _; walk_at "uyI")
  | (with_reducible show wG _ (gName _) _ _ _; refine wG_name ?_)
  | (with_reducible show wG _ (gTup _ _ _) _ _ _; first | (refine wG_tup rfl ?_; dsimp only [List.map]) | refine wG_tupZ rfl ?_)
  | (with_reducible show wGs _ (gCons _ _) _ _ _; refine wGs_cons ?_)
  | (with_reducible show wGs _ gNil _ _ _; refine wGs_nil ?_)
  | ((with_reducible show FldO _ _ _ _ _); walk_at "fld")
  | ((with_reducible show SetP _ _ _ _ _ _); walk_at "set")
  | ((with_reducible show MethO _ _ _ _ _ _ _); walk_at "meth")
  | (with_reducible show ∀ (_ : Addr), _; intro _; try dsimp only [List.cons_append, List.nil_append])
  | (with_reducible show @Exists _ _; first | refine ⟨_, _, rfl, rfl, by omega, fun r h0 h1 => ?_⟩ | refine ⟨_, rfl, ?_⟩ | refine ⟨_, _, rfl, dLen_str (by first | omega | decide), ?_⟩ | refine ⟨_, _, rfl, dCut_str (by first | omega | decide) _ _, ?_⟩ | refine ⟨_, _, rfl, rfl, sz_small (by first | omega | (simp only [strLen_append]; omega)), ?_⟩ | refine ⟨_, _, rfl, rfl, ?_⟩ | refine ⟨_, _, rfl, ?_⟩ | refine ⟨_, _, _, rfl, rfl, rfl, ?_⟩ | refine ⟨_, _, _, rfl, rfl, ?_⟩)
  | (with_reducible show CMulW _ _ ∧ _; refine ⟨Bd.mulW (by walk_at "bd") (by walk_at "bd"), ?_⟩)
  | (with_reducible show CDivW _ _ ∧ _; refine ⟨Bd.divW (by walk_at "bd") (by omega), ?_⟩)
  | (with_reducible show ShOk _ ∧ _; refine ⟨by assumption, ?_⟩)
  | (with_reducible show _ ∧ _; first | (refine ⟨sz_small ?_, ?_⟩; focus first | (simp; done) | (simp only [List.length_map, List.length_append, List.length_take, List.length_drop, List.length_cons, List.length_nil]; omega)) | (refine ⟨sz_lt1 ?_, ?_⟩; focus first | (simp; done) | (simp only [List.length_map, List.length_append, List.length_take, List.length_drop, List.length_cons, List.length_nil]; omega)) | refine and_sw ?_ ⟨rfl, trivial⟩ | refine and_sw ?_ ⟨rfl, ⟨_, rfl⟩⟩ | refine and_sw ?_ ⟨rfl, ⟨_, _, rfl⟩⟩ | refine and_sw ?_ ⟨rfl, ⟨_, _, _, rfl⟩⟩ | refine and_sw ?_ ⟨rfl, ⟨_, rfl, ?_⟩⟩ | refine and_sw ?_ ⟨rfl, ⟨_, _, rfl, ?_⟩⟩ | refine ⟨rfl, ?_⟩ | refine ⟨trivial, ?_⟩ | refine ⟨by omega, ?_⟩)
  | (with_reducible show _ ≤ sizeLine; exact sz_small (by omega))
  | fail))
local macro_rules | `(tactic| walk_at "ux") => `(tactic| (first | walk_at "uy"| (with_reducible show ite _ _ _; first | refine itb_t rfl ?_ | refine itb_f rfl ?_)))
abbrev sh_Surd_terms_0 : Shq := ⟨1, [], [.at 0, .df 0]⟩
abbrev sh_Surd_terms_1 : Shq := ⟨1, ["many"], [.at 0, .at 1]⟩
abbrev sh_Surd_terms_2 : Shq := ⟨2, [], [.at 0, .at 1]⟩
abbrev shs_Surd_terms : List Shq := [sh_Surd_terms_0, sh_Surd_terms_1, sh_Surd_terms_2]
abbrev dvs_Surd_terms : List Dv := [.i 20]
abbrev sh_Surd___init___0 : Shq := ⟨3, [], [.at 0, .at 1, .at 2, .df 0]⟩
abbrev sh_Surd___init___1 : Shq := ⟨4, [], [.at 0, .at 1, .at 2, .at 3]⟩
abbrev shs_Surd___init__ : List Shq := [sh_Surd___init___0, sh_Surd___init___1]
abbrev dvs_Surd___init__ : List Dv := [.i 1]

def intsZ (ts : List Int) : List Z := (ts.map PyData.int).map Z.d
abbrev T3 := Int × Int × Int
abbrev sob (C : Addr) (x : T3) : Z := .ob C ["surd_parts"] [.d (tup3 x.1 x.2.1 x.2.2)]
def frD (x : T3) : D := if isq x.2.1 * isq x.2.1 = x.2.1 then fr (frS x.1 x.2.1 x.2.2).1 (frS x.1 x.2.1 x.2.2).2 else .none
abbrev sp_sinit (K : Fg) (C : Addr) : Sp := gSp (ι := Addr × T3) K 4 (fun i m r zs => r = [] ∧ m = [(i.1, .ins C [] [])] ∧ zs = [.lab i.1, .d (.int i.2.1), .d (.int i.2.2.1), .d (.int i.2.2.2)] ∧ 0 ≤ i.2.2.1 ∧ i.2.2.2 ≠ 0) (fun i m r zs z m' nw => z = .d .none ∧ m' = [(i.1, .ins C ["surd_parts"] [.d (tup3 i.2.1 i.2.2.1 i.2.2.2)])] ∧ nw = []) (fun _ _ _ _ _ _ _ => False)
abbrev sMeth (K : Fg) (C : Addr) (n : Nat) (pre : T3 → List Z → Prop) (post : T3 → List Z → Z → AC → Prop) : Sp := gSp (ι := T3 × List Z) K (n + 1) (fun i m r zs => m = [] ∧ r = [] ∧ zs = sob C i.1 :: i.2 ∧ SB 300 i.1 ∧ pre i.1 i.2) (fun i m r zs z m' nw => m' = [] ∧ post i.1 i.2 z nw) (fun _ _ _ _ _ _ _ => False)
abbrev sp_told (K : Fg) (C : Addr) : Sp := sMeth K C 0 (fun _ us => us = []) (fun x _ z nw => z = .d (tup3 x.1 x.2.1 x.2.2) ∧ nw = [])
abbrev sp_fraction (K : Fg) (C : Addr) : Sp := sMeth K C 0 (fun _ us => us = []) (fun x _ z nw => z = .d (frD x) ∧ nw = [])
abbrev sp_floor (K : Fg) (C : Addr) : Sp := sMeth K C 0 (fun _ us => us = []) (fun x _ z nw => z = .d (.int (flo x.1 x.2.1 x.2.2)) ∧ nw = [])
def restZ (C : Addr) (x : T3) : Z := match restS x.1 x.2.1 x.2.2 with
  | none => .d .none
  | some y => sob C y
abbrev sp_rest (K : Fg) (C : Addr) : Sp := sMeth K C 0 (fun _ us => us = []) (fun x _ z nw => z = restZ C x ∧ nw = [])
def stD (s : Int × Int) : D := .tuple [.int s.1, .int s.2]
abbrev scS (x : T3) : Int × Int := ((scl x.1 x.2.1 x.2.2).1, (scl x.1 x.2.1 x.2.2).2.2)
abbrev scDD (x : T3) : Int := (scl x.1 x.2.1 x.2.2).2.1
abbrev sp_states (K : Fg) (C : Addr) : Sp := sMeth K C 1 (fun x us => ∃ n : Nat, us = [.d (.int n)] ∧ n ≤ 500 ∧ NSq x.2.1) (fun x us z nw => ∃ n : Nat, us = [.d (.int n)] ∧ z = .d (.tuple [.list ((stL (scDD x) n (scS x)).map stD), .int (scDD x)]) ∧ nw = [])
abbrev sp_need_many (K : Fg) (CN : Addr) : Sp := xSp K 1 (fun _ _ => True) (fun _ ds z => wholeB (a0 ds) 1 400 = true ∧ z = .d .none) (fun zs ds ex => wholeB (a0 ds) 1 400 = false ∧ ex = ⟨.ref CN, zs.getD 0 (.d .none)⟩)
abbrev sp_terms (K : Fg) (C CN : Addr) : Sp := gSp (ι := T3 × Z × D) K 2 (fun i m r zs => r = [] ∧ zs = [sob C i.1, i.2.1] ∧ SB 300 i.1 ∧ Res (toCl false m) i.2.1 i.2.2)
  (fun i m r zs z m' nw => m' = m ∧ ∃ (n : Nat) (l : Addr), i.2.2 = .int n ∧ 1 ≤ n ∧ n ≤ 400 ∧ z = .lab l ∧ nw = [(l, .lst (intsZ (tmS i.1.1 i.1.2.1 i.1.2.2 n)))])
  (fun i m r zs ex m' nw => wholeB i.2.2 1 400 = false ∧ ex = ⟨.ref CN, i.2.1⟩ ∧ m' = m ∧ nw = [])
abbrev sp_compare (K : Fg) (C : Addr) : Sp := sMeth K C 1 (fun x us => ∃ y, us = [sob C y] ∧ SB 300 y) (fun x us z nw => ∃ y w, us = [sob C y] ∧ z = .d (.str w) ∧ nw = [] ∧ (apS x.1 x.2.1 x.2.2 y.1 y.2.1 y.2.2 = 1 → w = "more") ∧ (apS x.1 x.2.1 x.2.2 y.1 y.2.1 y.2.2 = 0 → w = "same") ∧ (apS x.1 x.2.1 x.2.2 y.1 y.2.1 y.2.2 = -1 → w = "less"))
theorem whole_res {m : List Cl} {z : Z} {d : D} (hw : wholeB (a0 [d]) 1 400 = true) (h : Res m z d) : ∃ n : Nat, d = .int n ∧ z = .d (.int n) ∧ 1 ≤ n ∧ n ≤ 400 := by
  have hw : wholeB d 1 400 = true := hw
  obtain ⟨i, rfl⟩ : ∃ i, d = .int i := by cases d <;> first | exact ⟨_, rfl⟩ | cases hw
  have hw : (decide (1 ≤ i) && decide (i ≤ 400)) = true := hw
  rw [Bool.and_eq_true, decide_eq_true_eq, decide_eq_true_eq] at hw
  refine ⟨i.toNat, ?_, ?_, by omega, by omega⟩
  · congr 1; omega
  · have e : (i.toNat : Int) = i := by omega
    rw [e]
    cases h with
    | d d => rfl
    | lab he hc =>
      exfalso
      rename_i e
      generalize e.c = c at hc
      generalize hd : PyData.int i = dd at hc
      induction hc with
      | lst ds => cases hd
      | dic kvs => cases hd
      | ro _ ih => exact ih hd
theorem take_len_take {α : Type} (l : List α) (j : Nat) : l.take (l.take j).length = l.take j := by
  rw [List.length_take]
  rcases Nat.le_total j l.length with h | h
  · rw [Nat.min_eq_left h]
  · rw [Nat.min_eq_right h, List.take_of_length_le (Nat.le_refl _), List.take_of_length_le h]
theorem lenZ (ts : List Int) : (intsZ ts).length = ts.length := by unfold intsZ; rw [List.length_map, List.length_map]
theorem shok_i {x : Int} (h : Bd 200 x) : ShOk (.int x) := (rz_int h).ok
theorem sb101 : SB 300 (1, 0, 1) := ⟨by decide, by decide, (Bd.lit (k := 1) (by decide)).mono (by decide), (Bd.lit (k := 1) (by decide)).mono (by decide), (Bd.lit (k := 1) (by decide)).mono (by decide)⟩
theorem sob_inj {C : Addr} {x y : T3} (h : [sob C x] = [sob C y]) : x = y := by
  obtain ⟨a, b, c⟩ := x
  obtain ⟨a', b', c'⟩ := y
  simp only [List.cons.injEq, Z.ob.injEq, Z.d.injEq, PyData.tuple.injEq, PyData.int.injEq, and_true, true_and] at h
  obtain ⟨h1, h2, h3⟩ := h
  rw [h1, h2, h3]
theorem same0 {m : AC} (h : ∀ e ∈ m, e.2.isRo = false) : Same m m := ⟨rfl, h⟩
theorem no_ro : ∀ e ∈ ([] : AC), e.2.isRo = false := fun _ h => (nomatch h)

abbrev sp_law_asked (K : Fg) (C : Addr) : Sp := gSp (ι := Addr × Nat × T3 × Nat) K 3 (fun i m r zs => r = [] ∧ m = [(i.1, .pu i.2.1)] ∧ zs = [.lab i.1, sob C i.2.2.1, .d (.int i.2.2.2)] ∧ 2 ≤ i.2.1 ∧ SB 300 i.2.2.1 ∧ 1 ≤ i.2.2.2 ∧ i.2.2.2 ≤ 400)
  (fun i m r zs z m' nw => ∃ (n' : Nat) (l : Addr), m' = [(i.1, .pu n')] ∧ i.2.1 ≤ n' + 2 ∧ z = .lab l ∧ nw = [(l, .lst (intsZ (tmS i.2.2.1.1 i.2.2.1.2.1 i.2.2.1.2.2 i.2.2.2)))]) (fun _ _ _ _ _ _ _ => False)
theorem terms_ok {x : T3} {k : Nat} {Q : Z → S → Prop} {A : List Cl} {l : List (Option Z)} {C CN : Addr} {K : Fg} (sb : SB 300 x) (h1 : 1 ≤ k) (h2 : k ≤ 400) {X : Ex → S → Prop} {W : WX}
    (q : ∀ p, Q (.lab p) ⟨l, A ++ [⟨p, true, .lst (intsZ (tmS x.1 x.2.1 x.2.2 k))⟩]⟩) :
    gCall1 (ι := T3 × Z × D) { K := K, W := W, ex := X } 2 (fun i m r zs => r = [] ∧ zs = [sob C i.1, i.2.1] ∧ SB 300 i.1 ∧ Res (toCl false m) i.2.1 i.2.2)
      (fun i m r zs z m' nw => m' = m ∧ ∃ (n : Nat) (l : Addr), i.2.2 = .int n ∧ 1 ≤ n ∧ n ≤ 400 ∧ z = .lab l ∧ nw = [(l, .lst (intsZ (tmS i.1.1 i.1.2.1 i.1.2.2 n)))])
      (fun i m r zs ex m' nw => wholeB i.2.2 1 400 = false ∧ ex = ⟨.ref CN, i.2.1⟩ ∧ m' = m ∧ nw = []) [sob C x, .d (.int k)] ⟨l, A⟩ Q X := by
  refine ⟨(x, .d (.int k), .int k), A, [], [], false, by simp [toCl], fun _ h => (nomatch h), rfl, ⟨rfl, rfl, sb, .d _⟩, fun z m' nw hq _ _ => ?_, fun ex m' nw hq _ _ => ?_⟩
  · obtain ⟨rfl, n, p, hn, _, _, rfl, rfl⟩ := hq
    have hn : k = n := by
      injection hn with h
      omega
    subst hn
    have := q p
    simpa [toCl] using this
  · have hw : wholeB (.int k) 1 400 = false := hq.1
    have : wholeB (.int k) 1 400 = true := by
      show (decide (1 ≤ (k : Int)) && decide ((k : Int) ≤ 400)) = true
      rw [decide_eq_true (by omega), decide_eq_true (by omega)]; rfl
    rw [this] at hw
    cases hw

/-- a thing that is no number of terms: plain, a list, a dict of ours -/
inductive Odd1 : Z → D → AC → Prop
  | pl (d : D) (h : isT "list" d = false) (h2 : isT "dict" d = false) (h3 : ShOk d) : Odd1 (.d d) d []
  | ls (a : Addr) : Odd1 (.lab a) (.list [.int 3]) [(a, .lst ([PyData.int 3].map Z.d))]
  | dc (a : Addr) : Odd1 (.lab a) (.dict []) [(a, .dic [])]
abbrev sp_law_refused (K : Fg) (C : Addr) : Sp := gSp (ι := T3 × Z × D) K 2 (fun i m r zs => r = [] ∧ zs = [sob C i.1, i.2.1] ∧ SB 300 i.1 ∧ Odd1 i.2.1 i.2.2 m ∧ wholeB i.2.2 1 400 = false) (fun i m r zs z m' nw => z = .d (.bool true) ∧ nw = []) (fun _ _ _ _ _ _ _ => False)

abbrev sp_law_right36 (K : Fg) : Sp := puSp K 2 (fun ds => ∃ (p d q : Int) (k : Nat), ds = [tup3 p d q, .int k] ∧ (SB 31 (p, d, q) ∧ Bd 7 q) ∧ 1 ≤ k ∧ k ≤ 400) (fun _ => 12) (fun _ r => r = .bool true)

section
variable {P : Program} {w : World} {K : Fg} {mg : Str → Option Value} {base : Heap}
abbrev s_i_NoNumber : Stmt := clsFn (topS 3)
theorem sc_i_NoNumber : FnScope ["self", "found"] ["self", "found"] (defScope s_i_NoNumber) := ⟨rfl, rfl, rfl, by decide +kernel, rfl, by decide +kernel, by decide +kernel⟩
theorem xc_NoNumber {C : Addr} (T : XcT K mg "NoNumber" "NoNumber.__init__" s_i_NoNumber C) (tx : TxC K mg "TermError") : Xc P w K mg base "NoNumber" C :=
  xc_ok T sc_i_NoNumber "no whole number that may be there" fun fI cdv A outer s H E => pss_cons (ps_expr (pe_tinit (by rfl) tx (pa_cons (pv 0) (pa_cons pe_str pa_nil)))) (pss_one (ps_ost (pv 0) (pv 1)))
abbrev s_Surd___init__ : Stmt := clsFnN 0 (topS 18)
abbrev N_Surd___init__ : List Str := ["self", "p", "d", "q"]
theorem sc_Surd___init__ : FnScope N_Surd___init__ ["self", "p", "d", "q"] (defScope s_Surd___init__) := ⟨rfl, rfl, rfl, by decide +kernel, rfl, by decide +kernel, by decide +kernel⟩
theorem ok_Surd___init__ {f : Addr} (d : DfQ K "__init__" "Surd.__init__" s_Surd___init__ ["self", "p", "d", "q"] dvs_Surd___init__ shs_Surd___init__ f) {C_Surd : Addr} (c_is_number : Cal P w K mg base 1 "is_number" ["thing"] (sp_is_number K)) (at_Surd : AtC K C_Surd ["surd_parts"]) : CalQ P w K mg base (L2.CX P w) 2 ["self", "p", "d", "q"] (Ux.sp_sinit K C_Surd) dvs_Surd___init__ shs_Surd___init__ f := by
  refine d.ok sc_Surd___init__ (gSp_len rfl) (fun cdv A outer s H vs Q E hr hgu h => ?_)
  refine ⟨_, (pss_cons (ps_if (pt_not (pt_val (pe_cal c_is_number (hr.mono (by decide)) hgu (by rfl) (pa_cons (pv 1) pa_nil)))) (pss_one ps_no) pss_nil)
    (pss_cons (ps_if (PW.pt (pw_or (pt_not (pt_val (pe_cal c_is_number (hr.mono (by decide)) hgu (by rfl) (pa_cons (pv 2) pa_nil)))) (pw_or1 (pt_cmpR op_lt (pv 2) pe_int (nomark _))))) (pss_one ps_no) pss_nil)
    (pss_cons (ps_if (PW.pt (pw_or (pt_not (pt_val (pe_cal c_is_number (hr.mono (by decide)) hgu (by rfl) (pa_cons (pv 3) pa_nil)))) (pw_or1 (pt_cmpR op_eq (pv 3) pe_int (nomark _))))) (pss_one ps_no) pss_nil)
    (pss_one (ps_fld (pv 0) (pe_tup (pa_cons (pv 1) (pa_cons (pv 2) (pa_cons (pv 3) pa_nil)))) rfl))))), ?_⟩
  try dsimp only [cxOf]
  refine g_body h (fun i m r zs hl pw hro hp e hnx hrt => ?_)
  obtain ⟨rfl, rfl, rfl, d0, q0⟩ := hp
  obtain ⟨x, p, d, q⟩ := i
  dsimp only at d0 q0
  show wS _ _ ⟨[some (.lab x), some (.d (.int p)), some (.d (.int d)), some (.d (.int q))], _⟩ _
  repeat' walk_at "ux"
  refine itb_f (decide_eq_false (by omega)) ?_
  repeat' walk_at "ux"
  refine itb_f ((show eqS (.int q) (.int 0) = decide (q = 0) from eqv_int _ _).trans (decide_eq_false q0)) ?_
  repeat' walk_at "ux"
  exact hnx _ (g_end0 (A := []) ⟨rfl, rfl, rfl⟩ ⟨rfl, fun e he => by rw [List.mem_singleton] at he; subst he; rfl⟩ rfl)
abbrev s_need_many : Stmt := topS 16
abbrev N_need_many : List Str := ["many"]
theorem sc_need_many : FnScope N_need_many ["many"] (defScope s_need_many) := ⟨rfl, rfl, rfl, by decide +kernel, rfl, by decide +kernel, by decide +kernel⟩
theorem ok_need_many (d : Df K mg "need_many" s_need_many ["many"]) {C_NoNumber : Addr} (x_NoNumber : Xc P w K mg base "NoNumber" C_NoNumber) (c_is_whole : Cal P w K mg base 2 "is_whole" ["thing", "low", "high"] (sp_is_whole K)) {t_MOST_TERMS : Tok} (m_MOST_TERMS : mg "MOST_TERMS" = some (.int 400 t_MOST_TERMS)) : CalX P w K mg base 3 "need_many" ["many"] (Ux.sp_need_many K C_NoNumber) := by
  refine okX d sc_need_many (xSp_len rfl) (fun f cdv A outer s H vs Q E hr hgu h => ?_)
  refine ⟨_, (pss_one (ps_if (pt_not (pt_val (pe_calR c_is_whole (hr.mono (by decide)) hgu (by rfl) (pa_cons (pv 0) (pa_cons pe_int (pa_cons (pe_glob (v := .int 400) (by rfl) m_MOST_TERMS ⟨_, rfl⟩) pa_nil)))))) (pss_one (ps_raiseF rfl x_NoNumber (hr.mono (by decide)) (takes_of rfl rfl rfl rfl) (pa_cons (pv 0) pa_nil) (by rfl))) pss_nil)), ?_⟩
  try dsimp only [cxOf]
  refine x_body h (fun mm zs ds hl hres hp e hnx hrt => ?_)
  obtain ⟨z, d, rfl, rfl, rs⟩ := resA1 hres hl
  show wS _ _ ⟨[some (z)], _⟩ _
  repeat' walk_at "ux"
  refine ⟨[d, .int 1, .int 400], .cons rs (.cons (.d _) (.cons (.d _) .nil)), ⟨rfl, d, 1, 400, rfl⟩, rfl, ?_⟩
  dsimp only
  cases hw : wholeB d 1 400 with
  | true =>
    repeat' walk_at "ux"
    exact hnx _ ⟨hw, rfl⟩
  | false =>
    repeat' walk_at "ux"
    refine wS_raise rfl x_NoNumber.oc x_NoNumber.no ?_
    repeat' walk_at "ux"
    exact ⟨hw, rfl⟩
abbrev s_Surd_fraction : Stmt := clsFnN 6 (topS 18)
abbrev N_Surd_fraction : List Str := ["self", "p", "d", "q", "root", "bottom", "top"]
theorem sc_Surd_fraction : FnScope N_Surd_fraction ["self"] (defScope s_Surd_fraction) := ⟨rfl, rfl, rfl, by decide +kernel, rfl, by decide +kernel, by decide +kernel⟩
theorem ok_Surd_fraction {f : Addr} (d : MFn K "fraction" "Surd.fraction" s_Surd_fraction ["self"] f) {C_Surd : Addr} (c_root_of : Cal P w K mg base 1 "root_of" ["number"] (sp_root_of K)) (c_in_lowest : Cal P w K mg base 2 "in_lowest" ["numbers"] (sp_in_lowest K)) (at_Surd : AtC K C_Surd ["surd_parts"]) : MCal P w K mg base (L2.CX P w) 3 ["self"] (Ux.sp_fraction K C_Surd) f := by
  refine d.okX sc_Surd_fraction (gSp_len rfl) (fun cdv A outer s H vs Q E hr hgu h => ?_)
  refine ⟨_, (pss_cons (ps_asg (pe_fld (pv 0) rfl) (pgT K rfl (pgs_cons (pg_name (i := 1) sc_Surd_fraction.nd rfl (Or.inl rfl)) (pgs_cons (pg_name (i := 2) sc_Surd_fraction.nd rfl (Or.inl rfl)) (pgs_cons (pg_name (i := 3) sc_Surd_fraction.nd rfl (Or.inl rfl)) pgs_nil)))))
    (pss_cons (ps_set (i := 4) sc_Surd_fraction.nd rfl (Or.inl rfl) (pe_cal c_root_of (hr.mono (by decide)) hgu (by rfl) (pa_cons (pv 2) pa_nil)))
    (pss_cons (ps_if (pt_cmpR (neK K hr.units) (pe_op op_mulW (pv 4) (pv 4)) (pv 2) (nomark _)) (pss_one (ps_ret pe_non)) pss_nil)
    (pss_cons (ps_asg (pe_cal c_in_lowest (hr.mono (by decide)) hgu (by rfl) (pa_cons (pe_lst (pa_cons (pv 3) (pa_cons (pe_op op_add (pv 1) (pv 4)) pa_nil))) pa_nil)) (pgT K rfl (pgs_cons (pg_name (i := 5) sc_Surd_fraction.nd rfl (Or.inl rfl)) (pgs_cons (pg_name (i := 6) sc_Surd_fraction.nd rfl (Or.inl rfl)) pgs_nil))))
    (pss_one (ps_ret (pe_tup (pa_cons (pv 6) (pa_cons (pv 5) pa_nil))))))))), ?_⟩
  try dsimp only [cxOf]
  refine g_body h (fun i m r zs hl pw hro hp e hnx hrt => ?_)
  obtain ⟨rfl, rfl, rfl, sb, hu⟩ := hp
  obtain ⟨⟨p, d, q⟩, us⟩ := i
  dsimp only at hu sb hl
  have sb1 := sb
  obtain ⟨d0, q0, bp, bd, bq⟩ := sb1
  dsimp only at d0 q0 bp bd bq

  subst hu
  show wS _ _ ⟨[some (sob C_Surd (p, d, q)), none, none, none, none, none, none], []⟩ _
  repeat' (first | exact d0 | exact q0 | exact bp.mono (by decide) | exact bd.mono (by decide) | exact bq.mono (by decide) | walk_at "ux")

  rw [show toI (a0 [PyData.int d]) = d from rfl]
  have br := bd_isq bd d0
  have fin : ∀ z y, z = frD (p, d, q) → y.m = [] → e.rt (.d z) y := fun z y h1 h2 => hrt _ _ (g_end0 (A := []) ⟨rfl, by rw [h1], rfl⟩ (same0 no_ro) h2)
  have ef : frD (p, d, q) = if isq d * isq d = d then fr (frS p d q).1 (frS p d q).2 else .none := rfl
  rw [ef] at fin
  have et : lowL [q, p + isq d] = [(frS p d q).2, (frS p d q).1] := rfl
  have bs : ∀ x ∈ [q, p + isq d], Bd 2000 x := fun x hx => by
    rcases List.mem_cons.mp hx with rfl | hx
    · exact bq.mono (by decide)
    · rw [List.mem_singleton.mp hx]
      exact (bp.add br).mono (by decide)
  generalize isq d = r at *
  repeat' walk_at "ux"
  rw [show (!PyData.eqv (.int (r * r)) (.int d)) = !decide (r * r = d) from by rw [eqv_int]]
  refine ite2 (fun hc => ?_) (fun hc => ?_)
  · have hc : ¬ r * r = d := by
      intro z
      rw [decide_eq_true z] at hc
      cases hc
    rw [if_neg hc] at fin
    repeat' walk_at "ux"
    exact fin _ _ rfl rfl
  · have hc : r * r = d := by
      by_cases z : r * r = d
      · exact z
      · rw [decide_eq_false z] at hc
        exact absurd rfl hc
    rw [if_pos hc] at fin
    repeat' walk_at "ux"
    refine ⟨⟨rfl, [q, p + r], rfl, (show 2 ≤ 10 by decide), ⟨q, .head _, q0⟩, bs⟩, ?_⟩
    rw [show lowD [PyData.list [PyData.int q, PyData.int (p + r)]] = .tuple [.int (frS p d q).2, .int (frS p d q).1] from by
      show PyData.tuple ((lowL ((intsD (.list ([q, p + r].map PyData.int))).getD [])).map PyData.int) = _
      rw [show intsD (.list ([q, p + r].map PyData.int)) = some [q, p + r] from allInts_ints [q, p + r], Option.getD_some, et]
      rfl]
    repeat' walk_at "ux"
    exact fin _ _ rfl rfl
abbrev s_Surd_states : Stmt := clsFnN 12 (topS 18)
abbrev N_Surd_states : List Str := ["self", "many", "p", "d", "q", "found", "k", "ahead"]
theorem sc_Surd_states : FnScope N_Surd_states ["self", "many"] (defScope s_Surd_states) := ⟨rfl, rfl, rfl, by decide +kernel, rfl, by decide +kernel, by decide +kernel⟩
theorem ok_Surd_states {f : Addr} (d : MFn K "states" "Surd.states" s_Surd_states ["self", "many"] f) {C_Surd : Addr} (c_floor_of : Cal P w K mg base 2 "floor_of" ["parts"] (sp_floor_of K)) (c_scaled : Cal P w K mg base 1 "scaled" ["parts"] (sp_scaled K)) (at_Surd : AtC K C_Surd ["surd_parts"]) (b_range : mg "range" = none) : MCal P w K mg base (L2.CX P w) 3 ["self", "many"] (Ux.sp_states K C_Surd) f := by
  refine d.okX sc_Surd_states (gSp_len rfl) (fun cdv A outer s H vs Q E hr hgu h => ?_)
  refine ⟨_, (pss_cons (ps_asg (pe_cal c_scaled (hr.mono (by decide)) hgu (by rfl) (pa_cons (pe_fld (pv 0) rfl) pa_nil)) (pgT K rfl (pgs_cons (pg_name (i := 2) sc_Surd_states.nd rfl (Or.inl rfl)) (pgs_cons (pg_name (i := 3) sc_Surd_states.nd rfl (Or.inl rfl)) (pgs_cons (pg_name (i := 4) sc_Surd_states.nd rfl (Or.inl rfl)) pgs_nil)))))
    (pss_cons (ps_set (i := 5) sc_Surd_states.nd rfl (Or.inl rfl) (pe_lstL pa_nil))
    (pss_cons (ps_for (passes_of rfl) rfl (pi_range1 (by rfl) b_range (pa_cons (pv 1) pa_nil)) (pg_name (i := 6) sc_Surd_states.nd rfl (Or.inl rfl)) (pss_cons (ps_expr (pe_bm PySem.F.plainAttrs_list PySem.F.slot_list_append PySem.F.type_list_append mt_append (pv 5) (pa_cons (pe_tup (pa_cons (pv 2) (pa_cons (pv 4) pa_nil))) pa_nil)))
    (pss_cons (ps_set (i := 7) sc_Surd_states.nd rfl (Or.inl rfl) (pe_op op_sub (pv 2) (pe_op op_mulW (pe_cal c_floor_of (hr.mono (by decide)) hgu (by rfl) (pa_cons (pe_tup (pa_cons (pv 2) (pa_cons (pv 3) (pa_cons (pv 4) pa_nil)))) pa_nil)) (pv 4))))
    (pss_one (ps_par (i := 2) (j := 4) (by rfl) sc_Surd_states.nd rfl rfl (by decide) rfl rfl (pa_cons (pe_un un_neg (pv 7)) (pa_cons (pe_op op_fdivZ (pe_op op_sub (pv 3) (pe_op op_mulW (pv 7) (pv 7))) (pv 4)) pa_nil)) (by rfl))))))
    (pss_one (ps_ret (pe_tup (pa_cons (pv 5) (pa_cons (pv 3) pa_nil)))))))), ?_⟩
  try dsimp only [cxOf]
  refine g_body h (fun i m r zs hl pw hro hp e hnx hrt => ?_)
  obtain ⟨rfl, rfl, rfl, sb, hu⟩ := hp
  obtain ⟨⟨p, d, q⟩, us⟩ := i
  dsimp only at hu sb hl
  have sb1 := sb
  obtain ⟨d0, q0, bp, bd, bq⟩ := sb1
  dsimp only at d0 q0 bp bd bq

  obtain ⟨n, rfl, hn, nn⟩ := hu
  show wS _ _ ⟨[some (sob C_Surd (p, d, q)), some (.d (.int n)), none, none, none, none, none, none], []⟩ _
  repeat' (first | exact d0 | exact q0 | exact bp.mono (by decide) | exact bd.mono (by decide) | exact bq.mono (by decide) | walk_at "ux")
  refine ⟨⟨rfl, p, d, q, rfl, q0, bp.mono (by decide), bd.mono (by decide), bq.mono (by decide)⟩, ?_⟩
  rw [show sclD [tup3 p d q] = tup3 (scl p d q).1 (scl p d q).2.1 (scl p d q).2.2 from rfl]
  repeat' walk_at "ux"
  rename_i l
  obtain ⟨s1, s2, s3, s4⟩ := scl_ok (p := p) nn q0
  obtain ⟨c1, c2, c3, c4, c5⟩ := scl_bd sb
  have its := fun k => its_bd sb s1 s2 k
  have ok := fun k => itS_ok s1 k s2
  have hsnoc := stL_snoc (scl p d q).2.1
  have hsuc := itS_succ (scl p d q).2.1
  have hi0 : itS (scl p d q).2.1 0 ((scl p d q).1, (scl p d q).2.2) = ((scl p d q).1, (scl p d q).2.2) := rfl
  try dsimp only at its
  have fin : ∀ z y, z = .tuple [.list ((stL (scl p d q).2.1 n ((scl p d q).1, (scl p d q).2.2)).map stD), .int (scl p d q).2.1] → y.m = [] → e.rt (.d z) y := fun z y h1 h2 => hrt _ _ (g_end0 (A := []) ⟨rfl, n, rfl, by rw [h1], rfl⟩ (same0 no_ro) h2)
  generalize (scl p d q).2.1 = D at *
  have e0 : (scl p d q).1 = ((scl p d q).1, (scl p d q).2.2).1 := rfl
  have e1 : (scl p d q).2.2 = ((scl p d q).1, (scl p d q).2.2).2 := rfl
  rw [e0, e1]
  generalize ((scl p d q).1, (scl p d q).2.2) = s at *
  refine wS_for ?_
  repeat' walk_at "ux"
  refine forJ (fun i y => y = ⟨[some (sob C_Surd (p, d, q)), some (.d (.int n)), some (.d (.int (itS D i s).1)), some (.d (.int D)), some (.d (.int (itS D i s).2)), some (.lab l), none, none], [⟨l, true, .lst (((stL D i s).map stD).map Z.d)⟩]⟩ ∧ i ≤ n) (h0 := ⟨_, ⟨rfl, Nat.zero_le _⟩, by walk_at "lessu"⟩) (hb := ?_) (he := ?_)
  · rintro i x y hx ⟨rfl, _⟩
    obtain ⟨hi, rfl⟩ := rangeD_get hx
    have hi : i < n := hi
    obtain ⟨k1, k2⟩ := its i
    obtain ⟨⟨k3, k4⟩, _⟩ := ok i
    have ea : aft (itS D i s).1 D (itS D i s).2 = (itS D i s).1 - flo (itS D i s).1 D (itS D i s).2 * (itS D i s).2 := rfl
    have ba : Bd 1203 (aft (itS D i s).1 D (itS D i s).2) := by
      have e1 : (stp D (itS D i s)).1 = -aft (itS D i s).1 D (itS D i s).2 := rfl
      have e2 := (its (i + 1)).1
      rw [hsuc, e1] at e2
      have := e2.neg
      rw [Int.neg_neg] at this
      exact this.mono (by decide)
    have bf : Bd 1203 (flo (itS D i s).1 D (itS D i s).2) := by
      have h1 := flo_le (p := (itS D i s).1) s1.1 k3
      have b1 := k1.mono (show _ ≤ 1201 by decide)
      have b2 := (bd_isq c4 s1.1).mono (show _ ≤ 1201 by decide)
      have y1 : (10 : Nat) ^ 1203 = 100 * 10 ^ 1201 := by rw [show 1203 = 1201 + 2 from rfl, Nat.pow_add, Nat.mul_comm]
      have y2 : 1 ≤ (10 : Nat) ^ 1201 := Nat.one_le_pow _ _ (by decide)
      unfold Bd at b1 b2 ⊢
      generalize (10 : Nat) ^ 1201 = X at *
      omega
    rw [hsuc i s, hsnoc i s, List.map_append, List.map_append]
    repeat' walk_at "ux"
    refine ⟨sz_lt1 (by rw [List.length_map, List.length_map, stL_len]; omega), ?_⟩
    repeat' walk_at "ux"
    refine ⟨⟨rfl, _, D, _, rfl, s1.1, k3, k1.mono (by decide), c4.mono (by decide), k2.mono (by decide)⟩, ?_⟩
    rw [show floD [PyData.tuple [PyData.int (itS D i s).1, PyData.int D, PyData.int (itS D i s).2]] = .int (flo (itS D i s).1 D (itS D i s).2) from rfl]
    repeat' walk_at "ux"
    rw [← ea]
    repeat' walk_at "ux"
    refine ⟨cdivZ k3 (k2.mono (show _ ≤ 1900 by decide)), ?_⟩
    repeat' walk_at "ux"
    exact ⟨_, ⟨rfl, hi⟩, by walk_at "lessu"⟩
  · rintro y2 y' ⟨rfl, _⟩ hl
    refine wS_weak ?_ hl
    rw [rangeD_len, Int.toNat_natCast]
    show wS _ (tRet _) _ _
    refine wS_frzA 5 (A := []) (B := []) rfl rfl ?_
    repeat' walk_at "ux"
    exact fin _ _ rfl rfl
abbrev s_Surd_terms : Stmt := clsFnN 13 (topS 18)
abbrev N_Surd_terms : List Str := ["self", "many", "told", "rows", "d", "p", "q"]
theorem sc_Surd_terms : FnScope N_Surd_terms ["self", "many"] (defScope s_Surd_terms) := ⟨rfl, rfl, rfl, by decide +kernel, rfl, by decide +kernel, by decide +kernel⟩
theorem ok_Surd_terms {f : Addr} (d : DfQ K "terms" "Surd.terms" s_Surd_terms ["self", "many"] dvs_Surd_terms shs_Surd_terms f) {C_NoNumber C_Surd : Addr} (c_need_many : CalX P w K mg base 3 "need_many" ["many"] (Ux.sp_need_many K C_NoNumber)) (c_fraction_terms : Cal P w K mg base 1 "fraction_terms" ["top", "bottom"] (sp_fraction_terms K)) (c_floor_of : Cal P w K mg base 2 "floor_of" ["parts"] (sp_floor_of K)) (v_fraction : VTab P w K mg base (L2.CX P w) 3 "fraction" [(C_Surd, Ux.sp_fraction K C_Surd)]) (v_states : VTab P w K mg base (L2.CX P w) 3 "states" [(C_Surd, Ux.sp_states K C_Surd)]) : CalQ P w K mg base (L2.CX P w) 4 ["self", "many"] (Ux.sp_terms K C_Surd C_NoNumber) dvs_Surd_terms shs_Surd_terms f := by
  refine d.ok sc_Surd_terms (gSp_len rfl) (fun cdv A outer s H vs Q E hr hgu h => ?_)
  refine ⟨_, (pss_cons (ps_expr (pe_calX c_need_many (hr.mono (by decide)) hgu (by rfl) (takes_of rfl rfl rfl rfl) (pa_cons (pv 1) pa_nil)))
    (pss_cons (ps_set (i := 2) sc_Surd_terms.nd rfl (Or.inl rfl) (pe_methX0 v_fraction (hr.mono (by decide)) hgu (takes_of rfl rfl rfl rfl) (pv 0)))
    (pss_cons (ps_if (pt_cmpR op_notN (pv 2) pe_non (nomark _)) (pss_one (ps_ret (pe_slice (slOK K) (pe_cal c_fraction_terms (hr.mono (by decide)) hgu (by rfl) (pa_cons (pe_ix (ixK K) (pv 2) pe_int (fun _ _ => rfl)) (pa_cons (pe_ix (ixK K) (pv 2) pe_int (fun _ _ => rfl)) pa_nil))) po_none (po_some (pv 1))))) pss_nil)
    (pss_cons (ps_asg (pe_methX v_states (hr.mono (by decide)) hgu (takes_of rfl rfl rfl rfl) (pv 0) (pa_cons (pv 1) pa_nil)) (pgT K rfl (pgs_cons (pg_name (i := 3) sc_Surd_terms.nd rfl (Or.inl rfl)) (pgs_cons (pg_name (i := 4) sc_Surd_terms.nd rfl (Or.inr rfl)) pgs_nil))))
    (pss_one (ps_ret (pe_lc (own := [("p", 5), ("q", 6)]) (g := gTup K 2 (gCons (gName 5) (gCons (gName 6) (gNil)))) rfl sc_Surd_terms.nd (piA K (pv 3)) (blkOk_by (own := [("p", 5), ("q", 6)]) (N := N_Surd_terms) (sc := defScope s_Surd_terms) (by decide +kernel)) (fun _ _ _ _ _ => (pgT (n := 2) K rfl (pgs_cons (pg_name (i := 5) sc_Surd_terms.nd rfl (Or.inl rfl)) (pgs_cons (pg_name (i := 6) sc_Surd_terms.nd rfl (Or.inl rfl)) pgs_nil)))) (fun _ _ _ _ _ => pts_nil) (fun _ _ _ _ _ => (pe_cal c_floor_of (hr.mono (by decide)) hgu (by rfl) (pa_cons (pe_tup (pa_cons (pv 5) (pa_cons (pv 4) (pa_cons (pv 6) pa_nil)))) pa_nil)))))))))), ?_⟩
  try dsimp only [cxOf]
  refine g_body h (fun i m r zs hl pw hro hp e hnx hrt => ?_)
  obtain ⟨rfl, rfl, sb, hres⟩ := hp
  obtain ⟨⟨p, d, q⟩, z, dd⟩ := i
  dsimp only at sb hl hres
  have sb1 := sb
  obtain ⟨d0, q0, bp, bd, bq⟩ := sb1
  dsimp only at d0 q0 bp bd bq
  show wS _ _ ⟨[some (sob C_Surd (p, d, q)), some (z), none, none, none, none, none], toCl false m ++ roM []⟩ _
  rw [show toCl false m ++ roM [] = toCl false m from List.append_nil _]
  repeat' walk_at "ux"
  refine ⟨[dd], .cons hres .nil, ⟨rfl, trivial⟩, fun z1 hz1 => ?_, fun ex hx => ⟨m, [], ⟨hx.1, hx.2, rfl, rfl⟩, same0 hro, no_ro, fun _ h => h, List.nil_sublist _⟩⟩
  obtain ⟨hw, rfl⟩ := hz1
  obtain ⟨n, rfl, rfl, hn1, hn4⟩ := whole_res hw hres
  repeat' walk_at "ux"
  refine ⟨((p, d, q), []), rfl, ⟨rfl, rfl, rfl, sb, rfl⟩, fun z nw hq _ => ?_, fun _ _ h => h.elim⟩
  obtain ⟨-, rfl, rfl⟩ := hq
  rw [show toCl false m ++ toCl true [] = toCl false m from List.append_nil _]
  have fin : ∀ l y, y.m = toCl false m ++ toCl true [(l, .lst (intsZ (tmS p d q n)))] → e.rt (.lab l) y := fun l y h1 => hrt _ _ (g_end (A := []) (m' := m) (nw := [(l, .lst (intsZ (tmS p d q n)))]) ⟨rfl, n, l, rfl, hn1, hn4, rfl, rfl⟩ (same0 hro) (fun e he => by rw [List.mem_singleton] at he; subst he; rfl) (by rw [h1, List.append_nil]))
  have ef : frD (p, d, q) = if isq d * isq d = d then fr (frS p d q).1 (frS p d q).2 else .none := rfl
  rw [ef]
  have et : tmS p d q n = if isq d * isq d = d then (floorsE (frS p d q).1 (frS p d q).2).take n else teL (scl p d q).2.1 n ((scl p d q).1, (scl p d q).2.2) := rfl
  rw [et] at fin
  by_cases hc : isq d * isq d = d
  · rw [if_pos hc]
    rw [if_pos hc] at fin
    have f1 := (frS_ok (p := p) (d := d) q0).1
    have g2 : Bd 1600 (frS p d q).2 := (frS_bd sb).2.mono (by decide)
    generalize (frS p d q).1 = A at *
    generalize (frS p d q).2 = B at *
    repeat' (first | exact g2 | walk_at "ux")
    refine fin _ _ ?_
    rw [cutD_takeN, ← List.map_take]
    rfl
  · rw [if_neg hc]
    rw [if_neg hc] at fin
    obtain ⟨s1, s2, s3, s4⟩ := scl_ok (p := p) ⟨d0, hc⟩ q0
    obtain ⟨c1, c2, c3, c4, c5⟩ := scl_bd sb
    have its := fun k => its_bd sb s1 s2 k
    have ok := fun k => (itS_ok s1 k s2).1.1
    repeat' walk_at "ux"
    refine ⟨((p, d, q), [.d (.int n)]), rfl, ⟨rfl, rfl, rfl, sb, n, rfl, by omega, d0, hc⟩, fun z nw hq _ => ?_, fun _ _ h => h.elim⟩
    obtain ⟨-, n2, hn2, rfl, rfl⟩ := hq
    have hnn : n = n2 := by
      have := List.cons.inj hn2
      injection this.1 with h
      injection h with h
      omega
    subst hnn
    rw [show toCl false m ++ toCl true [] = toCl false m from List.append_nil _]
    have e0 : scDD (p, d, q) = (scl p d q).2.1 := rfl
    have e1 : scS (p, d, q) = ((scl p d q).1, (scl p d q).2.2) := rfl
    rw [e0, e1]
    have hst := stL_itS (scl p d q).2.1
    dsimp only
    generalize (scl p d q).2.1 = D at *
    generalize ((scl p d q).1, (scl p d q).2.2) = s at *
    repeat' walk_at "ux"
    refine wE_lcTO [5, 6] (fun _ => true) (fun ds => .int (flo (toI (a0 ds)) D (toI (a1 ds)))) rfl (wI_any rfl rfl ?_)
    refine ⟨(stL D n s).map (fun x => [.int x.1, .int x.2]), by rw [List.map_map]; rfl, sz_small (by rw [List.length_map, stL_len]; omega), fun ds hds => ?_, fun l => ?_⟩
    · obtain ⟨x, hx, rfl⟩ := List.mem_map.mp hds
      obtain ⟨k, rfl⟩ := hst n s x hx
      have k1 := (its k).1
      have k2 := (its k).2
      refine ⟨rfl, ?_⟩
      show wT _ _ ⟨[none, some (.d (.int n)), some (.d .none), some (.d (.list ((stL D n s).map stD))), some (.d (.int D)), some (.d (.int (itS D k s).1)), some (.d (.int (itS D k s).2))], []⟩ _
      repeat' walk_at "ux"
      intro _
      repeat' walk_at "ux"
      exact ⟨⟨rfl, _, D, _, rfl, s1.1, ok k, k1.mono (by decide), c4.mono (by decide), k2.mono (by decide)⟩, rfl⟩
    · refine fin _ _ ?_
      rw [List.filter_eq_self.mpr (fun _ _ => rfl)]
      unfold teL intsZ
      simp only [List.map_map]
      rfl
abbrev s_law_refused : Stmt := topS 30
abbrev N_law_refused : List Str := ["_law_surd", "_law_thing", "e"]
theorem sc_law_refused : FnScope N_law_refused ["_law_surd", "_law_thing"] (defScope s_law_refused) := ⟨rfl, rfl, rfl, by decide +kernel, rfl, by decide +kernel, by decide +kernel⟩
theorem ok_law_refused (d : Df K mg "_law_refused" s_law_refused ["_law_surd", "_law_thing"]) {C_NoNumber C_Surd : Addr} (x_NoNumber : Xc P w K mg base "NoNumber" C_NoNumber) (t_NoNumber_NoNumber : PySem.W.exmOne K (.ref C_NoNumber) (.ref C_NoNumber) = some true) (vq_terms : VMethQ P w K mg base (L2.CX P w) 4 "terms" C_Surd (Ux.sp_terms K C_Surd C_NoNumber) dvs_Surd_terms shs_Surd_terms) (b_dict : mg "dict" = none) (b_isinstance : mg "isinstance" = none) (b_list : mg "list" = none) (b_repr : mg "repr" = none) : Cal P w K mg base 5 "_law_refused" ["_law_surd", "_law_thing"] (Ux.sp_law_refused K C_Surd) := by
  refine d.ok sc_law_refused (gSp_len rfl) (fun f cdv A outer s H vs Q E hr hgu h => ?_)
  refine ⟨_, (pss_cons (ps_tryN rfl rfl sc_law_refused.nd (fun W pn xe tk po => (pss_one (ps_expr (pe_methQ sh_Surd_terms_2 vq_terms (.tail _ (.tail _ (.head _))) (hr.mono (by decide)) hgu tk (pv 0) (pa_cons (pv 1) pa_nil) pk_nil)))) (HdN.as (i := 2) ⟨rfl, by decide, Or.inl x_NoNumber.gC⟩ rfl rfl (fun a oe cls d pn hz hf => (pss_cons (ps_if (pt_val (zR (pe_callB (isiK K) (by rfl) b_isinstance (by decide +kernel) (pa_cons (pv 1) (pa_cons (pe_bltn (v := .ty "list") (by rfl) b_list (by decide +kernel) rfl) pa_nil))))) (pss_one (ps_expr (pe_bmS (K := K) rfl PySem.F.plainAttrs_list PySem.F.slot_list_append PySem.F.type_list_append mt_append (pv 1) (pa_cons pe_str pa_nil)))) pss_nil)
    (pss_cons (ps_if (pt_val (zR (pe_callB (isiK K) (by rfl) b_isinstance (by decide +kernel) (pa_cons (pv 1) (pa_cons (pe_bltn (v := .ty "dict") (by rfl) b_dict (by decide +kernel) rfl) pa_nil))))) (pss_one (ps_asg pe_int (pg_sub (pv 1) pe_str (set_dict (Room.suiteW hr).put)))) pss_nil)
    (pss_one (ps_ret (pe_cmpR op_eq (zP (pe_callB (reprK K hgu hr.units) (by rfl) b_repr (by decide +kernel) (pa_cons (pe_xf x_NoNumber.xf x_NoNumber.no hz hf (pv 2)) pa_nil))) (zP (pe_callB (reprK K hgu hr.units) (by rfl) b_repr (by decide +kernel) (pa_cons (pv 1) pa_nil))) (nomark _))))))) HdN.stop))
    (pss_one (ps_ret pe_bl))), ?_⟩
  try dsimp only [cxOf]
  refine g_body h (fun i m r zs hl pw hro hp e hnx hrt => ?_)
  refine wS_plain ?_
  try dsimp only []
  obtain ⟨x, z, d⟩ := i
  obtain ⟨rfl, rfl, sb, od, hw⟩ := hp
  dsimp only at sb od hw
  show wS _ _ ⟨[some (sob C_Surd x), some (z), none], toCl false m ++ roM []⟩ _
  rw [show toCl false m ++ roM [] = toCl false m from List.append_nil _]
  have hres : Res (toCl false m) z d := by
    cases od with
    | pl d h h2 h3 => exact .d _
    | ls a => exact Res.at (j := 0) rfl (.lst [.int 3])
    | dc a => exact Res.at (j := 0) rfl (.dic [])
  have fin : ∀ (m' : AC) (y : S), Same m m' → y.m = toCl false m' → e.rt (.d (.bool true)) y := fun m' y h1 h2 => hrt _ _ (g_end0 (A := []) ⟨rfl, rfl⟩ h1 (by rw [h2, List.append_nil]))
  refine wS_seq (wS_try (fun W => ?_))
  refine wS_drop ?_
  repeat' walk_at "ux"
  refine ⟨(x, z, d), [], m, [], false, by simp, hro, rfl, ⟨rfl, rfl, sb, hres⟩, fun z' m' nw hq _ _ => ?_, fun ex m' nw hq _ _ => ?_⟩
  · exfalso
    obtain ⟨_, n, _, hd, n1, n4, _⟩ := hq
    have hd : d = .int n := hd
    subst hd
    have : wholeB (.int n) 1 400 = true := by
      show (decide (1 ≤ (n : Int)) && decide ((n : Int) ≤ 400)) = true
      rw [decide_eq_true (by omega), decide_eq_true (by omega)]; rfl
    rw [this] at hw
    cases hw
  · obtain ⟨_, rfl, rfl, rfl⟩ := hq
    refine ⟨true, t_NoNumber_NoNumber, fun _ a dd => ?_, fun z => Bool.noConfusion z⟩
    rw [show [] ++ toCl false m' ++ [] ++ toCl true [] = toCl false m' by simp [toCl]]
    cases od with
    | pl d h h2 h3 =>
      repeat' walk_at "ux"
      refine ⟨d, .d d, _, rfl, itb_f h ?_⟩
      repeat' walk_at "ux"
      refine ⟨d, .d d, _, rfl, itb_f h2 ?_⟩
      repeat' walk_at "ux"
      refine ⟨d, .d d, h3, ?_⟩
      repeat' walk_at "ux"
      refine ⟨d, .d d, h3, ?_⟩
      repeat' walk_at "ux"
      rw [eqS_self]
      exact fin _ _ (same0 hro) rfl
    | ls b =>
      have hsh : ShOk (.list [.int 3, .str "more"]) := ⟨by decide +kernel, by decide +kernel, by decide +kernel, by decide +kernel⟩
      repeat' walk_at "ux"
      refine ⟨.list [.int 3], Res.at (j := 0) rfl (.lst [.int 3]), _, rfl, itb_t (isT_list _) ?_⟩
      refine wS_app (j := 0) rfl rfl (wE_str ⟨_, rfl, sz_lt1 (by decide), ?_⟩)
      show wS _ _ ⟨_, [⟨b, false, .lst ([PyData.int 3, PyData.str "more"].map Z.d)⟩]⟩ _
      repeat' walk_at "ux"
      refine ⟨.list [.int 3, .str "more"], Res.at (j := 0) rfl (.lst [.int 3, .str "more"]), _, rfl, itb_f (isT_dict _) ?_⟩
      repeat' walk_at "ux"
      refine ⟨_, Res.at (j := 0) rfl (.lst [.int 3, .str "more"]), hsh, ?_⟩
      repeat' walk_at "ux"
      refine ⟨_, Res.at (j := 0) rfl (.lst [.int 3, .str "more"]), hsh, ?_⟩
      repeat' walk_at "ux"
      rw [eqS_self]
      exact fin [(b, .lst ([PyData.int 3, PyData.str "more"].map Z.d))] _ ⟨rfl, fun e he => by rw [List.mem_singleton] at he; subst he; rfl⟩ rfl
    | dc b =>
      have hsh : ShOk (dD [(.inr "more", .int 0)]) := ⟨by decide +kernel, by decide +kernel, by decide +kernel, by decide +kernel⟩
      repeat' walk_at "ux"
      refine ⟨dD [], Res.at (j := 0) rfl (.dic []), _, rfl, itb_f (isT_list _) ?_⟩
      repeat' walk_at "ux"
      refine ⟨dD [], Res.at (j := 0) rfl (.dic []), _, rfl, itb_t (isT_dict _) ?_⟩
      refine wS_dput (j := 0) (kk := .inr "more") rfl (wE_int ⟨rfl, _, rfl, sz_lt1 (by decide), ?_⟩)
      show wS _ _ ⟨_, [⟨b, false, .dic (kvD [(.inr "more", .int 0)])⟩]⟩ _
      repeat' walk_at "ux"
      refine ⟨_, Res.at (j := 0) rfl (.dic [(.inr "more", .int 0)]), hsh, ?_⟩
      repeat' walk_at "ux"
      refine ⟨_, Res.at (j := 0) rfl (.dic [(.inr "more", .int 0)]), hsh, ?_⟩
      repeat' walk_at "ux"
      rw [eqS_self]
      exact fin [(b, .dic (kvD [(.inr "more", .int 0)]))] _ ⟨rfl, fun e he => by rw [List.mem_singleton] at he; subst he; rfl⟩ rfl
abbrev s_Surd_told : Stmt := clsFnN 1 (topS 18)
abbrev N_Surd_told : List Str := ["self"]
theorem sc_Surd_told : FnScope N_Surd_told ["self"] (defScope s_Surd_told) := ⟨rfl, rfl, rfl, by decide +kernel, rfl, by decide +kernel, by decide +kernel⟩
theorem ok_Surd_told {f : Addr} (d : MFn K "told" "Surd.told" s_Surd_told ["self"] f) {C_Surd : Addr} (at_Surd : AtC K C_Surd ["surd_parts"]) : MCal P w K mg base (L2.CX P w) 1 ["self"] (Ux.sp_told K C_Surd) f := by
  refine d.okX sc_Surd_told (gSp_len rfl) (fun cdv A outer s H vs Q E hr hgu h => ?_)
  refine ⟨_, (pss_one (ps_ret (pe_fld (pv 0) rfl))), ?_⟩
  try dsimp only [cxOf]
  refine g_body h (fun i m r zs hl pw hro hp e hnx hrt => ?_)
  obtain ⟨rfl, rfl, rfl, sb, hu⟩ := hp
  obtain ⟨⟨p, d, q⟩, us⟩ := i
  dsimp only at hu sb hl
  have sb1 := sb
  obtain ⟨d0, q0, bp, bd, bq⟩ := sb1
  dsimp only at d0 q0 bp bd bq

  subst hu
  have fin : ∀ z y, z = tup3 p d q → y.m = [] → e.rt (.d z) y := fun z y h1 h2 => hrt _ _ (g_end0 (A := []) ⟨rfl, by rw [h1], rfl⟩ (same0 no_ro) h2)
  show wS _ _ ⟨[some (sob C_Surd (p, d, q))], []⟩ _
  repeat' (first | exact d0 | exact q0 | exact bp.mono (by decide) | exact bd.mono (by decide) | exact bq.mono (by decide) | walk_at "ux")

  exact fin _ _ rfl rfl
abbrev s_Surd_compare : Stmt := clsFnN 5 (topS 18)
abbrev N_Surd_compare : List Str := ["self", "other"]
theorem sc_Surd_compare : FnScope N_Surd_compare ["self", "other"] (defScope s_Surd_compare) := ⟨rfl, rfl, rfl, by decide +kernel, rfl, by decide +kernel, by decide +kernel⟩
theorem ok_Surd_compare {f : Addr} (d : MFn K "compare" "Surd.compare" s_Surd_compare ["self", "other"] f) {C_Surd : Addr} (g_Surd : mg "Surd" = some (.ref C_Surd)) (c_side_apart : Cal P w K mg base 4 "side_apart" ["one", "other"] (sp_side_apart K)) (v_told : VTab P w K mg base (L2.CX P w) 1 "told" [(C_Surd, Ux.sp_told K C_Surd)]) (ic_Surd : IsiC K C_Surd) (kc_Surd_Surd : PySem.W.kitOne K (.ref C_Surd) (.ref C_Surd) = some true) (b_isinstance : mg "isinstance" = none) : MCal P w K mg base (L2.CX P w) 5 ["self", "other"] (Ux.sp_compare K C_Surd) f := by
  refine d.okX sc_Surd_compare (gSp_len rfl) (fun cdv A outer s H vs Q E hr hgu h => ?_)
  refine ⟨_, (pss_cons (ps_if (pt_not (pt_val (zIC (pe_callB call_isC (by rfl) b_isinstance (by decide +kernel) (pa_cons (pv 1) (pa_cons (pe_glob (v := .ref C_Surd) (by rfl) g_Surd rfl) pa_nil)))))) (pss_one ps_no) pss_nil)
    (pss_one (ps_ret (pe_ix (ixK K) (pe_lst (pa_cons pe_str (pa_cons pe_str (pa_cons pe_str pa_nil)))) (pe_cal c_side_apart (hr.mono (by decide)) hgu (by rfl) (pa_cons (pe_methX0 v_told (hr.mono (by decide)) hgu (takes_of rfl rfl rfl rfl) (pv 0)) (pa_cons (pe_methX0 v_told (hr.mono (by decide)) hgu (takes_of rfl rfl rfl rfl) (pv 1)) pa_nil))) (fun _ _ => rfl))))), ?_⟩
  try dsimp only [cxOf]
  refine g_body h (fun i m r zs hl pw hro hp e hnx hrt => ?_)
  obtain ⟨rfl, rfl, rfl, sb, hu⟩ := hp
  obtain ⟨⟨p, d, q⟩, us⟩ := i
  dsimp only at hu sb hl
  have sb1 := sb
  obtain ⟨d0, q0, bp, bd, bq⟩ := sb1
  dsimp only at d0 q0 bp bd bq

  obtain ⟨⟨a, b, c⟩, rfl, sy⟩ := hu
  have sy2 := sy
  obtain ⟨y0, y1, ya, yb, yc⟩ := sy2
  dsimp only at y0 y1 ya yb yc
  show wS _ _ ⟨[some (sob C_Surd (p, d, q)), some (sob C_Surd (a, b, c))], []⟩ _
  repeat' walk_at "ux"
  refine ⟨_, _, _, true, rfl, ic_Surd, kc_Surd_Surd, ?_⟩
  repeat' walk_at "ux"
  refine ⟨((p, d, q), []), rfl, ⟨rfl, rfl, rfl, sb, rfl⟩, fun z nw hq _ => ?_, fun _ _ h => h.elim⟩
  obtain ⟨-, rfl, rfl⟩ := hq
  rw [show ([] : List Cl) ++ toCl true [] = [] from rfl]
  repeat' walk_at "ux"
  refine ⟨((a, b, c), []), rfl, ⟨rfl, rfl, rfl, sy, rfl⟩, fun z nw hq _ => ?_, fun _ _ h => h.elim⟩
  obtain ⟨-, rfl, rfl⟩ := hq
  rw [show ([] : List Cl) ++ toCl true [] = [] from rfl]
  have fin : ∀ (w : Str) (y : S), (apS p d q a b c = 1 → w = "more") ∧ (apS p d q a b c = 0 → w = "same") ∧ (apS p d q a b c = -1 → w = "less") → y.m = [] → e.rt (.d (.str w)) y := fun w y h1 h2 => hrt _ _ (g_end0 (A := []) ⟨rfl, (a, b, c), w, rfl, rfl, rfl, h1⟩ (same0 no_ro) h2)
  repeat' walk_at "ux"
  refine ⟨⟨rfl, p, d, q, a, b, c, rfl, bp.mono (by decide), bd.mono (by decide), bq.mono (by decide), ya.mono (by decide), yb.mono (by decide), yc.mono (by decide)⟩, ?_⟩
  rw [show apD [tup3 p d q, tup3 a b c] = .int (apS p d q a b c) from rfl]
  rcases apS_range p d q a b c with z | z | z <;> rw [z] at fin ⊢
  · refine ⟨_, _, _, rfl, rfl, rfl, ?_⟩
    exact fin _ _ ⟨(fun h => by cases h), (fun h => by cases h), fun _ => rfl⟩ rfl
  · refine ⟨_, _, _, rfl, rfl, rfl, ?_⟩
    exact fin _ _ ⟨(fun h => by cases h), (fun _ => rfl), (fun h => by cases h)⟩ rfl
  · refine ⟨_, _, _, rfl, rfl, rfl, ?_⟩
    exact fin _ _ ⟨(fun _ => rfl), (fun h => by cases h), (fun h => by cases h)⟩ rfl
abbrev s_Surd_floor : Stmt := clsFnN 10 (topS 18)
abbrev N_Surd_floor : List Str := ["self"]
theorem sc_Surd_floor : FnScope N_Surd_floor ["self"] (defScope s_Surd_floor) := ⟨rfl, rfl, rfl, by decide +kernel, rfl, by decide +kernel, by decide +kernel⟩
theorem ok_Surd_floor {f : Addr} (d : MFn K "floor" "Surd.floor" s_Surd_floor ["self"] f) {C_Surd : Addr} (c_floor_of : Cal P w K mg base 2 "floor_of" ["parts"] (sp_floor_of K)) (at_Surd : AtC K C_Surd ["surd_parts"]) : MCal P w K mg base (L2.CX P w) 3 ["self"] (Ux.sp_floor K C_Surd) f := by
  refine d.okX sc_Surd_floor (gSp_len rfl) (fun cdv A outer s H vs Q E hr hgu h => ?_)
  refine ⟨_, (pss_one (ps_ret (pe_cal c_floor_of (hr.mono (by decide)) hgu (by rfl) (pa_cons (pe_fld (pv 0) rfl) pa_nil)))), ?_⟩
  try dsimp only [cxOf]
  refine g_body h (fun i m r zs hl pw hro hp e hnx hrt => ?_)
  obtain ⟨rfl, rfl, rfl, sb, hu⟩ := hp
  obtain ⟨⟨p, d, q⟩, us⟩ := i
  dsimp only at hu sb hl
  have sb1 := sb
  obtain ⟨d0, q0, bp, bd, bq⟩ := sb1
  dsimp only at d0 q0 bp bd bq

  subst hu
  have fin : ∀ z y, z = .int (flo p d q) → y.m = [] → e.rt (.d z) y := fun z y h1 h2 => hrt _ _ (g_end0 (A := []) ⟨rfl, by rw [h1], rfl⟩ (same0 no_ro) h2)
  show wS _ _ ⟨[some (sob C_Surd (p, d, q))], []⟩ _
  repeat' (first | exact d0 | exact q0 | exact bp.mono (by decide) | exact bd.mono (by decide) | exact bq.mono (by decide) | walk_at "ux")

  refine ⟨⟨rfl, p, d, q, rfl, d0, q0, bp.mono (by decide), bd.mono (by decide), bq.mono (by decide)⟩, ?_⟩
  refine fin _ _ ?_ ?_
  · rfl
  · rfl
abbrev s_Surd_rest : Stmt := clsFnN 11 (topS 18)
abbrev N_Surd_rest : List Str := ["self", "p", "d", "q", "told", "top", "ahead"]
theorem sc_Surd_rest : FnScope N_Surd_rest ["self"] (defScope s_Surd_rest) := ⟨rfl, rfl, rfl, by decide +kernel, rfl, by decide +kernel, by decide +kernel⟩
theorem ok_Surd_rest {f : Addr} (d : MFn K "rest" "Surd.rest" s_Surd_rest ["self"] f) {C_Surd : Addr} (g_Surd : mg "Surd" = some (.ref C_Surd)) (c_floor_of : Cal P w K mg base 2 "floor_of" ["parts"] (sp_floor_of K)) (c_scaled : Cal P w K mg base 1 "scaled" ["parts"] (sp_scaled K)) (v_fraction : VTab P w K mg base (L2.CX P w) 3 "fraction" [(C_Surd, Ux.sp_fraction K C_Surd)]) {f_Surd___init__ : Addr} (mk_Surd : Mk K C_Surd f_Surd___init__) (c_Surd___init__ : CalQ P w K mg base (L2.CX P w) 2 ["self", "p", "d", "q"] (Ux.sp_sinit K C_Surd) dvs_Surd___init__ shs_Surd___init__ f_Surd___init__) (at_Surd : AtC K C_Surd ["surd_parts"]) : MCal P w K mg base (L2.CX P w) 4 ["self"] (Ux.sp_rest K C_Surd) f := by
  refine d.okX sc_Surd_rest (gSp_len rfl) (fun cdv A outer s H vs Q E hr hgu h => ?_)
  refine ⟨_, (pss_cons (ps_asg (pe_cal c_scaled (hr.mono (by decide)) hgu (by rfl) (pa_cons (pe_fld (pv 0) rfl) pa_nil)) (pgT K rfl (pgs_cons (pg_name (i := 1) sc_Surd_rest.nd rfl (Or.inl rfl)) (pgs_cons (pg_name (i := 2) sc_Surd_rest.nd rfl (Or.inl rfl)) (pgs_cons (pg_name (i := 3) sc_Surd_rest.nd rfl (Or.inl rfl)) pgs_nil)))))
    (pss_cons (ps_set (i := 4) sc_Surd_rest.nd rfl (Or.inl rfl) (pe_methX0 v_fraction (hr.mono (by decide)) hgu (takes_of rfl rfl rfl rfl) (pv 0)))
    (pss_cons (ps_if (pt_cmpR op_notN (pv 4) pe_non (nomark _)) (pss_cons (ps_set (i := 5) sc_Surd_rest.nd rfl (Or.inl rfl) (pe_op op_mod (pe_ix (ixK K) (pv 4) pe_int (fun _ _ => rfl)) (pe_ix (ixK K) (pv 4) pe_int (fun _ _ => rfl))))
    (pss_one (ps_ret (pe_ifExp (pt_cmpR op_gt (pv 5) pe_int (nomark _)) (pe_mkG sh_Surd___init___1 mk_Surd c_Surd___init__ (.tail _ (.head _)) (hr.mono (by decide)) hgu (by rfl) g_Surd (takes_of rfl rfl rfl rfl) (pa_cons (pe_ix (ixK K) (pv 4) pe_int (fun _ _ => rfl)) (pa_cons pe_int (pa_cons (pv 5) pa_nil))) pk_nil) pe_non)))) pss_nil)
    (pss_cons (ps_set (i := 6) sc_Surd_rest.nd rfl (Or.inl rfl) (pe_op op_sub (pv 1) (pe_op op_mulW (pe_cal c_floor_of (hr.mono (by decide)) hgu (by rfl) (pa_cons (pe_tup (pa_cons (pv 1) (pa_cons (pv 2) (pa_cons (pv 3) pa_nil)))) pa_nil)) (pv 3))))
    (pss_one (ps_ret (pe_mkG sh_Surd___init___1 mk_Surd c_Surd___init__ (.tail _ (.head _)) (hr.mono (by decide)) hgu (by rfl) g_Surd (takes_of rfl rfl rfl rfl) (pa_cons (pe_un un_neg (pv 6)) (pa_cons (pv 2) (pa_cons (pe_op op_fdivZ (pe_op op_sub (pv 2) (pe_op op_mulW (pv 6) (pv 6))) (pv 3)) pa_nil))) pk_nil))))))), ?_⟩
  try dsimp only [cxOf]
  refine g_body h (fun i m r zs hl pw hro hp e hnx hrt => ?_)
  obtain ⟨rfl, rfl, rfl, sb, hu⟩ := hp
  obtain ⟨⟨p, d, q⟩, us⟩ := i
  dsimp only at hu sb hl
  have sb1 := sb
  obtain ⟨d0, q0, bp, bd, bq⟩ := sb1
  dsimp only at d0 q0 bp bd bq

  subst hu
  show wS _ _ ⟨[some (sob C_Surd (p, d, q)), none, none, none, none, none, none], []⟩ _
  repeat' (first | exact d0 | exact q0 | exact bp.mono (by decide) | exact bd.mono (by decide) | exact bq.mono (by decide) | walk_at "ux")

  refine ⟨⟨rfl, p, d, q, rfl, q0, bp.mono (by decide), bd.mono (by decide), bq.mono (by decide)⟩, ?_⟩
  rw [show sclD [tup3 p d q] = tup3 (scl p d q).1 (scl p d q).2.1 (scl p d q).2.2 from rfl]
  repeat' walk_at "ux"
  refine ⟨((p, d, q), []), rfl, ⟨rfl, rfl, rfl, sb, rfl⟩, fun z nw hq _ => ?_, fun _ _ h => h.elim⟩
  obtain ⟨-, rfl, rfl⟩ := hq
  rw [show ([] : List Cl) ++ toCl true [] = [] from rfl]
  have fin : ∀ z y, z = restZ C_Surd (p, d, q) → y.m = [] → e.rt z y := fun z y h1 h2 => hrt _ _ (g_end0 (A := []) ⟨rfl, h1, rfl⟩ (same0 no_ro) h2)
  have er : restZ C_Surd (p, d, q) = match restS p d q with | none => .d .none | some y => sob C_Surd y := rfl
  unfold restS at er
  have ef : frD (p, d, q) = if isq d * isq d = d then fr (frS p d q).1 (frS p d q).2 else .none := rfl
  rw [ef]
  obtain ⟨f1, f2, f3, _⟩ := frS_ok (p := p) (d := d) q0
  obtain ⟨g1, g2⟩ := frS_bd sb
  try dsimp only at g1 g2
  by_cases hc : isq d * isq d = d
  · rw [if_pos hc]
    rw [if_pos hc] at er
    generalize (frS p d q).1 = A at *
    generalize (frS p d q).2 = B at *
    have m0 := Int.emod_nonneg A (show B ≠ 0 by omega)
    repeat' walk_at "ux"
    refine ite2 (fun h0 => ?_) (fun h0 => ?_)
    · have h0 := of_decide_eq_true h0
      rw [if_neg (show ¬ A % B = 0 by omega)] at er
      repeat' walk_at "ux"
      refine ⟨by decide, fun x => ⟨(x, B, 0, A % B), rfl, ⟨rfl, rfl, rfl, Int.le_refl 0, by dsimp only; omega⟩, fun z m' nw hq => ?_, fun _ _ _ h => h.elim⟩⟩
      obtain ⟨rfl, rfl, rfl⟩ := hq
      exact ⟨_, _, rfl, rfl, rfl, fin _ _ er.symm rfl⟩
    · have h0 := of_decide_eq_false (Bool.eq_false_iff.mpr h0)
      rw [if_pos (show A % B = 0 by omega)] at er
      repeat' walk_at "ux"
      exact fin _ _ er.symm rfl
  · rw [if_neg hc]
    rw [if_neg hc] at er
    obtain ⟨s1, s2, s3, s4⟩ := scl_ok (p := p) ⟨d0, hc⟩ q0
    obtain ⟨c1, c2, c3, c4, c5⟩ := scl_bd sb
    have its := its_bd sb s1 s2 1
    have k3 := (stp_ok s1 s2).1.1
    generalize (scl p d q).2.1 = D at *
    generalize (scl p d q).1 = P at *
    generalize (scl p d q).2.2 = Q at *
    have ea : aft P D Q = P - flo P D Q * Q := rfl
    have e1 : stp D (P, Q) = (-aft P D Q, (D - aft P D Q * aft P D Q).fdiv Q) := rfl
    rw [show itS D 1 (P, Q) = stp D (P, Q) from rfl, e1] at its
    rw [e1] at er k3
    try dsimp only at its k3 er
    have ba : Bd 1203 (aft P D Q) := by
      have := its.1.neg
      rw [Int.neg_neg] at this
      exact this.mono (by decide)
    have bf : Bd 1203 (flo P D Q) := by
      have h1 := flo_le (p := P) s1.1 c2
      have b1 := c3.mono (show _ ≤ 1201 by decide)
      have b2 := (bd_isq c4 s1.1).mono (show _ ≤ 1201 by decide)
      have y1 : (10 : Nat) ^ 1203 = 100 * 10 ^ 1201 := by rw [show 1203 = 1201 + 2 from rfl, Nat.pow_add, Nat.mul_comm]
      have y2 : 1 ≤ (10 : Nat) ^ 1201 := Nat.one_le_pow _ _ (by decide)
      unfold Bd at b1 b2 ⊢
      generalize (10 : Nat) ^ 1201 = X at *
      omega
    repeat' walk_at "ux"
    refine ⟨⟨rfl, P, D, Q, rfl, s1.1, c2, c3.mono (by decide), c4.mono (by decide), c5.mono (by decide)⟩, ?_⟩
    rw [show floD [PyData.tuple [PyData.int P, PyData.int D, PyData.int Q]] = .int (flo P D Q) from rfl]
    repeat' walk_at "ux"
    rw [← ea]
    repeat' walk_at "ux"
    refine ⟨cdivZ c2 (c5.mono (show _ ≤ 1900 by decide)), ?_⟩
    repeat' walk_at "ux"
    refine ⟨by decide, fun x => ⟨(x, -aft P D Q, D, (D - aft P D Q * aft P D Q).fdiv Q), rfl, ⟨rfl, rfl, rfl, s1.1, k3⟩, fun z m' nw hq => ?_, fun _ _ _ h => h.elim⟩⟩
    obtain ⟨rfl, rfl, rfl⟩ := hq
    exact ⟨_, _, rfl, rfl, rfl, fin _ _ er.symm rfl⟩
abbrev s_law_asked : Stmt := topS 31
abbrev N_law_asked : List Str := ["_law_box_here", "_law_surd", "_law_often"]
theorem sc_law_asked : FnScope N_law_asked ["_law_box_here", "_law_surd", "_law_often"] (defScope s_law_asked) := ⟨rfl, rfl, rfl, by decide +kernel, rfl, by decide +kernel, by decide +kernel⟩
theorem ok_law_asked (d : Df K mg "_law_asked" s_law_asked ["_law_box_here", "_law_surd", "_law_often"]) {C_NoNumber C_Surd : Addr} (c_law_take : Cal P w K mg base 1 "_law_take" ["_law_box_here", "_law_count"] (sp_law_take K)) (vq_terms : VMethQ P w K mg base (L2.CX P w) 4 "terms" C_Surd (Ux.sp_terms K C_Surd C_NoNumber) dvs_Surd_terms shs_Surd_terms) : Cal P w K mg base 5 "_law_asked" ["_law_box_here", "_law_surd", "_law_often"] (Ux.sp_law_asked K C_Surd) := by
  refine d.ok sc_law_asked (gSp_len rfl) (fun f cdv A outer s H vs Q E hr hgu h => ?_)
  refine ⟨_, (pss_cons (ps_if (PW.pt (pw_and (pt_cmpR op_eq (pv 2) pe_int (nomark _)) (pw_and1 (pt_cmpR op_eq (pe_cal c_law_take (hr.mono (by decide)) hgu (by rfl) (pa_cons (pv 0) (pa_cons pe_int pa_nil))) pe_int (nomark _))))) (pss_one (ps_ret (pe_methQ0 sh_Surd_terms_0 vq_terms (.head _) (hr.mono (by decide)) hgu takes0 (pv 1) pk_nil))) pss_nil)
    (pss_cons (ps_if (pt_cmpR op_eq (pe_cal c_law_take (hr.mono (by decide)) hgu (by rfl) (pa_cons (pv 0) (pa_cons pe_int pa_nil))) pe_int (nomark _)) (pss_one (ps_ret (pe_methQ0 sh_Surd_terms_1 vq_terms (.tail _ (.head _)) (hr.mono (by decide)) hgu takes0 (pv 1) (pk_cons (pv 2) pk_nil)))) pss_nil)
    (pss_one (ps_ret (pe_methQ sh_Surd_terms_2 vq_terms (.tail _ (.tail _ (.head _))) (hr.mono (by decide)) hgu takes0 (pv 1) (pa_cons (pv 2) pa_nil) pk_nil))))), ?_⟩
  try dsimp only [cxOf]
  refine g_body h (fun i m r zs hl pw hro hp e hnx hrt => ?_)
  refine wS_plain ?_
  try dsimp only []
  obtain ⟨pp, n, x, k⟩ := i
  obtain ⟨rfl, rfl, rfl, hn, sb, k1, k4⟩ := hp
  dsimp only at hn sb k1 k4
  show wS _ _ ⟨[some (.lab pp), some (sob C_Surd x), some (.d (.int k))], [⟨pp, false, .pu n⟩]⟩ _
  have fin : ∀ n' l y, n ≤ n' + 2 → y.m = [⟨pp, false, .pu n'⟩] ++ [⟨l, true, .lst (intsZ (tmS x.1 x.2.1 x.2.2 k))⟩] → e.rt (.lab l) y := fun n' l y h1 h2 => hrt _ _ (g_end (A := []) (m' := [(pp, .pu n')]) (nw := [(l, .lst (intsZ (tmS x.1 x.2.1 x.2.2 k)))]) ⟨n', l, rfl, h1, rfl, rfl⟩ ⟨rfl, fun e he => by rw [List.mem_singleton] at he; subst he; rfl⟩ (fun e he => by rw [List.mem_singleton] at he; subst he; rfl) (by rw [h2]; rfl))
  show wS _ (tSeq (tIfS _ _ _) _) _ _
  refine seq_joinR (fun y => ∃ n' : Nat, y = ⟨[some (.lab pp), some (sob C_Surd x), some (.d (.int k))], [⟨pp, false, .pu n'⟩]⟩ ∧ n ≤ n' + 1) ?_ ?_
  · repeat' walk_at "ux"
    refine ite2 (fun hk => ?_) (fun hk => ?_)
    · have hk : (k : Int) = 20 := by rw [show eqS (.int (k : Int)) (.int 20) = decide ((k : Int) = 20) from eqv_int _ _] at hk; exact of_decide_eq_true hk
      obtain rfl : k = 20 := by omega
      repeat' walk_at "ux"
      refine ite2 (fun hk => ?_) (fun hk => ?_)
      · repeat' walk_at "ux"
        refine terms_ok (k := 20) sb (by decide) (by decide) fun p => ?_
        exact fin (n - 1) p _ (by omega) rfl
      · repeat' walk_at "ux"
        omega
    · repeat' walk_at "ux"
      omega
  · rintro y ⟨n', rfl, hn'⟩
    repeat' walk_at "ux"
    refine ite2 (fun hk => ?_) (fun hk => ?_)
    · repeat' walk_at "ux"
      refine terms_ok (k := k) sb k1 k4 fun p => ?_
      exact fin (n' - 1) p _ (by omega) rfl
    · repeat' walk_at "ux"
      refine terms_ok (k := k) sb k1 k4 fun p => ?_
      exact fin (n' - 1) p _ (by omega) rfl
abbrev s_law_right : Stmt := topS 33
abbrev N_law_right : List Str := ["_law_box_here", "_law_parts_here", "_law_often", "_law_surd", "_law_begun", "_law_terms", "_law_few", "_law_kept", "_law_rest"]
theorem sc_law_right : FnScope N_law_right ["_law_box_here", "_law_parts_here", "_law_often"] (defScope s_law_right) := ⟨rfl, rfl, rfl, by decide +kernel, rfl, by decide +kernel, by decide +kernel⟩
theorem ok_law_right (d : Df K mg "_law_right" s_law_right ["_law_box_here", "_law_parts_here", "_law_often"]) {C_NoNumber C_Surd : Addr} (g_Surd : mg "Surd" = some (.ref C_Surd)) (c_law_take : Cal P w K mg base 1 "_law_take" ["_law_box_here", "_law_count"] (sp_law_take K)) (c_law_begins : Cal P w K mg base 2 "_law_begins" ["_law_parts_here", "_law_terms"] (sp_law_begins K)) (c_law_asked : Cal P w K mg base 5 "_law_asked" ["_law_box_here", "_law_surd", "_law_often"] (Ux.sp_law_asked K C_Surd)) (c_law_is_all : Cal P w K mg base 2 "_law_is_all" ["_law_parts_here", "_law_terms"] (sp_law_is_all K)) (v_compare : VTab P w K mg base (L2.CX P w) 5 "compare" [(C_Surd, Ux.sp_compare K C_Surd)]) (v_floor : VTab P w K mg base (L2.CX P w) 3 "floor" [(C_Surd, Ux.sp_floor K C_Surd)]) (v_rest : VTab P w K mg base (L2.CX P w) 4 "rest" [(C_Surd, Ux.sp_rest K C_Surd)]) (vq_terms : VMethQ P w K mg base (L2.CX P w) 4 "terms" C_Surd (Ux.sp_terms K C_Surd C_NoNumber) dvs_Surd_terms shs_Surd_terms) {f_Surd___init__ : Addr} (mk_Surd : Mk K C_Surd f_Surd___init__) (c_Surd___init__ : CalQ P w K mg base (L2.CX P w) 2 ["self", "p", "d", "q"] (Ux.sp_sinit K C_Surd) dvs_Surd___init__ shs_Surd___init__ f_Surd___init__) (ic_Surd : IsiC K C_Surd) (kc_Surd_Surd : PySem.W.kitOne K (.ref C_Surd) (.ref C_Surd) = some true) (b_isinstance : mg "isinstance" = none) (b_len : mg "len" = none) (b_list : mg "list" = none) (b_repr : mg "repr" = none) : Cal P w K mg base 6 "_law_right" ["_law_box_here", "_law_parts_here", "_law_often"] (Ux.sp_law_right36 K) := by
  refine d.ok sc_law_right (puSp_len rfl) (fun f cdv A outer s H vs Q E hr hgu h => ?_)
  refine ⟨_, (pss_cons (ps_set (i := 3) sc_law_right.nd rfl (Or.inl rfl) (pe_mkG sh_Surd___init___1 mk_Surd c_Surd___init__ (.tail _ (.head _)) (hr.mono (by decide)) hgu (by rfl) g_Surd takes0 (pa_cons (pe_ix (ixK K) (pv 1) pe_int (fun _ _ => rfl)) (pa_cons (pe_ix (ixK K) (pv 1) pe_int (fun _ _ => rfl)) (pa_cons (pe_ix (ixK K) (pv 1) pe_int (fun _ _ => rfl)) pa_nil))) pk_nil))
    (pss_cons (ps_set (i := 4) sc_law_right.nd rfl (Or.inl rfl) (pe_ifExp (pt_cmpR op_eq (pe_cal c_law_take (hr.mono (by decide)) hgu (by rfl) (pa_cons (pv 0) (pa_cons pe_int pa_nil))) pe_int (nomark _)) (pe_methQ sh_Surd_terms_2 vq_terms (.tail _ (.tail _ (.head _))) (hr.mono (by decide)) hgu takes0 (pv 3) (pa_cons (pe_op op_add pe_int (pe_cal c_law_take (hr.mono (by decide)) hgu (by rfl) (pa_cons (pv 0) (pa_cons (pv 2) pa_nil)))) pa_nil) pk_nil) (pe_lstL pa_nil)))
    (pss_cons (ps_set (i := 5) sc_law_right.nd rfl (Or.inl rfl) (pe_cal c_law_asked (hr.mono (by decide)) hgu (by rfl) (pa_cons (pv 0) (pa_cons (pv 3) (pa_cons (pv 2) pa_nil)))))
    (pss_cons (ps_if (pt_cmpR (neTK K hr.units) (pv 4) (pe_slice (slLK K) (pv 5) po_none (po_some (pe_callB (lenK K) (by rfl) b_len (by decide +kernel) (pa_cons (pv 4) pa_nil)))) (nomark _)) (pss_one (ps_ret pe_bl)) pss_nil)
    (pss_cons (ps_if (PW.pt (pw_or (pt_not (pt_val (zR (pe_callB (isiK K) (by rfl) b_isinstance (by decide +kernel) (pa_cons (pv 5) (pa_cons (pe_bltn (v := .ty "list") (by rfl) b_list (by decide +kernel) rfl) pa_nil)))))) (pw_or (pt_not (pt_chain op_lt op_le pe_int (zLen (pe_callB (lenK K) (by rfl) b_len (by decide +kernel) (pa_cons (pv 5) pa_nil))) (pv 2))) (pw_or1 (pt_not (pt_val (pe_calR c_law_begins (hr.mono (by decide)) hgu (by rfl) (pa_cons (pv 1) (pa_cons (pv 5) pa_nil))))))))) (pss_one (ps_ret pe_bl)) pss_nil)
    (pss_cons (ps_if (PW.pt (pw_and (pt_cmpR op_lt (zLen (pe_callB (lenK K) (by rfl) b_len (by decide +kernel) (pa_cons (pv 5) pa_nil))) (pv 2) (nomark _)) (pw_and1 (pt_not (pt_val (pe_calR c_law_is_all (hr.mono (by decide)) hgu (by rfl) (pa_cons (pv 1) (pa_cons (pv 5) pa_nil)))))))) (pss_one (ps_ret pe_bl)) pss_nil)
    (pss_cons (ps_set (i := 6) sc_law_right.nd rfl (Or.inl rfl) (pe_op op_add pe_int (pe_cal c_law_take (hr.mono (by decide)) hgu (by rfl) (pa_cons (pv 0) (pa_cons (pv 2) pa_nil)))))
    (pss_cons (ps_if (PW.pt (pw_or (pt_cmpR (neTK K hr.units) (pe_cal c_law_asked (hr.mono (by decide)) hgu (by rfl) (pa_cons (pv 0) (pa_cons (pv 3) (pa_cons (pv 6) pa_nil)))) (pe_slice (slLK K) (pv 5) po_none (po_some (pv 6))) (nomark _)) (pw_or1 (pt_cmpR op_ne (pe_callB (reprK K hgu hr.units) (by rfl) b_repr (by decide +kernel) (pa_cons (pe_methX0 v_floor (hr.mono (by decide)) hgu takes0 (pv 3)) pa_nil)) (pe_callB (reprK K hgu hr.units) (by rfl) b_repr (by decide +kernel) (pa_cons (pe_ix (ixLK K) (pv 5) pe_int (fun _ _ => rfl)) pa_nil)) (nomark _))))) (pss_one (ps_ret pe_bl)) pss_nil)
    (pss_cons (ps_set (i := 7) sc_law_right.nd rfl (Or.inl rfl) (zListR (pe_callTy (listK K) (by rfl) b_list (by decide +kernel) (pa_cons (pv 5) pa_nil))))
    (pss_cons (ps_expr (pe_bm PySem.F.plainAttrs_list PySem.F.slot_list_append PySem.F.type_list_append mt_append (pv 5) (pa_cons pe_int pa_nil)))
    (pss_cons (ps_expr (pe_bm0 PySem.F.plainAttrs_list PySem.F.slot_list_reverse PySem.F.type_list_reverse mt_reverse (pv 5)))
    (pss_cons (ps_if (pt_cmpR (neTK K hr.units) (pe_methQ sh_Surd_terms_2 vq_terms (.tail _ (.tail _ (.head _))) (hr.mono (by decide)) hgu takes0 (pv 3) (pa_cons (pv 2) pa_nil) pk_nil) (pv 7) (nomark _)) (pss_one (ps_ret pe_bl)) pss_nil)
    (pss_cons (ps_set (i := 8) sc_law_right.nd rfl (Or.inl rfl) (pe_methX0 v_rest (hr.mono (by decide)) hgu takes0 (pv 3)))
    (pss_cons (ps_if (pt_cmpR isNOK (pv 8) pe_non (nomark _)) (pss_one (ps_ret (pe_and (pe_cmpR (eqK K hr.units) (pe_slice (slK K) (pv 7) (po_some pe_int) po_none) (pe_lst pa_nil) (nomark _)) (pe_one (pe_cal c_law_is_all (hr.mono (by decide)) hgu (by rfl) (pa_cons (pv 1) (pa_cons (pv 7) pa_nil))))))) pss_nil)
    (pss_cons (ps_if (pt_cmpR op_eq (pe_callB (lenK K) (by rfl) b_len (by decide +kernel) (pa_cons (pv 7) pa_nil)) pe_int (nomark _)) (pss_one (ps_ret (pe_and (pe_cmpR op_eq (pv 2) pe_int (nomark _)) (pe_one (pe_cmpR op_gt (pe_methX0 v_floor (hr.mono (by decide)) hgu takes0 (pv 8)) pe_int (nomark _)))))) pss_nil)
    (pss_cons (ps_if (PW.pt (pw_or (pt_not (pt_val (zIC (pe_callB call_isC (by rfl) b_isinstance (by decide +kernel) (pa_cons (pv 8) (pa_cons (pe_glob (v := .ref C_Surd) (by rfl) g_Surd rfl) pa_nil)))))) (pw_or1 (pt_cmpR op_ne (pe_methX v_compare (hr.mono (by decide)) hgu takes0 (pv 8) (pa_cons (pe_mkG sh_Surd___init___0 mk_Surd c_Surd___init__ (.head _) (hr.mono (by decide)) hgu (by rfl) g_Surd takes0 (pa_cons pe_int (pa_cons pe_int pa_nil)) pk_nil) pa_nil)) pe_str (nomark _))))) (pss_one (ps_ret pe_bl)) pss_nil)
    (pss_one (ps_ret (pe_cmpR (eqK K hr.units) (pe_slice (slLK K) (pe_methQ sh_Surd_terms_2 vq_terms (.tail _ (.tail _ (.head _))) (hr.mono (by decide)) hgu takes0 (pv 8) (pa_cons (pv 2) pa_nil) pk_nil) po_none (po_some (pe_op op_sub (pe_callB (lenK K) (by rfl) b_len (by decide +kernel) (pa_cons (pv 7) pa_nil)) pe_int))) (pe_slice (slK K) (pv 7) (po_some pe_int) po_none) (nomark _)))))))))))))))))))), ?_⟩
  try dsimp only [cxOf]
  refine pu_body h (fun ds m pp hl hp hc e hn hz => ?_)
  obtain ⟨p, d, q, k, rfl, ⟨sb, bq7⟩, k1, k4⟩ := hp
  have hc : 12 ≤ m := hc
  obtain ⟨d0, q0, bp, bd, bq⟩ := id sb
  dsimp only at d0 q0 bp bd bq
  have sb3 : SB 300 (p, d, q) := sb.mono (by decide)
  show wS _ _ ⟨[some (.lab pp), some (.d (.tuple [.int p, .int d, .int q])), some (.d (.int k)), none, none, none, none, none, none], [⟨pp, false, .pu m⟩]⟩ _
  repeat' walk_at "ux"
  refine ⟨by decide, fun a => ⟨(a, p, d, q), rfl, ⟨rfl, rfl, rfl, d0, q0⟩, fun z m' nw hq => ?_, fun _ _ _ h => h.elim⟩⟩
  obtain ⟨rfl, rfl, rfl⟩ := hq
  refine ⟨_, _, rfl, rfl, rfl, ?_⟩
  show wS _ (tSeq (tAsg (tIf _ _ _) _) _) _ _
  refine seq_joinR (fun y => ∃ (m' j : Nat) (bl : Addr), y = ⟨[some (.lab pp), some (.d (tup3 p d q)), some (.d (.int k)), some (sob C_Surd (p, d, q)), some (.lab bl), none, none, none, none], [⟨pp, false, .pu m'⟩, ⟨bl, true, .lst (intsZ (tmS p d q j))⟩]⟩ ∧ m ≤ m' + 2 ∧ j ≤ k) ?_ ?_
  · repeat' walk_at "ux"
    refine ite2 (fun hk => ?_) (fun hk => ?_)
    · repeat' walk_at "ux"
      rename_i u u0 u1
      obtain ⟨v, rfl⟩ : ∃ v : Nat, u = v := ⟨u.toNat, by omega⟩
      rw [show (1 : Int) + (v : Int) = ((v + 1 : Nat) : Int) by omega]
      refine terms_ok (k := v + 1) sb3 (by omega) (by omega) fun bl => ?_
      exact ⟨m - 1 - 1, v + 1, bl, rfl, by omega, by omega⟩
    · repeat' walk_at "ux"
      exact ⟨m - 1, 0, _, by rw [tmS_zero]; rfl, by omega, by omega⟩
  · rintro y ⟨m1, j, bl, rfl, hm1, hj⟩
    show wS _ (tSeq _ _) _ _
    refine wS_frzA 4 (ds := (tmS p d q j).map PyData.int) (A := [⟨pp, false, .pu m1⟩]) (B := []) rfl rfl ?_
    have hbd := tmS_bd40 sb bq7 k
    have hpos := tmS_pos (p := p) d0 q0 k
    have hne := tmS_ne (p := p) (d := d) q0 (n := k) (by omega)
    have hlen := tmS_len p d q k
    have hbeg := begS (p := p) d0 q0 (n := k) (by omega)
    have hall := fun h => allS (p := p) d0 q0 (n := k) h
    have htj : tmS p d q j = (tmS p d q k).take j := by rw [tmS_take, Nat.min_eq_left hj]
    have htake := fun i => tmS_take (p := p) (d := d) (q := q) k i
    rw [htj]
    repeat' walk_at "ux"
    refine ⟨(pp, m1, (p, d, q), k), [], [(pp, .pu m1)], [], false, rfl, fun e he => by rw [List.mem_singleton] at he; subst he; rfl, rfl, ⟨rfl, rfl, rfl, by dsimp only; omega, sb3, k1, k4⟩, fun z m' nw hq _ _ => ?_, fun _ _ _ h => h.elim⟩
    obtain ⟨m2, tl, rfl, hm2, rfl, rfl⟩ := hq
    dsimp only at hm2
    rw [show [] ++ toCl false [(pp, Cell.pu m2)] ++ [] ++ toCl true [(tl, .lst (intsZ (tmS p d q k)))] = [⟨pp, false, .pu m2⟩, ⟨tl, true, .lst (intsZ (tmS p d q k))⟩] from rfl]
    generalize htk : tmS p d q k = ts at *
    have bts : ∀ t ∈ ts, Bd 40 t := hbd
    have hel := fun us : List Int => shaped_list (elok_ints us)
    have hdj : dLen (.list ((ts.take j).map PyData.int)) = some (ts.take j).length := dLen_int (allInts_ints _)
    repeat' walk_at "ux"
    refine wE_neT ?_
    repeat' walk_at "ux"
    refine ⟨tl, true, 1, ts.map PyData.int, rfl, rfl, ?_⟩
    rw [List.length_map, cutD_takeN, ← List.map_take, take_len_take]
    refine ⟨_, _, .r (.d _), .r (.d _), hel _, hel _, _, rfl, itb_f (by rw [eqv_same (hel _)]; rfl) ?_⟩
    repeat' walk_at "ux"
    refine ⟨_, Res.at (j := 1) rfl (.lst (ts.map PyData.int)), _, rfl, ?_⟩
    repeat' walk_at "ux"
    have hl0 : 0 < ts.length := List.length_pos_iff.mpr hne
    refine ⟨tl, true, 1, intsZ ts, rfl, rfl, ?_⟩
    rw [lenZ]
    refine ⟨_, _, rfl, rfl, itb_t (decide_eq_true (by omega)) ?_⟩
    repeat' walk_at "ux"
    refine itb_f (by rw [decide_eq_true (by omega)]; rfl) ?_
    repeat' walk_at "ux"
    refine ⟨[tup3 p d q, .list (ts.map PyData.int)], .cons (.d _) (.cons (Res.at (j := 1) rfl (.lst (ts.map PyData.int))) .nil), ⟨rfl, p, d, q, ts, rfl, bp, bd, bq, hpos, by omega, bts⟩, rfl, ?_⟩
    rw [show begD [tup3 p d q, .list (ts.map PyData.int)] = .bool (begE p d q ts) from by
      show PyData.bool (begE p d q ((intsD (.list (ts.map PyData.int))).getD [])) = _
      rw [show intsD (.list (ts.map PyData.int)) = some ts from allInts_ints ts]; rfl, hbeg]
    repeat' walk_at "ux"
    refine ⟨tl, true, 1, intsZ ts, rfl, rfl, ?_⟩
    rw [lenZ]
    repeat' (first | (with_reducible show ite _ _ _; refine iteT_join (fun y => y = ⟨[some (.lab pp), some (.d (tup3 p d q)), some (.d (.int k)), some (sob C_Surd (p, d, q)), some (.d (.list ((ts.take j).map PyData.int))), some (.lab tl), none, none, none], [⟨pp, false, .pu m2⟩, ⟨tl, true, .lst (intsZ ts)⟩]⟩) (fun hc => ?_) (fun _ => rfl) ?_) | walk_at "ux")
    · refine ⟨[tup3 p d q, .list (ts.map PyData.int)], .cons (.d _) (.cons (Res.at (j := 1) rfl (.lst (ts.map PyData.int))) .nil), ⟨rfl, p, d, q, ts, rfl, bp, bd, bq, by omega, bts⟩, rfl, ?_⟩
      rw [show allD [tup3 p d q, .list (ts.map PyData.int)] = .bool (allE p d q ts) from by
        show PyData.bool (allE p d q ((intsD (.list (ts.map PyData.int))).getD [])) = _
        rw [show intsD (.list (ts.map PyData.int)) = some ts from allInts_ints ts]; rfl, hall (by have := of_decide_eq_true hc; omega)]
      repeat' walk_at "ux"
      rfl
    · rintro y rfl
      have hhd : ts[0]? = some (flo p d q) := by rw [← htk]; exact tmS_head d0 q0 (by omega)
      have bfl : Bd 40 (flo p d q) := bts _ (List.mem_of_getElem? hhd)
      have shf : ShOk (.int (flo p d q)) := shok_i (bfl.mono (by decide))
      repeat' walk_at "ux"
      rename_i f f0 f1
      obtain ⟨f, rfl⟩ : ∃ v : Nat, f = v := ⟨f.toNat, by omega⟩
      rw [show (1 : Int) + (f : Int) = ((f + 1 : Nat) : Int) by omega]
      have htf : tmS p d q (f + 1) = ts.take (f + 1) := by rw [htake, Nat.min_eq_left (by omega)]
      refine wE_neT ?_
      repeat' walk_at "ux"
      refine ⟨(pp, m2 - 1, (p, d, q), f + 1), [], [(pp, .pu (m2 - 1))], [⟨tl, true, .lst (intsZ ts)⟩], false, rfl, fun e he => by rw [List.mem_singleton] at he; subst he; rfl, rfl, ⟨rfl, rfl, rfl, by dsimp only; omega, sb3, by dsimp only; omega, by dsimp only; omega⟩, fun z m' nw hq _ _ => ?_, fun _ _ _ h => h.elim⟩
      obtain ⟨m3, fl, rfl, hm3, rfl, rfl⟩ := hq
      dsimp only at hm3
      rw [htf, show [] ++ toCl false [(pp, Cell.pu m3)] ++ [⟨tl, true, Cell.lst (intsZ ts)⟩] ++ toCl true [(fl, .lst (intsZ (ts.take (f + 1))))] = [⟨pp, false, .pu m3⟩, ⟨tl, true, .lst (intsZ ts)⟩, ⟨fl, true, .lst (intsZ (ts.take (f + 1)))⟩] from rfl]
      repeat' walk_at "ux"
      refine ⟨tl, true, 1, ts.map PyData.int, rfl, rfl, ?_⟩
      rw [cutD_takeN, ← List.map_take]
      refine ⟨_, _, .r (Res.at (j := 2) rfl (.lst ((ts.take (f + 1)).map PyData.int))), .r (.d _), hel _, hel _, ?_⟩
      rw [eqv_same (hel _)]
      repeat' walk_at "ux"
      refine ⟨((p, d, q), []), rfl, ⟨rfl, rfl, rfl, sb3, rfl⟩, fun z nw hq _ => ?_, fun _ _ h => h.elim⟩
      obtain ⟨-, rfl, rfl⟩ := hq
      rw [show ∀ l : List Cl, l ++ toCl true [] = l from fun l => List.append_nil l]
      refine ⟨_, rfl, shf, ?_⟩
      repeat' walk_at "ux"
      refine ⟨tl, true, 1, _, 0, _, rfl, rfl, rfl, Tq.atI_nat (i := 0) (by unfold intsZ; rw [List.getElem?_map, List.getElem?_map, hhd]; rfl), ?_⟩
      repeat' walk_at "ux"
      refine ne_same _ ?_
      repeat' walk_at "ux"
      refine ⟨.list (ts.map PyData.int), _, Res.at (j := 1) rfl (.lst (ts.map PyData.int)), rfl, fun kl => ?_⟩
      dsimp only [List.cons_append, List.nil_append]
      refine wS_seq (wS_app (j := 1) rfl rfl (wE_int ⟨_, rfl, sz_lt1 (by rw [lenZ]; omega), ?_⟩))
      refine wS_seq (wS_rev (j := 1) rfl rfl ?_)
      dsimp only [List.set]
      refine wS_frzA 7 (ds := ts.map PyData.int) (A := [⟨pp, false, .pu m3⟩, ⟨tl, true, .lst (intsZ ts ++ [Z.d (PyData.int 0)]).reverse⟩, ⟨fl, true, .lst (intsZ (ts.take (f + 1)))⟩]) (B := []) rfl rfl ?_
      repeat' walk_at "ux"
      refine wE_neT ?_
      repeat' walk_at "ux"
      refine terms_ok (k := k) sb3 k1 k4 fun wl => ?_
      rw [show tmS (p, d, q).1 (p, d, q).2.1 (p, d, q).2.2 k = ts from htk]
      repeat' walk_at "ux"
      refine ⟨_, _, .r (Res.at (j := 3) rfl (.lst (ts.map PyData.int))), .r (.d _), hel _, hel _, ?_⟩
      rw [eqv_same (hel _)]
      refine ⟨_, rfl, itb_f rfl ?_⟩
      repeat' walk_at "ux"
      refine ⟨((p, d, q), []), rfl, ⟨rfl, rfl, rfl, sb3, rfl⟩, fun z nw hq _ => ?_, fun _ _ h => h.elim⟩
      obtain ⟨-, rfl, rfl⟩ := hq
      rw [show ∀ l : List Cl, l ++ toCl true [] = l from fun l => List.append_nil l]
      have er : restZ C_Surd (p, d, q) = match restS p d q with | none => .d .none | some y => sob C_Surd y := rfl
      dsimp only at er ⊢
      rw [er]
      have ek : cutD (ts.map PyData.int) (some 1) none = (ts.drop 1).map PyData.int := by rw [cutD1, List.map_drop]
      have fin : ∀ (l : List (Option Z)) (N : List Cl) (m' : Nat), m ≤ m' + 12 → e.rt (.d (.bool true)) ⟨l, ⟨pp, false, .pu m'⟩ :: N⟩ := fun l N m' h1 => hz _ _ m' false rfl List.mem_cons_self (by show m - 12 ≤ m'; omega)
      cases hr : restS p d q with
      | none =>
        obtain ⟨e1, e2⟩ := rest_none d0 q0 hr (n := k) (by omega)
        rw [htk] at e1 e2
        repeat' walk_at "ux"
        rw [ek, e1]
        refine ⟨rfl, rfl, true, rfl, ?_⟩
        repeat' walk_at "ux"
        refine ⟨⟨rfl, p, d, q, ts, rfl, bp, bd, bq, by omega, bts⟩, ?_⟩
        rw [show allD [tup3 p d q, .list (ts.map PyData.int)] = .bool (allE p d q ts) from by
          show PyData.bool (allE p d q ((intsD (.list (ts.map PyData.int))).getD [])) = _
          rw [show intsD (.list (ts.map PyData.int)) = some ts from allInts_ints ts]; rfl, e2]
        exact fin _ _ m3 (by omega)
      | some y =>
        obtain ⟨a, b, c⟩ := y
        obtain ⟨r1, r2, r3, r4, r5, r6⟩ := rest_some d0 q0 hr
        have rs : SB 300 (a, b, c) := (rest_sb sb hr).mono (by decide)
        have ap := apS_one r6
        have r4 := r4 k k (by omega) (Nat.le_refl _)
        rw [htk] at r4
        repeat' walk_at "ux"
        rw [List.length_map, show eqS (.int ((ts.length : Nat) : Int)) (.int 1) = decide (ts.length = 1) from (eqv_int _ _).trans (decide_eq_decide.mpr (by omega))]
        refine ite2 (fun h1 => ?_) (fun h1 => ?_)
        · have h1 := of_decide_eq_true h1
          have hk1 : k = 1 := r5 k (by rw [htk]; exact h1)
          repeat' walk_at "ux"
          refine itb_t (by rw [show eqS (.int (k : Int)) (.int 1) = decide ((k : Int) = 1) from eqv_int _ _]; exact decide_eq_true (by omega)) ?_
          repeat' walk_at "ux"
          refine ⟨((a, b, c), []), rfl, ⟨rfl, rfl, rfl, rs, rfl⟩, fun z nw hq _ => ?_, fun _ _ h => h.elim⟩
          obtain ⟨-, rfl, rfl⟩ := hq
          rw [show ∀ l : List Cl, l ++ toCl true [] = l from fun l => List.append_nil l]
          repeat' walk_at "ux"
          rw [decide_eq_true (show 0 < flo a b c by omega)]
          exact fin _ _ m3 (by omega)
        · repeat' walk_at "ux"
          refine ⟨_, _, _, true, rfl, ic_Surd, kc_Surd_Surd, ?_⟩
          repeat' walk_at "ux"
          refine ⟨by decide, fun a2 => ⟨(a2, 1, 0, 1), rfl, ⟨rfl, rfl, rfl, Int.le_refl 0, (by show (1 : Int) ≠ 0; decide)⟩, fun z m' nw hq => ?_, fun _ _ _ h => h.elim⟩⟩
          obtain ⟨rfl, rfl, rfl⟩ := hq
          refine ⟨_, _, rfl, rfl, rfl, ?_⟩
          repeat' walk_at "ux"
          refine ⟨((a, b, c), [sob C_Surd (1, 0, 1)]), rfl, ⟨rfl, rfl, rfl, rs, (1, 0, 1), rfl, sb101⟩, fun z nw hq _ => ?_, fun _ _ h => h.elim⟩
          obtain ⟨-, y1, w1, hy1, rfl, rfl, hw1, _, _⟩ := hq
          obtain rfl := sob_inj hy1
          have hw1 := hw1 ap
          subst hw1
          rw [show ∀ l : List Cl, l ++ toCl true [] = l from fun l => List.append_nil l]
          repeat' walk_at "ux"
          refine terms_ok (x := (a, b, c)) (k := k) rs k1 k4 fun ql => ?_
          repeat' walk_at "ux"
          refine ⟨ql, true, 4, (tmS a b c k).map PyData.int, rfl, rfl, ?_⟩
          rw [List.length_map, show ((ts.length : Nat) : Int) - 1 = ((ts.length - 1 : Nat) : Int) by omega, cutD_takeN, ← List.map_take, r4]
          repeat' walk_at "ux"
          rw [ek]
          repeat' walk_at "ux"
          refine ⟨hel _, hel _, ?_⟩
          rw [eqv_same (hel _)]
          exact fin _ _ m3 (by omega)
abbrev s_law : Stmt := topS 34
abbrev N_law : List Str := ["_law_script", "_law_k", "_law_box_here", "_law_some", "_law_often", "_law_parts_here", "_law_thing"]
theorem sc_law : FnScope N_law ["_law_script"] (defScope s_law) := ⟨rfl, rfl, rfl, by decide +kernel, rfl, by decide +kernel, by decide +kernel⟩
theorem ok_law {f : Addr} {fd : FuncData} (F : Fun K "law" "law" s_law f fd) {C_Surd : Addr} (g_Surd : mg "Surd" = some (.ref C_Surd)) (c_law_cell : Cal P w K mg base 1 "_law_cell" ["_law_script", "_law_k"] (sp_law_cell K)) (c_law_box : Cal P w K mg base 1 "_law_box" ["_law_cell_here"] (sp_law_purse K)) (c_law_take : Cal P w K mg base 1 "_law_take" ["_law_box_here", "_law_count"] (sp_law_take K)) (c_law_parts : Cal P w K mg base 2 "_law_parts" ["_law_box_here"] (sp_law_parts K)) (c_law_refused : Cal P w K mg base 5 "_law_refused" ["_law_surd", "_law_thing"] (Ux.sp_law_refused K C_Surd)) (c_law_right : Cal P w K mg base 6 "_law_right" ["_law_box_here", "_law_parts_here", "_law_often"] (Ux.sp_law_right36 K)) {f_Surd___init__ : Addr} (mk_Surd : Mk K C_Surd f_Surd___init__) (c_Surd___init__ : CalQ P w K mg base (L2.CX P w) 2 ["self", "p", "d", "q"] (Ux.sp_sinit K C_Surd) dvs_Surd___init__ shs_Surd___init__ f_Surd___init__) (b_int : mg "int" = none) (b_len : mg "len" = none) (b_max : mg "max" = none) (b_min : mg "min" = none) (b_range : mg "range" = none) : FnG P w K mg base CX0 7 f fd ["_law_script"] (sp_law K) := by
  refine okG F sc_law spLaw_len (fun cdv A outer s H vs Q E hr hgu h => ?_)
  refine ⟨_, (pss_cons (ps_for PassesOwn.never rfl (pi_range1 (by rfl) b_range (pa_cons (pe_callB (call_max2 rfl) (by rfl) b_max (by decide +kernel) (pa_cons pe_int (pa_cons (pe_callB (call_min2 rfl) (by rfl) b_min (by decide +kernel) (pa_cons pe_int (pa_cons (pe_callB (lenK K) (by rfl) b_len (by decide +kernel) (pa_cons (pv 0) pa_nil)) pa_nil))) pa_nil))) pa_nil)) (pg_name (i := 1) sc_law.nd rfl (Or.inl rfl)) (pss_cons (ps_set (i := 2) sc_law.nd rfl (Or.inl rfl) (pe_cal c_law_box (hr.mono (by decide)) hgu (by rfl) (pa_cons (pe_cal c_law_cell (hr.mono (by decide)) hgu (by rfl) (pa_cons (pv 0) (pa_cons (pv 1) pa_nil))) pa_nil)))
    (pss_cons (ps_set (i := 3) sc_law.nd rfl (Or.inl rfl) (pe_lstL (pa_cons (pe_op op_add pe_int (pe_cal c_law_take (hr.mono (by decide)) hgu (by rfl) (pa_cons (pv 2) (pa_cons pe_int pa_nil)))) (pa_cons pe_int (pa_cons (pe_op op_add pe_int (pe_cal c_law_take (hr.mono (by decide)) hgu (by rfl) (pa_cons (pv 2) (pa_cons pe_int pa_nil)))) (pa_cons (pe_ix (ixK K) (pe_lst (pa_cons pe_int (pa_cons pe_int pa_nil))) (pe_callTy call_int1 (by rfl) b_int (by decide +kernel) (pa_cons (pe_cmpR op_eq (pv 1) pe_int (nomark _)) pa_nil)) (fun _ _ => rfl)) pa_nil))))))
    (pss_cons (ps_set (i := 4) sc_law.nd rfl (Or.inl rfl) (pe_ix (ixLK K) (pv 3) (pe_ix (ixK K) (pe_lst (pa_cons pe_int (pa_cons pe_int (pa_cons pe_int (pa_cons pe_int (pa_cons pe_int (pa_cons pe_int (pa_cons pe_int (pa_cons pe_int pa_nil))))))))) (pe_cal c_law_take (hr.mono (by decide)) hgu (by rfl) (pa_cons (pv 2) (pa_cons pe_int pa_nil))) (fun _ _ => rfl)) (fun _ _ => rfl)))
    (pss_cons (ps_set (i := 5) sc_law.nd rfl (Or.inl rfl) (pe_cal c_law_parts (hr.mono (by decide)) hgu (by rfl) (pa_cons (pv 2) pa_nil)))
    (pss_cons (ps_if (pt_not (pt_val (pe_cal c_law_right (hr.mono (by decide)) hgu (by rfl) (pa_cons (pv 2) (pa_cons (pv 5) (pa_cons (pv 4) pa_nil)))))) (pss_one (ps_ret pe_bl)) pss_nil)
    (pss_cons (ps_set (i := 3) sc_law.nd rfl (Or.inl rfl) (pe_lstZ (pa_cons pe_int (pa_cons pe_int (pa_cons (pe_un un_neg pe_int) (pa_cons pe_non (pa_cons pe_bl (pa_cons pe_str (pa_cons (pe_lstL (pa_cons pe_int pa_nil)) (pa_cons (pe_tup (pa_cons pe_int pa_nil)) (pa_cons pe_dnewL (pa_cons (pe_op op_pow pe_int pe_int) pa_nil))))))))))))
    (pss_one (ps_for PassesOwn.never rfl (piL K (pe_lstZ (pa_cons (pe_ix (ixZK K) (pv 3) (pe_cal c_law_take (hr.mono (by decide)) hgu (by rfl) (pa_cons (pv 2) (pa_cons pe_int pa_nil))) (fun _ _ => rfl)) (pa_cons pe_int (pa_cons pe_int pa_nil))))) (pg_name (i := 6) sc_law.nd rfl (Or.inl rfl)) (pss_one (ps_if (pt_not (pt_val (pe_cal c_law_refused (hr.mono (by decide)) hgu (by rfl) (pa_cons (pe_mkG sh_Surd___init___1 mk_Surd c_Surd___init__ (.tail _ (.head _)) (hr.mono (by decide)) hgu (by rfl) g_Surd takes0 (pa_cons (pe_ix (ixK K) (pv 5) pe_int (fun _ _ => rfl)) (pa_cons (pe_ix (ixK K) (pv 5) pe_int (fun _ _ => rfl)) (pa_cons (pe_ix (ixK K) (pv 5) pe_int (fun _ _ => rfl)) pa_nil))) pk_nil) (pa_cons (pv 6) pa_nil))))) (pss_one (ps_ret pe_bl)) pss_nil)))))))))))
    (pss_one (ps_ret pe_bl))), ?_⟩
  try dsimp only [cxOf]
  refine law_body h (fun ns hl e hz => ?_)
  refine law_loop (n := 5) (by decide) hz (fun k k0 k1 => ?_)
  show wS _ _ ⟨[some (.d (.list (ns.map PyData.int))), some (.d (.int k)), none, none, none, none, none], _⟩ _
  repeat' walk_at "ux"
  refine ⟨⟨ns, k, rfl, k0, k1⟩, ?_⟩
  rintro _ ⟨c, rfl⟩
  repeat' (first | (with_reducible show wE _ (tCB _ (tCons (tOp rEq _ _) tNil)) _ _; refine wE_int1 (wD_mono ?_ fun _ _ h => .inr h)) | walk_at "ux")
  rename_i pp a a0 a1 b b0 b1
  refine ixD_any (r := if eqS (PyData.int k) (PyData.int 0) = true then 1 else 0) (by split <;> decide) (by split <;> decide) (fun g hg => ?_)
  obtain ⟨w, rfl, w1, w4⟩ : ∃ w : Int, g = .int w ∧ 1 ≤ w ∧ w ≤ 400 := by
    simp only [List.mem_cons, List.not_mem_nil, or_false] at hg
    rcases hg with rfl | rfl
    · exact ⟨60, rfl, by decide, by decide⟩
    · exact ⟨400, rfl, by decide, by decide⟩
  repeat' walk_at "ux"
  rename_i sl c2 c0 c1
  refine ixD_any c0 (by exact c1) (fun g hg => ?_)
  obtain ⟨v, rfl, hv⟩ : ∃ v : Nat, g = .int v ∧ v < 4 := by
    simp only [List.mem_cons, List.not_mem_nil, or_false] at hg
    rcases hg with rfl | rfl | rfl | rfl | rfl | rfl | rfl | rfl
    all_goals first | exact ⟨0, rfl, by decide⟩ | exact ⟨1, rfl, by decide⟩ | exact ⟨2, rfl, by decide⟩ | exact ⟨3, rfl, by decide⟩
  obtain ⟨o, ho, ho1, ho4⟩ : ∃ o : Nat, [Z.d (.int (1 + a)), .d (.int 20), .d (.int (1 + b)), .d (.int w)][v]? = some (.d (.int o)) ∧ 1 ≤ o ∧ o ≤ 400 := by
    match v, hv with
    | 0, _ => exact ⟨(1 + a).toNat, by show some (Z.d (.int (1 + a))) = _; rw [Int.toNat_of_nonneg (by omega)], by omega, by omega⟩
    | 1, _ => exact ⟨20, rfl, by decide, by decide⟩
    | 2, _ => exact ⟨(1 + b).toNat, by show some (Z.d (.int (1 + b))) = _; rw [Int.toNat_of_nonneg (by omega)], by omega, by omega⟩
    | 3, _ => exact ⟨w.toNat, by show some (Z.d (.int w)) = _; rw [Int.toNat_of_nonneg (by omega)], by omega, by omega⟩
  refine ⟨sl, true, 1, _, _, _, rfl, rfl, rfl, Tq.atI_nat ho, ?_⟩
  repeat' walk_at "ux"
  rintro _ ⟨p, d, q, rfl, sb, bq7⟩
  obtain ⟨d0, q0, bp, bd, bq⟩ := id sb
  dsimp only at d0 q0 bp bd bq
  have sb3 : SB 300 (p, d, q) := sb.mono (by decide)
  try dsimp only [List.set, S.set, List.cons_append, List.nil_append]
  repeat' walk_at "ux"
  refine ⟨⟨p, d, q, o, rfl, ⟨sb, bq7⟩, ho1, ho4⟩, ?_⟩
  repeat' walk_at "ux"
  rintro _ rfl
  try dsimp only [List.set, S.set, List.cons_append, List.nil_append]
  repeat' walk_at "ux"
  rename_i l3 dn
  refine wS_forZ ?_
  repeat' walk_at "ux"
  rename_i t t0 t1
  refine ixZ_any t0 (by exact t1) (fun u hu => ?_)
  repeat' walk_at "ux"
  refine ⟨fun i y => ∃ (z3 : Z) (z6 : Option Z) (M : List Cl), y = ⟨[some (.d (.list (ns.map PyData.int))), some (.d (.int k)), some (.lab pp), some z3, some (.d (.int o)), some (.d (tup3 p d q)), z6], M⟩ ∧ (i = 0 → ∃ (A B : List Cl) (mm : AC) (dd : D), Odd1 u dd mm ∧ wholeB dd 1 400 = false ∧ M = A ++ toCl true mm ++ B), ⟨_, none, _, rfl, fun _ => ?_⟩, fun i x y2 hx hI => ?_, fun y2 hI => ?_⟩
  · simp only [List.mem_cons, List.not_mem_nil, or_false] at hu
    rcases hu with rfl | rfl | rfl | rfl | rfl | rfl | rfl | rfl | rfl | rfl
    all_goals first
      | exact ⟨_, [], [], _, .pl _ rfl rfl ⟨by decide +kernel, by decide +kernel, by decide +kernel, by decide +kernel⟩, by decide +kernel, by simp [toCl]; rfl⟩
      | exact ⟨[_, _], [_], _, _, .ls l3, by decide +kernel, rfl⟩
      | exact ⟨[_, _, _], [], _, _, .dc dn, by decide +kernel, rfl⟩
  · obtain ⟨z3, z6, M, rfl, h0⟩ := hI
    obtain ⟨A, B, mm, dd, od, hw, rfl⟩ : ∃ (A B : List Cl) (mm : AC) (dd : D), Odd1 x dd mm ∧ wholeB dd 1 400 = false ∧ M = A ++ toCl true mm ++ B := by
      match i, hx with
      | 0, hx => cases hx; exact h0 rfl
      | 1, hx => cases hx; exact ⟨M, [], [], _, .pl (.int 0) rfl rfl ⟨by decide +kernel, by decide +kernel, by decide +kernel, by decide +kernel⟩, by decide +kernel, by simp [toCl]⟩
      | 2, hx => cases hx; exact ⟨M, [], [], _, .pl (.int 401) rfl rfl ⟨by decide +kernel, by decide +kernel, by decide +kernel, by decide +kernel⟩, by decide +kernel, by simp [toCl]⟩
      | i + 3, hx => cases hx
    repeat' walk_at "ux"
    refine ⟨by decide, fun a => ⟨(a, p, d, q), rfl, ⟨rfl, rfl, rfl, d0, q0⟩, fun z m' nw hq => ?_, fun _ _ _ h => h.elim⟩⟩
    obtain ⟨rfl, rfl, rfl⟩ := hq
    refine ⟨_, _, rfl, rfl, rfl, ?_⟩
    repeat' walk_at "ux"
    refine ⟨((p, d, q), x, dd), A, mm, B, true, rfl, by cases od <;> simp [Cell.isRo], rfl, ⟨rfl, rfl, sb3, od, hw⟩, fun z m' nw hq _ _ => ?_, fun _ _ _ h => h.elim⟩
    obtain ⟨rfl, rfl⟩ := hq
    repeat' walk_at "ux"
    exact ⟨z3, some x, _, rfl, fun h => by omega⟩
  · obtain ⟨z3, z6, M, rfl, h0⟩ := hI
    exact ⟨rfl, rfl⟩
theorem row_ok {C_NoNumber C_Surd : Addr}
    {f_Surd___init__ f_Surd_fraction f_Surd_states f_Surd_terms f_Surd_told f_Surd_compare f_Surd_floor f_Surd_rest : Addr}
    (tx : TxC K mg "TermError")
    (y_NoNumber : XcT K mg "NoNumber" "NoNumber.__init__" s_i_NoNumber C_NoNumber)
    (t_NoNumber_NoNumber : PySem.W.exmOne K (.ref C_NoNumber) (.ref C_NoNumber) = some true)
    (g_Surd : mg "Surd" = some (.ref C_Surd))
    (cl_Surd : Cls K C_Surd)
    (me_Surd_compare : Meth K C_Surd "compare" f_Surd_compare)
    (me_Surd_floor : Meth K C_Surd "floor" f_Surd_floor)
    (me_Surd_fraction : Meth K C_Surd "fraction" f_Surd_fraction)
    (me_Surd_rest : Meth K C_Surd "rest" f_Surd_rest)
    (me_Surd_states : Meth K C_Surd "states" f_Surd_states)
    (me_Surd_terms : Meth K C_Surd "terms" f_Surd_terms)
    (me_Surd_told : Meth K C_Surd "told" f_Surd_told)
    (d_Surd___init__ : DfQ K "__init__" "Surd.__init__" s_Surd___init__ ["self", "p", "d", "q"] dvs_Surd___init__ shs_Surd___init__ f_Surd___init__)
    (d_Surd_fraction : MFn K "fraction" "Surd.fraction" s_Surd_fraction ["self"] f_Surd_fraction)
    (d_Surd_states : MFn K "states" "Surd.states" s_Surd_states ["self", "many"] f_Surd_states)
    (d_Surd_terms : DfQ K "terms" "Surd.terms" s_Surd_terms ["self", "many"] dvs_Surd_terms shs_Surd_terms f_Surd_terms)
    (d_Surd_told : MFn K "told" "Surd.told" s_Surd_told ["self"] f_Surd_told)
    (d_Surd_compare : MFn K "compare" "Surd.compare" s_Surd_compare ["self", "other"] f_Surd_compare)
    (d_Surd_floor : MFn K "floor" "Surd.floor" s_Surd_floor ["self"] f_Surd_floor)
    (d_Surd_rest : MFn K "rest" "Surd.rest" s_Surd_rest ["self"] f_Surd_rest)
    (mk_Surd : Mk K C_Surd f_Surd___init__)
    (na_Surd_surd_parts : NoAttr K C_Surd "surd_parts")
    (ic_Surd : IsiC K C_Surd)
    (kc_Surd_Surd : PySem.W.kitOne K (.ref C_Surd) (.ref C_Surd) = some true)
    (d_is_number : Df K mg "is_number" s_is_number ["thing"])
    (d_law_cell : Df K mg "_law_cell" s_law_cell ["_law_script", "_law_k"])
    (d_law_box : Df K mg "_law_box" s_law_box ["_law_cell_here"])
    (d_law_take : Df K mg "_law_take" s_law_take ["_law_box_here", "_law_count"])
    (d_law_parts : Df K mg "_law_parts" s_law_parts ["_law_box_here"])
    (d_is_whole : Df K mg "is_whole" s_is_whole ["thing", "low", "high"])
    (d_need_many : Df K mg "need_many" s_need_many ["many"])
    (d_fraction_terms : Df K mg "fraction_terms" s_fraction_terms ["top", "bottom"])
    (d_root_of : Df K mg "root_of" s_root_of ["number"])
    (d_greatest_part : Df K mg "greatest_part" s_greatest_part ["one", "other"])
    (d_in_lowest : Df K mg "in_lowest" s_in_lowest ["numbers"])
    (d_floor_of : Df K mg "floor_of" s_floor_of ["parts"])
    (d_scaled : Df K mg "scaled" s_scaled ["parts"])
    (d_law_refused : Df K mg "_law_refused" s_law_refused ["_law_surd", "_law_thing"])
    (d_side_of : Df K mg "side_of" s_side_of ["number"])
    (d_side_of_two : Df K mg "side_of_two" s_side_of_two ["a", "b", "m"])
    (d_side_of_three : Df K mg "side_of_three" s_side_of_three ["a", "b", "m", "c", "n"])
    (d_side_apart : Df K mg "side_apart" s_side_apart ["one", "other"])
    (d_law_against : Df K mg "_law_against" s_law_against ["_law_parts_here", "_law_top", "_law_bottom"])
    (d_law_begins : Df K mg "_law_begins" s_law_begins ["_law_parts_here", "_law_terms"])
    (d_law_asked : Df K mg "_law_asked" s_law_asked ["_law_box_here", "_law_surd", "_law_often"])
    (d_law_is_all : Df K mg "_law_is_all" s_law_is_all ["_law_parts_here", "_law_terms"])
    (d_law_right : Df K mg "_law_right" s_law_right ["_law_box_here", "_law_parts_here", "_law_often"])
    (b_abs : mg "abs" = none)
    (b_bool : mg "bool" = none)
    (b_dict : mg "dict" = none)
    (b_enumerate : mg "enumerate" = none)
    (b_int : mg "int" = none)
    (b_isinstance : mg "isinstance" = none)
    (b_len : mg "len" = none)
    (b_list : mg "list" = none)
    (b_max : mg "max" = none)
    (b_min : mg "min" = none)
    (b_range : mg "range" = none)
    (b_repr : mg "repr" = none)
    (b_tuple : mg "tuple" = none)
    {t_MOST_TERMS : Tok} (m_MOST_TERMS : mg "MOST_TERMS" = some (.int 400 t_MOST_TERMS)) :
    ∀ (base : Heap) (f : Addr) (fd : FuncData), Fun K "law" "law" s_law f fd → FnG P w K mg base CX0 7 f fd ["_law_script"] (sp_law K) := by
  intro base f fd F
  have x_NoNumber : Xc P w K mg base "NoNumber" C_NoNumber := xc_NoNumber y_NoNumber tx
  have at_Surd : AtC K C_Surd ["surd_parts"] := ⟨cl_Surd, List.forall_mem_cons.mpr ⟨na_Surd_surd_parts, List.forall_mem_nil _⟩⟩
  have c_is_number : Cal P w K mg base 1 "is_number" ["thing"] (sp_is_number K) := ok_is_number d_is_number b_bool b_int b_isinstance
  have c_Surd___init__ : CalQ P w K mg base (L2.CX P w) 2 ["self", "p", "d", "q"] (Ux.sp_sinit K C_Surd) dvs_Surd___init__ shs_Surd___init__ f_Surd___init__ := ok_Surd___init__ d_Surd___init__ c_is_number at_Surd
  have c_law_cell : Cal P w K mg base 1 "_law_cell" ["_law_script", "_law_k"] (sp_law_cell K) := ok_law_cell d_law_cell b_len
  have c_law_box : Cal P w K mg base 1 "_law_box" ["_law_cell_here"] (sp_law_purse K) := ok_law_box d_law_box b_max
  have c_law_take : Cal P w K mg base 1 "_law_take" ["_law_box_here", "_law_count"] (sp_law_take K) := ok_law_take d_law_take 
  have c_law_parts : Cal P w K mg base 2 "_law_parts" ["_law_box_here"] (sp_law_parts K) := ok_law_parts d_law_parts c_law_take b_int
  have c_is_whole : Cal P w K mg base 2 "is_whole" ["thing", "low", "high"] (sp_is_whole K) := ok_is_whole d_is_whole c_is_number
  have c_need_many : CalX P w K mg base 3 "need_many" ["many"] (Ux.sp_need_many K C_NoNumber) := ok_need_many d_need_many x_NoNumber c_is_whole m_MOST_TERMS
  have c_fraction_terms : Cal P w K mg base 1 "fraction_terms" ["top", "bottom"] (sp_fraction_terms K) := ok_fraction_terms d_fraction_terms 
  have c_root_of : Cal P w K mg base 1 "root_of" ["number"] (sp_root_of K) := ok_root_of d_root_of 
  have c_greatest_part : Cal P w K mg base 1 "greatest_part" ["one", "other"] (sp_greatest_part K) := ok_greatest_part d_greatest_part b_abs
  have c_in_lowest : Cal P w K mg base 2 "in_lowest" ["numbers"] (sp_in_lowest K) := ok_in_lowest d_in_lowest c_greatest_part b_tuple
  have c_Surd_fraction : MCal P w K mg base (L2.CX P w) 3 ["self"] (Ux.sp_fraction K C_Surd) f_Surd_fraction := ok_Surd_fraction d_Surd_fraction c_root_of c_in_lowest at_Surd
  have c_floor_of : Cal P w K mg base 2 "floor_of" ["parts"] (sp_floor_of K) := ok_floor_of d_floor_of c_root_of b_int
  have c_scaled : Cal P w K mg base 1 "scaled" ["parts"] (sp_scaled K) := ok_scaled d_scaled b_abs
  have c_Surd_states : MCal P w K mg base (L2.CX P w) 3 ["self", "many"] (Ux.sp_states K C_Surd) f_Surd_states := ok_Surd_states d_Surd_states c_floor_of c_scaled at_Surd b_range
  have v_fraction : VTab P w K mg base (L2.CX P w) 3 "fraction" [(C_Surd, Ux.sp_fraction K C_Surd)] := (.cons (.of cl_Surd me_Surd_fraction c_Surd_fraction (by decide)) .nil)
  have v_states : VTab P w K mg base (L2.CX P w) 3 "states" [(C_Surd, Ux.sp_states K C_Surd)] := (.cons (.of cl_Surd me_Surd_states c_Surd_states (by decide)) .nil)
  have c_Surd_terms : CalQ P w K mg base (L2.CX P w) 4 ["self", "many"] (Ux.sp_terms K C_Surd C_NoNumber) dvs_Surd_terms shs_Surd_terms f_Surd_terms := ok_Surd_terms d_Surd_terms c_need_many c_fraction_terms c_floor_of v_fraction v_states
  have vq_terms : VMethQ P w K mg base (L2.CX P w) 4 "terms" C_Surd (Ux.sp_terms K C_Surd C_NoNumber) dvs_Surd_terms shs_Surd_terms := .of cl_Surd me_Surd_terms c_Surd_terms (by decide)
  have c_law_refused : Cal P w K mg base 5 "_law_refused" ["_law_surd", "_law_thing"] (Ux.sp_law_refused K C_Surd) := ok_law_refused d_law_refused x_NoNumber t_NoNumber_NoNumber vq_terms b_dict b_isinstance b_list b_repr
  have c_Surd_told : MCal P w K mg base (L2.CX P w) 1 ["self"] (Ux.sp_told K C_Surd) f_Surd_told := ok_Surd_told d_Surd_told at_Surd
  have c_side_of : Cal P w K mg base 1 "side_of" ["number"] (sp_side_of K) := ok_side_of d_side_of b_int
  have c_side_of_two : Cal P w K mg base 2 "side_of_two" ["a", "b", "m"] (sp_side_of_two K) := ok_side_of_two d_side_of_two c_side_of
  have c_side_of_three : Cal P w K mg base 3 "side_of_three" ["a", "b", "m", "c", "n"] (sp_side_of_three K) := ok_side_of_three d_side_of_three c_side_of c_side_of_two
  have c_side_apart : Cal P w K mg base 4 "side_apart" ["one", "other"] (sp_side_apart K) := ok_side_apart d_side_apart c_side_of c_side_of_three
  have v_told : VTab P w K mg base (L2.CX P w) 1 "told" [(C_Surd, Ux.sp_told K C_Surd)] := (.cons (.of cl_Surd me_Surd_told c_Surd_told (by decide)) .nil)
  have c_Surd_compare : MCal P w K mg base (L2.CX P w) 5 ["self", "other"] (Ux.sp_compare K C_Surd) f_Surd_compare := ok_Surd_compare d_Surd_compare g_Surd c_side_apart v_told ic_Surd kc_Surd_Surd b_isinstance
  have c_Surd_floor : MCal P w K mg base (L2.CX P w) 3 ["self"] (Ux.sp_floor K C_Surd) f_Surd_floor := ok_Surd_floor d_Surd_floor c_floor_of at_Surd
  have c_Surd_rest : MCal P w K mg base (L2.CX P w) 4 ["self"] (Ux.sp_rest K C_Surd) f_Surd_rest := ok_Surd_rest d_Surd_rest g_Surd c_floor_of c_scaled v_fraction mk_Surd c_Surd___init__ at_Surd
  have c_law_against : Cal P w K mg base 1 "_law_against" ["_law_parts_here", "_law_top", "_law_bottom"] (sp_law_against K) := ok_law_against d_law_against b_int
  have c_law_begins : Cal P w K mg base 2 "_law_begins" ["_law_parts_here", "_law_terms"] (sp_law_begins K) := ok_law_begins d_law_begins c_law_against b_bool b_enumerate b_int b_isinstance b_len
  have c_law_asked : Cal P w K mg base 5 "_law_asked" ["_law_box_here", "_law_surd", "_law_often"] (Ux.sp_law_asked K C_Surd) := ok_law_asked d_law_asked c_law_take vq_terms
  have c_law_is_all : Cal P w K mg base 2 "_law_is_all" ["_law_parts_here", "_law_terms"] (sp_law_is_all K) := ok_law_is_all d_law_is_all c_law_against
  have v_compare : VTab P w K mg base (L2.CX P w) 5 "compare" [(C_Surd, Ux.sp_compare K C_Surd)] := (.cons (.of cl_Surd me_Surd_compare c_Surd_compare (by decide)) .nil)
  have v_floor : VTab P w K mg base (L2.CX P w) 3 "floor" [(C_Surd, Ux.sp_floor K C_Surd)] := (.cons (.of cl_Surd me_Surd_floor c_Surd_floor (by decide)) .nil)
  have v_rest : VTab P w K mg base (L2.CX P w) 4 "rest" [(C_Surd, Ux.sp_rest K C_Surd)] := (.cons (.of cl_Surd me_Surd_rest c_Surd_rest (by decide)) .nil)
  have c_law_right : Cal P w K mg base 6 "_law_right" ["_law_box_here", "_law_parts_here", "_law_often"] (Ux.sp_law_right36 K) := ok_law_right d_law_right g_Surd c_law_take c_law_begins c_law_asked c_law_is_all v_compare v_floor v_rest vq_terms mk_Surd c_Surd___init__ ic_Surd kc_Surd_Surd b_isinstance b_len b_list b_repr
  exact ok_law F g_Surd c_law_cell c_law_box c_law_take c_law_parts c_law_refused c_law_right mk_Surd c_Surd___init__ b_int b_len b_max b_min b_range
end
end Ux
open PySem PySem.W PyProof.Rows
set_option maxHeartbeats 0 in
theorem PySem.Challenge.cw_termstream_k36_terms_walked_holds : PySem.Challenge.rw_termstream_k36_terms_walked.Holds :=
  Hd.hd_k36 (by
  k_fill
  refine Tq.walk_ofG (l := PySem.Challenge.rw_termstream_k36_terms_walked) (n := 63) (k := 7) (x := "_law_script") (sp := Tq.sp_law) rfl (by decide) rfl ⟨rfl, by decide, by decide⟩ (fun w h Y => PySem.W.kIn_of Y) ?F (fun K H a ns hl _ hS => ⟨a, ns, rfl, hS, hl, fun _ => rfl⟩)
  case F =>
    intro w mg fa h KX G hmg
    refine' Tq.law_mk (st := Ux.s_law) KX G hmg (Ux.row_ok
      (Ux.txc_mk KX G ?xa ?xr ?xg ?xv)
      (Ux.xct_mk KX G (fun _ _ _ _ _ _ us hl => match us, hl with | [_, _], _ => rfl) ?X0aC ?X0xL ?X0vb ?X0sa ?X0ga ?X0gg ?X0nb ?X0a1 ?X0t1 ?X0l ?X0c ?X0k ?X0kC ?X0eC ?X0tC ?X0hC)
      (Ux.exm_mk (mg := mg) (x := "") (y := "") ?E0b ?E0t ?E0c ?E0s)
      (PySem.W.mg_of KX G ?G0)
      ⟨?L0a, ?L0b, ?L0c, ?L0d⟩
      ⟨?V0a, ?V0b, ?V0c⟩
      ⟨?V1a, ?V1b, ?V1c⟩
      ⟨?V2a, ?V2b, ?V2c⟩
      ⟨?V3a, ?V3b, ?V3c⟩
      ⟨?V4a, ?V4b, ?V4c⟩
      ⟨?V5a, ?V5b, ?V5c⟩
      ⟨?V6a, ?V6b, ?V6c⟩
      (Ux.dfq_mk (dvs := Ux.dvs_Surd___init__) (shs := Ux.shs_Surd___init__) KX (by decide) (.cons (show ∃ t, _ = Value.int _ t from ⟨_, rfl⟩) .nil) (List.forall_mem_cons.mpr ⟨⟨by decide, fun _ _ _ _ _ _ _ us ws its h1 h2 h3 => match us, ws, its, h1, h2, h3 with | [_, _, _], [], [_], _, _, _ => ⟨_, rfl, rfl⟩⟩, (List.forall_mem_cons.mpr ⟨⟨by decide, fun _ _ _ _ _ _ _ us ws its h1 h2 h3 => match us, ws, its, h1, h2, h3 with | [_, _, _, _], [], [_], _, _, _ => ⟨_, rfl, rfl⟩⟩, (fun _ h => absurd h (by simp))⟩)⟩) ?F0l ?F0t ?F0c ?F0k)
      (Ux.mfn_mk KX (fun _ _ _ _ _ _ us hl => match us, hl with | [_], _ => rfl) ?F1l ?F1c ?F1k)
      (Ux.mfn_mk KX (fun _ _ _ _ _ _ us hl => match us, hl with | [_, _], _ => rfl) ?F2l ?F2c ?F2k)
      (Ux.dfq_mk (dvs := Ux.dvs_Surd_terms) (shs := Ux.shs_Surd_terms) KX (by decide) (.cons (show ∃ t, _ = Value.int _ t from ⟨_, rfl⟩) .nil) (List.forall_mem_cons.mpr ⟨⟨by decide, fun _ _ _ _ _ _ _ us ws its h1 h2 h3 => match us, ws, its, h1, h2, h3 with | [_], [], [_], _, _, _ => ⟨_, rfl, rfl⟩⟩, (List.forall_mem_cons.mpr ⟨⟨by decide, fun _ _ _ _ _ _ _ us ws its h1 h2 h3 => match us, ws, its, h1, h2, h3 with | [_], [_], [_], _, _, _ => ⟨_, rfl, rfl⟩⟩, (List.forall_mem_cons.mpr ⟨⟨by decide, fun _ _ _ _ _ _ _ us ws its h1 h2 h3 => match us, ws, its, h1, h2, h3 with | [_, _], [], [_], _, _, _ => ⟨_, rfl, rfl⟩⟩, (fun _ h => absurd h (by simp))⟩)⟩)⟩) ?F3l ?F3t ?F3c ?F3k)
      (Ux.mfn_mk KX (fun _ _ _ _ _ _ us hl => match us, hl with | [_], _ => rfl) ?F4l ?F4c ?F4k)
      (Ux.mfn_mk KX (fun _ _ _ _ _ _ us hl => match us, hl with | [_, _], _ => rfl) ?F5l ?F5c ?F5k)
      (Ux.mfn_mk KX (fun _ _ _ _ _ _ us hl => match us, hl with | [_], _ => rfl) ?F6l ?F6c ?F6k)
      (Ux.mfn_mk KX (fun _ _ _ _ _ _ us hl => match us, hl with | [_], _ => rfl) ?F7l ?F7c ?F7k)
      ⟨?K0a, ?K0b, ?K0c, ?K0d⟩
      ?N0
      ⟨⟨?S0a, ?S0b, ?S0c, ?S0d⟩, ?S0e, ?S0f, ?S0g, ?S0h⟩
      (if_pos ?J0n)
      (Tq.df_mk KX G (fun _ _ _ _ _ _ us hl => match us, hl with | [_], _ => rfl) ?a0 ?l0 ?c0 ?k0)
      (Tq.df_mk KX G (fun _ _ _ _ _ _ us hl => match us, hl with | [_, _], _ => rfl) ?a1 ?l1 ?c1 ?k1)
      (Tq.df_mk KX G (fun _ _ _ _ _ _ us hl => match us, hl with | [_], _ => rfl) ?a2 ?l2 ?c2 ?k2)
      (Tq.df_mk KX G (fun _ _ _ _ _ _ us hl => match us, hl with | [_, _], _ => rfl) ?a3 ?l3 ?c3 ?k3)
      (Tq.df_mk KX G (fun _ _ _ _ _ _ us hl => match us, hl with | [_], _ => rfl) ?a4 ?l4 ?c4 ?k4)
      (Tq.df_mk KX G (fun _ _ _ _ _ _ us hl => match us, hl with | [_, _, _], _ => rfl) ?a5 ?l5 ?c5 ?k5)
      (Tq.df_mk KX G (fun _ _ _ _ _ _ us hl => match us, hl with | [_], _ => rfl) ?a6 ?l6 ?c6 ?k6)
      (Tq.df_mk KX G (fun _ _ _ _ _ _ us hl => match us, hl with | [_, _], _ => rfl) ?a7 ?l7 ?c7 ?k7)
      (Tq.df_mk KX G (fun _ _ _ _ _ _ us hl => match us, hl with | [_], _ => rfl) ?a8 ?l8 ?c8 ?k8)
      (Tq.df_mk KX G (fun _ _ _ _ _ _ us hl => match us, hl with | [_, _], _ => rfl) ?a9 ?l9 ?c9 ?k9)
      (Tq.df_mk KX G (fun _ _ _ _ _ _ us hl => match us, hl with | [_], _ => rfl) ?a10 ?l10 ?c10 ?k10)
      (Tq.df_mk KX G (fun _ _ _ _ _ _ us hl => match us, hl with | [_], _ => rfl) ?a11 ?l11 ?c11 ?k11)
      (Tq.df_mk KX G (fun _ _ _ _ _ _ us hl => match us, hl with | [_], _ => rfl) ?a12 ?l12 ?c12 ?k12)
      (Tq.df_mk KX G (fun _ _ _ _ _ _ us hl => match us, hl with | [_, _], _ => rfl) ?a13 ?l13 ?c13 ?k13)
      (Tq.df_mk KX G (fun _ _ _ _ _ _ us hl => match us, hl with | [_], _ => rfl) ?a14 ?l14 ?c14 ?k14)
      (Tq.df_mk KX G (fun _ _ _ _ _ _ us hl => match us, hl with | [_, _, _], _ => rfl) ?a15 ?l15 ?c15 ?k15)
      (Tq.df_mk KX G (fun _ _ _ _ _ _ us hl => match us, hl with | [_, _, _, _, _], _ => rfl) ?a16 ?l16 ?c16 ?k16)
      (Tq.df_mk KX G (fun _ _ _ _ _ _ us hl => match us, hl with | [_, _], _ => rfl) ?a17 ?l17 ?c17 ?k17)
      (Tq.df_mk KX G (fun _ _ _ _ _ _ us hl => match us, hl with | [_, _, _], _ => rfl) ?a18 ?l18 ?c18 ?k18)
      (Tq.df_mk KX G (fun _ _ _ _ _ _ us hl => match us, hl with | [_, _], _ => rfl) ?a19 ?l19 ?c19 ?k19)
      (Tq.df_mk KX G (fun _ _ _ _ _ _ us hl => match us, hl with | [_, _, _], _ => rfl) ?a20 ?l20 ?c20 ?k20)
      (Tq.df_mk KX G (fun _ _ _ _ _ _ us hl => match us, hl with | [_, _], _ => rfl) ?a21 ?l21 ?c21 ?k21)
      (Tq.df_mk KX G (fun _ _ _ _ _ _ us hl => match us, hl with | [_, _, _], _ => rfl) ?a22 ?l22 ?c22 ?k22)
      (PySem.W.mg_none_of KX G ?z0)
      (PySem.W.mg_none_of KX G ?z1)
      (PySem.W.mg_none_of KX G ?z2)
      (PySem.W.mg_none_of KX G ?z3)
      (PySem.W.mg_none_of KX G ?z4)
      (PySem.W.mg_none_of KX G ?z5)
      (PySem.W.mg_none_of KX G ?z6)
      (PySem.W.mg_none_of KX G ?z7)
      (PySem.W.mg_none_of KX G ?z8)
      (PySem.W.mg_none_of KX G ?z9)
      (PySem.W.mg_none_of KX G ?z10)
      (PySem.W.mg_none_of KX G ?z11)
      (PySem.W.mg_none_of KX G ?z12)
      (PySem.W.mg_of KX G ?y0)) (fun _ _ _ _ _ _ _ _ => .of_eq rfl) ?a ?l ?c ?k
    (case xa => first | k_is | decide +kernel | rfl | exact ⟨[_], rfl⟩); (case xr => first | k_is | decide +kernel | rfl | exact ⟨[_], rfl⟩); (case xg => first | k_is | decide +kernel | rfl | exact ⟨[_], rfl⟩); (case xv => first | k_is | decide +kernel | rfl | exact ⟨[_], rfl⟩); (case X0aC => first | k_is | decide +kernel | rfl | exact ⟨[_], rfl⟩); (case X0xL => first | k_is | decide +kernel | rfl | exact ⟨[_], rfl⟩); (case X0vb => first | k_is | decide +kernel | rfl | exact ⟨[_], rfl⟩); (case X0sa => first | k_is | decide +kernel | rfl | exact ⟨[_], rfl⟩)
    (case X0ga => first | k_is | decide +kernel | rfl | exact ⟨[_], rfl⟩); (case X0gg => first | k_is | decide +kernel | rfl | exact ⟨[_], rfl⟩); (case X0nb => first | k_is | decide +kernel | rfl | exact ⟨[_], rfl⟩); (case X0a1 => first | k_is | decide +kernel | rfl | exact ⟨[_], rfl⟩); (case X0t1 => first | k_is | decide +kernel | rfl | exact ⟨[_], rfl⟩); (case X0l => first | k_is | decide +kernel | rfl | exact ⟨[_], rfl⟩); (case X0c => first | k_is | decide +kernel | rfl | exact ⟨[_], rfl⟩); (case X0k => first | k_is | decide +kernel | rfl | exact ⟨[_], rfl⟩)
    (case X0kC => first | k_is | decide +kernel | rfl | exact ⟨[_], rfl⟩); (case X0eC => first | k_is | decide +kernel | rfl | exact ⟨[_], rfl⟩); (case X0tC => first | k_is | decide +kernel | rfl | exact ⟨[_], rfl⟩); (case X0hC => first | k_is | decide +kernel | rfl | exact ⟨[_], rfl⟩); (case E0b => first | k_is | decide +kernel | rfl | exact ⟨[_], rfl⟩); (case E0t => first | k_is | decide +kernel | rfl | exact ⟨[_], rfl⟩); (case E0c => first | k_is | decide +kernel | rfl | exact ⟨[_], rfl⟩); (case E0s => first | k_is | decide +kernel | rfl | exact ⟨[_], rfl⟩)
    (case G0 => first | k_is | decide +kernel | rfl | exact ⟨[_], rfl⟩); (case L0a => first | k_is | decide +kernel | rfl | exact ⟨[_], rfl⟩); (case L0b => first | k_is | decide +kernel | rfl | exact ⟨[_], rfl⟩); (case L0c => first | k_is | decide +kernel | rfl | exact ⟨[_], rfl⟩); (case L0d => first | k_is | decide +kernel | rfl | exact ⟨[_], rfl⟩); (case V0a => first | k_is | decide +kernel | rfl | exact ⟨[_], rfl⟩); (case V0b => first | k_is | decide +kernel | rfl | exact ⟨[_], rfl⟩); (case V0c => first | k_is | decide +kernel | rfl | exact ⟨[_], rfl⟩)
    (case V1a => first | k_is | decide +kernel | rfl | exact ⟨[_], rfl⟩); (case V1b => first | k_is | decide +kernel | rfl | exact ⟨[_], rfl⟩); (case V1c => first | k_is | decide +kernel | rfl | exact ⟨[_], rfl⟩); (case V2a => first | k_is | decide +kernel | rfl | exact ⟨[_], rfl⟩); (case V2b => first | k_is | decide +kernel | rfl | exact ⟨[_], rfl⟩); (case V2c => first | k_is | decide +kernel | rfl | exact ⟨[_], rfl⟩); (case V3a => first | k_is | decide +kernel | rfl | exact ⟨[_], rfl⟩); (case V3b => first | k_is | decide +kernel | rfl | exact ⟨[_], rfl⟩)
    (case V3c => first | k_is | decide +kernel | rfl | exact ⟨[_], rfl⟩); (case V4a => first | k_is | decide +kernel | rfl | exact ⟨[_], rfl⟩); (case V4b => first | k_is | decide +kernel | rfl | exact ⟨[_], rfl⟩); (case V4c => first | k_is | decide +kernel | rfl | exact ⟨[_], rfl⟩); (case V5a => first | k_is | decide +kernel | rfl | exact ⟨[_], rfl⟩); (case V5b => first | k_is | decide +kernel | rfl | exact ⟨[_], rfl⟩); (case V5c => first | k_is | decide +kernel | rfl | exact ⟨[_], rfl⟩); (case V6a => first | k_is | decide +kernel | rfl | exact ⟨[_], rfl⟩)
    (case V6b => first | k_is | decide +kernel | rfl | exact ⟨[_], rfl⟩); (case V6c => first | k_is | decide +kernel | rfl | exact ⟨[_], rfl⟩); (case K0a => first | k_is | decide +kernel | rfl | exact ⟨[_], rfl⟩); (case K0b => first | k_is | decide +kernel | rfl | exact ⟨[_], rfl⟩); (case K0c => first | k_is | decide +kernel | rfl | exact ⟨[_], rfl⟩); (case K0d => first | k_is | decide +kernel | rfl | exact ⟨[_], rfl⟩); (case F0l => first | k_is | decide +kernel | rfl | exact ⟨[_], rfl⟩); (case F0t => first | k_is | decide +kernel | rfl | exact ⟨[_], rfl⟩)
    (case F0c => first | k_is | decide +kernel | rfl | exact ⟨[_], rfl⟩); (case F0k => first | k_is | decide +kernel | rfl | exact ⟨[_], rfl⟩); (case F1l => first | k_is | decide +kernel | rfl | exact ⟨[_], rfl⟩); (case F1c => first | k_is | decide +kernel | rfl | exact ⟨[_], rfl⟩); (case F1k => first | k_is | decide +kernel | rfl | exact ⟨[_], rfl⟩); (case F2l => first | k_is | decide +kernel | rfl | exact ⟨[_], rfl⟩); (case F2c => first | k_is | decide +kernel | rfl | exact ⟨[_], rfl⟩); (case F2k => first | k_is | decide +kernel | rfl | exact ⟨[_], rfl⟩)
    (case F3l => first | k_is | decide +kernel | rfl | exact ⟨[_], rfl⟩); (case F3t => first | k_is | decide +kernel | rfl | exact ⟨[_], rfl⟩); (case F3c => first | k_is | decide +kernel | rfl | exact ⟨[_], rfl⟩); (case F3k => first | k_is | decide +kernel | rfl | exact ⟨[_], rfl⟩); (case F4l => first | k_is | decide +kernel | rfl | exact ⟨[_], rfl⟩); (case F4c => first | k_is | decide +kernel | rfl | exact ⟨[_], rfl⟩); (case F4k => first | k_is | decide +kernel | rfl | exact ⟨[_], rfl⟩); (case F5l => first | k_is | decide +kernel | rfl | exact ⟨[_], rfl⟩)
    (case F5c => first | k_is | decide +kernel | rfl | exact ⟨[_], rfl⟩); (case F5k => first | k_is | decide +kernel | rfl | exact ⟨[_], rfl⟩); (case F6l => first | k_is | decide +kernel | rfl | exact ⟨[_], rfl⟩); (case F6c => first | k_is | decide +kernel | rfl | exact ⟨[_], rfl⟩); (case F6k => first | k_is | decide +kernel | rfl | exact ⟨[_], rfl⟩); (case F7l => first | k_is | decide +kernel | rfl | exact ⟨[_], rfl⟩); (case F7c => first | k_is | decide +kernel | rfl | exact ⟨[_], rfl⟩); (case F7k => first | k_is | decide +kernel | rfl | exact ⟨[_], rfl⟩)
    (case N0 => first | k_is | decide +kernel | rfl | exact ⟨[_], rfl⟩); (case S0a => first | k_is | decide +kernel | rfl | exact ⟨[_], rfl⟩); (case S0b => first | k_is | decide +kernel | rfl | exact ⟨[_], rfl⟩); (case S0c => first | k_is | decide +kernel | rfl | exact ⟨[_], rfl⟩); (case S0d => first | k_is | decide +kernel | rfl | exact ⟨[_], rfl⟩); (case S0e => first | k_is | decide +kernel | rfl | exact ⟨[_], rfl⟩); (case S0f => first | k_is | decide +kernel | rfl | exact ⟨[_], rfl⟩); (case S0g => first | k_is | decide +kernel | rfl | exact ⟨[_], rfl⟩)
    (case S0h => first | k_is | decide +kernel | rfl | exact ⟨[_], rfl⟩); (case J0n => first | k_is | decide +kernel | rfl | exact ⟨[_], rfl⟩); (case a0 => first | k_is | decide +kernel | rfl | exact ⟨[_], rfl⟩); (case l0 => first | k_is | decide +kernel | rfl | exact ⟨[_], rfl⟩); (case c0 => first | k_is | decide +kernel | rfl | exact ⟨[_], rfl⟩); (case k0 => first | k_is | decide +kernel | rfl | exact ⟨[_], rfl⟩); (case a1 => first | k_is | decide +kernel | rfl | exact ⟨[_], rfl⟩); (case l1 => first | k_is | decide +kernel | rfl | exact ⟨[_], rfl⟩)
    (case c1 => first | k_is | decide +kernel | rfl | exact ⟨[_], rfl⟩); (case k1 => first | k_is | decide +kernel | rfl | exact ⟨[_], rfl⟩); (case a2 => first | k_is | decide +kernel | rfl | exact ⟨[_], rfl⟩); (case l2 => first | k_is | decide +kernel | rfl | exact ⟨[_], rfl⟩); (case c2 => first | k_is | decide +kernel | rfl | exact ⟨[_], rfl⟩); (case k2 => first | k_is | decide +kernel | rfl | exact ⟨[_], rfl⟩); (case a3 => first | k_is | decide +kernel | rfl | exact ⟨[_], rfl⟩); (case l3 => first | k_is | decide +kernel | rfl | exact ⟨[_], rfl⟩)
    (case c3 => first | k_is | decide +kernel | rfl | exact ⟨[_], rfl⟩); (case k3 => first | k_is | decide +kernel | rfl | exact ⟨[_], rfl⟩); (case a4 => first | k_is | decide +kernel | rfl | exact ⟨[_], rfl⟩); (case l4 => first | k_is | decide +kernel | rfl | exact ⟨[_], rfl⟩); (case c4 => first | k_is | decide +kernel | rfl | exact ⟨[_], rfl⟩); (case k4 => first | k_is | decide +kernel | rfl | exact ⟨[_], rfl⟩); (case a5 => first | k_is | decide +kernel | rfl | exact ⟨[_], rfl⟩); (case l5 => first | k_is | decide +kernel | rfl | exact ⟨[_], rfl⟩)
    (case c5 => first | k_is | decide +kernel | rfl | exact ⟨[_], rfl⟩); (case k5 => first | k_is | decide +kernel | rfl | exact ⟨[_], rfl⟩); (case a6 => first | k_is | decide +kernel | rfl | exact ⟨[_], rfl⟩); (case l6 => first | k_is | decide +kernel | rfl | exact ⟨[_], rfl⟩); (case c6 => first | k_is | decide +kernel | rfl | exact ⟨[_], rfl⟩); (case k6 => first | k_is | decide +kernel | rfl | exact ⟨[_], rfl⟩); (case a7 => first | k_is | decide +kernel | rfl | exact ⟨[_], rfl⟩); (case l7 => first | k_is | decide +kernel | rfl | exact ⟨[_], rfl⟩)
    (case c7 => first | k_is | decide +kernel | rfl | exact ⟨[_], rfl⟩); (case k7 => first | k_is | decide +kernel | rfl | exact ⟨[_], rfl⟩); (case a8 => first | k_is | decide +kernel | rfl | exact ⟨[_], rfl⟩); (case l8 => first | k_is | decide +kernel | rfl | exact ⟨[_], rfl⟩); (case c8 => first | k_is | decide +kernel | rfl | exact ⟨[_], rfl⟩); (case k8 => first | k_is | decide +kernel | rfl | exact ⟨[_], rfl⟩); (case a9 => first | k_is | decide +kernel | rfl | exact ⟨[_], rfl⟩); (case l9 => first | k_is | decide +kernel | rfl | exact ⟨[_], rfl⟩)
    (case c9 => first | k_is | decide +kernel | rfl | exact ⟨[_], rfl⟩); (case k9 => first | k_is | decide +kernel | rfl | exact ⟨[_], rfl⟩); (case a10 => first | k_is | decide +kernel | rfl | exact ⟨[_], rfl⟩); (case l10 => first | k_is | decide +kernel | rfl | exact ⟨[_], rfl⟩); (case c10 => first | k_is | decide +kernel | rfl | exact ⟨[_], rfl⟩); (case k10 => first | k_is | decide +kernel | rfl | exact ⟨[_], rfl⟩); (case a11 => first | k_is | decide +kernel | rfl | exact ⟨[_], rfl⟩); (case l11 => first | k_is | decide +kernel | rfl | exact ⟨[_], rfl⟩)
    (case c11 => first | k_is | decide +kernel | rfl | exact ⟨[_], rfl⟩); (case k11 => first | k_is | decide +kernel | rfl | exact ⟨[_], rfl⟩); (case a12 => first | k_is | decide +kernel | rfl | exact ⟨[_], rfl⟩); (case l12 => first | k_is | decide +kernel | rfl | exact ⟨[_], rfl⟩); (case c12 => first | k_is | decide +kernel | rfl | exact ⟨[_], rfl⟩); (case k12 => first | k_is | decide +kernel | rfl | exact ⟨[_], rfl⟩); (case a13 => first | k_is | decide +kernel | rfl | exact ⟨[_], rfl⟩); (case l13 => first | k_is | decide +kernel | rfl | exact ⟨[_], rfl⟩)
    (case c13 => first | k_is | decide +kernel | rfl | exact ⟨[_], rfl⟩); (case k13 => first | k_is | decide +kernel | rfl | exact ⟨[_], rfl⟩); (case a14 => first | k_is | decide +kernel | rfl | exact ⟨[_], rfl⟩); (case l14 => first | k_is | decide +kernel | rfl | exact ⟨[_], rfl⟩); (case c14 => first | k_is | decide +kernel | rfl | exact ⟨[_], rfl⟩); (case k14 => first | k_is | decide +kernel | rfl | exact ⟨[_], rfl⟩); (case a15 => first | k_is | decide +kernel | rfl | exact ⟨[_], rfl⟩); (case l15 => first | k_is | decide +kernel | rfl | exact ⟨[_], rfl⟩)
    (case c15 => first | k_is | decide +kernel | rfl | exact ⟨[_], rfl⟩); (case k15 => first | k_is | decide +kernel | rfl | exact ⟨[_], rfl⟩); (case a16 => first | k_is | decide +kernel | rfl | exact ⟨[_], rfl⟩); (case l16 => first | k_is | decide +kernel | rfl | exact ⟨[_], rfl⟩); (case c16 => first | k_is | decide +kernel | rfl | exact ⟨[_], rfl⟩); (case k16 => first | k_is | decide +kernel | rfl | exact ⟨[_], rfl⟩); (case a17 => first | k_is | decide +kernel | rfl | exact ⟨[_], rfl⟩); (case l17 => first | k_is | decide +kernel | rfl | exact ⟨[_], rfl⟩)
    (case c17 => first | k_is | decide +kernel | rfl | exact ⟨[_], rfl⟩); (case k17 => first | k_is | decide +kernel | rfl | exact ⟨[_], rfl⟩); (case a18 => first | k_is | decide +kernel | rfl | exact ⟨[_], rfl⟩); (case l18 => first | k_is | decide +kernel | rfl | exact ⟨[_], rfl⟩); (case c18 => first | k_is | decide +kernel | rfl | exact ⟨[_], rfl⟩); (case k18 => first | k_is | decide +kernel | rfl | exact ⟨[_], rfl⟩); (case a19 => first | k_is | decide +kernel | rfl | exact ⟨[_], rfl⟩); (case l19 => first | k_is | decide +kernel | rfl | exact ⟨[_], rfl⟩)
    (case c19 => first | k_is | decide +kernel | rfl | exact ⟨[_], rfl⟩); (case k19 => first | k_is | decide +kernel | rfl | exact ⟨[_], rfl⟩); (case a20 => first | k_is | decide +kernel | rfl | exact ⟨[_], rfl⟩); (case l20 => first | k_is | decide +kernel | rfl | exact ⟨[_], rfl⟩); (case c20 => first | k_is | decide +kernel | rfl | exact ⟨[_], rfl⟩); (case k20 => first | k_is | decide +kernel | rfl | exact ⟨[_], rfl⟩); (case a21 => first | k_is | decide +kernel | rfl | exact ⟨[_], rfl⟩); (case l21 => first | k_is | decide +kernel | rfl | exact ⟨[_], rfl⟩)
    (case c21 => first | k_is | decide +kernel | rfl | exact ⟨[_], rfl⟩); (case k21 => first | k_is | decide +kernel | rfl | exact ⟨[_], rfl⟩); (case a22 => first | k_is | decide +kernel | rfl | exact ⟨[_], rfl⟩); (case l22 => first | k_is | decide +kernel | rfl | exact ⟨[_], rfl⟩); (case c22 => first | k_is | decide +kernel | rfl | exact ⟨[_], rfl⟩); (case k22 => first | k_is | decide +kernel | rfl | exact ⟨[_], rfl⟩); (case z0 => first | k_is | decide +kernel | rfl | exact ⟨[_], rfl⟩); (case z1 => first | k_is | decide +kernel | rfl | exact ⟨[_], rfl⟩)
    (case z2 => first | k_is | decide +kernel | rfl | exact ⟨[_], rfl⟩); (case z3 => first | k_is | decide +kernel | rfl | exact ⟨[_], rfl⟩); (case z4 => first | k_is | decide +kernel | rfl | exact ⟨[_], rfl⟩); (case z5 => first | k_is | decide +kernel | rfl | exact ⟨[_], rfl⟩); (case z6 => first | k_is | decide +kernel | rfl | exact ⟨[_], rfl⟩); (case z7 => first | k_is | decide +kernel | rfl | exact ⟨[_], rfl⟩); (case z8 => first | k_is | decide +kernel | rfl | exact ⟨[_], rfl⟩); (case z9 => first | k_is | decide +kernel | rfl | exact ⟨[_], rfl⟩)
    (case z10 => first | k_is | decide +kernel | rfl | exact ⟨[_], rfl⟩); (case z11 => first | k_is | decide +kernel | rfl | exact ⟨[_], rfl⟩); (case z12 => first | k_is | decide +kernel | rfl | exact ⟨[_], rfl⟩); (case y0 => first | k_is | decide +kernel | rfl | exact ⟨[_], rfl⟩); (case a => first | k_is | decide +kernel | rfl | exact ⟨[_], rfl⟩); (case l => first | k_is | decide +kernel | rfl | exact ⟨[_], rfl⟩); (case c => first | k_is | decide +kernel | rfl | exact ⟨[_], rfl⟩); (case k => first | k_is | decide +kernel | rfl | exact ⟨[_], rfl⟩))


