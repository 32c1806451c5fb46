import PyProof.Rows.All
import Wide.All
import OpenK.AllK
import Wide.FinOn
import KE.KStateDown
import HandS.ForMost
import HandS.Defaults
import HandS.IsInst
import HandS.Wide
import HandS.SortInts
import HandS.Zip
import HandS.Style
import HandS.TupAny
import HandS.Star
import HandS.Conv
import KE.GoesMore
import HandS.Head0
import HandS.Head1
import HandS.Head2
import HandS.HeadEnd
import HandS.HeadHook1
import HandS.HeadHook2
import PySem.Challenge.RW_neveroftener_k06_whole_draws_of_draws
set_option Elab.async false
set_option linter.all false
set_option maxRecDepth 100000
/-! Plain values of a program as data, how they stand in the abstract heap, and what an environment of names says. -/
namespace MP
open PySem PySem.Spec PyProof.Rows L2

/-! ### data without a list or dict within -/
mutual
def imm : PyData → Bool
  | .none => true
  | .bool _ => true
  | .int _ => true
  | .str _ => true
  | .list _ => false
  | .tuple ds => immL ds
  | .dict _ => false
def immL : List PyData → Bool
  | [] => true
  | d :: ds => imm d && immL ds
end
theorem immL_cons {d : PyData} {ds : List PyData} : immL (d :: ds) = true ↔ imm d = true ∧ immL ds = true := by
  rw [immL, Bool.and_eq_true]
theorem immL_mem : ∀ {ds : List PyData} {d : PyData}, immL ds = true → d ∈ ds → imm d = true
  | e :: ds, d, h, hm => by
    obtain ⟨h1, h2⟩ := immL_cons.mp h
    rcases List.mem_cons.mp hm with rfl | hm
    · exact h1
    · exact immL_mem h2 hm
theorem immL_of : ∀ {ds : List PyData}, (∀ d ∈ ds, imm d = true) → immL ds = true
  | [], _ => rfl
  | d :: ds, h => immL_cons.mpr ⟨h d List.mem_cons_self, immL_of fun e he => h e (List.mem_cons_of_mem _ he)⟩

/-! ### heaps -/
def isL : HO → Bool
  | .lst _ => true
  | _ => false
/-- all that is no list stands -/
def Keep (H H' : Hp) : Prop := ∀ a o, H a = some o → isL o = false → H' a = some o
/-- all stands but the lists at S -/
def Frm (S : Addr → Prop) (H H' : Hp) : Prop := ∀ a o, H a = some o → (isL o = true → ¬ S a) → H' a = some o
/-- all stands -/
def Ext (H H' : Hp) : Prop := ∀ a o, H a = some o → H' a = some o
/-- all that is no list stands, and the lists at F -/
def Fx (F : List Addr) (H H' : Hp) : Prop := Keep H H' ∧ ∀ a ∈ F, ∀ xs, H a = some (.lst xs) → H' a = some (.lst xs)
theorem Ext.refl {H : Hp} : Ext H H := fun _ _ e => e
theorem Ext.trans {H H1 H2 : Hp} (a : Ext H H1) (b : Ext H1 H2) : Ext H H2 := fun x o e => b x o (a x o e)
theorem Ext.frm {S : Addr → Prop} {H H' : Hp} (x : Ext H H') : Frm S H H' := fun a o e _ => x a o e
theorem Ext.fx {F : List Addr} {H H' : Hp} (x : Ext H H') : Fx F H H' := ⟨fun a o e _ => x a o e, fun a _ xs e => x a _ e⟩
theorem Ext.new {H : Hp} {p : Addr} {o : HO} (hp : H p = none) : Ext H (upd H p o) := fun a u e => by rw [upd_ne (ne_of_none e hp)]; exact e
theorem Fx.refl {F : List Addr} {H : Hp} : Fx F H H := Ext.refl.fx
theorem Fx.trans {F : List Addr} {H H1 H2 : Hp} (a : Fx F H H1) (b : Fx F H1 H2) : Fx F H H2 :=
  ⟨fun x o e n => b.1 x o (a.1 x o e n) n, fun x hx xs e => b.2 x hx xs (a.2 x hx xs e)⟩
theorem Fx.sub {F G : List Addr} {H H' : Hp} (x : Fx G H H') (h : ∀ a ∈ F, a ∈ G) : Fx F H H' := ⟨x.1, fun a ha => x.2 a (h a ha)⟩
theorem Frm.refl {S : Addr → Prop} {H : Hp} : Frm S H H := fun _ _ e _ => e
theorem Frm.keep {S : Addr → Prop} {H H' : Hp} (x : Frm S H H') : Keep H H' := fun a o e n => x a o e fun z => by rw [n] at z; cases z
theorem Frm.fx {S : Addr → Prop} {F : List Addr} {H H' : Hp} (x : Frm S H H') (h : ∀ a ∈ F, ¬ S a) : Fx F H H' := ⟨x.keep, fun a ha xs e => x a _ e fun _ => h a ha⟩
theorem Frm.trans {S S' : Addr → Prop} {H H1 H2 : Hp} (x : Frm S H H1) (y : Frm S' H1 H2) (h : ∀ a o, H a = some o → S' a → S a) : Frm S H H2 := fun a o e n =>
  y a o (x a o e n) fun z q => n z (h a o e q)
theorem Frm.mono {S S' : Addr → Prop} {H H' : Hp} (x : Frm S H H') (h : ∀ a o, H a = some o → S a → S' a) : Frm S' H H' := fun a o e n => x a o e fun z q => n z (h a o e q)
theorem Frm.ext {S : Addr → Prop} {H H1 H2 : Hp} (x : Frm S H H1) (y : Ext H1 H2) : Frm S H H2 := fun a o e n => y a o (x a o e n)

/-! ### data in the heap; the last list: the addresses of its lists -/
/-- a list that is never written: locked, or of the module -/
def Still (K : PySem.W.Frag) (H : Hp) (a : Addr) (vs : List V) : Prop :=
  (∃ o, H a = some (.frz o (.lst vs))) ∨
    ∃ (o : Obj) (its : Array Value) (n : Nat), K.lookup a = some o ∧ o.cls = .type "list" ∧ o.dict = none ∧ o.data = .seq its n ∧ its.size ≤ sizeLine ∧ Vals vs its.toList
theorem Still.sq {K : PySem.W.Frag} {H : Hp} {a : Addr} {vs : List V} (h : Still K H a vs) : SqL K H a vs := by
  rcases h with h | h
  · exact .inl (.inr h)
  · exact .inr h
/-- a tuple: tracked, or of the module -/
def TpT (K : PySem.W.Frag) (H : Hp) (a : Addr) (vs : List V) : Prop :=
  H a = some (.tup vs) ∨
    ∃ (o : Obj) (its : Array Value) (n : Nat), K.lookup a = some o ∧ o.cls = .type "tuple" ∧ o.data = .seq its n ∧ its.size ≤ sizeLine ∧ Vals vs its.toList
theorem TpT.sq {K : PySem.W.Frag} {H : Hp} {a : Addr} {vs : List V} (h : TpT K H a vs) : SqT K H a vs := by
  rcases h with h | h
  · exact .inl (.inl h)
  · exact .inr h
mutual
inductive Rp (K : PySem.W.Frag) (t : Bool) (H : Hp) : V → PyData → List Addr → Prop
  | non : Rp K t H .non .none []
  | bl (b : Bool) : Rp K t H (.bl b) (.bool b) []
  | int (i : Int) : Rp K t H (.int i) (.int i) []
  | str (x : Str) : Rp K t H (.str x) (.str x) []
  | tup {a : Addr} {vs : List V} {ds : List PyData} {F : List Addr} : TpT K H a vs → RpL K t H vs ds F → Rp K t H (.ref a) (.tuple ds) F
  | lst {a : Addr} {vs : List V} {ds : List PyData} {F : List Addr} : H a = some (.lst vs) → RpL K t H vs ds F → Rp K t H (.ref a) (.list ds) (a :: F)
  | lstR {a : Addr} {vs : List V} {ds : List PyData} {F : List Addr} : t = false → Still K H a vs → RpL K t H vs ds F → Rp K t H (.ref a) (.list ds) F
inductive RpL (K : PySem.W.Frag) (t : Bool) (H : Hp) : List V → List PyData → List Addr → Prop
  | nil : RpL K t H [] [] []
  | cons {v : V} {d : PyData} {F : List Addr} {vs : List V} {ds : List PyData} {G : List Addr} : Rp K t H v d F → RpL K t H vs ds G → RpL K t H (v :: vs) (d :: ds) (F ++ G)
end
section
variable {K : PySem.W.Frag} {H H' : Hp}
theorem TpT.keep {a : Addr} {vs : List V} (h : TpT K H a vs) (k : Keep H H') : TpT K H' a vs := by
  rcases h with h | h
  · exact .inl (k a _ h rfl)
  · exact .inr h
theorem Still.keep {a : Addr} {vs : List V} (h : Still K H a vs) (k : Keep H H') : Still K H' a vs := by
  rcases h with ⟨o, h⟩ | h
  · exact .inl ⟨o, k a _ h rfl⟩
  · exact .inr h
mutual
theorem Rp.fx : ∀ {t : Bool} (d : PyData) {v : V} {F : List Addr}, Rp K t H v d F → Fx F H H' → Rp K t H' v d F
  | t, .none, _, _, h, k => by cases h; exact .non
  | t, .bool _, _, _, h, k => by cases h; exact .bl _
  | t, .int _, _, _, h, k => by cases h; exact .int _
  | t, .str _, _, _, h, k => by cases h; exact .str _
  | t, .tuple ds, _, _, h, k => by
    cases h with
    | tup hs ha => exact .tup (hs.keep k.1) (RpL.fx ds ha k)
  | t, .list ds, _, _, h, k => by
    cases h with
    | lst hs ha => exact .lst (k.2 _ List.mem_cons_self _ hs) (RpL.fx ds ha (k.sub fun a m => List.mem_cons_of_mem _ m))
    | lstR ht hs ha => exact .lstR ht (hs.keep k.1) (RpL.fx ds ha k)
  | t, .dict _, _, _, h, k => by cases h
theorem RpL.fx : ∀ {t : Bool} (ds : List PyData) {vs : List V} {F : List Addr}, RpL K t H vs ds F → Fx F H H' → RpL K t H' vs ds F
  | t, [], _, _, h, k => by cases h; exact .nil
  | t, d :: ds, _, _, h, k => by
    cases h with
    | cons h1 h2 => exact .cons (Rp.fx d h1 (k.sub fun a m => List.mem_append_left _ m)) (RpL.fx ds h2 (k.sub fun a m => List.mem_append_right _ m))
end
mutual
theorem Rp.imm : ∀ {t : Bool} (t' : Bool) (d : PyData) {v : V} {F : List Addr}, Rp K t H v d F → MP.imm d = true → F = [] ∧ Rp K t' H v d []
  | t, t', .none, _, _, h, k => by cases h; exact ⟨rfl, .non⟩
  | t, t', .bool _, _, _, h, k => by cases h; exact ⟨rfl, .bl _⟩
  | t, t', .int _, _, _, h, k => by cases h; exact ⟨rfl, .int _⟩
  | t, t', .str _, _, _, h, k => by cases h; exact ⟨rfl, .str _⟩
  | t, t', .tuple ds, _, _, h, k => by
    cases h with
    | tup hs ha =>
      obtain ⟨e, r⟩ := RpL.imm t' ds ha (by simpa [MP.imm] using k)
      exact ⟨e, .tup hs r⟩
  | t, t', .list ds, _, _, h, k => by simp [MP.imm] at k
  | t, t', .dict _, _, _, h, k => by cases h
theorem RpL.imm : ∀ {t : Bool} (t' : Bool) (ds : List PyData) {vs : List V} {F : List Addr}, RpL K t H vs ds F → MP.immL ds = true → F = [] ∧ RpL K t' H vs ds []
  | t, t', [], _, _, h, k => by cases h; exact ⟨rfl, .nil⟩
  | t, t', d :: ds, _, _, h, k => by
    cases h with
    | cons h1 h2 =>
      obtain ⟨k1, k2⟩ := immL_cons.mp k
      obtain ⟨e1, r1⟩ := Rp.imm t' d h1 k1
      obtain ⟨e2, r2⟩ := RpL.imm t' ds h2 k2
      exact ⟨by rw [e1, e2, List.append_nil], .cons r1 r2⟩
end
mutual
theorem Rp.weak : ∀ {t : Bool} (d : PyData) {v : V} {F : List Addr}, Rp K t H v d F → Rp K false H v d F
  | t, .none, _, _, h => by cases h; exact .non
  | t, .bool _, _, _, h => by cases h; exact .bl _
  | t, .int _, _, _, h => by cases h; exact .int _
  | t, .str _, _, _, h => by cases h; exact .str _
  | t, .tuple ds, _, _, h => by
    cases h with
    | tup hs ha => exact .tup hs (RpL.weak ds ha)
  | t, .list ds, _, _, h => by
    cases h with
    | lst hs ha => exact .lst hs (RpL.weak ds ha)
    | lstR ht hs ha => exact .lstR rfl hs (RpL.weak ds ha)
  | t, .dict _, _, _, h => by cases h
theorem RpL.weak : ∀ {t : Bool} (ds : List PyData) {vs : List V} {F : List Addr}, RpL K t H vs ds F → RpL K false H vs ds F
  | t, [], _, _, h => by cases h; exact .nil
  | t, d :: ds, _, _, h => by
    cases h with
    | cons h1 h2 => exact .cons (Rp.weak d h1) (RpL.weak ds h2)
end
theorem Rp.to {t t' : Bool} {d : PyData} {v : V} {F : List Addr} (h : Rp K t H v d F) (ht : t' = true → t = true) : Rp K t' H v d F := by
  cases t' with
  | false => exact Rp.weak d h
  | true => rw [ht rfl] at h; exact h
theorem RpL.to {t t' : Bool} {ds : List PyData} {vs : List V} {F : List Addr} (h : RpL K t H vs ds F) (ht : t' = true → t = true) : RpL K t' H vs ds F := by
  cases t' with
  | false => exact RpL.weak ds h
  | true => rw [ht rfl] at h; exact h
mutual
/-- the addresses are of lists that stand -/
theorem Rp.at : ∀ {t : Bool} (d : PyData) {v : V} {F : List Addr}, Rp K t H v d F → ∀ a ∈ F, ∃ xs, H a = some (.lst xs)
  | t, .none, _, _, h => by cases h; exact fun a m => nomatch m
  | t, .bool _, _, _, h => by cases h; exact fun a m => nomatch m
  | t, .int _, _, _, h => by cases h; exact fun a m => nomatch m
  | t, .str _, _, _, h => by cases h; exact fun a m => nomatch m
  | t, .tuple ds, _, _, h => by
    cases h with
    | tup hs ha => exact RpL.at ds ha
  | t, .list ds, _, _, h => by
    cases h with
    | lst hs ha =>
      intro a m
      rcases List.mem_cons.mp m with rfl | m
      · exact ⟨_, hs⟩
      · exact RpL.at ds ha a m
    | lstR ht hs ha => exact RpL.at ds ha
  | t, .dict _, _, _, h => by cases h
theorem RpL.at : ∀ {t : Bool} (ds : List PyData) {vs : List V} {F : List Addr}, RpL K t H vs ds F → ∀ a ∈ F, ∃ xs, H a = some (.lst xs)
  | t, [], _, _, h => by cases h; exact fun a m => nomatch m
  | t, d :: ds, _, _, h => by
    cases h with
    | cons h1 h2 =>
      intro a m
      rcases List.mem_append.mp m with m | m
      · exact Rp.at d h1 a m
      · exact RpL.at ds h2 a m
end
theorem RpL.len : ∀ {t : Bool} {ds : List PyData} {vs : List V} {F : List Addr}, RpL K t H vs ds F → vs.length = ds.length
  | _, [], _, _, .nil => rfl
  | _, _ :: _, _, _, .cons _ h => by rw [List.length_cons, List.length_cons, RpL.len h]
theorem RpL.get : ∀ {t : Bool} {ds : List PyData} {vs : List V} {F : List Addr} {i : Nat} {d : PyData}, RpL K t H vs ds F → ds[i]? = some d → ∃ v G, vs[i]? = some v ∧ Rp K t H v d G ∧ ∀ a ∈ G, a ∈ F
  | _, _ :: _, _, _, 0, d, .cons h1 _, e => by
    have e1 := Option.some.inj (show some _ = some d from e)
    subst e1
    exact ⟨_, _, rfl, h1, fun a m => List.mem_append_left _ m⟩
  | _, _ :: _, _, _, i + 1, d, .cons _ h2, e => by
    obtain ⟨v, G, e1, r, s⟩ := RpL.get (i := i) h2 (by simpa using e)
    exact ⟨v, G, by simpa using e1, r, fun a m => List.mem_append_right _ (s a m)⟩
theorem RpL.append : ∀ {t : Bool} {ds es : List PyData} {vs ws : List V} {F G : List Addr}, RpL K t H vs ds F → RpL K t H ws es G → RpL K t H (vs ++ ws) (ds ++ es) (F ++ G)
  | _, [], _, _, _, _, _, .nil, s => s
  | _, _ :: _, _, _, _, _, _, .cons r h, s => by rw [List.append_assoc]; exact .cons r (RpL.append h s)
theorem RpL.take : ∀ {t : Bool} {ds : List PyData} {vs : List V} {F : List Addr} (n : Nat), RpL K t H vs ds F → ∃ G, RpL K t H (vs.take n) (ds.take n) G ∧ ∀ a ∈ G, a ∈ F
  | _, _, _, _, 0, _ => ⟨[], .nil, fun _ m => nomatch m⟩
  | _, [], _, _, n + 1, .nil => ⟨[], .nil, fun _ m => m⟩
  | _, _ :: _, _, _, n + 1, .cons r h => by
    obtain ⟨G, h', s⟩ := RpL.take n h
    exact ⟨_, .cons r h', fun a m => (List.mem_append.mp m).elim (fun z => List.mem_append_left _ z) fun z => List.mem_append_right _ (s a z)⟩
theorem RpL.drop : ∀ {t : Bool} {ds : List PyData} {vs : List V} {F : List Addr} (n : Nat), RpL K t H vs ds F → ∃ G, RpL K t H (vs.drop n) (ds.drop n) G ∧ ∀ a ∈ G, a ∈ F
  | _, _, _, _, 0, h => ⟨_, h, fun _ m => m⟩
  | _, [], _, _, n + 1, .nil => ⟨[], .nil, fun _ m => m⟩
  | _, _ :: _, _, _, n + 1, .cons _ h => by
    obtain ⟨G, h', s⟩ := RpL.drop n h
    exact ⟨G, h', fun a m => List.mem_append_right _ (s a m)⟩
/-- of ints -/
theorem RpL.ints : ∀ {t : Bool} {ns : List Int} {vs : List V} {F : List Addr}, RpL K t H vs (ns.map PyData.int) F → vs = ns.map V.int ∧ F = []
  | _, [], _, _, .nil => ⟨rfl, rfl⟩
  | _, n :: ns, _, _, .cons r h => by
    obtain ⟨e1, e2⟩ := RpL.ints (ns := ns) h
    cases r
    exact ⟨by rw [e1]; rfl, by rw [e2]; rfl⟩
theorem RpL.bools : ∀ {t : Bool} {ns : List Bool} {vs : List V} {F : List Addr}, RpL K t H vs (ns.map PyData.bool) F → vs = ns.map V.bl ∧ F = []
  | _, [], _, _, .nil => ⟨rfl, rfl⟩
  | _, n :: ns, _, _, .cons r h => by
    obtain ⟨e1, e2⟩ := RpL.bools (ns := ns) h
    cases r
    exact ⟨by rw [e1]; rfl, by rw [e2]; rfl⟩
theorem RpL.of_ints : ∀ {t : Bool} (ns : List Int), RpL K t H (ns.map V.int) (ns.map PyData.int) []
  | _, [] => .nil
  | _, n :: ns => .cons (.int n) (RpL.of_ints ns)
/-- a list, read -/
theorem Rp.list {t : Bool} {ds : List PyData} {v : V} {F : List Addr} (h : Rp K t H v (.list ds) F) : ∃ a vs G, v = .ref a ∧ SqL K H a vs ∧ RpL K t H vs ds G ∧ (∀ x ∈ G, x ∈ F) ∧ (F = a :: G ∧ H a = some (.lst vs) ∨ F = G ∧ t = false ∧ Still K H a vs) := by
  cases h with
  | lst hs ha => exact ⟨_, _, _, rfl, .inl (.inl hs), ha, fun x m => List.mem_cons_of_mem _ m, .inl ⟨rfl, hs⟩⟩
  | lstR ht hs ha => exact ⟨_, _, _, rfl, hs.sq, ha, fun x m => m, .inr ⟨rfl, ht, hs⟩⟩
theorem Rp.tuple {t : Bool} {ds : List PyData} {v : V} {F : List Addr} (h : Rp K t H v (.tuple ds) F) : ∃ a vs, v = .ref a ∧ TpT K H a vs ∧ RpL K t H vs ds F := by
  cases h with
  | tup hs ha => exact ⟨_, _, rfl, hs, ha⟩
theorem Rp.intV {t : Bool} {i : Int} {v : V} {F : List Addr} (h : Rp K t H v (.int i) F) : v = .int i ∧ F = [] := by
  cases h
  exact ⟨rfl, rfl⟩
theorem Rp.boolV {t : Bool} {i : Bool} {v : V} {F : List Addr} (h : Rp K t H v (.bool i) F) : v = .bl i ∧ F = [] := by
  cases h
  exact ⟨rfl, rfl⟩
theorem Rp.strV {t : Bool} {i : Str} {v : V} {F : List Addr} (h : Rp K t H v (.str i) F) : v = .str i ∧ F = [] := by
  cases h
  exact ⟨rfl, rfl⟩
mutual
/-- as the layer's own data -/
theorem Rp.dp : ∀ {t : Bool} (d : PyData) {v : V} {F : List Addr}, Rp K t H v d F → Dp K H v d
  | t, .none, _, _, h => by cases h; exact .non
  | t, .bool _, _, _, h => by cases h; exact .bl _
  | t, .int _, _, _, h => by cases h; exact .int _
  | t, .str _, _, _, h => by cases h; exact .str _
  | t, .tuple ds, _, _, h => by
    cases h with
    | tup hs ha => exact .tup hs.sq (RpL.dp ds ha)
  | t, .list ds, _, _, h => by
    cases h with
    | lst hs ha => exact .lst (.inl (.inl hs)) (RpL.dp ds ha)
    | lstR ht hs ha => exact .lst hs.sq (RpL.dp ds ha)
  | t, .dict _, _, _, h => by cases h
theorem RpL.dp : ∀ {t : Bool} (ds : List PyData) {vs : List V} {F : List Addr}, RpL K t H vs ds F → DpAll K H vs ds
  | t, [], _, _, h => by cases h; exact .nil
  | t, d :: ds, _, _, h => by
    cases h with
    | cons h1 h2 => exact .cons (Rp.dp d h1) (RpL.dp ds h2)
end
end

/-! ### environments -/
inductive Kd where
  | own | fz | ro | io
  deriving DecidableEq
/-- what stands there is made here, list by list -/
def strK : Kd → Bool
  | .own => true
  | .fz => true
  | _ => false
abbrev Env := List (Option (Kd × PyData))
def isIo : Option (Kd × PyData) → Bool
  | some (Kd.io, _) => true
  | _ => false
def hasIo : Env → Bool
  | [] => false
  | x :: r => isIo x || hasIo r
theorem hasIo_of : ∀ {E : Env} {i : Nat} {d : PyData}, E[i]? = some (some (Kd.io, d)) → hasIo E = true
  | x :: E, 0, d, h => by
    have e : x = some (Kd.io, d) := Option.some.inj (by simpa using h)
    subst e
    rfl
  | x :: E, i + 1, d, h => by
    have ih := hasIo_of (E := E) (i := i) (by simpa using h)
    unfold hasIo
    rw [ih, Bool.or_true]
/-- the pot: a list of plain things -/
def PotOk (K : PySem.W.Frag) (H : Hp) (pa : Addr) (P : PyData) : Prop := ∃ vs ds, H pa = some (.lst vs) ∧ RpL K true H vs ds [] ∧ P = .list ds ∧ immL ds = true
structure EnvOk (K : PySem.W.Frag) (E : Env) (P : PyData) (σ : L2.St) (H : Hp) (Fm : Nat → List Addr) (pa : Addr) : Prop where
  len : σ.length = E.length
  rep : ∀ (i : Nat) (k : Kd) (d : PyData), E[i]? = some (some (k, d)) → k ≠ Kd.io → ∃ v, σ[i]? = some (some v) ∧ Rp K (strK k) H v d (Fm i)
  dis : ∀ (i : Nat) (d : PyData), E[i]? = some (some (Kd.own, d)) → ∀ (j : Nat) (k : Kd) (d' : PyData), j ≠ i → E[j]? = some (some (k, d')) → k ≠ Kd.io → ∀ a ∈ Fm i, a ∉ Fm j
  io : ∀ (i : Nat) (d : PyData), E[i]? = some (some (Kd.io, d)) → σ[i]? = some (some (V.ref pa))
  pot : hasIo E = true → PotOk K H pa P
  pno : hasIo E = true → ∀ (j : Nat) (k : Kd) (d : PyData), E[j]? = some (some (k, d)) → k ≠ Kd.io → pa ∉ Fm j
/-- what an expression may write: the pot -/
def Pw (E : Env) (pa : Addr) (a : Addr) : Prop := hasIo E = true ∧ a = pa
/-- what a statement may write -/
def Wr (E : Env) (Fm : Nat → List Addr) (pa : Addr) (a : Addr) : Prop := (∃ (i : Nat) (d : PyData), E[i]? = some (some (Kd.own, d)) ∧ a ∈ Fm i) ∨ Pw E pa a
/-- what was made here -/
def Mk (E : Env) (Fm : Nat → List Addr) (a : Addr) : Prop := ∃ (i : Nat) (k : Kd) (d : PyData), E[i]? = some (some (k, d)) ∧ strK k = true ∧ a ∈ Fm i
section
variable {K : PySem.W.Frag} {E : Env} {P P' : PyData} {σ : L2.St} {H H' : Hp} {Fm : Nat → List Addr} {pa : Addr}
theorem EnvOk.fx (ok : EnvOk K E P σ H Fm pa) (f : Frm (Pw E pa) H H') {i : Nat} {k : Kd} {d : PyData} (h : E[i]? = some (some (k, d))) (hk : k ≠ Kd.io) : Fx (Fm i) H H' :=
  f.fx fun a ha ⟨h1, h2⟩ => ok.pno h1 i k d h hk (h2 ▸ ha)
theorem EnvOk.keep (ok : EnvOk K E P σ H Fm pa) (f : Frm (Pw E pa) H H') (p : hasIo E = true → PotOk K H' pa P') : EnvOk K E P' σ H' Fm pa where
  len := ok.len
  rep := fun i k d h hk => by
    obtain ⟨v, e, r⟩ := ok.rep i k d h hk
    exact ⟨v, e, Rp.fx d r (ok.fx f h hk)⟩
  dis := ok.dis
  io := ok.io
  pot := p
  pno := ok.pno
theorem EnvOk.inH (ok : EnvOk K E P σ H Fm pa) {i : Nat} {k : Kd} {d : PyData} (h : E[i]? = some (some (k, d))) (hk : k ≠ Kd.io) {a : Addr} (ha : a ∈ Fm i) : ∃ xs, H a = some (.lst xs) := by
  obtain ⟨v, e, r⟩ := ok.rep i k d h hk
  exact Rp.at d r a ha
theorem PotOk.keep (p : PotOk K H pa P) (x : Ext H H') : PotOk K H' pa P := by
  obtain ⟨vs, ds, h1, h2, h3⟩ := p
  exact ⟨vs, ds, x _ _ h1, RpL.fx ds h2 x.fx, h3⟩
end
end MP
set_option Elab.async false
set_option linter.all false
set_option maxRecDepth 100000
/-! A small language of our own: what the programs' texts are read as, and what it computes. -/
namespace MP
open PySem PySem.Spec PyProof.Rows L2

inductive Bop where
  | add | sub | mul | fdiv | mod | pow
  deriving DecidableEq
inductive Cop where
  | eq | ne | lt | le | gt | ge | isin | notin
  deriving DecidableEq
inductive Blt where
  | len | abs | min2 | max2 | maxl | minl | sum | all | any | sorted | int | list | tuple
  deriving DecidableEq
inductive Ty where
  | int | bool | tuple | str
  deriving DecidableEq
mutual
inductive Tg where
  | nm (i : Nat)
  | tup (ts : Tgs)
inductive Tgs where
  | nil
  | cons (t : Tg) (r : Tgs)
end
mutual
inductive Ex where
  | con (d : PyData)
  | var (i : Nat)
  | bin (op : Bop) (a b : Ex)
  | neg (a : Ex)
  | cmp (op : Cop) (a b : Ex)
  | chain (op op' : Cop) (a b c : Ex)
  | and (a b : Ex)
  | or (a b : Ex)
  | not (a : Ex)
  | ite (c a b : Ex)
  | call (f : Nat) (as : Exs)
  | blt (b : Blt) (as : Exs)
  | isi (a : Ex) (t : Ty)
  | lrng (it : Ito)
  | trng (it : Ito)
  | lc (elt : Ex) (tg : Tg) (it : Ito) (cond : Exo) (own : List Nat)
  | tup (es : Exs)
  | lst (es : Exs)
  | ix (a b : Ex)
  | sl (a : Ex) (lo hi : Exo)
  | rev (a : Ex)
  | every (a : Ex) (from' : Nat) (step : Ex)
inductive Exs where
  | nil
  | cons (e : Ex) (r : Exs)
  | star (e : Ex) (r : Exs)
  | io (i : Nat) (r : Exs)
inductive Exo where
  | none
  | some (e : Ex)
inductive Ito where
  | seq (e : Ex)
  | rng1 (a : Ex)
  | rng2 (a b : Ex)
  | rng3 (a b c : Ex)
  | enum (e : Ex)
  | zip (a b : Ex)
end
mutual
inductive St where
  | asg (i : Nat) (e : Ex)
  | pot (i : Nat) (e : Ex)
  | mov (i j : Nat)
  | unp (t : Tgs) (e : Ex)
  | par (i j : Nat) (a b : Ex)
  | sub (o : Nat) (k v : Ex)
  | app (o : Nat) (e : Ex)
  | ifs (c : Ex) (a b : Sts)
  | for (t : Tg) (it : Ito) (body : Sts)
  | while (fuel : Nat) (c : Ex) (body : Sts)
  | expr (e : Ex)
  | ret (e : Ex)
  | brk
  | never
inductive Sts where
  | nil
  | cons (s : St) (r : Sts)
end

/-! ### what is known of data -/
def LIM : Nat := 1000000
def intsOf : List PyData → Option (List Int)
  | [] => some []
  | .int i :: r => (intsOf r).map (i :: ·)
  | _ => none
def boolsOf : List PyData → Option (List Bool)
  | [] => some []
  | .bool i :: r => (boolsOf r).map (i :: ·)
  | _ => none
def maxI : Int → List Int → Int
  | m, [] => m
  | m, n :: r => maxI (if n > m then n else m) r
def minI : Int → List Int → Int
  | m, [] => m
  | m, n :: r => minI (if n < m then n else m) r
def insI (n : Int) : List Int → List Int
  | [] => [n]
  | m :: r => if n ≤ m then n :: m :: r else m :: insI n r
def sortI : List Int → List Int
  | [] => []
  | n :: r => insI n (sortI r)
def smallI (i j : Int) : Bool := decide (i.natAbs.log2 + j.natAbs.log2 < 1000000)
def bopD : Bop → PyData → PyData → Option PyData
  | .add, .int i, .int j => some (.int (i + j))
  | .add, .list a, .list b => if a.length + b.length ≤ LIM then some (.list (a ++ b)) else none
  | .sub, .int i, .int j => some (.int (i - j))
  | .mul, .int i, .int j => if smallI i j then some (.int (i * j)) else none
  | .mul, .list a, .int k => if immL a && (decide (-1000000 ≤ k) && (decide (k ≤ 1000000) && decide (a.length * k.toNat ≤ LIM))) then some (.list (List.replicate k.toNat a).flatten) else none
  | .fdiv, .int i, .int j => if decide (0 < j) && decide (j.natAbs.log2 < 9000) then some (.int (i / j)) else none
  | .mod, .int i, .int j => if 0 < j then some (.int (i % j)) else none
  | .pow, .int i, .int j => if decide (0 ≤ j) && (decide (j ≤ 1000) && decide (i.natAbs.log2 < 10000)) then some (.int (i ^ j.toNat)) else none
  | _, _, _ => none
def isInt : PyData → Bool
  | .int _ => true
  | _ => false
/-- data at most so deep, without dicts, of texts of one's own -/
def shp : Nat → PyData → Bool
  | _, .none => true
  | _, .bool _ => true
  | _, .int _ => true
  | _, .str x => PyData.strOk x
  | n + 1, .list ds => ds.all (shp n)
  | n + 1, .tuple ds => ds.all (shp n)
  | _, _ => false
def flatD : PyData → Bool
  | .none => true
  | .bool _ => true
  | .int _ => true
  | .str _ => true
  | _ => false
def inD (x : PyData) (ds : List PyData) : Option Bool := if flatD x && ds.all flatD then some (ds.any fun y => PyData.eqv y x) else none
def copD : Cop → PyData → PyData → Option Bool
  | .eq, a, b => if shp 6 a && shp 6 b then some (PyData.eqv a b) else none
  | .ne, a, b => if shp 6 a && shp 6 b then some (!PyData.eqv a b) else none
  | .lt, .int i, .int j => some (decide (i < j))
  | .le, .int i, .int j => some (decide (i ≤ j))
  | .gt, .int i, .int j => some (decide (j < i))
  | .ge, .int i, .int j => some (decide (j ≤ i))
  | .isin, x, .list ds => inD x ds
  | .isin, x, .tuple ds => inD x ds
  | .notin, x, .list ds => (inD x ds).map (!·)
  | .notin, x, .tuple ds => (inD x ds).map (!·)
  | _, _, _ => none
def bltD : Blt → List PyData → Option PyData
  | .len, [.list ds] => some (.int ds.length)
  | .len, [.tuple ds] => some (.int ds.length)
  | .abs, [.int i] => some (.int (if i < 0 then -i else i))
  | .min2, [.int i, .int j] => some (.int (if j < i then j else i))
  | .max2, [.int i, .int j] => some (.int (if j > i then j else i))
  | .maxl, [.list ds] => (match intsOf ds with
    | some (n :: r) => some (.int (maxI n r))
    | _ => none)
  | .minl, [.list ds] => (match intsOf ds with
    | some (n :: r) => some (.int (minI n r))
    | _ => none)
  | .sum, [.list ds] => (intsOf ds).map fun ns => .int ns.sum
  | .sum, [.tuple ds] => (intsOf ds).map fun ns => .int ns.sum
  | .all, [.list ds] => (boolsOf ds).map fun bs => .bool (bs.all id)
  | .any, [.list ds] => (boolsOf ds).map fun bs => .bool (bs.any id)
  | .sorted, [.list ds] => (intsOf ds).map fun ns => .list ((sortI ns).map PyData.int)
  | .int, [.int i] => some (.int i)
  | .int, [.bool b] => some (.int (if b then 1 else 0))
  | .list, [.list ds] => some (.list ds)
  | .list, [.tuple ds] => some (.list ds)
  | .tuple, [.list ds] => some (.tuple ds)
  | .tuple, [.tuple ds] => some (.tuple ds)
  | _, _ => none
def isiD : Ty → PyData → Bool
  | .int, .int _ => true
  | .int, .bool _ => true
  | .bool, .bool _ => true
  | .tuple, .tuple _ => true
  | .str, .str _ => true
  | _, _ => false
def cutD (ds : List PyData) (lo hi : Option Int) : List PyData := (ds.drop (HT.sIx ds.length 0 lo)).take (HT.sIx ds.length ds.length hi - HT.sIx ds.length 0 lo)
/-- every second one -/
def evens {α : Type} : List α → List α
  | [] => []
  | [d] => [d]
  | d :: _ :: r => d :: evens r
def seqOf : PyData → Option (List PyData)
  | .list ds => some ds
  | .tuple ds => some ds
  | _ => none
def unO : List (Option PyData) → Option (List PyData)
  | [] => some []
  | some d :: r => (unO r).map (d :: ·)
  | none :: _ => none
def rngD (lo : Int) : Nat → List PyData
  | 0 => []
  | n + 1 => .int lo :: rngD (lo + 1) n
def rngC (lo c : Int) : Nat → List PyData
  | 0 => []
  | n + 1 => .int lo :: rngC (lo + c) c n
def enumD : Int → List PyData → List PyData
  | _, [] => []
  | i, d :: r => .tuple [.int i, d] :: enumD (i + 1) r
def zipD : List PyData → List PyData → List PyData
  | d :: r, e :: s => .tuple [d, e] :: zipD r s
  | _, _ => []

/-! ### environments -/
def getV (E : Env) (i : Nat) : Option PyData := match E[i]? with
  | some (some (Kd.io, _)) => none
  | some (some (_, d)) => some d
  | _ => none
def setV (E : Env) (i : Nat) (k : Kd) (d : PyData) : Option Env := if i < E.length then some (E.set i (some (k, d))) else none
def frz1 (E : Env) (i : Nat) : Env := match E[i]? with
  | some (some (Kd.own, d)) => E.set i (some (Kd.fz, d))
  | _ => E
def frz (E : Env) (l : List Nat) : Env := l.foldl frz1 E
def fz0 : Option (Kd × PyData) → Option (Kd × PyData)
  | some (Kd.own, d) => some (Kd.fz, d)
  | s => s
def frzAll (E : Env) : Env := E.map fz0
def wipeE (E : Env) : List Nat → Env
  | [] => E
  | v :: vs => (wipeE E vs).set v none
mutual
def bindT : Tg → PyData → Env → Option Env
  | .nm i, d, E => if isIo (E.getD i none) then none else setV E i Kd.ro d
  | .tup ts, .tuple ds, E => bindTs ts ds E
  | .tup _, _, _ => none
def bindTs : Tgs → List PyData → Env → Option Env
  | .nil, [], E => some E
  | .cons t r, d :: ds, E => (bindT t d E).bind (bindTs r ds)
  | _, _, _ => none
end

/-! ### which names an expression reads; whether what it gives is its own -/
mutual
def vars : Ex → List Nat
  | .con _ => []
  | .var i => [i]
  | .bin _ a b => vars a ++ vars b
  | .neg a => vars a
  | .cmp _ a b => vars a ++ vars b
  | .chain _ _ a b c => vars a ++ (vars b ++ vars c)
  | .and a b => vars a ++ vars b
  | .or a b => vars a ++ vars b
  | .not a => vars a
  | .ite c a b => vars c ++ (vars a ++ vars b)
  | .call _ as => varsS as
  | .blt _ as => varsS as
  | .isi a _ => vars a
  | .lrng it => varsI it
  | .trng it => varsI it
  | .lc _ _ it _ _ => varsI it
  | .tup es => varsS es
  | .lst es => varsS es
  | .ix a b => vars a ++ vars b
  | .sl a lo hi => vars a ++ (varsO lo ++ varsO hi)
  | .rev a => vars a
  | .every a _ s => vars a ++ vars s
def varsS : Exs → List Nat
  | .nil => []
  | .cons e r => vars e ++ varsS r
  | .star e r => vars e ++ varsS r
  | .io _ r => varsS r
def varsO : Exo → List Nat
  | .none => []
  | .some e => vars e
def varsI : Ito → List Nat
  | .seq e => vars e
  | .rng1 a => vars a
  | .rng2 a b => vars a ++ vars b
  | .rng3 a b c => vars a ++ (vars b ++ vars c)
  | .enum e => vars e
  | .zip a b => vars a ++ vars b
end
mutual
/-- the names a target binds are among these -/
def tgIn : Tg → List Nat → Bool
  | .nm i, l => l.contains i
  | .tup ts, l => tgsIn ts l
def tgsIn : Tgs → List Nat → Bool
  | .nil, _ => true
  | .cons t r, l => tgIn t l && tgsIn r l
end
def isRng : Ito → Bool
  | .rng1 _ => true
  | .rng2 _ _ => true
  | .rng3 _ _ _ => true
  | _ => false
def itemsImm : PyData → Bool
  | .list ds => immL ds
  | d => imm d
def frs : Ex → PyData → Bool
  | .call _ _, _ => true
  | .bin _ _ _, d => itemsImm d
  | .blt _ _, d => itemsImm d
  | .lrng _, d => itemsImm d
  | .lc _ _ _ _ _, _ => true
  | .lst _, d => itemsImm d
  | .sl _ _ _, d => itemsImm d
  | .rev _, d => itemsImm d
  | .every _ _ _, d => itemsImm d
  | .ite _ a b, d => frs a d && frs b d
  | _, d => imm d
/-- all that is read is of one's own making, or plain -/
def strV (E : Env) (l : List Nat) : Bool := l.all fun i => match E[i]? with
  | some (some (Kd.own, _)) => true
  | some (some (Kd.fz, _)) => true
  | some (some (Kd.ro, d)) => imm d
  | _ => false
/-! ### what an expression computes: its value, the pot behind it -/
abbrev Cl := Nat → List (Option PyData) → PyData → Option (PyData × PyData)
def lcFold (bind : PyData → Option Env) (test : Env → PyData → Option (Bool × PyData)) (elt : Env → PyData → Option (PyData × PyData)) : List PyData → List PyData → PyData → Option (List PyData × PyData)
  | [], acc, P => some (acc, P)
  | d :: r, acc, P => match bind d with
    | none => none
    | some E => match test E P with
      | none => none
      | some (false, P1) => lcFold bind test elt r acc P1
      | some (true, P1) => match elt E P1 with
        | none => none
        | some (x, P2) => if imm x && decide (acc.length < LIM) then lcFold bind test elt r (acc ++ [x]) P2 else none
def truthD : PyData → Option Bool
  | .bool b => some b
  | _ => none
mutual
def ev (cl : Cl) : Ex → Env → PyData → Option (PyData × PyData)
  | .con d, _, P => some (d, P)
  | .var i, E, P => (getV E i).map fun d => (d, P)
  | .bin op a b, E, P => match ev cl a E P with
    | none => none
    | some (x, P1) => match ev cl b E P1 with
      | none => none
      | some (y, P2) => if isInt x || (strV E (vars a) && strV E (vars b)) then (bopD op x y).map fun d => (d, P2) else none
  | .neg a, E, P => match ev cl a E P with
    | some (.int i, P1) => some (.int (-i), P1)
    | _ => none
  | .cmp op a b, E, P => match ev cl a E P with
    | none => none
    | some (x, P1) => match ev cl b E P1 with
      | none => none
      | some (y, P2) => (copD op x y).map fun d => (.bool d, P2)
  | .chain op op' a b c, E, P => match ev cl a E P with
    | none => none
    | some (x, P1) => match ev cl b E P1 with
      | none => none
      | some (y, P2) => match copD op x y with
        | none => none
        | some false => some (.bool false, P2)
        | some true => match ev cl c E P2 with
          | none => none
          | some (z, P3) => (copD op' y z).map fun d => (.bool d, P3)
  | .and a b, E, P => match ev cl a E P with
    | some (.bool true, P1) => ev cl b E P1
    | some (.bool false, P1) => some (.bool false, P1)
    | _ => none
  | .or a b, E, P => match ev cl a E P with
    | some (.bool false, P1) => ev cl b E P1
    | some (.bool true, P1) => some (.bool true, P1)
    | _ => none
  | .not a, E, P => match ev cl a E P with
    | some (.bool c, P1) => some (.bool (!c), P1)
    | _ => none
  | .ite c a b, E, P => match ev cl c E P with
    | some (.bool true, P1) => ev cl a E P1
    | some (.bool false, P1) => ev cl b E P1
    | _ => none
  | .call f as, E, P => match evs cl as E P with
    | none => none
    | some (ds, P1) => (cl f ds P1).map fun r => (r.1, if ds.any (·.isNone) then r.2 else P1)
  | .blt b as, E, P => match evs cl as E P with
    | none => none
    | some (ds, P1) => ((unO ds).bind (bltD b)).map fun d => (d, P1)
  | .isi a t, E, P => match ev cl a E P with
    | none => none
    | some (x, P1) => some (.bool (isiD t x), P1)
  | .lrng it, E, P => match evI cl it E P with
    | none => none
    | some (ds, P1) => if ds.length ≤ LIM then some (.list ds, P1) else none
  | .trng it, E, P => match evI cl it E P with
    | none => none
    | some (ds, P1) => if ds.length ≤ LIM then some (.tuple ds, P1) else none
  | .lc elt tg it cond own, E, P => if own.any (fun i => isIo (E.getD i none)) then none else match evI cl it E P with
    | none => none
    | some (ds, P1) => (lcFold (fun d => bindT tg d (wipeE (frzAll E) own)) (evO cl cond) (ev cl elt) ds [] P1).map fun r => (.list r.1, r.2)
  | .tup es, E, P => match evs cl es E P with
    | none => none
    | some (ds, P1) => (unO ds).bind fun xs => if xs.length ≤ LIM then some (.tuple xs, P1) else none
  | .lst es, E, P => match evs cl es E P with
    | none => none
    | some (ds, P1) => (unO ds).bind fun xs => if xs.length ≤ LIM then some (.list xs, P1) else none
  | .ix a b, E, P => match a with
    | .var i => (match E[i]? with
      | some (some (Kd.io, _)) => (match ev cl b E P with
        | some (.int k, P1) => (match P1 with
          | .list ds => (atI ds k).map fun d => (d, P1)
          | _ => none)
        | _ => none)
      | _ => (match ev cl a E P with
        | none => none
        | some (x, P1) => match ev cl b E P1 with
          | some (.int k, P2) => (match seqOf x with
            | some ds => (atI ds k).map fun d => (d, P2)
            | none => none)
          | _ => none))
    | _ => (match ev cl a E P with
      | none => none
      | some (x, P1) => match ev cl b E P1 with
        | some (.int k, P2) => (match seqOf x with
          | some ds => (atI ds k).map fun d => (d, P2)
          | none => none)
        | _ => none)
  | .sl a lo hi, E, P => match ev cl a E P with
    | none => none
    | some (x, P1) => match evP cl lo E P1 with
      | none => none
      | some (l, P2) => match evP cl hi E P2 with
        | none => none
        | some (h, P3) => match x with
          | .list ds => some (.list (cutD ds l h), P3)
          | .tuple ds => some (.tuple (cutD ds l h), P3)
          | _ => none
  | .rev a, E, P => match ev cl a E P with
    | some (.list ds, P1) => some (.list ds.reverse, P1)
    | some (.tuple ds, P1) => some (.tuple ds.reverse, P1)
    | _ => none
  | .every a k s, E, P => match ev cl a E P with
    | some (.list ds, P1) => (match ev cl s E P1 with
      | some (.int 2, P2) => some (.list (evens (ds.drop k)), P2)
      | _ => none)
    | _ => none
def evs (cl : Cl) : Exs → Env → PyData → Option (List (Option PyData) × PyData)
  | .nil, _, P => some ([], P)
  | .cons e r, E, P => match ev cl e E P with
    | none => none
    | some (d, P1) => match evs cl r E P1 with
      | none => none
      | some (ds, P2) => some (some d :: ds, P2)
  | .star e r, E, P => match ev cl e E P with
    | none => none
    | some (d, P1) => match seqOf d with
      | none => none
      | some xs => match evs cl r E P1 with
        | none => none
        | some (ds, P2) => some (xs.map some ++ ds, P2)
  | .io i r, E, P => match E[i]? with
    | some (some (Kd.io, _)) => (match evs cl r E P with
      | none => none
      | some (ds, P2) => some (none :: ds, P2))
    | _ => none
/-- a test's: none of one is yes -/
def evO (cl : Cl) : Exo → Env → PyData → Option (Bool × PyData)
  | .none, _, P => some (true, P)
  | .some e, E, P => match ev cl e E P with
    | some (.bool c, P1) => some (c, P1)
    | _ => none
/-- a slice's part -/
def evP (cl : Cl) : Exo → Env → PyData → Option (Option Int × PyData)
  | .none, _, P => some (none, P)
  | .some e, E, P => match ev cl e E P with
    | some (.int c, P1) => some (some c, P1)
    | _ => none
def evI (cl : Cl) : Ito → Env → PyData → Option (List PyData × PyData)
  | .seq e, E, P => match ev cl e E P with
    | none => none
    | some (d, P1) => (seqOf d).map fun ds => (ds, P1)
  | .rng1 a, E, P => match ev cl a E P with
    | some (.int j, P1) => if decide (-1000000000 ≤ j) && decide (j ≤ 1000000000) then some (rngD 0 j.toNat, P1) else none
    | _ => none
  | .rng2 a b, E, P => match ev cl a E P with
    | some (.int i, P1) => (match ev cl b E P1 with
      | some (.int j, P2) => if (decide (-1000000000 ≤ i) && decide (i ≤ 1000000000)) && (decide (-1000000000 ≤ j) && decide (j ≤ 1000000000)) then some (rngD i (j - i).toNat, P2) else none
      | _ => none)
    | _ => none
  | .rng3 a b c, E, P => match ev cl a E P with
    | some (.int i, P1) => (match ev cl b E P1 with
      | some (.int j, P2) => (match ev cl c E P2 with
        | some (.int (-1), P3) => if (decide (-1000000000 ≤ i) && decide (i ≤ 1000000000)) && (decide (-1000000000 ≤ j) && decide (j ≤ 1000000000)) then some (rngC i (-1) (i - j).toNat, P3) else none
        | _ => none)
      | _ => none)
    | _ => none
  | .enum e, E, P => match ev cl e E P with
    | none => none
    | some (d, P1) => (seqOf d).map fun ds => (enumD 0 ds, P1)
  | .zip a b, E, P => match ev cl a E P with
    | none => none
    | some (x, P1) => match ev cl b E P1 with
      | none => none
      | some (y, P2) => match x, y with
        | .list ds, .list es => some (zipD ds es, P2)
        | .tuple ds, .tuple es => some (zipD ds es, P2)
        | _, _ => none
end

/-! ### statements -/
inductive Rs where
  | nx (E : Env) (P : PyData)
  | bk (E : Env) (P : PyData)
  | rt (d : PyData) (P : PyData)
def flatList : PyData → Bool
  | .list ds => immL ds
  | _ => false
/-- x = e -/
def asgD (E : Env) (i : Nat) (e : Ex) (d : PyData) : Option Env :=
  if isIo (E.getD i none) then none else
  if imm d then setV E i Kd.ro d else if frs e d then setV E i Kd.own d else setV (frz E (vars e)) i Kd.ro d
def forL (bind : PyData → Env → Option Env) (body : Env → PyData → Option Rs) : List PyData → Env → PyData → Option Rs
  | [], E, P => some (.nx E P)
  | d :: r, E, P => match bind d E with
    | none => none
    | some E1 => match body E1 P with
      | none => none
      | some (.nx E2 P2) => forL bind body r E2 P2
      | some (.bk E2 P2) => some (.nx E2 P2)
      | some (.rt d P2) => some (.rt d P2)
def whL (test : Env → PyData → Option (PyData × PyData)) (body : Env → PyData → Option Rs) : Nat → Env → PyData → Option Rs
  | 0, _, _ => none
  | n + 1, E, P => match test E P with
    | some (.bool false, P1) => some (.nx E P1)
    | some (.bool true, P1) => (match body E P1 with
      | none => none
      | some (.nx E2 P2) => whL test body n E2 P2
      | some (.bk E2 P2) => some (.nx E2 P2)
      | some (.rt d P2) => some (.rt d P2))
    | _ => none
mutual
/-- iop: the pot is the caller's -/
def rs (cl : Cl) (iop : Bool) : St → Env → PyData → Option Rs
  | .asg i e, E, P => match ev cl e E P with
    | none => none
    | some (d, P1) => (asgD E i e d).map fun E1 => .nx E1 P1
  | .pot i e, E, P => if iop then none else match ev cl e E P with
    | none => none
    | some (d, P1) => if frs e d && flatList d then (if hasIo (E.set i none) then none else (setV E i Kd.io .none).map fun E1 => .nx E1 d) else none
  | .mov i j, E, P => if i == j || isIo (E.getD i none) then none else match E[j]? with
    | some (some (Kd.own, d)) => (setV (E.set j none) i Kd.own d).map fun E1 => .nx E1 P
    | _ => none
  | .unp t e, E, P => match ev cl e E P with
    | some (.tuple ds, P1) => (bindTs t ds (frz E (vars e))).map fun E1 => .nx E1 P1
    | _ => none
  | .par i j a b, E, P => match ev cl a E P with
    | none => none
    | some (x, P1) => match ev cl b E P1 with
      | none => none
      | some (y, P2) => if i == j then none else if (imm x || frs a x) && (imm y || frs b y) then (asgD E i a x).bind fun E1 => (asgD E1 j b y).map fun E2 => .nx E2 P2 else none
  | .sub o k v, E, P => match ev cl v E P with
    | none => none
    | some (x, P1) => match ev cl k E P1 with
      | some (.int n, P2) => (match E[o]? with
        | some (some (Kd.io, _)) => (match P2 with
          | .list ds => if imm x then (ixN ds.length n).map fun j => .nx E (.list (ds.set j x)) else none
          | _ => none)
        | some (some (Kd.own, .list ds)) => if imm x && immL ds then (ixN ds.length n).map fun j => .nx (E.set o (some (Kd.own, .list (ds.set j x)))) P2 else none
        | _ => none)
      | _ => none
  | .app o e, E, P => match ev cl e E P with
    | none => none
    | some (x, P1) => match E[o]? with
      | some (some (Kd.own, .list ds)) => if (imm x && immL ds) && decide (ds.length < LIM) then some (.nx (E.set o (some (Kd.own, .list (ds ++ [x])))) P1) else none
      | _ => none
  | .ifs c a b, E, P => match ev cl c E P with
    | some (.bool true, P1) => rss cl iop a E P1
    | some (.bool false, P1) => rss cl iop b E P1
    | _ => none
  | .for t it body, E, P => match evI cl it E P with
    | none => none
    | some (ds, P1) => forL (bindT t) (rss cl iop body) ds (frz E (varsI it)) P1
  | .while n c body, E, P => whL (ev cl c) (rss cl iop body) n E P
  | .expr e, E, P => match ev cl e E P with
    | none => none
    | some (_, P1) => some (.nx E P1)
  | .ret e, E, P => match ev cl e E P with
    | none => none
    | some (d, P1) => if imm d || (frs e d || strV E (vars e)) then some (.rt d P1) else none
  | .brk, E, P => some (.bk E P)
  | .never, _, _ => none
def rss (cl : Cl) (iop : Bool) : Sts → Env → PyData → Option Rs
  | .nil, E, P => some (.nx E P)
  | .cons s r, E, P => match rs cl iop s E P with
    | none => none
    | some (.nx E1 P1) => rss cl iop r E1 P1
    | some (.bk E1 P1) => some (.bk E1 P1)
    | some (.rt d P1) => some (.rt d P1)
end

/-! ### defs -/
/-- a def: its place in the program's text, its names by slot (parameters first), how many are parameters, whether the first is the pot, its body -/
structure Fd where
  st : Nat
  names : List Str
  np : Nat
  iop : Bool
  body : Sts
def startE (n : Nat) (as : List (Option PyData)) : Env := as.map (fun a => match a with
  | some d => some (Kd.ro, d)
  | none => some (Kd.io, .none)) ++ List.replicate (n - as.length) none
def cntIo : List (Option PyData) → Nat
  | [] => 0
  | none :: r => cntIo r + 1
  | some _ :: r => cntIo r
def runF (cl : Cl) (f : Fd) (as : List (Option PyData)) (P : PyData) : Option (PyData × PyData) :=
  if as.length == f.np && (f.np ≤ f.names.length && (cntIo as == (if f.iop then 1 else 0))) then
    match rss cl f.iop f.body (startE f.names.length as) P with
    | some (.rt d P1) => some (d, P1)
    | some (.nx _ P1) => some (.none, P1)
    | _ => none
  else none
/-- the defs below n call one another -/
def upTo (tab : Nat → Option Fd) : Nat → Cl
  | 0 => fun _ _ _ => none
  | n + 1 => fun f as P => if f = n then (match tab n with
    | some d => runF (upTo tab n) d as P
    | none => none) else upTo tab n f as P
end MP
set_option Elab.async false
set_option linter.all false
set_option maxRecDepth 100000
/-! Does a text of our language stand for a text of the program's? -/
namespace MP
open PySem PySem.Spec PyProof.Rows L2

mutual
def eqP : PyData → PyData → Bool
  | .none, .none => true
  | .bool a, .bool b => a == b
  | .int a, .int b => decide (a = b)
  | .str a, .str b => decide (a = b)
  | .tuple a, .tuple b => eqPs a b
  | .list a, .list b => eqPs a b
  | _, _ => false
def eqPs : List PyData → List PyData → Bool
  | [], [] => true
  | a :: r, b :: s => eqP a b && eqPs r s
  | _, _ => false
end
mutual
theorem eqP_ok : ∀ {a b : PyData}, eqP a b = true → a = b
  | .none, b, h => by cases b <;> simp [eqP] at h ⊢
  | .bool x, b, h => by cases b <;> simp [eqP] at h ⊢; exact h
  | .int x, b, h => by cases b <;> simp [eqP] at h ⊢; exact h
  | .str x, b, h => by cases b <;> simp [eqP] at h ⊢; exact h
  | .tuple x, b, h => by
    cases b <;> simp [eqP] at h ⊢
    exact eqPs_ok h
  | .list x, b, h => by
    cases b <;> simp [eqP] at h ⊢
    exact eqPs_ok h
  | .dict x, b, h => by cases b <;> simp [eqP] at h
theorem eqPs_ok : ∀ {a b : List PyData}, eqPs a b = true → a = b
  | [], [], _ => rfl
  | [], _ :: _, h => by simp [eqPs] at h
  | _ :: _, [], h => by simp [eqPs] at h
  | a :: r, b :: s, h => by
    simp only [eqPs, Bool.and_eq_true] at h
    rw [eqP_ok h.1, eqPs_ok h.2]
end

structure Cfg where
  fid : Str → Option Nat
  cst : Str → Option PyData

def nmB (x : Str) : Bool := !(x == ("__debug__" : Str)) && (!(x == ("__classdict__" : Str)) && !(x == ("__name__" : Str)))
def visB (sc : Scope) (x : Str) : Bool := match sc.names.lookup x with
  | some .local => true
  | some .cell => true
  | some .free => true
  | _ => false
def locB (sc : Scope) (x : Str) : Bool := match sc.names.lookup x with
  | some .local => true
  | some .cell => true
  | _ => false
def glB (sc : Scope) (x : Str) : Bool := match sc.names.lookup x with
  | some .globalImplicit => true
  | _ => false
def conB : PyData → Const → Bool
  | .none, .none => true
  | .bool a, .bool b => a == b
  | .int a, .int b => decide (a = b)
  | .str a, .str b => decide (a = b)
  | _, _ => false
def bopB : Bop → Operator → Bool
  | .add, .Add => true
  | .sub, .Sub => true
  | .mul, .Mult => true
  | .fdiv, .FloorDiv => true
  | .mod, .Mod => true
  | .pow, .Pow => true
  | _, _ => false
def copB : Cop → CmpOp → Bool
  | .eq, .Eq => true
  | .ne, .NotEq => true
  | .lt, .Lt => true
  | .le, .LtE => true
  | .gt, .Gt => true
  | .ge, .GtE => true
  | .isin, .In => true
  | .notin, .NotIn => true
  | _, _ => false
def bltN : Blt → Str
  | .len => "len"
  | .abs => "abs"
  | .min2 => "min"
  | .max2 => "max"
  | .maxl => "max"
  | .minl => "min"
  | .sum => "sum"
  | .all => "all"
  | .any => "any"
  | .sorted => "sorted"
  | .int => "int"
  | .list => "list"
  | .tuple => "tuple"
def tyN : Ty → Str
  | .int => "int"
  | .bool => "bool"
  | .tuple => "tuple"
  | .str => "str"
/-- the built-in names that are read -/
def bltNames : List Str := ["len", "abs", "min", "max", "sum", "all", "any", "sorted", "int", "list", "tuple", "bool", "str", "isinstance", "range", "enumerate", "zip"]
def noStar : Expr → Bool
  | .Starred _ _ => false
  | _ => true
def noLc : Expr → Bool
  | .ListComp _ _ _ _ => false
  | .SetComp _ _ _ _ => false
  | .DictComp _ _ _ _ _ => false
  | _ => true
def noSlice : Expr → Bool
  | .Slice _ _ _ _ => false
  | _ => true
def relS' (scope sc : Scope) : Scope := relS scope sc
def ownL (N : List Str) (own : List Nat) : List (Str × Nat) := own.map fun i => (N.getD i Str.empty, i)
/-- enumerate and zip want a target that is a written tuple -/
def tgtB : Ito → Expr → Bool
  | .enum _, .Tuple _ _ _ => true
  | .zip _ _, .Tuple _ _ _ => true
  | .enum _, _ => false
  | .zip _ _, _ => false
  | _, _ => true
def noSet : Expr → Bool
  | .Set _ _ _ => false
  | _ => true
mutual
def chkG (N : List Str) (osc : Scope) : Tg → Expr → Bool
  | .nm i, .Name x _ => decide (N[i]? = some x) && locB osc x
  | .tup ts, .Tuple es _ _ => chkGs N osc ts es
  | _, _ => false
def chkGs (N : List Str) (osc : Scope) : Tgs → List Expr → Bool
  | .nil, [] => true
  | .cons t r, e :: es => noStar e && (chkG N osc t e && chkGs N osc r es)
  | _, _ => false
end
mutual
def chkE (C : Cfg) (N : List Str) : Nat → Scope → Ex → Expr → Bool
  | 0, _, _, _ => false
  | n + 1, sc, m, e => match m, e with
    | .con d, .Constant c _ _ => conB d c
    | .con d, .Name x _ => glB sc x && (nmB x && (match C.cst x with
      | some d' => eqP d d'
      | none => false))
    | .var i, .Name x _ => decide (N[i]? = some x) && (visB sc x && nmB x)
    | .bin op a b, .BinOp x o y _ => bopB op o && (chkE C N n sc a x && chkE C N n sc b y)
    | .neg a, .UnaryOp .USub x _ => chkE C N n sc a x
    | .cmp op a b, .Compare x [o] [y] _ => copB op o && (!behindInMarks o y && (chkE C N n sc a x && chkE C N n sc b y))
    | .chain op op' a b c, .Compare x [o, o'] [y, z] _ => copB op o && (copB op' o' && (!lastMarks [o, o'] [y, z] && (chkE C N n sc a x && (chkE C N n sc b y && chkE C N n sc c z))))
    | .and a b, .BoolOp .And (x :: y :: r) p => chkE C N n sc a x && chkE C N n sc b (.BoolOp .And (y :: r) p)
    | .or a b, .BoolOp .Or (x :: y :: r) p => chkE C N n sc a x && chkE C N n sc b (.BoolOp .Or (y :: r) p)
    | m, .BoolOp _ [x] _ => chkE C N n sc m x
    | .not a, .UnaryOp .Not x _ => chkE C N n sc a x
    | .ite c a b, .IfExp x y z _ => chkT C N n sc c x && (chkE C N n sc a y && chkE C N n sc b z)
    | .call f as, .Call (.Name x _) (e :: es) [] _ => glB sc x && (nmB x && (decide (C.fid x = some f) && (noStar e && (es.all noStar && chkA C N n sc as (e :: es)))))
    | .isi a t, .Call (.Name x _) [y, .Name ty _] [] _ => decide (x = ("isinstance" : Str)) && (glB sc x && (decide (ty = tyN t) && (glB sc ty && (noStar y && chkE C N n sc a y))))
    | .lrng it, .Call (.Name x _) [.Call (.Name y p1) as [] p2] [] _ => isRng it && (decide (x = ("list" : Str)) && (glB sc x && (decide (y = ("range" : Str)) && chkI C N n sc it (.Call (.Name y p1) as [] p2))))
    | .trng it, .Call (.Name x _) [.Call (.Name y p1) as [] p2] [] _ => isRng it && (decide (x = ("tuple" : Str)) && (glB sc x && (decide (y = ("range" : Str)) && chkI C N n sc it (.Call (.Name y p1) as [] p2))))
    | .blt b as, .Call (.Name x _) (e :: es) [] _ => decide (x = bltN b) && (glB sc x && (noStar e && (es.all noStar && chkA C N n sc as (e :: es))))
    | .lc elt tg it cond own, .ListComp x [⟨t, iter, ifs, 0⟩] scope _ => tgIn tg own && (noSet iter && (tgtB it t && (chkI C N n sc it iter && (blkC N sc scope (ownL N own) && (chkG N scope tg t && (chkE C N n (relS scope sc) elt x && chkO C N n (relS scope sc) cond ifs))))))
    | .tup es, .Tuple xs _ _ => chkA C N n sc es xs
    | .lst es, .List xs _ => chkA C N n sc es xs
    | .sl a lo hi, .Subscript x (.Slice l h none _) _ => chkE C N n sc a x && (chkP C N n sc lo l && chkP C N n sc hi h)
    | .rev a, .Subscript x (.Slice none none (some (.UnaryOp .USub (.Constant (.int 1) _ _) _)) _) _ => chkE C N n sc a x
    | .every a k s, .Subscript x (.Slice lo none (some st) _) _ => chkE C N n sc a x && ((match lo with
      | none => decide (k = 0)
      | some (.Constant (.int j) _ _) => decide (j = (k : Int))
      | _ => false) && chkE C N n sc s st)
    | .ix a b, .Subscript x y _ => noSlice y && (chkE C N n sc a x && chkE C N n sc b y)
    | _, _ => false
/-- a test -/
def chkT (C : Cfg) (N : List Str) : Nat → Scope → Ex → Expr → Bool
  | 0, _, _, _ => false
  | n + 1, sc, m, e => match m, e with
    | .and a b, .BoolOp .And (x :: y :: r) p => chkT C N n sc a x && chkT C N n sc b (.BoolOp .And (y :: r) p)
    | .or a b, .BoolOp .Or (x :: y :: r) p => chkT C N n sc a x && chkT C N n sc b (.BoolOp .Or (y :: r) p)
    | m, .BoolOp _ [x] _ => chkT C N n sc m x
    | .not a, .UnaryOp .Not x _ => chkT C N n sc a x
    | .cmp op a b, .Compare x [o] [y] _ => copB op o && (!behindInMarks o y && (chkE C N n sc a x && chkE C N n sc b y))
    | .chain op op' a b c, .Compare x [o, o'] [y, z] _ => copB op o && (copB op' o' && (!lastMarks [o, o'] [y, z] && (chkE C N n sc a x && (chkE C N n sc b y && chkE C N n sc c z))))
    | m, .Call f es ks p => chkE C N n sc m (.Call f es ks p)
    | m, .Name x p => chkE C N n sc m (.Name x p)
    | m, .Constant x k p => chkE C N n sc m (.Constant x k p)
    | m, .Subscript x y p => chkE C N n sc m (.Subscript x y p)
    | _, _ => false
def chkA (C : Cfg) (N : List Str) : Nat → Scope → Exs → List Expr → Bool
  | 0, _, _, _ => false
  | n + 1, sc, m, es => match m, es with
    | .nil, [] => true
    | .cons a r, e :: es => noStar e && (chkE C N n sc a e && chkA C N n sc r es)
    | .star a r, .Starred e _ :: es => chkE C N n sc a e && chkA C N n sc r es
    | .io i r, .Name x _ :: es => decide (N[i]? = some x) && (visB sc x && (nmB x && chkA C N n sc r es))
    | _, _ => false
def chkO (C : Cfg) (N : List Str) : Nat → Scope → Exo → List Expr → Bool
  | 0, _, _, _ => false
  | n + 1, sc, m, es => match m, es with
    | .none, [] => true
    | .some a, [e] => chkT C N n sc a e
    | _, _ => false
def chkP (C : Cfg) (N : List Str) : Nat → Scope → Exo → Option Expr → Bool
  | 0, _, _, _ => false
  | n + 1, sc, m, es => match m, es with
    | .none, none => true
    | .some a, some e => chkE C N n sc a e
    | _, _ => false
def chkI (C : Cfg) (N : List Str) : Nat → Scope → Ito → Expr → Bool
  | 0, _, _, _ => false
  | n + 1, sc, m, e => match m, e with
    | .rng1 a, .Call (.Name x _) [y] [] _ => decide (x = ("range" : Str)) && (glB sc x && (noStar y && chkE C N n sc a y))
    | .rng2 a b, .Call (.Name x _) [y, z] [] _ => decide (x = ("range" : Str)) && (glB sc x && (noStar y && (noStar z && (chkE C N n sc a y && chkE C N n sc b z))))
    | .rng3 a b c, .Call (.Name x _) [y, z, w] [] _ => decide (x = ("range" : Str)) && (glB sc x && (noStar y && (noStar z && (noStar w && (chkE C N n sc a y && (chkE C N n sc b z && chkE C N n sc c w))))))
    | .enum a, .Call (.Name x _) [y] [] _ => decide (x = ("enumerate" : Str)) && (glB sc x && (noStar y && chkE C N n sc a y))
    | .zip a b, .Call (.Name x _) [y, z] [] _ => decide (x = ("zip" : Str)) && (glB sc x && (noStar y && (noStar z && (chkE C N n sc a y && chkE C N n sc b z))))
    | .seq a, e => chkE C N n sc a e
    | _, _ => false
end
end MP
set_option Elab.async false
set_option linter.all false
set_option maxRecDepth 100000
/-! What our language's evaluation says of the layer's readings: the posts, and the weakening of each judgement. -/
namespace MP
open PySem PySem.Spec PyProof.Rows L2

section
variable {X : Cx}
theorem PE.imp {e : Expr} {t t' : TE} (h : PE X e t) (hi : ∀ σ H Q, t' σ H Q → t σ H Q) : PE X e t' := ⟨fun pins s σ H Q I x => h.run pins s σ H Q I (hi σ H Q x)⟩
theorem PT.imp {e : Expr} {t t' : TT} (h : PT X e t) (hi : ∀ σ H Q, t' σ H Q → t σ H Q) : PT X e t' := ⟨fun pins s σ H Q I x => h.run pins s σ H Q I (hi σ H Q x)⟩
theorem PW.imp {e : Expr} {t t' : TT} (h : PW X e t) (hi : ∀ σ H Q, t' σ H Q → t σ H Q) : PW X e t' := ⟨fun w pins s σ H Q I x => h.run w pins s σ H Q I (hi σ H Q x)⟩
theorem PA.imp {e : List Expr} {t t' : TA} (h : PA X e t) (hi : ∀ σ H Q, t' σ H Q → t σ H Q) : PA X e t' := ⟨fun p pins s σ H Q I x => h.run p pins s σ H Q I (hi σ H Q x)⟩
theorem PTs.imp {e : List Expr} {t t' : TT} (h : PTs X e t) (hi : ∀ σ H Q, t' σ H Q → t σ H Q) : PTs X e t' := ⟨fun pins s σ H Q I x => h.run pins s σ H Q I (hi σ H Q x)⟩
theorem PO.imp {e : Option Expr} {t t' : TO} (h : PO X e t) (hi : ∀ σ H Q, t' σ H Q → t σ H Q) : PO X e t' := ⟨fun pins s σ H Q I x => h.run pins s σ H Q I (hi σ H Q x)⟩
theorem PI.imp {tg e : Expr} {t t' : TI} (h : PI X tg e t) (hi : ∀ σ H Q, t' σ H Q → t σ H Q) : PI X tg e t' := ⟨fun pins s σ H Q I x => h.run pins s σ H Q I (hi σ H Q x)⟩
theorem PG.imp {e : Expr} {t t' : TG} (h : PG X e t) (hi : ∀ v σ H Q, t' v σ H Q → t v σ H Q) : PG X e t' := ⟨fun pins s σ H v u Q I r x => h.run pins s σ H v u Q I r (hi v σ H Q x)⟩
theorem PS.imp {e : Stmt} {t t' : TS} (h : PS X e t) (hi : ∀ D σ H, t' D σ H → t D σ H) : PS X e t' := ⟨fun pins s σ H D I x => h.run pins s σ H D I (hi D σ H x)⟩
theorem PSs.imp {e : List Stmt} {t t' : TS} (h : PSs X e t) (hi : ∀ D σ H, t' D σ H → t D σ H) : PSs X e t' := ⟨fun pins s σ H D I x => h.run pins s σ H D I (hi D σ H x)⟩
end

/-- behind an expression: all stands but the pot -/
structure Post0 (K : PySem.W.Frag) (E : Env) (pa : Addr) (H : Hp) (P' : PyData) (H' : Hp) : Prop where
  fr : Frm (Pw E pa) H H'
  pot : hasIo E = true → PotOk K H' pa P'
/-- where a value's lists come from: new ones, or those of the names that are read -/
def Pv (E : Env) (Fm : Nat → List Addr) (l : List Nat) (H : Hp) (F : List Addr) : Prop :=
  ∀ a ∈ F, H a = none ∨ ∃ i ∈ l, ∃ (k : Kd) (d : PyData), E[i]? = some (some (k, d)) ∧ k ≠ Kd.io ∧ a ∈ Fm i
structure XPost (K : PySem.W.Frag) (E : Env) (Fm : Nat → List Addr) (pa : Addr) (l : List Nat) (fr : Bool) (H : Hp) (v : V) (d : PyData) (F : List Addr) (P' : PyData) (H' : Hp) : Prop where
  p : Post0 K E pa H P' H'
  rp : Rp K (strV E l) H' v d F
  pv : Pv E Fm l H F
  fs : fr = true → Rp K true H' v d F ∧ ∀ a ∈ F, H a = none
section
variable {K : PySem.W.Frag} {E : Env} {P P1 P2 P' : PyData} {σ : L2.St} {H H1 H2 H' : Hp} {Fm : Nat → List Addr} {pa : Addr} {F G : List Addr} {l l' : List Nat} {v : V} {d : PyData}
theorem Post0.refl (ok : EnvOk K E P σ H Fm pa) : Post0 K E pa H P H := ⟨Frm.refl, ok.pot⟩
theorem Post0.env (p : Post0 K E pa H P' H') (ok : EnvOk K E P σ H Fm pa) : EnvOk K E P' σ H' Fm pa := ok.keep p.fr p.pot
theorem Post0.trans (p1 : Post0 K E pa H P1 H1) (p2 : Post0 K E pa H1 P2 H2) : Post0 K E pa H P2 H2 := ⟨p1.fr.trans p2.fr fun _ _ _ s => s, p2.pot⟩
theorem Post0.ext (p : Post0 K E pa H P1 H1) (x : Ext H1 H2) : Post0 K E pa H P1 H2 := ⟨p.fr.ext x, fun h => (p.pot h).keep x⟩
theorem Post0.dom (p : Post0 K E pa H P' H') {a : Addr} (h : H' a = none) : H a = none := by
  cases e : H a with
  | none => rfl
  | some o =>
    by_cases w : isL o = true ∧ Pw E pa a
    · obtain ⟨_, hi, rfl⟩ := w
      obtain ⟨vs, ds, h1, _⟩ := p.pot hi
      rw [h1] at h
      cases h
    · have := p.fr a o e fun z q => w ⟨z, q⟩
      rw [this] at h
      cases h
theorem Post0.fresh (p : Post0 K E pa H P' H') {a : Addr} (h : H' a = none) : H a = none := p.dom h
theorem Pv.notPw (ok : EnvOk K E P σ H Fm pa) (pv : Pv E Fm l H F) : ∀ a ∈ F, ¬ Pw E pa a := by
  rintro a ha ⟨hi, rfl⟩
  rcases pv a ha with z | ⟨i, _, k, d, h, hk, hm⟩
  · obtain ⟨vs, ds, h1, _⟩ := ok.pot hi
    rw [h1] at z
    cases z
  · exact ok.pno hi i k d h hk hm
theorem Pv.fx (ok : EnvOk K E P σ H Fm pa) (pv : Pv E Fm l H F) (p2 : Post0 K E pa H1 P2 H2) : Fx F H1 H2 := p2.fr.fx (pv.notPw ok)
theorem Pv.mono (pv : Pv E Fm l H F) (h : ∀ i ∈ l, i ∈ l') : Pv E Fm l' H F := fun a ha => (pv a ha).imp id fun ⟨i, hi, r⟩ => ⟨i, h i hi, r⟩
theorem Pv.sub (pv : Pv E Fm l H F) (h : ∀ a ∈ G, a ∈ F) : Pv E Fm l H G := fun a ha => pv a (h a ha)
theorem Pv.back (pv : Pv E Fm l H1 F) (p : Post0 K E pa H P1 H1) : Pv E Fm l H F := fun a ha => (pv a ha).imp (fun z => p.dom z) id
theorem Pv.nil : Pv E Fm l H [] := fun _ m => nomatch m
theorem Pv.append (p1 : Pv E Fm l H F) (p2 : Pv E Fm l' H G) : Pv E Fm (l ++ l') H (F ++ G) := fun a ha => by
  rcases List.mem_append.mp ha with m | m
  · exact (p1.mono (l' := l ++ l') fun i hi => List.mem_append_left _ hi) a m
  · exact (p2.mono (l' := l ++ l') fun i hi => List.mem_append_right _ hi) a m
theorem strV_app {l l' : List Nat} : strV E (l ++ l') = (strV E l && strV E l') := by unfold strV; rw [List.all_append]
theorem strV_left {l l' : List Nat} (h : strV E (l ++ l') = true) : strV E l = true := by rw [strV_app, Bool.and_eq_true] at h; exact h.1
theorem strV_right {l l' : List Nat} (h : strV E (l ++ l') = true) : strV E l' = true := by rw [strV_app, Bool.and_eq_true] at h; exact h.2
theorem strV_nil : strV E [] = true := rfl
/-- a plain value -/
theorem XPost.plain {fr : Bool} (p : Post0 K E pa H P' H') (h : ∀ t, Rp K t H' v d []) : XPost K E Fm pa l fr H v d [] P' H' :=
  ⟨p, h _, Pv.nil, fun _ => ⟨h _, fun _ m => nomatch m⟩⟩
/-- a value that came before, given out behind -/
theorem XPost.more {fr fr' : Bool} {v : V} {d : PyData} (x : XPost K E Fm pa l fr H v d F P1 H1) (ok : EnvOk K E P σ H Fm pa) (p2 : Post0 K E pa H1 P2 H2) (hl : ∀ i ∈ l, i ∈ l') (hs : strV E l' = true → strV E l = true) (hf : fr' = true → fr = true) : XPost K E Fm pa l' fr' H v d F P2 H2 := by
  have k := x.pv.fx ok p2
  refine ⟨x.p.trans p2, (Rp.fx d x.rp k).to hs, x.pv.mono hl, fun h => ?_⟩
  obtain ⟨h1, h2⟩ := x.fs (hf h)
  exact ⟨Rp.fx d h1 k, h2⟩
/-- a new list -/
theorem XPost.newL {t : Bool} {ds : List PyData} {vs : List V} {q : Addr} {fr : Bool} (p : Post0 K E pa H P' H') (hq : H' q = none) (r : RpL K t H' vs ds F) (ht : strV E l = true → t = true) (pv : Pv E Fm l H F) (hf : fr = true → immL ds = true) :
    XPost K E Fm pa l fr H (.ref q) (.list ds) (q :: F) P' (upd H' q (.lst vs)) := by
  have x : Ext H' (upd H' q (.lst vs)) := Ext.new hq
  refine ⟨p.ext x, .lst upd_same ((RpL.fx ds r x.fx).to ht), fun a ha => ?_, fun h => ?_⟩
  · rcases List.mem_cons.mp ha with rfl | ha
    · exact .inl (p.dom hq)
    · exact pv a ha
  · obtain ⟨e, r'⟩ := RpL.imm true ds r (hf h)
    subst e
    exact ⟨.lst upd_same (RpL.fx ds r' x.fx), fun a ha => by
      rcases List.mem_cons.mp ha with rfl | ha
      · exact p.dom hq
      · cases ha⟩
/-- a new tuple -/
theorem XPost.newT {t : Bool} {ds : List PyData} {vs : List V} {q : Addr} {fr : Bool} (p : Post0 K E pa H P' H') (hq : H' q = none) (r : RpL K t H' vs ds F) (ht : strV E l = true → t = true) (pv : Pv E Fm l H F) (hf : fr = true → immL ds = true) :
    XPost K E Fm pa l fr H (.ref q) (.tuple ds) F P' (upd H' q (.tup vs)) := by
  have x : Ext H' (upd H' q (.tup vs)) := Ext.new hq
  refine ⟨p.ext x, .tup (.inl upd_same) ((RpL.fx ds r x.fx).to ht), pv, fun h => ?_⟩
  obtain ⟨e, r'⟩ := RpL.imm true ds r (hf h)
  subst e
  exact ⟨.tup (.inl upd_same) (RpL.fx ds r' x.fx), fun a ha => nomatch ha⟩
/-- a value whose items are some of another one's, at an address that stands -/
theorem XPost.of {fr : Bool} {t : Bool} (p : Post0 K E pa H P' H') (r : Rp K t H' v d F) (ht : strV E l = true → t = true) (pv : Pv E Fm l H F) (hf : fr = true → imm d = true) : XPost K E Fm pa l fr H v d F P' H' := by
  refine ⟨p, r.to ht, pv, fun h => ?_⟩
  obtain ⟨e, r'⟩ := Rp.imm true d r (hf h)
  subst e
  exact ⟨r', fun a ha => nomatch ha⟩
end

/-! ### the readings of our language -/
def exTE (K : PySem.W.Frag) (cl : Cl) (m : Ex) : TE := fun σ H Q => ∃ E P Fm pa d P', EnvOk K E P σ H Fm pa ∧ ev cl m E P = some (d, P') ∧
  ∀ v H' F, XPost K E Fm pa (vars m) (frs m d) H v d F P' H' → Q v H'
def exTT (K : PySem.W.Frag) (cl : Cl) (m : Ex) : TT := fun σ H Q => ∃ E P Fm pa c P', EnvOk K E P σ H Fm pa ∧ ev cl m E P = some (.bool c, P') ∧
  ∀ H', Post0 K E pa H P' H' → Q c H'
/-- arguments: a value each, none for the pot -/
inductive RaL (K : PySem.W.Frag) (t : Bool) (H : Hp) (pa : Addr) : List V → List (Option PyData) → List Addr → Prop
  | nil : RaL K t H pa [] [] []
  | cons {v : V} {d : PyData} {F : List Addr} {vs : List V} {ds : List (Option PyData)} {G : List Addr} : Rp K t H v d F → RaL K t H pa vs ds G → RaL K t H pa (v :: vs) (some d :: ds) (F ++ G)
  | io {vs : List V} {ds : List (Option PyData)} {G : List Addr} : RaL K t H pa vs ds G → RaL K t H pa (.ref pa :: vs) (none :: ds) G
structure APost (K : PySem.W.Frag) (E : Env) (Fm : Nat → List Addr) (pa : Addr) (l : List Nat) (H : Hp) (vs : List V) (ds : List (Option PyData)) (F : List Addr) (P' : PyData) (H' : Hp) : Prop where
  p : Post0 K E pa H P' H'
  rp : RaL K (strV E l) H' pa vs ds F
  pv : Pv E Fm l H F
  io : none ∈ ds → hasIo E = true
def exTA (K : PySem.W.Frag) (cl : Cl) (m : Exs) : TA := fun σ H Q => ∃ E P Fm pa ds P', EnvOk K E P σ H Fm pa ∧ evs cl m E P = some (ds, P') ∧
  ∀ vs H' F, APost K E Fm pa (varsS m) H vs ds F P' H' → Q vs H'
def exTO (K : PySem.W.Frag) (cl : Cl) (m : Exo) : TO := fun σ H Q => ∃ E P Fm pa c P', EnvOk K E P σ H Fm pa ∧ evP cl m E P = some (c, P') ∧
  ∀ H', Post0 K E pa H P' H' → Q c H'
def exTC (K : PySem.W.Frag) (cl : Cl) (m : Exo) : TT := fun σ H Q => ∃ E P Fm pa c P', EnvOk K E P σ H Fm pa ∧ evO cl m E P = some (c, P') ∧
  ∀ H', Post0 K E pa H P' H' → Q c H'
/-- an iterator gives these items, while the lists at F stand -/
structure ItRep (K : PySem.W.Frag) (t : Bool) (J : It) (ds : List PyData) (H : Hp) (F : List Addr) : Prop where
  go : ∀ H2, Fx F H H2 → ∀ i, i < ds.length → J.go i H2
  stop : ∀ H2, Fx F H H2 → J.stop ds.length H2
  yld : ∀ H2, Fx F H H2 → ∀ i d, ds[i]? = some d → ∀ x H3, J.yld i H2 x H3 → Ext H2 H3 ∧ ∃ G, (∀ a ∈ G, a ∈ F) ∧ Rp K t H3 x d G
structure IPost (K : PySem.W.Frag) (E : Env) (Fm : Nat → List Addr) (pa : Addr) (l : List Nat) (H : Hp) (J : It) (ds : List PyData) (F : List Addr) (P' : PyData) (H' : Hp) : Prop where
  p : Post0 K E pa H P' H'
  it : ItRep K (strV E l) J ds H' F
  pv : Pv E Fm l H F
  at' : ∀ a ∈ F, ∃ xs, H' a = some (.lst xs)
def exTI (K : PySem.W.Frag) (cl : Cl) (m : Ito) : TI := fun σ H R => ∃ E P Fm pa ds P', EnvOk K E P σ H Fm pa ∧ evI cl m E P = some (ds, P') ∧
  ∀ J H' F, IPost K E Fm pa (varsI m) H J ds F P' H' → R J H'
section
variable {K : PySem.W.Frag} {t t' : Bool} {H H' : Hp} {pa : Addr}
theorem RaL.fx : ∀ {vs : List V} {ds : List (Option PyData)} {F : List Addr}, RaL K t H pa vs ds F → Fx F H H' → RaL K t H' pa vs ds F
  | _, _, _, .nil, _ => .nil
  | _, _, _, .cons (d := d) r h, k => .cons (Rp.fx d r (k.sub fun a m => List.mem_append_left _ m)) (RaL.fx h (k.sub fun a m => List.mem_append_right _ m))
  | _, _, _, .io h, k => .io (RaL.fx h k)
theorem RaL.to : ∀ {vs : List V} {ds : List (Option PyData)} {F : List Addr}, RaL K t H pa vs ds F → (t' = true → t = true) → RaL K t' H pa vs ds F
  | _, _, _, .nil, _ => .nil
  | _, _, _, .cons r h, k => .cons (r.to k) (RaL.to h k)
  | _, _, _, .io h, k => .io (RaL.to h k)
theorem RaL.un : ∀ {vs : List V} {ds : List (Option PyData)} {F : List Addr} {xs : List PyData}, RaL K t H pa vs ds F → unO ds = some xs → RpL K t H vs xs F
  | _, _, _, xs, .nil, h => by cases h; exact .nil
  | _, some d :: ds, _, xs, .cons r h, e => by
    unfold unO at e
    cases e2 : unO ds with
    | none => rw [e2] at e; cases e
    | some ys =>
      rw [e2] at e
      cases e
      exact .cons r (RaL.un h e2)
  | _, none :: ds, _, xs, .io h, e => by cases e
theorem RaL.append : ∀ {vs ws : List V} {ds es : List (Option PyData)} {F G : List Addr}, RaL K t H pa vs ds F → RaL K t H pa ws es G → RaL K t H pa (vs ++ ws) (ds ++ es) (F ++ G)
  | _, _, _, _, _, _, .nil, s => s
  | _, _, _, _, _, _, .cons r h, s => by rw [List.append_assoc]; exact .cons r (RaL.append h s)
  | _, _, _, _, _, _, .io h, s => .io (RaL.append h s)
theorem RaL.of : ∀ {vs : List V} {ds : List PyData} {F : List Addr}, RpL K t H vs ds F → RaL K t H pa vs (ds.map some) F
  | _, [], _, .nil => .nil
  | _, _ :: _, _, .cons r h => .cons r (RaL.of h)
end
section
variable {K : PySem.W.Frag} {cl : Cl} {E : Env} {P P1 P2 : PyData} {σ : L2.St} {H : Hp} {Fm : Nat → List Addr} {pa : Addr}
/-- one, then another -/
theorem one_then {a : Ex} {x : PyData} {R : V → Hp → Prop} (ok : EnvOk K E P σ H Fm pa) (ha : ev cl a E P = some (x, P1))
    (h : ∀ v H1 F, XPost K E Fm pa (vars a) (frs a x) H v x F P1 H1 → EnvOk K E P1 σ H1 Fm pa → R v H1) : exTE K cl a σ H R :=
  ⟨E, P, Fm, pa, x, P1, ok, ha, fun v H1 F p => h v H1 F p (p.p.env ok)⟩
theorem test_then {a : Ex} {c : Bool} {R : Bool → Hp → Prop} (ok : EnvOk K E P σ H Fm pa) (ha : ev cl a E P = some (.bool c, P1))
    (h : ∀ H1, Post0 K E pa H P1 H1 → EnvOk K E P1 σ H1 Fm pa → R c H1) : exTT K cl a σ H R :=
  ⟨E, P, Fm, pa, c, P1, ok, ha, fun H1 p => h H1 p (p.env ok)⟩
theorem args_then {a : Exs} {x : List (Option PyData)} {R : List V → Hp → Prop} (ok : EnvOk K E P σ H Fm pa) (ha : evs cl a E P = some (x, P1))
    (h : ∀ vs H1 F, APost K E Fm pa (varsS a) H vs x F P1 H1 → EnvOk K E P1 σ H1 Fm pa → R vs H1) : exTA K cl a σ H R :=
  ⟨E, P, Fm, pa, x, P1, ok, ha, fun v H1 F p => h v H1 F p (p.p.env ok)⟩
/-- two, one behind the other: both stand at the end -/
structure Two (K : PySem.W.Frag) (E : Env) (Fm : Nat → List Addr) (pa : Addr) (l l' : List Nat) (H : Hp) (v w : V) (x y : PyData) (F G : List Addr) (P' : PyData) (H' : Hp) : Prop where
  p : Post0 K E pa H P' H'
  r1 : Rp K (strV E l) H' v x F
  r2 : Rp K (strV E l') H' w y G
  v1 : Pv E Fm l H F
  v2 : Pv E Fm l' H G
theorem two_then {a b : Ex} {x y : PyData} {R : V → V → Hp → Prop} (ok : EnvOk K E P σ H Fm pa) (ha : ev cl a E P = some (x, P1)) (hb : ev cl b E P1 = some (y, P2))
    (h : ∀ v w H2 F G, Two K E Fm pa (vars a) (vars b) H v w x y F G P2 H2 → R v w H2) : exTE K cl a σ H fun v H1 => exTE K cl b σ H1 fun w H2 => R v w H2 :=
  one_then ok ha fun v H1 F p1 ok1 => one_then ok1 hb fun w H2 G p2 _ =>
    h v w H2 F G ⟨p1.p.trans p2.p, Rp.fx x p1.rp (p1.pv.fx ok p2.p), p2.rp, p1.pv, p2.pv.back p1.p⟩
end
end MP
set_option Elab.async false
set_option linter.all false
set_option maxRecDepth 100000
/-! Operators, comparisons, built-in functions. -/
namespace MP
open PySem PySem.Spec PyProof.Rows L2

/-! ### inversions -/
section
variable {cl : Cl} {E : Env} {P P' : PyData} {d : PyData}
theorem ev_bin {op : Bop} {a b : Ex} (h : ev cl (.bin op a b) E P = some (d, P')) : ∃ x P1 y, ev cl a E P = some (x, P1) ∧ ev cl b E P1 = some (y, P') ∧ bopD op x y = some d ∧ (isInt x || (strV E (vars a) && strV E (vars b))) = true := by
  unfold ev at h
  cases e1 : ev cl a E P with
  | none => rw [e1] at h; cases h
  | some r =>
    obtain ⟨x, P1⟩ := r
    rw [e1] at h
    dsimp only at h
    cases e2 : ev cl b E P1 with
    | none => rw [e2] at h; cases h
    | some r =>
      obtain ⟨y, P2⟩ := r
      rw [e2] at h
      dsimp only at h
      split at h
      · rename_i hc
        cases e3 : bopD op x y with
        | none => rw [e3] at h; cases h
        | some z =>
          rw [e3] at h
          simp only [Option.map_some, Option.some.injEq, Prod.mk.injEq] at h
          obtain ⟨rfl, rfl⟩ := h
          exact ⟨x, P1, y, rfl, e2, e3, hc⟩
      · cases h
theorem ev_cmp {op : Cop} {a b : Ex} (h : ev cl (.cmp op a b) E P = some (d, P')) : ∃ x P1 y c, ev cl a E P = some (x, P1) ∧ ev cl b E P1 = some (y, P') ∧ copD op x y = some c ∧ d = .bool c := by
  unfold ev at h
  cases e1 : ev cl a E P with
  | none => rw [e1] at h; cases h
  | some r =>
    obtain ⟨x, P1⟩ := r
    rw [e1] at h
    dsimp only at h
    cases e2 : ev cl b E P1 with
    | none => rw [e2] at h; cases h
    | some r =>
      obtain ⟨y, P2⟩ := r
      rw [e2] at h
      dsimp only at h
      cases e3 : copD op x y with
      | none => rw [e3] at h; cases h
      | some z =>
        rw [e3] at h
        simp only [Option.map_some, Option.some.injEq, Prod.mk.injEq] at h
        obtain ⟨rfl, rfl⟩ := h
        exact ⟨x, P1, y, z, rfl, e2, e3, rfl⟩
theorem ev_chain {op op' : Cop} {a b c : Ex} (h : ev cl (.chain op op' a b c) E P = some (d, P')) : ∃ x P1 y P2, ev cl a E P = some (x, P1) ∧ ev cl b E P1 = some (y, P2) ∧
    ((copD op x y = some false ∧ d = .bool false ∧ P' = P2) ∨ (copD op x y = some true ∧ ∃ z k, ev cl c E P2 = some (z, P') ∧ copD op' y z = some k ∧ d = .bool k)) := by
  unfold ev at h
  cases e1 : ev cl a E P with
  | none => rw [e1] at h; cases h
  | some r =>
    obtain ⟨x, P1⟩ := r
    rw [e1] at h
    dsimp only at h
    cases e2 : ev cl b E P1 with
    | none => rw [e2] at h; cases h
    | some r =>
      obtain ⟨y, P2⟩ := r
      rw [e2] at h
      dsimp only at h
      refine ⟨x, P1, y, P2, rfl, e2, ?_⟩
      cases e3 : copD op x y with
      | none => rw [e3] at h; cases h
      | some k =>
        rw [e3] at h
        cases k with
        | false =>
          simp only [Option.some.injEq, Prod.mk.injEq] at h
          exact .inl ⟨rfl, h.1.symm, h.2.symm⟩
        | true =>
          dsimp only at h
          cases e4 : ev cl c E P2 with
          | none => rw [e4] at h; cases h
          | some r =>
            obtain ⟨z, P3⟩ := r
            rw [e4] at h
            dsimp only at h
            cases e5 : copD op' y z with
            | none => rw [e5] at h; cases h
            | some k =>
              rw [e5] at h
              simp only [Option.map_some, Option.some.injEq, Prod.mk.injEq] at h
              obtain ⟨rfl, rfl⟩ := h
              exact .inr ⟨rfl, z, k, rfl, e5, rfl⟩
end

theorem bop_add {x y d : PyData} (h : bopD .add x y = some d) : (∃ i j, x = .int i ∧ y = .int j ∧ d = .int (i + j)) ∨ ∃ a b, x = .list a ∧ y = .list b ∧ a.length + b.length ≤ LIM ∧ d = .list (a ++ b) := by
  cases x <;> cases y <;> simp [bopD] at h
  · exact .inl ⟨_, _, rfl, rfl, h.symm⟩
  · exact .inr ⟨_, _, rfl, rfl, h.1, h.2.symm⟩
theorem bop_sub {x y d : PyData} (h : bopD .sub x y = some d) : ∃ i j, x = .int i ∧ y = .int j ∧ d = .int (i - j) := by
  cases x <;> cases y <;> simp [bopD] at h
  exact ⟨_, _, rfl, rfl, h.symm⟩
theorem bop_mul {x y d : PyData} (h : bopD .mul x y = some d) : (∃ i j, x = .int i ∧ y = .int j ∧ smallI i j = true ∧ d = .int (i * j)) ∨
    ∃ a k, x = .list a ∧ y = .int k ∧ immL a = true ∧ -1000000 ≤ k ∧ k ≤ 1000000 ∧ a.length * k.toNat ≤ LIM ∧ d = .list (List.replicate k.toNat a).flatten := by
  cases x <;> cases y <;> simp [bopD] at h
  · exact .inl ⟨_, _, rfl, rfl, h.1, h.2.symm⟩
  · exact .inr ⟨_, _, rfl, rfl, h.1.1, h.1.2.1, h.1.2.2.1, h.1.2.2.2, h.2.symm⟩
theorem bop_fdiv {x y d : PyData} (h : bopD .fdiv x y = some d) : ∃ i j, x = .int i ∧ y = .int j ∧ 0 < j ∧ j.natAbs.log2 < 9000 ∧ d = .int (i / j) := by
  cases x <;> cases y <;> simp [bopD] at h
  exact ⟨_, _, rfl, rfl, h.1.1, h.1.2, h.2.symm⟩
theorem bop_mod {x y d : PyData} (h : bopD .mod x y = some d) : ∃ i j, x = .int i ∧ y = .int j ∧ 0 < j ∧ d = .int (i % j) := by
  cases x <;> cases y <;> simp [bopD] at h
  exact ⟨_, _, rfl, rfl, h.1, h.2.symm⟩
theorem bop_pow {x y d : PyData} (h : bopD .pow x y = some d) : ∃ i j, x = .int i ∧ y = .int j ∧ 0 ≤ j ∧ j ≤ 1000 ∧ i.natAbs.log2 < 10000 ∧ d = .int (i ^ j.toNat) := by
  cases x <;> cases y <;> simp [bopD] at h
  exact ⟨_, _, rfl, rfl, h.1.1, h.1.2.1, h.1.2.2, h.2.symm⟩

/-! ### powers of great numbers -/
section
variable {X : Cx}
def CPowW (i j : Int) : Prop := 0 ≤ j ∧ (Builtin.Int.intBits i : Int) * j ≤ 2 ^ 27
theorem op_powW : OpR X (binaryOp .Pow) (rI CPowW fun i j => .int (i ^ j.toNat)) := opI fun _ _ _ _ _ _ _ hc q => PyProof.Rows.pow_int hc.1 hc.2 q
theorem bits_le (i : Int) : (Builtin.Int.intBits i : Nat) ≤ i.natAbs.log2 + 1 := by
  unfold Builtin.Int.intBits
  split <;> omega

theorem small_mul {i j : Int} (h : smallI i j = true) : CMulW i j := by
  have h2 : i.natAbs.log2 + j.natAbs.log2 < 1000000 := by
    unfold smallI at h
    exact of_decide_eq_true h
  exact h2

/-! ### arithmetic -/
theorem Rp.inv_int {K : PySem.W.Frag} {t : Bool} {H : Hp} {v : V} {F : List Addr} {i : Int} (h : Rp K t H v (.int i) F) : v = .int i := h.intV.1
theorem lst_str {K : PySem.W.Frag} {H : Hp} {v : V} {F : List Addr} {ds : List PyData} (h : Rp K true H v (.list ds) F) : ∃ a vs G, v = .ref a ∧ H a = some (.lst vs) ∧ RpL K true H vs ds G ∧ F = a :: G := by
  cases h with
  | lst hs ha => exact ⟨_, _, _, rfl, hs, ha, rfl⟩
  | lstR ht => cases ht
theorem bin_fin {K : PySem.W.Frag} {E : Env} {Fm : Nat → List Addr} {pa : Addr} {l l' : List Nat} {H H2 : Hp} {v w : V} {x y d : PyData} {F G : List Addr} {P2 : PyData} {fr : Bool} (t : Two K E Fm pa l l' H v w x y F G P2 H2) {u : V} (h : ∀ s, Rp K s H2 u d []) :
    XPost K E Fm pa (l ++ l') fr H u d [] P2 H2 := XPost.plain t.p h
theorem rep_immL {n : Nat} {a : List PyData} (h : immL a = true) : immL (List.replicate n a).flatten = true := by
  refine immL_of fun d hd => ?_
  obtain ⟨b, hb, hm⟩ := List.mem_flatten.mp hd
  rw [List.eq_of_mem_replicate hb] at hm
  exact immL_mem h hm
theorem rep_rp {K : PySem.W.Frag} {t : Bool} {H : Hp} {vs : List V} {a : List PyData} (h : RpL K t H vs a []) : ∀ n : Nat, RpL K t H (List.replicate n vs).flatten (List.replicate n a).flatten []
  | 0 => .nil
  | n + 1 => by
    have ih := rep_rp h n
    have := RpL.append h ih
    simpa [List.replicate_succ] using this
theorem LIM_line : LIM ≤ sizeLine := by rw [sizeLine_eq]; decide
theorem pe_binM {cl : Cl} {op : Bop} {o : Operator} {a b : Ex} {a' b' : Expr} {pos : Pos} (hop : bopB op o = true) (ha : PE X a' (exTE X.K cl a)) (hb : PE X b' (exTE X.K cl b)) : PE X (.BinOp a' o b' pos) (exTE X.K cl (.bin op a b)) := by
  have out : ∀ {σ : L2.St} {H : Hp} {Q : VK} {r : R2}, exTE X.K cl (.bin op a b) σ H Q → (∀ (E : Env) (Fm : Nat → List Addr) (pa : Addr) (x y d : PyData) (P' : PyData) (v w : V) (H2 : Hp) (F G : List Addr), bopD op x y = some d → (isInt x || (strV E (vars a) && strV E (vars b))) = true →
      Two X.K E Fm pa (vars a) (vars b) H v w x y F G P' H2 → (∀ u H3 F3, XPost X.K E Fm pa (vars a ++ vars b) (itemsImm d) H u d F3 P' H3 → Q u H3) → r v w H2 Q) → tOp r (exTE X.K cl a) (exTE X.K cl b) σ H Q := by
    rintro σ H Q r ⟨E, P, Fm, pa, d, P', ok, he, hq⟩ k
    obtain ⟨x, P1, y, h1, h2, h3, h4⟩ := ev_bin he
    exact two_then ok h1 h2 fun v w H2 F G t => k E Fm pa x y d P' v w H2 F G h3 h4 t fun u H3 F3 p => hq u H3 F3 p
  cases op <;> cases o <;> first | exact absurd hop Bool.false_ne_true | skip
  · -- add
    refine PE.imp (pe_op (op_add.or op_cat) ha hb) fun σ H Q h => out h fun E Fm pa x y d P' v w H2 F G hd hs t hq => ?_
    rcases bop_add hd with ⟨i, j, rfl, rfl, rfl⟩ | ⟨xs, ys, rfl, rfl, hlen, rfl⟩
    · rw [Rp.inv_int t.r1, Rp.inv_int t.r2]
      exact .inl ⟨_, _, rfl, rfl, hq _ _ _ (bin_fin t fun s => .int _)⟩
    · obtain ⟨h1, h2⟩ := Bool.and_eq_true_iff.mp hs
      obtain ⟨p, vs, G1, rfl, hp, r1, rfl⟩ := lst_str (t.r1.to fun _ => h1)
      obtain ⟨q, ws, G2, rfl, hp2, r2, rfl⟩ := lst_str (t.r2.to fun _ => h2)
      have hl1 := r1.len
      have hl2 := r2.len
      have hL := LIM_line
      refine .inr ⟨p, q, vs, ws, rfl, rfl, hp, hp2, by omega, fun z hz => hq _ _ _ (XPost.newL t.p hz (r1.append r2) (fun _ => rfl) ?_ fun hf => hf)⟩
      exact Pv.append (t.v1.sub fun a m => List.mem_cons_of_mem _ m) (t.v2.sub fun a m => List.mem_cons_of_mem _ m)
  · -- sub
    refine PE.imp (pe_op op_sub ha hb) fun σ H Q h => out h fun E Fm pa x y d P' v w H2 F G hd hs t hq => ?_
    obtain ⟨i, j, rfl, rfl, rfl⟩ := bop_sub hd
    rw [Rp.inv_int t.r1, Rp.inv_int t.r2]
    exact ⟨_, _, rfl, rfl, hq _ _ _ (bin_fin t fun s => .int _)⟩
  · -- mul
    refine PE.imp (pe_op (op_mulW.or op_rep) ha hb) fun σ H Q h => out h fun E Fm pa x y d P' v w H2 F G hd hs t hq => ?_
    rcases bop_mul hd with ⟨i, j, rfl, rfl, hc, rfl⟩ | ⟨xs, k, rfl, rfl, c1, c2, c3, c4, rfl⟩
    · rw [Rp.inv_int t.r1, Rp.inv_int t.r2]
      exact .inl ⟨_, _, rfl, rfl, small_mul hc, hq _ _ _ (bin_fin t fun s => .int _)⟩
    · obtain ⟨h1, h2⟩ := Bool.and_eq_true_iff.mp hs
      obtain ⟨p, vs, G1, rfl, hp, r1, rfl⟩ := lst_str (t.r1.to fun _ => h1)
      rw [Rp.inv_int t.r2]
      obtain ⟨e0, r1'⟩ := RpL.imm true _ r1 c1
      subst e0
      have hl1 := r1.len
      have hL := LIM_line
      refine .inr ⟨p, _, vs, rfl, rfl, hp, by omega, by omega, by rw [hl1]; omega, fun z hz => hq _ _ _ (XPost.newL t.p hz (rep_rp r1' _) (fun _ => rfl) Pv.nil fun hf => hf)⟩
  · -- fdiv
    refine PE.imp (pe_op op_fdivW ha hb) fun σ H Q h => out h fun E Fm pa x y d P' v w H2 F G hd hs t hq => ?_
    obtain ⟨i, j, rfl, rfl, h1, h2, rfl⟩ := bop_fdiv hd
    rw [Rp.inv_int t.r1, Rp.inv_int t.r2]
    exact ⟨_, _, rfl, rfl, ⟨h1, h2⟩, hq _ _ _ (bin_fin t fun s => .int _)⟩
  · -- mod
    refine PE.imp (pe_op op_mod ha hb) fun σ H Q h => out h fun E Fm pa x y d P' v w H2 F G hd hs t hq => ?_
    obtain ⟨i, j, rfl, rfl, h1, rfl⟩ := bop_mod hd
    rw [Rp.inv_int t.r1, Rp.inv_int t.r2]
    exact ⟨_, _, rfl, rfl, h1, hq _ _ _ (bin_fin t fun s => .int _)⟩
  · -- pow
    refine PE.imp (pe_op op_powW ha hb) fun σ H Q h => out h fun E Fm pa x y d P' v w H2 F G hd hs t hq => ?_
    obtain ⟨i, j, rfl, rfl, h1, h2, h3, rfl⟩ := bop_pow hd
    rw [Rp.inv_int t.r1, Rp.inv_int t.r2]
    refine ⟨_, _, rfl, rfl, ⟨h1, ?_⟩, hq _ _ _ (bin_fin t fun s => .int _)⟩
    have hb1 := bits_le i
    have hb2 : (Builtin.Int.intBits i : Int) ≤ 10001 := by omega
    have hb3 : (0 : Int) ≤ (Builtin.Int.intBits i : Int) := by omega
    have h5 : (Builtin.Int.intBits i : Int) * j ≤ 10001 * 1000 := Int.mul_le_mul hb2 h2 h1 (by decide)
    exact Int.le_trans h5 (by decide)
theorem pe_negM {cl : Cl} {a : Ex} {a' : Expr} {pos : Pos} (ha : PE X a' (exTE X.K cl a)) : PE X (.UnaryOp .USub a' pos) (exTE X.K cl (.neg a)) := by
  refine PE.imp (pe_un un_neg ha) ?_
  rintro σ H Q ⟨E, P, Fm, pa, d, P', ok, he, hq⟩
  unfold ev at he
  split at he
  · rename_i i P1 e1
    cases he
    refine one_then ok e1 fun v H1 F p ok1 => ?_
    rw [Rp.inv_int p.rp]
    exact ⟨i, rfl, hq _ _ _ (XPost.plain p.p fun s => .int _)⟩
  · cases he

/-! ### comparisons, by values -/
/-- a comparison of our own: the two stand, the answer is a bool -/
def rCop (K : PySem.W.Frag) (op : Cop) : R2 := fun v w H Q => ∃ x y F G c, Rp K false H v x F ∧ Rp K false H w y G ∧ copD op x y = some c ∧ Q (.bl c) H
theorem shp_depth : ∀ (n : Nat) (d : PyData), shp n d = true → d.canLay0 = true ∧ d.depth ≤ n := by
  intro n
  induction n with
  | zero =>
    intro d h
    cases d <;> simp [shp, PyData.canLay0, PyData.depth] at h ⊢
    exact h
  | succ n ih =>
    have all : ∀ ds : List PyData, ds.all (shp n) = true → PyData.canLayAll0 ds = true ∧ PyData.depthAll ds ≤ n := by
      intro ds
      induction ds with
      | nil => intro _; exact ⟨by simp [PyData.canLayAll0], by simp [PyData.depthAll]⟩
      | cons d r ihr =>
        intro h
        rw [List.all_cons, Bool.and_eq_true] at h
        obtain ⟨a1, a2⟩ := ih d h.1
        obtain ⟨b1, b2⟩ := ihr h.2
        refine ⟨by simp [PyData.canLayAll0, a1, b1], ?_⟩
        unfold PyData.depthAll
        exact Nat.max_le.mpr ⟨a2, b2⟩
    intro d h
    cases d with
    | none => exact ⟨by simp [PyData.canLay0], by simp [PyData.depth]⟩
    | bool b => exact ⟨by simp [PyData.canLay0], by simp [PyData.depth]⟩
    | int i => exact ⟨by simp [PyData.canLay0], by simp [PyData.depth]⟩
    | str x => exact ⟨by simpa [shp, PyData.canLay0] using h, by simp [PyData.depth]⟩
    | list ds =>
      obtain ⟨h1, h2⟩ := all ds (by simpa [shp] using h)
      exact ⟨by simpa [PyData.canLay0] using h1, by simpa [PyData.depth] using h2⟩
    | tuple ds =>
      obtain ⟨h1, h2⟩ := all ds (by simpa [shp] using h)
      exact ⟨by simpa [PyData.canLay0] using h1, by simpa [PyData.depth] using h2⟩
    | dict kvs => simp [shp] at h
theorem shp_ok {d : PyData} (h : shp 6 d = true) : SeqAt.shaped d = true := by
  obtain ⟨h1, h2⟩ := shp_depth 6 d h
  unfold SeqAt.shaped
  rw [h1, Bool.true_and]
  exact decide_eq_true (by omega)
theorem cop_eq {x y : PyData} {c : Bool} (h : copD .eq x y = some c) : shp 6 x = true ∧ shp 6 y = true ∧ c = PyData.eqv x y := by
  have h2 : (if (shp 6 x && shp 6 y) = true then some (PyData.eqv x y) else none) = some c := by rw [← h, copD]
  split at h2
  · rename_i hs
    obtain ⟨s1, s2⟩ := Bool.and_eq_true_iff.mp hs
    exact ⟨s1, s2, (Option.some.inj h2).symm⟩
  · cases h2
theorem cop_ne {x y : PyData} {c : Bool} (h : copD .ne x y = some c) : shp 6 x = true ∧ shp 6 y = true ∧ c = !PyData.eqv x y := by
  have h2 : (if (shp 6 x && shp 6 y) = true then some (!PyData.eqv x y) else none) = some c := by rw [← h, copD]
  split at h2
  · rename_i hs
    obtain ⟨s1, s2⟩ := Bool.and_eq_true_iff.mp hs
    exact ⟨s1, s2, (Option.some.inj h2).symm⟩
  · cases h2
theorem flat_v {K : PySem.W.Frag} {t : Bool} {H : Hp} {v : V} {d : PyData} {F : List Addr} (h : Rp K t H v d F) (f : flatD d = true) : flatV v = true := by
  cases h <;> first | rfl | (simp [flatD] at f)
theorem flat_all {K : PySem.W.Frag} {t : Bool} {H : Hp} : ∀ {ds : List PyData} {vs : List V} {F : List Addr}, RpL K t H vs ds F → ds.all flatD = true → vs.all flatV = true
  | _, _, _, .nil, _ => rfl
  | _, _, _, .cons r h, f => by
    rw [List.all_cons, Bool.and_eq_true] at f
    rw [List.all_cons, flat_v r f.1, flat_all h f.2]
    rfl
theorem eqV_eqv {K : PySem.W.Frag} {t : Bool} {H : Hp} {v w : V} {d e : PyData} {F G : List Addr} (h : Rp K t H v d F) (h' : Rp K t H w e G) (f : flatD d = true) (f' : flatD e = true) : eqV v w = PyData.eqv d e := by
  cases h <;> cases h' <;> first | (simp [eqV, PyData.eqv]; done) | (simp [flatD] at f; done) | (simp [flatD] at f'; done) | (rename_i a b; simp only [eqV, PyData.eqv])
theorem any_eqv {K : PySem.W.Frag} {t : Bool} {H : Hp} {w : V} {e : PyData} {G : List Addr} (h' : Rp K t H w e G) (f' : flatD e = true) : ∀ {ds : List PyData} {vs : List V} {F : List Addr}, RpL K t H vs ds F → ds.all flatD = true → (vs.any fun y => eqV y w) = ds.any fun y => PyData.eqv y e
  | _, _, _, .nil, _ => rfl
  | _, _, _, .cons r h, f => by
    rw [List.all_cons, Bool.and_eq_true] at f
    rw [List.any_cons, List.any_cons, eqV_eqv r h' f.1 f', any_eqv h' f' h f.2]
theorem seq_sq {K : PySem.W.Frag} {t : Bool} {H : Hp} {v : V} {d : PyData} {ds : List PyData} {F : List Addr} (h : Rp K t H v d F) (hs : seqOf d = some ds) : ∃ p vs G, v = .ref p ∧ (SqL K H p vs ∨ SqT K H p vs) ∧ RpL K t H vs ds G ∧ ∀ a ∈ G, a ∈ F := by
  cases d <;> simp [seqOf] at hs
  · subst hs
    obtain ⟨a, vs, G, e, hq, r, s, _⟩ := h.list
    exact ⟨a, vs, G, e, .inl hq, r, s⟩
  · subst hs
    obtain ⟨a, vs, e, hq, r⟩ := h.tuple
    exact ⟨a, vs, F, e, .inr hq.sq, r, fun _ m => m⟩
theorem op_inM {neg : Bool} (hu : X.A.units + 64 < cLine) {op : Cop} (hop : op = .isin ∧ neg = false ∨ op = .notin ∧ neg = true) {f : Value → Value → Sem Value} (ho : OpR X f (rIn X.K neg)) : OpR X f (rCop X.K op) := by
  intro pins s σ H v w a b Q I rv rw' h
  obtain ⟨x, y, F, G, c, hx, hy, hc, q⟩ := h
  refine ho pins s σ H v w a b Q I rv rw' ?_
  have key : ∀ ds, seqOf y = some ds → ∀ c0, inD x ds = some c0 → c = (if neg then !c0 else c0) → rIn X.K neg v w H Q := fun ds hs c0 h0 hcc => by
    unfold inD at h0
    split at h0
    · rename_i hf
      cases h0
      obtain ⟨f1, f2⟩ := Bool.and_eq_true_iff.mp hf
      obtain ⟨p, vs, G', rfl, hq, r, _⟩ := seq_sq hy hs
      refine ⟨p, vs, rfl, hq, flat_v hx f1, flat_all r f2, ?_⟩
      have e : inV v vs = ds.any fun y => PyData.eqv y x := any_eqv hx f1 r f2
      rw [e]
      rw [hcc] at q
      exact q
    · cases h0
  rcases hop with ⟨rfl, rfl⟩ | ⟨rfl, rfl⟩
  · cases y <;> first | (simp [copD] at hc; done) | skip
    · exact key _ rfl c (by simpa [copD] using hc) rfl
    · exact key _ rfl c (by simpa [copD] using hc) rfl
  · cases y <;> first | (simp [copD] at hc; done) | skip
    · obtain ⟨c0, h0, e⟩ := Option.map_eq_some_iff.mp (show (inD x _).map (!·) = some c by simpa [copD] using hc)
      exact key _ rfl c0 h0 e.symm
    · obtain ⟨c0, h0, e⟩ := Option.map_eq_some_iff.mp (show (inD x _).map (!·) = some c by simpa [copD] using hc)
      exact key _ rfl c0 h0 e.symm
theorem op_cop {op : Cop} {o : CmpOp} (hu : X.A.units + 64 < cLine) (hop : copB op o = true) : OpR X (compareOp o) (rCop X.K op) := by
  have wk : ∀ {f : Value → Value → Sem Value} {r : R2}, OpR X f r → (∀ v w H Q, rCop X.K op v w H Q → r v w H Q) → OpR X f (rCop X.K op) := fun ho k pins s σ H v w a b Q I rv rw' h => ho pins s σ H v w a b Q I rv rw' (k v w H Q h)
  have intsK : ∀ {g : Int → Int → Bool}, (∀ x y c, copD op x y = some c → ∃ i j, x = .int i ∧ y = .int j ∧ c = g i j) → ∀ v w H Q, rCop X.K op v w H Q → rI0 (fun i j => .bl (g i j)) v w H Q := fun k v w H Q ⟨x, y, F, G, c, hx, hy, hc, q⟩ => by
    obtain ⟨i, j, rfl, rfl, rfl⟩ := k x y c hc
    exact ⟨i, j, Rp.inv_int hx, Rp.inv_int hy, q⟩
  cases op <;> cases o <;> first | exact absurd hop Bool.false_ne_true | skip
  · refine wk (op_eqD hu) fun v w H Q ⟨x, y, F, G, c, hx, hy, hc, q⟩ => ?_
    obtain ⟨s1, s2, rfl⟩ := cop_eq hc
    exact ⟨x, y, Rp.dp x hx, Rp.dp y hy, shp_ok s1, shp_ok s2, q⟩
  · refine wk (op_neD hu) fun v w H Q ⟨x, y, F, G, c, hx, hy, hc, q⟩ => ?_
    obtain ⟨s1, s2, rfl⟩ := cop_ne hc
    exact ⟨x, y, Rp.dp x hx, Rp.dp y hy, shp_ok s1, shp_ok s2, q⟩
  · exact wk op_lt (intsK fun x y c h => by cases x <;> cases y <;> simp [copD] at h; exact ⟨_, _, rfl, rfl, h.symm⟩)
  · exact wk op_le (intsK fun x y c h => by cases x <;> cases y <;> simp [copD] at h; exact ⟨_, _, rfl, rfl, h.symm⟩)
  · exact wk op_gt (intsK fun x y c h => by cases x <;> cases y <;> simp [copD] at h; exact ⟨_, _, rfl, rfl, h.symm⟩)
  · exact wk op_ge (intsK fun x y c h => by cases x <;> cases y <;> simp [copD] at h; exact ⟨_, _, rfl, rfl, h.symm⟩)
  · exact op_inM hu (.inl ⟨rfl, rfl⟩) op_in_seq
  · exact op_inM hu (.inr ⟨rfl, rfl⟩) op_notIn_seq
theorem cmp_ans {cl : Cl} {op : Cop} {a b : Ex} {σ : L2.St} {H : Hp} {E : Env} {P P' : PyData} {Fm : Nat → List Addr} {pa : Addr} {d : PyData} {Q : VK} (ok : EnvOk X.K E P σ H Fm pa) (he : ev cl (.cmp op a b) E P = some (d, P'))
    (hq : ∀ c H', d = .bool c → Post0 X.K E pa H P' H' → Q (.bl c) H') : tOp (rCop X.K op) (exTE X.K cl a) (exTE X.K cl b) σ H Q := by
  obtain ⟨x, P1, y, c, h1, h2, h3, rfl⟩ := ev_cmp he
  exact two_then ok h1 h2 fun v w H2 F G t => ⟨x, y, F, G, c, Rp.weak x t.r1, Rp.weak y t.r2, h3, hq c H2 rfl t.p⟩
theorem pe_cmpM {cl : Cl} {op : Cop} {o : CmpOp} {a b : Ex} {a' b' : Expr} {pos : Pos} (hu : X.A.units + 64 < cLine) (hop : copB op o = true) (hm : behindInMarks o b' = false) (ha : PE X a' (exTE X.K cl a)) (hb : PE X b' (exTE X.K cl b)) :
    PE X (.Compare a' [o] [b'] pos) (exTE X.K cl (.cmp op a b)) := by
  refine PE.imp (pe_cmpR (op_cop hu hop) ha hb hm) ?_
  rintro σ H Q ⟨E, P, Fm, pa, d, P', ok, he, hq⟩
  exact cmp_ans ok he fun c H' e p => hq _ _ _ (by subst e; exact XPost.plain p fun s => .bl _)
theorem pt_cmpM {cl : Cl} {op : Cop} {o : CmpOp} {a b : Ex} {a' b' : Expr} {pos : Pos} (hu : X.A.units + 64 < cLine) (hop : copB op o = true) (hm : behindInMarks o b' = false) (ha : PE X a' (exTE X.K cl a)) (hb : PE X b' (exTE X.K cl b)) :
    PT X (.Compare a' [o] [b'] pos) (exTT X.K cl (.cmp op a b)) := by
  refine PT.imp (pt_cmpR (op_cop hu hop) ha hb hm) ?_
  rintro σ H Q ⟨E, P, Fm, pa, c, P', ok, he, hq⟩
  exact cmp_ans ok he fun c' H' e p => by cases e; exact ⟨c, rfl, hq _ p⟩
theorem chain_ans {cl : Cl} {op op' : Cop} {a b c : Ex} {σ : L2.St} {H : Hp} {E : Env} {P P' : PyData} {Fm : Nat → List Addr} {pa : Addr} {d : PyData} {Q : VK} (ok : EnvOk X.K E P σ H Fm pa) (he : ev cl (.chain op op' a b c) E P = some (d, P'))
    (hq : ∀ k H', d = .bool k → Post0 X.K E pa H P' H' → Q (.bl k) H') : tChain (rCop X.K op) (rCop X.K op') (exTE X.K cl a) (exTE X.K cl b) (exTE X.K cl c) σ H Q := by
  obtain ⟨x, P1, y, P2, h1, h2, h3⟩ := ev_chain he
  refine two_then ok h1 h2 fun v w H2 F G t => ?_
  rcases h3 with ⟨h3, rfl, rfl⟩ | ⟨h3, z, k, h4, h5, rfl⟩
  · exact ⟨x, y, F, G, false, Rp.weak x t.r1, Rp.weak y t.r2, h3, false, rfl, hq false H2 rfl t.p⟩
  · refine ⟨x, y, F, G, true, Rp.weak x t.r1, Rp.weak y t.r2, h3, true, rfl, ?_⟩
    refine one_then (t.p.env ok) h4 fun u H3 F3 p3 ok3 => ?_
    exact ⟨y, z, G, F3, k, Rp.weak y (Rp.fx y t.r2 (t.v2.fx ok p3.p)), Rp.weak z p3.rp, h5, hq k H3 rfl (t.p.trans p3.p)⟩
theorem pe_chainM {cl : Cl} {op op' : Cop} {o o' : CmpOp} {a b c : Ex} {a' b' c' : Expr} {pos : Pos} (hu : X.A.units + 64 < cLine) (hop : copB op o = true) (hop' : copB op' o' = true) (hm : lastMarks [o, o'] [b', c'] = false)
    (ha : PE X a' (exTE X.K cl a)) (hb : PE X b' (exTE X.K cl b)) (hc : PE X c' (exTE X.K cl c)) : PE X (.Compare a' [o, o'] [b', c'] pos) (exTE X.K cl (.chain op op' a b c)) := by
  refine PE.imp (pe_chain (op_cop hu hop) (op_cop hu hop') ha hb hc hm) ?_
  rintro σ H Q ⟨E, P, Fm, pa, d, P', ok, he, hq⟩
  exact chain_ans ok he fun k H' e p => hq _ _ _ (by subst e; exact XPost.plain p fun s => .bl _)
theorem pt_chainM {cl : Cl} {op op' : Cop} {o o' : CmpOp} {a b c : Ex} {a' b' c' : Expr} {pos : Pos} (hu : X.A.units + 64 < cLine) (hop : copB op o = true) (hop' : copB op' o' = true) (hm : lastMarks [o, o'] [b', c'] = false)
    (ha : PE X a' (exTE X.K cl a)) (hb : PE X b' (exTE X.K cl b)) (hc : PE X c' (exTE X.K cl c)) : PT X (.Compare a' [o, o'] [b', c'] pos) (exTT X.K cl (.chain op op' a b c)) := by
  refine PT.imp (pt_chain (op_cop hu hop) (op_cop hu hop') ha hb hc hm) ?_
  rintro σ H Q ⟨E, P, Fm, pa, k, P', ok, he, hq⟩
  exact chain_ans ok he fun k' H' e p => by cases e; exact ⟨k, rfl, hq _ p⟩
end
end MP
set_option Elab.async false
set_option linter.all false
set_option maxRecDepth 100000
/-! Names, constants, tests, arguments, displays, calls, built-in functions. -/
namespace MP
open PySem PySem.Spec PyProof.Rows L2

/-- what a def promises, by our language's evaluation -/
def spF (K : PySem.W.Frag) (cl : Cl) (f : Nat) : Sp := fun vs H Q _ => ∃ ds P pa F d P', RaL K false H pa vs ds F ∧ (none ∈ ds → PotOk K H pa P ∧ pa ∉ F) ∧ cl f ds P = some (d, P') ∧
  ∀ v H' G, Frm (fun a => none ∈ ds ∧ a = pa) H H' → (none ∈ ds → PotOk K H' pa P') → Rp K true H' v d G → (∀ a ∈ G, H a = none) → Q v H'
structure GoodX (C : Cfg) (N : List Str) (cl : Cl) (n : Nat) (X : Cx) (sc osc : Scope) : Prop where
  eN : X.N = N
  nd : N.Nodup
  scp : X.env.scope = sc
  kind : sc.kind = .function
  own : ∀ x, locB osc x = true → L2.Loc X.env.scope x ∧ (X.fn x = true ∨ X.env.scope.names.lookup x = some .local)
  calm : X.calm = true
  xe : X.xe = fun _ _ => False
  hr : Room n X.A
  fns : ∀ x f, C.fid x = some f → ∃ a fd ps, X.mg x = some (.ref a) ∧ PySem.W.keepIn X.K (.ref a) = true ∧ L2.Binds X.K fd ps [] ∧ FnOk X.prog X.w X.K X.mg X.base CX0 n a fd ps (spF X.K cl f)
  cst : ∀ x d, C.cst x = some d → ∃ v u, X.mg x = some u ∧ RelV v u ∧ ∀ t H, Rp X.K t H v d []
  free : ∀ x ∈ bltNames, X.mg x = none

section
variable {X : Cx} {C : Cfg} {N : List Str} {cl : Cl} {n : Nat} {sc osc : Scope}
theorem vis_of (G : GoodX C N cl n X sc osc) {x : Str} (h : visB sc x = true) : Vis X.env.scope x := by
  rw [G.scp]
  unfold visB at h
  split at h
  · rename_i e; exact .inl e
  · rename_i e; exact .inr (.inl e)
  · rename_i e; exact .inr (.inr e)
  · cases h
theorem gl_of (G : GoodX C N cl n X sc osc) {x : Str} (h : glB sc x = true) : Gl X x := by
  show X.env.scope.names.lookup x = _
  rw [G.scp]
  unfold glB at h
  split at h
  · rename_i e; exact e
  · cases h
theorem nm_of {x : Str} (h : nmB x = true) : (x == ("__debug__" : Str)) = false ∧ (x == ("__classdict__" : Str)) = false ∧ x ≠ "__name__" := by
  unfold nmB at h
  simp only [Bool.and_eq_true, Bool.not_eq_true'] at h
  exact ⟨h.1, h.2.1, fun e => by rw [e] at h; exact absurd h.2.2 (by decide)⟩
theorem get_var {E : Env} {i : Nat} {d : PyData} (h : getV E i = some d) : ∃ k, E[i]? = some (some (k, d)) ∧ k ≠ Kd.io := by
  unfold getV at h
  split at h
  · cases h
  · rename_i k d' hne e
    cases h
    exact ⟨k, e, fun z => hne z⟩
  · cases h
theorem str_var {E : Env} {i : Nat} {k : Kd} {d : PyData} (h : E[i]? = some (some (k, d))) (hk : k ≠ Kd.io) : strV E [i] = true → strK k = true ∨ imm d = true := by
  intro hs
  unfold strV at hs
  rw [List.all_cons, List.all_nil, Bool.and_true, h] at hs
  cases k with
  | own => exact .inl rfl
  | fz => exact .inl rfl
  | ro => exact .inr hs
  | io => exact absurd rfl hk
theorem var_post {K : PySem.W.Frag} {E : Env} {P : PyData} {σ : L2.St} {H : Hp} {Fm : Nat → List Addr} {pa : Addr} {i : Nat} {k : Kd} {d : PyData} (ok : EnvOk K E P σ H Fm pa) (h : E[i]? = some (some (k, d))) (hk : k ≠ Kd.io) :
    ∃ v, σ[i]? = some (some v) ∧ XPost K E Fm pa [i] (imm d) H v d (Fm i) P H := by
  obtain ⟨v, e, r⟩ := ok.rep i k d h hk
  refine ⟨v, e, ⟨Post0.refl ok, ?_, fun a ha => .inr ⟨i, List.mem_singleton.mpr rfl, k, d, h, hk, ha⟩, fun hi => ?_⟩⟩
  · cases hs : strV E [i] with
    | false => exact Rp.weak d r
    | true =>
      rcases str_var h hk hs with q | q
      · exact r.to fun _ => q
      · obtain ⟨e1, r'⟩ := Rp.imm true d r q
        rw [e1]
        exact r'
  · obtain ⟨e1, r'⟩ := Rp.imm true d r hi
    rw [e1]
    exact ⟨r', fun a ha => nomatch ha⟩
theorem pe_varT (G : GoodX C N cl n X sc osc) {i : Nat} {x : Str} {p : Pos} (hN : N[i]? = some x) (hv : visB sc x = true) (hn : nmB x = true) : PE X (.Name x p) (tVar i) :=
  pe_var (by rw [G.eN]; exact hN) (vis_of G hv) (nm_of hn).1 (nm_of hn).2.1
theorem pe_varM (G : GoodX C N cl n X sc osc) {i : Nat} {x : Str} {p : Pos} (hN : N[i]? = some x) (hv : visB sc x = true) (hn : nmB x = true) : PE X (.Name x p) (exTE X.K cl (.var i)) := by
  refine PE.imp (pe_varT G hN hv hn) ?_
  rintro σ H Q ⟨E, P, Fm, pa, d, P', ok, he, hq⟩
  unfold ev at he
  cases e1 : getV E i with
  | none => rw [e1] at he; cases he
  | some d' =>
    rw [e1] at he
    cases he
    obtain ⟨k, h, hk⟩ := get_var e1
    obtain ⟨v, e, p⟩ := var_post ok h hk
    exact ⟨v, e, hq v H _ p⟩
theorem pe_conM (G : GoodX C N cl n X sc osc) {d : PyData} {c : Const} {k : Nat} {p : Pos} (h : conB d c = true) : PE X (.Constant c k p) (exTE X.K cl (.con d)) := by
  have fin : ∀ {v : V}, (∀ t H, Rp X.K t H v d []) → ∀ σ H Q, exTE X.K cl (.con d) σ H Q → Q v H := by
    rintro v r σ H Q ⟨E, P, Fm, pa, d', P', ok, he, hq⟩
    unfold ev at he
    cases he
    exact hq v H [] (XPost.plain (Post0.refl ok) fun t => r t H)
  cases d <;> cases c <;> first | exact absurd h Bool.false_ne_true | skip
  · exact PE.imp pe_non (fin fun _ _ => .non)
  · have e := eq_of_beq (show (_ == _) = true from h)
    subst e
    exact PE.imp pe_bl (fin fun _ _ => .bl _)
  · have e := of_decide_eq_true (show decide (_ = _) = true from h)
    subst e
    exact PE.imp pe_int (fin fun _ _ => .int _)
  · have e := of_decide_eq_true (show decide (_ = _) = true from h)
    subst e
    exact PE.imp pe_str (fin fun _ _ => .str _)
theorem pe_gloM (G : GoodX C N cl n X sc osc) {d d' : PyData} {x : Str} {p : Pos} (hg : glB sc x = true) (hn : nmB x = true) (hc : C.cst x = some d') (he : eqP d d' = true) : PE X (.Name x p) (exTE X.K cl (.con d)) := by
  have e := eqP_ok he
  subst e
  obtain ⟨v, u, hm, r, hr⟩ := G.cst x d hc
  refine PE.imp (pe_glob (gl_of G hg) hm r (nm_of hn).1) ?_
  rintro σ H Q ⟨E, P, Fm, pa, d', P', ok, he, hq⟩
  unfold ev at he
  cases he
  exact hq v H [] (XPost.plain (Post0.refl ok) fun t => hr t H)

/-! ### and, or, not, if -/
theorem pe_andM {a b : Ex} {a' b' : Expr} {r : List Expr} {p : Pos} (ha : PE X a' (exTE X.K cl a)) (hb : PE X (.BoolOp .And (b' :: r) p) (exTE X.K cl b)) : PE X (.BoolOp .And (a' :: b' :: r) p) (exTE X.K cl (.and a b)) := by
  refine PE.imp (pe_and ha hb) ?_
  rintro σ H Q ⟨E, P, Fm, pa, d, P', ok, he, hq⟩
  unfold ev at he
  split at he
  · rename_i P1 e1
    refine one_then ok e1 fun v H1 F p1 ok1 => ?_
    obtain ⟨rfl, rfl⟩ := p1.rp.boolV
    refine ⟨true, rfl, ?_⟩
    rw [if_pos rfl]
    refine one_then ok1 he fun w H2 F2 p2 ok2 => hq w H2 F2 ⟨p1.p.trans p2.p, p2.rp.to strV_right, (p2.pv.mono fun i hi => List.mem_append_right _ hi).back p1.p, fun hi => ?_⟩
    obtain ⟨e, r'⟩ := Rp.imm true d p2.rp hi
    subst e
    exact ⟨r', fun a ha => nomatch ha⟩
  · rename_i P1 e1
    cases he
    refine one_then ok e1 fun v H1 F p1 ok1 => ?_
    obtain ⟨rfl, rfl⟩ := p1.rp.boolV
    refine ⟨false, rfl, ?_⟩
    rw [if_neg Bool.false_ne_true]
    exact hq _ _ _ (XPost.plain p1.p fun t => .bl _)
  · cases he
theorem pe_orM {a b : Ex} {a' b' : Expr} {r : List Expr} {p : Pos} (ha : PE X a' (exTE X.K cl a)) (hb : PE X (.BoolOp .Or (b' :: r) p) (exTE X.K cl b)) : PE X (.BoolOp .Or (a' :: b' :: r) p) (exTE X.K cl (.or a b)) := by
  refine PE.imp (pe_or ha hb) ?_
  rintro σ H Q ⟨E, P, Fm, pa, d, P', ok, he, hq⟩
  unfold ev at he
  split at he
  · rename_i P1 e1
    refine one_then ok e1 fun v H1 F p1 ok1 => ?_
    obtain ⟨rfl, rfl⟩ := p1.rp.boolV
    refine ⟨false, rfl, ?_⟩
    rw [if_neg Bool.false_ne_true]
    refine one_then ok1 he fun w H2 F2 p2 ok2 => hq w H2 F2 ⟨p1.p.trans p2.p, p2.rp.to strV_right, (p2.pv.mono fun i hi => List.mem_append_right _ hi).back p1.p, fun hi => ?_⟩
    obtain ⟨e, r'⟩ := Rp.imm true d p2.rp hi
    subst e
    exact ⟨r', fun a ha => nomatch ha⟩
  · rename_i P1 e1
    cases he
    refine one_then ok e1 fun v H1 F p1 ok1 => ?_
    obtain ⟨rfl, rfl⟩ := p1.rp.boolV
    refine ⟨true, rfl, ?_⟩
    rw [if_pos rfl]
    exact hq _ _ _ (XPost.plain p1.p fun t => .bl _)
  · cases he
theorem pe_notM {a : Ex} {a' : Expr} {p : Pos} (ha : PE X a' (exTE X.K cl a)) : PE X (.UnaryOp .Not a' p) (exTE X.K cl (.not a)) := by
  refine PE.imp (pe_not ha) ?_
  rintro σ H Q ⟨E, P, Fm, pa, d, P', ok, he, hq⟩
  unfold ev at he
  split at he
  · rename_i c P1 e1
    cases he
    refine one_then ok e1 fun v H1 F p1 ok1 => ?_
    obtain ⟨rfl, rfl⟩ := p1.rp.boolV
    exact ⟨c, rfl, hq _ _ _ (XPost.plain p1.p fun t => .bl _)⟩
  · cases he
theorem pe_iteM {c a b : Ex} {c' a' b' : Expr} {p : Pos} (hc : PT X c' (exTT X.K cl c)) (ha : PE X a' (exTE X.K cl a)) (hb : PE X b' (exTE X.K cl b)) : PE X (.IfExp c' a' b' p) (exTE X.K cl (.ite c a b)) := by
  refine PE.imp (pe_ifExp hc ha hb) ?_
  rintro σ H Q ⟨E, P, Fm, pa, d, P', ok, he, hq⟩
  unfold ev at he
  split at he
  · rename_i P1 e1
    refine test_then ok e1 fun H1 p1 ok1 => ?_
    rw [if_pos rfl]
    refine one_then ok1 he fun w H2 F2 p2 ok2 => hq w H2 F2 ⟨p1.trans p2.p, p2.rp.to fun h => strV_left (strV_right h), (p2.pv.mono fun i hi => List.mem_append_right _ (List.mem_append_left _ hi)).back p1, fun hi => ?_⟩
    obtain ⟨h1, h2⟩ := p2.fs (Bool.and_eq_true_iff.mp (show (frs a d && frs b d) = true from hi)).1
    exact ⟨h1, fun z hz => p1.dom (h2 z hz)⟩
  · rename_i P1 e1
    refine test_then ok e1 fun H1 p1 ok1 => ?_
    rw [if_neg Bool.false_ne_true]
    refine one_then ok1 he fun w H2 F2 p2 ok2 => hq w H2 F2 ⟨p1.trans p2.p, p2.rp.to fun h => strV_right (strV_right h), (p2.pv.mono fun i hi => List.mem_append_right _ (List.mem_append_right _ hi)).back p1, fun hi => ?_⟩
    obtain ⟨h1, h2⟩ := p2.fs (Bool.and_eq_true_iff.mp (show (frs a d && frs b d) = true from hi)).2
    exact ⟨h1, fun z hz => p1.dom (h2 z hz)⟩
  · cases he
/-! ### tests -/
theorem pt_of {a : Ex} {a' : Expr} (ha : PE X a' (exTE X.K cl a)) (he : ∀ whole, PySem.isTrue a' X.env whole = (do let v ← whole; standAt a'.pos; holding [v] (truthy v))) : PT X a' (exTT X.K cl a) := by
  refine PT.imp (pt_val ha he) ?_
  rintro σ H Q ⟨E, P, Fm, pa, c, P', ok, he, hq⟩
  refine one_then ok he fun v H1 F p1 ok1 => ?_
  obtain ⟨rfl, rfl⟩ := p1.rp.boolV
  exact ⟨c, rfl, hq H1 p1.p⟩
theorem pw_andM {a b : Ex} {a' b' : Expr} {r : List Expr} {p : Pos} (ha : PT X a' (exTT X.K cl a)) (hb : PW X (.BoolOp .And (b' :: r) p) (exTT X.K cl b)) : PW X (.BoolOp .And (a' :: b' :: r) p) (exTT X.K cl (.and a b)) := by
  refine PW.imp (pw_and ha hb) ?_
  rintro σ H Q ⟨E, P, Fm, pa, c, P', ok, he, hq⟩
  unfold ev at he
  split at he
  · rename_i P1 e1
    refine test_then ok e1 fun H1 p1 ok1 => ?_
    rw [if_pos rfl]
    exact test_then ok1 he fun H2 p2 _ => hq H2 (p1.trans p2)
  · rename_i P1 e1
    cases he
    refine test_then ok e1 fun H1 p1 ok1 => ?_
    rw [if_neg Bool.false_ne_true]
    exact hq _ p1
  · cases he
theorem pw_orM {a b : Ex} {a' b' : Expr} {r : List Expr} {p : Pos} (ha : PT X a' (exTT X.K cl a)) (hb : PW X (.BoolOp .Or (b' :: r) p) (exTT X.K cl b)) : PW X (.BoolOp .Or (a' :: b' :: r) p) (exTT X.K cl (.or a b)) := by
  refine PW.imp (pw_or ha hb) ?_
  rintro σ H Q ⟨E, P, Fm, pa, c, P', ok, he, hq⟩
  unfold ev at he
  split at he
  · rename_i P1 e1
    refine test_then ok e1 fun H1 p1 ok1 => ?_
    rw [if_neg Bool.false_ne_true]
    exact test_then ok1 he fun H2 p2 _ => hq H2 (p1.trans p2)
  · rename_i P1 e1
    cases he
    refine test_then ok e1 fun H1 p1 ok1 => ?_
    rw [if_pos rfl]
    exact hq _ p1
  · cases he
theorem pt_notM {a : Ex} {a' : Expr} {p : Pos} (ha : PT X a' (exTT X.K cl a)) : PT X (.UnaryOp .Not a' p) (exTT X.K cl (.not a)) := by
  refine PT.imp (pt_not ha) ?_
  rintro σ H Q ⟨E, P, Fm, pa, c, P', ok, he, hq⟩
  unfold ev at he
  split at he
  · rename_i k P1 e1
    cases he
    exact test_then ok e1 fun H1 p1 ok1 => hq H1 p1
  · cases he

/-! ### arguments -/
theorem star_cons {e : Expr} {es : List Expr} {env : PySem.Env} (h : noStar e = true) : starEach (e :: es) env = (false, eval e env) :: starEach es env := by
  cases e <;> first | rfl | exact absurd h Bool.false_ne_true
theorem pa_nilM : PA X [] (exTA X.K cl .nil) := by
  refine PA.imp pa_nil ?_
  rintro σ H Q ⟨E, P, Fm, pa, ds, P', ok, he, hq⟩
  unfold evs at he
  cases he
  exact hq [] H [] ⟨Post0.refl ok, .nil, Pv.nil, fun h => nomatch h⟩
theorem pa_consM {a : Ex} {r : Exs} {e : Expr} {es : List Expr} (hs : noStar e = true) (ha : PE X e (exTE X.K cl a)) (hr : PA X es (exTA X.K cl r)) : PA X (e :: es) (exTA X.K cl (.cons a r)) := by
  refine PA.imp (pa_cons ha hr (star_cons hs)) ?_
  rintro σ H Q ⟨E, P, Fm, pa, ds, P', ok, he, hq⟩
  unfold evs at he
  cases e1 : ev cl a E P with
  | none => rw [e1] at he; cases he
  | some x =>
    obtain ⟨d, P1⟩ := x
    rw [e1] at he
    dsimp only at he
    cases e2 : evs cl r E P1 with
    | none => rw [e2] at he; cases he
    | some y =>
      obtain ⟨ds2, P2⟩ := y
      rw [e2] at he
      cases he
      refine one_then ok e1 fun v H1 F p1 ok1 => args_then ok1 e2 fun vs H2 G p2 ok2 => hq _ H2 (F ++ G) ⟨p1.p.trans p2.p, .cons ((Rp.fx d p1.rp (p1.pv.fx ok p2.p)).to strV_left) (p2.rp.to strV_right), Pv.append p1.pv (p2.pv.back p1.p), fun h => ?_⟩
      rcases List.mem_cons.mp h with z | z
      · cases z
      · exact p2.io z
theorem pa_starM {a : Ex} {r : Exs} {e : Expr} {es : List Expr} {p : Pos} (ha : PE X e (exTE X.K cl a)) (hr : PA X es (exTA X.K cl r)) : PA X (.Starred e p :: es) (exTA X.K cl (.star a r)) := by
  refine PA.imp (StX.pa_star ha hr) ?_
  rintro σ H Q ⟨E, P, Fm, pa, ds, P', ok, he, hq⟩
  unfold evs at he
  cases e1 : ev cl a E P with
  | none => rw [e1] at he; cases he
  | some x =>
    obtain ⟨d, P1⟩ := x
    rw [e1] at he
    dsimp only at he
    cases e3 : seqOf d with
    | none => rw [e3] at he; cases he
    | some xs =>
      rw [e3] at he
      dsimp only at he
      cases e2 : evs cl r E P1 with
      | none => rw [e2] at he; cases he
      | some y =>
        obtain ⟨ds2, P2⟩ := y
        rw [e2] at he
        cases he
        refine one_then ok e1 fun v H1 F p1 ok1 => ?_
        obtain ⟨q, ws, G1, rfl, hsq, rr, hsub⟩ := seq_sq p1.rp e3
        refine ⟨q, ws, rfl, hsq.symm, args_then ok1 e2 fun vs H2 G p2 ok2 => hq _ H2 (G1 ++ G) ⟨p1.p.trans p2.p, RaL.append (RaL.of ((RpL.fx xs rr ((p1.pv.fx ok p2.p).sub hsub)).to strV_left)) (p2.rp.to strV_right), Pv.append (p1.pv.sub hsub) (p2.pv.back p1.p), fun h => ?_⟩⟩
        rcases List.mem_append.mp h with z | z
        · obtain ⟨w, _, hw⟩ := List.mem_map.mp z
          cases hw
        · exact p2.io z
theorem pa_ioM (G : GoodX C N cl n X sc osc) {i : Nat} {x : Str} {p : Pos} {r : Exs} {es : List Expr} (hN : N[i]? = some x) (hv : visB sc x = true) (hn : nmB x = true) (hr : PA X es (exTA X.K cl r)) : PA X (.Name x p :: es) (exTA X.K cl (.io i r)) := by
  refine PA.imp (pa_cons (pe_varT G hN hv hn) hr) ?_
  rintro σ H Q ⟨E, P, Fm, pa, ds, P', ok, he, hq⟩
  unfold evs at he
  split at he
  · rename_i d0 h0
    cases e2 : evs cl r E P with
    | none => rw [e2] at he; cases he
    | some y =>
      obtain ⟨ds2, P2⟩ := y
      rw [e2] at he
      cases he
      refine ⟨.ref pa, ok.io i d0 h0, args_then ok e2 fun vs H2 G p2 ok2 => hq _ H2 G ⟨p2.p, .io p2.rp, p2.pv, fun _ => hasIo_of h0⟩⟩
  · cases he

/-! ### displays -/
theorem pe_tupM {as : Exs} {es : List Expr} {k : Nat} {p : Pos} (ha : PA X es (exTA X.K cl as)) : PE X (.Tuple es k p) (exTE X.K cl (.tup as)) := by
  refine PE.imp (pe_tup ha) ?_
  rintro σ H Q ⟨E, P, Fm, pa, d, P', ok, he, hq⟩
  unfold ev at he
  cases e1 : evs cl as E P with
  | none => rw [e1] at he; cases he
  | some y =>
    obtain ⟨ds, P1⟩ := y
    rw [e1] at he
    dsimp only at he
    obtain ⟨xs, e2, e3⟩ := Option.bind_eq_some_iff.mp he
    split at e3
    · rename_i hl
      cases e3
      refine args_then ok e1 fun vs H1 F p1 ok1 => ?_
      have r := p1.rp.un e2
      have hlen := r.len
      have hL := LIM_line
      refine ⟨by omega, fun q hq' => hq _ _ _ (XPost.newT p1.p hq' r (fun h => h) p1.pv fun h => by simpa [frs, imm] using h)⟩
    · cases e3
theorem pe_lstM {as : Exs} {es : List Expr} {p : Pos} (ha : PA X es (exTA X.K cl as)) : PE X (.List es p) (exTE X.K cl (.lst as)) := by
  refine PE.imp (pe_lst ha) ?_
  rintro σ H Q ⟨E, P, Fm, pa, d, P', ok, he, hq⟩
  unfold ev at he
  cases e1 : evs cl as E P with
  | none => rw [e1] at he; cases he
  | some y =>
    obtain ⟨ds, P1⟩ := y
    rw [e1] at he
    dsimp only at he
    obtain ⟨xs, e2, e3⟩ := Option.bind_eq_some_iff.mp he
    split at e3
    · rename_i hl
      cases e3
      refine args_then ok e1 fun vs H1 F p1 ok1 => ?_
      have r := p1.rp.un e2
      have hlen := r.len
      have hL := LIM_line
      refine ⟨by omega, fun q hq' => hq _ _ _ (XPost.newL p1.p hq' r (fun h => h) p1.pv fun h => h)⟩
    · cases e3

/-! ### calls of the program's defs -/
theorem any_none {ds : List (Option PyData)} : ds.any (·.isNone) = true ↔ none ∈ ds := by
  rw [List.any_eq_true]
  constructor
  · rintro ⟨x, hx, h⟩
    cases x with
    | none => exact hx
    | some d => cases h
  · exact fun h => ⟨none, h, rfl⟩
theorem star_all : ∀ {as : Exs} {es : List Expr} {m : Nat}, chkA C N m sc as es = true → (∀ e r, as ≠ .star e r) → True := fun _ _ => trivial
theorem pe_callM (G : GoodX C N cl n X sc osc) {f : Nat} {as : Exs} {x : Str} {p p' : Pos} {e : Expr} {es : List Expr} (hg : glB sc x = true) (hn : nmB x = true) (hf : C.fid x = some f) (ha : PA X (e :: es) (exTA X.K cl as))
    (hs : noStar e = true) (hs2 : (backTo p' (starEach es X.env)).any (·.1) = false) : PE X (.Call (.Name x p) (e :: es) [] p') (exTE X.K cl (.call f as)) := by
  obtain ⟨a, fd, ps, hm, hk, hb, F⟩ := G.fns x f hf
  refine PE.imp (pe_call F G.hr (gl_of G hg) hm hk hb .nil pass0 ha (nm_of hn).1 (star_cons hs) hs2) ?_
  rintro σ H Q ⟨E, P, Fm, pa, d, P', ok, he, hq⟩
  unfold ev at he
  cases e1 : evs cl as E P with
  | none => rw [e1] at he; cases he
  | some y =>
    obtain ⟨ds, P1⟩ := y
    rw [e1] at he
    dsimp only at he
    obtain ⟨⟨d2, P2⟩, e2, e3⟩ := Option.map_eq_some_iff.mp he
    cases e3
    refine args_then ok e1 fun vs H1 F1 p1 ok1 => ?_
    rw [List.append_nil]
    refine ⟨ds, P1, pa, F1, d2, P2, p1.rp.to (fun h => Bool.noConfusion h), fun hio => ⟨p1.p.pot (p1.io hio), fun hmem => p1.pv.notPw ok pa hmem ⟨p1.io hio, rfl⟩⟩, e2, fun v H' G' fr po r nw => hq v H' G' ?_⟩
    have p2 : Post0 X.K E pa H1 (if ds.any (·.isNone) = true then P2 else P1) H' := by
      refine ⟨fr.mono fun b o _ ⟨h1, h2⟩ => ⟨p1.io h1, h2⟩, fun hio => ?_⟩
      by_cases hn' : none ∈ ds
      · rw [if_pos (any_none.mpr hn')]
        exact po hn'
      · rw [if_neg fun z => hn' (any_none.mp z)]
        have fx : Fx [pa] H1 H' := fr.fx fun b hb ⟨h1, _⟩ => hn' h1
        obtain ⟨ws, xs, h1, h2, h3⟩ := p1.p.pot hio
        exact ⟨ws, xs, fx.2 pa (List.mem_singleton.mpr rfl) _ h1, RpL.fx xs h2 (fx.sub fun _ m => nomatch m), h3⟩
    exact ⟨p1.p.trans p2, r.to fun _ => rfl, fun b hb => .inl (p1.p.dom (nw b hb)), fun _ => ⟨r, fun b hb => p1.p.dom (nw b hb)⟩⟩
end
end MP
set_option Elab.async false
set_option linter.all false
set_option maxRecDepth 100000
/-! Built-in functions, isinstance, items, slices. -/
namespace MP
open PySem PySem.Spec PyProof.Rows L2

/-! ### ints and bools of data -/
theorem intsOf_map : ∀ {ds : List PyData} {ns : List Int}, intsOf ds = some ns → ds = ns.map PyData.int
  | [], ns, h => by cases h; rfl
  | d :: r, ns, h => by
    cases d <;> simp only [intsOf] at h <;> try cases h
    obtain ⟨ms, e, rfl⟩ := Option.map_eq_some_iff.mp h
    rw [intsOf_map e]
    rfl
theorem boolsOf_map : ∀ {ds : List PyData} {ns : List Bool}, boolsOf ds = some ns → ds = ns.map PyData.bool
  | [], ns, h => by cases h; rfl
  | d :: r, ns, h => by
    cases d <;> simp only [boolsOf] at h <;> try cases h
    obtain ⟨ms, e, rfl⟩ := Option.map_eq_some_iff.mp h
    rw [boolsOf_map e]
    rfl
theorem maxI_spec : ∀ (r : List Int) (m : Int), (maxI m r = m ∨ maxI m r ∈ r) ∧ m ≤ maxI m r ∧ ∀ y ∈ r, y ≤ maxI m r
  | [], m => ⟨.inl rfl, Int.le_refl _, fun y hy => nomatch hy⟩
  | n :: r, m => by
    unfold maxI
    obtain ⟨h1, h2, h3⟩ := maxI_spec r (if n > m then n else m)
    refine ⟨?_, ?_, fun y hy => ?_⟩
    · rcases h1 with h1 | h1
      · rw [h1]
        split
        · exact .inr List.mem_cons_self
        · exact .inl rfl
      · exact .inr (List.mem_cons_of_mem _ h1)
    · split at h2 <;> rename_i hc <;> first | (rw [if_pos hc]; omega) | (rw [if_neg hc]; omega)
    · rcases List.mem_cons.mp hy with rfl | hy
      · split at h2 <;> rename_i hc <;> first | (rw [if_pos hc]; omega) | (rw [if_neg hc]; omega)
      · exact h3 y hy
theorem minI_spec : ∀ (r : List Int) (m : Int), (minI m r = m ∨ minI m r ∈ r) ∧ minI m r ≤ m ∧ ∀ y ∈ r, minI m r ≤ y
  | [], m => ⟨.inl rfl, Int.le_refl _, fun y hy => nomatch hy⟩
  | n :: r, m => by
    unfold minI
    obtain ⟨h1, h2, h3⟩ := minI_spec r (if n < m then n else m)
    refine ⟨?_, ?_, fun y hy => ?_⟩
    · rcases h1 with h1 | h1
      · rw [h1]
        split
        · exact .inr List.mem_cons_self
        · exact .inl rfl
      · exact .inr (List.mem_cons_of_mem _ h1)
    · split at h2 <;> rename_i hc <;> first | (rw [if_pos hc]; omega) | (rw [if_neg hc]; omega)
    · rcases List.mem_cons.mp hy with rfl | hy
      · split at h2 <;> rename_i hc <;> first | (rw [if_pos hc]; omega) | (rw [if_neg hc]; omega)
      · exact h3 y hy
theorem insI_perm (n : Int) : ∀ r : List Int, (insI n r).Perm (n :: r)
  | [] => List.Perm.refl _
  | m :: r => by
    unfold insI
    split
    · exact List.Perm.refl _
    · exact ((insI_perm n r).cons m).trans (List.Perm.swap n m r)
theorem sortI_perm : ∀ r : List Int, (sortI r).Perm r
  | [] => List.Perm.refl _
  | n :: r => (insI_perm n (sortI r)).trans ((sortI_perm r).cons n)
theorem insI_sorted (n : Int) : ∀ r : List Int, r.Pairwise (· ≤ ·) → (insI n r).Pairwise (· ≤ ·)
  | [], _ => by simp [insI]
  | m :: r, h => by
    unfold insI
    obtain ⟨h1, h2⟩ := List.pairwise_cons.mp h
    split
    · rename_i hc
      refine List.pairwise_cons.mpr ⟨fun y hy => ?_, h⟩
      rcases List.mem_cons.mp hy with rfl | hy
      · exact hc
      · exact Int.le_trans hc (h1 y hy)
    · rename_i hc
      refine List.pairwise_cons.mpr ⟨fun y hy => ?_, insI_sorted n r h2⟩
      rcases List.mem_cons.mp ((insI_perm n r).mem_iff.mp hy) with rfl | hy
      · omega
      · exact h1 y hy
theorem sortI_sorted : ∀ r : List Int, (sortI r).Pairwise (· ≤ ·)
  | [] => List.Pairwise.nil
  | n :: r => insI_sorted n _ (sortI_sorted r)

/-! ### sum of a tuple -/
section
variable {prog : Program} {w : World} {A : Around} {E : Value → Shared → Prop} {s : Shared} {l : Addr} {xs : Array (Int × Tok)}
theorem iter_tupInts {Q : Value → Shared → Prop} {its : Array Value} (hl : s.heap.IsTuple l its)
    (h : ∀ s₂ : Shared, s₂ = { s with heap := s.heap.push { cls := .type "tuple_iterator", data := .fields #[.ref l, .int 0 0] } } →
      (s₂.heap.IsTupleIter s.heap.objs.size l 0 ∧ s₂.heap.IsTuple l its) → (∀ b ∈ [s.heap.objs.size, l], b < s₂.heap.objs.size) → l ≠ s.heap.objs.size → Q (.ref s.heap.objs.size) s₂) :
    wpAny (model prog w) A (pyIter (.ref l)) Q E s := by
  obtain ⟨o, ho, hc, n, hd⟩ := id hl
  have hlt : l < s.heap.objs.size := Heap.lt_size ho
  refine wpAny_pyIter_tuple hl (h _ rfl ⟨⟨_, Heap.get?_push_size _ rfl, rfl, rfl⟩, ⟨o, Heap.get?_push_of_some _ ho, hc, n, hd⟩⟩ (fun b hb => ?_) (Nat.ne_of_lt hlt))
  show b < (s.heap.push _).objs.size
  rw [Heap.size_push]
  rcases List.mem_cons.mp hb with rfl | hb
  · exact Nat.lt_succ_self _
  · rcases List.mem_cons.mp hb with rfl | hb
    · exact Nat.lt_succ_of_lt hlt
    · cases hb
theorem sum_tupInts {Q : Value → Shared → Prop} (hh : A.handled = none) (hl : s.heap.IsTuple l (intItems xs))
    (h : ∀ h' tk t', (∀ b o, s.heap.get? b = some o → h'.get? b = some o) → Q (.int (preSum (numAt xs) xs.size) t') { s with heap := h', toks := tk }) :
    wpAny (model prog w) A (call (.builtin "sum") [.ref l]) Q E s := by
  refine call_sum_walkG (iter_tupInts hl fun s₂ e st hfp hlI => ?_)
  subst e
  refine ⟨_, _, _, _, _, _, numAt xs, rfl, Walks.tuple (A := A.in1) hh _ l hlI (intItems xs), st, hfp, (fun _ _ => intItems_at), fun h' tk t' hk => ?_⟩
  have := h h' tk t' fun b o e => hk b o (by simp only [List.mem_singleton]; exact Nat.ne_of_lt (Heap.lt_size e)) (Heap.get?_push_of_some _ e)
  simpa [intItems] using this
end
section
variable {X : Cx}
def rSumT (K : PySem.W.Frag) : List V → Hp → VK → Prop := fun vs H Q => ∃ (a : Addr) (ns : List Int), vs = [V.ref a] ∧ SqT K H a (ns.map V.int) ∧ Q (.int ns.sum) H
theorem cr_sumT (hc : X.calm = true) : CallR X (.builtin "sum") (rSumT X.K) := by
  intro pins s σ H vs us Q I r h
  obtain ⟨a, ns, rfl, hs, q⟩ := h
  obtain ⟨its, rv, hl, _⟩ := I.tuple hs
  rw [Vals.ref1 r]
  obtain ⟨xs, e⟩ := rv.ints.allInts.items
  have hn : numsOf (intItems xs).toList = ns := by rw [← e]; exact rv.ints.numsOf
  rw [nums_intItems] at hn
  have hl' : s.heap.IsTuple a (intItems xs) := by rw [← e]; exact hl
  refine sum_tupInts (I.ok.hd hc) hl' fun h' tk t' hk => ?_
  rw [preSum_eq, List.take_of_length_le (by simp), hn]
  exact ⟨.int _, H, I.kept hk, ⟨_, rfl⟩, q⟩
end

/-! ### the answers of built-in functions -/
def Ans (K : PySem.W.Frag) (t : Bool) (H : Hp) (F : List Addr) (d : PyData) (Q : VK) : Prop :=
  (∀ v, (∀ s, Rp K s H v d []) → Q v H) ∧
  (∀ ds vs q G, d = .list ds → H q = none → RpL K t H vs ds G → (∀ a ∈ G, a ∈ F) → Q (.ref q) (upd H q (.lst vs))) ∧
  (∀ ds vs q G, d = .tuple ds → H q = none → RpL K t H vs ds G → (∀ a ∈ G, a ∈ F) → Q (.ref q) (upd H q (.tup vs))) ∧
  (∀ ds v G, d = .tuple ds → Rp K t H v d G → (∀ a ∈ G, a ∈ F) → Q v H)
theorem Ans.flat {K : PySem.W.Frag} {t : Bool} {H : Hp} {F : List Addr} {d : PyData} {Q : VK} (h : Ans K t H F d Q) {v : V} (r : ∀ s, Rp K s H v d []) : Q v H := h.1 v r
def rBlt (K : PySem.W.Frag) (b : Blt) : List V → Hp → VK → Prop := fun vs H Q => ∃ t F ds d, RpL K t H vs ds F ∧ bltD b ds = some d ∧ Ans K t H F d Q
def bltV : Blt → Value
  | .len => .builtin "len"
  | .abs => .builtin "abs"
  | .min2 => .builtin "min"
  | .max2 => .builtin "max"
  | .maxl => .builtin "max"
  | .minl => .builtin "min"
  | .sum => .builtin "sum"
  | .all => .builtin "all"
  | .any => .builtin "any"
  | .sorted => .builtin "sorted"
  | .int => .type "int"
  | .list => .type "list"
  | .tuple => .type "tuple"
section
variable {K : PySem.W.Frag} {t : Bool} {H : Hp} {vs : List V} {F : List Addr}
theorem rp1 {d : PyData} (h : RpL K t H vs [d] F) : ∃ v, vs = [v] ∧ Rp K t H v d F := by
  cases h with
  | cons r h2 =>
    cases h2
    rw [List.append_nil]
    exact ⟨_, rfl, r⟩
theorem rp2 {d e : PyData} (h : RpL K t H vs [d, e] F) : ∃ v w F1 F2, vs = [v, w] ∧ Rp K t H v d F1 ∧ Rp K t H w e F2 ∧ F = F1 ++ F2 := by
  cases h with
  | cons r h2 =>
    cases h2 with
    | cons r2 h3 =>
      cases h3
      rw [List.append_nil]
      exact ⟨_, _, _, _, rfl, r, r2, rfl⟩
theorem blt_len {ds : List PyData} {d : PyData} (h : bltD .len ds = some d) : ∃ x xs, ds = [x] ∧ seqOf x = some xs ∧ d = .int xs.length := by
  rcases ds with _ | ⟨x, _ | ⟨y, r⟩⟩ <;> (try (cases x)) <;> simp [bltD] at h
  · exact ⟨_, _, rfl, rfl, h.symm⟩
  · exact ⟨_, _, rfl, rfl, h.symm⟩
theorem blt_abs {ds : List PyData} {d : PyData} (h : bltD .abs ds = some d) : ∃ i, ds = [.int i] ∧ d = .int (if i < 0 then -i else i) := by
  rcases ds with _ | ⟨x, _ | ⟨y, r⟩⟩ <;> (try (cases x)) <;> simp [bltD] at h
  exact ⟨_, rfl, h.symm⟩
theorem blt_min2 {ds : List PyData} {d : PyData} (h : bltD .min2 ds = some d) : ∃ i j, ds = [.int i, .int j] ∧ d = .int (if j < i then j else i) := by
  rcases ds with _ | ⟨x, _ | ⟨y, _ | ⟨z, r⟩⟩⟩ <;> (try (cases x)) <;> (try (cases y)) <;> simp [bltD] at h
  exact ⟨_, _, rfl, h.symm⟩
theorem blt_max2 {ds : List PyData} {d : PyData} (h : bltD .max2 ds = some d) : ∃ i j, ds = [.int i, .int j] ∧ d = .int (if j > i then j else i) := by
  rcases ds with _ | ⟨x, _ | ⟨y, _ | ⟨z, r⟩⟩⟩ <;> (try (cases x)) <;> (try (cases y)) <;> simp [bltD] at h
  exact ⟨_, _, rfl, h.symm⟩
theorem blt_maxl {ds : List PyData} {d : PyData} (h : bltD .maxl ds = some d) : ∃ n r, ds = [.list ((n :: r).map PyData.int)] ∧ d = .int (maxI n r) := by
  rcases ds with _ | ⟨x, _ | ⟨y, r⟩⟩ <;> (try (cases x)) <;> simp [bltD] at h
  split at h <;> try cases h
  rename_i n r e
  exact ⟨n, r, by rw [intsOf_map e], rfl⟩
theorem blt_minl {ds : List PyData} {d : PyData} (h : bltD .minl ds = some d) : ∃ n r, ds = [.list ((n :: r).map PyData.int)] ∧ d = .int (minI n r) := by
  rcases ds with _ | ⟨x, _ | ⟨y, r⟩⟩ <;> (try (cases x)) <;> simp [bltD] at h
  split at h <;> try cases h
  rename_i n r e
  exact ⟨n, r, by rw [intsOf_map e], rfl⟩
theorem blt_sum {ds : List PyData} {d : PyData} (h : bltD .sum ds = some d) : ∃ ns : List Int, (ds = [.list (ns.map PyData.int)] ∨ ds = [.tuple (ns.map PyData.int)]) ∧ d = .int ns.sum := by
  rcases ds with _ | ⟨x, _ | ⟨y, r⟩⟩ <;> (try (cases x)) <;> simp [bltD] at h
  · obtain ⟨ns, e, h⟩ := h
    exact ⟨ns, .inl (by rw [intsOf_map e]), h.symm⟩
  · obtain ⟨ns, e, h⟩ := h
    exact ⟨ns, .inr (by rw [intsOf_map e]), h.symm⟩
theorem blt_all {ds : List PyData} {d : PyData} (h : bltD .all ds = some d) : ∃ bs : List Bool, ds = [.list (bs.map PyData.bool)] ∧ d = .bool (bs.all id) := by
  rcases ds with _ | ⟨x, _ | ⟨y, r⟩⟩ <;> (try (cases x)) <;> simp [bltD] at h
  obtain ⟨ns, e, h⟩ := h
  exact ⟨ns, by rw [boolsOf_map e], by simpa using h.symm⟩
theorem blt_any {ds : List PyData} {d : PyData} (h : bltD .any ds = some d) : ∃ bs : List Bool, ds = [.list (bs.map PyData.bool)] ∧ d = .bool (bs.any id) := by
  rcases ds with _ | ⟨x, _ | ⟨y, r⟩⟩ <;> (try (cases x)) <;> simp [bltD] at h
  obtain ⟨ns, e, h⟩ := h
  exact ⟨ns, by rw [boolsOf_map e], by simpa using h.symm⟩
theorem blt_sorted {ds : List PyData} {d : PyData} (h : bltD .sorted ds = some d) : ∃ ns : List Int, ds = [.list (ns.map PyData.int)] ∧ d = .list ((sortI ns).map PyData.int) := by
  rcases ds with _ | ⟨x, _ | ⟨y, r⟩⟩ <;> (try (cases x)) <;> simp [bltD] at h
  obtain ⟨ns, e, h⟩ := h
  exact ⟨ns, by rw [intsOf_map e], h.symm⟩
theorem blt_int {ds : List PyData} {d : PyData} (h : bltD .int ds = some d) : (∃ i, ds = [.int i] ∧ d = .int i) ∨ ∃ b, ds = [.bool b] ∧ d = .int (if b then 1 else 0) := by
  rcases ds with _ | ⟨x, _ | ⟨y, r⟩⟩ <;> (try (cases x)) <;> simp [bltD] at h
  · exact .inr ⟨_, rfl, h.symm⟩
  · exact .inl ⟨_, rfl, h.symm⟩
theorem blt_list {ds : List PyData} {d : PyData} (h : bltD .list ds = some d) : ∃ x xs, ds = [x] ∧ seqOf x = some xs ∧ d = .list xs := by
  rcases ds with _ | ⟨x, _ | ⟨y, r⟩⟩ <;> (try (cases x)) <;> simp [bltD] at h
  · exact ⟨_, _, rfl, rfl, h.symm⟩
  · exact ⟨_, _, rfl, rfl, h.symm⟩
theorem blt_tuple {ds : List PyData} {d : PyData} (h : bltD .tuple ds = some d) : ∃ xs, (ds = [.list xs] ∨ ds = [.tuple xs]) ∧ d = .tuple xs := by
  rcases ds with _ | ⟨x, _ | ⟨y, r⟩⟩ <;> (try (cases x)) <;> simp [bltD] at h
  · exact ⟨_, .inl rfl, h.symm⟩
  · exact ⟨_, .inr rfl, h.symm⟩
end
section
variable {X : Cx}
theorem CallR.imp {f : Value} {r r' : List V → Hp → VK → Prop} (h : CallR X f r) (hi : ∀ vs H Q, r' vs H Q → r vs H Q) : CallR X f r' := fun pins s σ H vs us Q I rr x => h pins s σ H vs us Q I rr (hi vs H Q x)
theorem cr_blt (hc : X.calm = true) : ∀ b : Blt, CallR X (bltV b) (rBlt X.K b)
  | .len => CallR.imp call_len_seq fun vs H Q ⟨t, F, ds, d, r, e, an⟩ => by
    obtain ⟨x, xs, rfl, hs, rfl⟩ := blt_len e
    obtain ⟨v, rfl, rv⟩ := rp1 r
    obtain ⟨p, ws, G, rfl, hq, rr, _⟩ := seq_sq rv hs
    refine ⟨p, ws, rfl, hq, an.flat fun s => ?_⟩
    rw [rr.len]
    exact .int _
  | .abs => CallR.imp call_abs fun vs H Q ⟨t, F, ds, d, r, e, an⟩ => by
    obtain ⟨i, rfl, rfl⟩ := blt_abs e
    obtain ⟨v, rfl, rv⟩ := rp1 r
    rw [Rp.inv_int rv]
    exact ⟨i, rfl, an.flat fun s => .int _⟩
  | .min2 => CallR.imp (call_min2 hc) fun vs H Q ⟨t, F, ds, d, r, e, an⟩ => by
    obtain ⟨i, j, rfl, rfl⟩ := blt_min2 e
    obtain ⟨v, w, F1, F2, rfl, r1, r2, _⟩ := rp2 r
    rw [Rp.inv_int r1, Rp.inv_int r2]
    exact ⟨i, j, rfl, an.flat fun s => .int _⟩
  | .max2 => CallR.imp (call_max2 hc) fun vs H Q ⟨t, F, ds, d, r, e, an⟩ => by
    obtain ⟨i, j, rfl, rfl⟩ := blt_max2 e
    obtain ⟨v, w, F1, F2, rfl, r1, r2, _⟩ := rp2 r
    rw [Rp.inv_int r1, Rp.inv_int r2]
    exact ⟨i, j, rfl, an.flat fun s => .int _⟩
  | .maxl => CallR.imp (cr_max hc) fun vs H Q ⟨t, F, ds, d, r, e, an⟩ => by
    obtain ⟨m, l, rfl, rfl⟩ := blt_maxl e
    obtain ⟨v, rfl, rv⟩ := rp1 r
    obtain ⟨a, ws, G, rfl, hq, rr, _⟩ := rv.list
    obtain ⟨rfl, _⟩ := rr.ints
    refine ⟨a, m :: l, rfl, hq, by simp, fun k hk hle => ?_⟩
    obtain ⟨s1, s2, s3⟩ := maxI_spec l m
    have hk' : k = maxI m l := by
      have h1 : k ≤ maxI m l := by
        rcases List.mem_cons.mp hk with z | z
        · rw [z]; exact s2
        · exact s3 k z
      have h2 : maxI m l ≤ k := by
        rcases s1 with z | z
        · rw [z]; exact hle m List.mem_cons_self
        · exact hle _ (List.mem_cons_of_mem _ z)
      omega
    rw [hk']
    exact an.flat fun s => .int _
  | .minl => CallR.imp (cr_min hc) fun vs H Q ⟨t, F, ds, d, r, e, an⟩ => by
    obtain ⟨m, l, rfl, rfl⟩ := blt_minl e
    obtain ⟨v, rfl, rv⟩ := rp1 r
    obtain ⟨a, ws, G, rfl, hq, rr, _⟩ := rv.list
    obtain ⟨rfl, _⟩ := rr.ints
    refine ⟨a, m :: l, rfl, hq, by simp, fun k hk hle => ?_⟩
    obtain ⟨s1, s2, s3⟩ := minI_spec l m
    have hk' : k = minI m l := by
      have h1 : minI m l ≤ k := by
        rcases List.mem_cons.mp hk with z | z
        · rw [z]; exact s2
        · exact s3 k z
      have h2 : k ≤ minI m l := by
        rcases s1 with z | z
        · rw [z]; exact hle m List.mem_cons_self
        · exact hle _ (List.mem_cons_of_mem _ z)
      omega
    rw [hk']
    exact an.flat fun s => .int _
  | .sum => CallR.imp (CallR.or (cr_sum hc) (cr_sumT hc)) fun vs H Q ⟨t, F, ds, d, r, e, an⟩ => by
    obtain ⟨ns, hds, rfl⟩ := blt_sum e
    rcases hds with rfl | rfl
    · obtain ⟨v, rfl, rv⟩ := rp1 r
      obtain ⟨a, ws, G, rfl, hq, rr, _⟩ := rv.list
      obtain ⟨rfl, _⟩ := rr.ints
      exact .inl ⟨a, ns, rfl, hq, an.flat fun s => .int _⟩
    · obtain ⟨v, rfl, rv⟩ := rp1 r
      obtain ⟨a, ws, rfl, hq, rr⟩ := rv.tuple
      obtain ⟨rfl, _⟩ := rr.ints
      exact .inr ⟨a, ns, rfl, hq.sq, an.flat fun s => .int _⟩
  | .all => CallR.imp (cr_all hc) fun vs H Q ⟨t, F, ds, d, r, e, an⟩ => by
    obtain ⟨bs, rfl, rfl⟩ := blt_all e
    obtain ⟨v, rfl, rv⟩ := rp1 r
    obtain ⟨a, ws, G, rfl, hq, rr, _⟩ := rv.list
    obtain ⟨rfl, _⟩ := rr.bools
    exact ⟨a, bs, rfl, hq, an.flat fun s => .bl _⟩
  | .any => CallR.imp (cr_any hc) fun vs H Q ⟨t, F, ds, d, r, e, an⟩ => by
    obtain ⟨bs, rfl, rfl⟩ := blt_any e
    obtain ⟨v, rfl, rv⟩ := rp1 r
    obtain ⟨a, ws, G, rfl, hq, rr, _⟩ := rv.list
    obtain ⟨rfl, _⟩ := rr.bools
    exact ⟨a, bs, rfl, hq, an.flat fun s => .bl _⟩
  | .sorted => CallR.imp cr_sortedI fun vs H Q ⟨t, F, ds, d, r, e, an⟩ => by
    obtain ⟨ns, rfl, rfl⟩ := blt_sorted e
    obtain ⟨v, rfl, rv⟩ := rp1 r
    obtain ⟨a, ws, G, rfl, hq, rr, _⟩ := rv.list
    obtain ⟨rfl, _⟩ := rr.ints
    refine ⟨a, ns, rfl, hq, fun ns' p hp hs hn => ?_⟩
    have e2 : ns' = sortI ns := PySem.W.ksm_same (hp.trans (sortI_perm ns).symm) hs (sortI_sorted ns)
    subst e2
    exact an.2.1 _ _ p [] rfl hn (RpL.of_ints _) fun a m => nomatch m
  | .int => CallR.imp call_int1 fun vs H Q ⟨t, F, ds, d, r, e, an⟩ => by
    rcases blt_int e with ⟨i, rfl, rfl⟩ | ⟨b, rfl, rfl⟩
    · obtain ⟨v, rfl, rv⟩ := rp1 r
      rw [Rp.inv_int rv]
      exact .inl ⟨i, rfl, an.flat fun s => .int _⟩
    · obtain ⟨v, rfl, rv⟩ := rp1 r
      obtain ⟨rfl, _⟩ := rv.boolV
      exact .inr ⟨b, rfl, an.flat fun s => .int _⟩
  | .list => CallR.imp call_list_of fun vs H Q ⟨t, F, ds, d, r, e, an⟩ => by
    obtain ⟨x, xs, rfl, hs, rfl⟩ := blt_list e
    obtain ⟨v, rfl, rv⟩ := rp1 r
    obtain ⟨p, ws, G, rfl, hq, rr, hsub⟩ := seq_sq rv hs
    exact ⟨p, ws, rfl, hq, fun l hl => an.2.1 _ _ l G rfl hl rr hsub⟩
  | .tuple => CallR.imp call_tuple_of fun vs H Q ⟨t, F, ds, d, r, e, an⟩ => by
    obtain ⟨xs, hds, rfl⟩ := blt_tuple e
    rcases hds with rfl | rfl
    · obtain ⟨v, rfl, rv⟩ := rp1 r
      obtain ⟨a, ws, G, rfl, hq, rr, hsub, _⟩ := rv.list
      exact ⟨a, ws, rfl, .inl ⟨hq, fun l hl => an.2.2.1 _ _ l G rfl hl rr hsub⟩⟩
    · obtain ⟨v, rfl, rv⟩ := rp1 r
      obtain ⟨a, ws, rfl, hq, rr⟩ := id rv.tuple
      exact ⟨a, ws, rfl, .inr ⟨hq.sq, an.2.2.2 _ _ F rfl rv fun a m => m⟩⟩
variable {C : Cfg} {N : List Str} {cl : Cl} {n : Nat} {sc osc : Scope}
theorem pe_bltM (G : GoodX C N cl n X sc osc) {b : Blt} {as : Exs} {p p' : Pos} {e : Expr} {es : List Expr} (hg : glB sc (bltN b) = true) (ha : PA X (e :: es) (exTA X.K cl as)) (hs : noStar e = true) (hs2 : (backTo p' (starEach es X.env)).any (·.1) = false) :
    PE X (.Call (.Name (bltN b) p) (e :: es) [] p') (exTE X.K cl (.blt b as)) := by
  have fin : ∀ σ H Q, exTE X.K cl (.blt b as) σ H Q → tCB (rBlt X.K b) (exTA X.K cl as) σ H Q := by
    rintro σ H Q ⟨E, P, Fm, pa, d, P', ok, he, hq⟩
    unfold ev at he
    cases e1 : evs cl as E P with
    | none => rw [e1] at he; cases he
    | some y =>
      obtain ⟨ds, P1⟩ := y
      rw [e1] at he
      dsimp only at he
      obtain ⟨d2, e2, e3⟩ := Option.map_eq_some_iff.mp he
      cases e3
      obtain ⟨xs, e4, e5⟩ := Option.bind_eq_some_iff.mp e2
      refine args_then ok e1 fun vs H1 F p1 ok1 => ⟨_, F, xs, d, p1.rp.un e4, e5, fun v r => hq v H1 [] (XPost.plain p1.p r), ?_, ?_, ?_⟩
      · rintro ds2 ws q G2 rfl hq' rr hsub
        exact hq _ _ _ (XPost.newL p1.p hq' rr (fun h => h) (p1.pv.sub hsub) fun h => h)
      · rintro ds2 ws q G2 rfl hq' rr hsub
        exact hq _ _ _ (XPost.newT p1.p hq' rr (fun h => h) (p1.pv.sub hsub) fun h => by simpa [frs, itemsImm, imm] using h)
      · rintro ds2 v G2 rfl rr hsub
        exact hq _ _ _ (XPost.of p1.p rr (fun h => h) (p1.pv.sub hsub) fun h => by simpa [frs, itemsImm, imm] using h)
  have free : X.mg (bltN b) = none := G.free _ (by cases b <;> decide)
  cases b
  · exact PE.imp (pe_callB (id := "len") (cr_blt G.calm .len) (gl_of G hg) free (by decide +kernel) ha (by decide) (by decide) (star_cons hs) hs2) fin
  · exact PE.imp (pe_callB (id := "abs") (cr_blt G.calm .abs) (gl_of G hg) free (by decide +kernel) ha (by decide) (by decide) (star_cons hs) hs2) fin
  · exact PE.imp (pe_callB (id := "min") (cr_blt G.calm .min2) (gl_of G hg) free (by decide +kernel) ha (by decide) (by decide) (star_cons hs) hs2) fin
  · exact PE.imp (pe_callB (id := "max") (cr_blt G.calm .max2) (gl_of G hg) free (by decide +kernel) ha (by decide) (by decide) (star_cons hs) hs2) fin
  · exact PE.imp (pe_callB (id := "max") (cr_blt G.calm .maxl) (gl_of G hg) free (by decide +kernel) ha (by decide) (by decide) (star_cons hs) hs2) fin
  · exact PE.imp (pe_callB (id := "min") (cr_blt G.calm .minl) (gl_of G hg) free (by decide +kernel) ha (by decide) (by decide) (star_cons hs) hs2) fin
  · exact PE.imp (pe_callB (id := "sum") (cr_blt G.calm .sum) (gl_of G hg) free (by decide +kernel) ha (by decide) (by decide) (star_cons hs) hs2) fin
  · exact PE.imp (pe_callB (id := "all") (cr_blt G.calm .all) (gl_of G hg) free (by decide +kernel) ha (by decide) (by decide) (star_cons hs) hs2) fin
  · exact PE.imp (pe_callB (id := "any") (cr_blt G.calm .any) (gl_of G hg) free (by decide +kernel) ha (by decide) (by decide) (star_cons hs) hs2) fin
  · exact PE.imp (pe_callB (id := "sorted") (cr_blt G.calm .sorted) (gl_of G hg) free (by decide +kernel) ha (by decide) (by decide) (star_cons hs) hs2) fin
  · exact PE.imp (pe_callTy (T := "int") (cr_blt G.calm .int) (gl_of G hg) free (by decide +kernel) ha (by decide) (by decide) (star_cons hs) hs2) fin
  · exact PE.imp (pe_callTy (T := "list") (cr_blt G.calm .list) (gl_of G hg) free (by decide +kernel) ha (by decide) (by decide) (star_cons hs) hs2) fin
  · exact PE.imp (pe_callTy (T := "tuple") (cr_blt G.calm .tuple) (gl_of G hg) free (by decide +kernel) ha (by decide) (by decide) (star_cons hs) hs2) fin
end
end MP
set_option Elab.async false
set_option linter.all false
set_option maxRecDepth 100000
/-! isinstance, items, slices, list(range). -/
namespace MP
open PySem PySem.Spec PyProof.Rows L2

section
variable {X : Cx} {C : Cfg} {N : List Str} {cl : Cl} {n : Nat} {sc osc : Scope}
theorem PE.or {e : Expr} {t t' : TE} (h : PE X e t) (h' : PE X e t') : PE X e (fun σ H Q => t σ H Q ∨ t' σ H Q) := ⟨fun pins s σ H Q I x => x.elim (h.run pins s σ H Q I) (h'.run pins s σ H Q I)⟩
theorem PI.or {tg e : Expr} {t t' : TI} (h : PI X tg e t) (h' : PI X tg e t') : PI X tg e (fun σ H Q => t σ H Q ∨ t' σ H Q) := ⟨fun pins s σ H Q I x => x.elim (h.run pins s σ H Q I) (h'.run pins s σ H Q I)⟩

/-! ### isinstance -/
def kindD : PyData → String
  | .none => "NoneType"
  | .bool _ => "bool"
  | .int _ => "int"
  | .str _ => "str"
  | .list _ => "list"
  | .tuple _ => "tuple"
  | .dict _ => "dict"
def tyS : Ty → String
  | .int => "int"
  | .bool => "bool"
  | .tuple => "tuple"
  | .str => "str"
theorem tyx_of {K : PySem.W.Frag} {t : Bool} {H : Hp} {v : V} {d : PyData} {F : List Addr} (h : Rp K t H v d F) : TyX K H v (.type (kindD d)) := by
  cases h with
  | non => exact .base .non
  | bl b => exact .base (.bl b)
  | int i => exact .base (.int i)
  | str x => exact .base (.str x)
  | tup hs _ =>
    rcases hs with hs | ⟨o, its, n, h1, h2, _⟩
    · exact .base (.tup hs)
    · exact .kTuple h1 h2
  | lst hs _ => exact .base (.lst hs)
  | lstR _ hs _ =>
    rcases hs with ⟨o, hs⟩ | ⟨o, its, n, h1, h2, _⟩
    · exact .base (.frz hs)
    · exact .kList h1 h2
theorem kit_of' (ty : Ty) : ∀ d : PyData, (∀ x, d ≠ .dict x) → kitB (kindD d) (tyS ty) = some (isiD ty d)
  | .none, _ => by cases ty <;> decide +kernel
  | .bool b, _ => by
    have e : kitB "bool" (tyS ty) = some (isiD ty (.bool true)) := by cases ty <;> decide +kernel
    cases ty <;> exact e
  | .int b, _ => by
    have e : kitB "int" (tyS ty) = some (isiD ty (.int 0)) := by cases ty <;> decide +kernel
    cases ty <;> exact e
  | .str b, _ => by
    have e : kitB "str" (tyS ty) = some (isiD ty (.str Str.empty)) := by cases ty <;> decide +kernel
    cases ty <;> exact e
  | .list b, _ => by
    have e : kitB "list" (tyS ty) = some (isiD ty (.list [])) := by cases ty <;> decide +kernel
    cases ty <;> exact e
  | .tuple b, _ => by
    have e : kitB "tuple" (tyS ty) = some (isiD ty (.tuple [])) := by cases ty <;> decide +kernel
    cases ty <;> exact e
  | .dict b, h => absurd rfl (h b)
theorem no_dict {K : PySem.W.Frag} {t : Bool} {H : Hp} {v : V} {d : PyData} {F : List Addr} (h : Rp K t H v d F) : ∀ x, d ≠ .dict x := fun x e => by
  subst e
  cases h
theorem pe_ty (G : GoodX C N cl n X sc osc) {ty : Ty} {p : Pos} (hg : glB sc (tyN ty) = true) : PE X (.Name (tyN ty) p) (tC (.ty (tyS ty))) := by
  have free : X.mg (tyN ty) = none := G.free _ (by cases ty <;> decide)
  cases ty
  · exact pe_bltn (v := .ty "int") (u := .type "int") (gl_of G hg) free (by decide +kernel) rfl (by decide) (by decide)
  · exact pe_bltn (v := .ty "bool") (u := .type "bool") (gl_of G hg) free (by decide +kernel) rfl (by decide) (by decide)
  · exact pe_bltn (v := .ty "tuple") (u := .type "tuple") (gl_of G hg) free (by decide +kernel) rfl (by decide) (by decide)
  · exact pe_bltn (v := .ty "str") (u := .type "str") (gl_of G hg) free (by decide +kernel) rfl (by decide) (by decide)
theorem pe_isiM (G : GoodX C N cl n X sc osc) {ty : Ty} {a : Ex} {e : Expr} {p p1 p' : Pos} (hg : glB sc ("isinstance" : Str) = true) (hgt : glB sc (tyN ty) = true) (hs : noStar e = true) (ha : PE X e (exTE X.K cl a)) :
    PE X (.Call (.Name ("isinstance" : Str) p) [e, .Name (tyN ty) p1] [] p') (exTE X.K cl (.isi a ty)) := by
  refine PE.imp (pe_callB (id := "isinstance") call_isi (gl_of G hg) (G.free _ (by decide)) (by decide +kernel) (pa_cons ha (pa_cons (pe_ty G hgt) pa_nil) (star_cons hs)) (by decide) (by decide) (star_cons hs)) ?_
  rintro σ H Q ⟨E, P, Fm, pa, d, P', ok, he, hq⟩
  unfold ev at he
  cases e1 : ev cl a E P with
  | none => rw [e1] at he; cases he
  | some y =>
    obtain ⟨x, P1⟩ := y
    rw [e1] at he
    cases he
    refine one_then ok e1 fun v H1 F p1 ok1 => ?_
    exact ⟨v, .ty (tyS ty), .type (kindD x), .type (tyS ty), isiD ty x, rfl, .ty _, tyx_of p1.rp, kit_ty (kit_of' ty x (no_dict p1.rp)), hq _ _ _ (XPost.plain p1.p fun s => .bl _)⟩

/-! ### items -/
theorem plainIx {b : Expr} (h : noSlice b = true) : PlainIx b := by
  cases b <;> first | exact absurd h Bool.false_ne_true | exact fun _ _ => rfl
theorem at_rp {K : PySem.W.Frag} {t : Bool} {H : Hp} {vs : List V} {ds : List PyData} {F : List Addr} (h : RpL K t H vs ds F) {k : Int} {d : PyData} (e : atI ds k = some d) : ∃ v G, atI vs k = some v ∧ Rp K t H v d G ∧ ∀ a ∈ G, a ∈ F := by
  unfold atI at e ⊢
  obtain ⟨j, e1, e2⟩ := Option.bind_eq_some_iff.mp e
  obtain ⟨v, G, e3, r, s⟩ := h.get e2
  exact ⟨v, G, Option.bind_eq_some_iff.mpr ⟨j, by rw [h.len]; exact e1, e3⟩, r, s⟩
theorem ev_ix {a b : Ex} {E : Env} {P P' : PyData} {d : PyData} (h : ev cl (.ix a b) E P = some (d, P')) :
    (∃ i d0 k P1 ds, a = .var i ∧ E[i]? = some (some (Kd.io, d0)) ∧ ev cl b E P = some (.int k, P1) ∧ P1 = .list ds ∧ atI ds k = some d ∧ P' = P1) ∨
      ∃ x P1 k ds, ev cl a E P = some (x, P1) ∧ ev cl b E P1 = some (.int k, P') ∧ seqOf x = some ds ∧ atI ds k = some d := by
  have gen : (match ev cl a E P with
      | none => none
      | some (x, P1) => match ev cl b E P1 with
        | some (.int k, P2) => (match seqOf x with
          | some ds => (atI ds k).map fun d => (d, P2)
          | none => none)
        | _ => none) = some (d, P') → ∃ x P1 k ds, ev cl a E P = some (x, P1) ∧ ev cl b E P1 = some (.int k, P') ∧ seqOf x = some ds ∧ atI ds k = some d := by
    intro h
    cases e1 : ev cl a E P with
    | none => rw [e1] at h; cases h
    | some y =>
      obtain ⟨x, P1⟩ := y
      rw [e1] at h
      dsimp only at h
      split at h
      · rename_i k P2 e2
        cases e3 : seqOf x with
        | none => rw [e3] at h; cases h
        | some ds =>
          rw [e3] at h
          obtain ⟨d2, e4, e5⟩ := Option.map_eq_some_iff.mp h
          cases e5
          exact ⟨x, P1, k, ds, rfl, e2, e3, e4⟩
      · cases h
  cases a <;> first
    | exact .inr (gen (by unfold ev at h; exact h))
    | skip
  rename_i i
  unfold ev at h
  split at h
  · rename_i i' heq
    cases heq
    split at h
    · rename_i d0 e0
      split at h
      · rename_i k P1 e1
        split at h
        · rename_i ds
          obtain ⟨d2, e4, e5⟩ := Option.map_eq_some_iff.mp h
          cases e5
          exact .inl ⟨i, d0, k, _, ds, rfl, e0, e1, rfl, e4, rfl⟩
        · cases h
      · cases h
    · exact .inr (gen h)
  · rename_i hne
    exact absurd rfl (hne i)
theorem pe_ixM (G : GoodX C N cl n X sc osc) {a b : Ex} {a' b' : Expr} {p : Pos} (hsl : noSlice b' = true) (ha : PE X a' (exTE X.K cl a)) (hv : ∀ i, a = .var i → PE X a' (tVar i)) (hb : PE X b' (exTE X.K cl b)) : PE X (.Subscript a' b' p) (exTE X.K cl (.ix a b)) := by
  have main := pe_ix (pos := p) (ix_list.or ix_tup) ha hb (plainIx hsl)
  have gen : ∀ {σ : L2.St} {H : Hp} {Q : VK} {E : Env} {P P1 P' : PyData} {Fm : Nat → List Addr} {pa : Addr} {x d : PyData} {k : Int} {ds : List PyData}, EnvOk X.K E P σ H Fm pa → ev cl a E P = some (x, P1) → ev cl b E P1 = some (.int k, P') → seqOf x = some ds → atI ds k = some d →
      (∀ v H' F, XPost X.K E Fm pa (vars a ++ vars b) (imm d) H v d F P' H' → Q v H') → tOp (fun x y H Q => rIxL X.K x y H Q ∨ rIxT X.K x y H Q) (exTE X.K cl a) (exTE X.K cl b) σ H Q := by
    intro σ H Q E P P1 P' Fm pa x d k ds ok e1 e2 e3 e4 hq
    refine two_then ok e1 e2 fun v w H2 F1 F2 t => ?_
    rw [Rp.inv_int t.r2]
    obtain ⟨q, ws, G1, rfl, hsq, rr, hsub⟩ := seq_sq t.r1 e3
    obtain ⟨u, G2, e5, r, hs2⟩ := at_rp rr e4
    have fin : Q u H2 := hq u H2 G2 (XPost.of t.p r (fun h => strV_left h) ((t.v1.sub fun a m => hsub a (hs2 a m)).mono fun i hi => List.mem_append_left _ hi) fun h => h)
    rcases hsq with hsq | hsq
    · exact .inl ⟨q, ws, k, u, rfl, rfl, hsq, e5, fin⟩
    · exact .inr ⟨q, ws, k, u, rfl, rfl, hsq, e5, fin⟩
  by_cases hav : ∃ i, a = .var i
  · obtain ⟨i, rfl⟩ := hav
    refine PE.imp (PE.or main (pe_ix (pos := p) ix_list (hv i rfl) hb (plainIx hsl))) ?_
    rintro σ H Q ⟨E, P, Fm, pa, d, P', ok, he, hq⟩
    rcases ev_ix he with ⟨i', d0, k, P1, ds, e0, e1, e2, rfl, e4, rfl⟩ | ⟨x, P1, k, ds, e1, e2, e3, e4⟩
    · cases e0
      refine .inr ⟨.ref pa, ok.io i d0 e1, one_then ok e2 fun w H1 F p1 ok1 => ?_⟩
      rw [Rp.inv_int p1.rp]
      obtain ⟨vs, ds', h1, h2, h3, h4⟩ := ok1.pot (hasIo_of e1)
      cases h3
      obtain ⟨u, G2, e5, r, hs2⟩ := at_rp h2 e4
      have him : imm d = true := by
        unfold atI at e4
        obtain ⟨j, _, e6⟩ := Option.bind_eq_some_iff.mp e4
        exact immL_mem h4 (List.mem_of_getElem? e6)
      obtain ⟨e7, r'⟩ := Rp.imm true d r him
      exact ⟨pa, vs, k, u, rfl, rfl, .inl (.inl h1), e5, hq u H1 [] (XPost.plain p1.p fun s => (Rp.imm s d r him).2)⟩
    · exact .inl (gen ok e1 e2 e3 e4 hq)
  · refine PE.imp main ?_
    rintro σ H Q ⟨E, P, Fm, pa, d, P', ok, he, hq⟩
    rcases ev_ix he with ⟨i', d0, k, P1, ds, e0, e1, e2, rfl, e4, rfl⟩ | ⟨x, P1, k, ds, e1, e2, e3, e4⟩
    · exact absurd ⟨i', e0⟩ hav
    · exact gen ok e1 e2 e3 e4 hq

/-! ### slices -/
theorem po_noneM : PO X none (exTO X.K cl .none) := by
  refine PO.imp po_none ?_
  rintro σ H Q ⟨E, P, Fm, pa, d, P', ok, he, hq⟩
  unfold evP at he
  cases he
  exact hq H (Post0.refl ok)
theorem po_someM {a : Ex} {a' : Expr} (ha : PE X a' (exTE X.K cl a)) : PO X (some a') (exTO X.K cl (.some a)) := by
  refine PO.imp (po_some ha) ?_
  rintro σ H Q ⟨E, P, Fm, pa, d, P', ok, he, hq⟩
  unfold evP at he
  split at he
  · rename_i c P1 e1
    cases he
    refine one_then ok e1 fun v H1 F p1 ok1 => ?_
    rw [Rp.inv_int p1.rp]
    exact ⟨c, rfl, hq H1 p1.p⟩
  · cases he
theorem cut_rp {K : PySem.W.Frag} {t : Bool} {H : Hp} {vs : List V} {ds : List PyData} {F : List Addr} (h : RpL K t H vs ds F) (lo hi : Option Int) : ∃ G, RpL K t H (cutV vs lo hi) (cutD ds lo hi) G ∧ ∀ a ∈ G, a ∈ F := by
  unfold cutV cutD
  rw [h.len]
  obtain ⟨G1, h1, s1⟩ := h.drop (HT.sIx ds.length 0 lo)
  obtain ⟨G2, h2, s2⟩ := h1.take (HT.sIx ds.length ds.length hi - HT.sIx ds.length 0 lo)
  exact ⟨G2, h2, fun a m => s1 a (s2 a m)⟩
theorem ev_sl {a : Ex} {lo hi : Exo} {E : Env} {P P' : PyData} {d : PyData} (h : ev cl (.sl a lo hi) E P = some (d, P')) :
    ∃ x P1 l P2 u, ev cl a E P = some (x, P1) ∧ evP cl lo E P1 = some (l, P2) ∧ evP cl hi E P2 = some (u, P') ∧ ((∃ ds, x = .list ds ∧ d = .list (cutD ds l u)) ∨ ∃ ds, x = .tuple ds ∧ d = .tuple (cutD ds l u)) := by
  unfold ev at h
  cases e1 : ev cl a E P with
  | none => rw [e1] at h; cases h
  | some y =>
    obtain ⟨x, P1⟩ := y
    rw [e1] at h
    dsimp only at h
    cases e2 : evP cl lo E P1 with
    | none => rw [e2] at h; cases h
    | some y =>
      obtain ⟨l, P2⟩ := y
      rw [e2] at h
      dsimp only at h
      cases e3 : evP cl hi E P2 with
      | none => rw [e3] at h; cases h
      | some y =>
        obtain ⟨u, P3⟩ := y
        rw [e3] at h
        dsimp only at h
        split at h
        · cases h
          exact ⟨_, P1, l, P2, u, rfl, e2, e3, .inl ⟨_, rfl, rfl⟩⟩
        · cases h
          exact ⟨_, P1, l, P2, u, rfl, e2, e3, .inr ⟨_, rfl, rfl⟩⟩
        · cases h
theorem part_then {m : Exo} {c : Option Int} {σ : L2.St} {H : Hp} {E : Env} {P P1 : PyData} {Fm : Nat → List Addr} {pa : Addr} {R : Option Int → Hp → Prop} (ok : EnvOk X.K E P σ H Fm pa) (ha : evP cl m E P = some (c, P1))
    (h : ∀ H1, Post0 X.K E pa H P1 H1 → EnvOk X.K E P1 σ H1 Fm pa → R c H1) : exTO X.K cl m σ H R :=
  ⟨E, P, Fm, pa, c, P1, ok, ha, fun H1 p => h H1 p (p.env ok)⟩
theorem pe_slM {a : Ex} {lo hi : Exo} {a' : Expr} {l h : Option Expr} {p p2 : Pos} (ha : PE X a' (exTE X.K cl a)) (hl : PO X l (exTO X.K cl lo)) (hh : PO X h (exTO X.K cl hi)) : PE X (.Subscript a' (.Slice l h none p2) p) (exTE X.K cl (.sl a lo hi)) := by
  refine PE.imp (pe_slice (sl_list.or sl_tupA) ha hl hh) ?_
  rintro σ H Q ⟨E, P, Fm, pa, d, P', ok, he, hq⟩
  obtain ⟨x, P1, l, P2, u, e1, e2, e3, hc⟩ := ev_sl he
  refine one_then ok e1 fun v H1 F p1 ok1 => part_then ok1 e2 fun H2 p2 ok2 => part_then ok2 e3 fun H3 p3 ok3 => ?_
  have pp : Post0 X.K E pa H1 P' H3 := p2.trans p3
  have r := Rp.fx x p1.rp (p1.pv.fx ok pp)
  rcases hc with ⟨ds, rfl, rfl⟩ | ⟨ds, rfl, rfl⟩
  · obtain ⟨q, ws, G1, rfl, hsq, rr, hsub, _⟩ := r.list
    obtain ⟨G2, r2, s2⟩ := cut_rp rr l u
    exact .inl ⟨q, ws, rfl, hsq, fun z hz => hq _ _ _ (XPost.newL (p1.p.trans pp) hz r2 (fun h => strV_left h) ((p1.pv.sub fun a m => hsub a (s2 a m)).mono fun i hi => List.mem_append_left _ hi) fun h => h)⟩
  · obtain ⟨q, ws, rfl, hsq, rr⟩ := id r.tuple
    obtain ⟨G2, r2, s2⟩ := cut_rp rr l u
    refine .inr ⟨q, ws, rfl, hsq.sq, fun hw => ?_, fun hw z hz => hq _ _ _ (XPost.newT (p1.p.trans pp) hz r2 (fun h => strV_left h) ((p1.pv.sub s2).mono fun i hi => List.mem_append_left _ hi) fun h => by simpa [frs, itemsImm, imm] using h)⟩
    have hlen := rr.len
    have e : cutD ds l u = ds := by
      unfold cutD
      rw [← hlen, hw.1, hw.2, List.drop_zero, Nat.sub_zero, hlen]
      exact List.take_length
    rw [e] at hq
    exact hq _ _ _ (XPost.of (p1.p.trans pp) r (fun h => strV_left h) (p1.pv.mono fun i hi => List.mem_append_left _ hi) fun h => by simpa [frs, itemsImm, imm] using h)
end
end MP
set_option Elab.async false
set_option linter.all false
set_option maxRecDepth 100000
/-! Turned about, every second, list(range). -/
namespace HT
open PySem PySem.Spec PyProof.Rows
section
variable {prog : Program} {w : World} {A : Around} {E : Value → Shared → Prop} {s : Shared}
theorem applied_rev {sl : Addr} {t : Tok} {n : Nat} {Q : Int × Int × Nat → Shared → Prop} (hs : s.heap.IsSliceOf sl .none .none (.int (-1) t))
    (h : Q ((n : Int) - 1, -1, n) s) : wpAny (model prog w) A (Builtin.Slice.sliceApplied (.ref sl) (pure (n : Int))) Q E s := by
  obtain ⟨os, hos, hcs, hds⟩ := id hs
  unfold Builtin.Slice.sliceApplied Builtin.Slice.sliceFields
  refine wpAny_bind (wpAny_bind (wpAny_field hos hds (x := .none) rfl (wpAny_bind (wpAny_field hos hds (x := .none) rfl (wpAny_bind (wpAny_field hos hds (x := .int (-1) t) rfl (wpAny_pure ?_)))))))
  refine wpAny_bind (slicePart_int ?_)
  show wpAny _ _ (if ((-1 : Int) == 0) = true then _ else _) _ _ s
  rw [if_neg (by decide)]
  refine wpAny_bind (slicePart_none (wpAny_bind (slicePart_none (wpAny_bind (wpAny_pure ?_)))))
  show wpAny _ _ (pure ((n : Int) - 1, (-1 : Int), Builtin.Slice.slicePlaces ((n : Int) - 1) (-1) (-1))) _ _ s
  have e : Builtin.Slice.slicePlaces ((n : Int) - 1) (-1) (-1) = n := by
    unfold Builtin.Slice.slicePlaces
    rw [if_neg (by decide)]
    split
    · have e1 : (-(-1) : Int) = 1 := rfl
      rw [e1, Int.ediv_one]
      omega
    · omega
  rw [e]
  exact wpAny_pure h
theorem pick_rev (xs : Array Value) : ((List.range xs.size).filterMap fun (m : Nat) => xs[((xs.size : Int) - 1 + (m : Int) * (-1)).toNat]?).toArray = xs.toList.reverse.toArray := by
  have e : (List.range xs.size).filterMap (fun (m : Nat) => xs[((xs.size : Int) - 1 + (m : Int) * (-1)).toNat]?) = xs.toList.reverse := by
    have h : ∀ m ∈ List.range xs.size, (fun (m : Nat) => xs[((xs.size : Int) - 1 + (m : Int) * (-1)).toNat]?) m = xs.toList.reverse[m]? := by
      intro m hm
      have hm := List.mem_range.mp hm
      have e1 : ((xs.size : Int) - 1 + (m : Int) * (-1)).toNat = xs.size - 1 - m := by omega
      show xs[((xs.size : Int) - 1 + (m : Int) * (-1)).toNat]? = _
      rw [e1, List.getElem?_reverse (by simpa using hm)]
      simp
    have hf : ∀ (l : List Nat) (f g : Nat → Option Value), (∀ m ∈ l, f m = g m) → l.filterMap f = l.filterMap g := by
      intro l f g
      induction l with
      | nil => intro _; rfl
      | cons a r ih =>
        intro h
        rw [List.filterMap_cons, List.filterMap_cons, h a List.mem_cons_self, ih fun m hm => h m (List.mem_cons_of_mem _ hm)]
    rw [hf _ _ _ h]
    have hl : xs.size = xs.toList.reverse.length := by simp
    rw [hl]
    generalize xs.toList.reverse = l
    induction l with
    | nil => rfl
    | cons a r ih =>
      rw [List.length_cons, List.range_succ_eq_map, List.filterMap_cons, List.filterMap_map]
      show a :: _ = _
      rw [show ((fun m => (a :: r)[m]?) ∘ Nat.succ) = fun m => r[m]? from by funext m; simp]
      rw [ih]
  rw [e]
theorem getItem_tuple_rev {t sl : Addr} {items : Array Value} {k : Tok} {Q : Value → Shared → Prop} (ht : IsTup s.heap t items) (hs : s.heap.IsSliceOf sl .none .none (.int (-1) k))
    (h : Q (.ref s.heap.objs.size) { s with heap := s.heap.push { cls := .type "tuple", data := .seq items.toList.reverse.toArray } })
    (hsz : items.size ≤ sizeLine) : wpAny (model prog w) A (getItem (.ref t) (.ref sl)) Q E s := by
  have htake : sizeOk (.seq items.toList.reverse.toArray) := by
    show items.toList.reverse.toArray.size ≤ sizeLine
    rw [List.size_toArray, List.length_reverse, Array.length_toList]
    exact hsz
  obtain ⟨os, hos, hcs, hds⟩ := id hs
  have hTs : s.TypeIs (.ref sl) "slice" := ⟨os, hos, hcs⟩
  unfold getItem
  try with_reducible refine wpAny_holding ?_
  first | refine wpAny_bind (wpAny_pure ?_) | skip
  refine wpAny_bind (wpAny_sequenceKey ht.typeIs (by decide) ?_)
  refine wpAny_bind (wpAny_callSpecial?_slot (name := Str.ofString "__getitem__") ht.typeIs PyProof.Rows.slot_tuple_getitem
    (wpAny_call_entry PyProof.Rows.slot_tuple_getitem ht.typeIs entry_tuple_getitem ?_ (args_tuple_getitem _ _)))
  show wpAny _ _ (Builtin.Tuple.tupleItemsOf (.ref t) >>= _) _ _ s
  refine wpAny_bind (tupleItemsOf_ ht ?_)
  refine wpAny_bind (wpAny_typeOf hTs ?_)
  rw [if_pos (by decide)]
  refine wpAny_bind (applied_rev hs ?_)
  have hno : ¬ ((((items.size : Int) - 1) == 0 && (-1 : Int) == 1 && items.size == items.size) = true) := by
    intro q
    rw [Bool.and_eq_true, Bool.and_eq_true] at q
    exact absurd q.1.2 (by decide)
  show wpAny _ _ (if (((items.size : Int) - 1) == 0 && (-1 : Int) == 1 && items.size == items.size) = true then _ else _) _ _ s
  rw [if_neg hno, pick_rev]
  first
    | exact wpAny_bind (m := Builtin.Tuple.tupleExact _) (wpAny_newObj_type (wpAny_pure ⟨_, rfl, wpAny_pure h⟩) htake)
    | exact wpAny_bind (m := Builtin.Tuple.tupleExact _) (wpAny_newObj_type (wpAny_bind (wpAny_pure (wpAny_pure ⟨_, rfl, wpAny_pure h⟩))) htake)
    | exact wpAny_bind (wpAny_bind (m := Builtin.Tuple.tupleExact _) (wpAny_newObj_type (wpAny_pure (wpAny_pure ⟨_, rfl, wpAny_pure h⟩)) htake))
    | exact wpAny_bind (wpAny_bind (m := Builtin.Tuple.tupleExact _) (wpAny_newObj_type (wpAny_pure ⟨_, rfl, wpAny_pure h⟩) htake))
end
end HT
namespace MP
open PySem PySem.Spec PyProof.Rows L2

section
variable {X : Cx} {C : Cfg} {N : List Str} {cl : Cl} {n : Nat} {sc osc : Scope}
/-! ### a tuple turned about -/
def tRevT (K : PySem.W.Frag) (te : TE) : TE := fun σ H Q => te σ H fun x H1 => ∃ a xs, x = .ref a ∧ SqT K H1 a xs ∧ ∀ p, H1 p = none → Q (.ref p) (upd H1 p (.tup xs.reverse))
theorem pe_revT {e : Expr} {te : TE} {k : Nat} {p1 p2 p3 pos : Pos} (he : PE X e te) : PE X (.Subscript e (.Slice none none (some (.UnaryOp .USub (.Constant (.int 1) k p1) p2)) p3) pos) (tRevT X.K te) := by
  refine ⟨fun pins s σ H Q I h => ?_⟩
  refine Subscript_ (thn (he.run pins s σ H _ I h) fun v s1 ⟨x, H1, I1, r1, q1⟩ => ?_)
  obtain ⟨a, xs, ex, hx, q⟩ := q1
  subst ex
  cases r1
  have hst : PO X (some (.UnaryOp .USub (.Constant (.int 1) k p1) p2)) (tPart (tUn (rU fun i => .int (-i)) (tC (.int 1)))) := po_some (pe_un un_neg pe_int)
  refine wpAny_Slice (thn (po_none.run pins s1 σ H1 (fun o H2 => o = none ∧ H2 = H1) I1 ⟨rfl, rfl⟩) fun vl s2 ⟨l, H2, I2, pl, el, e2⟩ => ?_)
  subst el e2
  cases pl
  refine thn (po_none.run pins s2 σ H2 (fun o H3 => o = none ∧ H3 = H2) I2 ⟨rfl, rfl⟩) fun vu s3 ⟨u, H3, I3, pu, eu, e3⟩ => ?_
  subst eu e3
  cases pu
  refine thn (hst.run pins s3 σ H3 (fun o H4 => o = some (-1) ∧ H4 = H3) I3 ⟨1, rfl, -1, rfl, rfl, rfl⟩) fun vs s4 ⟨o, H4, I4, ps, eo, e4⟩ => ?_
  subst eo e4
  obtain ⟨tk, rfl⟩ : ∃ tk, vs = .int (-1) tk := by
    cases ps
    exact ⟨_, rfl⟩
  have I5 : Inv X pins σ H4 { s4 with heap := s4.heap.push { cls := .type "slice", data := .fields #[.none, .none, .int (-1) tk] } } := I4.kept (t' := s4.toks) fun b ob q => Heap.get?_push_of_some _ q
  obtain ⟨its, r, ht, hz⟩ := I5.tuple hx
  have hlen := r.length
  show wpAny (model X.prog X.w) X.A (subscriptTail e (.Slice none none (some (.UnaryOp .USub (.Constant (.int 1) k p1) p2)) p3) (.ref a) (.ref s4.heap.objs.size)) (EP X pins σ Q) X.xe { s4 with heap := s4.heap.push { cls := .type "slice", data := .fields #[.none, .none, .int (-1) tk] } }
  refine tail_any (ops := [.ref a, .ref s4.heap.objs.size]) ht.typeIs (PyProof.Rows.slot_tuple_getitem.lookup) ?_ (by with_unfolding_all rfl)
  refine HT.getItem_tuple_rev ht (Heap.IsSliceOf.new _ .none .none (.int (-1) tk)) ?_ (by rw [List.size_toArray]; omega)
  refine ⟨.ref _, _, I5.laid (t' := s4.toks) (o := .tup xs.reverse) (fun b ob q => Heap.get?_push_of_some _ q) (Nat.le_refl _) ?_, rfl, q _ (I5.hok.fresh (Nat.le_refl _))⟩
  exact ⟨by rw [List.length_reverse]; exact hz, _, r.reverse, IsTup.new _ _⟩
theorem pe_revM {a : Ex} {e : Expr} {k : Nat} {p1 p2 p3 pos : Pos} (ha : PE X e (exTE X.K cl a)) : PE X (.Subscript e (.Slice none none (some (.UnaryOp .USub (.Constant (.int 1) k p1) p2)) p3) pos) (exTE X.K cl (.rev a)) := by
  refine PE.imp (PE.or (pe_revL ha) (pe_revT ha)) ?_
  rintro σ H Q ⟨E, P, Fm, pa, d, P', ok, he, hq⟩
  have rv : ∀ {t : Bool} {H : Hp} {ds : List PyData} {vs : List V} {F : List Addr}, RpL X.K t H vs ds F → ∃ G, RpL X.K t H vs.reverse ds.reverse G ∧ ∀ a ∈ G, a ∈ F := by
    intro t H ds
    induction ds with
    | nil => intro vs F h; cases h; exact ⟨[], .nil, fun _ m => m⟩
    | cons d ds ih =>
      intro vs F h
      cases h with
      | cons h1 h2 =>
        obtain ⟨G, r, hs⟩ := ih h2
        rw [List.reverse_cons, List.reverse_cons]
        exact ⟨_, r.append (.cons h1 .nil), fun a m => by
          rcases List.mem_append.mp m with m | m
          · exact List.mem_append_right _ (hs a m)
          · rw [List.append_nil] at m
            exact List.mem_append_left _ m⟩
  have il : ∀ {ds : List PyData}, immL ds.reverse = true → immL ds.reverse = true := fun h => h
  unfold ev at he
  split at he
  · rename_i ds P1 e1
    cases he
    refine .inl (one_then ok e1 fun v H1 F p1 ok1 => ?_)
    obtain ⟨q, ws, G1, rfl, hsq, rr, hsub, _⟩ := p1.rp.list
    obtain ⟨G2, r2, s2⟩ := rv rr
    exact ⟨q, ws, rfl, hsq, fun z hz => hq _ _ _ (XPost.newL p1.p hz r2 (fun h => h) (p1.pv.sub fun a m => hsub a (s2 a m)) fun h => h)⟩
  · rename_i ds P1 e1
    cases he
    refine .inr (one_then ok e1 fun v H1 F p1 ok1 => ?_)
    obtain ⟨q, ws, rfl, hsq, rr⟩ := id p1.rp.tuple
    obtain ⟨G2, r2, s2⟩ := rv rr
    exact ⟨q, ws, rfl, hsq.sq, fun z hz => hq _ _ _ (XPost.newT p1.p hz r2 (fun h => h) (p1.pv.sub s2) fun h => by simpa [frs, itemsImm, imm] using h)⟩
  · cases he

/-! ### every second one -/
theorem pick_evens {α : Type} : ∀ l : List α, (List.range ((l.length + 1) / 2)).filterMap (fun k => l[2 * k]?) = evens l
  | [] => by simp [evens]
  | [a] => by simp [evens, List.range_succ]
  | a :: b :: r => by
    have e : ((a :: b :: r).length + 1) / 2 = (r.length + 1) / 2 + 1 := by simp only [List.length_cons]; omega
    rw [e, List.range_succ_eq_map, List.filterMap_cons, List.filterMap_map]
    show a :: _ = _
    rw [show ((fun k => (a :: b :: r)[2 * k]?) ∘ Nat.succ) = fun k => r[2 * k]? from by
      funext k
      show (a :: b :: r)[2 * (k + 1)]? = _
      rw [show 2 * (k + 1) = (2 * k + 1) + 1 from by omega]
      simp]
    rw [pick_evens r]
    rfl
theorem slicePick_evens (its : Array Value) (lo : Option Int) (k : Nat) (hk : lo = none ∧ k = 0 ∨ lo = some (k : Int)) : slicePick its lo none (some 2) = (evens (its.toList.drop k)).toArray := by
  have hb : sliceBounds lo none (some 2) its.size = (((min k its.size : Nat) : Int), (its.size : Int), 2) := by
    rcases hk with ⟨rfl, rfl⟩ | rfl
    · simp [sliceBounds]
    · simp only [sliceBounds, Option.getD_some, show (2 : Int) > 0 from by decide, if_true]
      refine Prod.ext ?_ rfl
      show max 0 (min (if (k : Int) < 0 then (k : Int) + (its.size : Int) else (k : Int)) (its.size : Int)) = _
      rw [if_neg (by omega)]
      omega
  unfold slicePick
  rw [hb]
  show ((sliceRange ((min k its.size : Nat) : Int) (its.size : Int) 2).filterMap (its[·]?)).toArray = _
  have hd : its.toList.drop k = its.toList.drop (min k its.size) := by
    by_cases h : k ≤ its.size
    · rw [Nat.min_eq_left h]
    · rw [Nat.min_eq_right (by omega), List.drop_eq_nil_of_le (by simp; omega), List.drop_eq_nil_of_le (by simp)]
  rw [hd]
  have hm : min k its.size ≤ its.size := Nat.min_le_right _ _
  generalize min k its.size = m at hm ⊢
  have hc : sliceRange (m : Int) (its.size : Int) 2 = (List.range ((its.size - m + 1) / 2)).map fun j => m + 2 * j := by
    unfold sliceRange
    have e : (if (2 : Int) > 0 then (if (m : Int) < (its.size : Int) then ((its.size : Int) - (m : Int) + 2 - 1) / 2 else 0) else (if (m : Int) > (its.size : Int) then ((m : Int) - (its.size : Int) - 2 - 1) / (-2) else 0)).toNat = (its.size - m + 1) / 2 := by
      rw [if_pos (by decide)]
      split <;> omega
    dsimp only
    rw [e]
    refine List.map_congr_left fun j _ => ?_
    omega
  rw [hc, List.filterMap_map, ← pick_evens (its.toList.drop m)]
  rw [show (its.toList.drop m).length = its.size - m from by simp]
  congr 1
  congr 1
  funext j
  show its[m + 2 * j]? = _
  rw [List.getElem?_drop]
  simp
theorem vals_evens : ∀ {xs : List V} {us : List Value}, Vals xs us → Vals (evens xs) (evens us)
  | [], _, .nil => .nil
  | [_], _, .cons r .nil => .cons r .nil
  | _ :: _ :: _, _, .cons r (.cons _ h) => .cons r (vals_evens h)
theorem vals_drop : ∀ {xs : List V} {us : List Value} (k : Nat), Vals xs us → Vals (xs.drop k) (us.drop k)
  | _, _, 0, h => h
  | [], _, k + 1, .nil => .nil
  | _ :: _, _, k + 1, .cons _ h => vals_drop k h
theorem evens_len {α : Type} : ∀ l : List α, (evens l).length ≤ l.length
  | [] => Nat.le_refl _
  | [_] => Nat.le_refl _
  | a :: b :: r => by
    have := evens_len r
    show (evens r).length + 1 ≤ r.length + 2
    omega
/-- e[k::st], st of 2 -/
def tEv (K : PySem.W.Frag) (k : Nat) (te ts : TE) : TE := fun σ H Q => te σ H fun x H1 => ∃ a, x = .ref a ∧ tPart ts σ H1 fun o H2 => o = some 2 ∧ ∃ xs, SqL K H2 a xs ∧ ∀ p, H2 p = none → Q (.ref p) (upd H2 p (.lst (evens (xs.drop k))))
theorem pe_ev {e st : Expr} {lo : Option Expr} {te ts : TE} {k : Nat} {p3 pos : Pos} (he : PE X e te) (hs : PE X st ts) (hlo : lo = none ∧ k = 0 ∨ ∃ q1 q2, lo = some (.Constant (.int (k : Int)) q1 q2)) : PE X (.Subscript e (.Slice lo none (some st) p3) pos) (tEv X.K k te ts) := by
  refine ⟨fun pins s σ H Q I h => ?_⟩
  refine Subscript_ (thn (he.run pins s σ H _ I h) fun v s1 ⟨x, H1, I1, r1, q1⟩ => ?_)
  obtain ⟨a, ex, q⟩ := q1
  subst ex
  cases r1
  have hl : wpAny (model X.prog X.w) X.A (evalPart lo X.env) (fun u s' => ∃ o H', Inv X pins σ H' s' ∧ IsPart u o ∧ ((o = none ∧ k = 0 ∨ o = some (k : Int)) ∧ H' = H1)) X.xe s1 := by
    rcases hlo with ⟨rfl, rfl⟩ | ⟨q1, q2, rfl⟩
    · exact po_none.run pins s1 σ H1 (fun o H2 => (o = none ∧ 0 = 0 ∨ o = some ((0 : Nat) : Int)) ∧ H2 = H1) I1 ⟨.inl ⟨rfl, rfl⟩, rfl⟩
    · exact (po_some pe_int).run pins s1 σ H1 (fun o H2 => (o = none ∧ k = 0 ∨ o = some (k : Int)) ∧ H2 = H1) I1 ⟨(k : Int), rfl, .inr rfl, rfl⟩
  refine wpAny_Slice (thn hl fun vl s2 ⟨l, H2, I2, pl, el, e2⟩ => ?_)
  subst e2
  refine thn (po_none.run pins s2 σ H2 (fun o H3 => o = none ∧ H3 = H2) I2 ⟨rfl, rfl⟩) fun vu s3 ⟨u, H3, I3, pu, eu, e3⟩ => ?_
  subst eu e3
  refine thn ((po_some hs).run pins s3 σ H3 _ I3 q) fun vs s4 ⟨o, H4, I4, ps, eo, xs, hx, q⟩ => ?_
  subst eo
  have I5 : Inv X pins σ H4 { s4 with heap := s4.heap.push { cls := .type "slice", data := .fields #[vl, vu, vs] } } := I4.kept (t' := s4.toks) fun b ob q => Heap.get?_push_of_some _ q
  obtain ⟨its, r, ht, hz⟩ := I5.list hx
  have hlen := r.length
  show wpAny (model X.prog X.w) X.A (subscriptTail e (.Slice lo none (some st) p3) (.ref a) (.ref s4.heap.objs.size)) (EP X pins σ Q) X.xe { s4 with heap := s4.heap.push { cls := .type "slice", data := .fields #[vl, vu, vs] } }
  refine tail_any (ops := [.ref a, .ref s4.heap.objs.size]) ht.isList.typeIs (PySem.slot_list_getitem.lookup) ?_ (by with_unfolding_all rfl)
  refine wpAny_getItem_list_slice ht.isList (Heap.IsSliceOf.new _ vl vu vs) pl pu ps (by decide) ?_ (by rw [List.size_toArray]; omega)
  rw [slicePick_evens _ _ _ el]
  refine ⟨.ref _, _, I5.laid (t' := s4.toks) (o := .lst (evens (xs.drop k))) (fun b ob q => Heap.get?_push_of_some _ q) (Nat.le_refl _) ?_, rfl, q _ (I5.hok.fresh (Nat.le_refl _))⟩
  exact ⟨Nat.le_trans (evens_len _) (Nat.le_trans (by rw [List.length_drop]; exact Nat.sub_le _ _) hz), _, 0, vals_evens (vals_drop k r), Heap.get?_push_size _ rfl⟩
theorem rpl_evens {K : PySem.W.Frag} {t : Bool} {H : Hp} : ∀ (ds : List PyData) {vs : List V} {F : List Addr}, RpL K t H vs ds F → ∃ G, RpL K t H (evens vs) (evens ds) G ∧ ∀ a ∈ G, a ∈ F
  | [], _, _, .nil => ⟨[], .nil, fun _ m => m⟩
  | [_], _, _, .cons r .nil => ⟨_, .cons r .nil, fun _ m => m⟩
  | _ :: _ :: ds, _, _, .cons r (.cons _ h) =>
    let ⟨G, r', hs⟩ := rpl_evens ds h
    ⟨_, .cons r r', fun a m => (List.mem_append.mp m).elim (fun z => List.mem_append_left _ z) fun z => List.mem_append_right _ (List.mem_append_right _ (hs a z))⟩
theorem pe_evM {a st : Ex} {e e2 : Expr} {lo : Option Expr} {k : Nat} {p3 pos : Pos} (ha : PE X e (exTE X.K cl a)) (hs : PE X e2 (exTE X.K cl st)) (hlo : lo = none ∧ k = 0 ∨ ∃ q1 q2, lo = some (.Constant (.int (k : Int)) q1 q2)) : PE X (.Subscript e (.Slice lo none (some e2) p3) pos) (exTE X.K cl (.every a k st)) := by
  refine PE.imp (pe_ev ha hs hlo) ?_
  rintro σ H Q ⟨E, P, Fm, pa, d, P', ok, he, hq⟩
  unfold ev at he
  split at he
  · rename_i ds P1 e1
    split at he
    · rename_i P2 e2
      cases he
      refine one_then ok e1 fun v H1 F p1 ok1 => ?_
      obtain ⟨q, ws, G1, rfl, _, _, hsub, _⟩ := p1.rp.list
      refine ⟨q, rfl, one_then ok1 e2 fun w H2 F2 p2 ok2 => ⟨2, Rp.inv_int p2.rp, rfl, ?_⟩⟩
      have r := Rp.fx _ p1.rp (p1.pv.fx ok p2.p)
      obtain ⟨q', ws', G2, eq', hsq, rr, hsub', _⟩ := r.list
      cases eq'
      obtain ⟨G3, r3, s3⟩ := rr.drop k
      obtain ⟨G4, r4, s4⟩ := rpl_evens _ r3
      refine ⟨ws', hsq, fun z hz => hq _ _ _ (XPost.newL (p1.p.trans p2.p) hz r4 (fun h => strV_left h) ((p1.pv.sub fun a m => hsub' a (s3 a (s4 a m))).mono fun i hi => List.mem_append_left _ hi) fun h => h)⟩
    · cases he
  · cases he
end
end MP
set_option Elab.async false
set_option linter.all false
set_option maxRecDepth 100000
/-! list(range), what is walked. -/
namespace MP
open PySem PySem.Spec PyProof.Rows L2

section
variable {X : Cx} {C : Cfg} {N : List Str} {cl : Cl} {n : Nat} {sc osc : Scope}
/-! ### list(range(..)) -/
/-- an expression that makes a range a, a + c .. short of b -/
def PRgC (X : Cx) (e : Expr) (t : L2.St → Hp → (Int → Int → Int → Hp → Prop) → Prop) : Prop :=
  ∀ (pins : List (Addr × Obj)) (s : Shared) (σ : L2.St) (H : Hp) (Q : Int → Int → Int → Hp → Prop), Inv X pins σ H s → t σ H Q →
    wpAny (model X.prog X.w) X.A (eval e X.env) (fun x s' => ∃ r a b c t u v H', x = .ref r ∧ IsRange s'.heap r a b c t u v ∧ Inv X pins σ H' s' ∧ Q a b c H') X.xe s
def tRgC (ta : TA) : L2.St → Hp → (Int → Int → Int → Hp → Prop) → Prop := fun σ H Q => ta σ H fun vs H1 =>
  (∃ j : Int, vs = [.int j] ∧ Q 0 j 1 H1) ∨ (∃ i j : Int, vs = [.int i, .int j] ∧ Q i j 1 H1) ∨ ∃ i j : Int, vs = [.int i, .int j, .int (-1)] ∧ Q i j (-1) H1
theorem prgC {es : List Expr} {e : Expr} {ta : TA} {p pos : Pos} (hg : Gl X "range") (hm : X.mg "range" = none) (ha : PA X (e :: es) ta)
    (hs : starEach (e :: es) X.env = (false, eval e X.env) :: starEach es X.env) (hpl : (backTo pos (starEach es X.env)).any (·.1) = false) : PRgC X (.Call (.Name "range" p) (e :: es) [] pos) (tRgC ta) := by
  intro pins s σ H Q I h
  refine Call_ (ld_blt I hg hm boot_range (PyProof.Rows.callWith_type1 (thn (ha.run pos pins s σ H _ I h) fun us s1 ⟨vs, H1, I1, r1, q1⟩ => ?_) hs hpl))
  rcases q1 with ⟨j, rfl, q⟩ | ⟨i, j, rfl, q⟩ | ⟨i, j, rfl, q⟩
  · cases r1 with
    | cons r rr =>
      cases rr
      obtain ⟨t, rfl⟩ := r
      exact call_range_1 ⟨_, 0, j, _, _, _, _, H1, rfl, IsRange.new _ _ _ _ _ _ _, I1.kept fun b u e => Heap.get?_push_of_some _ e, q⟩
  · cases r1 with
    | cons r rr =>
      cases rr with
      | cons r' rr =>
        cases rr
        obtain ⟨t, rfl⟩ := r
        obtain ⟨t', rfl⟩ := r'
        exact call_range_2 ⟨_, i, j, _, _, _, _, H1, rfl, IsRange.new _ _ _ _ _ _ _, I1.kept fun b u e => Heap.get?_push_of_some _ e, q⟩
  · cases r1 with
    | cons r rr =>
      cases rr with
      | cons r' rr =>
        cases rr with
        | cons r'' rr =>
          cases rr
          obtain ⟨t, rfl⟩ := r
          obtain ⟨t', rfl⟩ := r'
          obtain ⟨t'', rfl⟩ := r''
          exact call_range_3 (by decide) ⟨_, i, j, _, _, _, _, H1, rfl, IsRange.new _ _ _ _ _ _ _, I1.kept fun b u e => Heap.get?_push_of_some _ e, q⟩ (.inl (PyProof.noPylong_small (by decide)))
def rgC (a c : Int) (n : Nat) : List V := (List.range n).map fun i => V.int (a + (i : Nat) * c)
theorem rgC_succ (a c : Int) (n : Nat) : rgC a c (n + 1) = .int a :: rgC (a + c) c n := by
  unfold rgC
  rw [List.range_succ_eq_map, List.map_cons, List.map_map]
  refine congr (congrArg _ ?_) (List.map_congr_left fun i _ => ?_)
  · simp
  · show V.int (a + ((i + 1 : Nat) : Int) * c) = _
    congr 1
    rw [Int.natCast_add, Int.add_mul]
    simp
    omega
theorem rgC_rp {K : PySem.W.Frag} {t : Bool} {H : Hp} : ∀ (n : Nat) (a c : Int), RpL K t H (rgC a c n) (rngC a c n) []
  | 0, _, _ => .nil
  | n + 1, a, c => by rw [rgC_succ]; exact .cons (.int a) (rgC_rp n (a + c) c)
theorem rngD_C : ∀ (n : Nat) (a : Int), rngD a n = rngC a 1 n
  | 0, _ => rfl
  | n + 1, a => by unfold rngD rngC; rw [rngD_C n (a + 1)]
theorem rngC_len : ∀ (n : Nat) (a c : Int), (rngC a c n).length = n
  | 0, _, _ => rfl
  | n + 1, a, c => by unfold rngC; rw [List.length_cons, rngC_len n]
theorem rngC_imm : ∀ (n : Nat) (a c : Int), immL (rngC a c n) = true
  | 0, _, _ => rfl
  | n + 1, a, c => by unfold rngC; rw [immL, rngC_imm n]; rfl
theorem vals_rgC {a c : Int} {n : Nat} {acc : Array Value} (h : ItemsOf (fun i v => ∃ t, v = .int (a + i * c) t) acc n) : Vals (rgC a c n) acc.toList := by
  have e : acc.toList.length = n := by rw [Array.length_toList]; exact h.1
  unfold rgC
  rw [← e]
  refine L2.vals_of_get acc.toList _ fun j u hj => ?_
  obtain ⟨t, rfl⟩ := h.2 j u (by rw [← hj, Array.getElem?_toList])
  exact ⟨t, rfl⟩
def tLstRgC (te : L2.St → Hp → (Int → Int → Int → Hp → Prop) → Prop) : TE := fun σ H Q => te σ H fun a b c H1 => ∃ n, Builtin.Range.small a b c = true ∧ Builtin.Range.rangeSize a b c = ((n : Nat) : Int) ∧ n ≤ LIM ∧ ∀ q, H1 q = none → Q (.ref q) (upd H1 q (.lst (rgC a c n)))
theorem pe_lstRgC {e : Expr} {te : L2.St → Hp → (Int → Int → Int → Hp → Prop) → Prop} {p pos : Pos} (hc : X.calm = true) (hg : Gl X "list") (hm : X.mg "list" = none) (he : PRgC X e te) (na : starEach [e] X.env = (false, eval e X.env) :: starEach [] X.env) : PE X (.Call (.Name "list" p) [e] [] pos) (tLstRgC te) := by
  refine ⟨fun pins s σ H Q I h => ?_⟩
  refine Call_ (ld_blt I hg hm boot_list (PyProof.Rows.callWith_type1 (args_cons (thn (he pins s σ H _ I h) fun x s1 ⟨r, a, b, c, t, u, v, H1, ex, hr, I1, n, b1, b2, b3, q⟩ => args_nil ?_) na) na))
  subst ex
  refine call_list_range (n := n) (I1.ok.hd hc) hr b1 b2 (Nat.le_trans b3 (by decide)) fun h' tk acc c' hk e' hi => ?_
  refine ⟨.ref s1.heap.objs.size, upd H1 s1.heap.objs.size (.lst (rgC a c n)), I1.laid hk (Nat.le_refl _) (show ObjOk X.prog X.w _ _ _ (.lst (rgC a c n)) from ⟨?_, acc.toList, c', vals_rgC hi, ?_⟩), rfl, q _ (I1.hok.fresh (Nat.le_refl _))⟩
  · unfold rgC
    rw [List.length_map, List.length_range, sizeLine_eq]
    unfold LIM at b3
    omega
  · rw [Array.toArray_toList]; exact e'
def tTupRgC (te : L2.St → Hp → (Int → Int → Int → Hp → Prop) → Prop) : TE := fun σ H Q => te σ H fun a b c H1 => ∃ n, Builtin.Range.small a b c = true ∧ Builtin.Range.rangeSize a b c = ((n : Nat) : Int) ∧ n ≤ LIM ∧ ∀ q, H1 q = none → Q (.ref q) (upd H1 q (.tup (rgC a c n)))
theorem pe_tupRgC {e : Expr} {te : L2.St → Hp → (Int → Int → Int → Hp → Prop) → Prop} {p pos : Pos} (hc : X.calm = true) (hg : Gl X "tuple") (hm : X.mg "tuple" = none) (he : PRgC X e te) (na : starEach [e] X.env = (false, eval e X.env) :: starEach [] X.env) : PE X (.Call (.Name "tuple" p) [e] [] pos) (tTupRgC te) := by
  refine ⟨fun pins s σ H Q I h => ?_⟩
  refine Call_ (ld_blt I hg hm boot_tuple (PyProof.Rows.callWith_type1 (args_cons (thn (he pins s σ H _ I h) fun x s1 ⟨r, a, b, c, t, u, v, H1, ex, hr, I1, n, b1, b2, b3, q⟩ => args_nil ?_) na) na))
  subst ex
  refine call_tuple_range (n := n) (I1.ok.hd hc) hr b1 b2 (Nat.le_trans b3 (by decide)) fun h' tk acc hk hi => ?_
  have I2 : Inv X pins σ H1 { s1 with heap := h', toks := tk } := I1.kept hk
  refine ⟨.ref h'.objs.size, upd H1 h'.objs.size (.tup (rgC a c n)), I2.laid (t' := tk) (fun c o e => Heap.get?_push_of_some _ e) (Nat.le_refl _) (show ObjOk X.prog X.w _ _ _ (.tup (rgC a c n)) from ⟨?_, acc.toList, vals_rgC hi, ?_⟩), rfl, q _ (I2.hok.fresh (Nat.le_refl _))⟩
  · unfold rgC
    rw [List.length_map, List.length_range, sizeLine_eq]
    unfold LIM at b3
    omega
  · rw [Array.toArray_toList]; exact IsTup.new _ _
theorem rngD_len (a : Int) (n : Nat) : (rngD a n).length = n := by rw [rngD_C, rngC_len]
/-- what stands at a range's bounds -/
theorem evI_rng {it : Ito} {E : Env} {P P' : PyData} {ds : List PyData} (hr : isRng it = true) (h : evI cl it E P = some (ds, P')) :
    (∃ a j, it = .rng1 a ∧ ev cl a E P = some (.int j, P') ∧ (-1000000000 ≤ j ∧ j ≤ 1000000000) ∧ ds = rngC 0 1 j.toNat) ∨
    (∃ a b i j P1, it = .rng2 a b ∧ ev cl a E P = some (.int i, P1) ∧ ev cl b E P1 = some (.int j, P') ∧ (-1000000000 ≤ i ∧ i ≤ 1000000000) ∧ (-1000000000 ≤ j ∧ j ≤ 1000000000) ∧ ds = rngC i 1 (j - i).toNat) ∨
    ∃ a b c i j P1 P2, it = .rng3 a b c ∧ ev cl a E P = some (.int i, P1) ∧ ev cl b E P1 = some (.int j, P2) ∧ ev cl c E P2 = some (.int (-1), P') ∧ (-1000000000 ≤ i ∧ i ≤ 1000000000) ∧ (-1000000000 ≤ j ∧ j ≤ 1000000000) ∧ ds = rngC i (-1) (i - j).toNat := by
  cases it with
  | seq e => cases hr
  | enum e => cases hr
  | zip a b => cases hr
  | rng1 a =>
    unfold evI at h
    split at h
    · rename_i j P1 e1
      split at h
      · rename_i hc
        simp only [Bool.and_eq_true, decide_eq_true_eq] at hc
        cases h
        exact .inl ⟨a, j, rfl, e1, hc, rngD_C _ _⟩
      · cases h
    · cases h
  | rng2 a b =>
    unfold evI at h
    split at h
    · rename_i i P1 e1
      split at h
      · rename_i j P2 e2
        split at h
        · rename_i hc
          simp only [Bool.and_eq_true, decide_eq_true_eq] at hc
          cases h
          exact .inr (.inl ⟨a, b, i, j, P1, rfl, e1, e2, hc.1, hc.2, rngD_C _ _⟩)
        · cases h
      · cases h
    · cases h
  | rng3 a b c =>
    unfold evI at h
    split at h
    · rename_i i P1 e1
      split at h
      · rename_i j P2 e2
        split at h
        · rename_i P3 e3
          split at h
          · rename_i hc
            simp only [Bool.and_eq_true, decide_eq_true_eq] at hc
            cases h
            exact .inr (.inr ⟨a, b, c, i, j, P1, P2, rfl, e1, e2, e3, hc.1, hc.2, rfl⟩)
          · cases h
        · cases h
      · cases h
    · cases h
theorem pe_lrng1 (G : GoodX C N cl n X sc osc) {a : Ex} {e : Expr} {p p1 p2 pos : Pos} (hl : glB sc ("list" : Str) = true) (hg : glB sc ("range" : Str) = true) (hs : noStar e = true) (ha : PE X e (exTE X.K cl a)) :
    PE X (.Call (.Name "list" p) [.Call (.Name "range" p1) [e] [] p2] [] pos) (exTE X.K cl (.lrng (.rng1 a))) := by
  refine PE.imp (pe_lstRgC G.calm (gl_of G hl) (G.free _ (by decide)) (prgC (gl_of G hg) (G.free _ (by decide)) (pa_cons ha pa_nil (star_cons hs)) (star_cons hs) rfl) rfl) ?_
  rintro σ H Q ⟨E, P, Fm, pa, d, P', ok, he, hq⟩
  unfold ev at he
  cases e1 : evI cl (.rng1 a) E P with
  | none => rw [e1] at he; cases he
  | some y =>
    obtain ⟨ds, P1⟩ := y
    rw [e1] at he
    dsimp only at he
    split at he
    · rename_i hlim
      cases he
      rcases evI_rng rfl e1 with ⟨a', j, ea, e2, hj, rfl⟩ | ⟨a', b', i, j, P2, ea, _⟩ | ⟨a', b', c', i, j, P2, P3, ea, _⟩
      · cases ea
        refine one_then ok e2 fun v H1 F p1 ok1 => .inl ⟨j, by rw [Rp.inv_int p1.rp], j.toNat, small_one (by omega) (by omega) (by omega) (by omega), by rw [rangeSize_nat]; simp, by rw [rngC_len] at hlim; exact hlim, fun z hz => hq _ _ _ (XPost.newL p1.p hz (rgC_rp _ _ _) (fun h => h) Pv.nil fun h => h)⟩
      · cases ea
      · cases ea
    · cases he
theorem pe_lrng2 (G : GoodX C N cl n X sc osc) {a b : Ex} {e e' : Expr} {p p1 p2 pos : Pos} (hl : glB sc ("list" : Str) = true) (hg : glB sc ("range" : Str) = true) (hs : noStar e = true) (hs' : noStar e' = true) (ha : PE X e (exTE X.K cl a)) (hb : PE X e' (exTE X.K cl b)) :
    PE X (.Call (.Name "list" p) [.Call (.Name "range" p1) [e, e'] [] p2] [] pos) (exTE X.K cl (.lrng (.rng2 a b))) := by
  refine PE.imp (pe_lstRgC G.calm (gl_of G hl) (G.free _ (by decide)) (prgC (gl_of G hg) (G.free _ (by decide)) (pa_cons ha (pa_cons hb pa_nil (star_cons hs')) (star_cons hs)) (star_cons hs) (by rw [star_cons hs']; rfl)) rfl) ?_
  rintro σ H Q ⟨E, P, Fm, pa, d, P', ok, he, hq⟩
  unfold ev at he
  cases e1 : evI cl (.rng2 a b) E P with
  | none => rw [e1] at he; cases he
  | some y =>
    obtain ⟨ds, P1⟩ := y
    rw [e1] at he
    dsimp only at he
    split at he
    · rename_i hlim
      cases he
      rcases evI_rng rfl e1 with ⟨a', j, ea, _⟩ | ⟨a', b', i, j, P2, ea, e2, e3, hi, hj, rfl⟩ | ⟨a', b', c', i, j, P2, P3, ea, _⟩
      · cases ea
      · cases ea
        refine one_then ok e2 fun v H1 F p1 ok1 => one_then ok1 e3 fun w H2 F2 p2 ok2 => .inr (.inl ⟨i, j, by rw [Rp.inv_int p1.rp, Rp.inv_int p2.rp], (j - i).toNat, small_one (by omega) (by omega) (by omega) (by omega), by rw [rangeSize_nat], by rw [rngC_len] at hlim; exact hlim, fun z hz => hq _ _ _ (XPost.newL (p1.p.trans p2.p) hz (rgC_rp _ _ _) (fun h => h) Pv.nil fun h => h)⟩)
      · cases ea
    · cases he
theorem pe_lrng3 (G : GoodX C N cl n X sc osc) {a b c : Ex} {e e' e'' : Expr} {p p1 p2 pos : Pos} (hl : glB sc ("list" : Str) = true) (hg : glB sc ("range" : Str) = true) (hs : noStar e = true) (hs' : noStar e' = true) (hs'' : noStar e'' = true) (ha : PE X e (exTE X.K cl a)) (hb : PE X e' (exTE X.K cl b)) (hc : PE X e'' (exTE X.K cl c)) :
    PE X (.Call (.Name "list" p) [.Call (.Name "range" p1) [e, e', e''] [] p2] [] pos) (exTE X.K cl (.lrng (.rng3 a b c))) := by
  refine PE.imp (pe_lstRgC G.calm (gl_of G hl) (G.free _ (by decide)) (prgC (gl_of G hg) (G.free _ (by decide)) (pa_cons ha (pa_cons hb (pa_cons hc pa_nil (star_cons hs'')) (star_cons hs')) (star_cons hs)) (star_cons hs) (by rw [star_cons hs', star_cons hs'']; rfl)) rfl) ?_
  rintro σ H Q ⟨E, P, Fm, pa, d, P', ok, he, hq⟩
  unfold ev at he
  cases e1 : evI cl (.rng3 a b c) E P with
  | none => rw [e1] at he; cases he
  | some y =>
    obtain ⟨ds, P1⟩ := y
    rw [e1] at he
    dsimp only at he
    split at he
    · rename_i hlim
      cases he
      rcases evI_rng rfl e1 with ⟨a', j, ea, _⟩ | ⟨a', b', i, j, P2, ea, _⟩ | ⟨a', b', c', i, j, P2, P3, ea, e2, e3, e4, hi, hj, rfl⟩
      · cases ea
      · cases ea
      · cases ea
        refine one_then ok e2 fun v H1 F p1 ok1 => one_then ok1 e3 fun w H2 F2 p2 ok2 => one_then ok2 e4 fun u H3 F3 p3 ok3 => .inr (.inr ⟨i, j, by rw [Rp.inv_int p1.rp, Rp.inv_int p2.rp, Rp.inv_int p3.rp], (i - j).toNat, PySem.W.small_down (by omega) (by omega) (by omega) (by omega), by rw [PySem.W.rangeSize_downNat], by rw [rngC_len] at hlim; exact hlim, fun z hz => hq _ _ _ (XPost.newL ((p1.p.trans p2.p).trans p3.p) hz (rgC_rp _ _ _) (fun h => h) Pv.nil fun h => h)⟩)
    · cases he

theorem pe_trng1 (G : GoodX C N cl n X sc osc) {a : Ex} {e : Expr} {p p1 p2 pos : Pos} (hl : glB sc ("tuple" : Str) = true) (hg : glB sc ("range" : Str) = true) (hs : noStar e = true) (ha : PE X e (exTE X.K cl a)) :
    PE X (.Call (.Name "tuple" p) [.Call (.Name "range" p1) [e] [] p2] [] pos) (exTE X.K cl (.trng (.rng1 a))) := by
  refine PE.imp (pe_tupRgC G.calm (gl_of G hl) (G.free _ (by decide)) (prgC (gl_of G hg) (G.free _ (by decide)) (pa_cons ha pa_nil (star_cons hs)) (star_cons hs) rfl) rfl) ?_
  rintro σ H Q ⟨E, P, Fm, pa, d, P', ok, he, hq⟩
  unfold ev at he
  cases e1 : evI cl (.rng1 a) E P with
  | none => rw [e1] at he; cases he
  | some y =>
    obtain ⟨ds, P1⟩ := y
    rw [e1] at he
    dsimp only at he
    split at he
    · rename_i hlim
      cases he
      rcases evI_rng rfl e1 with ⟨a', j, ea, e2, hj, rfl⟩ | ⟨a', b', i, j, P2, ea, _⟩ | ⟨a', b', c', i, j, P2, P3, ea, _⟩
      · cases ea
        refine one_then ok e2 fun v H1 F p1 ok1 => .inl ⟨j, by rw [Rp.inv_int p1.rp], j.toNat, small_one (by omega) (by omega) (by omega) (by omega), by rw [rangeSize_nat]; simp, by rw [rngC_len] at hlim; exact hlim, fun z hz => hq _ _ _ (XPost.newT p1.p hz (rgC_rp _ _ _) (fun h => h) Pv.nil fun h => (by simpa [frs, imm] using h))⟩
      · cases ea
      · cases ea
    · cases he
theorem pe_trng2 (G : GoodX C N cl n X sc osc) {a b : Ex} {e e' : Expr} {p p1 p2 pos : Pos} (hl : glB sc ("tuple" : Str) = true) (hg : glB sc ("range" : Str) = true) (hs : noStar e = true) (hs' : noStar e' = true) (ha : PE X e (exTE X.K cl a)) (hb : PE X e' (exTE X.K cl b)) :
    PE X (.Call (.Name "tuple" p) [.Call (.Name "range" p1) [e, e'] [] p2] [] pos) (exTE X.K cl (.trng (.rng2 a b))) := by
  refine PE.imp (pe_tupRgC G.calm (gl_of G hl) (G.free _ (by decide)) (prgC (gl_of G hg) (G.free _ (by decide)) (pa_cons ha (pa_cons hb pa_nil (star_cons hs')) (star_cons hs)) (star_cons hs) (by rw [star_cons hs']; rfl)) rfl) ?_
  rintro σ H Q ⟨E, P, Fm, pa, d, P', ok, he, hq⟩
  unfold ev at he
  cases e1 : evI cl (.rng2 a b) E P with
  | none => rw [e1] at he; cases he
  | some y =>
    obtain ⟨ds, P1⟩ := y
    rw [e1] at he
    dsimp only at he
    split at he
    · rename_i hlim
      cases he
      rcases evI_rng rfl e1 with ⟨a', j, ea, _⟩ | ⟨a', b', i, j, P2, ea, e2, e3, hi, hj, rfl⟩ | ⟨a', b', c', i, j, P2, P3, ea, _⟩
      · cases ea
      · cases ea
        refine one_then ok e2 fun v H1 F p1 ok1 => one_then ok1 e3 fun w H2 F2 p2 ok2 => .inr (.inl ⟨i, j, by rw [Rp.inv_int p1.rp, Rp.inv_int p2.rp], (j - i).toNat, small_one (by omega) (by omega) (by omega) (by omega), by rw [rangeSize_nat], by rw [rngC_len] at hlim; exact hlim, fun z hz => hq _ _ _ (XPost.newT (p1.p.trans p2.p) hz (rgC_rp _ _ _) (fun h => h) Pv.nil fun h => (by simpa [frs, imm] using h))⟩)
      · cases ea
    · cases he
theorem pe_trng3 (G : GoodX C N cl n X sc osc) {a b c : Ex} {e e' e'' : Expr} {p p1 p2 pos : Pos} (hl : glB sc ("tuple" : Str) = true) (hg : glB sc ("range" : Str) = true) (hs : noStar e = true) (hs' : noStar e' = true) (hs'' : noStar e'' = true) (ha : PE X e (exTE X.K cl a)) (hb : PE X e' (exTE X.K cl b)) (hc : PE X e'' (exTE X.K cl c)) :
    PE X (.Call (.Name "tuple" p) [.Call (.Name "range" p1) [e, e', e''] [] p2] [] pos) (exTE X.K cl (.trng (.rng3 a b c))) := by
  refine PE.imp (pe_tupRgC G.calm (gl_of G hl) (G.free _ (by decide)) (prgC (gl_of G hg) (G.free _ (by decide)) (pa_cons ha (pa_cons hb (pa_cons hc pa_nil (star_cons hs'')) (star_cons hs')) (star_cons hs)) (star_cons hs) (by rw [star_cons hs', star_cons hs'']; rfl)) rfl) ?_
  rintro σ H Q ⟨E, P, Fm, pa, d, P', ok, he, hq⟩
  unfold ev at he
  cases e1 : evI cl (.rng3 a b c) E P with
  | none => rw [e1] at he; cases he
  | some y =>
    obtain ⟨ds, P1⟩ := y
    rw [e1] at he
    dsimp only at he
    split at he
    · rename_i hlim
      cases he
      rcases evI_rng rfl e1 with ⟨a', j, ea, _⟩ | ⟨a', b', i, j, P2, ea, _⟩ | ⟨a', b', c', i, j, P2, P3, ea, e2, e3, e4, hi, hj, rfl⟩
      · cases ea
      · cases ea
      · cases ea
        refine one_then ok e2 fun v H1 F p1 ok1 => one_then ok1 e3 fun w H2 F2 p2 ok2 => one_then ok2 e4 fun u H3 F3 p3 ok3 => .inr (.inr ⟨i, j, by rw [Rp.inv_int p1.rp, Rp.inv_int p2.rp, Rp.inv_int p3.rp], (i - j).toNat, PySem.W.small_down (by omega) (by omega) (by omega) (by omega), by rw [PySem.W.rangeSize_downNat], by rw [rngC_len] at hlim; exact hlim, fun z hz => hq _ _ _ (XPost.newT ((p1.p.trans p2.p).trans p3.p) hz (rgC_rp _ _ _) (fun h => h) Pv.nil fun h => (by simpa [frs, imm] using h))⟩)
    · cases he

/-! ### what is walked -/
theorem itrep_L {K : PySem.W.Frag} {t : Bool} {H : Hp} {a : Addr} {vs : List V} {ds : List PyData} {F G : List Addr} (hs : F = a :: G ∧ H a = some (.lst vs) ∨ Still K H a vs) (r : RpL K t H vs ds G) (hsub : ∀ x ∈ G, x ∈ F) : ItRep K t (Itl K a) ds H F := by
  have sq : ∀ H2, Fx F H H2 → SqL K H2 a vs := by
    intro H2 k
    rcases hs with ⟨rfl, h⟩ | h
    · exact .inl (.inl (k.2 a List.mem_cons_self _ h))
    · exact (h.keep k.1).sq
  refine ⟨fun H2 k i hi => ?_, fun H2 k => ⟨vs, sq H2 k, by rw [r.len]; exact Nat.le_refl _⟩, fun H2 k i d hd x H3 y => ?_⟩
  · obtain ⟨v, G', e, _⟩ := r.get (List.getElem?_eq_getElem hi)
    exact ⟨vs, v, sq H2 k, e⟩
  · obtain ⟨e, y⟩ := y
    subst e
    obtain ⟨v, G', e, r', hs'⟩ := r.get hd
    have := y vs (sq _ k)
    rw [e] at this
    cases this
    exact ⟨Ext.refl, G', fun a m => hsub a (hs' a m), Rp.fx d r' (k.sub fun a m => hsub a (hs' a m))⟩
theorem itrep_T {K : PySem.W.Frag} {t : Bool} {H : Hp} {a : Addr} {vs : List V} {ds : List PyData} {F : List Addr} (hs : TpT K H a vs) (r : RpL K t H vs ds F) : ItRep K t (Itt K a) ds H F := by
  have sq : ∀ H2, Fx F H H2 → SqT K H2 a vs := fun H2 k => (hs.keep k.1).sq
  refine ⟨fun H2 k i hi => ?_, fun H2 k => ⟨vs, sq H2 k, by rw [r.len]; exact Nat.le_refl _⟩, fun H2 k i d hd x H3 y => ?_⟩
  · obtain ⟨v, G', e, _⟩ := r.get (List.getElem?_eq_getElem hi)
    exact ⟨vs, v, sq H2 k, e⟩
  · obtain ⟨e, y⟩ := y
    subst e
    obtain ⟨v, G', e, r', hs'⟩ := r.get hd
    have := y vs (sq _ k)
    rw [e] at this
    cases this
    exact ⟨Ext.refl, G', hs', Rp.fx d r' (k.sub hs')⟩
theorem rngC_get : ∀ {n : Nat} {a c : Int} {i : Nat} {d : PyData}, (rngC a c n)[i]? = some d → d = .int (a + (i : Nat) * c)
  | 0, _, _, _, _, h => by simp [rngC] at h
  | n + 1, a, c, 0, d, h => by
    have e := Option.some.inj (show some (PyData.int a) = some d from h)
    subst e
    simp
  | n + 1, a, c, i + 1, d, h => by
    have e := rngC_get (show (rngC (a + c) c n)[i]? = some d from by simpa [rngC] using h)
    rw [e]
    congr 1
    rw [Int.natCast_add, Int.add_mul]
    simp
    omega
theorem itrep_R {K : PySem.W.Frag} {t : Bool} {H : Hp} {lo : Int} {n : Nat} : ItRep K t (Itr lo n) (rngC lo 1 n) H [] := by
  refine ⟨fun H2 k i hi => by rw [rngC_len] at hi; exact hi, fun H2 k => by rw [rngC_len]; exact Nat.le_refl _, fun H2 k i d hd x H3 y => ?_⟩
  obtain ⟨e, y⟩ := y
  subst e y
  rw [rngC_get hd, Int.mul_one]
  exact ⟨Ext.refl, [], fun a m => m, .int _⟩
theorem itrep_C {K : PySem.W.Frag} {t : Bool} {H : Hp} {lo c : Int} {n : Nat} : ItRep K t (Itc lo c n) (rngC lo c n) H [] := by
  refine ⟨fun H2 k i hi => by rw [rngC_len] at hi; exact hi, fun H2 k => by rw [rngC_len]; exact Nat.le_refl _, fun H2 k i d hd x H3 y => ?_⟩
  obtain ⟨e, y⟩ := y
  subst e y
  rw [rngC_get hd]
  exact ⟨Ext.refl, [], fun a m => m, .int _⟩
theorem Rp.at_of {K : PySem.W.Frag} {t : Bool} {H : Hp} {d : PyData} {v : V} {F : List Addr} (h : Rp K t H v d F) : ∀ a ∈ F, ∃ xs, H a = some (.lst xs) := Rp.at d h
theorem seq_some {d : PyData} {ds : List PyData} (h : seqOf d = some ds) : d = .list ds ∨ d = .tuple ds := by
  cases d <;> first | (cases h; exact .inl rfl) | (cases h; exact .inr rfl) | cases h
theorem pi_seqM {tg e : Expr} {a : Ex} (ha : PE X e (exTE X.K cl a)) : PI X tg e (exTI X.K cl (.seq a)) := by
  refine PI.imp (PI.or (pi_list ha) (pi_tup ha)) ?_
  rintro σ H R ⟨E, P, Fm, pa, ds, P', ok, he, hq⟩
  unfold evI at he
  cases e1 : ev cl a E P with
  | none => rw [e1] at he; cases he
  | some y =>
    obtain ⟨x, P1⟩ := y
    rw [e1] at he
    obtain ⟨ds', e2, e3⟩ := Option.map_eq_some_iff.mp he
    cases e3
    rcases seq_some e2 with rfl | rfl
    · refine .inl (one_then ok e1 fun v H1 F p1 ok1 => ?_)
      obtain ⟨q, vs, G, rfl, hsq, rr, hsub, hc⟩ := p1.rp.list
      exact ⟨q, rfl, ⟨vs, hsq⟩, hq _ _ F ⟨p1.p, itrep_L (hc.imp id fun h => h.2.2) rr hsub, p1.pv, p1.rp.at_of⟩⟩
    · refine .inr (one_then ok e1 fun v H1 F p1 ok1 => ?_)
      obtain ⟨q, vs, rfl, hs, rr⟩ := id p1.rp.tuple
      exact ⟨q, rfl, ⟨vs, hs.sq⟩, hq _ _ F ⟨p1.p, itrep_T hs rr, p1.pv, p1.rp.at_of⟩⟩
theorem pi_rng1M (G : GoodX C N cl n X sc osc) {tg : Expr} {a : Ex} {e : Expr} {p pos : Pos} (hg : glB sc ("range" : Str) = true) (hs : noStar e = true) (ha : PE X e (exTE X.K cl a)) : PI X tg (.Call (.Name "range" p) [e] [] pos) (exTI X.K cl (.rng1 a)) := by
  refine PI.imp (pi_range1 (gl_of G hg) (G.free _ (by decide)) (pa_cons ha pa_nil (star_cons hs)) (star_cons hs)) ?_
  rintro σ H R ⟨E, P, Fm, pa, ds, P', ok, he, hq⟩
  rcases evI_rng rfl he with ⟨a', j, ea, e2, hj, rfl⟩ | ⟨a', b', i, j, P2, ea, _⟩ | ⟨a', b', c', i, j, P2, P3, ea, _⟩
  · cases ea
    exact one_then ok e2 fun v H1 F p1 ok1 => ⟨j, by rw [Rp.inv_int p1.rp], by omega, by omega, hq _ _ [] ⟨p1.p, itrep_R, Pv.nil, fun _ m => nomatch m⟩⟩
  · cases ea
  · cases ea
theorem pi_rng2M (G : GoodX C N cl n X sc osc) {tg : Expr} {a b : Ex} {e e' : Expr} {p pos : Pos} (hg : glB sc ("range" : Str) = true) (hs : noStar e = true) (hs' : noStar e' = true) (ha : PE X e (exTE X.K cl a)) (hb : PE X e' (exTE X.K cl b)) : PI X tg (.Call (.Name "range" p) [e, e'] [] pos) (exTI X.K cl (.rng2 a b)) := by
  refine PI.imp (pi_range2 (gl_of G hg) (G.free _ (by decide)) (pa_cons ha (pa_cons hb pa_nil (star_cons hs')) (star_cons hs)) (by rw [star_cons hs, star_cons hs']; rfl) (star_cons hs')) ?_
  rintro σ H R ⟨E, P, Fm, pa, ds, P', ok, he, hq⟩
  rcases evI_rng rfl he with ⟨a', j, ea, _⟩ | ⟨a', b', i, j, P2, ea, e2, e3, hi, hj, rfl⟩ | ⟨a', b', c', i, j, P2, P3, ea, _⟩
  · cases ea
  · cases ea
    exact one_then ok e2 fun v H1 F p1 ok1 => one_then ok1 e3 fun w H2 F2 p2 ok2 => ⟨i, j, by rw [Rp.inv_int p1.rp, Rp.inv_int p2.rp], ⟨by omega, by omega, by omega, by omega⟩, hq _ _ [] ⟨p1.p.trans p2.p, itrep_R, Pv.nil, fun _ m => nomatch m⟩⟩
  · cases ea
theorem pi_rng3M (G : GoodX C N cl n X sc osc) {tg : Expr} {a b c : Ex} {e e' e'' : Expr} {p pos : Pos} (hg : glB sc ("range" : Str) = true) (hs : noStar e = true) (hs' : noStar e' = true) (hs'' : noStar e'' = true) (ha : PE X e (exTE X.K cl a)) (hb : PE X e' (exTE X.K cl b)) (hc : PE X e'' (exTE X.K cl c)) : PI X tg (.Call (.Name "range" p) [e, e', e''] [] pos) (exTI X.K cl (.rng3 a b c)) := by
  refine PI.imp (pi_range3 (gl_of G hg) (G.free _ (by decide)) (pa_cons ha (pa_cons hb (pa_cons hc pa_nil (star_cons hs'')) (star_cons hs')) (star_cons hs)) (star_cons hs) (by rw [star_cons hs', star_cons hs'']; rfl)) ?_
  rintro σ H R ⟨E, P, Fm, pa, ds, P', ok, he, hq⟩
  rcases evI_rng rfl he with ⟨a', j, ea, _⟩ | ⟨a', b', i, j, P2, ea, _⟩ | ⟨a', b', c', i, j, P2, P3, ea, e2, e3, e4, hi, hj, rfl⟩
  · cases ea
  · cases ea
  · cases ea
    exact one_then ok e2 fun v H1 F p1 ok1 => one_then ok1 e3 fun w H2 F2 p2 ok2 => one_then ok2 e4 fun u H3 F3 p3 ok3 => ⟨i, j, -1, _, by rw [Rp.inv_int p1.rp, Rp.inv_int p2.rp, Rp.inv_int p3.rp], RgC.neg (by omega) (by omega) (by omega) (by omega), hq _ _ [] ⟨(p1.p.trans p2.p).trans p3.p, itrep_C, Pv.nil, fun _ m => nomatch m⟩⟩
/-! ### zip -/
theorem zipD_get : ∀ {ds es : List PyData} {i : Nat} {d : PyData}, (zipD ds es)[i]? = some d → ∃ x y, ds[i]? = some x ∧ es[i]? = some y ∧ d = .tuple [x, y]
  | [], _, _, _, h => by simp [zipD] at h
  | _ :: _, [], _, _, h => by simp [zipD] at h
  | a :: r, b :: s, 0, d, h => by
    have e := Option.some.inj (show some (PyData.tuple [a, b]) = some d from h)
    exact ⟨a, b, rfl, rfl, e.symm⟩
  | a :: r, b :: s, i + 1, d, h => by
    obtain ⟨x, y, h1, h2, h3⟩ := zipD_get (show (zipD r s)[i]? = some d from by simpa [zipD] using h)
    exact ⟨x, y, by simpa using h1, by simpa using h2, h3⟩
theorem zipD_len : ∀ {ds es : List PyData}, (zipD ds es).length = min ds.length es.length
  | [], _ => by simp [zipD]
  | _ :: _, [] => by simp [zipD]
  | a :: r, b :: s => by
    unfold zipD
    rw [List.length_cons, List.length_cons, List.length_cons, zipD_len]
    omega
theorem pair_rp {K : PySem.W.Frag} {t : Bool} {H : Hp} {q : Addr} {x y : V} {d e : PyData} {F G : List Addr} (hq : H q = none) (r1 : Rp K t H x d F) (r2 : Rp K t H y e G) : Rp K t (upd H q (.tup [x, y])) (.ref q) (.tuple [d, e]) (F ++ (G ++ [])) := by
  have k : Ext H (upd H q (.tup [x, y])) := Ext.new hq
  exact .tup (.inl upd_same) (.cons (Rp.fx d r1 k.fx) (.cons (Rp.fx e r2 k.fx) .nil))
theorem pi_zipM (G : GoodX C N cl n X sc osc) {a b : Ex} {e e' : Expr} {p pos tpos : Pos} {elts : List Expr} {kk : Nat} (hg : glB sc ("zip" : Str) = true) (hs : noStar e = true) (hs' : noStar e' = true) (ha : PE X e (exTE X.K cl a)) (hb : PE X e' (exTE X.K cl b)) : PI X (.Tuple elts kk tpos) (.Call (.Name "zip" p) [e, e'] [] pos) (exTI X.K cl (.zip a b)) := by
  refine PI.imp (RZ.pi_zipA (gl_of G hg) (G.free _ (by decide)) (pa_cons ha (pa_cons hb pa_nil (star_cons hs')) (star_cons hs)) (star_cons hs) (by rw [star_cons hs']; rfl)) ?_
  rintro σ H R ⟨E, P, Fm, pa, ds, P', ok, he, hq⟩
  unfold evI at he
  cases e1 : ev cl a E P with
  | none => rw [e1] at he; cases he
  | some y =>
    obtain ⟨x, P1⟩ := y
    rw [e1] at he
    dsimp only at he
    cases e2 : ev cl b E P1 with
    | none => rw [e2] at he; cases he
    | some y =>
      obtain ⟨y, P2⟩ := y
      rw [e2] at he
      dsimp only at he
      refine two_then ok e1 e2 fun v w H2 F1 F2 t => ?_
      split at he
      · rename_i ds1 ds2
        cases he
        obtain ⟨q, vs, G1, rfl, hsq, rr, hsub, hc⟩ := t.r1.list
        obtain ⟨q', vs', G1', rfl, hsq', rr', hsub', hc'⟩ := t.r2.list
        have sq : ∀ H3, Fx (F1 ++ F2) H2 H3 → SqL X.K H3 q vs := by
          intro H3 k
          rcases hc with ⟨rfl, h⟩ | ⟨_, _, h⟩
          · exact .inl (.inl (k.2 q (List.mem_append_left _ List.mem_cons_self) _ h))
          · exact (h.keep k.1).sq
        have sq' : ∀ H3, Fx (F1 ++ F2) H2 H3 → SqL X.K H3 q' vs' := by
          intro H3 k
          rcases hc' with ⟨rfl, h⟩ | ⟨_, _, h⟩
          · exact .inl (.inl (k.2 q' (List.mem_append_right _ List.mem_cons_self) _ h))
          · exact (h.keep k.1).sq
        refine ⟨q, q', vs, vs', rfl, .inl ⟨hsq, hsq', hq _ _ (F1 ++ F2) ⟨t.p, ⟨fun H3 k i hi => ?_, fun H3 k => ?_, fun H3 k i d hd x H4 y => ?_⟩, Pv.append t.v1 t.v2, fun z m => (List.mem_append.mp m).elim (t.r1.at_of z) (t.r2.at_of z)⟩⟩⟩
        · obtain ⟨x, y, h1, h2, _⟩ := zipD_get (List.getElem?_eq_getElem hi)
          obtain ⟨v, _, g1, _⟩ := rr.get h1
          obtain ⟨w, _, g2, _⟩ := rr'.get h2
          exact ⟨vs, vs', v, w, sq H3 k, sq' H3 k, g1, g2⟩
        · refine ⟨vs, vs', sq H3 k, sq' H3 k, ?_⟩
          rw [zipD_len, rr.len, rr'.len]
          omega
        · obtain ⟨T, u, u', rfl, hT, rfl, k1, k2⟩ := y
          obtain ⟨x, y, h1, h2, rfl⟩ := zipD_get hd
          obtain ⟨v, G2, g1, r1, s1⟩ := rr.get h1
          obtain ⟨w, G3, g2, r2, s2⟩ := rr'.get h2
          have z1 := k1 vs (sq H3 k)
          rw [g1] at z1
          cases z1
          have z2 := k2 vs' (sq' H3 k)
          rw [g2] at z2
          cases z2
          refine ⟨Ext.new hT, _, fun z m => ?_, pair_rp hT (Rp.fx x (r1.to strV_left) (k.sub fun z m => List.mem_append_left _ (hsub z (s1 z m)))) (Rp.fx y (r2.to strV_right) (k.sub fun z m => List.mem_append_right _ (hsub' z (s2 z m))))⟩
          rcases List.mem_append.mp m with m | m
          · exact List.mem_append_left _ (hsub z (s1 z m))
          · rw [List.append_nil] at m
            exact List.mem_append_right _ (hsub' z (s2 z m))
      · rename_i ds1 ds2
        cases he
        obtain ⟨q, vs, rfl, hc, rr⟩ := id t.r1.tuple
        obtain ⟨q', vs', rfl, hc', rr'⟩ := id t.r2.tuple
        have sq : ∀ H3, Fx (F1 ++ F2) H2 H3 → SqT X.K H3 q vs := fun H3 k => (hc.keep k.1).sq
        have sq' : ∀ H3, Fx (F1 ++ F2) H2 H3 → SqT X.K H3 q' vs' := fun H3 k => (hc'.keep k.1).sq
        refine ⟨q, q', vs, vs', rfl, .inr ⟨hc.sq, hc'.sq, hq _ _ (F1 ++ F2) ⟨t.p, ⟨fun H3 k i hi => ?_, fun H3 k => ?_, fun H3 k i d hd x H4 y => ?_⟩, Pv.append t.v1 t.v2, fun z m => (List.mem_append.mp m).elim (t.r1.at_of z) (t.r2.at_of z)⟩⟩⟩
        · obtain ⟨x, y, h1, h2, _⟩ := zipD_get (List.getElem?_eq_getElem hi)
          obtain ⟨v, _, g1, _⟩ := rr.get h1
          obtain ⟨w, _, g2, _⟩ := rr'.get h2
          exact ⟨vs, vs', v, w, sq H3 k, sq' H3 k, g1, g2⟩
        · refine ⟨vs, vs', sq H3 k, sq' H3 k, ?_⟩
          rw [zipD_len, rr.len, rr'.len]
          omega
        · obtain ⟨T, u, u', rfl, hT, rfl, k1, k2⟩ := y
          obtain ⟨x, y, h1, h2, rfl⟩ := zipD_get hd
          obtain ⟨v, G2, g1, r1, s1⟩ := rr.get h1
          obtain ⟨w, G3, g2, r2, s2⟩ := rr'.get h2
          have z1 := k1 vs (sq H3 k)
          rw [g1] at z1
          cases z1
          have z2 := k2 vs' (sq' H3 k)
          rw [g2] at z2
          cases z2
          refine ⟨Ext.new hT, _, fun z m => ?_, pair_rp hT (Rp.fx x (r1.to strV_left) (k.sub fun z m => List.mem_append_left _ (s1 z m))) (Rp.fx y (r2.to strV_right) (k.sub fun z m => List.mem_append_right _ (s2 z m)))⟩
          rcases List.mem_append.mp m with m | m
          · exact List.mem_append_left _ (s1 z m)
          · rw [List.append_nil] at m
            exact List.mem_append_right _ (s2 z m)
      · cases he
end
end MP
set_option Elab.async false
set_option linter.all false
set_option maxRecDepth 100000
/-! enumerate, over a list and over a tuple. -/
namespace MPT
open PySem
open Sem (wp)
open AutoSeq1 (wpAny_loadPart')
theorem meets_enumerate_newT (l : Addr) (items : Array Value) (n : Nat) (dct : Option Addr) (sl : Array (Option Value)) :
    Meets (Builtin.«enumerate.__new__» ⟨[.type "enumerate", .ref l], []⟩) (fun _ R s => s.heap.get? l = some { cls := .type "tuple", dict := dct, data := .seq items n, slots := sl } ∧
      R (.ok (.ret (.ref (s.heap.push { cls := .type "tuple_iterator", data := .fields #[.ref l, .int 0 0] }).objs.size)))
        { s with heap := (s.heap.push { cls := .type "tuple_iterator", data := .fields #[.ref l, .int 0 0] }).push { cls := .type "enumerate", data := .fields #[.none, .bool false, .ref s.heap.objs.size, rawInt 0, .none, .none] } }) :=
  .of_wp fun prog w A R s h => by
    obtain ⟨hp, g, d, tk, os⟩ := s; obtain ⟨hl, h⟩ := h
    have hsub := sub_enumerate
    have hL : Heap.IsTuple (Shared.heap ⟨hp, g, d, tk, os⟩) l items := ⟨_, hl, rfl, n, rfl⟩
    wp_walk using wpAny_loadPart' hl
    refine wpAny_stack_any fun st => wpAny_pure ?_
    split
    · rename_i c _ _ _ _ _
      cases (c == Value.type "enumerate")
      · wp_walk using wpAny_loadPart' hl, wpAny_pyIter_tuple hL
        exact ⟨_, rfl, h⟩
      · wp_walk using wpAny_loadPart' hl, wpAny_pyIter_tuple hL
        exact ⟨_, rfl, h⟩
    · wp_walk using wpAny_loadPart' hl, wpAny_pyIter_tuple hL
      exact ⟨_, rfl, h⟩
section
variable {prog : Program} {w : World} {A : Around} {E : Value → Shared → Prop} {s : Shared}
theorem call_enumerate_tuple {l : Addr} {items : Array Value} {Q : Value → Shared → Prop} (hL : s.heap.IsTuple l items)
    (h : ∀ h', IsEnum h' (s.heap.objs.size + 1) s.heap.objs.size 0 .none → h'.IsTupleIter s.heap.objs.size l 0 → h'.objs.size = s.heap.objs.size + 2 →
      (∀ b o, s.heap.get? b = some o → h'.get? b = some o) → Q (.ref (s.heap.objs.size + 1)) { s with heap := h' }) :
    wpAny (model prog w) A (call (.type "enumerate") [.ref l]) Q E s := by
  obtain ⟨⟨c, dct, dt, sl⟩, hl, hc, n, hd⟩ := hL
  replace hc : c = .type "tuple" := hc
  replace hd : dt = .seq items n := hd
  subst hc hd
  refine callType_new F.called_enumerate (by decide) (F.typeCall_enumerate_1 _) (F.newCall_enumerate_1 _) (fun obj => F.args_object_init_2 obj _) F.entry_enumerate_new
    (meets_enumerate_newT l items n dct sl) ⟨hl, ?_⟩
  have hz : (s.heap.push { cls := .type "tuple_iterator", data := .fields #[.ref l, .int 0 0] }).objs.size = s.heap.objs.size + 1 := Heap.size_push ..
  show _ ∧ _
  rw [hz]
  have he : IsEnum ((s.heap.push { cls := .type "tuple_iterator", data := .fields #[.ref l, .int 0 0] }).push
      { cls := .type "enumerate", data := .fields #[.none, .bool false, .ref s.heap.objs.size, rawInt 0, .none, .none] }) (s.heap.objs.size + 1) s.heap.objs.size 0 .none := by
    have := Heap.get?_push_size (s.heap.push { cls := .type "tuple_iterator", data := .fields #[.ref l, .int 0 0] })
      (o := { cls := .type "enumerate", data := .fields #[.none, .bool false, .ref s.heap.objs.size, rawInt 0, .none, .none] }) rfl
    rw [hz] at this; exact this
  refine ⟨⟨_, he, rfl⟩, h _ he ⟨_, Heap.get?_push_of_some _ (Heap.get?_push_size _ rfl), rfl, rfl⟩ (by rw [Heap.size_push, hz]) fun b o x => Heap.get?_push_of_some _ (Heap.get?_push_of_some _ x)⟩
theorem pyNext_enumT_end {e it t : Addr} {i : Nat} {items : Array Value} {c : Int} {old : Value} {Q : Option Value → Shared → Prop} (hh : A.handled = none)
    (he : IsEnum s.heap e it c old) (hit : s.heap.IsTupleIter it t i) (ht : s.heap.IsTuple t items) (hx : items[i]? = none)
    (hQ : ∀ h', Heap.ExtBut it s.heap h' → Q none { s with heap := h' }) : wpAny (model prog w) A (pyNext (.ref e)) Q E s := by
  have hT : s.TypeIs (.ref e) "enumerate" := ⟨_, he, rfl⟩
  unfold pyNext
  refine wpAny_bind (wpAny_attempt (wpAny_callSpecial?_slot (name := Str.ofString "__next__") hT F.slot_enumerate_next
    (wpAny_call_entry F.slot_enumerate_next hT F.entry_enumerate_next ?_ (F.args_enumerate_next_1 _))))
  show wpAny _ _ (field (.ref e) 2 >>= _) _ _ _
  refine wpAny_bind (wpAny_field he rfl (x := .ref it) rfl ?_)
  refine wpAny_bind (wpAny_nextOf_tuple_end hh hit ht hx fun h' x he' hx' => ?_)
  obtain ⟨o, ho, hc⟩ := hx'
  refine wpAny_bind (wpAny_isInstance (T := "StopIteration") (b := true) ⟨o, ho, hc⟩ isSubtype_stop ?_)
  exact wpAny_pure (hQ _ he')
end
end MPT
namespace MP
open PySem PySem.Spec PyProof.Rows L2
/-- the tuple at a, each item in a new pair -/
def IteT (K : PySem.W.Frag) (a : Addr) : It :=
  ⟨fun i H => ∃ (xs : List V) (x : V), SqT K H a xs ∧ xs[i]? = some x, fun i H v H' => ∃ T x, v = .ref T ∧ H T = none ∧ H' = upd H T (.tup [.int (i : Nat), x]) ∧ ∀ xs, SqT K H a xs → xs[i]? = some x, fun i H => ∃ xs : List V, SqT K H a xs ∧ xs.length ≤ i⟩
theorem turn_enumT {P : Program} {w : World} {K : PySem.W.Frag} {elts : List Expr} {kk : Nat} {tpos : Pos} (a e it : Addr) (hai : a ≠ it) (hae : a ≠ e) :
    Turn P w K (.Tuple elts kk tpos) (IteT K a) [e, it] e (fun i h => (∃ old, IsEnum h e it ((i : Nat) : Int) old) ∧ h.IsTupleIter it a i ∧ e ≠ it) where
  mem := by simp
  obj := fun i h st b hb => by
    obtain ⟨⟨old, he⟩, ⟨o, ho, hc, hd⟩, _⟩ := st
    have e' : b = e ∨ b = it := by simpa using hb
    rcases e' with z | z
    · rw [z]; exact ⟨_, he, fun v q => nomatch q⟩
    · rw [z]; exact ⟨o, ho, fun v q => by rw [hd] at q; cases q⟩
  keep := fun i h h' st k => let ⟨⟨old, he⟩, hi, hne⟩ := st; ⟨⟨old, k e (by simp) _ he⟩, hi.at fun o q => k it (by simp) o q, hne⟩
  item := by
    intro X hP hw hK hc i pins s σ H E I hf st hg
    subst hP hw hK
    obtain ⟨⟨old, he⟩, hit, hne⟩ := st
    obtain ⟨xs, x, hq, hx⟩ := hg
    obtain ⟨its, rv, p, hz⟩ := I.tuple hq
    obtain ⟨u, hu, ru⟩ := rv.get hx
    have hel : e < s.heap.objs.size := Heap.lt_size he
    have hil : it < s.heap.objs.size := by obtain ⟨_, q, _⟩ := hit; exact Heap.lt_size q
    have hlt : i < its.toArray.size := by
      have := (List.getElem?_eq_some_iff.mp hu).1
      simpa using this
    have D := Draws.tuple (prog := X.prog) (w := X.w) (A := X.A.in1) (I.ok.hd hc) it a hai its.toArray
    refine wpAny_pyNext_enum_itemD D he ⟨hit, (show s.heap.IsTuple a its.toArray from p)⟩ hlt hne (by simp [hne, Ne.symm hae]) fun x' h' tk hx' ho hst' hT hsz hk => ?_
    have ex : x' = u := by
      have hx' : its.toArray[i]? = some x' := hx'
      have e1 : its.toArray[i]? = some u := by simpa using hu
      rw [e1] at hx'
      exact (Option.some.inj hx').symm
    subst ex
    refine ⟨_, rfl, wpAny_letOwnedTupleGo_enum (s := { s with heap := h', toks := tk + 1 }) ho fun h'' he' sb => ?_⟩
    have hT2 : h''.get? s.heap.objs.size = some { cls := .type "tuple", data := .seq #[.int i tk, x'] } := (sb.2 _ (Nat.ne_of_gt hel)).trans hT
    have new : ObjOk X.prog X.w (upd H s.heap.objs.size (.tup [.int (i : Nat), x])) h'' s.heap.objs.size (.tup [.int (i : Nat), x]) :=
      ⟨by show 2 ≤ sizeLine; decide, [.int i tk, x'], .cons ⟨_, rfl⟩ (.cons ru .nil), ⟨_, hT2, rfl, _, rfl⟩⟩
    have I1 : Inv X pins σ (upd H s.heap.objs.size (.tup [.int (i : Nat), x])) { s with heap := h'', toks := tk + 1 } :=
      I.turnedNew (ch := [e, it]) (fun b ob hb q => (sb.2 b (fun z => hb (by simp [z]))).trans (hk b ob (fun z => hb (by simp [z])) (fun z => hb (by simp [z])) q)) hf (Nat.le_refl _) new
    refine ⟨.ref s.heap.objs.size, _, I1, rfl, ⟨_, x, rfl, I.hok.fresh (Nat.le_refl _), rfl, fun ys hy => by rw [I.tuple_inj hy hq]; exact hx⟩, ⟨⟨x', ?_⟩, hst'.1.at fun o q => (sb.2 it (Ne.symm hne)).trans q, hne⟩, fun b hb => ?_⟩
    · have e1 : ((i + 1 : Nat) : Int) = (i : Int) + 1 := by omega
      rw [e1]; exact he'
    · have hb' : b < s.heap.objs.size := by
        have e' : b = e ∨ b = it := by simpa using hb
        rcases e' with z | z
        · rw [z]; exact hel
        · rw [z]; exact hil
      rw [upd_ne (Nat.ne_of_lt hb')]
      exact (hf b hb).1
  done := by
    intro X hP hw hK hc i pins s σ H E I hf st hg
    subst hP hw hK
    obtain ⟨⟨old, he⟩, hit, hne⟩ := st
    obtain ⟨xs, hq, hx⟩ := hg
    obtain ⟨its, rv, p, hz⟩ := I.tuple hq
    obtain ⟨f0, f1, f2, f3, f4, f5⟩ := hf it (by simp)
    have hl := rv.length
    exact MPT.pyNext_enumT_end (I.ok.hd hc) he hit (show s.heap.IsTuple a its.toArray from p) (by simp; omega) fun h' eb => ⟨rfl, I.turned (t' := s.toks) (fun b o hb q => eb b o hb q) f0 f1 f3 f4 f5⟩
  self := fun A i s Q E st h => let ⟨⟨_, he⟩, _⟩ := st; wpAny_pyIter_enum he h
section
variable {X : Cx} {C : Cfg} {N : List Str} {cl : Cl} {n : Nat} {sc osc : Scope}
def iEnumA (K : PySem.W.Frag) (ta : TA) : TI := fun σ H R => ta σ H fun vs H1 => ∃ a xs, vs = [.ref a] ∧ (SqL K H1 a xs ∧ R (Ite K a) H1 ∨ SqT K H1 a xs ∧ R (IteT K a) H1)
theorem pi_enumA {e : Expr} {ta : TA} {p pos tpos : Pos} {elts : List Expr} {kk : Nat} (hg : Gl X "enumerate") (hm : X.mg "enumerate" = none) (ha : PA X [e] ta) (hs : starEach [e] X.env = [(false, eval e X.env)]) :
    PI X (.Tuple elts kk tpos) (.Call (.Name "enumerate" p) [e] [] pos) (iEnumA X.K ta) := by
  refine ⟨fun pins s σ H R I h => ?_⟩
  refine Call_ (ld_blt I hg hm boot_enumerate (PyProof.Rows.callWith_type1 (thn (ha.run pos pins s σ H _ I h) fun us s1 ⟨vs, H1, I1, r1, q1⟩ => ?_) hs rfl))
  obtain ⟨a, xs, ex, hq⟩ := q1
  subst ex
  cases r1 with
  | cons r rr =>
    cases rr
    cases r
    have fp : ∀ b, b ∈ [s1.heap.objs.size + 1, s1.heap.objs.size] → FpOk X pins H1 b := fun b hb => by
      have e' : b = s1.heap.objs.size + 1 ∨ b = s1.heap.objs.size := by simpa using hb
      have hle : s1.heap.objs.size ≤ b := by
        rcases e' with z | z
        · rw [z]; exact Nat.le_add_right _ _
        · rw [z]; exact Nat.le_refl _
      exact I1.fpOk hle (I1.hok.fresh hle)
    rcases hq with ⟨hq, q⟩ | ⟨hq, q⟩
    · obtain ⟨its, rv, p', hz⟩ := I1.list hq
      refine call_enumerate_list p'.isList fun h' he hit hsz hk => wpAny_pyIter_enum he ?_
      have I2 : Inv X pins σ H1 { s1 with heap := h' } := I1.kept (t' := s1.toks) hk
      exact ⟨s1.heap.objs.size + 1, [s1.heap.objs.size + 1, s1.heap.objs.size], _, _, H1, rfl, I2, turn_enum a (s1.heap.objs.size + 1) s1.heap.objs.size, ⟨⟨.none, he⟩, hit, Nat.succ_ne_self _⟩, fp, q⟩
    · obtain ⟨its, rv, p', hz⟩ := I1.tuple hq
      have p2 : s1.heap.IsTuple a its.toArray := p'
      have hlt : a < s1.heap.objs.size := by
        obtain ⟨o, ho, _⟩ := id p2
        exact Heap.lt_size ho
      refine MPT.call_enumerate_tuple p2 fun h' he hit hsz hk => wpAny_pyIter_enum he ?_
      have I2 : Inv X pins σ H1 { s1 with heap := h' } := I1.kept (t' := s1.toks) hk
      exact ⟨s1.heap.objs.size + 1, [s1.heap.objs.size + 1, s1.heap.objs.size], _, _, H1, rfl, I2, turn_enumT a (s1.heap.objs.size + 1) s1.heap.objs.size (Nat.ne_of_lt hlt) (Nat.ne_of_lt (Nat.lt_succ_of_lt hlt)), ⟨⟨.none, he⟩, hit, Nat.succ_ne_self _⟩, fp, q⟩
theorem enumD_get : ∀ {ds : List PyData} {k : Int} {i : Nat} {d : PyData}, (enumD k ds)[i]? = some d → ∃ x, ds[i]? = some x ∧ d = .tuple [.int (k + (i : Nat)), x]
  | [], _, _, _, h => by simp [enumD] at h
  | a :: r, k, 0, d, h => by
    have e := Option.some.inj (show some (PyData.tuple [.int k, a]) = some d from h)
    exact ⟨a, rfl, by rw [← e]; simp⟩
  | a :: r, k, i + 1, d, h => by
    obtain ⟨x, h1, h2⟩ := enumD_get (show (enumD (k + 1) r)[i]? = some d from by simpa [enumD] using h)
    refine ⟨x, by simpa using h1, ?_⟩
    rw [h2]
    congr 3
    rw [Int.natCast_add]
    simp
    omega
theorem enumD_len : ∀ (ds : List PyData) (k : Int), (enumD k ds).length = ds.length
  | [], _ => rfl
  | a :: r, k => by unfold enumD; rw [List.length_cons, List.length_cons, enumD_len r]
theorem pi_enumM (G : GoodX C N cl n X sc osc) {a : Ex} {e : Expr} {p pos tpos : Pos} {elts : List Expr} {kk : Nat} (hg : glB sc ("enumerate" : Str) = true) (hs : noStar e = true) (ha : PE X e (exTE X.K cl a)) : PI X (.Tuple elts kk tpos) (.Call (.Name "enumerate" p) [e] [] pos) (exTI X.K cl (.enum a)) := by
  refine PI.imp (pi_enumA (gl_of G hg) (G.free _ (by decide)) (pa_cons ha pa_nil (star_cons hs)) (star_cons hs)) ?_
  rintro σ H R ⟨E, P, Fm, pa, ds, P', ok, he, hq⟩
  unfold evI at he
  cases e1 : ev cl a E P with
  | none => rw [e1] at he; cases he
  | some y =>
    obtain ⟨x, P1⟩ := y
    rw [e1] at he
    obtain ⟨ds', e2, e3⟩ := Option.map_eq_some_iff.mp he
    cases e3
    refine one_then ok e1 fun v H1 F p1 ok1 => ?_
    rcases seq_some e2 with rfl | rfl
    · obtain ⟨q, vs, G, rfl, hsq, rr, hsub, hc⟩ := p1.rp.list
      have sq : ∀ H3, Fx F H1 H3 → SqL X.K H3 q vs := by
        intro H3 k
        rcases hc with ⟨rfl, h⟩ | ⟨_, _, h⟩
        · exact .inl (.inl (k.2 q List.mem_cons_self _ h))
        · exact (h.keep k.1).sq
      refine ⟨q, vs, rfl, .inl ⟨hsq, hq _ _ F ⟨p1.p, ⟨fun H3 k i hi => ?_, fun H3 k => ?_, fun H3 k i d hd x H4 y => ?_⟩, p1.pv, p1.rp.at_of⟩⟩⟩
      · obtain ⟨x, h1, _⟩ := enumD_get (List.getElem?_eq_getElem hi)
        obtain ⟨v, _, g1, _⟩ := rr.get h1
        exact ⟨vs, v, sq H3 k, g1⟩
      · refine ⟨vs, sq H3 k, ?_⟩
        rw [enumD_len, rr.len]
        exact Nat.le_refl _
      · obtain ⟨T, u, rfl, hT, rfl, k1⟩ := y
        obtain ⟨x, h1, rfl⟩ := enumD_get hd
        obtain ⟨v, G2, g1, r1, s1⟩ := rr.get h1
        have z1 := k1 vs (sq H3 k)
        rw [g1] at z1
        cases z1
        rw [Int.zero_add]
        refine ⟨Ext.new hT, _, fun z m => ?_, pair_rp hT (.int _) (Rp.fx x r1 (k.sub fun z m => hsub z (s1 z m)))⟩
        rw [List.nil_append, List.append_nil] at m
        exact hsub z (s1 z m)
    · obtain ⟨q, vs, rfl, hs, rr⟩ := id p1.rp.tuple
      have sq : ∀ H3, Fx F H1 H3 → SqT X.K H3 q vs := fun H3 k => (hs.keep k.1).sq
      refine ⟨q, vs, rfl, .inr ⟨hs.sq, hq _ _ F ⟨p1.p, ⟨fun H3 k i hi => ?_, fun H3 k => ?_, fun H3 k i d hd x H4 y => ?_⟩, p1.pv, p1.rp.at_of⟩⟩⟩
      · obtain ⟨x, h1, _⟩ := enumD_get (List.getElem?_eq_getElem hi)
        obtain ⟨v, _, g1, _⟩ := rr.get h1
        exact ⟨vs, v, sq H3 k, g1⟩
      · refine ⟨vs, sq H3 k, ?_⟩
        rw [enumD_len, rr.len]
        exact Nat.le_refl _
      · obtain ⟨T, u, rfl, hT, rfl, k1⟩ := y
        obtain ⟨x, h1, rfl⟩ := enumD_get hd
        obtain ⟨v, G2, g1, r1, s1⟩ := rr.get h1
        have z1 := k1 vs (sq H3 k)
        rw [g1] at z1
        cases z1
        rw [Int.zero_add]
        refine ⟨Ext.new hT, _, fun z m => ?_, pair_rp hT (.int _) (Rp.fx x r1 (k.sub s1))⟩
        rw [List.nil_append, List.append_nil] at m
        exact s1 z m
end
end MP
set_option Elab.async false
set_option linter.all false
set_option maxRecDepth 100000
/-! Environments changed; targets. -/
namespace MP
open PySem PySem.Spec PyProof.Rows L2

section
variable {K : PySem.W.Frag} {E E' : Env} {P P' : PyData} {σ : L2.St} {H H' : Hp} {Fm : Nat → List Addr} {pa : Addr} {F : List Addr} {i : Nat} {k : Kd} {d : PyData} {v : V}
theorem hasIo_iff : ∀ {E : Env}, hasIo E = true ↔ ∃ (i : Nat) (d : PyData), E[i]? = some (some (Kd.io, d))
  | [] => by simp [hasIo]
  | x :: r => by
    unfold hasIo
    rw [Bool.or_eq_true, hasIo_iff]
    constructor
    · rintro (h | ⟨i, d, h⟩)
      · match x, h with
        | some (Kd.io, d), _ => exact ⟨0, d, rfl⟩
      · exact ⟨i + 1, d, by simpa using h⟩
    · rintro ⟨i, d, h⟩
      cases i with
      | zero =>
        have e : x = some (Kd.io, d) := Option.some.inj (by simpa using h)
        exact .inl (by rw [e]; rfl)
      | succ i => exact .inr ⟨i, d, by simpa using h⟩
theorem notIo_at (h : isIo (E.getD i none) = false) (d : PyData) : E[i]? ≠ some (some (Kd.io, d)) := fun e => by
  rw [List.getD_eq_getElem?_getD, e] at h
  cases h
theorem isIo_kd (hk : k ≠ Kd.io) : isIo (some (k, d)) = false := by
  cases k <;> first | rfl | exact absurd rfl hk
theorem set_get {x : Option (Kd × PyData)} (hi : i < E.length) (j : Nat) : (E.set i x)[j]? = if j = i then some x else E[j]? := by
  by_cases h : j = i
  · subst h
    rw [if_pos rfl, List.getElem?_set_self hi]
  · rw [if_neg h, List.getElem?_set_ne (Ne.symm h)]
theorem hasIo_put {x : Option (Kd × PyData)} (hio : isIo (E.getD i none) = false) (hx : isIo x = false) : hasIo (E.set i x) = hasIo E := by
  by_cases hi : i < E.length
  · rw [Bool.eq_iff_iff, hasIo_iff, hasIo_iff]
    constructor
    · rintro ⟨j, d, h⟩
      rw [set_get hi] at h
      by_cases hj : j = i
      · rw [if_pos hj] at h
        cases h
        cases hx
      · rw [if_neg hj] at h
        exact ⟨j, d, h⟩
    · rintro ⟨j, d, h⟩
      refine ⟨j, d, ?_⟩
      rw [set_get hi, if_neg]
      · exact h
      · rintro rfl
        exact notIo_at hio d h
  · rw [List.set_eq_of_length_le (by omega)]
/-- addresses that nobody writes -/
def NoW (E : Env) (Fm : Nat → List Addr) (pa : Addr) (F : List Addr) : Prop := ∀ a ∈ F, ¬ Wr E Fm pa a
def fput (Fm : Nat → List Addr) (i : Nat) (F : List Addr) : Nat → List Addr := fun j => if j = i then F else Fm j
theorem EnvOk.put (ok : EnvOk K E P σ H Fm pa) (hi : i < E.length) (hio : isIo (E.getD i none) = false) (hk : k ≠ Kd.io) (r : Rp K (strK k) H v d F) (hw : NoW E Fm pa F)
    (ho : k = Kd.own → ∀ (j : Nat) (k' : Kd) (d' : PyData), j ≠ i → E[j]? = some (some (k', d')) → k' ≠ Kd.io → ∀ a ∈ F, a ∉ Fm j) :
    EnvOk K (E.set i (some (k, d))) P (σ.set i (some v)) H (fput Fm i F) pa := by
  have hs := fun j => set_get (x := some (k, d)) hi j
  have hσ : i < σ.length := by rw [ok.len]; exact hi
  have hsσ : ∀ j, (σ.set i (some v))[j]? = if j = i then some (some v) else σ[j]? := by
    intro j
    by_cases h : j = i
    · subst h
      rw [if_pos rfl, List.getElem?_set_self hσ]
    · rw [if_neg h, List.getElem?_set_ne (Ne.symm h)]
  have hpw : Pw (E.set i (some (k, d))) pa = Pw E pa := by
    unfold Pw
    rw [hasIo_put hio (isIo_kd hk)]
  refine ⟨by rw [List.length_set, List.length_set]; exact ok.len, fun j k' d' h hk' => ?_, fun j d1 h j' k' d' hjj h' hk' a ha => ?_, fun j d' h => ?_, fun h => ok.pot (by rwa [hasIo_put hio (isIo_kd hk)] at h), fun h j k' d' hj hk' => ?_⟩
  · rw [hs] at h
    rw [hsσ]
    unfold fput
    by_cases e : j = i
    · rw [if_pos e] at h
      cases h
      rw [if_pos e, if_pos e]
      exact ⟨v, rfl, r⟩
    · rw [if_neg e] at h
      rw [if_neg e, if_neg e]
      exact ok.rep j k' d' h hk'
  · rw [hs] at h h'
    unfold fput at ha ⊢
    by_cases e : j = i
    · rw [if_pos e] at h ha
      have e1 := Option.some.inj (Option.some.inj h)
      rw [if_neg (by omega)]
      rw [if_neg (by omega)] at h'
      exact ho (congrArg Prod.fst e1) j' k' d' (by omega) h' hk' a ha
    · rw [if_neg e] at h ha
      by_cases e' : j' = i
      · rw [if_pos e'] at h' ⊢
        exact fun m => hw a m (.inl ⟨j, d1, h, ha⟩)
      · rw [if_neg e'] at h' ⊢
        exact ok.dis j d1 h j' k' d' hjj h' hk' a ha
  · rw [hs] at h
    by_cases e : j = i
    · rw [if_pos e] at h
      have e1 := Option.some.inj (Option.some.inj h)
      exact absurd (congrArg Prod.fst e1) hk
    · rw [if_neg e] at h
      rw [hsσ, if_neg e]
      exact ok.io j d' h
  · rw [hasIo_put hio (isIo_kd hk)] at h
    rw [hs] at hj
    unfold fput
    by_cases e : j = i
    · rw [if_pos e]
      exact fun m => hw pa m (.inr ⟨h, rfl⟩)
    · rw [if_neg e] at hj ⊢
      exact ok.pno h j k' d' hj hk'
theorem put_wr (hi : i < E.length) (hio : isIo (E.getD i none) = false) (hk : k ≠ Kd.io) {a : Addr} (h : Wr (E.set i (some (k, d))) (fput Fm i F) pa a) : Wr E Fm pa a ∨ (k = Kd.own ∧ a ∈ F) := by
  rcases h with ⟨j, d', h, ha⟩ | h
  · rw [set_get hi] at h
    unfold fput at ha
    by_cases e : j = i
    · rw [if_pos e] at h ha
      exact .inr ⟨congrArg Prod.fst (Option.some.inj (Option.some.inj h)), ha⟩
    · rw [if_neg e] at h ha
      exact .inl (.inl ⟨j, d', h, ha⟩)
  · unfold Pw at h
    rw [hasIo_put hio (isIo_kd hk)] at h
    exact .inl (.inr h)
theorem put_mk (hi : i < E.length) {a : Addr} (h : Mk (E.set i (some (k, d))) (fput Fm i F) a) : Mk E Fm a ∨ (strK k = true ∧ a ∈ F) := by
  obtain ⟨j, k', d', h, hs, ha⟩ := h
  rw [set_get hi] at h
  unfold fput at ha
  by_cases e : j = i
  · rw [if_pos e] at h ha
    have e1 : k = k' := congrArg Prod.fst (Option.some.inj (Option.some.inj h))
    exact .inr ⟨e1 ▸ hs, ha⟩
  · rw [if_neg e] at h ha
    exact .inl ⟨j, k', d', h, hs, ha⟩
theorem setV_some {E1 : Env} (h : setV E i k d = some E1) : i < E.length ∧ E1 = E.set i (some (k, d)) := by
  unfold setV at h
  split at h
  · rename_i hi
    cases h
    exact ⟨hi, rfl⟩
  · cases h

/-! ### frozen -/
structure Fz (E E' : Env) : Prop where
  len : E'.length = E.length
  at' : ∀ j : Nat, E'[j]? = E[j]? ∨ ∃ d : PyData, E[j]? = some (some (Kd.own, d)) ∧ E'[j]? = some (some (Kd.fz, d))
theorem Fz.refl : Fz E E := ⟨rfl, fun _ => .inl rfl⟩
theorem Fz.trans {E2 : Env} (a : Fz E E') (b : Fz E' E2) : Fz E E2 := by
  refine ⟨b.len.trans a.len, fun j => ?_⟩
  rcases a.at' j with h | ⟨d, h1, h2⟩
  · rcases b.at' j with h' | ⟨d, h1, h2⟩
    · exact .inl (h'.trans h)
    · exact .inr ⟨d, by rw [← h]; exact h1, h2⟩
  · rcases b.at' j with h' | ⟨d', h1', h2'⟩
    · exact .inr ⟨d, h1, by rw [h']; exact h2⟩
    · rw [h2] at h1'
      cases h1'
theorem Fz.back (f : Fz E E') {j : Nat} {k : Kd} {d : PyData} (h : E'[j]? = some (some (k, d))) : ∃ k', E[j]? = some (some (k', d)) ∧ strK k' = strK k ∧ (k = Kd.io ↔ k' = Kd.io) ∧ (k = Kd.own → k' = Kd.own) := by
  rcases f.at' j with h' | ⟨d', h1, h2⟩
  · exact ⟨k, by rw [← h']; exact h, rfl, Iff.rfl, id⟩
  · rw [h2] at h
    cases h
    exact ⟨Kd.own, h1, rfl, by constructor <;> (intro z; cases z), fun z => by cases z⟩
theorem Fz.fwd (f : Fz E E') {j : Nat} {k : Kd} {d : PyData} (h : E[j]? = some (some (k, d))) : ∃ k', E'[j]? = some (some (k', d)) ∧ strK k' = strK k ∧ (k = Kd.io ↔ k' = Kd.io) := by
  rcases f.at' j with h' | ⟨d', h1, h2⟩
  · exact ⟨k, by rw [h']; exact h, rfl, Iff.rfl⟩
  · rw [h1] at h
    cases h
    exact ⟨Kd.fz, h2, rfl, by constructor <;> (intro z; cases z)⟩
theorem Fz.io (f : Fz E E') : hasIo E' = hasIo E := by
  rw [Bool.eq_iff_iff, hasIo_iff, hasIo_iff]
  constructor
  · rintro ⟨j, d, h⟩
    obtain ⟨k', h1, _, h2, _⟩ := f.back h
    exact ⟨j, d, by rw [h1, h2.mp rfl]⟩
  · rintro ⟨j, d, h⟩
    obtain ⟨k', h1, _, h2⟩ := f.fwd h
    exact ⟨j, d, by rw [h1, h2.mp rfl]⟩
theorem Fz.ok (f : Fz E E') (ok : EnvOk K E P σ H Fm pa) : EnvOk K E' P σ H Fm pa := by
  refine ⟨ok.len.trans f.len.symm, fun j k d h hk => ?_, fun j d h j' k' d' hjj h' hk' => ?_, fun j d h => ?_, fun h => ok.pot (f.io ▸ h), fun h j k d hj hk => ?_⟩
  · obtain ⟨k', h1, h2, h3, _⟩ := f.back h
    rw [← h2]
    exact ok.rep j k' d h1 fun z => hk (h3.mpr z)
  · obtain ⟨k1, g1, _, _, g4⟩ := f.back h
    rw [g4 rfl] at g1
    obtain ⟨k2, e1, _, e3, _⟩ := f.back h'
    exact ok.dis j d g1 j' k2 d' hjj e1 fun z => hk' (e3.mpr z)
  · obtain ⟨k1, g1, _, g3, _⟩ := f.back h
    rw [g3.mp rfl] at g1
    exact ok.io j d g1
  · obtain ⟨k1, g1, _, g3, _⟩ := f.back hj
    exact ok.pno (f.io ▸ h) j k1 d g1 fun z => hk (g3.mpr z)
theorem Fz.wr (f : Fz E E') {a : Addr} (h : Wr E' Fm pa a) : Wr E Fm pa a := by
  rcases h with ⟨j, d, h, ha⟩ | ⟨h, ha⟩
  · obtain ⟨k1, g1, _, _, g4⟩ := f.back h
    rw [g4 rfl] at g1
    exact .inl ⟨j, d, g1, ha⟩
  · exact .inr ⟨f.io ▸ h, ha⟩
theorem Fz.mko (f : Fz E E') {a : Addr} (h : Mk E' Fm a) : Mk E Fm a := by
  obtain ⟨j, k, d, h, hs, ha⟩ := h
  obtain ⟨k1, g1, g2, _, _⟩ := f.back h
  exact ⟨j, k1, d, g1, g2 ▸ hs, ha⟩
theorem frz1_fz (E : Env) (i : Nat) : Fz E (frz1 E i) := by
  unfold frz1
  split
  · rename_i d h
    have hi : i < E.length := (List.getElem?_eq_some_iff.mp h).1
    refine ⟨List.length_set, fun j => ?_⟩
    rw [set_get hi]
    by_cases e : j = i
    · subst e
      rw [if_pos rfl]
      exact .inr ⟨d, h, rfl⟩
    · rw [if_neg e]
      exact .inl rfl
  · exact Fz.refl
theorem frz_fz : ∀ (l : List Nat) (E : Env), Fz E (frz E l)
  | [], E => Fz.refl
  | i :: l, E => (frz1_fz E i).trans (frz_fz l (frz1 E i))
theorem frz1_not (E : Env) (i : Nat) (d : PyData) : (frz1 E i)[i]? ≠ some (some (Kd.own, d)) := by
  unfold frz1
  split
  · rename_i d' h
    have hi : i < E.length := (List.getElem?_eq_some_iff.mp h).1
    rw [set_get hi, if_pos rfl]
    intro z
    cases z
  · rename_i h
    exact h d
/-- what was frozen stays so -/
theorem Fz.notOwn (f : Fz E E') {i : Nat} (h : ∀ d, E[i]? ≠ some (some (Kd.own, d))) : ∀ d, E'[i]? ≠ some (some (Kd.own, d)) := fun d z => by
  obtain ⟨k1, g1, _, _, g4⟩ := f.back z
  rw [g4 rfl] at g1
  exact h d g1
theorem frz_not : ∀ (l : List Nat) (E : Env) (i : Nat), i ∈ l → ∀ d, (frz E l)[i]? ≠ some (some (Kd.own, d))
  | j :: l, E, i, h => by
    rcases List.mem_cons.mp h with rfl | h
    · exact (frz_fz l (frz1 E i)).notOwn (frz1_not E i)
    · exact frz_not l (frz1 E j) i h
theorem frzAll_get (E : Env) (j : Nat) : (frzAll E)[j]? = (E[j]?).map fz0 := by
  unfold frzAll
  rw [List.getElem?_map]
theorem frzAll_fz (E : Env) : Fz E (frzAll E) := by
  refine ⟨by unfold frzAll; rw [List.length_map], fun j => ?_⟩
  rw [frzAll_get]
  cases h : E[j]? with
  | none => exact .inl rfl
  | some s =>
    match s with
    | none => exact .inl rfl
    | some (Kd.own, d) => exact .inr ⟨d, rfl, rfl⟩
    | some (Kd.fz, d) => exact .inl rfl
    | some (Kd.ro, d) => exact .inl rfl
    | some (Kd.io, d) => exact .inl rfl
theorem frzAll_not (E : Env) (j : Nat) (d : PyData) : (frzAll E)[j]? ≠ some (some (Kd.own, d)) := by
  rw [frzAll_get]
  intro h
  obtain ⟨s, h1, h2⟩ := Option.map_eq_some_iff.mp h
  match s, h2 with
  | some (Kd.own, d), h2 => cases h2
  | some (Kd.fz, d), h2 => cases h2
  | some (Kd.ro, d), h2 => cases h2
  | some (Kd.io, d), h2 => cases h2
  | none, h2 => cases h2
/-! ### forgotten -/
theorem EnvOk.clr (ok : EnvOk K E P σ H Fm pa) (i : Nat) (hio : isIo (E.getD i none) = false) : EnvOk K (E.set i none) P (σ.set i none) H Fm pa := by
  by_cases hi : i < E.length
  · have hs := fun j => set_get (x := none) hi j
    have hb : ∀ {j : Nat} {k : Kd} {d : PyData}, (E.set i none)[j]? = some (some (k, d)) → j ≠ i ∧ E[j]? = some (some (k, d)) := by
      intro j k d h
      rw [hs] at h
      by_cases e : j = i
      · rw [if_pos e] at h
        cases h
      · rw [if_neg e] at h
        exact ⟨e, h⟩
    have hio' := hasIo_put (x := none) hio rfl
    refine ⟨by rw [List.length_set, List.length_set]; exact ok.len, fun j k d h hk => ?_, fun j d h j' k' d' hjj h' hk' => ok.dis j d (hb h).2 j' k' d' hjj (hb h').2 hk', fun j d h => ?_, fun h => ok.pot (hio' ▸ h), fun h j k d hj hk => ok.pno (hio' ▸ h) j k d (hb hj).2 hk⟩
    · obtain ⟨e, h⟩ := hb h
      rw [List.getElem?_set_ne (Ne.symm e)]
      exact ok.rep j k d h hk
    · obtain ⟨e, h⟩ := hb h
      rw [List.getElem?_set_ne (Ne.symm e)]
      exact ok.io j d h
  · rw [List.set_eq_of_length_le (by omega), List.set_eq_of_length_le (by rw [ok.len]; omega)]
    exact ok
theorem getD_set_io {x : Option (Kd × PyData)} {j : Nat} (hx : isIo x = false) (h : isIo (E.getD j none) = false) : isIo ((E.set i x).getD j none) = false := by
  rw [List.getD_eq_getElem?_getD] at h ⊢
  by_cases hi : i < E.length
  · rw [set_get hi]
    by_cases e : j = i
    · rw [if_pos e]
      exact hx
    · rw [if_neg e]
      exact h
  · rw [List.set_eq_of_length_le (by omega)]
    exact h
theorem wipeE_io : ∀ (l : List Nat) {j : Nat}, isIo (E.getD j none) = false → isIo ((wipeE E l).getD j none) = false
  | [], _, h => h
  | i :: l, j, h => getD_set_io rfl (wipeE_io l h)
theorem EnvOk.wipe (ok : EnvOk K E P σ H Fm pa) : ∀ (l : List Nat), (∀ i ∈ l, isIo (E.getD i none) = false) → EnvOk K (wipeE E l) P (L2.wipe σ l) H Fm pa
  | [], _ => ok
  | i :: l, h => (EnvOk.wipe ok l fun j hj => h j (List.mem_cons_of_mem _ hj)).clr i (wipeE_io l (h i List.mem_cons_self))
theorem wipeE_hasIo : ∀ (l : List Nat), (∀ i ∈ l, isIo (E.getD i none) = false) → hasIo (wipeE E l) = hasIo E
  | [], _ => rfl
  | i :: l, h => (hasIo_put (wipeE_io l (h i List.mem_cons_self)) rfl).trans (wipeE_hasIo l fun j hj => h j (List.mem_cons_of_mem _ hj))
theorem wipeE_back : ∀ (l : List Nat) {j : Nat} {k : Kd} {d : PyData}, (wipeE E l)[j]? = some (some (k, d)) → E[j]? = some (some (k, d))
  | [], _, _, _, h => h
  | i :: l, j, k, d, h => by
    have h : ((wipeE E l).set i none)[j]? = some (some (k, d)) := h
    by_cases hi : i < (wipeE E l).length
    · rw [set_get hi] at h
      by_cases e : j = i
      · rw [if_pos e] at h
        cases h
      · rw [if_neg e] at h
        exact wipeE_back l h
    · rw [List.set_eq_of_length_le (by omega)] at h
      exact wipeE_back l h
theorem Pw_eq {E E' : Env} (h : hasIo E' = hasIo E) : Pw E' pa = Pw E pa := by unfold Pw; rw [h]
theorem wipe_set {x : Option V} : ∀ {l : List Nat} (σ : L2.St) {i : Nat}, i ∈ l → L2.wipe (σ.set i x) l = L2.wipe σ l
  | j :: l, σ, i, h => by
    show (L2.wipe (σ.set i x) l).set j none = (L2.wipe σ l).set j none
    by_cases hm : i ∈ l
    · rw [wipe_set σ hm]
    · have e : i = j := by
        rcases List.mem_cons.mp h with h | h
        · exact h
        · exact absurd h hm
      subst e
      have key : ∀ (l : List Nat), i ∉ l → L2.wipe (σ.set i x) l = (L2.wipe σ l).set i x := by
        intro l
        induction l with
        | nil => intro _; rfl
        | cons m l ih =>
          intro hm
          show (L2.wipe (σ.set i x) l).set m none = ((L2.wipe σ l).set m none).set i x
          rw [ih fun z => hm (List.mem_cons_of_mem _ z), List.set_comm]
          exact fun z => hm (z ▸ List.mem_cons_self)
      rw [key l hm, List.set_set]
theorem wipe_wipe : ∀ (l l' : List Nat) (σ : L2.St), (∀ i ∈ l, i ∈ l') → L2.wipe (L2.wipe σ l) l' = L2.wipe σ l'
  | [], _, _, _ => rfl
  | i :: l, l', σ, h => by
    show L2.wipe ((L2.wipe σ l).set i none) l' = _
    rw [wipe_set _ (h i List.mem_cons_self), wipe_wipe l l' σ fun j hj => h j (List.mem_cons_of_mem _ hj)]
end

/-! ### targets -/
/-- what is bound: names that are read only -/
structure GPost (K : PySem.W.Frag) (E : Env) (Fm : Nat → List Addr) (pa : Addr) (P : PyData) (σ : L2.St) (H : Hp) (tin : List Nat → Bool) (E' : Env) (Fm' : Nat → List Addr) (σ' : L2.St) : Prop where
  ok : EnvOk K E' P σ' H Fm' pa
  wp : ∀ vs, tin vs = true → L2.wipe σ' vs = L2.wipe σ vs
  wr : ∀ a, Wr E' Fm' pa a → Wr E Fm pa a
  mo : ∀ a, Mk E' Fm' a → Mk E Fm a
  io : hasIo E' = hasIo E
def exTG (K : PySem.W.Frag) (m : Tg) : TG := fun v σ H Q => ∃ E P Fm pa d F E', EnvOk K E P σ H Fm pa ∧ Rp K false H v d F ∧ NoW E Fm pa F ∧ bindT m d E = some E' ∧
  ∀ σ' Fm', GPost K E Fm pa P σ H (tgIn m) E' Fm' σ' → Q σ' H
def exTGs (K : PySem.W.Frag) (m : Tgs) : L2.TGs := fun vs σ H Q => ∃ E P Fm pa ds F E', EnvOk K E P σ H Fm pa ∧ RpL K false H vs ds F ∧ NoW E Fm pa F ∧ bindTs m ds E = some E' ∧
  ∀ σ' Fm', GPost K E Fm pa P σ H (tgsIn m) E' Fm' σ' → Q σ' H
theorem PGs.imp {X : Cx} {es : List Expr} {t t' : L2.TGs} (h : PGs X es t) (hi : ∀ v σ H Q, t' v σ H Q → t v σ H Q) : PGs X es t' := ⟨fun pins s σ H vs us Q I r x => h.run pins s σ H vs us Q I r (hi vs σ H Q x)⟩
section
variable {X : Cx} {C : Cfg} {N : List Str} {cl : Cl} {n : Nat} {sc osc : Scope}
theorem aeach_cons {e : Expr} {es : List Expr} {env : PySem.Env} (h : noStar e = true) : assignEach (e :: es) env = (false, assign e env) :: assignEach es env := by
  cases e <;> first | rfl | exact absurd h Bool.false_ne_true
mutual
theorem pg_sound (G : GoodX C N cl n X sc osc) : ∀ (m : Tg) (e : Expr), chkG N osc m e = true → PG X e (exTG X.K m)
  | .nm i, e, h => by
    match e, h with
    | .Name x p, h =>
      unfold chkG at h
      rw [Bool.and_eq_true, decide_eq_true_eq] at h
      have hN : X.N[i]? = some x := by rw [G.eN]; exact h.1
      obtain ⟨h1, h2⟩ := G.own x h.2
      refine PG.imp (pg_name (pos := p) (by rw [G.eN]; exact G.nd) hN h1 h2) ?_
      rintro v σ H Q ⟨E, P, Fm, pa, d, F, E', ok, r, hw, hb, hq⟩
      unfold bindT at hb
      split at hb
      · cases hb
      · rename_i hio
        obtain ⟨hi, rfl⟩ := setV_some hb
        have hio : isIo (E.getD i none) = false := by simpa using hio
        refine hq _ _ ⟨ok.put hi hio (by decide) r hw (fun z => by cases z), fun vs hv => wipe_set σ ?_, fun a ha => ?_, fun a ha => ?_, hasIo_put hio rfl⟩
        · unfold tgIn at hv
          simpa using hv
        · rcases put_wr hi hio (by decide) ha with z | ⟨z, _⟩
          · exact z
          · cases z
        · rcases put_mk hi ha with z | ⟨z, _⟩
          · exact z
          · cases z
  | .tup ts, e, h => by
    match e, h with
    | .Tuple es k p, h =>
      unfold chkG at h
      obtain ⟨hs, hl, hst⟩ := pgs_sound G ts es h
      refine PG.imp (pg_tup (pos := p) G.calm hs (n := es.length) hl hst) ?_
      rintro v σ H Q ⟨E, P, Fm, pa, d, F, E', ok, r, hw, hb, hq⟩
      match d, hb, r with
      | .tuple ds, hb, r =>
        unfold bindT at hb
        obtain ⟨q, vs, rfl, hs', rr⟩ := id r.tuple
        refine ⟨q, vs, rfl, hs'.sq, ?_, E, P, Fm, pa, ds, F, E', ok, rr, hw, hb, fun σ' Fm' g => hq σ' Fm' ⟨g.ok, fun l hv => g.wp l (by unfold tgIn at hv; exact hv), g.wr, g.mo, g.io⟩⟩
        rw [rr.len]
        exact bindTs_len hb h
theorem pgs_sound (G : GoodX C N cl n X sc osc) : ∀ (m : Tgs) (es : List Expr), chkGs N osc m es = true → PGs X es (exTGs X.K m) ∧ (assignEach es X.env).length = es.length ∧ (assignEach es X.env).findIdx? (·.1) = none
  | .nil, es, h => by
    match es, h with
    | [], h =>
      refine ⟨PGs.imp pgs_nil ?_, rfl, rfl⟩
      rintro vs σ H Q ⟨E, P, Fm, pa, ds, F, E', ok, r, hw, hb, hq⟩
      match ds, hb, r with
      | [], hb, r =>
        unfold bindTs at hb
        cases hb
        cases r
        exact ⟨rfl, hq σ Fm ⟨ok, fun _ _ => rfl, fun _ z => z, fun _ z => z, rfl⟩⟩
  | .cons t m, es, h => by
    match es, h with
    | e :: es, h =>
      unfold chkGs at h
      simp only [Bool.and_eq_true] at h
      have h1 := pg_sound G t e h.2.1
      obtain ⟨h2, h3, h4⟩ := pgs_sound G m es h.2.2
      refine ⟨PGs.imp (pgs_cons h1 h2 (by rw [aeach_cons h.1]; rfl)) ?_, by rw [aeach_cons h.1, List.length_cons, h3, List.length_cons], ?_⟩
      · rintro vs σ H Q ⟨E, P, Fm, pa, ds, F, E', ok, r, hw, hb, hq⟩
        match ds, hb, r with
        | d :: ds, hb, r =>
          unfold bindTs at hb
          obtain ⟨E1, hb1, hb2⟩ := Option.bind_eq_some_iff.mp hb
          cases r with
          | cons r1 r2 =>
            refine ⟨_, _, rfl, E, P, Fm, pa, d, _, E1, ok, r1, fun a ha => hw a (List.mem_append_left _ ha), hb1, fun σ1 Fm1 g1 => ?_⟩
            refine ⟨E1, P, Fm1, pa, ds, _, E', g1.ok, r2, fun a ha z => hw a (List.mem_append_right _ ha) (g1.wr a z), hb2, fun σ2 Fm2 g2 => hq σ2 Fm2 ⟨g2.ok, fun l hv => ?_, fun a z => g1.wr a (g2.wr a z), fun a z => g1.mo a (g2.mo a z), g2.io.trans g1.io⟩⟩
            unfold tgsIn at hv
            rw [Bool.and_eq_true] at hv
            rw [g2.wp l hv.2, g1.wp l hv.1]
      · rw [aeach_cons h.1, List.findIdx?_cons]
        simp only [Bool.false_eq_true, if_false]
        rw [h4]
        rfl
theorem bindTs_len : ∀ {m : Tgs} {ds : List PyData} {es : List Expr} {E E' : Env}, bindTs m ds E = some E' → chkGs N osc m es = true → ds.length = es.length
  | .nil, ds, es, E, E', h, hc => by
    match ds, es, h, hc with
    | [], [], _, _ => rfl
  | .cons t r, ds, es, E, E', h, hc => by
    match ds, es, h, hc with
    | d :: ds, e :: es, h, hc =>
      unfold bindTs at h
      unfold chkGs at hc
      simp only [Bool.and_eq_true] at hc
      obtain ⟨E1, _, h2⟩ := Option.bind_eq_some_iff.mp h
      rw [List.length_cons, List.length_cons, bindTs_len h2 hc.2.2]
end
end
end MP
set_option Elab.async false
set_option linter.all false
set_option maxRecDepth 100000
/-! List comprehensions. -/
namespace MP
open PySem PySem.Spec PyProof.Rows L2

section
variable {X : Cx} {C : Cfg} {N : List Str} {cl : Cl} {n : Nat} {sc osc : Scope}
theorem GoodX.blk (G : GoodX C N cl n X sc osc) {scope : Scope} {own : List (Str × Nat)} (hb : blkC N sc scope own = true) (s : Shared) (H : Hp) (cc : Addr) (cells : List (Str × Addr)) (fp : List Addr) :
    GoodX C N cl n (X.blk s H scope (compEnvC scope cells cc X.env) fp) (relS scope sc) scope where
  eN := G.eN
  nd := G.nd
  scp := by
    show relS scope X.env.scope = _
    rw [G.scp]
  kind := (blkOk_by hb).kind
  own := fun x hx => by
    have key : ∀ k, k ≠ NameKind.free → scope.names.lookup x = some k → (relS scope X.env.scope).names.lookup x = some k := fun k hk h => lookup_relS_keep hk h
    show Loc (relS scope X.env.scope) x ∧ ((scope.names.lookup x == some .cell) = true ∨ (relS scope X.env.scope).names.lookup x = some .local)
    unfold locB at hx
    split at hx
    · rename_i h
      exact ⟨.inl (key _ (by decide) h), .inr (key _ (by decide) h)⟩
    · rename_i h
      exact ⟨.inr (key _ (by decide) h), .inl (by rw [h]; decide)⟩
    · cases hx
  calm := G.calm
  xe := rfl
  hr := G.hr
  fns := G.fns
  cst := G.cst
  free := G.free
theorem own_map (N : List Str) (own : List Nat) : (ownL N own).map (·.2) = own := by
  unfold ownL
  rw [List.map_map]
  exact List.map_id own
theorem Frm.updN {S : Addr → Prop} {H H' : Hp} {D : Addr} {o : HO} (f : Frm S H H') (h : H D = none) : Frm S H (upd H' D o) := fun a u e w => by
  rw [upd_ne (ne_of_none e h)]
  exact f a u e w
theorem upd_keep {H : Hp} {D : Addr} {xs : List V} {o : HO} (h : H D = some (.lst xs)) : Keep H (upd H D o) := fun a u e w => by
  by_cases z : a = D
  · subst z
    rw [h] at e
    cases e
    cases w
  · rw [upd_ne z]
    exact e
theorem Keep.fx0 {H H' : Hp} (k : Keep H H') : Fx [] H H' := ⟨k, fun _ m => nomatch m⟩
theorem PotOk.keep2 {K : PySem.W.Frag} {H H' : Hp} {pa : Addr} {P : PyData} (p : PotOk K H pa P) (k : Keep H H') (h : ∀ xs, H pa = some (.lst xs) → H' pa = some (.lst xs)) : PotOk K H' pa P := by
  obtain ⟨vs, ds, h1, h2, h3⟩ := p
  exact ⟨vs, ds, h vs h1, RpL.fx ds h2 k.fx0, h3⟩
theorem immL_append {a b : List PyData} (ha : immL a = true) (hb : immL b = true) : immL (a ++ b) = true := immL_of fun d h => (List.mem_append.mp h).elim (immL_mem ha) (immL_mem hb)
theorem frs_lc {a : Ex} {b : Tg} {c : Ito} {d : Exo} {e : List Nat} {x : PyData} : frs (.lc a b c d e) x = true := rfl
theorem lc_imp {elt : Ex} {tg : Tg} {it : Ito} {cond : Exo} {own : List Nat} {K : PySem.W.Frag} {σ : L2.St} {H : Hp} {Q : VK} (hin : tgIn tg own = true) (h : exTE K cl (.lc elt tg it cond own) σ H Q) :
    tLc (exTI K cl it) (exTG K tg) (exTC K cl cond) (exTE K cl elt) own σ H Q := by
  obtain ⟨E, P, Fm, pa, d, P', ok, he, hq⟩ := h
  unfold ev at he
  split at he
  · cases he
  rename_i hnio
  cases e1 : evI cl it E P with
  | none => rw [e1] at he; cases he
  | some y =>
    obtain ⟨ds, P1⟩ := y
    rw [e1] at he
    obtain ⟨⟨xs, Pf⟩, e2, e3⟩ := Option.map_eq_some_iff.mp he
    cases e3
    refine ⟨E, P, Fm, pa, ds, P1, ok, e1, fun J H1 F ip D hD => ?_⟩
    have ok1 := ip.p.env ok
    have hno : ∀ i ∈ own, isIo ((frzAll E).getD i none) = false := by
      intro i hi
      have h1 : isIo (E.getD i none) = false := by
        cases hh : isIo (E.getD i none) with
        | false => rfl
        | true => exact absurd (List.any_eq_true.mpr ⟨i, hi, hh⟩) hnio
      rw [List.getD_eq_getElem?_getD] at h1 ⊢
      rw [frzAll_get]
      cases hE : E[i]? with
      | none => rfl
      | some s =>
        rw [hE] at h1
        match s, h1 with
        | none, _ => rfl
        | some (Kd.own, _), _ => rfl
        | some (Kd.fz, _), _ => rfl
        | some (Kd.ro, _), _ => rfl
    have okB := ((frzAll_fz E).ok ok1).wipe own hno
    have hioB : hasIo (wipeE (frzAll E) own) = hasIo E := (wipeE_hasIo own hno).trans (frzAll_fz E).io
    have wrB : ∀ a, Wr (wipeE (frzAll E) own) Fm pa a → Pw E pa a := by
      rintro a (⟨j, d, hj, _⟩ | z)
      · exact absurd (wipeE_back own hj) (frzAll_not E j d)
      · rw [Pw_eq hioB] at z
        exact z
    generalize hEB : wipeE (frzAll E) own = EB at e2 okB hioB wrB
    have hDp : ¬ Pw E pa D := by
      rintro ⟨hi, rfl⟩
      obtain ⟨vs, ds, h1, _⟩ := ok1.pot hi
      rw [hD] at h1
      cases h1
    have hFp := ip.pv.notPw ok
    have fxF : ∀ {H'}, Frm (Pw E pa) H1 H' → Fx F H1 H' := fun f => f.fx hFp
    refine ⟨fun i m H' => m = ds.length - i ∧ i ≤ ds.length ∧ ∃ P2 acc vs, lcFold (fun d => bindT tg d EB) (evO cl cond) (ev cl elt) (ds.drop i) acc P2 = some (xs, Pf) ∧ H' D = some (.lst vs) ∧ RpL K true H' vs acc [] ∧ immL acc = true ∧ Frm (Pw E pa) H1 H' ∧ (hasIo E = true → PotOk K H' pa P2), ⟨ds.length, ?_⟩, ?_⟩
    · refine ⟨by omega, Nat.zero_le _, P1, [], [], by rw [List.drop_zero]; exact e2, upd_same, .nil, rfl, (Ext.new hD).frm, fun hi => (ok1.pot hi).keep (Ext.new hD)⟩
    · rintro i m H' ⟨rfl, hi, P2, acc, vs, hf, hHD, hr, hia, hfr, hpot⟩
      by_cases hlt : i < ds.length
      · refine .inr ⟨ip.it.go H' (fxF hfr) i hlt, _, fun H' w => ⟨ds.length - (i + 1), by omega, w⟩, fun x H3 y => ?_⟩
        obtain ⟨x3, G', hG, rx⟩ := ip.it.yld H' (fxF hfr) i ds[i] (List.getElem?_eq_getElem hlt) x H3 y
        rw [List.drop_eq_getElem_cons hlt] at hf
        unfold lcFold at hf
        cases hb : bindT tg ds[i] EB with
        | none => rw [hb] at hf; cases hf
        | some E2 =>
          rw [hb] at hf
          dsimp only at hf
          have okC : EnvOk K EB P2 (L2.wipe σ own) H3 Fm pa := okB.keep (by rw [Pw_eq hioB]; exact hfr.ext x3) fun hi => (hpot (hioB ▸ hi)).keep x3
          refine ⟨EB, P2, Fm, pa, ds[i], G', E2, okC, Rp.weak _ rx, fun a ha z => hFp a (hG a ha) (wrB a z), hb, fun σ2 Fm2 g => ⟨(g.wp own hin).trans (wipe_wipe own own σ fun _ m => m), ?_⟩⟩
          have hio2 : hasIo E2 = hasIo E := g.io.trans hioB
          cases ht : evO cl cond E2 P2 with
          | none => rw [ht] at hf; cases hf
          | some z =>
            obtain ⟨c, P3⟩ := z
            rw [ht] at hf
            refine ⟨E2, P2, Fm2, pa, c, P3, g.ok, ht, fun H4 p4 => ?_⟩
            have f4 : Frm (Pw E pa) H3 H4 := by
              have := p4.fr
              rwa [Pw_eq hio2] at this
            have f14 : Frm (Pw E pa) H1 H4 := (hfr.ext x3).trans f4 fun _ _ _ s => s
            have hD3 : H3 D = some (.lst vs) := x3 _ _ hHD
            have hD4 : H4 D = some (.lst vs) := f4 D _ hD3 fun _ => hDp
            have r3 : RpL K true H3 vs acc [] := RpL.fx acc hr x3.fx
            have r4 : RpL K true H4 vs acc [] := RpL.fx acc r3 f4.keep.fx0
            cases c with
            | false =>
              simp only [Bool.false_eq_true, if_false]
              exact ⟨trivial, hlt, P3, acc, vs, hf, hD4, r4, hia, f14, fun hi => p4.pot (hio2.symm ▸ hi)⟩
            | true =>
              simp only [if_true]
              dsimp only at hf
              cases hE : ev cl elt E2 P3 with
              | none => rw [hE] at hf; cases hf
              | some z =>
                obtain ⟨yv, P4⟩ := z
                rw [hE] at hf
                dsimp only at hf
                split at hf
                · rename_i hc
                  rw [Bool.and_eq_true, decide_eq_true_eq] at hc
                  refine ⟨E2, P3, Fm2, pa, yv, P4, p4.env g.ok, hE, fun v H5 F5 xp => ?_⟩
                  have f5 : Frm (Pw E pa) H4 H5 := by
                    have := xp.p.fr
                    rwa [Pw_eq hio2] at this
                  have hD5 : H5 D = some (.lst vs) := f5 D _ hD4 fun _ => hDp
                  have r5 : RpL K true H5 vs acc [] := RpL.fx acc r4 f5.keep.fx0
                  obtain ⟨_, ry⟩ := Rp.imm true yv xp.rp hc.1
                  have hk := upd_keep (o := .lst (vs ++ [v])) hD5
                  have hlen := hr.len
                  have hL := LIM_line
                  refine ⟨vs, hD5, by omega, trivial, hlt, P4, acc ++ [yv], vs ++ [v], hf, upd_same, RpL.fx _ (show RpL K true H5 (vs ++ [v]) (acc ++ [yv]) [] from r5.append (.cons ry .nil)) hk.fx0, immL_append hia (immL_cons.mpr ⟨hc.1, rfl⟩), (f14.trans f5 fun _ _ _ s => s).updN hD, fun hi => ?_⟩
                  refine (xp.p.pot (hio2.symm ▸ hi)).keep2 hk fun ws hw => ?_
                  rw [upd_ne]
                  · exact hw
                  · rintro rfl
                    exact hDp ⟨hi, rfl⟩
                · cases hf
      · have e : i = ds.length := by omega
        subst e
        rw [List.drop_length] at hf
        unfold lcFold at hf
        cases hf
        refine .inl ⟨ip.it.stop H' (fxF hfr), hq (.ref D) H' [D] ⟨ip.p.trans ⟨hfr, hpot⟩, (Rp.lst hHD hr).to fun _ => rfl, fun a ha => .inl (by rw [List.mem_singleton.mp ha]; exact ip.p.dom hD), fun _ => ⟨.lst hHD hr, fun a ha => by rw [List.mem_singleton.mp ha]; exact ip.p.dom hD⟩⟩⟩
theorem folded_pure {e : Expr} {env : PySem.Env} (h : noSet e = true) (x : Value) : foldedSetIterable e env x = pure x := by
  cases e <;> first | rfl | exact absurd h Bool.false_ne_true
theorem pe_lcM (G : GoodX C N cl n X sc osc) {elt : Ex} {tg : Tg} {it : Ito} {cond : Exo} {own : List Nat} {x t iter : Expr} {ifs : List Expr} {scope : Scope} {pos : Pos} (hin : tgIn tg own = true) (hns : noSet iter = true) (hb : blkC N sc scope (ownL N own) = true)
    (hi : PI X t iter (exTI X.K cl it)) (hg : ∀ X' : Cx, X'.K = X.K → GoodX C N cl n X' (relS scope sc) scope → PG X' t (exTG X.K tg))
    (ht : ∀ X' : Cx, X'.K = X.K → GoodX C N cl n X' (relS scope sc) scope → PTs X' ifs (exTC X.K cl cond))
    (he : ∀ X' : Cx, X'.K = X.K → GoodX C N cl n X' (relS scope sc) scope → PE X' x (exTE X.K cl elt)) : PE X (.ListComp x [⟨t, iter, ifs, 0⟩] scope pos) (exTE X.K cl (.lc elt tg it cond own)) := by
  have ok : BlkOk X.N X.env.scope scope (ownL N own) := by
    rw [G.eN, G.scp]
    exact blkOk_by hb
  have hN : X.N.Nodup := by rw [G.eN]; exact G.nd
  refine PE.imp (pe_lc G.calm hN hi ok (fun s H C cl fp => hg _ rfl (G.blk hb s H C cl fp)) (fun s H C cl fp => ht _ rfl (G.blk hb s H C cl fp)) (fun s H C cl fp => he _ rfl (G.blk hb s H C cl fp)) (folded_pure hns)) ?_
  intro σ H Q h
  rw [own_map]
  exact lc_imp hin h
theorem ps_lcM (G : GoodX C N cl n X sc osc) {elt : Ex} {tg : Tg} {it : Ito} {cond : Exo} {own : List Nat} {x t iter : Expr} {ifs : List Expr} {scope : Scope} {pos spos py : Pos} {i : Nat} {y : Str} (hy : N[i]? = some y) (hl : sc.names.lookup y = some .local)
    (hsw : swapsWith (.ListComp x [⟨t, iter, ifs, 0⟩] scope pos) (some (.Name y py)) spos.line X.env = pure true) (hin : tgIn tg own = true) (hns : noSet iter = true) (hb : blkC N sc scope (ownL N own) = true)
    (hi : PI X t iter (exTI X.K cl it)) (hg : ∀ X' : Cx, X'.K = X.K → GoodX C N cl n X' (relS scope sc) scope → PG X' t (exTG X.K tg))
    (ht : ∀ X' : Cx, X'.K = X.K → GoodX C N cl n X' (relS scope sc) scope → PTs X' ifs (exTC X.K cl cond))
    (he : ∀ X' : Cx, X'.K = X.K → GoodX C N cl n X' (relS scope sc) scope → PE X' x (exTE X.K cl elt)) : PS X (.Assign [.Name y py] (.ListComp x [⟨t, iter, ifs, 0⟩] scope pos) spos) (tAsg (exTE X.K cl (.lc elt tg it cond own)) (gName i)) := by
  have ok : BlkOk X.N X.env.scope scope (ownL N own) := by
    rw [G.eN, G.scp]
    exact blkOk_by hb
  have hN : X.N.Nodup := by rw [G.eN]; exact G.nd
  refine PS.imp (ps_setLc G.calm hN (by rw [G.eN]; exact hy) (by rw [G.scp]; exact hl) hsw hi ok (fun s H C cl fp => hg _ rfl (G.blk hb s H C cl fp)) (fun s H C cl fp => ht _ rfl (G.blk hb s H C cl fp)) (fun s H C cl fp => he _ rfl (G.blk hb s H C cl fp)) (folded_pure hns)) ?_
  intro D σ H h
  show tLc _ _ _ _ _ σ H _
  rw [own_map]
  exact lc_imp hin h
end
end MP
set_option Elab.async false
set_option linter.all false
set_option maxRecDepth 100000
/-! Every expression that the check takes. -/
namespace MP
open PySem PySem.Spec PyProof.Rows L2

theorem noStars {es : List Expr} {env : PySem.Env} {p : Pos} (h : es.all noStar = true) : (backTo p (starEach es env)).any (·.1) = false := by
  induction es with
  | nil => rfl
  | cons e es ih =>
    rw [List.all_cons, Bool.and_eq_true] at h
    rw [star_cons h.1]
    unfold backTo
    rw [List.map_cons, List.any_cons]
    have := ih h.2
    unfold backTo at this
    rw [this]
    rfl
section
variable {X : Cx} {C : Cfg} {N : List Str} {cl : Cl} {n : Nat} {sc osc : Scope}
theorem pw_of {op : BoolOp} {es : List Expr} {p : Pos} {t : TT} (h : PT X (.BoolOp op es p) t) : PW X (.BoolOp op es p) t := ⟨fun wh pins s σ H Q I x => by
  have := h.run pins s σ H Q I x
  rw [PySem.isTrue] at this ⊢
  exact this⟩
structure Claims (C : Cfg) (N : List Str) (cl : Cl) (n f : Nat) (X : Cx) (sc : Scope) : Prop where
  e : ∀ m x, chkE C N f sc m x = true → PE X x (exTE X.K cl m)
  t : ∀ m x, chkT C N f sc m x = true → PT X x (exTT X.K cl m)
  a : ∀ m x, chkA C N f sc m x = true → PA X x (exTA X.K cl m)
  o : ∀ m x, chkO C N f sc m x = true → PTs X x (exTC X.K cl m)
  p : ∀ m x, chkP C N f sc m x = true → PO X x (exTO X.K cl m)
  i : ∀ m tg x, tgtB m tg = true → chkI C N f sc m x = true → PI X tg x (exTI X.K cl m)
theorem pts_noneM : PTs X [] (exTC X.K cl .none) := by
  refine PTs.imp pts_nil ?_
  rintro σ H Q ⟨E, P, Fm, pa, c, P', ok, he, hq⟩
  unfold evO at he
  cases he
  exact hq H (Post0.refl ok)
theorem pts_someM {a : Ex} {e : Expr} (h : PT X e (exTT X.K cl a)) : PTs X [e] (exTC X.K cl (.some a)) := by
  refine PTs.imp (pts_one h) ?_
  rintro σ H Q ⟨E, P, Fm, pa, c, P', ok, he, hq⟩
  unfold evO at he
  split at he
  · rename_i c' P1 e1
    cases he
    exact ⟨E, P, Fm, pa, _, _, ok, e1, hq⟩
  · cases he
theorem and2 {a b : Bool} (h : (a && b) = true) : a = true ∧ b = true := Bool.and_eq_true_iff.mp h
theorem var_T (G : GoodX C N cl n X sc osc) {i : Nat} : ∀ (f : Nat) (x : Expr), chkE C N f sc (.var i) x = true → PE X x (tVar i)
  | 0, x, h => by
    unfold chkE at h
    cases h
  | f + 1, x, h => by
    unfold chkE at h
    split at h
    all_goals first
      | contradiction
      | skip
    · rename_i heq
      cases heq
      obtain ⟨h1, h⟩ := and2 h
      obtain ⟨h2, h3⟩ := and2 h
      exact pe_varT G (of_decide_eq_true h1) h2 h3
    · exact pe_one (var_T G f _ h)
theorem lrng_of (G : GoodX C N cl n X sc osc) {f : Nat} {it : Ito} {er : Expr} {p pos : Pos} (h0 : isRng it = true) (I : Claims C N cl n f X sc) (h2 : glB sc ("list" : Str) = true) (h4 : chkI C N (f + 1) sc it er = true) : PE X (.Call (.Name "list" p) [er] [] pos) (exTE X.K cl (.lrng it)) := by
  unfold chkI at h4
  split at h4
  · obtain ⟨hx, hz⟩ := and2 h4
    have ex := of_decide_eq_true hx
    subst ex
    obtain ⟨h5, hz⟩ := and2 hz
    obtain ⟨h6, hz⟩ := and2 hz
    exact pe_lrng1 G h2 h5 h6 (I.e _ _ hz)
  · obtain ⟨hx, hz⟩ := and2 h4
    have ex := of_decide_eq_true hx
    subst ex
    obtain ⟨h5, hz⟩ := and2 hz
    obtain ⟨h6, hz⟩ := and2 hz
    obtain ⟨h7, hz⟩ := and2 hz
    obtain ⟨h8, h9⟩ := and2 hz
    exact pe_lrng2 G h2 h5 h6 h7 (I.e _ _ h8) (I.e _ _ h9)
  · obtain ⟨hx, hz⟩ := and2 h4
    have ex := of_decide_eq_true hx
    subst ex
    obtain ⟨h5, hz⟩ := and2 hz
    obtain ⟨h6, hz⟩ := and2 hz
    obtain ⟨h7, hz⟩ := and2 hz
    obtain ⟨h8, hz⟩ := and2 hz
    obtain ⟨h9, hz⟩ := and2 hz
    obtain ⟨h10, h11⟩ := and2 hz
    exact pe_lrng3 G h2 h5 h6 h7 h8 (I.e _ _ h9) (I.e _ _ h10) (I.e _ _ h11)
  · cases h0
  · cases h0
  · cases h0
  · cases h4
theorem trng_of (G : GoodX C N cl n X sc osc) {f : Nat} {it : Ito} {er : Expr} {p pos : Pos} (h0 : isRng it = true) (I : Claims C N cl n f X sc) (h2 : glB sc ("tuple" : Str) = true) (h4 : chkI C N (f + 1) sc it er = true) : PE X (.Call (.Name "tuple" p) [er] [] pos) (exTE X.K cl (.trng it)) := by
  unfold chkI at h4
  split at h4
  · obtain ⟨hx, hz⟩ := and2 h4
    have ex := of_decide_eq_true hx
    subst ex
    obtain ⟨h5, hz⟩ := and2 hz
    obtain ⟨h6, hz⟩ := and2 hz
    exact pe_trng1 G h2 h5 h6 (I.e _ _ hz)
  · obtain ⟨hx, hz⟩ := and2 h4
    have ex := of_decide_eq_true hx
    subst ex
    obtain ⟨h5, hz⟩ := and2 hz
    obtain ⟨h6, hz⟩ := and2 hz
    obtain ⟨h7, hz⟩ := and2 hz
    obtain ⟨h8, h9⟩ := and2 hz
    exact pe_trng2 G h2 h5 h6 h7 (I.e _ _ h8) (I.e _ _ h9)
  · obtain ⟨hx, hz⟩ := and2 h4
    have ex := of_decide_eq_true hx
    subst ex
    obtain ⟨h5, hz⟩ := and2 hz
    obtain ⟨h6, hz⟩ := and2 hz
    obtain ⟨h7, hz⟩ := and2 hz
    obtain ⟨h8, hz⟩ := and2 hz
    obtain ⟨h9, hz⟩ := and2 hz
    obtain ⟨h10, h11⟩ := and2 hz
    exact pe_trng3 G h2 h5 h6 h7 h8 (I.e _ _ h9) (I.e _ _ h10) (I.e _ _ h11)
  · cases h0
  · cases h0
  · cases h0
  · cases h4
theorem sndE (G : GoodX C N cl n X sc osc) {f : Nat} (ih : ∀ g, g ≤ f → ∀ (X : Cx) (sc osc : Scope), GoodX C N cl n X sc osc → Claims C N cl n g X sc) : ∀ m x, chkE C N (f + 1) sc m x = true → PE X x (exTE X.K cl m) := by
  intro m x h
  have I := ih f (Nat.le_refl _) X sc osc G
  unfold chkE at h
  split at h
  · exact pe_conM G h
  · obtain ⟨h1, h⟩ := and2 h
    obtain ⟨h2, h⟩ := and2 h
    split at h
    · rename_i hc
      exact pe_gloM G h1 h2 hc h
    · cases h
  · obtain ⟨h1, h⟩ := and2 h
    obtain ⟨h2, h3⟩ := and2 h
    exact pe_varM G (of_decide_eq_true h1) h2 h3
  · obtain ⟨h1, h⟩ := and2 h
    obtain ⟨h2, h3⟩ := and2 h
    exact pe_binM h1 (I.e _ _ h2) (I.e _ _ h3)
  · exact pe_negM (I.e _ _ h)
  · obtain ⟨h1, h⟩ := and2 h
    obtain ⟨h0, h⟩ := and2 h
    obtain ⟨h2, h3⟩ := and2 h
    exact pe_cmpM G.hr.units h1 (by simpa using h0) (I.e _ _ h2) (I.e _ _ h3)
  · obtain ⟨h1, h⟩ := and2 h
    obtain ⟨h1', h⟩ := and2 h
    obtain ⟨h0, h⟩ := and2 h
    obtain ⟨h2, h⟩ := and2 h
    obtain ⟨h3, h4⟩ := and2 h
    exact pe_chainM G.hr.units h1 h1' (by simpa using h0) (I.e _ _ h2) (I.e _ _ h3) (I.e _ _ h4)
  · obtain ⟨h1, h2⟩ := and2 h
    exact pe_andM (I.e _ _ h1) (I.e _ _ h2)
  · obtain ⟨h1, h2⟩ := and2 h
    exact pe_orM (I.e _ _ h1) (I.e _ _ h2)
  · exact pe_one (I.e _ _ h)
  · exact pe_notM (I.e _ _ h)
  · obtain ⟨h1, h⟩ := and2 h
    obtain ⟨h2, h3⟩ := and2 h
    exact pe_iteM (I.t _ _ h1) (I.e _ _ h2) (I.e _ _ h3)
  · obtain ⟨h1, h⟩ := and2 h
    obtain ⟨h2, h⟩ := and2 h
    obtain ⟨h3, h⟩ := and2 h
    obtain ⟨h4, h⟩ := and2 h
    obtain ⟨h5, h6⟩ := and2 h
    exact pe_callM G h1 h2 (of_decide_eq_true h3) (I.a _ _ h6) h4 (noStars h5)
  · obtain ⟨h1, h⟩ := and2 h
    obtain ⟨h2, h⟩ := and2 h
    obtain ⟨h3, h⟩ := and2 h
    obtain ⟨h4, h⟩ := and2 h
    obtain ⟨h5, h6⟩ := and2 h
    have e1 := of_decide_eq_true h1
    have e2 := of_decide_eq_true h3
    subst e1 e2
    exact pe_isiM G h2 h4 h5 (I.e _ _ h6)
  · obtain ⟨h0, h⟩ := and2 h
    obtain ⟨h1, h⟩ := and2 h
    obtain ⟨h2, h⟩ := and2 h
    obtain ⟨h3, h4⟩ := and2 h
    have e1 := of_decide_eq_true h1
    subst e1
    cases f with
    | zero =>
      unfold chkI at h4
      cases h4
    | succ f => exact lrng_of G h0 (ih f (Nat.le_succ f) X sc osc G) h2 h4
  · obtain ⟨h0, h⟩ := and2 h
    obtain ⟨h1, h⟩ := and2 h
    obtain ⟨h2, h⟩ := and2 h
    obtain ⟨h3, h4⟩ := and2 h
    have e1 := of_decide_eq_true h1
    subst e1
    cases f with
    | zero =>
      unfold chkI at h4
      cases h4
    | succ f => exact trng_of G h0 (ih f (Nat.le_succ f) X sc osc G) h2 h4
  · obtain ⟨h1, h⟩ := and2 h
    obtain ⟨h2, h⟩ := and2 h
    obtain ⟨h4, h⟩ := and2 h
    obtain ⟨h5, h6⟩ := and2 h
    have e1 := of_decide_eq_true h1
    subst e1
    exact pe_bltM G h2 (I.a _ _ h6) h4 (noStars h5)
  · obtain ⟨h0, h⟩ := and2 h
    obtain ⟨h1, h⟩ := and2 h
    obtain ⟨h2, h⟩ := and2 h
    obtain ⟨h3, h⟩ := and2 h
    obtain ⟨h4, h⟩ := and2 h
    obtain ⟨h5, h⟩ := and2 h
    obtain ⟨h6, h7⟩ := and2 h
    refine pe_lcM G h0 h1 h4 (I.i _ _ _ h2 h3) (fun X' hK G' => ?_) (fun X' hK G' => ?_) fun X' hK G' => ?_
    · rw [← hK]
      exact pg_sound G' _ _ h5
    · rw [← hK]
      exact (ih f (Nat.le_refl _) X' _ _ G').o _ _ h7
    · rw [← hK]
      exact (ih f (Nat.le_refl _) X' _ _ G').e _ _ h6
  · exact pe_tupM (I.a _ _ h)
  · exact pe_lstM (I.a _ _ h)
  · obtain ⟨h1, h⟩ := and2 h
    obtain ⟨h2, h3⟩ := and2 h
    exact pe_slM (I.e _ _ h1) (I.p _ _ h2) (I.p _ _ h3)
  · exact pe_revM (I.e _ _ h)
  · obtain ⟨h1, h⟩ := and2 h
    obtain ⟨h2, h3⟩ := and2 h
    refine pe_evM (I.e _ _ h1) (I.e _ _ h3) ?_
    split at h2
    · exact .inl ⟨rfl, of_decide_eq_true h2⟩
    · have := of_decide_eq_true h2
      subst this
      exact .inr ⟨_, _, rfl⟩
    · cases h2
  · obtain ⟨h1, h⟩ := and2 h
    obtain ⟨h2, h3⟩ := and2 h
    refine pe_ixM G h1 (I.e _ _ h2) (fun i ei => ?_) (I.e _ _ h3)
    subst ei
    exact var_T G f _ h2
  · cases h
theorem sndT (G : GoodX C N cl n X sc osc) {f : Nat} (I : Claims C N cl n f X sc) : ∀ m x, chkT C N (f + 1) sc m x = true → PT X x (exTT X.K cl m) := by
  intro m x h
  unfold chkT at h
  split at h
  · obtain ⟨h1, h2⟩ := and2 h
    exact (pw_andM (I.t _ _ h1) (pw_of (I.t _ _ h2))).pt
  · obtain ⟨h1, h2⟩ := and2 h
    exact (pw_orM (I.t _ _ h1) (pw_of (I.t _ _ h2))).pt
  · rename_i op x p
    cases op
    · exact (pw_and1 (I.t _ _ h)).pt
    · exact (pw_or1 (I.t _ _ h)).pt
  · exact pt_notM (I.t _ _ h)
  · obtain ⟨h1, h⟩ := and2 h
    obtain ⟨h0, h⟩ := and2 h
    obtain ⟨h2, h3⟩ := and2 h
    exact pt_cmpM G.hr.units h1 (by simpa using h0) (I.e _ _ h2) (I.e _ _ h3)
  · obtain ⟨h1, h⟩ := and2 h
    obtain ⟨h1', h⟩ := and2 h
    obtain ⟨h0, h⟩ := and2 h
    obtain ⟨h2, h⟩ := and2 h
    obtain ⟨h3, h4⟩ := and2 h
    exact pt_chainM G.hr.units h1 h1' (by simpa using h0) (I.e _ _ h2) (I.e _ _ h3) (I.e _ _ h4)
  · exact pt_of (I.e _ _ h) fun _ => rfl
  · exact pt_of (I.e _ _ h) fun _ => rfl
  · exact pt_of (I.e _ _ h) fun _ => rfl
  · exact pt_of (I.e _ _ h) fun _ => rfl
  · cases h
theorem sndA (G : GoodX C N cl n X sc osc) {f : Nat} (I : Claims C N cl n f X sc) : ∀ m x, chkA C N (f + 1) sc m x = true → PA X x (exTA X.K cl m) := by
  intro m x h
  unfold chkA at h
  split at h
  · exact pa_nilM
  · obtain ⟨h1, h⟩ := and2 h
    obtain ⟨h2, h3⟩ := and2 h
    exact pa_consM h1 (I.e _ _ h2) (I.a _ _ h3)
  · obtain ⟨h2, h3⟩ := and2 h
    exact pa_starM (I.e _ _ h2) (I.a _ _ h3)
  · obtain ⟨h1, h⟩ := and2 h
    obtain ⟨h2, h⟩ := and2 h
    obtain ⟨h3, h4⟩ := and2 h
    exact pa_ioM G (of_decide_eq_true h1) h2 h3 (I.a _ _ h4)
  · cases h
theorem sndO {f : Nat} (I : Claims C N cl n f X sc) : ∀ m x, chkO C N (f + 1) sc m x = true → PTs X x (exTC X.K cl m) := by
  intro m x h
  unfold chkO at h
  split at h
  · exact pts_noneM
  · exact pts_someM (I.t _ _ h)
  · cases h
theorem sndP {f : Nat} (I : Claims C N cl n f X sc) : ∀ m x, chkP C N (f + 1) sc m x = true → PO X x (exTO X.K cl m) := by
  intro m x h
  unfold chkP at h
  split at h
  · exact po_noneM
  · exact po_someM (I.e _ _ h)
  · cases h
theorem sndI (G : GoodX C N cl n X sc osc) {f : Nat} (I : Claims C N cl n f X sc) : ∀ m tg x, tgtB m tg = true → chkI C N (f + 1) sc m x = true → PI X tg x (exTI X.K cl m) := by
  intro m tg x ht h
  unfold chkI at h
  split at h
  · obtain ⟨hx, h⟩ := and2 h
    obtain ⟨h2, h⟩ := and2 h
    obtain ⟨h3, h4⟩ := and2 h
    have e := of_decide_eq_true hx
    subst e
    exact pi_rng1M G h2 h3 (I.e _ _ h4)
  · obtain ⟨hx, h⟩ := and2 h
    obtain ⟨h2, h⟩ := and2 h
    obtain ⟨h3, h⟩ := and2 h
    obtain ⟨h4, h⟩ := and2 h
    obtain ⟨h5, h6⟩ := and2 h
    have e := of_decide_eq_true hx
    subst e
    exact pi_rng2M G h2 h3 h4 (I.e _ _ h5) (I.e _ _ h6)
  · obtain ⟨hx, h⟩ := and2 h
    obtain ⟨h2, h⟩ := and2 h
    obtain ⟨h3, h⟩ := and2 h
    obtain ⟨h4, h⟩ := and2 h
    obtain ⟨h5, h⟩ := and2 h
    obtain ⟨h6, h⟩ := and2 h
    obtain ⟨h7, h8⟩ := and2 h
    have e := of_decide_eq_true hx
    subst e
    exact pi_rng3M G h2 h3 h4 h5 (I.e _ _ h6) (I.e _ _ h7) (I.e _ _ h8)
  · obtain ⟨hx, h⟩ := and2 h
    obtain ⟨h2, h⟩ := and2 h
    obtain ⟨h3, h4⟩ := and2 h
    have e := of_decide_eq_true hx
    subst e
    cases tg <;> first | exact pi_enumM G h2 h3 (I.e _ _ h4) | cases ht
  · obtain ⟨hx, h⟩ := and2 h
    obtain ⟨h2, h⟩ := and2 h
    obtain ⟨h3, h⟩ := and2 h
    obtain ⟨h4, h⟩ := and2 h
    obtain ⟨h5, h6⟩ := and2 h
    have e := of_decide_eq_true hx
    subst e
    cases tg <;> first | exact pi_zipM G h2 h3 h4 (I.e _ _ h5) (I.e _ _ h6) | cases ht
  · exact pi_seqM (I.e _ _ h)
  · cases h
theorem claims : ∀ (f : Nat) (X : Cx) (sc osc : Scope), GoodX C N cl n X sc osc → Claims C N cl n f X sc := by
  intro f
  induction f using Nat.strongRecOn with
  | ind f ih =>
    intro X sc osc G
    cases f with
    | zero =>
      exact ⟨fun m x h => (by unfold chkE at h; cases h), fun m x h => (by unfold chkT at h; cases h), fun m x h => (by unfold chkA at h; cases h), fun m x h => (by unfold chkO at h; cases h), fun m x h => (by unfold chkP at h; cases h), fun m tg x _ h => (by unfold chkI at h; cases h)⟩
    | succ f =>
      have I := ih f (Nat.lt_succ_self f) X sc osc G
      exact ⟨sndE G fun g hg => ih g (Nat.lt_succ_of_le hg), sndT G I, sndA G I, sndO I, sndP I, sndI G I⟩
end
end MP
set_option Elab.async false
set_option linter.all false
set_option maxRecDepth 100000
/-! Statements: what stands behind each. -/
namespace MP
open PySem PySem.Spec PyProof.Rows L2

structure SPost (K : PySem.W.Frag) (iop : Bool) (E : Env) (Fm : Nat → List Addr) (pa : Addr) (H : Hp) (E' : Env) (P' : PyData) (σ' : L2.St) (H' : Hp) (Fm' : Nat → List Addr) (pa' : Addr) : Prop where
  ok : EnvOk K E' P' σ' H' Fm' pa'
  fr : Frm (Wr E Fm pa) H H'
  dm : ∀ a, H' a = none → H a = none
  wr : ∀ a, Wr E' Fm' pa' a → Wr E Fm pa a ∨ H a = none
  mo : ∀ a, Mk E' Fm' a → Mk E Fm a ∨ H a = none
  io : iop = true → pa' = pa ∧ (hasIo E = true → hasIo E' = true)
structure RPost (K : PySem.W.Frag) (iop : Bool) (E : Env) (Fm : Nat → List Addr) (pa : Addr) (H : Hp) (v : V) (d : PyData) (F : List Addr) (P' : PyData) (H' : Hp) : Prop where
  rp : Rp K true H' v d F
  nw : ∀ a ∈ F, Mk E Fm a ∨ H a = none
  fr : Frm (Wr E Fm pa) H H'
  po : iop = true → hasIo E = true → PotOk K H' pa P'
def SEnd (K : PySem.W.Frag) (iop : Bool) (E : Env) (Fm : Nat → List Addr) (pa : Addr) (H : Hp) (D : Ends) : Rs → Prop
  | .nx E' P' => ∀ σ' H' Fm' pa', SPost K iop E Fm pa H E' P' σ' H' Fm' pa' → D.nx σ' H'
  | .bk E' P' => ∀ σ' H' Fm' pa', SPost K iop E Fm pa H E' P' σ' H' Fm' pa' → D.bk σ' H'
  | .rt d P' => ∀ v H' F, RPost K iop E Fm pa H v d F P' H' → D.rt v H'
def exTS (K : PySem.W.Frag) (iop : Bool) (f : Env → PyData → Option Rs) : TS := fun D σ H => ∃ E P Fm pa r, EnvOk K E P σ H Fm pa ∧ f E P = some r ∧ SEnd K iop E Fm pa H D r
section
variable {K : PySem.W.Frag} {iop : Bool} {E E' E1 E2 : Env} {P P' P1 P2 : PyData} {σ σ' σ1 σ2 : L2.St} {H H' H1 H2 : Hp} {Fm Fm' Fm1 Fm2 : Nat → List Addr} {pa pa' pa1 pa2 : Addr} {F : List Addr} {i : Nat} {k : Kd} {d : PyData} {v : V} {D : Ends} {r : Rs}
theorem SPost.refl (ok : EnvOk K E P σ H Fm pa) : SPost K iop E Fm pa H E P σ H Fm pa := ⟨ok, Frm.refl, fun _ z => z, fun _ z => .inl z, fun _ z => .inl z, fun _ => ⟨rfl, id⟩⟩
theorem SPost.trans (a : SPost K iop E Fm pa H E1 P1 σ1 H1 Fm1 pa1) (b : SPost K iop E1 Fm1 pa1 H1 E2 P2 σ2 H2 Fm2 pa2) : SPost K iop E Fm pa H E2 P2 σ2 H2 Fm2 pa2 := by
  refine ⟨b.ok, a.fr.trans b.fr fun x o h w => ?_, fun x h => a.dm x (b.dm x h), fun x h => ?_, fun x h => ?_, fun h => ?_⟩
  · rcases a.wr x w with z | z
    · exact z
    · rw [z] at h
      cases h
  · rcases b.wr x h with z | z
    · exact a.wr x z
    · exact .inr (a.dm x z)
  · rcases b.mo x h with z | z
    · exact a.mo x z
    · exact .inr (a.dm x z)
  · obtain ⟨h1, h2⟩ := a.io h
    obtain ⟨h3, h4⟩ := b.io h
    exact ⟨h3.trans h1, fun z => h4 (h2 z)⟩
theorem RPost.pre (a : SPost K iop E Fm pa H E1 P1 σ1 H1 Fm1 pa1) (b : RPost K iop E1 Fm1 pa1 H1 v d F P2 H2) : RPost K iop E Fm pa H v d F P2 H2 := by
  refine ⟨b.rp, fun x h => ?_, a.fr.trans b.fr fun x o h w => ?_, fun h h' => ?_⟩
  · rcases b.nw x h with z | z
    · exact a.mo x z
    · exact .inr (a.dm x z)
  · rcases a.wr x w with z | z
    · exact z
    · rw [z] at h
      cases h
  · obtain ⟨h1, h2⟩ := a.io h
    have := b.po h (h2 h')
    rwa [h1] at this
theorem SEnd.pre (a : SPost K iop E Fm pa H E1 P1 σ1 H1 Fm1 pa1) (b : SEnd K iop E Fm pa H D r) : SEnd K iop E1 Fm1 pa1 H1 D r := by
  cases r with
  | nx E' P' => exact fun σ' H' Fm' pa' s => b σ' H' Fm' pa' (a.trans s)
  | bk E' P' => exact fun σ' H' Fm' pa' s => b σ' H' Fm' pa' (a.trans s)
  | rt d P' => exact fun v H' F s => b v H' F (s.pre a)
/-- an expression has run -/
theorem Post0.sp (p : Post0 K E pa H P' H') (ok : EnvOk K E P σ H Fm pa) : SPost K iop E Fm pa H E P' σ H' Fm pa :=
  ⟨p.env ok, p.fr.mono fun _ _ _ z => .inr z, fun _ z => p.dom z, fun _ z => .inl z, fun _ z => .inl z, fun _ => ⟨rfl, id⟩⟩
theorem wr_in (ok : EnvOk K E P σ H Fm pa) {a : Addr} (h : Wr E Fm pa a) : H a ≠ none := by
  rcases h with ⟨j, d, hj, ha⟩ | ⟨hi, rfl⟩
  · obtain ⟨xs, e⟩ := ok.inH hj (by decide) ha
    rw [e]
    exact fun z => nomatch z
  · obtain ⟨vs, ds, h1, _⟩ := ok.pot hi
    rw [h1]
    exact fun z => nomatch z
/-- new lists are nobody's -/
theorem noW_new (ok : EnvOk K E P σ H Fm pa) (h : ∀ a ∈ F, H a = none) : NoW E Fm pa F := fun a ha w => wr_in ok w (h a ha)
/-- lists of names that were frozen are nobody's -/
theorem noW_frz (ok : EnvOk K E P σ H Fm pa) {l : List Nat} (f : Fz E E') (hl : ∀ i ∈ l, ∀ d, E'[i]? ≠ some (some (Kd.own, d))) (pv : Pv E Fm l H F) : NoW E' Fm pa F := by
  intro a ha w
  rcases pv a ha with z | ⟨m, hm, k, d, h, hk, hmem⟩
  · exact wr_in ok (f.wr w) z
  · rcases w with ⟨j, d', hj, hja⟩ | ⟨hi, rfl⟩
    · obtain ⟨k1, g1, _, _, g4⟩ := f.back hj
      rw [g4 rfl] at g1
      by_cases e : j = m
      · subst e
        exact hl j hm d' hj
      · exact ok.dis j d' g1 m k d (Ne.symm e) h hk a hja hmem
    · exact ok.pno (f.io ▸ hi) m k d h hk hmem
theorem Fz.sp (f : Fz E E') (ok : EnvOk K E P σ H Fm pa) : SPost K iop E Fm pa H E' P σ H Fm pa :=
  ⟨f.ok ok, Frm.refl, fun _ z => z, fun _ z => .inl (f.wr z), fun _ z => .inl (f.mko z), fun _ => ⟨rfl, fun z => f.io.trans z⟩⟩
theorem Fz.isIo (f : Fz E E') (h : isIo (E.getD i none) = false) : isIo (E'.getD i none) = false := by
  rw [List.getD_eq_getElem?_getD] at h ⊢
  rcases f.at' i with e | ⟨d, _, e⟩
  · rw [e]
    exact h
  · rw [e]
    rfl
theorem asg_sp {e : Ex} (ok : EnvOk K E P σ H Fm pa) (x : XPost K E Fm pa (vars e) (frs e d) H v d F P' H') (h : asgD E i e d = some E1) : ∃ F1, SPost K iop E Fm pa H E1 P' (σ.set i (some v)) H' F1 pa ∧ i < E.length ∧ isIo (E.getD i none) = false := by
  have ok1 := x.p.env ok
  have sp := x.p.sp (iop := iop) ok
  unfold asgD at h
  split at h
  · cases h
  rename_i hio
  have hio : MP.isIo (E.getD i none) = false := by simpa using hio
  split at h
  · rename_i hm
    obtain ⟨hi, rfl⟩ := setV_some h
    obtain ⟨_, r⟩ := Rp.imm false d x.rp hm
    refine ⟨_, sp.trans ⟨ok1.put (k := Kd.ro) hi hio (by decide) r (fun a m => nomatch m) (fun z => by cases z), Frm.refl, fun _ z => z, fun a z => ?_, fun a z => ?_, fun _ => ⟨rfl, fun z => (hasIo_put hio rfl).trans z⟩⟩, hi, hio⟩
    · rcases put_wr hi hio (by decide) z with z | ⟨_, z⟩
      · exact .inl z
      · cases z
    · rcases put_mk hi z with z | ⟨_, z⟩
      · exact .inl z
      · cases z
  · split at h
    · rename_i _ hf
      obtain ⟨hi, rfl⟩ := setV_some h
      obtain ⟨r, hn⟩ := x.fs hf
      have s1 : EnvOk K (E.set i (some (Kd.own, d))) P' (σ.set i (some v)) H' (fput Fm i F) pa := by
        refine ok1.put (k := Kd.own) hi hio (by decide) r (fun a ha w => wr_in ok w (hn a ha)) fun _ j k' d' _ hj hk' a ha m => ?_
        obtain ⟨xs, e⟩ := ok.inH hj hk' m
        rw [hn a ha] at e
        cases e
      refine ⟨_, ⟨s1, sp.fr, sp.dm, fun a z => ?_, fun a z => ?_, fun _ => ⟨rfl, fun z => (hasIo_put hio rfl).trans z⟩⟩, hi, hio⟩
      · rcases put_wr hi hio (by decide) z with z | ⟨_, z⟩
        · exact .inl z
        · exact .inr (hn a z)
      · rcases put_mk hi z with z | ⟨_, z⟩
        · exact .inl z
        · exact .inr (hn a z)
    · obtain ⟨hi, rfl⟩ := setV_some h
      have f := frz_fz (vars e) E
      have hi' : i < E.length := by rw [f.len] at hi; exact hi
      have hio' := f.isIo hio
      refine ⟨_, (sp.trans (f.sp ok1)).trans ⟨(f.ok ok1).put (k := Kd.ro) hi hio' (by decide) (Rp.weak d x.rp) (noW_frz ok f (fun i hi => frz_not _ E i hi) x.pv) (fun z => by cases z), Frm.refl, fun _ z => z, fun a z => ?_, fun a z => ?_, fun _ => ⟨rfl, fun z => (hasIo_put hio' rfl).trans z⟩⟩, hi', hio⟩
      · rcases put_wr hi hio' (by decide) z with z | ⟨z, _⟩
        · exact .inl z
        · cases z
      · rcases put_mk hi z with z | ⟨z, _⟩
        · exact .inl z
        · cases z
/-- a slot is forgotten, whatever stands there -/
theorem EnvOk.drop (ok : EnvOk K E P σ H Fm pa) (i : Nat) (hio : MP.isIo (E.getD i none) = false) : EnvOk K (E.set i none) P σ H Fm pa ∧ hasIo (E.set i none) = hasIo E ∧ ∀ {j : Nat} {k : Kd} {d : PyData}, (E.set i none)[j]? = some (some (k, d)) → j ≠ i ∧ E[j]? = some (some (k, d)) := by
  have hio' := hasIo_put (x := none) hio rfl
  by_cases hi : i < E.length
  · have hs := fun j => set_get (x := none) hi j
    have hb : ∀ {j : Nat} {k : Kd} {d : PyData}, (E.set i none)[j]? = some (some (k, d)) → j ≠ i ∧ E[j]? = some (some (k, d)) := by
      intro j k d h
      rw [hs] at h
      by_cases e : j = i
      · rw [if_pos e] at h
        cases h
      · rw [if_neg e] at h
        exact ⟨e, h⟩
    exact ⟨⟨by rw [List.length_set]; exact ok.len, fun j k d h hk => ok.rep j k d (hb h).2 hk, fun j d h j' k' d' hjj h' hk' => ok.dis j d (hb h).2 j' k' d' hjj (hb h').2 hk', fun j d h => ok.io j d (hb h).2, fun h => ok.pot (hio' ▸ h), fun h j k d hj hk => ok.pno (hio' ▸ h) j k d (hb hj).2 hk⟩, hio', hb⟩
  · have e : E.set i none = E := List.set_eq_of_length_le (by omega)
    rw [e]
    refine ⟨ok, rfl, fun {j k d} h => ⟨?_, h⟩⟩
    rintro rfl
    exact absurd (List.getElem?_eq_some_iff.mp h).1 hi
/-- a heap that leaves all names' lists as they are -/
theorem EnvOk.heap (ok : EnvOk K E P σ H Fm pa) (hf : ∀ (j : Nat) (k : Kd) (d : PyData), E[j]? = some (some (k, d)) → k ≠ Kd.io → Fx (Fm j) H H') (hp : hasIo E = true → PotOk K H' pa P') : EnvOk K E P' σ H' Fm pa where
  len := ok.len
  rep := fun j k d h hk => by
    obtain ⟨v, e, r⟩ := ok.rep j k d h hk
    exact ⟨v, e, Rp.fx d r (hf j k d h hk)⟩
  dis := ok.dis
  io := ok.io
  pot := hp
  pno := ok.pno
theorem upd_fx {q : Addr} {xs : List V} {o : HO} (h : H q = some (.lst xs)) (hF : q ∉ F) : Fx F H (upd H q o) := ⟨upd_keep h, fun a ha ys e => by
  rw [upd_ne]
  · exact e
  · rintro rfl
    exact hF ha⟩
theorem upd_dm {q : Addr} {xs : List V} {o : HO} (h : H q = some (.lst xs)) : ∀ a, upd H q o a = none → H a = none := fun a z => by
  by_cases e : a = q
  · subst e
    rw [upd_same] at z
    cases z
  · rw [upd_ne e] at z
    exact z
theorem upd_frm {S : Addr → Prop} {q : Addr} {xs : List V} {o : HO} (h : H q = some (.lst xs)) (hS : S q) : Frm S H (upd H q o) := fun a u e w => by
  rw [upd_ne]
  · exact e
  · rintro rfl
    rw [h] at e
    cases e
    exact w rfl hS
theorem set_self {i : Nat} {x : Option V} {σ : L2.St} (h : σ[i]? = some x) : σ.set i x = σ := by
  apply List.ext_getElem?
  intro j
  by_cases e : j = i
  · subst e
    rw [List.getElem?_set_self (List.getElem?_eq_some_iff.mp h).1, h]
  · rw [List.getElem?_set_ne (Ne.symm e)]
/-- an own list is changed in place: plain items before and behind -/
theorem own_upd {o : Nat} {ds ds' : List PyData} {q : Addr} {vs vs' : List V} {G : List Addr} (ok : EnvOk K E P σ H Fm pa) (hE : E[o]? = some (some (Kd.own, .list ds))) (hσ : σ[o]? = some (some (.ref q))) (hFm : Fm o = q :: G) (hq : H q = some (.lst vs))
    (r' : RpL K true H vs' ds' []) : SPost K iop E Fm pa H (E.set o (some (Kd.own, .list ds'))) P σ (upd H q (.lst vs')) (fput Fm o [q]) pa := by
  have hi : o < E.length := (List.getElem?_eq_some_iff.mp hE).1
  have hio : MP.isIo (E.getD o none) = false := by
    rw [List.getD_eq_getElem?_getD, hE]
    rfl
  have hqm : q ∈ Fm o := by rw [hFm]; exact List.mem_cons_self
  have hS : Wr E Fm pa q := .inl ⟨o, _, hE, hqm⟩
  obtain ⟨ok1, hio1, hb⟩ := ok.drop o hio
  have hpq : hasIo E = true → q ≠ pa := by
    rintro h rfl
    exact ok.pno h o _ _ hE (by decide) hqm
  have ok2 : EnvOk K (E.set o none) P σ (upd H q (.lst vs')) Fm pa := by
    refine ok1.heap (fun j k d h hk => ?_) fun h => ?_
    · obtain ⟨e, h⟩ := hb h
      exact upd_fx hq fun m => ok.dis o _ hE j k d e h hk q hqm m
    · rw [hio1] at h
      exact (ok.pot h).keep2 (upd_keep hq) fun xs e => by rw [upd_ne (Ne.symm (hpq h))]; exact e
  have e1 : (E.set o none).set o (some (Kd.own, PyData.list ds')) = E.set o (some (Kd.own, .list ds')) := List.set_set ..
  have hio2 : MP.isIo ((E.set o none).getD o none) = false := getD_set_io rfl hio
  have ok3 := ok2.put (i := o) (k := Kd.own) (d := .list ds') (v := .ref q) (F := [q]) (by rw [List.length_set]; exact hi) hio2 (by decide) (.lst upd_same (RpL.fx _ r' (upd_keep hq).fx0)) (fun a ha w => by
    rw [List.mem_singleton.mp ha] at w
    rcases w with ⟨j, d', hj, hm⟩ | ⟨h, e⟩
    · obtain ⟨e, hj⟩ := hb hj
      exact ok.dis o _ hE j _ d' e hj (by decide) q hqm hm
    · rw [hio1] at h
      exact hpq h e) fun _ j k' d' hne hj hk' a ha m => by
      rw [List.mem_singleton.mp ha] at m
      obtain ⟨e, hj⟩ := hb hj
      exact ok.dis o _ hE j k' d' e hj hk' q hqm m
  rw [e1, set_self hσ] at ok3
  refine ⟨ok3, upd_frm hq hS, upd_dm hq, fun a z => ?_, fun a z => ?_, fun _ => ⟨rfl, fun z => (hasIo_put hio rfl).trans z⟩⟩
  · rcases put_wr hi hio (by decide) z with z | ⟨_, z⟩
    · exact .inl z
    · rw [List.mem_singleton.mp z]
      exact .inl hS
  · rcases put_mk hi z with z | ⟨_, z⟩
    · exact .inl z
    · rw [List.mem_singleton.mp z]
      exact .inl ⟨o, _, _, hE, rfl, hqm⟩
/-- the pot is changed in place -/
theorem pot_upd {o : Nat} {d0 : PyData} {ds ds' : List PyData} {vs vs' : List V} (ok : EnvOk K E (.list ds) σ H Fm pa) (hE : E[o]? = some (some (Kd.io, d0))) (hp : H pa = some (.lst vs)) (r' : RpL K true H vs' ds' []) (hi : immL ds' = true) :
    SPost K iop E Fm pa H E (.list ds') σ (upd H pa (.lst vs')) Fm pa := by
  have h := hasIo_of hE
  have f : Frm (Pw E pa) H (upd H pa (.lst vs')) := upd_frm hp ⟨h, rfl⟩
  exact ⟨ok.keep f fun _ => ⟨vs', ds', upd_same, RpL.fx _ r' (upd_keep hp).fx0, rfl, hi⟩, f.mono fun _ _ _ z => .inr z, upd_dm hp, fun _ z => .inl z, fun _ z => .inl z, fun _ => ⟨rfl, id⟩⟩
theorem RpL.set {t : Bool} : ∀ {ds : List PyData} {vs : List V} {F : List Addr} (j : Nat) {x : PyData} {u : V}, RpL K t H vs ds F → immL ds = true → Rp K t H u x [] → RpL K t H (vs.set j u) (ds.set j x) []
  | [], _, _, j, _, _, .nil, _, _ => by simpa using RpL.nil
  | d :: ds, _ :: _, _, 0, x, u, .cons r1 h1, hi, r => by
    obtain ⟨_, h1'⟩ := RpL.imm t ds h1 (immL_cons.mp hi).2
    exact .cons r h1'
  | d :: ds, v :: vs, _, j + 1, x, u, .cons r1 h1, hi, r => by
    obtain ⟨hi1, hi2⟩ := immL_cons.mp hi
    obtain ⟨_, r1'⟩ := Rp.imm t d r1 hi1
    exact .cons r1' (RpL.set j h1 hi2 r)
end
end MP
set_option Elab.async false
set_option linter.all false
set_option maxRecDepth 100000
/-! Statements, one by one. -/
namespace MP
open PySem PySem.Spec PyProof.Rows L2

section
variable {K : PySem.W.Frag} {cl : Cl} {iop : Bool} {σ : L2.St} {H : Hp} {D : Ends}
theorem Ext.dm {H H' : Hp} (x : Ext H H') {a : Addr} (z : H' a = none) : H a = none := by
  cases e : H a with
  | none => rfl
  | some o =>
    rw [x a o e] at z
    cases z
theorem asg_imp {i : Nat} {e : Ex} (h : exTS K iop (rs cl iop (.asg i e)) D σ H) : tAsg (exTE K cl e) (gName i) D σ H := by
  obtain ⟨E, P, Fm, pa, r, ok, hr, hd⟩ := h
  unfold rs at hr
  cases e1 : ev cl e E P with
  | none => rw [e1] at hr; cases hr
  | some y =>
    obtain ⟨d, P1⟩ := y
    rw [e1] at hr
    obtain ⟨E1, h1, h2⟩ := Option.map_eq_some_iff.mp hr
    cases h2
    refine ⟨E, P, Fm, pa, d, P1, ok, e1, fun v H1 F p => ?_⟩
    obtain ⟨F1, sp, _⟩ := asg_sp (iop := iop) ok p h1
    exact hd _ _ _ _ sp
theorem expr_imp {e : Ex} (h : exTS K iop (rs cl iop (.expr e)) D σ H) : tDrop (exTE K cl e) D σ H := by
  obtain ⟨E, P, Fm, pa, r, ok, hr, hd⟩ := h
  unfold rs at hr
  cases e1 : ev cl e E P with
  | none => rw [e1] at hr; cases hr
  | some y =>
    obtain ⟨d, P1⟩ := y
    rw [e1] at hr
    cases hr
    exact ⟨E, P, Fm, pa, d, P1, ok, e1, fun v H1 F p => hd _ _ _ _ (p.p.sp ok)⟩
theorem mk_of {E : Env} {Fm : Nat → List Addr} {l : List Nat} {F : List Addr} {H : Hp} {t : Bool} {v : V} {d : PyData} (ok : True) (pv : Pv E Fm l H F) (hs : strV E l = true) (hr : ∀ i ∈ l, ∀ d, E[i]? = some (some (Kd.ro, d)) → imm d = true → Fm i = []) : ∀ a ∈ F, Mk E Fm a ∨ H a = none := by
  intro a ha
  rcases pv a ha with z | ⟨m, hm, k, d, h, hk, hmem⟩
  · exact .inr z
  · have := List.all_eq_true.mp (show l.all _ = true from hs) m hm
    rw [h] at this
    cases k with
    | own => exact .inl ⟨m, _, d, h, rfl, hmem⟩
    | fz => exact .inl ⟨m, _, d, h, rfl, hmem⟩
    | ro =>
      rw [hr m hm d h this] at hmem
      cases hmem
    | io => exact absurd rfl hk
theorem ret_imp {e : Ex} (h : exTS K iop (rs cl iop (.ret e)) D σ H) : tRet (exTE K cl e) D σ H := by
  obtain ⟨E, P, Fm, pa, r, ok, hr, hd⟩ := h
  unfold rs at hr
  cases e1 : ev cl e E P with
  | none => rw [e1] at hr; cases hr
  | some y =>
    obtain ⟨d, P1⟩ := y
    rw [e1] at hr
    dsimp only at hr
    split at hr
    · rename_i hc
      cases hr
      refine ⟨E, P, Fm, pa, d, P1, ok, e1, fun v H1 F p => ?_⟩
      have fr : Frm (Wr E Fm pa) H H1 := p.p.fr.mono fun _ _ _ z => .inr z
      have po : iop = true → hasIo E = true → PotOk K H1 pa P1 := fun _ h => p.p.pot h
      by_cases hi : imm d = true
      · exact hd v H1 [] ⟨(Rp.imm true d p.rp hi).2, fun _ m => (nomatch m), fr, po⟩
      · by_cases hf : frs e d = true
        · obtain ⟨h1, h2⟩ := p.fs hf
          exact hd v H1 F ⟨h1, fun a ha => .inr (h2 a ha), fr, po⟩
        · have hs : strV E (vars e) = true := by simpa [hi, hf] using hc
          refine hd v H1 F ⟨p.rp.to fun _ => hs, mk_of (t := true) (v := v) (d := d) trivial p.pv hs fun i _ d' h' hm => ?_, fr, po⟩
          obtain ⟨w, _, r'⟩ := ok.rep i _ d' h' (by decide)
          exact (Rp.imm true d' r' hm).1
    · cases hr
theorem brk_imp (h : exTS K iop (rs cl iop .brk) D σ H) : tBreak D σ H := by
  obtain ⟨E, P, Fm, pa, r, ok, hr, hd⟩ := h
  unfold rs at hr
  cases hr
  exact hd _ _ _ _ (SPost.refl ok)
theorem never_imp (h : exTS K iop (rs cl iop .never) D σ H) : tNever D σ H := by
  obtain ⟨E, P, Fm, pa, r, ok, hr, hd⟩ := h
  unfold rs at hr
  cases hr
theorem ifs_imp {c : Ex} {a b : Sts} (h : exTS K iop (rs cl iop (.ifs c a b)) D σ H) : tIfS (exTT K cl c) (exTS K iop (rss cl iop a)) (exTS K iop (rss cl iop b)) D σ H := by
  obtain ⟨E, P, Fm, pa, r, ok, hr, hd⟩ := h
  unfold rs at hr
  split at hr
  · rename_i P1 e1
    refine ⟨E, P, Fm, pa, true, P1, ok, e1, fun H1 p => ?_⟩
    show exTS K iop (rss cl iop a) D σ H1
    exact ⟨E, P1, Fm, pa, r, p.env ok, hr, SEnd.pre (p.sp ok) hd⟩
  · rename_i P1 e1
    refine ⟨E, P, Fm, pa, false, P1, ok, e1, fun H1 p => ?_⟩
    show exTS K iop (rss cl iop b) D σ H1
    exact ⟨E, P1, Fm, pa, r, p.env ok, hr, SEnd.pre (p.sp ok) hd⟩
  · cases hr
theorem nil_imp (h : exTS K iop (rss cl iop .nil) D σ H) : tNext D σ H := by
  obtain ⟨E, P, Fm, pa, r, ok, hr, hd⟩ := h
  unfold rss at hr
  cases hr
  exact hd _ _ _ _ (SPost.refl ok)
theorem cons_imp {s : St} {m : Sts} (h : exTS K iop (rss cl iop (.cons s m)) D σ H) : tSeq (exTS K iop (rs cl iop s)) (exTS K iop (rss cl iop m)) D σ H := by
  obtain ⟨E, P, Fm, pa, r, ok, hr, hd⟩ := h
  unfold rss at hr
  cases e1 : rs cl iop s E P with
  | none => rw [e1] at hr; cases hr
  | some r1 =>
    rw [e1] at hr
    cases r1 with
    | nx E1 P1 => exact ⟨E, P, Fm, pa, _, ok, e1, fun σ' H' Fm' pa' s => ⟨E1, P1, Fm', pa', r, s.ok, hr, SEnd.pre s hd⟩⟩
    | bk E1 P1 =>
      cases hr
      exact ⟨E, P, Fm, pa, _, ok, e1, hd⟩
    | rt d P1 =>
      cases hr
      exact ⟨E, P, Fm, pa, _, ok, e1, hd⟩
theorem GPost.sp {E E' : Env} {P : PyData} {Fm Fm' : Nat → List Addr} {pa : Addr} {σ' : L2.St} {t : List Nat → Bool} (g : GPost K E Fm pa P σ H t E' Fm' σ') : SPost K iop E Fm pa H E' P σ' H Fm' pa :=
  ⟨g.ok, Frm.refl, fun _ z => z, fun a z => .inl (g.wr a z), fun a z => .inl (g.mo a z), fun _ => ⟨rfl, fun z => g.io.trans z⟩⟩
theorem unp_imp {t : Tgs} {e : Ex} {k : Nat} (hk : ∀ ds (E E' : Env), bindTs t ds E = some E' → ds.length = k) (h : exTS K iop (rs cl iop (.unp t e)) D σ H) : tAsg (exTE K cl e) (gTup K k (exTGs K t)) D σ H := by
  obtain ⟨E, P, Fm, pa, r, ok, hr, hd⟩ := h
  unfold rs at hr
  split at hr
  · rename_i ds P1 e1
    obtain ⟨E1, h1, h2⟩ := Option.map_eq_some_iff.mp hr
    cases h2
    refine ⟨E, P, Fm, pa, _, P1, ok, e1, fun v H1 F p => ?_⟩
    obtain ⟨q, vs, rfl, hs, rr⟩ := id (Rp.weak _ p.rp).tuple
    have f := frz_fz (vars e) E
    have ok1 := p.p.env ok
    refine ⟨q, vs, rfl, hs.sq, by rw [rr.len]; exact hk _ _ _ h1, _, P1, Fm, pa, ds, F, E1, f.ok ok1, rr, noW_frz ok f (fun i hi => frz_not _ E i hi) p.pv, h1, fun σ' Fm' g => hd _ _ _ _ (((p.p.sp ok).trans (f.sp ok1)).trans g.sp)⟩
  · cases hr
/-! ### loops -/
theorem for_imp {t : Tg} {it : Ito} {body : Sts} (h : exTS K iop (rs cl iop (.for t it body)) D σ H) : tFor (exTI K cl it) (exTG K t) (exTS K iop (rss cl iop body)) D σ H := by
  obtain ⟨E, P, Fm, pa, r, ok, hr, hd⟩ := h
  unfold rs at hr
  cases e1 : evI cl it E P with
  | none => rw [e1] at hr; cases hr
  | some y =>
    obtain ⟨ds, P1⟩ := y
    rw [e1] at hr
    refine ⟨E, P, Fm, pa, ds, P1, ok, e1, fun J H1 F ip => ?_⟩
    have f := frz_fz (varsI it) E
    have ok1 := ip.p.env ok
    have okF := f.ok ok1
    have hd1 := SEnd.pre ((ip.p.sp ok).trans (f.sp ok1)) hd
    have hw := noW_frz ok f (fun i hi => frz_not _ E i hi) ip.pv
    generalize frz E (varsI it) = E0 at hr okF hd1 hw
    have hFn : ∀ a ∈ F, H1 a ≠ none := fun a ha => by
      obtain ⟨xs, e⟩ := ip.at' a ha
      rw [e]
      exact fun z => nomatch z
    refine ⟨fun i m σ' H' => m = ds.length - i ∧ i ≤ ds.length ∧ ∃ E' P' Fm' pa', SPost K iop E0 Fm pa H1 E' P' σ' H' Fm' pa' ∧ forL (bindT t) (rss cl iop body) (ds.drop i) E' P' = some r, ⟨ds.length, ?_⟩, ?_⟩
    · exact ⟨by omega, Nat.zero_le _, E0, P1, Fm, pa, SPost.refl okF, by rw [List.drop_zero]; exact hr⟩
    · rintro i m σ' H' ⟨rfl, hi, E', P', Fm', pa', sp, hf⟩
      have fx : Fx F H1 H' := sp.fr.fx hw
      have hw' : NoW E' Fm' pa' F := fun a ha w => by
        rcases sp.wr a w with z | z
        · exact hw a ha z
        · exact hFn a ha z
      by_cases hlt : i < ds.length
      · refine .inr ⟨ip.it.go H' fx i hlt, fun σ' H' => (fun i m σ' H' => m = ds.length - i ∧ i ≤ ds.length ∧ ∃ E' P' Fm' pa', SPost K iop E0 Fm pa H1 E' P' σ' H' Fm' pa' ∧ forL (bindT t) (rss cl iop body) (ds.drop i) E' P' = some r) (i + 1) (ds.length - (i + 1)) σ' H', fun σ' H' w => ⟨ds.length - (i + 1), by omega, w⟩, fun x H3 y => ?_⟩
        obtain ⟨x3, G, hG, rx⟩ := ip.it.yld H' fx i ds[i] (List.getElem?_eq_getElem hlt) x H3 y
        rw [List.drop_eq_getElem_cons hlt] at hf
        unfold forL at hf
        have ok3 : EnvOk K E' P' σ' H3 Fm' pa' := sp.ok.keep x3.frm fun h => (sp.ok.pot h).keep x3
        have sp3 : SPost K iop E' Fm' pa' H' E' P' σ' H3 Fm' pa' := ⟨ok3, x3.frm, fun a z => x3.dm z, fun _ z => .inl z, fun _ z => .inl z, fun _ => ⟨rfl, id⟩⟩
        cases hb : bindT t ds[i] E' with
        | none => rw [hb] at hf; cases hf
        | some E2 =>
          rw [hb] at hf
          dsimp only at hf
          refine ⟨E', P', Fm', pa', ds[i], G, E2, ok3, Rp.weak _ rx, fun a ha => hw' a (hG a ha), hb, fun σ2 Fm2 g => ?_⟩
          have sp2 := (sp.trans sp3).trans (g.sp (iop := iop))
          cases hbd : rss cl iop body E2 P' with
          | none => rw [hbd] at hf; cases hf
          | some r2 =>
            rw [hbd] at hf
            refine ⟨E2, P', Fm2, pa', r2, g.ok, hbd, ?_⟩
            cases r2 with
            | nx E4 P4 => exact fun σ4 H4 Fm4 pa4 s4 => ⟨rfl, hlt, E4, P4, Fm4, pa4, sp2.trans s4, hf⟩
            | bk E4 P4 =>
              cases hf
              exact fun σ4 H4 Fm4 pa4 s4 => hd1 σ4 H4 Fm4 pa4 (sp2.trans s4)
            | rt d P4 =>
              cases hf
              exact fun v H4 F4 s4 => hd1 v H4 F4 (s4.pre sp2)
      · have e : i = ds.length := by omega
        subst e
        rw [List.drop_length] at hf
        unfold forL at hf
        cases hf
        exact .inl ⟨ip.it.stop H' fx, hd1 σ' H' Fm' pa' sp⟩
theorem while_imp {n : Nat} {c : Ex} {body : Sts} (h : exTS K iop (rs cl iop (.while n c body)) D σ H) : tWhile (exTT K cl c) (exTS K iop (rss cl iop body)) D σ H := by
  obtain ⟨E, P, Fm, pa, r, ok, hr, hd⟩ := h
  unfold rs at hr
  refine ⟨fun m σ' H' => ∃ E' P' Fm' pa', SPost K iop E Fm pa H E' P' σ' H' Fm' pa' ∧ whL (ev cl c) (rss cl iop body) m E' P' = some r, ⟨n, E, P, Fm, pa, SPost.refl ok, hr⟩, ?_⟩
  rintro m σ' H' ⟨E', P', Fm', pa', sp, hf⟩
  cases m with
  | zero =>
    unfold whL at hf
    cases hf
  | succ m =>
    unfold whL at hf
    split at hf
    · rename_i P1 e1
      cases hf
      refine ⟨E', P', Fm', pa', false, P1, sp.ok, e1, fun H1 p => ?_⟩
      show D.nx σ' H1
      exact hd _ _ _ _ (sp.trans (p.sp sp.ok))
    · rename_i P1 e1
      refine ⟨E', P', Fm', pa', true, P1, sp.ok, e1, fun H1 p => ?_⟩
      simp only [if_true]
      have sp1 := sp.trans (p.sp (iop := iop) sp.ok)
      cases hbd : rss cl iop body E' P1 with
      | none => rw [hbd] at hf; cases hf
      | some r2 =>
        rw [hbd] at hf
        refine ⟨fun σ2 H2 => ∃ E' P' Fm' pa', SPost K iop E Fm pa H E' P' σ2 H2 Fm' pa' ∧ whL (ev cl c) (rss cl iop body) m E' P' = some r, fun σ2 H2 w => ⟨m, Nat.lt_succ_self m, w⟩, E', P1, Fm', pa', r2, p.env sp.ok, hbd, ?_⟩
        cases r2 with
        | nx E4 P4 => exact fun σ4 H4 Fm4 pa4 s4 => ⟨E4, P4, Fm4, pa4, sp1.trans s4, hf⟩
        | bk E4 P4 =>
          cases hf
          exact fun σ4 H4 Fm4 pa4 s4 => hd σ4 H4 Fm4 pa4 (sp1.trans s4)
        | rt d P4 =>
          cases hf
          exact fun v H4 F4 s4 => hd v H4 F4 (s4.pre sp1)
    · cases hf
end
end MP
set_option Elab.async false
set_option linter.all false
set_option maxRecDepth 100000
/-! Statements that write, pairs; the check of statements. -/
namespace MP
open PySem PySem.Spec PyProof.Rows L2

section
variable {K : PySem.W.Frag} {cl : Cl} {iop : Bool} {σ : L2.St} {H : Hp} {D : Ends}
theorem Rp.ownL {t : Bool} {ds : List PyData} {v : V} {F : List Addr} (h : Rp K t H v (.list ds) F) (ht : t = true) : ∃ q vs G, v = .ref q ∧ F = q :: G ∧ H q = some (.lst vs) ∧ RpL K t H vs ds G := by
  cases h with
  | lst hs ha => exact ⟨_, _, _, rfl, rfl, hs, ha⟩
  | lstR hf _ _ => rw [ht] at hf; cases hf
theorem sub_imp {o : Nat} {k v : Ex} (h : exTS K iop (rs cl iop (.sub o k v)) D σ H) : tAsg (exTE K cl v) (gSub (tVar o) (exTE K cl k) rSetL) D σ H := by
  obtain ⟨E, P, Fm, pa, r, ok, hr, hd⟩ := h
  unfold rs at hr
  cases e1 : ev cl v E P with
  | none => rw [e1] at hr; cases hr
  | some y =>
    obtain ⟨x, P1⟩ := y
    rw [e1] at hr
    dsimp only at hr
    split at hr
    · rename_i n P2 e2
      refine one_then ok e1 fun u H1 F1 p1 ok1 => ?_
      split at hr
      · rename_i d0 hE
        split at hr
        · rename_i ds
          split at hr
          · rename_i hx
            obtain ⟨j, h1, h2⟩ := Option.map_eq_some_iff.mp hr
            cases h2
            refine ⟨.ref pa, ok.io o d0 hE, one_then ok1 e2 fun w H2 F2 p2 ok2 => ?_⟩
            obtain ⟨vs, ds', h1', h2', h3', h4'⟩ := ok2.pot (hasIo_of hE)
            cases h3'
            obtain ⟨_, rx⟩ := Rp.imm true x (Rp.fx x p1.rp (p1.pv.fx ok p2.p)) hx
            refine ⟨pa, vs, n, j, rfl, Rp.inv_int p2.rp, h1', by rw [h2'.len]; exact h1, ?_⟩
            refine hd _ _ _ _ (((p1.p.trans p2.p).sp ok).trans (pot_upd ok2 hE h1' (h2'.set j h4' rx) ?_))
            refine immL_of fun d hd => ?_
            rcases List.mem_or_eq_of_mem_set hd with z | z
            · exact immL_mem h4' z
            · rw [z]
              exact hx
          · cases hr
        · cases hr
      · rename_i ds hE
        split at hr
        · rename_i hx
          rw [Bool.and_eq_true] at hx
          obtain ⟨j, h1, h2⟩ := Option.map_eq_some_iff.mp hr
          cases h2
          obtain ⟨u', hσ, r0⟩ := ok.rep o _ _ hE (by decide)
          refine ⟨u', hσ, one_then ok1 e2 fun w H2 F2 p2 ok2 => ?_⟩
          obtain ⟨u2, hσ2, r2⟩ := ok2.rep o _ _ hE (by decide)
          rw [hσ] at hσ2
          cases hσ2
          obtain ⟨q, vs, G, rfl, hF, hq, rr⟩ := r2.ownL rfl
          obtain ⟨_, rr'⟩ := RpL.imm true ds rr hx.2
          obtain ⟨_, rx⟩ := Rp.imm true x (Rp.fx x p1.rp (p1.pv.fx ok p2.p)) hx.1
          refine ⟨q, vs, n, j, rfl, Rp.inv_int p2.rp, hq, by rw [rr.len]; exact h1, ?_⟩
          exact hd _ _ _ _ (((p1.p.trans p2.p).sp ok).trans (own_upd ok2 hE hσ hF hq (rr'.set j hx.2 rx)))
        · cases hr
      · cases hr
    · cases hr
theorem app_imp {o : Nat} {e : Ex} (h : exTS K iop (rs cl iop (.app o e)) D σ H) : tDrop (tBM K "list" rAppend (tVar o) (tCons (exTE K cl e) tNil)) D σ H := by
  obtain ⟨E, P, Fm, pa, r, ok, hr, hd⟩ := h
  unfold rs at hr
  cases e1 : ev cl e E P with
  | none => rw [e1] at hr; cases hr
  | some y =>
    obtain ⟨x, P1⟩ := y
    rw [e1] at hr
    dsimp only at hr
    split at hr
    · rename_i ds hE
      split at hr
      · rename_i hx
        rw [Bool.and_eq_true, Bool.and_eq_true, decide_eq_true_eq] at hx
        cases hr
        obtain ⟨u', hσ, r0⟩ := ok.rep o _ _ hE (by decide)
        obtain ⟨q0, vs0, G0, rfl, hF0, hq0, rr0⟩ := r0.ownL rfl
        refine ⟨.ref q0, hσ, .inl ⟨rfl, vs0, .inl (.inl hq0)⟩, one_then ok e1 fun w H2 F2 p2 ok2 => ?_⟩
        obtain ⟨u2, hσ2, r2⟩ := ok2.rep o _ _ hE (by decide)
        rw [hσ] at hσ2
        cases hσ2
        obtain ⟨q, vs, G, eq', hF, hq, rr⟩ := r2.ownL rfl
        cases eq'
        obtain ⟨_, rr'⟩ := RpL.imm true ds rr hx.1.2
        obtain ⟨_, rx⟩ := Rp.imm true x p2.rp hx.1.1
        have hl := rr.len
        have hL := LIM_line
        refine ⟨q0, vs, w, rfl, rfl, hq, by omega, ?_⟩
        exact hd _ _ _ _ ((p2.p.sp ok).trans (own_upd ok2 hE hσ hF hq (rr'.append (.cons rx .nil))))
      · cases hr
    · cases hr
theorem mov_imp {i j : Nat} (h : exTS K iop (rs cl iop (.mov i j)) D σ H) : tAsg (tVar j) (gName i) D σ H := by
  obtain ⟨E, P, Fm, pa, r, ok, hr, hd⟩ := h
  unfold rs at hr
  split at hr
  · cases hr
  rename_i hc
  simp only [Bool.or_eq_true, beq_iff_eq, not_or] at hc
  obtain ⟨hij, hio⟩ := hc
  have hio : MP.isIo (E.getD i none) = false := by simpa using hio
  split at hr
  · rename_i d hE
    obtain ⟨E1, h1, h2⟩ := Option.map_eq_some_iff.mp hr
    cases h2
    obtain ⟨hi, rfl⟩ := setV_some h1
    rw [List.length_set] at hi
    obtain ⟨v, hσ, rv⟩ := ok.rep j _ d hE (by decide)
    have hjo : MP.isIo (E.getD j none) = false := by
      rw [List.getD_eq_getElem?_getD, hE]
      rfl
    obtain ⟨ok1, hio1, hb⟩ := ok.drop j hjo
    have hio2 : MP.isIo ((E.set j none).getD i none) = false := getD_set_io rfl hio
    have hw : NoW (E.set j none) Fm pa (Fm j) := fun a ha w => by
      rcases w with ⟨m, d', hm, hma⟩ | ⟨hp, rfl⟩
      · obtain ⟨e, hm⟩ := hb hm
        exact ok.dis m d' hm j _ d (Ne.symm e) hE (by decide) a hma ha
      · rw [hio1] at hp
        exact ok.pno hp j _ d hE (by decide) ha
    refine ⟨v, hσ, hd _ _ (fput Fm i (Fm j)) pa ⟨ok1.put (k := Kd.own) (by rw [List.length_set]; exact hi) hio2 (by decide) rv hw fun _ m k' d' _ hm hk a ha hma => ?_, Frm.refl, fun _ z => z, fun a z => ?_, fun a z => ?_, fun _ => ⟨rfl, fun z => ?_⟩⟩⟩
    · obtain ⟨e, hm⟩ := hb hm
      exact ok.dis j d hE m k' d' e hm hk a ha hma
    · rcases put_wr (by rw [List.length_set]; exact hi) hio2 (by decide) z with z | ⟨_, z⟩
      · rcases z with ⟨m, d', hm, hma⟩ | z
        · exact .inl (.inl ⟨m, d', (hb hm).2, hma⟩)
        · rw [Pw_eq hio1] at z
          exact .inl (.inr z)
      · exact .inl (.inl ⟨j, d, hE, z⟩)
    · rcases put_mk (by rw [List.length_set]; exact hi) z with z | ⟨_, z⟩
      · obtain ⟨m, k', d', hm, hs, hma⟩ := z
        exact .inl ⟨m, k', d', (hb hm).2, hs, hma⟩
      · exact .inl ⟨j, _, d, hE, rfl, z⟩
    · rw [hasIo_put hio2 rfl, hio1]
      exact z
  · cases hr
theorem pot_imp {i : Nat} {e : Ex} (h : exTS K iop (rs cl iop (.pot i e)) D σ H) : tAsg (exTE K cl e) (gName i) D σ H := by
  obtain ⟨E, P, Fm, pa, r, ok, hr, hd⟩ := h
  unfold rs at hr
  split at hr
  · cases hr
  rename_i hiop
  have hiop : iop = false := by simpa using hiop
  cases e1 : ev cl e E P with
  | none => rw [e1] at hr; cases hr
  | some y =>
    obtain ⟨d, P1⟩ := y
    rw [e1] at hr
    dsimp only at hr
    split at hr
    · rename_i hc
      rw [Bool.and_eq_true] at hc
      split at hr
      · cases hr
      · rename_i hn
        have hn : hasIo (E.set i none) = false := by simpa using hn
        obtain ⟨E1, h1, h2⟩ := Option.map_eq_some_iff.mp hr
        cases h2
        obtain ⟨hi, rfl⟩ := setV_some h1
        refine ⟨E, P, Fm, pa, d, P1, ok, e1, fun v H1 F p => ?_⟩
        obtain ⟨r, nw⟩ := p.fs hc.1
        match d, hc.2, r with
        | .list ds, hl, r =>
          obtain ⟨q, vs, G, rfl, hF, hq, rr⟩ := r.ownL rfl
          obtain ⟨_, rr'⟩ := RpL.imm true ds rr (show immL ds = true from hl)
          have hqn : H q = none := nw q (by rw [hF]; exact List.mem_cons_self)
          have ok1 := p.p.env ok
          have hs := fun j => set_get (x := some (Kd.io, PyData.none)) hi j
          have hs0 := fun j => set_get (E := E) (x := none) hi j
          have nio : ∀ (j : Nat) (d : PyData), j ≠ i → E[j]? ≠ some (some (Kd.io, d)) := fun j d hj hE => by
            have := hasIo_iff.mpr ⟨j, d, (by rw [hs0, if_neg hj]; exact hE : (E.set i none)[j]? = some (some (Kd.io, d)))⟩
            rw [hn] at this
            cases this
          have hb : ∀ {j : Nat} {k : Kd} {d : PyData}, (E.set i (some (Kd.io, PyData.none)))[j]? = some (some (k, d)) → k ≠ Kd.io → j ≠ i ∧ E[j]? = some (some (k, d)) := by
            intro j k d h hk
            rw [hs] at h
            by_cases e : j = i
            · rw [if_pos e] at h
              cases h
              exact absurd rfl hk
            · rw [if_neg e] at h
              exact ⟨e, h⟩
          have hσ : i < σ.length := by rw [ok.len]; exact hi
          refine hd _ _ Fm q ⟨⟨by rw [List.length_set, List.length_set]; exact ok.len, fun j k d h hk => ?_, fun j d h j' k' d' hjj h' hk' => ok.dis j d (hb h (by decide)).2 j' k' d' hjj (hb h' hk').2 hk', fun j d h => ?_, fun _ => ⟨vs, ds, hq, rr', rfl, hl⟩, fun _ j k d h hk m => ?_⟩, p.p.fr.mono fun _ _ _ z => .inr z, fun _ z => p.p.dom z, fun a z => ?_, fun a z => ?_, fun z => by rw [hiop] at z; cases z⟩
          · obtain ⟨e, h⟩ := hb h hk
            rw [List.getElem?_set_ne (Ne.symm e)]
            exact ok1.rep j k d h hk
          · by_cases e : j = i
            · rw [e, List.getElem?_set_self hσ]
            · rw [hs, if_neg e] at h
              exact absurd h (nio j d e)
          · obtain ⟨e, h⟩ := hb h hk
            obtain ⟨xs, e⟩ := ok.inH h hk m
            rw [hqn] at e
            cases e
          · rcases z with ⟨j, d', hj, hja⟩ | ⟨_, rfl⟩
            · exact .inl (.inl ⟨j, d', (hb hj (by decide)).2, hja⟩)
            · exact .inr hqn
          · obtain ⟨j, k', d', hj, hs', hja⟩ := z
            exact .inl ⟨j, k', d', (hb hj (by rintro rfl; cases hs')).2, hs', hja⟩
    · cases hr
theorem asgD_fresh {E E1 : Env} {i : Nat} {e : Ex} {d : PyData} (h : asgD E i e d = some E1) (hf : (imm d || frs e d) = true) : i < E.length ∧ MP.isIo (E.getD i none) = false ∧ ∃ k, k ≠ Kd.io ∧ E1 = E.set i (some (k, d)) ∧ (k = Kd.ro ∧ imm d = true ∨ k = Kd.own ∧ frs e d = true) := by
  unfold asgD at h
  split at h
  · cases h
  rename_i hio
  have hio : MP.isIo (E.getD i none) = false := by simpa using hio
  split at h
  · rename_i hm
    obtain ⟨hi, rfl⟩ := setV_some h
    exact ⟨hi, hio, _, by decide, rfl, .inl ⟨rfl, hm⟩⟩
  · rename_i hm
    split at h
    · rename_i hf
      obtain ⟨hi, rfl⟩ := setV_some h
      exact ⟨hi, hio, _, by decide, rfl, .inr ⟨rfl, hf⟩⟩
    · rename_i hf'
      rw [Bool.or_eq_true] at hf
      exact absurd hf (by simp [hm, hf'])
/-- a value that is plain or new, as it will be kept -/
theorem fresh_rp {E : Env} {Fm : Nat → List Addr} {pa : Addr} {l : List Nat} {e : Ex} {d : PyData} {v : V} {F : List Addr} {P' : PyData} {H' H2 : Hp} {k : Kd} (x : XPost K E Fm pa l (frs e d) H v d F P' H') (fx : Fx F H' H2) (hk : k = Kd.ro ∧ imm d = true ∨ k = Kd.own ∧ frs e d = true) :
    ∃ G, Rp K (strK k) H2 v d G ∧ (∀ a ∈ G, H a = none) ∧ ∀ a ∈ G, H' a ≠ none := by
  rcases hk with ⟨rfl, h⟩ | ⟨rfl, h⟩
  · exact ⟨[], (Rp.imm false d (Rp.fx d x.rp fx) h).2, fun _ m => (nomatch m), fun _ m => nomatch m⟩
  · obtain ⟨r, hn⟩ := x.fs h
    exact ⟨F, Rp.fx d r fx, hn, fun a ha z => by
      obtain ⟨xs, e⟩ := Rp.at d r a ha
      rw [z] at e
      cases e⟩
theorem par_core {i j : Nat} {a b : Ex} (h : exTS K iop (rs cl iop (.par i j a b)) D σ H) : exTE K cl a σ H fun v H1 => exTE K cl b σ H1 fun w H2 => ∀ H3, Ext H2 H3 → D.nx ((σ.set i (some v)).set j (some w)) H3 := by
  obtain ⟨E, P, Fm, pa, r, ok, hr, hd⟩ := h
  unfold rs at hr
  cases e1 : ev cl a E P with
  | none => rw [e1] at hr; cases hr
  | some y =>
    obtain ⟨x, P1⟩ := y
    rw [e1] at hr
    dsimp only at hr
    cases e2 : ev cl b E P1 with
    | none => rw [e2] at hr; cases hr
    | some z =>
      obtain ⟨y, P2⟩ := z
      rw [e2] at hr
      dsimp only at hr
      split at hr
      · cases hr
      rename_i hij
      have hij : i ≠ j := by simpa using hij
      split at hr
      · rename_i hc
        rw [Bool.and_eq_true] at hc
        obtain ⟨E1, h1, h2⟩ := Option.bind_eq_some_iff.mp hr
        obtain ⟨E2, h3, h4⟩ := Option.map_eq_some_iff.mp h2
        cases h4
        obtain ⟨hi, hio, k1, hk1, rfl, c1⟩ := asgD_fresh h1 hc.1
        obtain ⟨hj, hjo, k2, hk2, rfl, c2⟩ := asgD_fresh h3 hc.2
        refine one_then ok e1 fun v H1 F1 p1 ok1 => one_then ok1 e2 fun w H2 F2 p2 ok2 => fun H3 x3 => ?_
        have fx1 : Fx F1 H1 H3 := (p1.pv.fx ok p2.p).trans x3.fx
        obtain ⟨G1, r1, n1, s1⟩ := fresh_rp p1 fx1 c1
        obtain ⟨G2, r2, n2, s2⟩ := fresh_rp p2 x3.fx c2
        have ok3 : EnvOk K E P2 σ H3 Fm pa := ok2.keep x3.frm fun z => (ok2.pot z).keep x3
        have hn2 : ∀ a ∈ G2, H a = none := fun a ha => p1.p.dom (n2 a ha)
        have w1 : NoW E Fm pa G1 := fun a ha z => wr_in ok z (n1 a ha)
        have o1 := ok3.put (k := k1) hi hio hk1 r1 w1 fun _ m k' d' _ hm hk' a ha hma => by
          obtain ⟨xs, e⟩ := ok.inH hm hk' hma
          rw [n1 a ha] at e
          cases e
        have w2 : NoW (E.set i (some (k1, x))) (fput Fm i G1) pa G2 := fun a ha z => by
          rcases put_wr hi hio hk1 z with z | ⟨_, z⟩
          · exact wr_in ok z (hn2 a ha)
          · exact s1 a z (n2 a ha)
        have o2 := o1.put (k := k2) hj hjo hk2 r2 w2 fun _ m k' d' _ hm hk' a ha hma => by
          unfold fput at hma
          by_cases e : m = i
          · rw [if_pos e] at hma
            exact s1 a hma (n2 a ha)
          · rw [if_neg e] at hma
            rw [set_get hi, if_neg e] at hm
            obtain ⟨xs, e⟩ := ok.inH hm hk' hma
            rw [hn2 a ha] at e
            cases e
        have sp := ((p1.p.trans p2.p).ext x3).sp (iop := iop) ok
        refine hd _ _ _ _ ⟨o2, sp.fr, sp.dm, fun a z => ?_, fun a z => ?_, fun _ => ⟨rfl, fun z => ?_⟩⟩
        · rcases put_wr hj hjo hk2 z with z | ⟨_, z⟩
          · rcases put_wr hi hio hk1 z with z | ⟨_, z⟩
            · exact .inl z
            · exact .inr (n1 a z)
          · exact .inr (hn2 a z)
        · rcases put_mk hj z with z | ⟨_, z⟩
          · rcases put_mk hi z with z | ⟨_, z⟩
            · exact .inl z
            · exact .inr (n1 a z)
          · exact .inr (hn2 a z)
        · rw [hasIo_put hjo (isIo_kd hk2), hasIo_put hio (isIo_kd hk1)]
          exact z
      · cases hr
theorem exTE_mono {e : Ex} {Q Q' : VK} (h : exTE K cl e σ H Q) (hi : ∀ v H, Q v H → Q' v H) : exTE K cl e σ H Q' := by
  obtain ⟨E, P, Fm, pa, d, P', ok, he, hq⟩ := h
  exact ⟨E, P, Fm, pa, d, P', ok, he, fun v H' F p => hi v H' (hq v H' F p)⟩
theorem par_imp1 {i j : Nat} {a b : Ex} (h : exTS K iop (rs cl iop (.par i j a b)) D σ H) : tPar i j (tCons (exTE K cl a) (tCons (exTE K cl b) tNil)) D σ H :=
  exTE_mono (par_core h) fun v H1 h => exTE_mono h fun w H2 h => ⟨v, w, rfl, h H2 Ext.refl⟩
theorem par_imp2 {i j : Nat} {a b : Ex} (h : exTS K iop (rs cl iop (.par i j a b)) D σ H) : tAsg (tTup (tCons (exTE K cl a) (tCons (exTE K cl b) tNil))) (gTup K 2 (gCons (gName i) (gCons (gName j) gNil))) D σ H :=
  exTE_mono (par_core h) fun v H1 h => exTE_mono h fun w H2 h => ⟨by show 2 ≤ sizeLine; decide, fun p hp => ⟨p, [v, w], rfl, .inl (.inl upd_same), rfl, v, [w], rfl, w, [], rfl, rfl, h _ (Ext.new hp)⟩⟩
end
end MP
set_option Elab.async false
set_option linter.all false
set_option maxRecDepth 100000
/-! The check of statements, and that it is sound. -/
namespace MP
open PySem PySem.Spec PyProof.Rows L2

/-- a comprehension is stored at once -/
def swB (sc : Scope) (x : Str) (p : Pos) : Expr → Bool
  | .ListComp _ _ s lp => decide (sc.names.lookup x = some .local) && (p.line == lp.line && !(s.names.any fun (n, k) => n == x && (k == .local || k == .cell)))
  | _ => false
def noSD : Expr → Bool
  | .SetComp _ _ _ _ => false
  | .DictComp _ _ _ _ _ => false
  | _ => true
def noTup : Expr → Bool
  | .Tuple _ _ _ => false
  | _ => true
/-- how a pair is stored: some true swapped, some false by the tuple -/
def parB (sc : Scope) (x y : Str) (p q : Pos) (v w : Expr) : Option Bool :=
  if decide (sc.names.lookup x = some .local) && (decide (sc.names.lookup y = some .local) && (q.line == p.line)) then
    if foldedForSure 8 v && foldedForSure 8 w then some false else if constantsAlone 8 v && constantsAlone 8 w then none else some true
  else some false
mutual
def chkS (C : Cfg) (N : List Str) : Nat → Scope → St → Stmt → Bool
  | 0, _, _, _ => false
  | f + 1, sc, m, s => match m, s with
    | .asg i e, .Assign [.Name x p] v _ => decide (N[i]? = some x) && (locB sc x && (noSD v && chkE C N f sc e v))
    | .pot i e, .Assign [.Name x p] v _ => decide (N[i]? = some x) && (locB sc x && (noLc v && chkE C N f sc e v))
    | .mov i j, .Assign [.Name x _] (.Name y _) _ => decide (N[i]? = some x) && (locB sc x && (decide (N[j]? = some y) && (visB sc y && nmB y)))
    | .unp ts e, .Assign [.Tuple es _ _] v _ => chkGs N sc ts es && (noTup v && (noSD v && chkE C N f sc e v))
    | .par i j a b, .Assign [.Tuple [.Name x p, .Name y q] _ _] (.Tuple [v, w] _ _) _ => decide (N[i]? = some x) && (decide (N[j]? = some y) && (locB sc x && (locB sc y && (!(decide (i = j)) && (noStar v && (noStar w && ((parB sc x y p q v w).isSome && (chkE C N f sc a v && chkE C N f sc b w))))))))
    | .sub o k v, .Assign [.Subscript (.Name x _) ix _] val _ => decide (N[o]? = some x) && (visB sc x && (nmB x && (noSlice ix && (noSD val && (chkE C N f sc v val && chkE C N f sc k ix)))))
    | .app o e, .Expr (.Call (.Attribute (.Name x _) at' ap) [v] [] cp) _ => decide (N[o]? = some x) && (visB sc x && (nmB x && (decide (at' = ("append" : Str)) && ((ap.endLine == cp.line) && (noStar v && chkE C N f sc e v)))))
    | .ifs c a b, .If t x y _ => chkT C N f sc c t && (chkSs C N f sc a x && chkSs C N f sc b y)
    | .for t it body, .For tg iter bd [] _ => tgtB it tg && (noSet iter && (chkG N sc t tg && (chkI C N f sc it iter && chkSs C N f sc body bd)))
    | .while _ c body, .While t bd [] _ => chkT C N f sc c t && chkSs C N f sc body bd
    | .expr e, .Expr v _ => noLc v && chkE C N f sc e v
    | .ret e, .Return (some v) _ => chkE C N f sc e v
    | .brk, .Break _ => true
    | .never, _ => true
    | _, _ => false
def chkSs (C : Cfg) (N : List Str) : Nat → Scope → Sts → List Stmt → Bool
  | 0, _, _, _ => false
  | f + 1, sc, m, ss => match m, ss with
    | .nil, [] => true
    | .cons s r, t :: ts => chkS C N f sc s t && chkSs C N f sc r ts
    | _, _ => false
end
section
variable {X : Cx} {C : Cfg} {N : List Str} {cl : Cl} {n : Nat} {sc osc : Scope} {iop : Bool}
theorem sw_plain {v : Expr} {t : Option Expr} {l : Nat} {env : PySem.Env} (h : noLc v = true) : swapsWith v t l env = pure false := by
  cases v <;> first | rfl | exact absurd h Bool.false_ne_true
theorem sw_false {elt : Expr} {gs : List Comprehension} {scope : Scope} {pos py : Pos} {y : Str} {l : Nat} {env : PySem.Env} (hk : env.scope.kind = .function)
    (hb : swB env.scope y py (.ListComp elt gs scope pos) = false) : swapsWith (.ListComp elt gs scope pos) (some (.Name y py)) l env = pure false := by
  have hb' : env.blockKind = .function := by unfold PySem.Env.blockKind; rw [hk]; rfl
  unfold swapsWith
  show (pure (env.blockKind == .function && env.kindOf y == some .local && py.line == pos.line && !(scope.names.any fun (n, k) => n == y && (k == .local || k == .cell))) : Sem Bool) = pure false
  congr 1
  unfold swB at hb
  rw [hb']
  have e : (env.kindOf y == some NameKind.local) = decide (env.scope.names.lookup y = some .local) := by
    show (env.scope.names.lookup y == some NameKind.local) = _
    rw [Bool.eq_iff_iff, beq_iff_eq, decide_eq_true_eq]
  rw [e]
  simp only [Bool.and_assoc]
  rw [show ((ScopeKind.function == ScopeKind.function) = true) from by decide, Bool.true_and]
  exact hb
theorem sole_nontarget {v : Expr} {t : Expr} {l : Nat} {env : PySem.Env} (h : noSD v = true) (ht : ∀ x p, t ≠ .Name x p) : swapsWithSole [t] v l env = pure false := by
  show swapsWith v (some t) l env = pure false
  cases v <;> first
    | rfl
    | exact absurd h Bool.false_ne_true
    | skip
  cases t <;> first
    | rfl
    | exact absurd rfl (ht _ _)
theorem nodup_ne {i j : Nat} {x y : Str} (hn : N.Nodup) (hi : N[i]? = some x) (hj : N[j]? = some y) (hij : i ≠ j) : x ≠ y := by
  rintro rfl
  exact hij (nodup_ix hn hi hj)
theorem fm2_len {α β : Type} {g : α → Option β} {a b : α} (h : ([a, b].filterMap g).length = 2) : g a ≠ none ∧ g b ≠ none := by
  rw [List.filterMap_cons, List.filterMap_cons, List.filterMap_nil] at h
  cases ha : g a with
  | none =>
    rw [ha] at h
    cases hb : g b with
    | none => rw [hb] at h; simp at h
    | some y => rw [hb] at h; simp at h
  | some x =>
    rw [ha] at h
    cases hb : g b with
    | none => rw [hb] at h; simp at h
    | some y => exact ⟨fun z => (nomatch z), fun z => nomatch z⟩
theorem fm2_some {α β : Type} {g : α → Option β} {a b : α} {x y : β} (ha : g a = some x) (hb : g b = some y) : [a, b].filterMap g = [x, y] := by
  rw [List.filterMap_cons, List.filterMap_cons, List.filterMap_nil, ha, hb]
theorem par_some {x y : Str} {p q pt pt2 : Pos} {k k2 : Nat} {v w : Expr} {env : PySem.Env} (hk : env.scope.kind = .function) (hxy : x ≠ y) (hv : noStar v = true) (hw : noStar w = true) (h : parB env.scope x y p q v w = some true) :
    env.scope.names.lookup x = some .local ∧ env.scope.names.lookup y = some .local ∧ swappedStores [.Tuple [.Name x p, .Name y q] k pt] (.Tuple [v, w] k2 pt2) env = pure (some [x, y]) := by
  unfold parB at h
  split at h
  · rename_i hc
    simp only [Bool.and_eq_true, decide_eq_true_eq] at hc
    obtain ⟨h1, h2, h3⟩ := hc
    split at h
    · cases h
    rename_i hf
    split at h
    · cases h
    rename_i hcn
    refine ⟨h1, h2, ?_⟩
    have hb' : env.blockKind = .function := by unfold PySem.Env.blockKind; rw [hk]; rfl
    have k1 : env.kindOf x = some .local := h1
    have k2' : env.kindOf y = some .local := h2
    have hst : ([v, w].any fun | .Starred .. => true | _ => false) = false := by
      cases v <;> cases w <;> first | rfl | exact absurd hv Bool.false_ne_true | exact absurd hw Bool.false_ne_true
    have hf' : [v, w].all (foldedForSure 8) = false := by simpa using hf
    have hcn' : [v, w].all (constantsAlone 8) = false := by simpa using hcn
    have hd : [x, y].eraseDups.length = 2 := by
      have : (y == x) = false := by simpa using fun z : y = x => hxy z.symm
      simp [List.eraseDups_cons, this]
    unfold swappedStores
    simp only [pure_bind]
    show (if (!([Expr.Name x p, Expr.Name y q].length == 2 || [Expr.Name x p, Expr.Name y q].length == 3) || [v, w].length != [Expr.Name x p, Expr.Name y q].length || env.blockKind != .function) = true then pure none else _) = _
    generalize hg : List.filterMap _ [Expr.Name x p, Expr.Name y q] = names
    have e : names = [x, y] := by
      rw [← hg]
      refine fm2_some ?_ ?_
      · show (if (env.kindOf x == some NameKind.local && p.line == p.line) = true then some x else none) = some x
        rw [k1, beq_self_eq_true p.line]
        rfl
      · show (if (env.kindOf y == some NameKind.local && q.line == p.line) = true then some y else none) = some y
        rw [k2', h3]
        rfl
    subst e
    rw [hd, if_neg (by rw [hb']; simp)]
    rw [if_neg (by rw [Bool.not_eq_true]; exact hst)]
    rw [if_neg (by simp), hf', hcn']
    rfl
  · cases h
theorem par_none {x y : Str} {p q pt pt2 : Pos} {k k2 : Nat} {v w : Expr} {env : PySem.Env} (hv : noStar v = true) (hw : noStar w = true) (h : parB env.scope x y p q v w = some false) :
    swappedStores [.Tuple [.Name x p, .Name y q] k pt] (.Tuple [v, w] k2 pt2) env = pure none := by
  have hst : ([v, w].any fun | .Starred .. => true | _ => false) = false := by
    cases v <;> cases w <;> first | rfl | exact absurd hv Bool.false_ne_true | exact absurd hw Bool.false_ne_true
  unfold parB at h
  unfold swappedStores
  simp only [pure_bind]
  show (if (!([Expr.Name x p, Expr.Name y q].length == 2 || [Expr.Name x p, Expr.Name y q].length == 3) || [v, w].length != [Expr.Name x p, Expr.Name y q].length || env.blockKind != .function) = true then pure none else _) = _
  split
  · rfl
  rw [if_neg (by rw [Bool.not_eq_true]; exact hst)]
  generalize hg : List.filterMap _ [Expr.Name x p, Expr.Name y q] = names
  split at h
  · split at h
    · rename_i hf
      have hf' : [v, w].all (foldedForSure 8) = true := by simpa using hf
      rw [hf']
      split <;> rfl
    · split at h <;> cases h
  · rename_i hc
    have e : names.length ≠ 2 := by
      intro hl
      apply hc
      rw [← hg] at hl
      have kx : (if (env.kindOf x == some NameKind.local && p.line == p.line) = true then some x else none) ≠ none ∧ (if (env.kindOf y == some NameKind.local && q.line == p.line) = true then some y else none) ≠ none := fm2_len hl
      obtain ⟨k1, k2⟩ := kx
      have e1 : (env.kindOf x == some NameKind.local && p.line == p.line) = true := by
        cases hz : (env.kindOf x == some NameKind.local && p.line == p.line) with
        | true => rfl
        | false => rw [hz] at k1; exact absurd rfl k1
      have e2 : (env.kindOf y == some NameKind.local && q.line == p.line) = true := by
        cases hz : (env.kindOf y == some NameKind.local && q.line == p.line) with
        | true => rfl
        | false => rw [hz] at k2; exact absurd rfl k2
      rw [Bool.and_eq_true, beq_iff_eq] at e1 e2
      simp only [Bool.and_eq_true, decide_eq_true_eq]
      exact ⟨e1.1, e2.1, e2.2⟩
    rw [if_pos]
    rw [Bool.or_eq_true]
    exact .inl (by simpa using e)
/-! ### every statement -/
theorem lc_shape {f : Nat} {m : Ex} {x : Expr} {gs : List Comprehension} {scope : Scope} {p : Pos} (h : chkE C N f sc m (.ListComp x gs scope p) = true) :
    ∃ g elt tg it cond own t iter ifs, f = g + 1 ∧ m = .lc elt tg it cond own ∧ gs = [⟨t, iter, ifs, 0⟩] ∧ tgIn tg own = true ∧ noSet iter = true ∧ tgtB it t = true ∧ chkI C N g sc it iter = true ∧ blkC N sc scope (ownL N own) = true ∧ chkG N scope tg t = true ∧ chkE C N g (relS scope sc) elt x = true ∧ chkO C N g (relS scope sc) cond ifs = true := by
  cases f with
  | zero =>
    unfold chkE at h
    cases h
  | succ f =>
    unfold chkE at h
    split at h
    all_goals first
      | contradiction
      | skip
    rename_i heq
    cases heq
    obtain ⟨h0, h⟩ := and2 h
    obtain ⟨h1, h⟩ := and2 h
    obtain ⟨h2, h⟩ := and2 h
    obtain ⟨h3, h⟩ := and2 h
    obtain ⟨h4, h⟩ := and2 h
    obtain ⟨h5, h⟩ := and2 h
    obtain ⟨h6, h7⟩ := and2 h
    exact ⟨f, _, _, _, _, _, _, _, _, rfl, rfl, rfl, h0, h1, h2, h3, h4, h5, h6, h7⟩
theorem loc_of {x : Str} (h : locB sc x = true) : Loc sc x := by
  unfold locB at h
  split at h
  · rename_i e; exact .inl e
  · rename_i e; exact .inr e
  · cases h
theorem ps_asgM (G : GoodX C N cl n X sc sc) {f : Nat} {i : Nat} {e : Ex} {x : Str} {p pos : Pos} {v : Expr} (hN : N[i]? = some x) (hl : locB sc x = true) (hv : noSD v = true) (h : chkE C N f sc e v = true) :
    PS X (.Assign [.Name x p] v pos) (tAsg (exTE X.K cl e) (gName i)) := by
  have pe := (claims f X sc sc G).e _ _ h
  have hN' : X.N[i]? = some x := by rw [G.eN]; exact hN
  have hnd : X.N.Nodup := by rw [G.eN]; exact G.nd
  obtain ⟨o1, o2⟩ := G.own x hl
  have hk : X.env.scope.kind = .function := by rw [G.scp]; exact G.kind
  by_cases hc : noLc v = true
  · exact ps_set hnd hN' o1 pe (sw_plain hc) o2
  · cases v <;> first
      | exact absurd rfl hc
      | exact absurd hv Bool.false_ne_true
      | skip
    rename_i elt gs scope lp
    cases hb : swB X.env.scope x p (.ListComp elt gs scope lp) with
    | false => exact ps_set hnd hN' o1 pe (sw_false hk hb) o2
    | true =>
      obtain ⟨g, elt', tg, it, cond, own, t, iter, ifs, rfl, rfl, rfl, h0, h1, h2, h3, h4, h5, h6, h7⟩ := lc_shape h
      unfold swB at hb
      rw [Bool.and_eq_true, Bool.and_eq_true, decide_eq_true_eq] at hb
      refine ps_lcM G hN (by rw [← G.scp]; exact hb.1) (sw_true hk hb.1 hb.2.1 (by simpa using hb.2.2)) h0 h1 h4 ((claims g X sc sc G).i _ _ _ h2 h3) (fun X' hK G' => ?_) (fun X' hK G' => ?_) fun X' hK G' => ?_
      · rw [← hK]
        exact pg_sound G' _ _ h5
      · rw [← hK]
        exact (claims g X' _ _ G').o _ _ h7
      · rw [← hK]
        exact (claims g X' _ _ G').e _ _ h6
theorem ps_parM (G : GoodX C N cl n X sc sc) {f : Nat} {i j : Nat} {a b : Ex} {x y : Str} {p q pt pt2 pos : Pos} {k k2 : Nat} {v w : Expr} (hi : N[i]? = some x) (hj : N[j]? = some y) (hx : locB sc x = true) (hy : locB sc y = true) (hij : i ≠ j)
    (hv : noStar v = true) (hw : noStar w = true) (hp : (parB sc x y p q v w).isSome = true) (ha : chkE C N f sc a v = true) (hb : chkE C N f sc b w = true) :
    PS X (.Assign [.Tuple [.Name x p, .Name y q] k pt] (.Tuple [v, w] k2 pt2) pos) (exTS X.K iop (rs cl iop (.par i j a b))) := by
  have pa := (claims f X sc sc G).e _ _ ha
  have pb := (claims f X sc sc G).e _ _ hb
  have hi' : X.N[i]? = some x := by rw [G.eN]; exact hi
  have hj' : X.N[j]? = some y := by rw [G.eN]; exact hj
  have hnd : X.N.Nodup := by rw [G.eN]; exact G.nd
  have hk : X.env.scope.kind = .function := by rw [G.scp]; exact G.kind
  have PAs : PA X [v, w] (tCons (exTE X.K cl a) (tCons (exTE X.K cl b) tNil)) := pa_cons pa (pa_cons pb pa_nil (star_cons hw)) (star_cons hv)
  rw [← G.scp] at hp
  cases hz : parB X.env.scope x y p q v w with
  | none => rw [hz] at hp; cases hp
  | some z =>
    cases z with
    | true =>
      obtain ⟨l1, l2, hs⟩ := par_some (k := k) (pt := pt) (k2 := k2) (pt2 := pt2) hk (nodup_ne G.nd hi hj hij) hv hw hz
      exact PS.imp (ps_par G.calm hnd hi' hj' hij l1 l2 PAs hs) fun D σ H h => par_imp1 h
    | false =>
      have hs := par_none (env := X.env) (k := k) (pt := pt) (k2 := k2) (pt2 := pt2) hv hw hz
      obtain ⟨o1, o2⟩ := G.own x hx
      obtain ⟨o3, o4⟩ := G.own y hy
      exact PS.imp (ps_asg (pe_tup PAs) (pg_tup (n := 2) G.calm (pgs_cons (pg_name hnd hi' o1 o2) (pgs_cons (pg_name hnd hj' o3 o4) pgs_nil))) (sole_nontarget rfl fun x p z => (by cases z)) hs) fun D σ H h => par_imp2 h
theorem ps_subM (G : GoodX C N cl n X sc sc) {f : Nat} {o : Nat} {k v : Ex} {x : Str} {p p2 pos : Pos} {ix val : Expr} (hN : N[o]? = some x) (hv : visB sc x = true) (hm : nmB x = true) (hs : noSlice ix = true) (hd : noSD val = true)
    (h1 : chkE C N f sc v val = true) (h2 : chkE C N f sc k ix = true) : PS X (.Assign [.Subscript (.Name x p) ix p2] val pos) (exTS X.K iop (rs cl iop (.sub o k v))) := by
  have c := claims f X sc sc G
  refine PS.imp (ps_asg (c.e _ _ h1) (pg_sub (pe_varT G hN hv hm) (c.e _ _ h2) set_list ?_) (sole_nontarget hd fun x p z => by cases z)) fun D σ H h => sub_imp h
  intro v
  cases ix <;> first
    | rfl
    | exact absurd hs Bool.false_ne_true
theorem ps_appM (G : GoodX C N cl n X sc sc) {f : Nat} {o : Nat} {e : Ex} {x : Str} {p ap cp pos : Pos} {v : Expr} (hN : N[o]? = some x) (hv : visB sc x = true) (hm : nmB x = true) (hl : (ap.endLine == cp.line) = true) (hs : noStar v = true)
    (h1 : chkE C N f sc e v = true) : PS X (.Expr (.Call (.Attribute (.Name x p) "append" ap) [v] [] cp) pos) (exTS X.K iop (rs cl iop (.app o e))) := by
  have c := claims f X sc sc G
  refine PS.imp (ps_expr (pe_bm PySem.F.plainAttrs_list PySem.F.slot_list_append PySem.F.type_list_append mt_append (pe_varT G hN hv hm) (pa_cons (c.e _ _ h1) pa_nil (star_cons hs)) rfl ?_ hl (star_cons hs) rfl)) fun D σ H h => app_imp h
  rw [star_cons hs]
  rfl
theorem sw_notTup {es : List Expr} {k : Nat} {p : Pos} {v : Expr} {env : PySem.Env} (h : noTup v = true) : swappedStores [.Tuple es k p] v env = pure none := by
  cases v <;> first | rfl | exact absurd h Bool.false_ne_true
theorem ssnd (G : GoodX C N cl n X sc sc) : ∀ (f : Nat), (∀ m s, chkS C N f sc m s = true → PS X s (exTS X.K iop (rs cl iop m))) ∧ (∀ m ss, chkSs C N f sc m ss = true → PSs X ss (exTS X.K iop (rss cl iop m)))
  | 0 => ⟨fun m s h => by (unfold chkS at h; cases h), fun m s h => by (unfold chkSs at h; cases h)⟩
  | f + 1 => by
    obtain ⟨ih1, ih2⟩ := ssnd G f
    have c := claims f X sc sc G
    have hp : PassesOwn (model X.prog X.w) X.A X.env X.xe := by
      rw [G.xe]
      exact PassesOwn.never
    refine ⟨fun m s h => ?_, fun m ss h => ?_⟩
    · unfold chkS at h
      split at h
      · obtain ⟨h1, h⟩ := and2 h
        obtain ⟨h2, h⟩ := and2 h
        obtain ⟨h3, h4⟩ := and2 h
        exact PS.imp (ps_asgM G (of_decide_eq_true h1) h2 h3 h4) fun D σ H h => asg_imp h
      · obtain ⟨h1, h⟩ := and2 h
        obtain ⟨h2, h⟩ := and2 h
        obtain ⟨h3, h4⟩ := and2 h
        obtain ⟨o1, o2⟩ := G.own _ h2
        exact PS.imp (ps_set (by rw [G.eN]; exact G.nd) (by rw [G.eN]; exact of_decide_eq_true h1) o1 (c.e _ _ h4) (sw_plain h3) o2) fun D σ H h => pot_imp h
      · obtain ⟨h1, h⟩ := and2 h
        obtain ⟨h2, h⟩ := and2 h
        obtain ⟨h3, h⟩ := and2 h
        obtain ⟨h4, h5⟩ := and2 h
        obtain ⟨o1, o2⟩ := G.own _ h2
        exact PS.imp (ps_set (by rw [G.eN]; exact G.nd) (by rw [G.eN]; exact of_decide_eq_true h1) o1 (pe_varT G (of_decide_eq_true h3) h4 h5) (sw_plain rfl) o2) fun D σ H h => mov_imp h
      · obtain ⟨h1, h⟩ := and2 h
        obtain ⟨h2, h⟩ := and2 h
        obtain ⟨h3, h4⟩ := and2 h
        obtain ⟨hs, hl, hst⟩ := pgs_sound G _ _ h1
        refine PS.imp (ps_asg (c.e _ _ h4) (pg_tup G.calm hs hl hst) (sole_nontarget h3 fun x p z => (by cases z)) (sw_notTup h2)) fun D σ H h => unp_imp (fun ds E E' hb => bindTs_len (X := X) (C := C) (cl := cl) (n := n) (sc := sc) hb h1) h
      · obtain ⟨h1, h⟩ := and2 h
        obtain ⟨h2, h⟩ := and2 h
        obtain ⟨h3, h⟩ := and2 h
        obtain ⟨h4, h⟩ := and2 h
        obtain ⟨h5, h⟩ := and2 h
        obtain ⟨h6, h⟩ := and2 h
        obtain ⟨h7, h⟩ := and2 h
        obtain ⟨h8, h⟩ := and2 h
        obtain ⟨h9, h10⟩ := and2 h
        exact ps_parM G (of_decide_eq_true h1) (of_decide_eq_true h2) h3 h4 (by simpa using h5) h6 h7 h8 h9 h10
      · obtain ⟨h1, h⟩ := and2 h
        obtain ⟨h2, h⟩ := and2 h
        obtain ⟨h3, h⟩ := and2 h
        obtain ⟨h4, h⟩ := and2 h
        obtain ⟨h5, h⟩ := and2 h
        obtain ⟨h6, h7⟩ := and2 h
        exact ps_subM G (of_decide_eq_true h1) h2 h3 h4 h5 h6 h7
      · obtain ⟨h1, h⟩ := and2 h
        obtain ⟨h2, h⟩ := and2 h
        obtain ⟨h3, h⟩ := and2 h
        obtain ⟨h4, h⟩ := and2 h
        obtain ⟨h5, h⟩ := and2 h
        obtain ⟨h6, h7⟩ := and2 h
        have e := of_decide_eq_true h4
        subst e
        exact ps_appM G (of_decide_eq_true h1) h2 h3 h5 h6 h7
      · obtain ⟨h1, h⟩ := and2 h
        obtain ⟨h2, h3⟩ := and2 h
        exact PS.imp (ps_if (c.t _ _ h1) (ih2 _ _ h2) (ih2 _ _ h3)) fun D σ H h => ifs_imp h
      · obtain ⟨h1, h⟩ := and2 h
        obtain ⟨h2, h⟩ := and2 h
        obtain ⟨h3, h⟩ := and2 h
        obtain ⟨h4, h5⟩ := and2 h
        exact PS.imp (ps_for hp G.calm (c.i _ _ _ h1 h4) (pg_sound G _ _ h3) (ih2 _ _ h5) (folded_pure h2)) fun D σ H h => for_imp h
      · obtain ⟨h1, h2⟩ := and2 h
        exact PS.imp (ps_while hp (c.t _ _ h1) (ih2 _ _ h2)) fun D σ H h => while_imp h
      · obtain ⟨h1, h2⟩ := and2 h
        exact PS.imp (ps_expr (c.e _ _ h2) (sw_plain h1)) fun D σ H h => expr_imp h
      · exact PS.imp (ps_ret (c.e _ _ h)) fun D σ H h => ret_imp h
      · exact PS.imp ps_break fun D σ H h => brk_imp h
      · exact PS.imp ps_never fun D σ H h => never_imp h
      · cases h
    · unfold chkSs at h
      split at h
      · exact PSs.imp pss_nil fun D σ H h => nil_imp h
      · obtain ⟨h1, h2⟩ := and2 h
        exact PSs.imp (pss_cons (ih1 _ _ h1) (ih2 _ _ h2)) fun D σ H h => cons_imp h
      · cases h
end
end MP
set_option Elab.async false
set_option linter.all false
set_option maxRecDepth 100000
/-! Defs: each keeps what our language computes. -/
namespace MP
open PySem PySem.Spec PyProof.Rows L2

theorem upTo_lt {tab : Nat → Option Fd} : ∀ {n f : Nat}, f < n → upTo tab n f = upTo tab (f + 1) f
  | 0, _, h => absurd h (Nat.not_lt_zero _)
  | n + 1, f, h => by
    by_cases e : f = n
    · rw [e]
    · have : upTo tab (n + 1) f = upTo tab n f := by
        funext as P
        show (if f = n then _ else upTo tab n f as P) = _
        rw [if_neg e]
      rw [this]
      exact upTo_lt (by omega)
theorem upTo_at {tab : Nat → Option Fd} {f : Nat} {d : Fd} (h : tab f = some d) (as : List (Option PyData)) (P : PyData) : upTo tab (f + 1) f as P = runF (upTo tab f) d as P := by
  show (if f = f then (match tab f with
    | some d => runF (upTo tab f) d as P
    | none => none) else upTo tab f f as P) = _
  rw [if_pos rfl, h]
theorem runF_inv {cl : Cl} {f : Fd} {as : List (Option PyData)} {P P' : PyData} {x : PyData} (h : runF cl f as P = some (x, P')) : as.length = f.np ∧ cntIo as = (if f.iop then 1 else 0) ∧
    (rss cl f.iop f.body (startE f.names.length as) P = some (.rt x P') ∨ ∃ E, rss cl f.iop f.body (startE f.names.length as) P = some (.nx E P') ∧ x = .none) := by
  unfold runF at h
  cases hc : (as.length == f.np && (f.np ≤ f.names.length && (cntIo as == (if f.iop then 1 else 0)))) with
  | false =>
    rw [hc, if_neg Bool.false_ne_true] at h
    cases h
  | true =>
    rw [hc, if_pos rfl] at h
    rw [Bool.and_eq_true, Bool.and_eq_true] at hc
    refine ⟨eq_of_beq hc.1, eq_of_beq hc.2.2, ?_⟩
    cases hr : rss cl f.iop f.body (startE f.names.length as) P with
    | none => rw [hr] at h; cases h
    | some r =>
      rw [hr] at h
      cases r with
      | nx E P1 =>
        cases h
        exact .inr ⟨E, rfl, rfl⟩
      | bk E P1 => cases h
      | rt d P1 =>
        cases h
        exact .inl rfl
theorem cntIo_pos : ∀ {ds : List (Option PyData)}, none ∈ ds → 0 < cntIo ds
  | none :: r, _ => by
    show 0 < cntIo r + 1
    omega
  | some d :: r, h => by
    rcases List.mem_cons.mp h with z | z
    · cases z
    · exact cntIo_pos (ds := r) z
section
variable {K : PySem.W.Frag} {H : Hp} {pa : Addr}
theorem RaL.get {t : Bool} : ∀ {vs : List V} {ds : List (Option PyData)} {F : List Addr} {i : Nat}, RaL K t H pa vs ds F →
    (∀ d, ds[i]? = some (some d) → ∃ v G, vs[i]? = some v ∧ Rp K t H v d G ∧ ∀ a ∈ G, a ∈ F) ∧ (ds[i]? = some none → vs[i]? = some (.ref pa))
  | _, _, _, i, .nil => ⟨fun d h => by simp at h, fun h => by simp at h⟩
  | _, _, _, 0, .cons (v := v) (d := d) r h => ⟨fun d' h' => by
      have e : d = d' := Option.some.inj (Option.some.inj (by simpa using h'))
      subst e
      exact ⟨v, _, rfl, r, fun a m => List.mem_append_left _ m⟩, fun h' => by simp at h'⟩
  | _, _, _, i + 1, .cons r h => ⟨fun d' h' => by
      obtain ⟨v, G, h1, h2, h3⟩ := (RaL.get (i := i) h).1 d' (by simpa using h')
      exact ⟨v, G, by simpa using h1, h2, fun a m => List.mem_append_right _ (h3 a m)⟩, fun h' => by simpa using (RaL.get (i := i) h).2 (by simpa using h')⟩
  | _, _, _, 0, .io h => ⟨fun d' h' => by simp at h', fun _ => rfl⟩
  | _, _, _, i + 1, .io h => ⟨fun d' h' => by
      obtain ⟨v, G, h1, h2, h3⟩ := (RaL.get (i := i) h).1 d' (by simpa using h')
      exact ⟨v, G, by simpa using h1, h2, h3⟩, fun h' => by simpa using (RaL.get (i := i) h).2 (by simpa using h')⟩
theorem RaL.len {t : Bool} : ∀ {vs : List V} {ds : List (Option PyData)} {F : List Addr}, RaL K t H pa vs ds F → vs.length = ds.length
  | _, _, _, .nil => rfl
  | _, _, _, .cons _ h => by rw [List.length_cons, List.length_cons, RaL.len h]
  | _, _, _, .io h => by rw [List.length_cons, List.length_cons, RaL.len h]
theorem startE_get {n i : Nat} {ds : List (Option PyData)} {k : Kd} {d : PyData} (h : (startE n ds)[i]? = some (some (k, d))) : (k = Kd.ro ∧ ds[i]? = some (some d)) ∨ (k = Kd.io ∧ ds[i]? = some none) := by
  unfold startE at h
  by_cases hi : i < ds.length
  · rw [List.getElem?_append_left (by rw [List.length_map]; exact hi), List.getElem?_map] at h
    cases e : ds[i]? with
    | none => rw [e] at h; cases h
    | some o =>
      rw [e] at h
      cases o with
      | none =>
        cases h
        exact .inr ⟨rfl, rfl⟩
      | some d' =>
        cases h
        exact .inl ⟨rfl, rfl⟩
  · rw [List.getElem?_append_right (by rw [List.length_map]; omega)] at h
    obtain ⟨_, h⟩ := List.getElem?_eq_some_iff.mp h
    rw [List.getElem_replicate] at h
    cases h
theorem start_get {N : List Str} {vs : List V} {i : Nat} {v : V} (h : vs[i]? = some v) : (L2.start N vs)[i]? = some (some v) := by
  unfold L2.start
  have hi := (List.getElem?_eq_some_iff.mp h).1
  rw [List.getElem?_append_left (by rw [List.length_map]; exact hi), List.getElem?_map, h]
  rfl
theorem start_ok {N : List Str} {vs : List V} {ds : List (Option PyData)} {F : List Addr} {P : PyData} (r : RaL K false H pa vs ds F) (hp : none ∈ ds → PotOk K H pa P ∧ pa ∉ F) :
    ∃ Fm, EnvOk K (startE N.length ds) P (L2.start N vs) H Fm pa ∧ ∀ a, ¬ Mk (startE N.length ds) Fm a := by
  have hex : ∀ i : Nat, ∃ G : List Addr, (∀ a ∈ G, a ∈ F) ∧ ∀ d, ds[i]? = some (some d) → ∃ v, vs[i]? = some v ∧ Rp K false H v d G := by
    intro i
    cases e : ds[i]? with
    | none => exact ⟨[], fun _ m => (nomatch m), fun d h => by cases h⟩
    | some o =>
      cases o with
      | none => exact ⟨[], fun _ m => (nomatch m), fun d h => by cases h⟩
      | some d =>
        obtain ⟨v, G, h1, h2, h3⟩ := (r.get (i := i)).1 d e
        exact ⟨G, h3, fun d' h => by cases h; exact ⟨v, h1, h2⟩⟩
  have hio : hasIo (startE N.length ds) = true → none ∈ ds := by
    intro h
    obtain ⟨i, d, h⟩ := hasIo_iff.mp h
    rcases startE_get h with ⟨z, _⟩ | ⟨_, z⟩
    · cases z
    · exact List.mem_of_getElem? z
  refine ⟨fun i => Classical.choose (hex i), ⟨?_, fun i k d h hk => ?_, fun i d h => ?_, fun i d h => ?_, fun h => (hp (hio h)).1, fun h j k d hj hk m => (hp (hio h)).2 ((Classical.choose_spec (hex j)).1 _ m)⟩, ?_⟩
  · unfold L2.start startE
    rw [List.length_append, List.length_append, List.length_map, List.length_map, List.length_replicate, List.length_replicate, r.len]
  · rcases startE_get h with ⟨z, h⟩ | ⟨z, _⟩
    · obtain ⟨v, h1, h2⟩ := (Classical.choose_spec (hex i)).2 d h
      subst z
      exact ⟨v, start_get h1, h2⟩
    · exact absurd z hk
  · rcases startE_get h with ⟨z, _⟩ | ⟨z, _⟩ <;> cases z
  · rcases startE_get h with ⟨z, _⟩ | ⟨_, z⟩
    · cases z
    · exact start_get ((r.get (i := i)).2 z)
  · rintro a ⟨i, k, d, h, hs, _⟩
    rcases startE_get h with ⟨rfl, _⟩ | ⟨rfl, _⟩ <;> cases hs
end
/-- what is known of a program's defs: names by number, texts, tables -/
structure Prg where
  nm : Nat → Str
  args : Nat → Arguments
  body : Nat → List Stmt
  scope : Nat → Scope
  ps : Nat → List Str
  tab : Nat → Option Fd
  idx : Str → Option Nat
  cst : Str → Option PyData
  fuel : Nat
def Prg.cfg (G : Prg) (j : Nat) : Cfg := ⟨fun x => match G.idx x with
  | some f => if f < j then some f else none
  | none => none, G.cst⟩
/-- one def is read right -/
def Prg.okB (G : Prg) (j : Nat) : Bool := match G.tab j with
  | some d => decide (d.np = (G.ps j).length) && chkSs (G.cfg j) d.names G.fuel (G.scope j) d.body (G.body j)
  | none => false
structure Prg.Facts (G : Prg) (P : Program) (w : World) (K : PySem.W.Frag) (mg : Str → Option Value) (m : Nat) : Prop where
  fn : ∀ j, j < m → ∃ a fd, FunD K (G.nm j) (G.nm j) (G.args j) (G.body j) (G.scope j) [] [] a fd ∧ mg (G.nm j) = some (.ref a)
  bd : ∀ j, j < m → ∀ (kV doc pm : Value) (an : Option Addr) (cdv ct : Value) (us : List Value), us.length = (G.ps j).length → bindArgs (PySem.W.fnOf (G.nm j) (G.nm j) (G.args j) (G.body j) (G.scope j) .none kV doc pm an cdv ct) ⟨us, []⟩ = pure ((G.ps j).zip us)
  sc : ∀ j, j < m → ∀ d, G.tab j = some d → FnScope d.names (G.ps j) (G.scope j)
  ck : ∀ j, j < m → G.okB j = true
  ix : ∀ x j, G.idx x = some j → G.nm j = x
  cs : ∀ x d, G.cst x = some d → ∃ v u, mg x = some u ∧ RelV v u ∧ ∀ t H, Rp K t H v d []
  fr : ∀ x ∈ bltNames, mg x = none
theorem Prg.Facts.ok {G : Prg} {P : Program} {w : World} {K : PySem.W.Frag} {mg : Str → Option Value} {m : Nat} (F : G.Facts P w K mg m) (base : Heap) :
    ∀ j, j < m → ∃ a fd, FunD K (G.nm j) (G.nm j) (G.args j) (G.body j) (G.scope j) [] [] a fd ∧ mg (G.nm j) = some (.ref a) ∧ FnOk P w K mg base CX0 (j + 1) a fd (G.ps j) (spF K (upTo G.tab (j + 1)) j) := by
  intro j
  induction j using Nat.strongRecOn with
  | ind j ih =>
    intro hj
    obtain ⟨a, fd, hF, hm⟩ := F.fn j hj
    refine ⟨a, fd, hF, hm, ?_⟩
    have hok := F.ck j hj
    unfold Prg.okB at hok
    cases ht : G.tab j with
    | none => rw [ht] at hok; cases hok
    | some d =>
      rw [ht] at hok
      obtain ⟨hnp, hck⟩ := and2 hok
      have hnp := of_decide_eq_true hnp
      have S := F.sc j hj d ht
      refine hF.ok S (fun vs H Q E h => ?_) (fun cdv A outer s H vs Q E hr h => ?_)
      · obtain ⟨ds, P0, pa, F0, d0, P', r, _, he, _⟩ := h
        rw [upTo_at ht] at he
        obtain ⟨h1, _⟩ := runF_inv he
        rw [r.len, ← hnp]
        exact h1
      · obtain ⟨ds, P0, pa, F0, d0, P', r, hpot, he, hq⟩ := h
        rw [upTo_at ht] at he
        · obtain ⟨h1, h3, hb0⟩ := runF_inv he
          have hiop : none ∈ ds → d.iop = true := by
            intro z
            have := cntIo_pos z
            rw [h3] at this
            cases hi : d.iop with
            | true => rfl
            | false => rw [hi] at this; exact absurd this (by decide)
          refine ⟨exTS K d.iop (rss (upTo G.tab j) d.iop d.body), PSs.nox ?_, ?_⟩
          · have GX : GoodX (G.cfg j) d.names (upTo G.tab j) j (cxOf CX0 P w K mg base d.names (G.nm j) (G.scope j) a cdv A outer s H E).nox (G.scope j) (G.scope j) := by
              refine ⟨rfl, S.nd, rfl, S.kind, fun x hx => ⟨loc_of hx, .inl rfl⟩, rfl, rfl, hr, fun x f hf => ?_, fun x d hd => F.cs x d hd, F.fr⟩
              have hf : (match G.idx x with
                | some f => if f < j then some f else none
                | none => none) = some f := hf
              cases hx : G.idx x with
              | none => rw [hx] at hf; cases hf
              | some f' =>
                rw [hx] at hf
                dsimp only at hf
                split at hf
                · rename_i hlt
                  have ef := Option.some.inj hf
                  subst ef
                  have hnm := F.ix x f' hx
                  obtain ⟨a', fd', hF', hm', hO⟩ := ih f' hlt (Nat.lt_trans hlt hj)
                  refine ⟨a', fd', G.ps f', by rw [← hnm]; exact hm', hF'.kp, hF'.bindsN (F.bd f' (Nat.lt_trans hlt hj)), ?_⟩
                  have e : spF K (upTo G.tab j) f' = spF K (upTo G.tab (f' + 1)) f' := by
                    unfold spF
                    rw [upTo_lt hlt]
                  show FnOk P w K mg base CX0 j a' fd' (G.ps f') (spF K (upTo G.tab j) f')
                  rw [e]
                  exact hO.mono hlt
                · cases hf
            exact (ssnd GX G.fuel).2 _ _ hck
          · obtain ⟨Fm, ok, hmk⟩ := start_ok (N := d.names) (P := P0) r hpot
            obtain ⟨rr, hb, hrr⟩ : ∃ rr, rss (upTo G.tab j) d.iop d.body (startE d.names.length ds) P0 = some rr ∧ (rr = .rt d0 P' ∨ ∃ E, rr = .nx E P' ∧ d0 = .none) := by
              rcases hb0 with h | ⟨E, h, e⟩
              · exact ⟨_, h, .inl rfl⟩
              · exact ⟨_, h, .inr ⟨E, rfl, e⟩⟩
            · refine ⟨_, P0, Fm, pa, rr, ok, hb, ?_⟩
              have wr0 : ∀ {H' : Hp}, Frm (Wr (startE d.names.length ds) Fm pa) H H' → Frm (fun a => none ∈ ds ∧ a = pa) H H' := by
                intro H' f
                refine f.mono fun b o _ w => ?_
                rcases w with ⟨i, d', hi, _⟩ | ⟨hi, rfl⟩
                · rcases startE_get hi with ⟨z, _⟩ | ⟨z, _⟩ <;> cases z
                · obtain ⟨i, d', hi⟩ := hasIo_iff.mp hi
                  rcases startE_get hi with ⟨z, _⟩ | ⟨_, z⟩
                  · cases z
                  · exact ⟨List.mem_of_getElem? z, rfl⟩
              have hio : none ∈ ds → hasIo (startE d.names.length ds) = true := by
                intro z
                obtain ⟨i, hi⟩ := List.mem_iff_getElem?.mp z
                refine hasIo_iff.mpr ⟨i, .none, ?_⟩
                unfold startE
                rw [List.getElem?_append_left (by rw [List.length_map]; exact (List.getElem?_eq_some_iff.mp hi).1), List.getElem?_map, hi]
                rfl
              rcases hrr with rfl | ⟨E', rfl, rfl⟩
              · exact fun v H' F1 rp => hq v H' F1 (wr0 rp.fr) (fun z => rp.po (hiop z) (hio z)) rp.rp fun b hb => by
                  rcases rp.nw b hb with z | z
                  · exact absurd z (hmk b)
                  · exact z
              · exact fun σ' H' Fm' pa' sp => hq _ H' [] (wr0 sp.fr) (fun z => by
                  obtain ⟨e1, e2⟩ := sp.io (hiop z)
                  have := sp.ok.pot (e2 (hio z))
                  rwa [e1] at this) .non fun _ m => nomatch m
/-- a list of ints, as the law's argument -/
theorem sq_rp {K : PySem.W.Frag} {H : Hp} {a : Addr} {ns : List Int} (h : SqL K H a (ns.map V.int)) : ∃ F, Rp K false H (.ref a) (.list (ns.map PyData.int)) F := by
  rcases h with (h | ⟨o, h⟩) | h
  · exact ⟨_, .lst h (RpL.of_ints ns)⟩
  · exact ⟨_, .lstR rfl (.inl ⟨o, h⟩) (RpL.of_ints ns)⟩
  · exact ⟨_, .lstR rfl (.inr h) (RpL.of_ints ns)⟩
end MP
set_option Elab.async false
set_option linter.all false
set_option maxRecDepth 100000
/-! What the head observes: free names, constants, defs. -/
namespace MP
open PySem PySem.Spec PyProof.Rows L2

/-! ### constants -/
mutual
/-- a module value that stands for plain data -/
def valB (K : PySem.W.Frag) : Nat → Value → PyData → Bool
  | _, .none, .none => true
  | _, .bool a, .bool b => a == b
  | _, .int i _, .int j => decide (i = j)
  | _, .str x _, .str y => decide (x = y)
  | f + 1, .ref a, .tuple ds => (match K.lookup a with
    | some ⟨.type c, _, .seq its _, _⟩ => decide (c = "tuple") && (decide (its.size ≤ sizeLine) && valsB K f its.toList ds)
    | _ => false)
  | _, _, _ => false
def valsB (K : PySem.W.Frag) : Nat → List Value → List PyData → Bool
  | _, [], [] => true
  | 0, _, _ => false
  | f + 1, u :: us, d :: ds => valB K f u d && valsB K f us ds
  | _, _, _ => false
end
mutual
theorem valB_ok {K : PySem.W.Frag} : ∀ (f : Nat) (u : Value) (d : PyData), valB K f u d = true → ∃ v, RelV v u ∧ ∀ t H, Rp K t H v d []
  | f, .none, d, h => by
    cases d <;> first | exact ⟨.non, rfl, fun t H => .non⟩ | (cases f <;> cases h)
  | f, .bool a, d, h => by
    cases d <;> first
      | (have e := eq_of_beq (show (_ == _) = true from (by cases f <;> exact h)); subst e; exact ⟨.bl _, rfl, fun t H => .bl _⟩)
      | (cases f <;> cases h)
  | f, .int i t, d, h => by
    cases d <;> first
      | (have e := of_decide_eq_true (show decide (_ = _) = true from (by cases f <;> exact h)); subst e; exact ⟨.int _, ⟨t, rfl⟩, fun t H => .int _⟩)
      | (cases f <;> cases h)
  | f, .str i t, d, h => by
    cases d <;> first
      | (have e := of_decide_eq_true (show decide (_ = _) = true from (by cases f <;> exact h)); subst e; exact ⟨.str _, ⟨t, rfl⟩, fun t H => .str _⟩)
      | (cases f <;> cases h)
  | f, .ellipsis, d, h => by cases d <;> cases f <;> cases h
  | f, .notImplemented, d, h => by cases d <;> cases f <;> cases h
  | f, .float _ _, d, h => by cases d <;> cases f <;> cases h
  | f, .bytes _ _, d, h => by cases d <;> cases f <;> cases h
  | f, .type _, d, h => by cases d <;> cases f <;> cases h
  | f, .builtin _, d, h => by cases d <;> cases f <;> cases h
  | 0, .ref a, d, h => by cases d <;> cases h
  | f + 1, .ref a, d, h => by
    cases d <;> first
      | cases h
      | skip
    rename_i ds
    have h : (match K.lookup a with
      | some ⟨.type c, _, .seq its _, _⟩ => decide (c = "tuple") && (decide (its.size ≤ sizeLine) && valsB K f its.toList ds)
      | _ => false) = true := h
    cases q : K.lookup a with
    | none => rw [q] at h; cases h
    | some o =>
      obtain ⟨oc, od, dt, osl⟩ := o
      rw [q] at h
      cases oc <;> first
        | (cases h; done)
        | skip
      cases dt <;> first
        | (cases h; done)
        | skip
      rename_i c its n
      obtain ⟨h1, h⟩ := and2 (show (decide (c = "tuple") && (decide (its.size ≤ sizeLine) && valsB K f its.toList ds)) = true from h)
      obtain ⟨h2, h3⟩ := and2 h
      obtain ⟨vs, r, hv⟩ := valsB_ok f its.toList ds h3
      exact ⟨.ref a, rfl, fun t H => .tup (.inr ⟨_, its, n, q, congrArg Value.type (of_decide_eq_true h1), rfl, of_decide_eq_true h2, r⟩) (hv t H)⟩
theorem valsB_ok {K : PySem.W.Frag} : ∀ (f : Nat) (us : List Value) (ds : List PyData), valsB K f us ds = true → ∃ vs, Vals vs us ∧ ∀ t H, RpL K t H vs ds []
  | f, [], ds, h => by
    cases ds with
    | nil => exact ⟨[], .nil, fun t H => .nil⟩
    | cons d ds => cases f <;> cases h
  | 0, u :: us, ds, h => by cases ds <;> cases h
  | f + 1, u :: us, ds, h => by
    cases ds with
    | nil => cases h
    | cons d ds =>
      obtain ⟨h1, h2⟩ := and2 (show (valB K f u d && valsB K f us ds) = true from h)
      obtain ⟨v, r1, k1⟩ := valB_ok f u d h1
      obtain ⟨vs, r2, k2⟩ := valsB_ok f us ds h2
      exact ⟨v :: vs, .cons r1 r2, fun t H => .cons (k1 t H) (k2 t H)⟩
end
def cstB (K : PySem.W.Frag) (x : Str) (d : PyData) : Bool := match PySem.W.nsIn K mainGlobals x with
  | some (some u) => valB K 40 u d
  | _ => false
theorem cst_ok {K : PySem.W.Frag} {h : Heap} {mg : Str → Option Value} (X : K.In h) (G : h.Ns mainGlobals mg) {x : Str} {d : PyData} (c : cstB K x d = true) : ∃ v u, mg x = some u ∧ RelV v u ∧ ∀ t H, Rp K t H v d [] := by
  unfold cstB at c
  split at c
  · rename_i u e
    obtain ⟨v, r, k⟩ := valB_ok 40 u d c
    exact ⟨v, u, PySem.W.mg_of X G e, r, k⟩
  · cases c
/-! ### the hook -/
def obsM (fr : List Str) (cs : List (Str × PyData)) (fn : List He.DefD) (K : PySem.W.Frag) : He.AlD :=
  ((fr.all fun x => (He.Fa.free x).ok K) && ((cs.all fun c => cstB K c.1 c.2) && fn.all fun d => (He.Fa.glo d.name).ok K && d.ok K), fn.map fun d => He.fnW K d.at_)
def SaysM (fr : List Str) (cs : List (Str × PyData)) (fn : List He.DefD) (K : PySem.W.Frag) : Prop := obsM fr cs fn K = He.valD fn
def obsMG (n : Nat) (fr : List Str) (cs : List (Str × PyData)) (fn : List He.DefD) (g : Addr → Option Obj) : He.AlD := obsM fr cs fn (He.frG g (He.asD g n))
def hookM (n : Nat) (fr : List Str) (cs : List (Str × PyData)) (fn : List He.DefD) : PySem.W.Hook where
  α := He.AlD
  obs := fun s => obsMG n fr cs fn s.heap.get?
  val := fun _ => He.valD fn
  says := fun _ h => ∃ K : PySem.W.Frag, K.In h ∧ SaysM fr cs fn K
  of := fun _ _ e => ⟨_, He.frG_in, e⟩
  keeps := fun _ _ _ ⟨K, hK, c⟩ k => ⟨K, PySem.W.Frag.In.keeps hK k, c⟩
theorem obsMG_eq {n : Nat} {fr : List Str} {cs : List (Str × PyData)} {fn : List He.DefD} {g : Addr → Option Obj} {s : Shared} (h : ∀ a, g a = s.heap.get? a) : obsMG n fr cs fn g = (hookM n fr cs fn).obs s := by
  have e : g = s.heap.get? := funext h
  rw [e]
  rfl
section
variable {fr : List Str} {cs : List (Str × PyData)} {fn : List He.DefD} {K : PySem.W.Frag} {h : Heap} {mg : Str → Option Value}
theorem SaysM.free (c : SaysM fr cs fn K) (X : K.In h) (G : h.Ns mainGlobals mg) {x : Str} (hx : x ∈ fr) : mg x = none :=
  He.free_ok X G (List.all_eq_true.mp (and2 (show ((fr.all fun x => (He.Fa.free x).ok K) && _) = true from congrArg (fun z : He.AlD => z.1) c)).1 x hx)
theorem SaysM.cst (c : SaysM fr cs fn K) (X : K.In h) (G : h.Ns mainGlobals mg) {x : Str} {d : PyData} (hx : (x, d) ∈ cs) : ∃ v u, mg x = some u ∧ RelV v u ∧ ∀ t H, Rp K t H v d [] :=
  cst_ok X G (List.all_eq_true.mp (and2 (and2 (show ((fr.all fun x => (He.Fa.free x).ok K) && ((cs.all fun c => cstB K c.1 c.2) && _)) = true from congrArg (fun z : He.AlD => z.1) c)).2).1 (x, d) hx)
theorem SaysM.def_ (c : SaysM fr cs fn K) (X : K.In h) (G : h.Ns mainGlobals mg) (i : Nat) {d : He.DefD} (hd : fn[i]? = some d) (ha : d.at_ = (d.name, none)) (hdf : d.dfl = []) (hkw : d.kwd = []) :
    ∃ a fd, FunD K d.name d.qual d.params d.body d.scope [] [] a fd ∧ mg d.name = some (.ref a) := by
  have c2 := List.all_eq_true.mp (and2 (and2 (show ((fr.all fun x => (He.Fa.free x).ok K) && ((cs.all fun c => cstB K c.1 c.2) && fn.all fun d => (He.Fa.glo d.name).ok K && d.ok K)) = true from congrArg (fun z : He.AlD => z.1) c)).2).2 d (List.mem_of_getElem? hd)
  obtain ⟨k1, k2⟩ := and2 c2
  have e : fn.map (fun d => He.fnW K d.at_) = fn.map He.DefD.val := congrArg (fun z : He.AlD => z.2) c
  have e2 : (fn.map fun d => He.fnW K d.at_)[i]? = (fn.map He.DefD.val)[i]? := by rw [e]
  rw [List.getElem?_map, List.getElem?_map, hd] at e2
  obtain ⟨fd, F⟩ := He.DefD.funD (Option.some.inj e2) k2
  have hg := He.glo_ok X G k1
  have hfa : He.fAd K d.at_ = He.ga K d.name := by rw [ha]; rfl
  rw [hfa] at F
  unfold He.DefD.dvs He.DefD.kws at F
  rw [hdf, hkw] at F
  exact ⟨_, fd, F, hg⟩
end
/-- scopes, by a check -/
def scpB (N P : List Str) (sc : Scope) : Bool := (match sc.kind with
  | .function => true
  | _ => false) && (!sc.isCoroutine && (!sc.isGenerator && (decide N.Nodup && (decide (N.take P.length = P) && ((P.all fun x => locB sc x) && sc.names.all fun y => match y.2 with
  | .free => false
  | _ => true)))))
theorem scp_ok {N P : List Str} {sc : Scope} (h : scpB N P sc = true) : FnScope N P sc := by
  unfold scpB at h
  obtain ⟨h1, h⟩ := and2 h
  obtain ⟨h2, h⟩ := and2 h
  obtain ⟨h3, h⟩ := and2 h
  obtain ⟨h4, h⟩ := and2 h
  obtain ⟨h5, h⟩ := and2 h
  obtain ⟨h6, h7⟩ := and2 h
  refine ⟨?_, by simpa using h2, by simpa using h3, of_decide_eq_true h4, of_decide_eq_true h5, fun x hx => loc_of (List.all_eq_true.mp h6 x hx), fun y hy e => ?_⟩
  · split at h1
    · assumption
    · cases h1
  · have := List.all_eq_true.mp h7 y hy
    rw [e] at this
    cases this
end MP
set_option Elab.async false
set_option linter.all false
set_option maxRecDepth 100000
/-! Lists by their places, loops over them. -/
namespace MP
open PySem

/-- f 0, .., f (n-1) -/
def tb {α : Type} (n : Nat) (f : Nat → α) : List α := (List.range n).map f
section
variable {α β : Type} {n : Nat} {f g : Nat → α}
theorem tb_len : (tb n f).length = n := by unfold tb; rw [List.length_map, List.length_range]
theorem tb_zero : tb 0 f = [] := rfl
theorem tb_succ : tb (n + 1) f = f 0 :: tb n (fun i => f (i + 1)) := by
  unfold tb
  rw [List.range_succ_eq_map, List.map_cons, List.map_map]
  rfl
theorem tb_snoc : tb (n + 1) f = tb n f ++ [f n] := by
  unfold tb
  rw [List.range_succ, List.map_append]
  rfl
theorem tb_get (i : Nat) : (tb n f)[i]? = if i < n then some (f i) else none := by
  unfold tb
  rw [List.getElem?_map]
  by_cases h : i < n
  · rw [if_pos h, List.getElem?_range h]
    rfl
  · rw [if_neg h, List.getElem?_eq_none (by rw [List.length_range]; omega)]
    rfl
theorem tb_congr (h : ∀ i, i < n → f i = g i) : tb n f = tb n g := by
  unfold tb
  exact List.map_congr_left fun i hi => h i (List.mem_range.mp hi)
theorem tb_ext {l : List α} (hl : l.length = n) (h : ∀ i, i < n → l[i]? = some (f i)) : l = tb n f := by
  apply List.ext_getElem?
  intro i
  rw [tb_get]
  by_cases hi : i < n
  · rw [if_pos hi, h i hi]
  · rw [if_neg hi, List.getElem?_eq_none (by omega)]
theorem tb_of (l : List α) (x : α) : l = tb l.length fun i => l.getD i x := tb_ext rfl fun i hi => by
  rw [List.getD_eq_getElem?_getD, List.getElem?_eq_getElem hi]
  rfl
theorem tb_map (h : α → β) : (tb n f).map h = tb n fun i => h (f i) := by
  unfold tb
  rw [List.map_map]
  rfl
theorem tb_mem {x : α} : x ∈ tb n f ↔ ∃ i, i < n ∧ f i = x := by
  unfold tb
  rw [List.mem_map]
  constructor
  · rintro ⟨i, hi, e⟩
    exact ⟨i, List.mem_range.mp hi, e⟩
  · rintro ⟨i, hi, e⟩
    exact ⟨i, List.mem_range.mpr hi, e⟩
theorem tb_drop (k : Nat) : (tb n f).drop k = tb (n - k) fun i => f (k + i) := by
  refine tb_ext (by rw [List.length_drop, tb_len]) fun i hi => ?_
  rw [List.getElem?_drop, tb_get, if_pos (by omega)]
theorem tb_take (k : Nat) : (tb n f).take k = tb (min k n) f := by
  refine tb_ext (by rw [List.length_take, tb_len]) fun i hi => ?_
  rw [List.getElem?_take, if_pos (by omega), tb_get, if_pos (by omega)]
theorem tb_reverse : (tb n f).reverse = tb n fun i => f (n - 1 - i) := by
  refine tb_ext (by rw [List.length_reverse, tb_len]) fun i hi => ?_
  rw [List.getElem?_reverse (by rw [tb_len]; exact hi), tb_len, tb_get, if_pos (by omega)]
theorem tb_append {m : Nat} : tb n f ++ tb m g = tb (n + m) fun i => if i < n then f i else g (i - n) := by
  refine tb_ext (by rw [List.length_append, tb_len, tb_len]) fun i hi => ?_
  by_cases h : i < n
  · rw [List.getElem?_append_left (by rw [tb_len]; exact h), tb_get, if_pos h, if_pos h]
  · rw [List.getElem?_append_right (by rw [tb_len]; omega), tb_len, tb_get, if_pos (by omega), if_neg h]
theorem evens_get {α : Type} : ∀ (l : List α) (i : Nat), (evens l)[i]? = l[2 * i]?
  | [], i => by simp [evens]
  | [a], 0 => rfl
  | [a], i + 1 => by simp [evens]
  | a :: b :: r, 0 => rfl
  | a :: b :: r, i + 1 => by
    show (evens r)[i]? = (a :: b :: r)[2 * (i + 1)]?
    rw [evens_get r i, show 2 * (i + 1) = 2 * i + 1 + 1 from by omega]
    rfl
theorem evens_length {α : Type} : ∀ (l : List α), (evens l).length = (l.length + 1) / 2
  | [] => by simp [evens]
  | [a] => by simp [evens]
  | a :: b :: r => by
    show (evens r).length + 1 = (r.length + 1 + 1 + 1) / 2
    rw [evens_length r]
    omega
theorem tb_evens : evens (tb n f) = tb ((n + 1) / 2) fun i => f (2 * i) := by
  refine tb_ext (by rw [evens_length, tb_len]) fun i hi => ?_
  rw [evens_get, tb_get, if_pos (by omega)]
end
theorem tb_enum {n : Nat} {f : Nat → PyData} : enumD 0 (tb n f) = tb n fun i => .tuple [.int (i : Nat), f i] := by
  refine tb_ext (by rw [enumD_len, tb_len]) fun i hi => ?_
  have hl : i < (enumD 0 (tb n f)).length := by rw [enumD_len, tb_len]; exact hi
  rw [List.getElem?_eq_getElem hl]
  obtain ⟨x, h1, h2⟩ := enumD_get (List.getElem?_eq_getElem hl)
  rw [tb_get, if_pos hi] at h1
  cases h1
  rw [h2, Int.zero_add]
theorem tb_zip {n m : Nat} {f g : Nat → PyData} : zipD (tb n f) (tb m g) = tb (min n m) fun i => .tuple [f i, g i] := by
  refine tb_ext (by rw [zipD_len, tb_len, tb_len]) fun i hi => ?_
  have hl : i < (zipD (tb n f) (tb m g)).length := by rw [zipD_len, tb_len, tb_len]; exact hi
  rw [List.getElem?_eq_getElem hl]
  obtain ⟨x, y, h1, h2, h3⟩ := zipD_get (List.getElem?_eq_getElem hl)
  rw [tb_get, if_pos (by omega)] at h1 h2
  cases h1
  cases h2
  rw [h3]
theorem rngC_tb (n : Nat) (a c : Int) : rngC a c n = tb n fun i => .int (a + (i : Nat) * c) := by
  refine tb_ext (rngC_len n a c) fun i hi => ?_
  have hl : i < (rngC a c n).length := by rw [rngC_len]; exact hi
  rw [List.getElem?_eq_getElem hl, rngC_get (List.getElem?_eq_getElem hl)]
theorem rngD_tb (n : Nat) (a : Int) : rngD a n = tb n fun i => .int (a + (i : Nat)) := by
  rw [rngD_C, rngC_tb]
  refine tb_congr fun i _ => ?_
  rw [Int.mul_one]
theorem immL_tb {n : Nat} {f : Nat → PyData} (h : ∀ i, i < n → imm (f i) = true) : immL (tb n f) = true := immL_of fun d hd => by
  obtain ⟨i, hi, rfl⟩ := tb_mem.mp hd
  exact h i hi
theorem intsOf_tb : ∀ {n : Nat} {f : Nat → Int}, intsOf (tb n fun i => .int (f i)) = some (tb n f)
  | 0, _ => rfl
  | n + 1, f => by
    rw [tb_succ, tb_succ]
    show (intsOf (tb n fun i => .int (f (i + 1)))).map _ = _
    rw [intsOf_tb]
    rfl
theorem boolsOf_tb : ∀ {n : Nat} {f : Nat → Bool}, boolsOf (tb n fun i => .bool (f i)) = some (tb n f)
  | 0, _ => rfl
  | n + 1, f => by
    rw [tb_succ, tb_succ]
    show (boolsOf (tb n fun i => .bool (f (i + 1)))).map _ = _
    rw [boolsOf_tb]
    rfl
theorem atI_nn {α : Type} {l : List α} {k : Int} (h0 : 0 ≤ k) (h1 : k < l.length) : L2.atI l k = l[k.toNat]? := by
  unfold L2.atI L2.ixN
  rw [if_pos h0, if_pos (by omega)]
  rfl
theorem at0 {α : Type} {a : α} {l : List α} : L2.atI (a :: l) 0 = some a := by
  rw [atI_nn (Int.le_refl _) (by rw [List.length_cons]; omega)]
  rfl
theorem at1 {α : Type} {a b : α} {l : List α} : L2.atI (a :: b :: l) 1 = some b := by
  rw [atI_nn (by decide) (by rw [List.length_cons, List.length_cons]; omega)]
  rfl
theorem at2 {α : Type} {a b c : α} {l : List α} : L2.atI (a :: b :: c :: l) 2 = some c := by
  rw [atI_nn (by decide) (by rw [List.length_cons, List.length_cons, List.length_cons]; omega)]
  rfl
theorem atI_tb {α : Type} {n : Nat} {f : Nat → α} {k : Int} (h0 : 0 ≤ k) (h1 : k < n) : L2.atI (tb n f) k = some (f k.toNat) := by
  rw [atI_nn h0 (by rw [tb_len]; exact h1), tb_get, if_pos (by omega)]
theorem atI_last {α : Type} {n : Nat} {f : Nat → α} : L2.atI (tb (n + 1) f) (-1) = some (f n) := by
  unfold L2.atI L2.ixN
  rw [tb_len, if_neg (by omega), if_pos (by omega)]
  show (tb (n + 1) f)[_]? = _
  rw [tb_get, if_pos (by omega)]
  congr 2
  omega
/-! ### loops -/
theorem lc_run {bind : PyData → Option Env} {test : Env → PyData → Option (Bool × PyData)} {elt : Env → PyData → Option (PyData × PyData)} {g : Nat → PyData} {P : PyData} :
    ∀ {n : Nat} {f : Nat → PyData} {o : Nat} {acc : List PyData}, (∀ i, i < n → ∃ E1, bind (f i) = some E1 ∧ test E1 P = some (true, P) ∧ elt E1 P = some (g (o + i), P) ∧ imm (g (o + i)) = true) → acc.length + n ≤ LIM →
      lcFold bind test elt (tb n f) acc P = some (acc ++ tb n (fun i => g (o + i)), P)
  | 0, f, o, acc, _, _ => by
    rw [tb_zero, tb_zero, List.append_nil]
    rfl
  | n + 1, f, o, acc, h, hl => by
    obtain ⟨E1, h1, h2, h3, h4⟩ := h 0 (by omega)
    rw [Nat.add_zero] at h3 h4
    rw [tb_succ, tb_succ]
    unfold lcFold
    rw [h1]
    dsimp only
    rw [h2]
    dsimp only
    rw [h3]
    dsimp only
    rw [h4, decide_eq_true (show acc.length < LIM from by omega), Bool.and_self, if_pos rfl]
    rw [lc_run (o := o + 1) (g := g)]
    · rw [List.append_assoc, Nat.add_zero]
      congr 3
      show [g o] ++ _ = g o :: _
      rw [List.singleton_append]
      congr 1
      exact tb_congr fun i _ => by rw [show o + 1 + i = o + (i + 1) from by omega]
    · intro i hi
      obtain ⟨E1, h1, h2, h3, h4⟩ := h (i + 1) (by omega)
      rw [show o + 1 + i = o + (i + 1) from by omega]
      exact ⟨E1, h1, h2, h3, h4⟩
    · rw [List.length_append]
      show acc.length + 1 + n ≤ LIM
      omega
theorem lc_tb {bind : PyData → Option Env} {test : Env → PyData → Option (Bool × PyData)} {elt : Env → PyData → Option (PyData × PyData)} {f g : Nat → PyData} {P : PyData} {n : Nat} (h : ∀ i, i < n → ∃ E1, bind (f i) = some E1 ∧ test E1 P = some (true, P) ∧ elt E1 P = some (g i, P) ∧ imm (g i) = true) (hl : n ≤ LIM) :
    lcFold bind test elt (tb n f) [] P = some (tb n g, P) := by
  have := lc_run (g := g) (o := 0) (acc := []) (f := f) (n := n) (bind := bind) (test := test) (elt := elt) (P := P) (fun i hi => by rw [Nat.zero_add]; exact h i hi) (by simpa using hl)
  rw [this, List.nil_append]
  congr 3
  funext i
  rw [Nat.zero_add]
theorem for_tb {bind : PyData → Env → Option Env} {body : Env → PyData → Option Rs} (S : Nat → Env) (Q : Nat → PyData) : ∀ {n : Nat} {f : Nat → PyData} {o : Nat}, (∀ i, i < n → ∃ E1, bind (f i) (S (o + i)) = some E1 ∧ body E1 (Q (o + i)) = some (.nx (S (o + i + 1)) (Q (o + i + 1)))) →
    forL bind body (tb n f) (S o) (Q o) = some (.nx (S (o + n)) (Q (o + n)))
  | 0, f, o, _ => rfl
  | n + 1, f, o, h => by
    obtain ⟨E1, h1, h2⟩ := h 0 (by omega)
    rw [Nat.add_zero] at h1 h2
    rw [tb_succ]
    unfold forL
    rw [h1]
    dsimp only
    rw [h2]
    dsimp only
    rw [for_tb S Q (o := o + 1)]
    · rw [show o + 1 + n = o + (n + 1) from by omega]
    · intro i hi
      obtain ⟨E1, h1, h2⟩ := h (i + 1) (by omega)
      rw [show o + 1 + i = o + (i + 1) from by omega]
      exact ⟨E1, h1, h2⟩
/-- a loop of n turns -/
theorem for_run {bind : PyData → Env → Option Env} {body : Env → PyData → Option Rs} (S : Nat → Env) (Q : Nat → PyData) {n : Nat} {f : Nat → PyData} {E : Env} {P : PyData} (hE : E = S 0) (hP : P = Q 0) (h : ∀ i, i < n → ∃ E1, bind (f i) (S i) = some E1 ∧ body E1 (Q i) = some (.nx (S (i + 1)) (Q (i + 1)))) :
    forL bind body (tb n f) E P = some (.nx (S n) (Q n)) := by
  subst hE hP
  have := for_tb S Q (n := n) (f := f) (o := 0) (bind := bind) (body := body) fun i hi => by rw [Nat.zero_add]; exact h i hi
  rw [this, Nat.zero_add]
/-! ### evaluation, step by step (all but comprehensions and loops) -/
section
variable {cl : Cl} {iop : Bool} {E : Env} {P : PyData}
theorem e_con {d : PyData} : ev cl (.con d) E P = some (d, P) := rfl
theorem e_var {i : Nat} : ev cl (.var i) E P = (getV E i).map fun d => (d, P) := rfl
theorem e_bin {op : Bop} {a b : Ex} : ev cl (.bin op a b) E P = (match ev cl a E P with
    | none => none
    | some (x, P1) => match ev cl b E P1 with
      | none => none
      | some (y, P2) => if MP.isInt x || (strV E (MP.vars a) && strV E (MP.vars b)) then (bopD op x y).map fun d => (d, P2) else none) := rfl
theorem e_neg {a : Ex} : ev cl (.neg a) E P = (match ev cl a E P with
    | some (.int i, P1) => some (.int (-i), P1)
    | _ => none) := rfl
theorem e_cmp {op : Cop} {a b : Ex} : ev cl (.cmp op a b) E P = (match ev cl a E P with
    | none => none
    | some (x, P1) => match ev cl b E P1 with
      | none => none
      | some (y, P2) => (copD op x y).map fun d => (.bool d, P2)) := rfl
theorem e_chain {op op' : Cop} {a b c : Ex} : ev cl (.chain op op' a b c) E P = (match ev cl a E P with
    | none => none
    | some (x, P1) => match ev cl b E P1 with
      | none => none
      | some (y, P2) => match copD op x y with
        | none => none
        | some false => some (.bool false, P2)
        | some true => match ev cl c E P2 with
          | none => none
          | some (z, P3) => (copD op' y z).map fun d => (.bool d, P3)) := rfl
theorem e_and {a b : Ex} : ev cl (.and a b) E P = (match ev cl a E P with
    | some (.bool true, P1) => ev cl b E P1
    | some (.bool false, P1) => some (.bool false, P1)
    | _ => none) := rfl
theorem e_or {a b : Ex} : ev cl (.or a b) E P = (match ev cl a E P with
    | some (.bool false, P1) => ev cl b E P1
    | some (.bool true, P1) => some (.bool true, P1)
    | _ => none) := rfl
theorem e_not {a : Ex} : ev cl (.not a) E P = (match ev cl a E P with
    | some (.bool c, P1) => some (.bool (!c), P1)
    | _ => none) := rfl
theorem e_ite {c a b : Ex} : ev cl (.ite c a b) E P = (match ev cl c E P with
    | some (.bool true, P1) => ev cl a E P1
    | some (.bool false, P1) => ev cl b E P1
    | _ => none) := rfl
theorem e_call {f : Nat} {as : Exs} : ev cl (.call f as) E P = (match evs cl as E P with
    | none => none
    | some (ds, P1) => (cl f ds P1).map fun r => (r.1, if ds.any (·.isNone) then r.2 else P1)) := rfl
theorem e_blt {b : Blt} {as : Exs} : ev cl (.blt b as) E P = (match evs cl as E P with
    | none => none
    | some (ds, P1) => ((unO ds).bind (bltD b)).map fun d => (d, P1)) := rfl
theorem e_isi {a : Ex} {t : Ty} : ev cl (.isi a t) E P = (match ev cl a E P with
    | none => none
    | some (x, P1) => some (.bool (isiD t x), P1)) := rfl
theorem e_lrng {it : Ito} : ev cl (.lrng it) E P = (match evI cl it E P with
    | none => none
    | some (ds, P1) => if ds.length ≤ LIM then some (.list ds, P1) else none) := rfl
theorem e_trng {it : Ito} : ev cl (.trng it) E P = (match evI cl it E P with
    | none => none
    | some (ds, P1) => if ds.length ≤ LIM then some (.tuple ds, P1) else none) := rfl
theorem e_tup {es : Exs} : ev cl (.tup es) E P = (match evs cl es E P with
    | none => none
    | some (ds, P1) => (unO ds).bind fun xs => if xs.length ≤ LIM then some (.tuple xs, P1) else none) := rfl
theorem e_lst {es : Exs} : ev cl (.lst es) E P = (match evs cl es E P with
    | none => none
    | some (ds, P1) => (unO ds).bind fun xs => if xs.length ≤ LIM then some (.list xs, P1) else none) := rfl
theorem e_sl {a : Ex} {lo hi : Exo} : ev cl (.sl a lo hi) E P = (match ev cl a E P with
    | none => none
    | some (x, P1) => match evP cl lo E P1 with
      | none => none
      | some (l, P2) => match evP cl hi E P2 with
        | none => none
        | some (h, P3) => match x with
          | .list ds => some (.list (cutD ds l h), P3)
          | .tuple ds => some (.tuple (cutD ds l h), P3)
          | _ => none) := rfl
theorem e_rev {a : Ex} : ev cl (.rev a) E P = (match ev cl a E P with
    | some (.list ds, P1) => some (.list ds.reverse, P1)
    | some (.tuple ds, P1) => some (.tuple ds.reverse, P1)
    | _ => none) := rfl
theorem e_every {a s : Ex} {k : Nat} : ev cl (.every a k s) E P = (match ev cl a E P with
    | some (.list ds, P1) => (match ev cl s E P1 with
      | some (.int 2, P2) => some (.list (evens (ds.drop k)), P2)
      | _ => none)
    | _ => none) := rfl
theorem e_ixV {i : Nat} {b : Ex} : ev cl (.ix (.var i) b) E P = (match E[i]? with
      | some (some (Kd.io, _)) => (match ev cl b E P with
        | some (.int k, P1) => (match P1 with
          | .list ds => (L2.atI ds k).map fun d => (d, P1)
          | _ => none)
        | _ => none)
      | _ => (match ev cl (.var i) E P with
        | none => none
        | some (x, P1) => match ev cl b E P1 with
          | some (.int k, P2) => (match seqOf x with
            | some ds => (L2.atI ds k).map fun d => (d, P2)
            | none => none)
          | _ => none)) := rfl
theorem e_ixC {f : Nat} {as : Exs} {b : Ex} : ev cl (.ix (.call f as) b) E P = (match ev cl (.call f as) E P with
        | none => none
        | some (x, P1) => match ev cl b E P1 with
          | some (.int k, P2) => (match seqOf x with
            | some ds => (L2.atI ds k).map fun d => (d, P2)
            | none => none)
          | _ => none) := rfl
theorem e_ixI {a a' b : Ex} : ev cl (.ix (.ix a a') b) E P = (match ev cl (.ix a a') E P with
        | none => none
        | some (x, P1) => match ev cl b E P1 with
          | some (.int k, P2) => (match seqOf x with
            | some ds => (L2.atI ds k).map fun d => (d, P2)
            | none => none)
          | _ => none) := rfl
theorem e_ixL {as : Exs} {b : Ex} : ev cl (.ix (.lst as) b) E P = (match ev cl (.lst as) E P with
        | none => none
        | some (x, P1) => match ev cl b E P1 with
          | some (.int k, P2) => (match seqOf x with
            | some ds => (L2.atI ds k).map fun d => (d, P2)
            | none => none)
          | _ => none) := rfl
/-- an item of what is no pot -/
theorem e_ixN {a b : Ex} {x d : PyData} {k : Int} {ds : List PyData} {P1 P2 : PyData} (h1 : ev cl a E P = some (x, P1)) (h2 : ev cl b E P1 = some (.int k, P2)) (h3 : seqOf x = some ds) (h4 : L2.atI ds k = some d) : ev cl (.ix a b) E P = some (d, P2) := by
  cases a <;> first
    | (unfold ev; rw [h1]; dsimp only; rw [h2]; dsimp only; rw [h3]; dsimp only; rw [h4]; rfl)
    | skip
  rename_i i
  unfold ev
  have hn : ∀ d, E[i]? ≠ some (some (Kd.io, d)) := by
    intro d hd
    have : getV E i = none := by unfold getV; rw [hd]
    rw [e_var, this] at h1
    cases h1
  split
  · rename_i heq
    cases heq
    split
    · rename_i hE
      exact absurd hE (hn _)
    · rw [h1]; dsimp only; rw [h2]; dsimp only; rw [h3]; dsimp only; rw [h4]; rfl
  · rename_i hne
    exact absurd rfl (hne i)
/-- an item of the pot -/
theorem e_ixP {i : Nat} {b : Ex} {d0 d : PyData} {k : Int} {ds : List PyData} (h0 : E[i]? = some (some (Kd.io, d0))) (h2 : ev cl b E P = some (.int k, .list ds)) (h4 : L2.atI ds k = some d) : ev cl (.ix (.var i) b) E P = some (d, .list ds) := by
  unfold ev
  split
  · rename_i heq
    cases heq
    split
    · rw [h2]
      dsimp only
      rw [h4]
      rfl
    · rename_i hne
      exact absurd h0 (hne _)
  · rename_i hne
    exact absurd rfl (hne i)
theorem evs_nil : evs cl .nil E P = some ([], P) := rfl
theorem evs_cons {e : Ex} {r : Exs} : evs cl (.cons e r) E P = (match ev cl e E P with
    | none => none
    | some (d, P1) => match evs cl r E P1 with
      | none => none
      | some (ds, P2) => some (some d :: ds, P2)) := rfl
theorem evs_star {e : Ex} {r : Exs} : evs cl (.star e r) E P = (match ev cl e E P with
    | none => none
    | some (d, P1) => match seqOf d with
      | none => none
      | some xs => match evs cl r E P1 with
        | none => none
        | some (ds, P2) => some (xs.map some ++ ds, P2)) := rfl
theorem evs_io {i : Nat} {r : Exs} : evs cl (.io i r) E P = (match E[i]? with
    | some (some (Kd.io, _)) => (match evs cl r E P with
      | none => none
      | some (ds, P2) => some (none :: ds, P2))
    | _ => none) := rfl
theorem evO_none : evO cl .none E P = some (true, P) := rfl
theorem evO_some {e : Ex} : evO cl (.some e) E P = (match ev cl e E P with
    | some (.bool c, P1) => some (c, P1)
    | _ => none) := rfl
theorem evP_none : evP cl .none E P = some (none, P) := rfl
theorem evP_some {e : Ex} : evP cl (.some e) E P = (match ev cl e E P with
    | some (.int c, P1) => some (some c, P1)
    | _ => none) := rfl
theorem evI_seq {e : Ex} : evI cl (.seq e) E P = (match ev cl e E P with
    | none => none
    | some (d, P1) => (seqOf d).map fun ds => (ds, P1)) := rfl
theorem evI_enum {e : Ex} : evI cl (.enum e) E P = (match ev cl e E P with
    | none => none
    | some (d, P1) => (seqOf d).map fun ds => (enumD 0 ds, P1)) := rfl
theorem evI_zip {a b : Ex} : evI cl (.zip a b) E P = (match ev cl a E P with
    | none => none
    | some (x, P1) => match ev cl b E P1 with
      | none => none
      | some (y, P2) => match x, y with
        | .list ds, .list es => some (zipD ds es, P2)
        | .tuple ds, .tuple es => some (zipD ds es, P2)
        | _, _ => none) := rfl
/-- ranges -/
theorem evI_r1 {a : Ex} {m : Nat} {P1 : PyData} (h : ev cl a E P = some (.int (m : Nat), P1)) (hm : m ≤ 1000000) : evI cl (.rng1 a) E P = some (tb m fun i => .int (i : Nat), P1) := by
  unfold evI
  rw [h]
  show (if (decide (-1000000000 ≤ ((m : Nat) : Int)) && decide (((m : Nat) : Int) ≤ 1000000000)) = true then some (rngD 0 ((m : Nat) : Int).toNat, P1) else none) = _
  rw [if_pos (by simp; omega), rngD_tb, Int.toNat_natCast]
  congr 3
  funext i
  rw [Int.zero_add]
theorem evI_r1z {a : Ex} {j : Int} {P1 : PyData} (h : ev cl a E P = some (.int j, P1)) (h0 : -1000000000 ≤ j) (h1 : j ≤ 1000000000) : evI cl (.rng1 a) E P = some (tb j.toNat fun i => .int (i : Nat), P1) := by
  unfold evI
  rw [h]
  dsimp only
  rw [if_pos (by simp; omega), rngD_tb]
  congr 3
  funext i
  rw [Int.zero_add]
theorem evI_r2 {a b : Ex} {i j : Int} {P1 P2 : PyData} (h : ev cl a E P = some (.int i, P1)) (h' : ev cl b E P1 = some (.int j, P2)) (hi : -1000000 ≤ i ∧ i ≤ 1000000) (hj : -1000000 ≤ j ∧ j ≤ 1000000) : evI cl (.rng2 a b) E P = some (tb (j - i).toNat fun t => .int (i + (t : Nat)), P2) := by
  unfold evI
  rw [h]
  dsimp only
  rw [h']
  dsimp only
  rw [if_pos (by simp; omega), rngD_tb]
theorem evI_r3 {a b c : Ex} {i j : Int} {P1 P2 P3 : PyData} (h : ev cl a E P = some (.int i, P1)) (h' : ev cl b E P1 = some (.int j, P2)) (h'' : ev cl c E P2 = some (.int (-1), P3)) (hi : -1000000 ≤ i ∧ i ≤ 1000000) (hj : -1000000 ≤ j ∧ j ≤ 1000000) : evI cl (.rng3 a b c) E P = some (tb (i - j).toNat fun t => .int (i - (t : Nat)), P3) := by
  unfold evI
  rw [h]
  dsimp only
  rw [h']
  dsimp only
  rw [h'']
  show (if ((decide (-1000000000 ≤ i) && decide (i ≤ 1000000000)) && (decide (-1000000000 ≤ j) && decide (j ≤ 1000000000))) = true then some (rngC i (-1) (i - j).toNat, P3) else none) = _
  rw [if_pos (by simp; omega), rngC_tb]
  congr 3
  funext t
  congr 1
  omega
/-- comprehensions over plain lists -/
theorem e_lcT {elt : Ex} {tg : Tg} {it : Ito} {cond : Exo} {own : List Nat} {n : Nat} {f g : Nat → PyData} {P1 : PyData} (h0 : (own.any fun i => MP.isIo (E.getD i none)) = false) (hi : evI cl it E P = some (tb n f, P1)) (hn : n ≤ 1000000)
    (h : ∀ i, i < n → ∃ E1, bindT tg (f i) (wipeE (frzAll E) own) = some E1 ∧ evO cl cond E1 P1 = some (true, P1) ∧ ev cl elt E1 P1 = some (g i, P1) ∧ imm (g i) = true) : ev cl (.lc elt tg it cond own) E P = some (.list (tb n g), P1) := by
  unfold ev
  rw [h0, if_neg Bool.false_ne_true, hi]
  show (lcFold _ _ _ _ [] P1).map _ = _
  rw [lc_tb h hn]
  rfl
theorem rss_nil : rss cl iop .nil E P = some (.nx E P) := rfl
theorem rss_cons {s : St} {r : Sts} : rss cl iop (.cons s r) E P = (match rs cl iop s E P with
    | none => none
    | some (.nx E1 P1) => rss cl iop r E1 P1
    | some (.bk E1 P1) => some (.bk E1 P1)
    | some (.rt d P1) => some (.rt d P1)) := rfl
theorem rs_asg {i : Nat} {e : Ex} : rs cl iop (.asg i e) E P = (match ev cl e E P with
    | none => none
    | some (d, P1) => (asgD E i e d).map fun E1 => .nx E1 P1) := rfl
theorem rs_unp {t : Tgs} {e : Ex} : rs cl iop (.unp t e) E P = (match ev cl e E P with
    | some (.tuple ds, P1) => (bindTs t ds (frz E (MP.vars e))).map fun E1 => .nx E1 P1
    | _ => none) := rfl
theorem rs_par {i j : Nat} {a b : Ex} : rs cl iop (.par i j a b) E P = (match ev cl a E P with
    | none => none
    | some (x, P1) => match ev cl b E P1 with
      | none => none
      | some (y, P2) => if i == j then none else if (imm x || MP.frs a x) && (imm y || MP.frs b y) then (asgD E i a x).bind fun E1 => (asgD E1 j b y).map fun E2 => .nx E2 P2 else none) := rfl
theorem rs_ifs {c : Ex} {a b : Sts} : rs cl iop (.ifs c a b) E P = (match ev cl c E P with
    | some (.bool true, P1) => rss cl iop a E P1
    | some (.bool false, P1) => rss cl iop b E P1
    | _ => none) := rfl
theorem rs_expr {e : Ex} : rs cl iop (.expr e) E P = (match ev cl e E P with
    | none => none
    | some (_, P1) => some (.nx E P1)) := rfl
theorem rs_ret {e : Ex} : rs cl iop (.ret e) E P = (match ev cl e E P with
    | none => none
    | some (d, P1) => if imm d || (MP.frs e d || strV E (MP.vars e)) then some (.rt d P1) else none) := rfl
theorem rs_brk : rs cl iop .brk E P = some (.bk E P) := rfl
theorem rs_app {o : Nat} {e : Ex} : rs cl iop (.app o e) E P = (match ev cl e E P with
    | none => none
    | some (x, P1) => match E[o]? with
      | some (some (Kd.own, .list ds)) => if (imm x && immL ds) && decide (ds.length < LIM) then some (.nx (E.set o (some (Kd.own, .list (ds ++ [x])))) P1) else none
      | _ => none) := rfl
theorem rs_sub {o : Nat} {k v : Ex} : rs cl iop (.sub o k v) E P = (match ev cl v E P with
    | none => none
    | some (x, P1) => match ev cl k E P1 with
      | some (.int n, P2) => (match E[o]? with
        | some (some (Kd.io, _)) => (match P2 with
          | .list ds => if imm x then (L2.ixN ds.length n).map fun j => .nx E (.list (ds.set j x)) else none
          | _ => none)
        | some (some (Kd.own, .list ds)) => if imm x && immL ds then (L2.ixN ds.length n).map fun j => .nx (E.set o (some (Kd.own, .list (ds.set j x)))) P2 else none
        | _ => none)
      | _ => none) := rfl
theorem rs_for {t : Tg} {it : Ito} {body : Sts} {ds : List PyData} {P1 : PyData} (h : evI cl it E P = some (ds, P1)) : rs cl iop (.for t it body) E P = forL (bindT t) (rss cl iop body) ds (frz E (varsI it)) P1 := by
  show (match evI cl it E P with
    | none => none
    | some (ds, P1) => forL (bindT t) (rss cl iop body) ds (frz E (varsI it)) P1) = _
  rw [h]
theorem rs_while {n : Nat} {c : Ex} {body : Sts} : rs cl iop (.while n c body) E P = whL (ev cl c) (rss cl iop body) n E P := rfl
end
theorem bind_nm {i : Nat} {d : PyData} {E : Env} (hio : MP.isIo (E.getD i none) = false) (hi : i < E.length) : bindT (.nm i) d E = some (E.set i (some (Kd.ro, d))) := by
  unfold bindT setV
  rw [hio, if_neg Bool.false_ne_true, if_pos hi]
theorem bind_two {i j : Nat} {d e : PyData} {E : Env} (hi : MP.isIo (E.getD i none) = false) (hj : MP.isIo (E.getD j none) = false) (h1 : i < E.length) (h2 : j < E.length) :
    bindT (.tup (.cons (.nm i) (.cons (.nm j) .nil))) (.tuple [d, e]) E = some ((E.set i (some (Kd.ro, d))).set j (some (Kd.ro, e))) := by
  show (bindT (.nm i) d E).bind (fun E1 => (bindT (.nm j) e E1).bind (bindTs .nil [])) = _
  rw [bind_nm hi h1]
  show (bindT (.nm j) e _).bind (bindTs .nil []) = _
  rw [bind_nm (getD_set_io rfl hj) (by rw [List.length_set]; exact h2)]
  rfl
/-! ### operators on ints -/
theorem bx_add {i j : Int} : bopD .add (.int i) (.int j) = some (.int (i + j)) := rfl
theorem bx_sub {i j : Int} : bopD .sub (.int i) (.int j) = some (.int (i - j)) := rfl
theorem bx_mul {i j : Int} : bopD .mul (.int i) (.int j) = if smallI i j then some (.int (i * j)) else none := rfl
theorem bx_fdiv {i j : Int} : bopD .fdiv (.int i) (.int j) = if decide (0 < j) && decide (j.natAbs.log2 < 9000) then some (.int (i / j)) else none := rfl
theorem bx_mod {i j : Int} : bopD .mod (.int i) (.int j) = if 0 < j then some (.int (i % j)) else none := rfl
/-! ### built-in functions -/
theorem b_lenL {ds : List PyData} : bltD .len [.list ds] = some (.int ds.length) := rfl
theorem b_lenT {ds : List PyData} : bltD .len [.tuple ds] = some (.int ds.length) := rfl
theorem b_abs {i : Int} : bltD .abs [.int i] = some (.int (if i < 0 then -i else i)) := rfl
theorem b_min2 {i j : Int} : bltD .min2 [.int i, .int j] = some (.int (if j < i then j else i)) := rfl
theorem b_max2 {i j : Int} : bltD .max2 [.int i, .int j] = some (.int (if j > i then j else i)) := rfl
theorem b_int {i : Int} : bltD .int [.int i] = some (.int i) := rfl
theorem b_intB {b : Bool} : bltD .int [.bool b] = some (.int (if b then 1 else 0)) := rfl
theorem b_listL {ds : List PyData} : bltD .list [.list ds] = some (.list ds) := rfl
theorem b_listT {ds : List PyData} : bltD .list [.tuple ds] = some (.list ds) := rfl
theorem b_tupL {ds : List PyData} : bltD .tuple [.list ds] = some (.tuple ds) := rfl
theorem b_tupT {ds : List PyData} : bltD .tuple [.tuple ds] = some (.tuple ds) := rfl
theorem b_all {n : Nat} : bltD .all [.list (tb n fun _ => PyData.bool true)] = some (.bool true) := by
  show (boolsOf (tb n fun _ => PyData.bool true)).map _ = _
  rw [boolsOf_tb (f := fun _ => true)]
  show some (PyData.bool ((tb n fun _ => true).all id)) = _
  congr 2
  rw [List.all_eq_true]
  intro x hx
  obtain ⟨i, _, rfl⟩ := tb_mem.mp hx
  rfl
theorem b_any {n : Nat} : bltD .any [.list (tb n fun _ => PyData.bool false)] = some (.bool false) := by
  show (boolsOf (tb n fun _ => PyData.bool false)).map _ = _
  rw [boolsOf_tb (f := fun _ => false)]
  show some (PyData.bool ((tb n fun _ => false).any id)) = _
  congr 2
  rw [List.any_eq_false]
  intro x hx
  obtain ⟨i, _, rfl⟩ := tb_mem.mp hx
  exact Bool.false_ne_true
theorem b_sumL {n : Nat} {f : Nat → Int} : bltD .sum [.list (tb n fun i => .int (f i))] = some (.int (tb n f).sum) := by
  show (intsOf (tb n fun i => PyData.int (f i))).map _ = _
  rw [intsOf_tb]
  rfl
theorem b_sumT {n : Nat} {f : Nat → Int} : bltD .sum [.tuple (tb n fun i => .int (f i))] = some (.int (tb n f).sum) := by
  show (intsOf (tb n fun i => PyData.int (f i))).map _ = _
  rw [intsOf_tb]
  rfl
theorem runF_ret {cl : Cl} {f : Fd} {as : List (Option PyData)} {P P' : PyData} {x : PyData} (h0 : as.length = f.np) (h1 : f.np ≤ f.names.length) (h2 : cntIo as = (if f.iop then 1 else 0)) (h : rss cl f.iop f.body (startE f.names.length as) P = some (.rt x P')) : runF cl f as P = some (x, P') := by
  unfold runF
  rw [if_pos]
  · rw [h]
  · rw [h0, h2]
    simp [h1]
theorem runF_nx {cl : Cl} {f : Fd} {as : List (Option PyData)} {P P' : PyData} {E : Env} (h0 : as.length = f.np) (h1 : f.np ≤ f.names.length) (h2 : cntIo as = (if f.iop then 1 else 0)) (h : rss cl f.iop f.body (startE f.names.length as) P = some (.nx E P')) : runF cl f as P = some (.none, P') := by
  unfold runF
  rw [if_pos]
  · rw [h]
  · rw [h0, h2]
    simp [h1]
end MP
set_option Elab.async false
set_option linter.all false
set_option maxRecDepth 100000
/-! k06: the law's defs in our language (printed by gen_mp.py). -/
namespace K06
open PySem MP
def c_PAIR_fractions : PyData := (.int 2)
def c_MOST_SIZE : PyData := (.int (10 ^ 3000))
def c_NOUGHT : PyData := (.tuple [(.int 0), (.int 1)])
def c_PAIR_urns : PyData := (.int 2)
def c_MOST_URN : PyData := (.int 200)
def c_MOST_DRAWN : PyData := (.int 60)
def c_UP : PyData := (.str "up")
def c_DOWN : PyData := (.str "down")
def c_HOLDS : PyData := (.str "holds")
def c_FAILS : PyData := (.str "fails")
def c_MOST_COIN : PyData := (.int 60)
def c_MOST_LOT : PyData := (.int 20)
def fuelW : Nat := 10 ^ 4000
/-- 0: is_tuple -/
def b0 : Sts :=
    (.cons (.ret (.and (.isi (.var 0) .tuple) (.chain .le .le (.var 1) (.blt .len (.cons (.var 0) .nil)) (.var 2))))
    .nil)
def d0 : Fd := ⟨0, ["value", "least", "most"], 3, false, b0⟩
/-- 1: is_whole -/
def b1 : Sts :=
    (.cons (.ret (.and (.isi (.var 0) .int) (.not (.isi (.var 0) .bool))))
    .nil)
def d1 : Fd := ⟨0, ["value"], 1, false, b1⟩
/-- 2: is_integer -/
def b2 : Sts :=
    (.cons (.ret (.and (.call 1 (.cons (.var 0) .nil)) (.chain .le .le (.var 1) (.var 0) (.var 2))))
    .nil)
def d2 : Fd := ⟨0, ["value", "low", "high"], 3, false, b2⟩
def e3_0 : Ex := .lc (.cmp .lt (.var 1) (.var 2)) (.tup (.cons (.nm 1) (.cons (.nm 2) .nil))) (.zip (.var 0) (.sl (.var 0) (.some (.con (.int 1))) .none)) .none [1, 2]
theorem frs_e3_0 (d : PyData) : MP.frs e3_0 d = true := rfl
/-- 3: is_rising -/
def b3 : Sts :=
    (.cons (.ret (.blt .all (.cons e3_0 .nil)))
    .nil)
def d3 : Fd := ⟨0, ["values", "one", "other"], 1, false, b3⟩
/-- 4: is_word -/
def b4 : Sts :=
    (.cons (.ret (.and (.isi (.var 0) .str) (.cmp .isin (.var 0) (.var 1))))
    .nil)
def d4 : Fd := ⟨0, ["value", "words"], 2, false, b4⟩
def e5_0 : Ex := .lc (.call 2 (.cons (.var 5) (.cons (.var 3) (.cons (.var 4) .nil)))) (.nm 5) (.seq (.var 0)) .none [5]
theorem frs_e5_0 (d : PyData) : MP.frs e5_0 d = true := rfl
/-- 5: are_integers -/
def b5 : Sts :=
    (.cons (.ret (.and (.call 0 (.cons (.var 0) (.cons (.var 1) (.cons (.var 2) .nil)))) (.blt .all (.cons e5_0 .nil))))
    .nil)
def d5 : Fd := ⟨0, ["value", "least", "most", "low", "high", "one"], 5, false, b5⟩
def e6_0 : Sts := (.cons (.par 0 1 (.var 1) (.bin .mod (.var 0) (.var 1)))
    .nil)
def e6_1 : St := .while fuelW (.cmp .ne (.var 1) (.con (.int 0))) e6_0
/-- 6: common_of -/
def b6 : Sts :=
    (.cons e6_1
    (.cons (.ret (.blt .abs (.cons (.var 0) .nil)))
    .nil))
def d6 : Fd := ⟨0, ["one", "other"], 2, false, b6⟩
def e7_0 : Sts := (.cons (.asg 2 (.bin .mul (.var 2) (.var 0)))
    .nil)
def e7_1 : St := .for (.nm 3) (.rng1 (.var 1)) e7_0
/-- 7: whole_power -/
def b7 : Sts :=
    (.cons (.asg 2 (.con (.int 1)))
    (.cons e7_1
    (.cons (.ret (.var 2))
    .nil)))
def d7 : Fd := ⟨0, ["one", "many", "found", "lap"], 2, false, b7⟩
/-- 8: is_size -/
def b8 : Sts :=
    (.cons (.ret (.and (.call 1 (.cons (.var 0) .nil)) (.chain .lt .lt (.neg (.con c_MOST_SIZE)) (.var 0) (.con c_MOST_SIZE))))
    .nil)
def d8 : Fd := ⟨0, ["value"], 1, false, b8⟩
def e9_0 : Ex := .lc (.call 8 (.cons (.var 1) .nil)) (.nm 1) (.seq (.var 0)) .none [1]
theorem frs_e9_0 (d : PyData) : MP.frs e9_0 d = true := rfl
/-- 9: is_fraction -/
def b9 : Sts :=
    (.cons (.ifs (.or (.not (.call 0 (.cons (.var 0) (.cons (.con c_PAIR_fractions) (.cons (.con c_PAIR_fractions) .nil))))) (.not (.blt .all (.cons e9_0 .nil))))
    (.cons (.ret (.con (.bool false)))
    .nil)
    .nil)
    (.cons (.ret (.and (.cmp .gt (.ix (.var 0) (.con (.int 1))) (.con (.int 0))) (.cmp .eq (.call 6 (.cons (.ix (.var 0) (.con (.int 0))) (.cons (.ix (.var 0) (.con (.int 1))) .nil))) (.con (.int 1)))))
    .nil))
def d9 : Fd := ⟨0, ["value", "one"], 1, false, b9⟩
/-- 10: is_share -/
def b10 : Sts :=
    (.cons (.ret (.and (.call 9 (.cons (.var 0) .nil)) (.chain .le .le (.con (.int 0)) (.ix (.var 0) (.con (.int 0))) (.ix (.var 0) (.con (.int 1))))))
    .nil)
def d10 : Fd := ⟨0, ["value"], 1, false, b10⟩
/-- 11: check_share -/
def b11 : Sts :=
    (.cons (.ifs (.not (.call 10 (.cons (.var 0) .nil)))
    (.cons .never
    .nil)
    .nil)
    .nil)
def d11 : Fd := ⟨0, ["value"], 1, false, b11⟩
/-- 12: ratio_of -/
def b12 : Sts :=
    (.cons (.asg 2 (.call 6 (.cons (.var 0) (.cons (.var 1) .nil))))
    (.cons (.ifs (.cmp .lt (.var 1) (.con (.int 0)))
    (.cons (.asg 2 (.neg (.var 2)))
    .nil)
    .nil)
    (.cons (.ret (.tup (.cons (.bin .fdiv (.var 0) (.var 2)) (.cons (.bin .fdiv (.var 1) (.var 2)) .nil))))
    .nil)))
def d12 : Fd := ⟨0, ["top", "low", "share"], 2, false, b12⟩
/-- 13: plus_of -/
def b13 : Sts :=
    (.cons (.ret (.call 12 (.cons (.bin .add (.bin .mul (.ix (.var 0) (.con (.int 0))) (.ix (.var 1) (.con (.int 1)))) (.bin .mul (.ix (.var 1) (.con (.int 0))) (.ix (.var 0) (.con (.int 1))))) (.cons (.bin .mul (.ix (.var 0) (.con (.int 1))) (.ix (.var 1) (.con (.int 1)))) .nil))))
    .nil)
def d13 : Fd := ⟨0, ["one", "other"], 2, false, b13⟩
/-- 14: is_below -/
def b14 : Sts :=
    (.cons (.ret (.cmp .lt (.bin .mul (.ix (.var 0) (.con (.int 0))) (.ix (.var 1) (.con (.int 1)))) (.bin .mul (.ix (.var 1) (.con (.int 0))) (.ix (.var 0) (.con (.int 1))))))
    .nil)
def d14 : Fd := ⟨0, ["one", "other"], 2, false, b14⟩
def e15_2 : Ex := .lc (.call 13 (.cons (.var 3) (.cons (.var 4) .nil))) (.tup (.cons (.nm 3) (.cons (.nm 4) .nil))) (.zip (.every (.var 1) 0 (.con c_PAIR_fractions)) (.every (.var 1) 1 (.con c_PAIR_fractions))) .none [3, 4]
theorem frs_e15_2 (d : PyData) : MP.frs e15_2 d = true := rfl
def e15_0 : Sts := (.cons (.asg 2 (.ite (.cmp .eq (.bin .mod (.blt .len (.cons (.var 1) .nil)) (.con c_PAIR_fractions)) (.con (.int 1))) (.sl (.var 1) (.some (.neg (.con (.int 1)))) .none) (.lst .nil)))
    (.cons (.asg 1 (.bin .add e15_2 (.var 2)))
    .nil))
def e15_1 : St := .while fuelW (.cmp .gt (.blt .len (.cons (.var 1) .nil)) (.con (.int 1))) e15_0
/-- 15: total_of -/
def b15 : Sts :=
    (.cons (.asg 1 (.lst (.star (.var 0) (.cons (.con c_NOUGHT) .nil))))
    (.cons e15_1
    (.cons (.ret (.ix (.var 1) (.con (.int 0))))
    .nil)))
def d15 : Fd := ⟨0, ["rows", "level", "odd", "one", "other"], 1, false, b15⟩
def e16_0 : Sts := (.cons (.asg 2 (.bin .fdiv (.bin .mul (.var 2) (.bin .sub (.var 0) (.var 3))) (.bin .add (.var 3) (.con (.int 1)))))
    .nil)
def e16_1 : St := .for (.nm 3) (.rng1 (.blt .min2 (.cons (.var 1) (.cons (.bin .sub (.var 0) (.var 1)) .nil)))) e16_0
/-- 16: choose_of -/
def b16 : Sts :=
    (.cons (.ifs (.not (.chain .le .le (.con (.int 0)) (.var 1) (.var 0)))
    (.cons (.ret (.con (.int 0)))
    .nil)
    .nil)
    (.cons (.asg 2 (.con (.int 1)))
    (.cons e16_1
    (.cons (.ret (.var 2))
    .nil))))
def d16 : Fd := ⟨0, ["many", "some", "found", "at"], 2, false, b16⟩
def e17_0 : Sts := (.cons (.par 8 9 (.bin .add (.var 8) (.bin .mul (.bin .mul (.var 11) (.var 9)) (.ix (.var 2) (.bin .sub (.var 4) (.var 10))))) (.bin .mul (.var 9) (.var 6)))
    .nil)
def e17_1 : St := .for (.tup (.cons (.nm 10) (.cons (.nm 11) .nil))) (.enum (.var 5)) e17_0
def e17_2 : Sts := (.cons (.app 2 (.bin .mul (.ix (.var 2) (.neg (.con (.int 1)))) (.var 7)))
    .nil)
def e17_3 : St := .for (.nm 3) (.rng1 (.var 4)) e17_2
/-- 17: top_of -/
def b17 : Sts :=
    (.cons (.unp (.cons (.nm 4) (.cons (.nm 5) .nil)) (.var 0))
    (.cons (.par 6 7 (.ix (.var 1) (.con (.int 0))) (.bin .sub (.ix (.var 1) (.con (.int 1))) (.ix (.var 1) (.con (.int 0)))))
    (.cons (.par 8 9 (.con (.int 0)) (.con (.int 1)))
    (.cons (.asg 2 (.lst (.cons (.con (.int 1)) .nil)))
    (.cons e17_3
    (.cons e17_1
    (.cons (.ret (.var 8))
    .nil)))))))
def d17 : Fd := ⟨0, ["row", "share", "powers", "lap", "many", "counts", "yes", "no", "found", "by", "at", "number"], 2, false, b17⟩
/-- 18: row_value_of -/
def b18 : Sts :=
    (.cons (.ret (.call 12 (.cons (.call 17 (.cons (.var 0) (.cons (.var 1) .nil))) (.cons (.call 7 (.cons (.ix (.var 1) (.con (.int 1))) (.cons (.ix (.var 0) (.con (.int 0))) .nil))) .nil))))
    .nil)
def d18 : Fd := ⟨0, ["row", "share"], 2, false, b18⟩
/-- 19: check_urn -/
def b19 : Sts :=
    (.cons (.ifs (.not (.call 2 (.cons (.var 0) (.cons (.con (.int 1)) (.cons (.con c_MOST_URN) .nil)))))
    (.cons .never
    .nil)
    .nil)
    (.cons (.ifs (.not (.call 2 (.cons (.var 1) (.cons (.con (.int 1)) (.cons (.blt .min2 (.cons (.var 0) (.cons (.con c_MOST_DRAWN) .nil))) .nil)))))
    (.cons .never
    .nil)
    .nil)
    .nil))
def d19 : Fd := ⟨0, ["size", "drawn"], 2, false, b19⟩
/-- 20: check_marked -/
def b20 : Sts :=
    (.cons (.ifs (.not (.call 2 (.cons (.var 1) (.cons (.con (.int 0)) (.cons (.var 0) .nil)))))
    (.cons .never
    .nil)
    .nil)
    .nil)
def d20 : Fd := ⟨0, ["size", "marked"], 2, false, b20⟩
/-- 21: check_urn_region -/
def b21 : Sts :=
    (.cons (.expr (.call 19 (.cons (.var 0) (.cons (.var 1) .nil))))
    (.cons (.ifs (.or (.not (.call 5 (.cons (.var 2) (.cons (.con (.int 0)) (.cons (.bin .add (.var 1) (.con (.int 1))) (.cons (.con (.int 0)) (.cons (.var 1) .nil))))))) (.not (.call 3 (.cons (.var 2) .nil))))
    (.cons .never
    .nil)
    .nil)
    .nil))
def d21 : Fd := ⟨0, ["size", "drawn", "region"], 3, false, b21⟩
def e22_0 : Ex := .lc (.call 2 (.cons (.var 2) (.cons (.con (.int 0)) (.cons (.var 0) .nil)))) (.nm 2) (.seq (.var 1)) .none [2]
theorem frs_e22_0 (d : PyData) : MP.frs e22_0 d = true := rfl
/-- 22: check_lot -/
def b22 : Sts :=
    (.cons (.ifs (.or (.not (.call 0 (.cons (.var 1) (.cons (.con c_PAIR_urns) (.cons (.con c_PAIR_urns) .nil))))) (.or (.not (.blt .all (.cons e22_0 .nil))) (.cmp .gt (.ix (.var 1) (.con (.int 0))) (.ix (.var 1) (.con (.int 1))))))
    (.cons .never
    .nil)
    .nil)
    .nil)
def d22 : Fd := ⟨0, ["size", "lot", "one"], 2, false, b22⟩
/-- 23: draws_of -/
def b23 : Sts :=
    (.cons (.ret (.bin .mul (.call 16 (.cons (.var 2) (.cons (.var 3) .nil))) (.call 16 (.cons (.bin .sub (.var 0) (.var 2)) (.cons (.bin .sub (.var 1) (.var 3)) .nil)))))
    .nil)
def d23 : Fd := ⟨0, ["size", "drawn", "marked", "seen"], 4, false, b23⟩
def e24_0 : Ex := .lc (.call 23 (.cons (.var 0) (.cons (.var 1) (.cons (.var 3) (.cons (.var 4) .nil))))) (.nm 4) (.seq (.var 2)) .none [4]
theorem frs_e24_0 (d : PyData) : MP.frs e24_0 d = true := rfl
/-- 24: urn_chance_of -/
def b24 : Sts :=
    (.cons (.ret (.call 12 (.cons (.blt .sum (.cons e24_0 .nil)) (.cons (.call 16 (.cons (.var 0) (.cons (.var 1) .nil))) .nil))))
    .nil)
def d24 : Fd := ⟨0, ["size", "drawn", "region", "marked", "seen"], 4, false, b24⟩
def e25_0 : Ex := .lc (.call 23 (.cons (.var 0) (.cons (.var 1) (.cons (.var 2) (.cons (.var 3) .nil))))) (.nm 3) (.rng1 (.bin .add (.var 1) (.con (.int 1)))) .none [3]
theorem frs_e25_0 (d : PyData) : MP.frs e25_0 d = true := rfl
/-- 25: urn_draws -/
def b25 : Sts :=
    (.cons (.expr (.call 19 (.cons (.var 0) (.cons (.var 1) .nil))))
    (.cons (.expr (.call 20 (.cons (.var 0) (.cons (.var 2) .nil))))
    (.cons (.ret (.blt .tuple (.cons e25_0 .nil)))
    .nil)))
def d25 : Fd := ⟨0, ["size", "drawn", "marked", "seen"], 3, false, b25⟩
/-- 26: urn_noes -/
def b26 : Sts :=
    (.cons (.expr (.call 21 (.cons (.var 0) (.cons (.var 1) (.cons (.var 2) .nil)))))
    (.cons (.expr (.call 20 (.cons (.var 0) (.cons (.var 3) .nil))))
    (.cons (.ret (.call 24 (.cons (.var 0) (.cons (.var 1) (.cons (.var 2) (.cons (.var 3) .nil))))))
    .nil)))
def d26 : Fd := ⟨0, ["size", "drawn", "region", "marked"], 4, false, b26⟩
def e27_0 : Sts := (.cons (.asg 6 (.call 24 (.cons (.var 0) (.cons (.var 1) (.cons (.var 2) (.cons (.var 5) .nil))))))
    (.cons (.asg 4 (.ite (.call 14 (.cons (.ix (.var 4) (.con (.int 0))) (.cons (.var 6) .nil))) (.tup (.cons (.var 6) (.cons (.var 5) .nil))) (.var 4)))
    .nil))
def e27_1 : St := .for (.nm 5) (.rng2 (.bin .add (.ix (.var 3) (.con (.int 0))) (.con (.int 1))) (.bin .add (.ix (.var 3) (.con (.int 1))) (.con (.int 1)))) e27_0
/-- 27: urn_worst_of -/
def b27 : Sts :=
    (.cons (.asg 4 (.tup (.cons (.call 24 (.cons (.var 0) (.cons (.var 1) (.cons (.var 2) (.cons (.ix (.var 3) (.con (.int 0))) .nil))))) (.cons (.ix (.var 3) (.con (.int 0))) .nil))))
    (.cons e27_1
    (.cons (.ret (.var 4))
    .nil)))
def d27 : Fd := ⟨0, ["size", "drawn", "region", "lot", "found", "marked", "share"], 4, false, b27⟩
/-- 28: urn_worst -/
def b28 : Sts :=
    (.cons (.expr (.call 21 (.cons (.var 0) (.cons (.var 1) (.cons (.var 2) .nil)))))
    (.cons (.expr (.call 22 (.cons (.var 0) (.cons (.var 3) .nil))))
    (.cons (.ret (.call 27 (.cons (.var 0) (.cons (.var 1) (.cons (.var 2) (.cons (.var 3) .nil))))))
    .nil)))
def d28 : Fd := ⟨0, ["size", "drawn", "region", "lot"], 4, false, b28⟩
def e29_0 : Sts := (.cons (.ifs (.call 14 (.cons (.var 3) (.cons (.call 24 (.cons (.var 0) (.cons (.var 1) (.cons (.var 2) (.cons (.var 5) .nil))))) .nil)))
    (.cons (.ret (.tup (.cons (.con c_FAILS) (.cons (.var 5) .nil))))
    .nil)
    .nil)
    .nil)
def e29_1 : St := .for (.nm 5) (.rng2 (.ix (.var 4) (.con (.int 0))) (.bin .add (.ix (.var 4) (.con (.int 1))) (.con (.int 1)))) e29_0
/-- 29: urn_size_at_most -/
def b29 : Sts :=
    (.cons (.expr (.call 21 (.cons (.var 0) (.cons (.var 1) (.cons (.var 2) .nil)))))
    (.cons (.expr (.call 11 (.cons (.var 3) .nil)))
    (.cons (.expr (.call 22 (.cons (.var 0) (.cons (.var 4) .nil))))
    (.cons e29_1
    (.cons (.ret (.tup (.cons (.con c_HOLDS) (.cons (.ix (.call 27 (.cons (.var 0) (.cons (.var 1) (.cons (.var 2) (.cons (.var 4) .nil))))) (.con (.int 0))) .nil))))
    .nil)))))
def d29 : Fd := ⟨0, ["size", "drawn", "region", "share", "lot", "marked"], 5, false, b29⟩
def e30_0 : Sts := (.cons (.asg 8 (.call 13 (.cons (.var 8) (.cons (.call 24 (.cons (.var 0) (.cons (.var 1) (.cons (.tup (.cons (.var 7) .nil)) (.cons (.var 5) .nil))))) .nil))))
    (.cons (.ifs (.call 14 (.cons (.var 3) (.cons (.var 8) .nil)))
    (.cons .brk
    .nil)
    .nil)
    (.cons (.app 9 (.var 7))
    .nil)))
def e30_1 : St := .for (.nm 7) (.seq (.var 6)) e30_0
/-- 30: urn_border_of -/
def b30 : Sts :=
    (.cons (.asg 5 (.ite (.cmp .eq (.var 4) (.con c_UP)) (.ix (.var 2) (.con (.int 1))) (.ix (.var 2) (.con (.int 0)))))
    (.cons (.asg 6 (.ite (.cmp .eq (.var 4) (.con c_UP)) (.lrng (.rng3 (.var 1) (.neg (.con (.int 1))) (.neg (.con (.int 1))))) (.lrng (.rng1 (.bin .add (.var 1) (.con (.int 1)))))))
    (.cons (.par 8 9 (.con c_NOUGHT) (.lst .nil))
    (.cons e30_1
    (.cons (.ret (.blt .tuple (.cons (.blt .sorted (.cons (.var 9) .nil)) .nil)))
    .nil)))))
def d30 : Fd := ⟨0, ["size", "drawn", "lot", "share", "side", "marked", "order", "seen", "found", "region"], 5, false, b30⟩
/-- 31: urn_border -/
def b31 : Sts :=
    (.cons (.expr (.call 19 (.cons (.var 0) (.cons (.var 1) .nil))))
    (.cons (.expr (.call 22 (.cons (.var 0) (.cons (.var 2) .nil))))
    (.cons (.expr (.call 11 (.cons (.var 3) .nil)))
    (.cons (.ifs (.not (.call 4 (.cons (.var 4) (.cons (.tup (.cons (.con c_UP) (.cons (.con c_DOWN) .nil))) .nil))))
    (.cons .never
    .nil)
    .nil)
    (.cons (.ret (.call 30 (.cons (.var 0) (.cons (.var 1) (.cons (.var 2) (.cons (.var 3) (.cons (.var 4) .nil)))))))
    .nil)))))
def d31 : Fd := ⟨0, ["size", "drawn", "lot", "share", "side"], 5, false, b31⟩
def e32_0 : Ex := .lc (.call 15 (.cons (.sl (.var 3) .none (.some (.bin .add (.var 5) (.con (.int 1))))) .nil)) (.nm 5) (.rng1 (.bin .add (.var 1) (.con (.int 1)))) .none [5]
theorem frs_e32_0 (d : PyData) : MP.frs e32_0 d = true := rfl
def e32_1 : Ex := .lc (.call 15 (.cons (.sl (.var 3) (.some (.var 5)) .none) .nil)) (.nm 5) (.rng1 (.bin .add (.var 1) (.con (.int 1)))) .none [5]
theorem frs_e32_1 (d : PyData) : MP.frs e32_1 d = true := rfl
def e32_2 : Ex := .lc (.call 24 (.cons (.var 0) (.cons (.var 1) (.cons (.tup (.cons (.var 5) .nil)) (.cons (.var 2) .nil))))) (.nm 5) (.rng1 (.bin .add (.var 1) (.con (.int 1)))) .none [5]
theorem frs_e32_2 (d : PyData) : MP.frs e32_2 d = true := rfl
/-- 32: urn_tables -/
def b32 : Sts :=
    (.cons (.expr (.call 19 (.cons (.var 0) (.cons (.var 1) .nil))))
    (.cons (.expr (.call 20 (.cons (.var 0) (.cons (.var 2) .nil))))
    (.cons (.asg 3 e32_2)
    (.cons (.asg 4 (.blt .tuple (.cons e32_1 .nil)))
    (.cons (.ret (.tup (.cons (.var 4) (.cons (.blt .tuple (.cons e32_0 .nil)) .nil))))
    .nil)))))
def d32 : Fd := ⟨0, ["size", "drawn", "marked", "chances", "up", "seen"], 3, false, b32⟩
def e33_0 : Sts := (.cons (.asg 7 (.call 24 (.cons (.var 0) (.cons (.var 1) (.cons (.trng (.rng2 (.var 2) (.bin .add (.var 1) (.con (.int 1))))) (.cons (.var 4) .nil))))))
    (.cons (.asg 8 (.call 24 (.cons (.var 0) (.cons (.var 1) (.cons (.trng (.rng1 (.bin .add (.var 2) (.con (.int 1))))) (.cons (.var 4) .nil))))))
    (.cons (.ifs (.and (.not (.call 14 (.cons (.var 7) (.cons (.var 5) .nil)))) (.not (.call 14 (.cons (.var 8) (.cons (.var 5) .nil)))))
    (.cons (.app 6 (.var 4))
    .nil)
    .nil)
    .nil)))
def e33_1 : St := .for (.nm 4) (.rng1 (.bin .add (.var 0) (.con (.int 1)))) e33_0
/-- 33: urn_held -/
def b33 : Sts :=
    (.cons (.expr (.call 19 (.cons (.var 0) (.cons (.var 1) .nil))))
    (.cons (.ifs (.not (.call 2 (.cons (.var 2) (.cons (.con (.int 0)) (.cons (.var 1) .nil)))))
    (.cons .never
    .nil)
    .nil)
    (.cons (.expr (.call 11 (.cons (.var 3) .nil)))
    (.cons (.par 5 6 (.tup (.cons (.ix (.var 3) (.con (.int 0))) (.cons (.bin .mul (.ix (.var 3) (.con (.int 1))) (.con c_PAIR_urns)) .nil))) (.lst .nil))
    (.cons e33_1
    (.cons (.ret (.blt .tuple (.cons (.var 6) .nil)))
    .nil))))))
def d33 : Fd := ⟨0, ["size", "drawn", "seen", "told", "marked", "half", "found", "more", "fewer"], 4, false, b33⟩
/-- 34: check_many -/
def b34 : Sts :=
    (.cons (.ifs (.not (.call 2 (.cons (.var 0) (.cons (.con (.int 1)) (.cons (.con c_MOST_COIN) .nil)))))
    (.cons .never
    .nil)
    .nil)
    .nil)
def d34 : Fd := ⟨0, ["many"], 1, false, b34⟩
/-- 35: check_outcome -/
def b35 : Sts :=
    (.cons (.ifs (.not (.call 2 (.cons (.var 1) (.cons (.con (.int 0)) (.cons (.var 0) .nil)))))
    (.cons .never
    .nil)
    .nil)
    .nil)
def d35 : Fd := ⟨0, ["many", "yes"], 2, false, b35⟩
def e36_0 : Ex := .lc (.ite (.cmp .eq (.var 3) (.var 1)) (.call 16 (.cons (.var 0) (.cons (.var 3) .nil))) (.con (.int 0))) (.nm 3) (.rng1 (.bin .add (.var 0) (.con (.int 1)))) .none [3]
theorem frs_e36_0 (d : PyData) : MP.frs e36_0 d = true := rfl
/-- 36: coin_chance -/
def b36 : Sts :=
    (.cons (.expr (.call 34 (.cons (.var 0) .nil)))
    (.cons (.expr (.call 35 (.cons (.var 0) (.cons (.var 1) .nil))))
    (.cons (.expr (.call 11 (.cons (.var 2) .nil)))
    (.cons (.ret (.call 18 (.cons (.tup (.cons (.var 0) (.cons (.blt .tuple (.cons e36_0 .nil)) .nil))) (.cons (.var 2) .nil))))
    .nil))))
def d36 : Fd := ⟨0, ["many", "yes", "share", "at"], 3, false, b36⟩
def e37_0 : Sts := (.cons (.ifs (.not (.call 2 (.cons (.var 2) (.cons (.con (.int 1)) (.cons (.con c_MOST_LOT) .nil)))))
    (.cons .never
    .nil)
    .nil)
    .nil)
def e37_1 : St := .for (.nm 2) (.seq (.tup (.cons (.var 0) (.cons (.var 1) .nil)))) e37_0
/-- 37: check_lots -/
def b37 : Sts :=
    (.cons e37_1
    .nil)
def d37 : Fd := ⟨0, ["one", "other", "many"], 2, false, b37⟩
def e38_0 : Ex := .lc (.tup (.cons (.var 3) (.cons (.bin .sub (.var 2) (.var 3)) .nil))) (.nm 3) (.rng2 (.blt .max2 (.cons (.con (.int 0)) (.cons (.bin .sub (.var 2) (.var 1)) .nil))) (.bin .add (.blt .min2 (.cons (.var 0) (.cons (.var 2) .nil))) (.con (.int 1)))) .none [3]
theorem frs_e38_0 (d : PyData) : MP.frs e38_0 d = true := rfl
/-- 38: margin_of -/
def b38 : Sts :=
    (.cons (.ret e38_0)
    .nil)
def d38 : Fd := ⟨0, ["one", "other", "both", "here"], 3, false, b38⟩
def e39_0 : Ex := .lc (.call 12 (.cons (.bin .mul (.call 16 (.cons (.var 0) (.cons (.var 5) .nil))) (.call 16 (.cons (.var 1) (.cons (.var 6) .nil)))) (.cons (.var 3) .nil))) (.tup (.cons (.nm 5) (.cons (.nm 6) .nil))) (.seq (.var 4)) .none [5, 6]
theorem frs_e39_0 (d : PyData) : MP.frs e39_0 d = true := rfl
/-- 39: margin_shares -/
def b39 : Sts :=
    (.cons (.expr (.call 37 (.cons (.var 0) (.cons (.var 1) .nil))))
    (.cons (.ifs (.not (.call 2 (.cons (.var 2) (.cons (.con (.int 0)) (.cons (.bin .add (.var 0) (.var 1)) .nil)))))
    (.cons .never
    .nil)
    .nil)
    (.cons (.asg 3 (.call 16 (.cons (.bin .add (.var 0) (.var 1)) (.cons (.var 2) .nil))))
    (.cons (.asg 4 (.call 38 (.cons (.var 0) (.cons (.var 1) (.cons (.var 2) .nil)))))
    (.cons (.ret (.blt .tuple (.cons e39_0 .nil)))
    .nil)))))
def d39 : Fd := ⟨0, ["one", "other", "both", "whole", "pairs", "here", "there"], 3, false, b39⟩
/-- 40: _law_pot -/
def b40 : Sts :=
    (.cons (.asg 2 (.ite (.cmp .lt (.var 1) (.blt .len (.cons (.var 0) .nil))) (.ix (.var 0) (.var 1)) (.bin .add (.bin .add (.bin .mod (.blt .sum (.cons (.sl (.var 0) .none (.some (.con (.int 1)))) .nil)) (.con (.int 1000003))) (.bin .mul (.con (.int 6389)) (.var 1))) (.con (.int 431)))))
    (.cons (.asg 3 (.bin .mul (.bin .mod (.blt .int (.cons (.blt .abs (.cons (.var 2) .nil)) .nil)) (.bin .pow (.bin .pow (.con (.int 10)) (.con (.int 60))) (.con (.int 5)))) (.blt .int (.cons (.cmp .ge (.blt .abs (.cons (.var 2) .nil)) (.bin .pow (.con (.int 10)) (.con (.int 18)))) .nil))))
    (.cons (.asg 4 (.bin .mod (.blt .int (.cons (.var 2) .nil)) (.con (.int 2305843009213693951))))
    (.cons (.ret (.lst (.cons (.var 3) (.cons (.bin .mod (.blt .int (.cons (.bin .add (.bin .add (.bin .mul (.var 4) (.con (.int 32359))) (.bin .mul (.bin .mul (.con (.int 4723)) (.var 1)) (.var 1))) (.con (.int 838))) .nil)) (.con (.int 2305843009213693921))) (.cons (.con (.int 0)) .nil)))))
    .nil))))
def d40 : Fd := ⟨0, ["script", "place", "cell", "own", "small"], 2, false, b40⟩
/-- 41: _law_take -/
def b41 : Sts :=
    (.cons (.ifs (.cmp .gt (.ix (.var 0) (.con (.int 0))) (.con (.int 0)))
    (.cons (.asg 4 (.bin .mod (.blt .int (.cons (.ix (.var 0) (.con (.int 0))) .nil)) (.var 1)))
    (.cons (.sub 0 (.con (.int 0)) (.bin .fdiv (.ix (.var 0) (.con (.int 0))) (.var 1)))
    (.cons (.ret (.var 4))
    .nil)))
    .nil)
    (.cons (.sub 0 (.con (.int 2)) (.bin .add (.ix (.var 0) (.con (.int 2))) (.con (.int 1))))
    (.cons (.asg 2 (.ix (.lst (.cons (.con (.int 2147483647)) (.cons (.con (.int 2147483629)) (.cons (.con (.int 2147483587)) (.cons (.con (.int 2147483579)) (.cons (.con (.int 2147483563)) .nil)))))) (.bin .mod (.blt .int (.cons (.ix (.var 0) (.con (.int 2))) .nil)) (.con (.int 5)))))
    (.cons (.asg 3 (.bin .mod (.blt .int (.cons (.bin .pow (.blt .int (.cons (.bin .add (.bin .add (.ix (.var 0) (.con (.int 1))) (.bin .mul (.bin .mul (.con (.int 21757)) (.ix (.var 0) (.con (.int 2)))) (.ix (.var 0) (.con (.int 2))))) (.con (.int 638))) .nil)) (.con (.int 3))) .nil)) (.var 2)))
    (.cons (.asg 3 (.bin .mod (.blt .int (.cons (.bin .mul (.var 3) (.bin .add (.bin .mod (.blt .int (.cons (.var 3) .nil)) (.con (.int 11027))) (.bin .mul (.con (.int 211)) (.ix (.var 0) (.con (.int 2)))))) .nil)) (.con (.int 2305843009213693907))))
    (.cons (.ret (.bin .mod (.blt .int (.cons (.bin .fdiv (.var 3) (.con (.int 157))) .nil)) (.var 1)))
    .nil))))))
def d41 : Fd := ⟨0, ["pot", "upto", "prime", "blend", "digit"], 2, true, b41⟩
/-- 42: _law_of -/
def b42 : Sts :=
    (.cons (.ret (.ix (.var 1) (.call 41 (.io 0 (.cons (.blt .len (.cons (.var 1) .nil)) .nil)))))
    .nil)
def d42 : Fd := ⟨0, ["pot", "some"], 2, true, b42⟩
/-- 43: _law_places -/
def b43 : Sts :=
    (.cons (.ret (.lrng (.rng1 (.blt .max2 (.cons (.con (.int 1)) (.cons (.blt .min2 (.cons (.var 1) (.cons (.blt .len (.cons (.var 0) .nil)) .nil))) .nil))))))
    .nil)
def d43 : Fd := ⟨0, ["script", "most"], 2, false, b43⟩
def e44_0 : Sts := (.cons (.par 0 1 (.var 1) (.bin .mod (.var 0) (.var 1)))
    .nil)
def e44_1 : St := .while fuelW (.cmp .ne (.var 1) (.con (.int 0))) e44_0
/-- 44: _law_gcd -/
def b44 : Sts :=
    (.cons e44_1
    (.cons (.ret (.blt .abs (.cons (.var 0) .nil)))
    .nil))
def d44 : Fd := ⟨0, ["one", "other"], 2, false, b44⟩
/-- 45: _law_ratio -/
def b45 : Sts :=
    (.cons (.asg 2 (.bin .mul (.call 44 (.cons (.var 0) (.cons (.var 1) .nil))) (.ite (.cmp .gt (.var 1) (.con (.int 0))) (.con (.int 1)) (.neg (.con (.int 1))))))
    (.cons (.ret (.tup (.cons (.bin .fdiv (.var 0) (.var 2)) (.cons (.bin .fdiv (.var 1) (.var 2)) .nil))))
    .nil))
def d45 : Fd := ⟨0, ["top", "low", "share"], 2, false, b45⟩
/-- 46: _law_plus -/
def b46 : Sts :=
    (.cons (.ret (.call 45 (.cons (.bin .add (.bin .mul (.ix (.var 0) (.con (.int 0))) (.ix (.var 1) (.con (.int 1)))) (.bin .mul (.ix (.var 1) (.con (.int 0))) (.ix (.var 0) (.con (.int 1))))) (.cons (.bin .mul (.ix (.var 0) (.con (.int 1))) (.ix (.var 1) (.con (.int 1)))) .nil))))
    .nil)
def d46 : Fd := ⟨0, ["one", "other"], 2, false, b46⟩
/-- 47: _law_minus -/
def b47 : Sts :=
    (.cons (.ret (.call 45 (.cons (.bin .sub (.bin .mul (.ix (.var 0) (.con (.int 0))) (.ix (.var 1) (.con (.int 1)))) (.bin .mul (.ix (.var 1) (.con (.int 0))) (.ix (.var 0) (.con (.int 1))))) (.cons (.bin .mul (.ix (.var 0) (.con (.int 1))) (.ix (.var 1) (.con (.int 1)))) .nil))))
    .nil)
def d47 : Fd := ⟨0, ["one", "other"], 2, false, b47⟩
/-- 48: _law_times -/
def b48 : Sts :=
    (.cons (.ret (.call 45 (.cons (.bin .mul (.ix (.var 0) (.con (.int 0))) (.ix (.var 1) (.con (.int 0)))) (.cons (.bin .mul (.ix (.var 0) (.con (.int 1))) (.ix (.var 1) (.con (.int 1)))) .nil))))
    .nil)
def d48 : Fd := ⟨0, ["one", "other"], 2, false, b48⟩
/-- 49: _law_below -/
def b49 : Sts :=
    (.cons (.ret (.cmp .lt (.bin .mul (.ix (.var 0) (.con (.int 0))) (.ix (.var 1) (.con (.int 1)))) (.bin .mul (.ix (.var 1) (.con (.int 0))) (.ix (.var 0) (.con (.int 1))))))
    .nil)
def d49 : Fd := ⟨0, ["one", "other"], 2, false, b49⟩
def e50_0 : Sts := (.cons (.asg 1 (.call 46 (.cons (.var 1) (.cons (.var 2) .nil))))
    .nil)
def e50_1 : St := .for (.nm 2) (.seq (.var 0)) e50_0
/-- 50: _law_total -/
def b50 : Sts :=
    (.cons (.asg 1 (.tup (.cons (.con (.int 0)) (.cons (.con (.int 1)) .nil))))
    (.cons e50_1
    (.cons (.ret (.var 1))
    .nil)))
def d50 : Fd := ⟨0, ["rows", "found", "one"], 1, false, b50⟩
def e51_0 : Sts := (.cons (.asg 2 (.bin .fdiv (.bin .mul (.var 2) (.bin .sub (.var 0) (.var 3))) (.bin .add (.var 3) (.con (.int 1)))))
    .nil)
def e51_1 : St := .for (.nm 3) (.rng1 (.var 1)) e51_0
/-- 51: _law_choose -/
def b51 : Sts :=
    (.cons (.asg 2 (.blt .int (.cons (.chain .le .le (.con (.int 0)) (.var 1) (.var 0)) .nil)))
    (.cons e51_1
    (.cons (.ret (.var 2))
    .nil)))
def d51 : Fd := ⟨0, ["many", "some", "found", "at"], 2, false, b51⟩
def e52_0 : Ex := .lc (.call 45 (.cons (.bin .mul (.call 51 (.cons (.var 2) (.cons (.var 4) .nil))) (.call 51 (.cons (.bin .sub (.var 0) (.var 2)) (.cons (.bin .sub (.var 1) (.var 4)) .nil)))) (.cons (.var 3) .nil))) (.nm 4) (.rng1 (.bin .add (.var 1) (.con (.int 1)))) .none [4]
theorem frs_e52_0 (d : PyData) : MP.frs e52_0 d = true := rfl
/-- 52: _law_own -/
def b52 : Sts :=
    (.cons (.asg 3 (.call 51 (.cons (.var 0) (.cons (.var 1) .nil))))
    (.cons (.ret e52_0)
    .nil))
def d52 : Fd := ⟨0, ["size", "drawn", "marked", "whole", "one"], 3, false, b52⟩
def e53_0 : Ex := .lc (.ix (.var 11) (.var 14)) (.nm 14) (.seq (.var 10)) .none [14]
theorem frs_e53_0 (d : PyData) : MP.frs e53_0 d = true := rfl
def e53_1 : Ex := .lc (.var 14) (.nm 14) (.rng1 (.bin .add (.var 2) (.con (.int 1)))) (.some (.cmp .eq (.call 41 (.io 0 (.cons (.con (.int 2)) .nil))) (.con (.int 0)))) [14]
theorem frs_e53_1 (d : PyData) : MP.frs e53_1 d = true := rfl
def e53_2 : Ex := .lc (.call 50 (.cons (.sl (.var 11) .none (.some (.bin .add (.var 14) (.con (.int 1))))) .nil)) (.nm 14) (.rng1 (.bin .add (.var 2) (.con (.int 1)))) .none [14]
theorem frs_e53_2 (d : PyData) : MP.frs e53_2 d = true := rfl
def e53_3 : Ex := .lc (.call 50 (.cons (.sl (.var 11) (.some (.var 14)) .none) .nil)) (.nm 14) (.rng1 (.bin .add (.var 2) (.con (.int 1)))) .none [14]
theorem frs_e53_3 (d : PyData) : MP.frs e53_3 d = true := rfl
def e53_4 : Ex := .lc (.call 45 (.cons (.var 20) (.cons (.call 51 (.cons (.var 1) (.cons (.var 7) .nil))) .nil))) (.nm 20) (.seq (.var 9)) .none [20]
theorem frs_e53_4 (d : PyData) : MP.frs e53_4 d = true := rfl
def e53_7 : Sts := (.cons (.sub 8 (.var 18) (.call 46 (.cons (.ix (.var 8) (.var 18)) (.cons (.call 48 (.cons (.var 15) (.cons (.var 19) .nil))) .nil))))
    .nil)
def e53_8 : St := .for (.tup (.cons (.nm 18) (.cons (.nm 19) .nil))) (.enum (.call 52 (.cons (.var 2) (.cons (.var 7) (.cons (.var 14) .nil))))) e53_7
def e53_5 : Sts := (.cons e53_8
    .nil)
def e53_6 : St := .for (.tup (.cons (.nm 14) (.cons (.nm 15) .nil))) (.enum (.var 11)) e53_5
def e53_9 : Ex := .lc (.call 48 (.cons (.call 48 (.cons (.call 47 (.cons (.tup (.cons (.var 14) (.cons (.con (.int 1)) .nil))) (.cons (.var 5) .nil))) (.cons (.call 47 (.cons (.tup (.cons (.var 14) (.cons (.con (.int 1)) .nil))) (.cons (.var 5) .nil))) .nil))) (.cons (.var 15) .nil))) (.tup (.cons (.nm 14) (.cons (.nm 15) .nil))) (.enum (.var 11)) .none [14, 15]
theorem frs_e53_9 (d : PyData) : MP.frs e53_9 d = true := rfl
def e53_10 : Ex := .lc (.call 48 (.cons (.tup (.cons (.var 14) (.cons (.con (.int 1)) .nil))) (.cons (.var 15) .nil))) (.tup (.cons (.nm 14) (.cons (.nm 15) .nil))) (.enum (.var 11)) .none [14, 15]
theorem frs_e53_10 (d : PyData) : MP.frs e53_10 d = true := rfl
def e53_11 : Sts := (.cons (.ifs (.cmp .ne (.call 45 (.cons (.ix (.var 13) (.var 14)) (.cons (.call 51 (.cons (.var 1) (.cons (.var 3) .nil))) .nil))) (.ix (.var 11) (.var 14)))
    (.cons (.ret (.con (.bool false)))
    .nil)
    .nil)
    .nil)
def e53_12 : St := .for (.nm 14) (.rng1 (.bin .add (.blt .min2 (.cons (.var 2) (.cons (.var 3) .nil))) (.con (.int 1)))) e53_11
def e53_13 : Ex := .lc (.call 45 (.cons (.var 20) (.cons (.var 4) .nil))) (.nm 20) (.seq (.var 12)) .none [20]
theorem frs_e53_13 (d : PyData) : MP.frs e53_13 d = true := rfl
/-- 53: _law_is_urn_right -/
def b53 : Sts :=
    (.cons (.par 11 12 (.call 52 (.cons (.var 1) (.cons (.var 2) (.cons (.var 3) .nil)))) (.call 25 (.cons (.var 1) (.cons (.var 2) (.cons (.var 3) .nil)))))
    (.cons (.asg 4 (.call 51 (.cons (.var 1) (.cons (.var 2) .nil))))
    (.cons (.ifs (.or (.cmp .ne e53_13 (.var 11)) (.cmp .ne (.blt .sum (.cons (.var 12) .nil)) (.var 4)))
    (.cons (.ret (.con (.bool false)))
    .nil)
    .nil)
    (.cons (.ifs (.cmp .gt (.var 3) (.con (.int 0)))
    (.cons (.asg 13 (.call 25 (.cons (.var 1) (.cons (.var 3) (.cons (.var 2) .nil)))))
    (.cons e53_12
    .nil))
    .nil)
    (.cons (.ifs (.cmp .ne (.call 25 (.cons (.var 1) (.cons (.var 2) (.cons (.bin .sub (.var 1) (.var 3)) .nil)))) (.rev (.var 12)))
    (.cons (.ret (.con (.bool false)))
    .nil)
    .nil)
    (.cons (.asg 5 (.call 50 (.cons e53_10 .nil)))
    (.cons (.ifs (.cmp .ne (.var 5) (.call 45 (.cons (.bin .mul (.var 2) (.var 3)) (.cons (.var 1) .nil))))
    (.cons (.ret (.con (.bool false)))
    .nil)
    .nil)
    (.cons (.asg 6 (.call 50 (.cons e53_9 .nil)))
    (.cons (.ifs (.and (.cmp .gt (.var 1) (.con (.int 1))) (.cmp .ne (.var 6) (.call 45 (.cons (.bin .mul (.bin .mul (.bin .mul (.var 2) (.var 3)) (.bin .sub (.var 1) (.var 3))) (.bin .sub (.var 1) (.var 2))) (.cons (.bin .mul (.bin .mul (.var 1) (.var 1)) (.bin .sub (.var 1) (.con (.int 1)))) .nil)))))
    (.cons (.ret (.con (.bool false)))
    .nil)
    .nil)
    (.cons (.asg 7 (.bin .add (.con (.int 1)) (.blt .int (.cons (.call 41 (.io 0 (.cons (.var 2) .nil))) .nil))))
    (.cons (.asg 8 (.bin .mul (.lst (.cons (.tup (.cons (.con (.int 0)) (.cons (.con (.int 1)) .nil))) .nil)) (.bin .add (.var 7) (.con (.int 1)))))
    (.cons e53_6
    (.cons (.asg 9 (.call 25 (.cons (.var 1) (.cons (.var 7) (.cons (.var 3) .nil)))))
    (.cons (.ifs (.cmp .ne (.var 8) e53_4)
    (.cons (.ret (.con (.bool false)))
    .nil)
    .nil)
    (.cons (.unp (.cons (.nm 16) (.cons (.nm 17) .nil)) (.call 32 (.cons (.var 1) (.cons (.var 2) (.cons (.var 3) .nil)))))
    (.cons (.ifs (.cmp .ne (.blt .list (.cons (.var 16) .nil)) e53_3)
    (.cons (.ret (.con (.bool false)))
    .nil)
    .nil)
    (.cons (.ifs (.cmp .ne (.blt .list (.cons (.var 17) .nil)) e53_2)
    (.cons (.ret (.con (.bool false)))
    .nil)
    .nil)
    (.cons (.asg 10 (.blt .tuple (.cons e53_1 .nil)))
    (.cons (.ret (.cmp .eq (.call 26 (.cons (.var 1) (.cons (.var 2) (.cons (.var 10) (.cons (.var 3) .nil))))) (.call 50 (.cons e53_0 .nil))))
    .nil)))))))))))))))))))
def d53 : Fd := ⟨0, ["pot", "size", "drawn", "marked", "whole", "mid", "squares", "few", "again", "at_once", "region", "own", "ways", "far", "one", "much", "up", "down", "its", "part", "way"], 4, true, b53⟩
def e54_0 : Sts := (.cons (.unp (.cons (.nm 16) (.cons (.nm 17) .nil)) (.call 32 (.cons (.var 1) (.cons (.var 2) (.cons (.var 13) .nil)))))
    (.cons (.ifs (.cmp .eq (.cmp .isin (.var 13) (.var 15)) (.or (.call 49 (.cons (.ix (.var 16) (.var 3)) (.cons (.var 14) .nil))) (.call 49 (.cons (.ix (.var 17) (.var 3)) (.cons (.var 14) .nil)))))
    (.cons (.ret (.con (.bool false)))
    .nil)
    .nil)
    .nil))
def e54_1 : St := .for (.nm 13) (.rng1 (.bin .add (.var 1) (.con (.int 1)))) e54_0
def e54_2 : Ex := .lc (.cmp .isin (.var 20) (.var 11)) (.nm 20) (.seq (.var 9)) .none [20]
theorem frs_e54_2 (d : PyData) : MP.frs e54_2 d = true := rfl
def e54_3 : Ex := .lc (.call 49 (.cons (.var 19) (.cons (.var 18) .nil))) (.tup (.cons (.nm 18) (.cons (.nm 19) .nil))) (.zip (.var 10) (.sl (.var 10) (.some (.con (.int 1))) .none)) .none [18, 19]
theorem frs_e54_3 (d : PyData) : MP.frs e54_3 d = true := rfl
def e54_4 : Ex := .lc (.call 26 (.cons (.var 1) (.cons (.var 2) (.cons (.var 9) (.cons (.var 13) .nil))))) (.nm 13) (.rng2 (.ix (.var 8) (.con (.int 0))) (.bin .add (.ix (.var 8) (.con (.int 1))) (.con (.int 1)))) .none [13]
theorem frs_e54_4 (d : PyData) : MP.frs e54_4 d = true := rfl
def e54_5 : Ex := .lc (.var 13) (.nm 13) (.rng1 (.bin .add (.var 1) (.con (.int 1)))) (.some (.cmp .eq (.ix (.var 4) (.var 13)) (.blt .maxl (.cons (.var 4) .nil)))) [13]
theorem frs_e54_5 (d : PyData) : MP.frs e54_5 d = true := rfl
def e54_6 : Ex := .lc (.ix (.call 25 (.cons (.var 1) (.cons (.var 2) (.cons (.var 13) .nil)))) (.var 3)) (.nm 13) (.rng1 (.bin .add (.var 1) (.con (.int 1)))) .none [13]
theorem frs_e54_6 (d : PyData) : MP.frs e54_6 d = true := rfl
/-- 54: _law_is_likeliest_right -/
def b54 : Sts :=
    (.cons (.asg 3 (.blt .int (.cons (.call 41 (.io 0 (.cons (.bin .add (.var 2) (.con (.int 1))) .nil))) .nil)))
    (.cons (.asg 4 e54_6)
    (.cons (.asg 5 e54_5)
    (.cons (.asg 6 (.bin .mul (.var 3) (.bin .add (.var 1) (.con (.int 1)))))
    (.cons (.asg 7 (.lst (.cons (.blt .min2 (.cons (.var 1) (.cons (.bin .fdiv (.var 6) (.var 2)) .nil))) .nil)))
    (.cons (.ifs (.and (.chain .lt .lt (.con (.int 0)) (.var 3) (.var 2)) (.cmp .eq (.bin .mul (.bin .fdiv (.var 6) (.var 2)) (.var 2)) (.var 6)))
    (.cons (.asg 7 (.bin .add (.lst (.cons (.bin .sub (.ix (.var 7) (.con (.int 0))) (.con (.int 1))) .nil)) (.var 7)))
    .nil)
    .nil)
    (.cons (.ifs (.or (.cmp .ne (.var 5) (.var 7)) (.or (.cmp .ne (.sl (.var 4) .none (.some (.bin .add (.ix (.var 5) (.con (.int 0))) (.con (.int 1))))) (.blt .sorted (.cons (.sl (.var 4) .none (.some (.bin .add (.ix (.var 5) (.con (.int 0))) (.con (.int 1))))) .nil))) (.cmp .ne (.sl (.var 4) (.some (.ix (.var 5) (.con (.int 0)))) .none) (.rev (.blt .sorted (.cons (.sl (.var 4) (.some (.ix (.var 5) (.con (.int 0)))) .none) .nil))))))
    (.cons (.ret (.con (.bool false)))
    .nil)
    .nil)
    (.cons (.asg 8 (.blt .sorted (.cons (.lst (.cons (.blt .int (.cons (.call 41 (.io 0 (.cons (.bin .add (.var 1) (.con (.int 1))) .nil))) .nil)) (.cons (.blt .int (.cons (.call 41 (.io 0 (.cons (.bin .add (.var 1) (.con (.int 1))) .nil))) .nil)) .nil))) .nil)))
    (.cons (.asg 9 (.trng (.rng2 (.var 3) (.bin .add (.var 2) (.con (.int 1))))))
    (.cons (.asg 10 e54_4)
    (.cons (.ifs (.blt .any (.cons e54_3 .nil))
    (.cons (.ret (.con (.bool false)))
    .nil)
    .nil)
    (.cons (.ifs (.cmp .ne (.ix (.call 28 (.cons (.var 1) (.cons (.var 2) (.cons (.var 9) (.cons (.blt .tuple (.cons (.var 8) .nil)) .nil))))) (.con (.int 0))) (.ix (.var 10) (.neg (.con (.int 1)))))
    (.cons (.ret (.con (.bool false)))
    .nil)
    .nil)
    (.cons (.ifs (.cmp .ne (.call 29 (.cons (.var 1) (.cons (.var 2) (.cons (.var 9) (.cons (.ix (.var 10) (.neg (.con (.int 1)))) (.cons (.blt .tuple (.cons (.var 8) .nil)) .nil)))))) (.tup (.cons (.con (.str "holds")) (.cons (.ix (.var 10) (.neg (.con (.int 1)))) .nil))))
    (.cons (.ret (.con (.bool false)))
    .nil)
    .nil)
    (.cons (.asg 11 (.call 31 (.cons (.var 1) (.cons (.var 2) (.cons (.blt .tuple (.cons (.var 8) .nil)) (.cons (.ix (.var 10) (.neg (.con (.int 1)))) (.cons (.con (.str "up")) .nil)))))))
    (.cons (.ifs (.or (.not (.blt .all (.cons e54_2 .nil))) (.cmp .ne (.blt .list (.cons (.var 11) .nil)) (.lrng (.rng2 (.bin .sub (.bin .add (.var 2) (.con (.int 1))) (.blt .len (.cons (.var 11) .nil))) (.bin .add (.var 2) (.con (.int 1)))))))
    (.cons (.ret (.con (.bool false)))
    .nil)
    .nil)
    (.cons (.asg 12 (.call 42 (.io 0 (.cons (.lst (.cons (.tup (.cons (.con (.int 1)) (.cons (.con (.int 10)) .nil))) (.cons (.tup (.cons (.con (.int 1)) (.cons (.con (.int 2)) .nil))) (.cons (.tup (.cons (.con (.int 9)) (.cons (.con (.int 10)) .nil))) .nil)))) .nil))))
    (.cons (.par 14 15 (.call 48 (.cons (.var 12) (.cons (.tup (.cons (.con (.int 1)) (.cons (.con (.int 2)) .nil))) .nil))) (.call 33 (.cons (.var 1) (.cons (.var 2) (.cons (.var 3) (.cons (.var 12) .nil))))))
    (.cons e54_1
    (.cons (.ret (.ite (.cmp .ne (.var 15) (.tup .nil)) (.cmp .eq (.blt .list (.cons (.var 15) .nil)) (.lrng (.rng2 (.ix (.var 15) (.con (.int 0))) (.bin .add (.ix (.var 15) (.neg (.con (.int 1)))) (.con (.int 1)))))) (.con (.bool true))))
    .nil)))))))))))))))))))
def d54 : Fd := ⟨0, ["pot", "size", "drawn", "seen", "rows", "best", "top", "due", "lot", "region", "its", "border", "told", "marked", "half", "held", "up", "down", "here", "there", "one"], 3, true, b54⟩
def e55_0 : Sts := (.cons (.app 5 (.call 48 (.cons (.call 36 (.cons (.var 11) (.cons (.var 6) (.cons (.var 12) .nil)))) (.cons (.call 45 (.cons (.ix (.call 25 (.cons (.var 11) (.cons (.var 7) (.cons (.var 6) .nil)))) (.var 4)) (.cons (.call 51 (.cons (.var 11) (.cons (.var 7) .nil))) .nil))) .nil))))
    .nil)
def e55_1 : St := .for (.nm 6) (.rng1 (.bin .add (.var 11) (.con (.int 1)))) e55_0
def e55_2 : Ex := .lc (.call 45 (.cons (.var 13) (.cons (.var 2) .nil))) (.nm 13) (.seq (.var 9)) .none [13]
theorem frs_e55_2 (d : PyData) : MP.frs e55_2 d = true := rfl
/-- 55: _law_are_two_right -/
def b55 : Sts :=
    (.cons (.par 7 8 (.bin .add (.con (.int 1)) (.blt .int (.cons (.call 41 (.io 0 (.cons (.con (.int 12)) .nil))) .nil))) (.bin .add (.con (.int 1)) (.blt .int (.cons (.call 41 (.io 0 (.cons (.con (.int 12)) .nil))) .nil))))
    (.cons (.asg 1 (.blt .int (.cons (.call 41 (.io 0 (.cons (.bin .add (.bin .add (.var 7) (.var 8)) (.con (.int 1))) .nil))) .nil)))
    (.cons (.par 9 10 (.call 25 (.cons (.bin .add (.var 7) (.var 8)) (.cons (.var 7) (.cons (.var 1) .nil)))) (.call 39 (.cons (.var 7) (.cons (.var 8) (.cons (.var 1) .nil)))))
    (.cons (.asg 2 (.call 51 (.cons (.bin .add (.var 7) (.var 8)) (.cons (.var 7) .nil))))
    (.cons (.asg 3 (.blt .max2 (.cons (.con (.int 0)) (.cons (.bin .sub (.var 1) (.var 8)) .nil))))
    (.cons (.ifs (.cmp .ne (.blt .list (.cons (.var 10) .nil)) (.sl e55_2 (.some (.var 3)) (.some (.bin .add (.var 3) (.blt .len (.cons (.var 10) .nil))))))
    (.cons (.ret (.con (.bool false)))
    .nil)
    .nil)
    (.cons (.par 11 12 (.bin .add (.var 7) (.var 8)) (.call 45 (.cons (.blt .int (.cons (.call 41 (.io 0 (.cons (.con (.int 11)) .nil))) .nil)) (.cons (.con (.int 10)) .nil))))
    (.cons (.asg 4 (.blt .int (.cons (.call 41 (.io 0 (.cons (.bin .add (.var 7) (.con (.int 1))) .nil))) .nil)))
    (.cons (.asg 5 (.lst .nil))
    (.cons e55_1
    (.cons (.ret (.cmp .eq (.call 50 (.cons (.var 5) .nil)) (.call 36 (.cons (.var 7) (.cons (.var 4) (.cons (.var 12) .nil))))))
    .nil)))))))))))
def d55 : Fd := ⟨0, ["pot", "both", "whole", "least", "seen", "rows", "marked", "one", "other", "ways", "told", "size", "share", "way"], 1, true, b55⟩
def e56_2 : Sts := (.cons (.asg 4 (.bin .add (.con (.int 1)) (.blt .int (.cons (.call 41 (.io 2 (.cons (.con (.int 24)) .nil))) .nil))))
    (.cons (.asg 5 (.bin .add (.con (.int 1)) (.blt .int (.cons (.call 41 (.io 2 (.cons (.var 4) .nil))) .nil))))
    (.cons (.ifs (.not (.call 53 (.io 2 (.cons (.var 4) (.cons (.var 5) (.cons (.blt .int (.cons (.call 41 (.io 2 (.cons (.bin .add (.var 4) (.con (.int 1))) .nil))) .nil)) .nil))))))
    (.cons (.ret (.con (.bool false)))
    .nil)
    .nil)
    (.cons (.ifs (.or (.not (.call 54 (.io 2 (.cons (.blt .min2 (.cons (.var 4) (.cons (.con (.int 14)) .nil))) (.cons (.blt .min2 (.cons (.var 5) (.cons (.con (.int 14)) .nil))) .nil))))) (.not (.call 55 (.io 2 .nil))))
    (.cons (.ret (.con (.bool false)))
    .nil)
    .nil)
    .nil))))
def e56_3 : St := .for (.nm 3) (.rng1 (.con (.int 3))) e56_2
def e56_0 : Sts := (.cons (.pot 2 (.call 40 (.cons (.var 0) (.cons (.var 1) .nil))))
    (.cons e56_3
    .nil))
def e56_1 : St := .for (.nm 1) (.seq (.call 43 (.cons (.var 0) (.cons (.con (.int 3)) .nil)))) e56_0
/-- 56: law -/
def b56 : Sts :=
    (.cons e56_1
    (.cons (.ret (.con (.bool true)))
    .nil))
def d56 : Fd := ⟨0, ["script", "place", "pot", "lap", "size", "drawn"], 1, false, b56⟩
def tabL : List Fd := [d0, d1, d2, d3, d4, d5, d6, d7, d8, d9, d10, d11, d12, d13, d14, d15, d16, d17, d18, d19, d20, d21, d22, d23, d24, d25, d26, d27, d28, d29, d30, d31, d32, d33, d34, d35, d36, d37, d38, d39, d40, d41, d42, d43, d44, d45, d46, d47, d48, d49, d50, d51, d52, d53, d54, d55, d56]
def defIx : List Nat := [1, 2, 3, 4, 5, 6, 17, 18, 19, 20, 21, 22, 23, 24, 25, 26, 28, 29, 30, 39, 40, 41, 42, 43, 44, 45, 46, 47, 48, 49, 50, 51, 52, 53, 56, 57, 58, 61, 62, 63, 65, 66, 67, 68, 69, 70, 71, 72, 73, 74, 75, 76, 77, 78, 79, 80, 81]
def psL : List (List Str) := [([("value" : Str), ("least" : Str), ("most" : Str)] : List Str), ([("value" : Str)] : List Str), ([("value" : Str), ("low" : Str), ("high" : Str)] : List Str), ([("values" : Str)] : List Str), ([("value" : Str), ("words" : Str)] : List Str), ([("value" : Str), ("least" : Str), ("most" : Str), ("low" : Str), ("high" : Str)] : List Str), ([("one" : Str), ("other" : Str)] : List Str), ([("one" : Str), ("many" : Str)] : List Str), ([("value" : Str)] : List Str), ([("value" : Str)] : List Str), ([("value" : Str)] : List Str), ([("value" : Str)] : List Str), ([("top" : Str), ("low" : Str)] : List Str), ([("one" : Str), ("other" : Str)] : List Str), ([("one" : Str), ("other" : Str)] : List Str), ([("rows" : Str)] : List Str), ([("many" : Str), ("some" : Str)] : List Str), ([("row" : Str), ("share" : Str)] : List Str), ([("row" : Str), ("share" : Str)] : List Str), ([("size" : Str), ("drawn" : Str)] : List Str), ([("size" : Str), ("marked" : Str)] : List Str), ([("size" : Str), ("drawn" : Str), ("region" : Str)] : List Str), ([("size" : Str), ("lot" : Str)] : List Str), ([("size" : Str), ("drawn" : Str), ("marked" : Str), ("seen" : Str)] : List Str), ([("size" : Str), ("drawn" : Str), ("region" : Str), ("marked" : Str)] : List Str), ([("size" : Str), ("drawn" : Str), ("marked" : Str)] : List Str), ([("size" : Str), ("drawn" : Str), ("region" : Str), ("marked" : Str)] : List Str), ([("size" : Str), ("drawn" : Str), ("region" : Str), ("lot" : Str)] : List Str), ([("size" : Str), ("drawn" : Str), ("region" : Str), ("lot" : Str)] : List Str), ([("size" : Str), ("drawn" : Str), ("region" : Str), ("share" : Str), ("lot" : Str)] : List Str), ([("size" : Str), ("drawn" : Str), ("lot" : Str), ("share" : Str), ("side" : Str)] : List Str), ([("size" : Str), ("drawn" : Str), ("lot" : Str), ("share" : Str), ("side" : Str)] : List Str), ([("size" : Str), ("drawn" : Str), ("marked" : Str)] : List Str), ([("size" : Str), ("drawn" : Str), ("seen" : Str), ("told" : Str)] : List Str), ([("many" : Str)] : List Str), ([("many" : Str), ("yes" : Str)] : List Str), ([("many" : Str), ("yes" : Str), ("share" : Str)] : List Str), ([("one" : Str), ("other" : Str)] : List Str), ([("one" : Str), ("other" : Str), ("both" : Str)] : List Str), ([("one" : Str), ("other" : Str), ("both" : Str)] : List Str), ([("script" : Str), ("place" : Str)] : List Str), ([("pot" : Str), ("upto" : Str)] : List Str), ([("pot" : Str), ("some" : Str)] : List Str), ([("script" : Str), ("most" : Str)] : List Str), ([("one" : Str), ("other" : Str)] : List Str), ([("top" : Str), ("low" : Str)] : List Str), ([("one" : Str), ("other" : Str)] : List Str), ([("one" : Str), ("other" : Str)] : List Str), ([("one" : Str), ("other" : Str)] : List Str), ([("one" : Str), ("other" : Str)] : List Str), ([("rows" : Str)] : List Str), ([("many" : Str), ("some" : Str)] : List Str), ([("size" : Str), ("drawn" : Str), ("marked" : Str)] : List Str), ([("pot" : Str), ("size" : Str), ("drawn" : Str), ("marked" : Str)] : List Str), ([("pot" : Str), ("size" : Str), ("drawn" : Str)] : List Str), ([("pot" : Str)] : List Str), ([("script" : Str)] : List Str)]
def nmL : List Str := [("is_tuple" : Str), ("is_whole" : Str), ("is_integer" : Str), ("is_rising" : Str), ("is_word" : Str), ("are_integers" : Str), ("common_of" : Str), ("whole_power" : Str), ("is_size" : Str), ("is_fraction" : Str), ("is_share" : Str), ("check_share" : Str), ("ratio_of" : Str), ("plus_of" : Str), ("is_below" : Str), ("total_of" : Str), ("choose_of" : Str), ("top_of" : Str), ("row_value_of" : Str), ("check_urn" : Str), ("check_marked" : Str), ("check_urn_region" : Str), ("check_lot" : Str), ("draws_of" : Str), ("urn_chance_of" : Str), ("urn_draws" : Str), ("urn_noes" : Str), ("urn_worst_of" : Str), ("urn_worst" : Str), ("urn_size_at_most" : Str), ("urn_border_of" : Str), ("urn_border" : Str), ("urn_tables" : Str), ("urn_held" : Str), ("check_many" : Str), ("check_outcome" : Str), ("coin_chance" : Str), ("check_lots" : Str), ("margin_of" : Str), ("margin_shares" : Str), ("_law_pot" : Str), ("_law_take" : Str), ("_law_of" : Str), ("_law_places" : Str), ("_law_gcd" : Str), ("_law_ratio" : Str), ("_law_plus" : Str), ("_law_minus" : Str), ("_law_times" : Str), ("_law_below" : Str), ("_law_total" : Str), ("_law_choose" : Str), ("_law_own" : Str), ("_law_is_urn_right" : Str), ("_law_is_likeliest_right" : Str), ("_law_are_two_right" : Str), ("law" : Str)]
def cstL : List (Str × PyData) := [(("PAIR_fractions" : Str), c_PAIR_fractions), (("MOST_SIZE" : Str), c_MOST_SIZE), (("NOUGHT" : Str), c_NOUGHT), (("PAIR_urns" : Str), c_PAIR_urns), (("MOST_URN" : Str), c_MOST_URN), (("MOST_DRAWN" : Str), c_MOST_DRAWN), (("UP" : Str), c_UP), (("DOWN" : Str), c_DOWN), (("HOLDS" : Str), c_HOLDS), (("FAILS" : Str), c_FAILS), (("MOST_COIN" : Str), c_MOST_COIN), (("MOST_LOT" : Str), c_MOST_LOT)]
end K06
set_option Elab.async false
set_option linter.all false
set_option maxRecDepth 100000
set_option maxHeartbeats 0
/-! k06: the texts stand for the law's. -/
namespace K06
open PySem PySem.Spec PyProof.Rows L2 MP
def prog : Program := PySem.Challenge.pw_neveroftener_k06_whole_draws_of_draws
def top (i : Nat) : Stmt := prog.main.body.getD i (.Pass ⟨0, 0, 0, 0⟩)
def ixT (j : Nat) : Nat := defIx.getD j 0
def idxOf (x : Str) : List Str → Nat → Option Nat
  | [], _ => none
  | y :: r, j => if y = x then some j else idxOf x r (j + 1)
def G : Prg where
  nm := fun j => nmL.getD j Str.empty
  args := fun j => defArgs (top (ixT j))
  body := fun j => defBody (top (ixT j))
  scope := fun j => defScope (top (ixT j))
  ps := fun j => psL.getD j []
  tab := fun j => tabL[j]?
  idx := fun x => idxOf x nmL 0
  cst := fun x => cstL.lookup x
  fuel := 60
theorem okAll : (List.range 57).all G.okB = true := by decide +kernel
end K06
set_option Elab.async false
set_option linter.all false
set_option maxRecDepth 100000
/-! k06: numbers. Binomials, sums. -/
namespace K06

/-- binomials -/
def ch : Nat → Nat → Nat
  | _, 0 => 1
  | 0, _ + 1 => 0
  | n + 1, k + 1 => ch n k + ch n (k + 1)
theorem ch_zero (n : Nat) : ch n 0 = 1 := by cases n <;> rfl
theorem ch_succ (n k : Nat) : ch (n + 1) (k + 1) = ch n k + ch n (k + 1) := rfl
theorem ch_gt : ∀ {n k : Nat}, n < k → ch n k = 0
  | 0, 0, h => absurd h (by omega)
  | 0, _ + 1, _ => rfl
  | n + 1, 0, h => absurd h (by omega)
  | n + 1, k + 1, h => by rw [ch_succ, ch_gt (by omega), ch_gt (by omega)]
theorem ch_self : ∀ n : Nat, ch n n = 1
  | 0 => rfl
  | n + 1 => by rw [ch_succ, ch_self n, ch_gt (Nat.lt_succ_self n)]
theorem ch_pos : ∀ {n k : Nat}, k ≤ n → 0 < ch n k
  | n, 0, _ => by rw [ch_zero]; omega
  | 0, k + 1, h => absurd h (by omega)
  | n + 1, k + 1, h => by
    rw [ch_succ]
    have := ch_pos (n := n) (k := k) (by omega)
    omega
/-- (k+1) C(n,k+1) = (n-k) C(n,k) -/
theorem ch_step : ∀ (n k : Nat), (k + 1) * ch n (k + 1) = (n - k) * ch n k
  | 0, k => by
    rw [show ch 0 (k + 1) = 0 from rfl, show 0 - k = 0 from by omega]
    simp
  | n + 1, 0 => by
    have h := ch_step n 0
    rw [ch_succ, ch_zero, ch_zero]
    rw [ch_zero] at h
    simp at h ⊢
    omega
  | n + 1, k + 1 => by
    have h1 := ch_step n k
    have h2 := ch_step n (k + 1)
    rw [ch_succ n (k + 1), ch_succ n k]
    by_cases hk : k + 1 ≤ n
    · have e1 : n + 1 - (k + 1) = (n - (k + 1)) + 1 := by omega
      have e2 : n - k = (n - (k + 1)) + 1 := by omega
      rw [e2] at h1
      rw [e1]
      generalize n - (k + 1) = m at h1 h2 ⊢
      generalize ch n (k + 1 + 1) = c at h2 ⊢
      generalize ch n (k + 1) = b at h1 h2 ⊢
      generalize ch n k = a at h1 ⊢
      have h1' : (k + 1) * b = (m + 1) * a := h1
      have h2' : (k + 1 + 1) * c = m * b := h2
      rw [Nat.mul_add, h2', Nat.mul_add (m + 1), ← h1']
      rw [Nat.add_mul m 1 b, Nat.one_mul, Nat.add_mul (k + 1) 1 b, Nat.one_mul]
      omega
    · have e1 : n + 1 - (k + 1) = 0 := by omega
      rw [e1, ch_gt (show n < k + 1 from by omega), ch_gt (show n < k + 1 + 1 from by omega)]
      simp
/-- k C(n,k) = n C(n-1,k-1) -/
theorem ch_abs (n k : Nat) : (k + 1) * ch (n + 1) (k + 1) = (n + 1) * ch n k := by
  have h := ch_step n k
  rw [ch_succ, Nat.mul_add, h]
  by_cases hk : k ≤ n
  · rw [← Nat.add_mul]
    congr 1
    omega
  · rw [ch_gt (by omega)]
    simp
theorem ch_symm : ∀ (n k : Nat), k ≤ n → ch n (n - k) = ch n k
  | 0, k, h => by
    have : k = 0 := by omega
    subst this
    rfl
  | n + 1, 0, _ => by rw [Nat.sub_zero, ch_self, ch_zero]
  | n + 1, k + 1, h => by
    by_cases hk : k = n
    · subst hk
      rw [Nat.sub_self, ch_self, ch_zero]
    · have e : n + 1 - (k + 1) = (n - (k + 1)) + 1 := by omega
      rw [e, ch_succ, ch_succ, ch_symm n (k + 1) (by omega)]
      have e2 : n - (k + 1) + 1 = n - k := by omega
      rw [e2, ch_symm n k (by omega)]
      omega
/-- C(n,k) C(k,j) = C(n,j) C(n-j,k-j) -/
theorem ch_sub : ∀ (n k j : Nat), ch n k * ch k j = if j ≤ k then ch n j * ch (n - j) (k - j) else 0
  | n, k, 0 => by simp [ch_zero]
  | 0, 0, j + 1 => by simp [ch]
  | 0, k + 1, j + 1 => by
    by_cases h : j + 1 ≤ k + 1
    · rw [if_pos h, show ch 0 (k + 1) = 0 from rfl, show ch 0 (j + 1) = 0 from rfl]
      simp
    · rw [if_neg h, show ch 0 (k + 1) = 0 from rfl]
      simp
  | n + 1, 0, j + 1 => by simp [ch]
  | n + 1, k + 1, j + 1 => by
    have ih := ch_sub n k j
    have h1 := ch_abs n k
    have h2 := ch_abs k j
    have h3 := ch_abs n j
    by_cases h : j ≤ k
    · rw [if_pos h] at ih
      rw [if_pos (by omega)]
      rw [show n + 1 - (j + 1) = n - j from by omega, show k + 1 - (j + 1) = k - j from by omega]
      apply Nat.eq_of_mul_eq_mul_left (show 0 < (k + 1) * (j + 1) from Nat.mul_pos (by omega) (by omega))
      calc (k + 1) * (j + 1) * (ch (n + 1) (k + 1) * ch (k + 1) (j + 1))
          = ((k + 1) * ch (n + 1) (k + 1)) * ((j + 1) * ch (k + 1) (j + 1)) := by ac_rfl
        _ = ((n + 1) * ch n k) * ((k + 1) * ch k j) := by rw [h1, h2]
        _ = (n + 1) * (k + 1) * (ch n k * ch k j) := by ac_rfl
        _ = (n + 1) * (k + 1) * (ch n j * ch (n - j) (k - j)) := by rw [ih]
        _ = (k + 1) * (((n + 1) * ch n j) * ch (n - j) (k - j)) := by ac_rfl
        _ = (k + 1) * (((j + 1) * ch (n + 1) (j + 1)) * ch (n - j) (k - j)) := by rw [h3]
        _ = (k + 1) * (j + 1) * (ch (n + 1) (j + 1) * ch (n - j) (k - j)) := by ac_rfl
    · rw [if_neg (by omega), ch_gt (show k + 1 < j + 1 from by omega)]
      simp

/-! ### sums over 0 .. n-1 -/
def su (f : Nat → Nat) : Nat → Nat
  | 0 => 0
  | n + 1 => su f n + f n
theorem su_congr {f g : Nat → Nat} : ∀ {n : Nat}, (∀ k, k < n → f k = g k) → su f n = su g n
  | 0, _ => rfl
  | n + 1, h => by
    show su f n + f n = su g n + g n
    rw [su_congr fun k hk => h k (by omega), h n (by omega)]
theorem su_add (f g : Nat → Nat) : ∀ n : Nat, su (fun k => f k + g k) n = su f n + su g n
  | 0 => rfl
  | n + 1 => by
    show su _ n + (f n + g n) = (su f n + f n) + (su g n + g n)
    rw [su_add f g n]
    omega
theorem su_mul (c : Nat) (f : Nat → Nat) : ∀ n : Nat, su (fun k => c * f k) n = c * su f n
  | 0 => rfl
  | n + 1 => by
    show su _ n + _ = c * (su f n + f n)
    rw [su_mul c f n, Nat.mul_add]
theorem su_zero {f : Nat → Nat} {n : Nat} (h : ∀ k, k < n → f k = 0) : su f n = 0 := by
  rw [su_congr (g := fun _ => 0) h]
  induction n with
  | zero => rfl
  | succ n ih => exact ih fun k hk => h k (by omega)
/-- the first apart -/
theorem su_first (f : Nat → Nat) : ∀ n : Nat, su f (n + 1) = f 0 + su (fun k => f (k + 1)) n
  | 0 => by show 0 + f 0 = f 0 + 0; omega
  | n + 1 => by
    show su f (n + 1) + f (n + 1) = f 0 + (su (fun k => f (k + 1)) n + f (n + 1))
    rw [su_first f n]
    omega
theorem su_le {f g : Nat → Nat} : ∀ {n : Nat}, (∀ k, k < n → f k ≤ g k) → su f n ≤ su g n
  | 0, _ => Nat.le_refl _
  | n + 1, h => Nat.add_le_add (su_le fun k hk => h k (by omega)) (h n (by omega))
/-- Vandermonde: Σ_k C(a,k) C(b,n-k) = C(a+b,n) -/
theorem vand : ∀ (a b n : Nat), su (fun k => ch a k * ch b (n - k)) (n + 1) = ch (a + b) n
  | 0, b, n => by
    rw [su_first, ch_zero, Nat.one_mul, Nat.sub_zero, Nat.zero_add]
    rw [su_zero]
    · rfl
    · intro k _
      rw [show ch 0 (k + 1) = 0 from rfl, Nat.zero_mul]
  | a + 1, b, 0 => by
    show 0 + ch (a + 1) 0 * ch b (0 - 0) = ch (a + 1 + b) 0
    rw [ch_zero, ch_zero, ch_zero]
  | a + 1, b, n + 1 => by
    have ih1 := vand a b n
    have ih2 := vand a b (n + 1)
    rw [su_first]
    have e : su (fun k => ch (a + 1) (k + 1) * ch b (n + 1 - (k + 1))) (n + 1) = su (fun k => ch a k * ch b (n - k)) (n + 1) + su (fun k => ch a (k + 1) * ch b (n + 1 - (k + 1))) (n + 1) := by
      rw [← su_add]
      refine su_congr fun k _ => ?_
      rw [ch_succ, Nat.add_mul, show n + 1 - (k + 1) = n - k from by omega]
    rw [e, ih1]
    rw [su_first] at ih2
    rw [ch_zero] at ih2 ⊢
    rw [show a + 1 + b = (a + b) + 1 from by omega, ch_succ]
    omega
/-- C(a,u) C(a-u,v) both ways -/
theorem ch_two (a u v : Nat) : ch a u * ch (a - u) v = ch a v * ch (a - v) u := by
  have h1 := ch_sub a (u + v) u
  have h2 := ch_sub a (u + v) v
  rw [if_pos (by omega), show u + v - u = v from by omega] at h1
  rw [if_pos (by omega), show u + v - v = u from by omega] at h2
  rw [← h1, ← h2, ← ch_symm (u + v) u (by omega), show u + v - u = v from by omega]
/-- ways to draw k marked ones -/
def dr (s d m k : Nat) : Nat := ch m k * ch (s - m) (d - k)
theorem dr_sum {s d m : Nat} (hm : m ≤ s) : su (dr s d m) (d + 1) = ch s d := by
  have := vand m (s - m) d
  rw [show m + (s - m) = s from by omega] at this
  exact this
/-- drawn and marked exchanged -/
theorem dr_swap {s d m k : Nat} (hd : d ≤ s) (hm : m ≤ s) (h1 : k ≤ d) (h2 : k ≤ m) : dr s m d k * ch s d = dr s d m k * ch s m := by
  unfold dr
  have e1 := ch_sub s d k
  have e2 := ch_sub s m k
  rw [if_pos h1] at e1
  rw [if_pos h2] at e2
  have e3 := ch_two (s - k) (d - k) (m - k)
  rw [show s - k - (d - k) = s - d from by omega, show s - k - (m - k) = s - m from by omega] at e3
  calc ch d k * ch (s - d) (m - k) * ch s d = (ch s d * ch d k) * ch (s - d) (m - k) := by ac_rfl
    _ = (ch s k * ch (s - k) (d - k)) * ch (s - d) (m - k) := by rw [e1]
    _ = ch s k * (ch (s - k) (d - k) * ch (s - d) (m - k)) := by ac_rfl
    _ = ch s k * (ch (s - k) (m - k) * ch (s - m) (d - k)) := by rw [e3]
    _ = (ch s k * ch (s - k) (m - k)) * ch (s - m) (d - k) := by ac_rfl
    _ = (ch s m * ch m k) * ch (s - m) (d - k) := by rw [e2]
    _ = ch m k * ch (s - m) (d - k) * ch s m := by ac_rfl
/-- the middle -/
theorem dr_mid : ∀ {s d m : Nat}, m ≤ s → d ≤ s → s * su (fun k => k * dr s d m k) (d + 1) = d * m * ch s d
  | s, 0, m, _, _ => by
    show s * (0 + 0 * _) = 0 * m * _
    simp
  | s, d + 1, 0, _, _ => by
    rw [su_zero]
    · simp
    · intro k _
      cases k with
      | zero => simp
      | succ k => show (k + 1) * (ch 0 (k + 1) * _) = 0; rw [show ch 0 (k + 1) = 0 from rfl]; simp
  | 0, d + 1, m + 1, h, _ => absurd h (by omega)
  | s + 1, d + 1, m + 1, hm, hd => by
    have hv := dr_sum (s := s) (d := d) (m := m) (by omega)
    rw [su_first, Nat.zero_mul, Nat.zero_add]
    have e : su (fun k => (k + 1) * dr (s + 1) (d + 1) (m + 1) (k + 1)) (d + 1) = (m + 1) * ch s d := by
      rw [← hv, ← su_mul]
      refine su_congr fun k _ => ?_
      unfold dr
      rw [show s + 1 - (m + 1) = s - m from by omega, show d + 1 - (k + 1) = d - k from by omega]
      rw [← Nat.mul_assoc, ch_abs m k]
      ac_rfl
    rw [e]
    have ha := ch_abs s d
    calc (s + 1) * ((m + 1) * ch s d) = (m + 1) * ((s + 1) * ch s d) := by ac_rfl
      _ = (m + 1) * ((d + 1) * ch (s + 1) (d + 1)) := by rw [ha]
      _ = (d + 1) * (m + 1) * ch (s + 1) (d + 1) := by ac_rfl
/-- the middle of k (k - 1) -/
theorem dr_mid2 : ∀ {s d m : Nat}, m ≤ s → d ≤ s → s * (s - 1) * su (fun k => k * (k - 1) * dr s d m k) (d + 1) = d * (d - 1) * (m * (m - 1)) * ch s d
  | s, 0, m, _, _ => by
    show s * (s - 1) * (0 + 0 * _ * _) = 0 * _ * _ * _
    simp
  | s, d + 1, 0, _, _ => by
    rw [su_zero]
    · simp
    · intro k _
      cases k with
      | zero => simp
      | succ k => show (k + 1) * (k + 1 - 1) * (ch 0 (k + 1) * _) = 0; rw [show ch 0 (k + 1) = 0 from rfl]; simp
  | 0, d + 1, m + 1, h, _ => absurd h (by omega)
  | s + 1, d + 1, m + 1, hm, hd => by
    have hv := dr_mid (s := s) (d := d) (m := m) (by omega) (by omega)
    rw [su_first, show 0 * (0 - 1) * dr (s + 1) (d + 1) (m + 1) 0 = 0 from by simp, Nat.zero_add]
    have e : su (fun k => (k + 1) * (k + 1 - 1) * dr (s + 1) (d + 1) (m + 1) (k + 1)) (d + 1) = (m + 1) * su (fun k => k * dr s d m k) (d + 1) := by
      rw [← su_mul]
      refine su_congr fun k _ => ?_
      unfold dr
      rw [show s + 1 - (m + 1) = s - m from by omega, show d + 1 - (k + 1) = d - k from by omega, show k + 1 - 1 = k from rfl]
      have := ch_abs m k
      calc (k + 1) * k * (ch (m + 1) (k + 1) * ch (s - m) (d - k)) = ((k + 1) * ch (m + 1) (k + 1)) * (k * ch (s - m) (d - k)) := by ac_rfl
        _ = ((m + 1) * ch m k) * (k * ch (s - m) (d - k)) := by rw [this]
        _ = (m + 1) * (k * (ch m k * ch (s - m) (d - k))) := by ac_rfl
    rw [e, show s + 1 - 1 = s from rfl, show d + 1 - 1 = d from rfl, show m + 1 - 1 = m from rfl]
    have ha := ch_abs s d
    calc (s + 1) * s * ((m + 1) * su (fun k => k * dr s d m k) (d + 1)) = (s + 1) * (m + 1) * (s * su (fun k => k * dr s d m k) (d + 1)) := by ac_rfl
      _ = (s + 1) * (m + 1) * (d * m * ch s d) := by rw [hv]
      _ = (m + 1) * d * m * ((s + 1) * ch s d) := by ac_rfl
      _ = (m + 1) * d * m * ((d + 1) * ch (s + 1) (d + 1)) := by rw [ha]
      _ = (d + 1) * d * ((m + 1) * m) * ch (s + 1) (d + 1) := by ac_rfl
theorem su_split (f : Nat → Nat) (a : Nat) : ∀ b : Nat, su f (a + b) = su f a + su (fun k => f (a + k)) b
  | 0 => rfl
  | b + 1 => by
    show su f (a + b) + f (a + b) = su f a + (su (fun k => f (a + k)) b + f (a + b))
    rw [su_split f a b]
    omega
/-- drawn of what was drawn -/
theorem dr_dr {s d m f j : Nat} (hm : m ≤ s) (hd : d ≤ s) (hf : f ≤ d) (hj : j ≤ f) : su (fun k => dr s d m k * dr d f k j) (d + 1) = dr s f m j * ch (s - f) (d - f) := by
  have term : ∀ k, k ≤ d → dr s d m k * dr d f k j = ch m j * ch (s - m) (f - j) * (if j ≤ k ∧ f - j ≤ d - k then ch (m - j) (k - j) * ch (s - m - (f - j)) (d - k - (f - j)) else 0) := by
    intro k hk
    unfold dr
    have h1 := ch_sub m k j
    have h2 := ch_sub (s - m) (d - k) (f - j)
    calc ch m k * ch (s - m) (d - k) * (ch k j * ch (d - k) (f - j)) = (ch m k * ch k j) * (ch (s - m) (d - k) * ch (d - k) (f - j)) := by ac_rfl
      _ = _ := by
        rw [h1, h2]
        by_cases a : j ≤ k
        · by_cases b : f - j ≤ d - k
          · rw [if_pos a, if_pos b, if_pos ⟨a, b⟩]
            ac_rfl
          · have hc : ¬(j ≤ k ∧ f - j ≤ d - k) := fun z => b z.2
            rw [if_neg b, if_neg hc, Nat.mul_zero, Nat.mul_zero]
        · have hc : ¬(j ≤ k ∧ f - j ≤ d - k) := fun z => a z.1
          rw [if_neg a, if_neg hc, Nat.zero_mul, Nat.mul_zero]
  rw [su_congr (g := fun k => ch m j * ch (s - m) (f - j) * (if j ≤ k ∧ f - j ≤ d - k then ch (m - j) (k - j) * ch (s - m - (f - j)) (d - k - (f - j)) else 0)) fun k hk => term k (by omega)]
  rw [su_mul]
  show _ = ch m j * ch (s - m) (f - j) * ch (s - f) (d - f)
  by_cases c1 : j ≤ m
  · by_cases c2 : f - j ≤ s - m
    · congr 1
      rw [show d + 1 = j + ((d - f + 1) + (f - j)) from by omega, su_split, su_split]
      rw [su_zero (n := j)]
      · rw [su_zero (n := f - j)]
        · have hv := vand (m - j) (s - m - (f - j)) (d - f)
          rw [show m - j + (s - m - (f - j)) = s - f from by omega] at hv
          rw [← hv, Nat.zero_add, Nat.add_zero]
          refine su_congr fun k hk => ?_
          rw [if_pos ⟨by omega, by omega⟩, show j + k - j = k from by omega, show d - (j + k) - (f - j) = d - f - k from by omega]
        · intro k hk
          rw [if_neg]
          omega
      · intro k hk
        rw [if_neg]
        omega
    · rw [ch_gt (show s - m < f - j from by omega)]
      simp
  · rw [ch_gt (show m < j from by omega)]
    simp
/-- .. as chances: Σ_k D_k (its part) C(s,f) = D'_j C(s,d) C(d,f) -/
theorem dr_dr' {s d m f j : Nat} (hm : m ≤ s) (hd : d ≤ s) (hf : f ≤ d) (hj : j ≤ f) : su (fun k => dr s d m k * dr d f k j) (d + 1) * ch s f = dr s f m j * (ch s d * ch d f) := by
  rw [dr_dr hm hd hf hj]
  have := ch_sub s d f
  rw [if_pos hf] at this
  rw [this]
  ac_rfl
/-- the tail from e on, by one marked more -/
def tl (s d m e : Nat) : Nat := su (fun t => dr s d m (e + t)) (d + 1 - e)
theorem tl_step {s d m e : Nat} (hm : m < s) (he : e + 1 ≤ d) : tl s d (m + 1) (e + 1) = tl s d m (e + 1) + ch m e * ch (s - (m + 1)) (d - (e + 1)) := by
  have key : ∀ n, n ≤ d - e → su (fun t => dr s d (m + 1) (e + 1 + t)) n + ch m (e + n) * (if e + n + 1 ≤ d then ch (s - (m + 1)) (d - (e + n + 1)) else 0) = su (fun t => dr s d m (e + 1 + t)) n + ch m e * ch (s - (m + 1)) (d - (e + 1)) := by
    intro n
    induction n with
    | zero =>
      intro _
      show 0 + _ = 0 + _
      rw [if_pos (by omega)]
      rfl
    | succ n ih =>
      intro hn
      have ih := ih (by omega)
      rw [if_pos (by omega)] at ih
      show su _ n + dr s d (m + 1) (e + 1 + n) + _ = su _ n + dr s d m (e + 1 + n) + _
      have e1 : dr s d (m + 1) (e + 1 + n) = (ch m (e + n) + ch m (e + n + 1)) * ch (s - (m + 1)) (d - (e + n + 1)) := by
        unfold dr
        rw [show e + 1 + n = e + n + 1 from by omega, ch_succ]
      have e2 : dr s d m (e + 1 + n) = ch m (e + n + 1) * (ch (s - (m + 1)) (d - (e + n + 1)) + if e + n + 1 + 1 ≤ d then ch (s - (m + 1)) (d - (e + n + 1 + 1)) else 0) := by
        unfold dr
        rw [show e + 1 + n = e + n + 1 from by omega]
        congr 1
        by_cases c : e + n + 1 + 1 ≤ d
        · rw [if_pos c, show s - m = (s - (m + 1)) + 1 from by omega, show d - (e + n + 1) = (d - (e + n + 1 + 1)) + 1 from by omega, ch_succ]
          omega
        · rw [if_neg c, show d - (e + n + 1) = 0 from by omega, ch_zero, ch_zero]
      rw [e1, e2, show e + (n + 1) = e + n + 1 from by omega]
      generalize (if e + n + 1 + 1 ≤ d then ch (s - (m + 1)) (d - (e + n + 1 + 1)) else 0) = z at *
      generalize ch (s - (m + 1)) (d - (e + n + 1)) = y at *
      rw [Nat.add_mul, Nat.mul_add]
      omega
  have h := key (d - e) (Nat.le_refl _)
  rw [if_neg (by omega), Nat.mul_zero, Nat.add_zero] at h
  unfold tl
  rw [show d + 1 - (e + 1) = d - e from by omega]
  exact h
theorem tl_zero {s d m : Nat} (hm : m ≤ s) : tl s d m 0 = ch s d := by
  unfold tl
  rw [Nat.sub_zero, ← dr_sum hm]
  refine su_congr fun k _ => ?_
  rw [Nat.zero_add]
theorem tl_mono {s d m e : Nat} (hm : m < s) (he : e ≤ d) : tl s d m e ≤ tl s d (m + 1) e := by
  cases e with
  | zero => rw [tl_zero (by omega), tl_zero (by omega)]; exact Nat.le_refl _
  | succ e => rw [tl_step hm he]; omega
theorem tl_le {s d e : Nat} (he : e ≤ d) {m m' : Nat} (h : m ≤ m') (hs : m' ≤ s) : tl s d m e ≤ tl s d m' e := by
  induction m' with
  | zero =>
    have : m = 0 := by omega
    subst this
    exact Nat.le_refl _
  | succ n ih =>
    by_cases c : m = n + 1
    · subst c
      exact Nat.le_refl _
    · exact Nat.le_trans (ih (by omega) (by omega)) (tl_mono (by omega) he)
/-- the head up to e -/
theorem hd_tl {s d m e : Nat} (hm : m ≤ s) (he : e ≤ d) : su (dr s d m) e + tl s d m e = ch s d := by
  have := su_split (dr s d m) e (d + 1 - e)
  rw [show e + (d + 1 - e) = d + 1 from by omega, dr_sum hm] at this
  unfold tl
  omega
theorem ch_le : ∀ n k : Nat, ch n k ≤ 2 ^ n
  | n, 0 => by rw [ch_zero]; exact Nat.one_le_two_pow
  | 0, k + 1 => Nat.zero_le _
  | n + 1, k + 1 => by
    have h1 := ch_le n k
    have h2 := ch_le n (k + 1)
    rw [ch_succ, Nat.pow_succ]
    omega
theorem su_le_mul {f : Nat → Nat} {B : Nat} : ∀ {n : Nat}, (∀ k, k < n → f k ≤ B) → su f n ≤ n * B
  | 0, _ => Nat.zero_le _
  | n + 1, h => by
    have := su_le_mul (f := f) (n := n) fun k hk => h k (by omega)
    have := h n (by omega)
    show su f n + f n ≤ (n + 1) * B
    rw [Nat.add_mul]
    omega
theorem dr_le {s d m k : Nat} (hm : m ≤ s) (hk : k ≤ d) : dr s d m k ≤ ch s d := by
  rw [← dr_sum hm]
  have : ∀ n, k < n → dr s d m k ≤ su (dr s d m) n := by
    intro n
    induction n with
    | zero => intro h; omega
    | succ n ih =>
      intro h
      show _ ≤ su _ n + _
      by_cases e : k = n
      · subst e
        omega
      · have := ih (by omega)
        omega
  exact this _ (by omega)
/-! ### sums of whole numbers -/
def sz (f : Nat → Int) : Nat → Int
  | 0 => 0
  | n + 1 => sz f n + f n
theorem sz_nat (g : Nat → Nat) : ∀ n : Nat, sz (fun i => (g i : Int)) n = (su g n : Nat)
  | 0 => rfl
  | n + 1 => by
    show sz _ n + (g n : Int) = ((su g n + g n : Nat) : Int)
    rw [sz_nat g n]
    omega
theorem sz_congr {f g : Nat → Int} : ∀ {n : Nat}, (∀ k, k < n → f k = g k) → sz f n = sz g n
  | 0, _ => rfl
  | n + 1, h => by
    show sz f n + f n = sz g n + g n
    rw [sz_congr fun k hk => h k (by omega), h n (by omega)]
theorem sz_mul (c : Int) (f : Nat → Int) : ∀ n : Nat, sz (fun k => c * f k) n = c * sz f n
  | 0 => by show (0 : Int) = c * 0; rw [Int.mul_zero]
  | n + 1 => by
    show sz _ n + c * f n = c * (sz f n + f n)
    rw [sz_mul c f n, Int.mul_add]
theorem sz_add (f g : Nat → Int) : ∀ n : Nat, sz (fun k => f k + g k) n = sz f n + sz g n
  | 0 => rfl
  | n + 1 => by
    show sz _ n + (f n + g n) = (sz f n + f n) + (sz g n + g n)
    rw [sz_add f g n]
    omega
theorem sz_pairs (B : Nat → Int) : ∀ q : Nat, sz (fun i => B (2 * i) + B (1 + 2 * i)) q = sz B (2 * q)
  | 0 => rfl
  | q + 1 => by
    show sz _ q + (B (2 * q) + B (1 + 2 * q)) = sz B (2 * q + 2)
    rw [sz_pairs B q]
    show _ = (sz B (2 * q) + B (2 * q)) + B (2 * q + 1)
    rw [show 1 + 2 * q = 2 * q + 1 from by omega]
    omega
/-- one turn of the sums by pairs -/
def half (L : Nat) (B : Nat → Int) : Nat → Int := fun i => if i < L / 2 then B (2 * i) + B (1 + 2 * i) else B (L - 1)
theorem half_sum (L : Nat) (B : Nat → Int) : sz (half L B) ((L + 1) / 2) = sz B L := by
  have h1 : sz (half L B) (L / 2) = sz B (2 * (L / 2)) := by
    rw [← sz_pairs]
    refine sz_congr fun i hi => ?_
    unfold half
    rw [if_pos hi]
  by_cases c : L % 2 = 0
  · rw [show (L + 1) / 2 = L / 2 from by omega, h1, show 2 * (L / 2) = L from by omega]
  · rw [show (L + 1) / 2 = L / 2 + 1 from by omega]
    show sz (half L B) (L / 2) + half L B (L / 2) = _
    rw [h1]
    have e : half L B (L / 2) = B (2 * (L / 2)) := by
      unfold half
      rw [if_neg (by omega), show L - 1 = 2 * (L / 2) from by omega]
    rw [e]
    have hL : L = 2 * (L / 2) + 1 := by omega
    calc sz B (2 * (L / 2)) + B (2 * (L / 2)) = sz B (2 * (L / 2) + 1) := rfl
      _ = sz B L := by rw [← hL]
theorem sz_nn {B : Nat → Int} : ∀ {n : Nat}, (∀ i, i < n → 0 ≤ B i) → 0 ≤ sz B n
  | 0, _ => Int.le_refl _
  | n + 1, h => by
    have := sz_nn (B := B) (n := n) fun i hi => h i (by omega)
    have := h n (by omega)
    show 0 ≤ sz B n + B n
    omega
theorem sz_ge {B : Nat → Int} {i : Nat} : ∀ {n : Nat}, (∀ j, j < n → 0 ≤ B j) → i < n → B i ≤ sz B n
  | 0, _, h => absurd h (by omega)
  | n + 1, hB, h => by
    have h0 := sz_nn (B := B) (n := n) fun j hj => hB j (by omega)
    have h1 := hB n (by omega)
    show B i ≤ sz B n + B n
    by_cases e : i = n
    · subst e
      omega
    · have := sz_ge (B := B) (i := i) (n := n) (fun j hj => hB j (by omega)) (by omega)
      omega
theorem half_nn {L : Nat} {B : Nat → Int} (h : ∀ i, i < L → 0 ≤ B i) : ∀ i, i < (L + 1) / 2 → 0 ≤ half L B i := by
  intro i hi
  unfold half
  split
  · have := h (2 * i) (by omega)
    have := h (1 + 2 * i) (by omega)
    omega
  · exact h (L - 1) (by omega)
theorem sz_zero {f : Nat → Int} : ∀ {n : Nat}, (∀ i, i < n → f i = 0) → sz f n = 0
  | 0, _ => rfl
  | n + 1, h => by
    show sz f n + f n = 0
    rw [sz_zero fun i hi => h i (by omega), h n (by omega)]
    rfl
theorem sz_one {f : Nat → Int} {j : Nat} : ∀ {n : Nat}, j < n → (∀ i, i < n → i ≠ j → f i = 0) → sz f n = f j
  | 0, h, _ => absurd h (by omega)
  | n + 1, h, hz => by
    show sz f n + f n = f j
    by_cases e : j = n
    · subst e
      rw [sz_zero fun i hi => hz i (by omega) (by omega), Int.zero_add]
    · rw [sz_one (by omega) fun i hi hj => hz i (by omega) hj, hz n (by omega) (Ne.symm e), Int.add_zero]
theorem sz_split (f : Nat → Int) (a : Nat) : ∀ b : Nat, sz f (a + b) = sz f a + sz (fun k => f (a + k)) b
  | 0 => by show sz f a = sz f a + 0; rw [Int.add_zero]
  | b + 1 => by
    show sz f (a + b) + f (a + b) = sz f a + (sz (fun k => f (a + k)) b + f (a + b))
    rw [sz_split f a b]
    omega
theorem sz_first (f : Nat → Int) (n : Nat) : sz f (n + 1) = f 0 + sz (fun k => f (k + 1)) n := by
  rw [show n + 1 = 1 + n from by omega, sz_split]
  show (0 + f 0) + _ = _
  rw [Int.zero_add]
  congr 1
  exact sz_congr fun k _ => by rw [show 1 + k = k + 1 from by omega]
/-- (p + q)^n -/
theorem binom (p q : Int) : ∀ n : Nat, sz (fun t => (ch n t : Nat) * p ^ t * q ^ (n - t)) (n + 1) = (p + q) ^ n
  | 0 => by
    show (0 : Int) + ((ch 0 0 : Nat) : Int) * p ^ 0 * q ^ (0 - 0) = (p + q) ^ 0
    rw [ch_zero]
    simp
  | n + 1 => by
    have ih := binom p q n
    have e1 : sz (fun t => (ch (n + 1) t : Nat) * p ^ t * q ^ (n + 1 - t)) (n + 1 + 1) = p * sz (fun t => (ch n t : Nat) * p ^ t * q ^ (n - t)) (n + 1) + q * sz (fun t => (ch n t : Nat) * p ^ t * q ^ (n - t)) (n + 1) := by
      rw [← sz_mul, ← sz_mul]
      rw [sz_first (fun t => (ch (n + 1) t : Nat) * p ^ t * q ^ (n + 1 - t)) (n + 1)]
      have e2 : sz (fun k => ((ch (n + 1) (k + 1) : Nat) : Int) * p ^ (k + 1) * q ^ (n + 1 - (k + 1))) (n + 1) = sz (fun k => p * ((ch n k : Nat) * p ^ k * q ^ (n - k))) (n + 1) + sz (fun k => ((ch n (k + 1) : Nat) : Int) * p ^ (k + 1) * q ^ (n - k)) (n + 1) := by
        rw [← sz_add]
        refine sz_congr fun k _ => ?_
        rw [ch_succ, show n + 1 - (k + 1) = n - k from by omega, Int.pow_succ, Int.natCast_add]
        grind
      rw [e2]
      have e3 : sz (fun k => q * ((ch n k : Nat) * p ^ k * q ^ (n - k))) (n + 1) = q ^ (n + 1) + sz (fun k => ((ch n (k + 1) : Nat) : Int) * p ^ (k + 1) * q ^ (n - k)) (n + 1) := by
        rw [sz_first]
        have e4 : q * (((ch n 0 : Nat) : Int) * p ^ 0 * q ^ (n - 0)) = q ^ (n + 1) := by
          rw [ch_zero, Int.pow_zero, Nat.sub_zero, Int.pow_succ]
          grind
        rw [e4]
        congr 1
        show _ = sz (fun k => ((ch n (k + 1) : Nat) : Int) * p ^ (k + 1) * q ^ (n - k)) n + ((ch n (n + 1) : Nat) : Int) * p ^ (n + 1) * q ^ (n - n)
        rw [ch_gt (Nat.lt_succ_self n), show ((0 : Nat) : Int) = 0 from rfl, Int.zero_mul, Int.zero_mul, Int.add_zero]
        refine sz_congr fun k hk => ?_
        rw [show n - k = (n - (k + 1)) + 1 from by omega, Int.pow_succ]
        grind
      rw [e3, ch_zero, Int.pow_zero, Nat.sub_zero]
      grind
    rw [e1, ih, Int.pow_succ]
    grind
/-- drawn of what tosses filled -/
theorem coin_urn {s o k : Nat} (p q : Int) (ho : o ≤ s) (hk : k ≤ o) : sz (fun m => (ch s m : Nat) * p ^ m * q ^ (s - m) * (dr s o m k : Nat)) (s + 1) = (ch s o : Nat) * (ch o k : Nat) * p ^ k * q ^ (o - k) * (p + q) ^ (s - o) := by
  have term : ∀ m, m ≤ s → ((ch s m : Nat) : Int) * p ^ m * q ^ (s - m) * (dr s o m k : Nat) = if k ≤ m ∧ o - k ≤ s - m then (ch s o : Nat) * (ch o k : Nat) * p ^ k * q ^ (o - k) * ((ch (s - o) (m - k) : Nat) * p ^ (m - k) * q ^ (s - o - (m - k))) else 0 := by
    intro m hm
    by_cases c : k ≤ m ∧ o - k ≤ s - m
    · rw [if_pos c]
      have e := dr_swap (s := s) (d := o) (m := m) (k := k) ho hm hk c.1
      have e2 : ((ch s m : Nat) : Int) * (dr s o m k : Nat) = (ch s o : Nat) * ((ch o k : Nat) * (ch (s - o) (m - k) : Nat)) := by
        have : (dr s m o k * ch s o : Nat) = (dr s o m k * ch s m : Nat) := e
        have h2 : dr s m o k = ch o k * ch (s - o) (m - k) := rfl
        rw [h2] at this
        have h3 := congrArg (fun z : Nat => (z : Int)) this
        simp only [Int.natCast_mul] at h3
        rw [Int.mul_comm, ← h3]
        ac_rfl
      have e3 : p ^ m = p ^ k * p ^ (m - k) := by rw [← Int.pow_add]; congr 1; omega
      have e4 : q ^ (s - m) = q ^ (o - k) * q ^ (s - o - (m - k)) := by rw [← Int.pow_add]; congr 1; omega
      rw [e3, e4]
      calc ((ch s m : Nat) : Int) * (p ^ k * p ^ (m - k)) * (q ^ (o - k) * q ^ (s - o - (m - k))) * (dr s o m k : Nat) = (((ch s m : Nat) : Int) * (dr s o m k : Nat)) * (p ^ k * p ^ (m - k) * (q ^ (o - k) * q ^ (s - o - (m - k)))) := by ac_rfl
        _ = _ := by rw [e2]; ac_rfl
    · rw [if_neg c]
      have : dr s o m k = 0 := by
        unfold dr
        by_cases c1 : k ≤ m
        · rw [ch_gt (show s - m < o - k from by omega), Nat.mul_zero]
        · rw [ch_gt (show m < k from by omega), Nat.zero_mul]
      rw [this]
      simp
  rw [sz_congr (g := fun m => if k ≤ m ∧ o - k ≤ s - m then (ch s o : Nat) * (ch o k : Nat) * p ^ k * q ^ (o - k) * ((ch (s - o) (m - k) : Nat) * p ^ (m - k) * q ^ (s - o - (m - k))) else 0) fun m hm => term m (by omega)]
  rw [show s + 1 = k + ((s - o + 1) + (o - k)) from by omega, sz_split, sz_split]
  rw [sz_zero (n := k) (by intro m hm; rw [if_neg (by omega)]), sz_zero (n := o - k) (by intro m hm; rw [if_neg (by omega)])]
  rw [Int.zero_add, Int.add_zero, ← binom, ← sz_mul]
  refine sz_congr fun t ht => ?_
  rw [if_pos ⟨by omega, by omega⟩, show k + t - k = t from by omega]
end K06
set_option Elab.async false
set_option linter.all false
set_option maxRecDepth 100000
/-! k06: the spread of a draw. -/
namespace K06
theorem pred_mul (k : Nat) : ((k * (k - 1) : Nat) : Int) = (k : Int) * ((k : Int) - 1) := by
  cases k with
  | zero => rfl
  | succ k => rw [Int.natCast_mul, show k + 1 - 1 = k from rfl, Int.natCast_succ]; congr 1; omega
theorem dr_var {s d m : Nat} (hm : m ≤ s) (hd : d ≤ s) (hs : 1 < s) :
    sz (fun i => ((i : Int) * s - d * m) * ((i : Int) * s - d * m) * (dr s d m i : Nat)) (d + 1) * ((s : Int) * s * ((s : Int) - 1)) = (d : Int) * m * ((s : Int) - m) * ((s : Int) - d) * ((s : Int) * s * (ch s d : Nat)) := by
  have h1 := congrArg (fun z : Nat => (z : Int)) (dr_mid (s := s) (d := d) (m := m) hm hd)
  have h2 := congrArg (fun z : Nat => (z : Int)) (dr_mid2 (s := s) (d := d) (m := m) hm hd)
  have h3 := congrArg (fun z : Nat => (z : Int)) (dr_sum (s := s) (d := d) (m := m) hm)
  have e : sz (fun i => ((i : Int) * s - d * m) * ((i : Int) * s - d * m) * (dr s d m i : Nat)) (d + 1) =
      (s : Int) * s * (su (fun k => k * (k - 1) * dr s d m k) (d + 1) : Nat) + ((s : Int) * s - 2 * s * (d * m)) * (su (fun k => k * dr s d m k) (d + 1) : Nat) + (d : Int) * m * (d * m) * (su (dr s d m) (d + 1) : Nat) := by
    rw [← sz_nat, ← sz_nat, ← sz_nat, ← sz_mul, ← sz_mul, ← sz_mul, ← sz_add, ← sz_add]
    refine sz_congr fun k _ => ?_
    rw [Int.natCast_mul (k * (k - 1)), pred_mul, Int.natCast_mul k]
    grind
  rw [e]
  simp only [Int.natCast_mul] at h1
  rw [Int.natCast_mul (s * (s - 1)), pred_mul, Int.natCast_mul (d * (d - 1) * (m * (m - 1))), Int.natCast_mul (d * (d - 1)), pred_mul, pred_mul] at h2
  rw [h3]
  generalize ((su (fun k => k * (k - 1) * dr s d m k) (d + 1) : Nat) : Int) = Q at *
  generalize ((su (fun k => k * dr s d m k) (d + 1) : Nat) : Int) = M at *
  generalize ((ch s d : Nat) : Int) = C at *
  generalize (s : Int) = S at *
  generalize (d : Int) = D at *
  generalize (m : Int) = T at *
  calc (S * S * Q + (S * S - 2 * S * (D * T)) * M + D * T * (D * T) * C) * (S * S * (S - 1)) = S * S * S * (S * (S - 1) * Q) + (S * S - 2 * S * (D * T)) * S * (S - 1) * (S * M) + D * T * (D * T) * C * (S * S * (S - 1)) := by grind
    _ = S * S * S * (D * (D - 1) * (T * (T - 1)) * C) + (S * S - 2 * S * (D * T)) * S * (S - 1) * (D * T * C) + D * T * (D * T) * C * (S * S * (S - 1)) := by rw [h1, h2]
    _ = D * T * (S - T) * (S - D) * (S * S * C) := by grind
end K06
set_option Elab.async false
set_option linter.all false
set_option maxRecDepth 100000
/-! k06: fractions as the program keeps them; small numbers. -/
namespace K06
open PySem PySem.Spec PyProof.Rows L2 MP

/-! ### fractions -/
def frN (a b : Int) : Int := a / (Int.gcd a b : Int)
def frD (a b : Int) : Int := b / (Int.gcd a b : Int)
def fr (a b : Int) : PyData := .tuple [.int (frN a b), .int (frD a b)]
theorem gcd_pos {a b : Int} (hb : 0 < b) : 0 < (Int.gcd a b : Int) := by
  have : Int.gcd a b ≠ 0 := fun h => by
    rw [Int.gcd_eq_zero_iff] at h
    omega
  omega
theorem frN_mul (a b : Int) : frN a b * (Int.gcd a b : Int) = a := Int.ediv_mul_cancel (Int.gcd_dvd_left a b)
theorem frD_mul (a b : Int) : frD a b * (Int.gcd a b : Int) = b := Int.ediv_mul_cancel (Int.gcd_dvd_right a b)
theorem frD_pos {a b : Int} (hb : 0 < b) : 0 < frD a b := by
  have h := frD_mul a b
  have hg := gcd_pos (a := a) hb
  apply Int.pos_of_mul_pos_left (b := (Int.gcd a b : Int))
  · rw [h]; exact hb
  · omega
theorem fr_cross (a b : Int) : frN a b * b = a * frD a b := by
  have h1 := frN_mul a b
  have h2 := frD_mul a b
  calc frN a b * b = frN a b * (frD a b * (Int.gcd a b : Int)) := by rw [h2]
    _ = (frN a b * (Int.gcd a b : Int)) * frD a b := by ac_rfl
    _ = a * frD a b := by rw [h1]
theorem fr_cop {a b : Int} (hb : 0 < b) : Int.gcd (frN a b) (frD a b) = 1 := by
  have hg : 0 < Int.gcd a b := by have := gcd_pos (a := a) hb; omega
  exact Int.gcd_ediv_gcd_ediv_gcd_of_ne_zero_right (by omega)
theorem dvd_cop {a b c : Int} (h : a ∣ b * c) (hc : Int.gcd a b = 1) : a ∣ c := by
  rw [← Int.natAbs_dvd_natAbs] at h ⊢
  rw [Int.natAbs_mul] at h
  exact Nat.Coprime.dvd_of_dvd_mul_left (show Nat.gcd a.natAbs b.natAbs = 1 from by rw [← Int.gcd_eq_natAbs_gcd_natAbs]; exact hc) h
/-- the same value, the same fraction -/
theorem fr_same {n d n' d' : Int} (hd : 0 < d) (hd' : 0 < d') (hc : Int.gcd n d = 1) (hc' : Int.gcd n' d' = 1) (h : n * d' = n' * d) : n = n' ∧ d = d' := by
  have h1 : d ∣ d' := by
    have : d ∣ n * d' := ⟨n', by rw [h]; ac_rfl⟩
    exact dvd_cop this (by rw [Int.gcd_comm]; exact hc)
  have h2 : d' ∣ d := by
    have : d' ∣ n' * d := ⟨n, by rw [← h]; ac_rfl⟩
    exact dvd_cop this (by rw [Int.gcd_comm]; exact hc')
  have e : d = d' := Int.dvd_antisymm (by omega) (by omega) h1 h2
  subst e
  exact ⟨Int.eq_of_mul_eq_mul_right (by omega) h, rfl⟩
theorem fr_eq {a b c d : Int} (hb : 0 < b) (hd : 0 < d) (h : a * d = c * b) : fr a b = fr c d := by
  have k1 := frN_mul a b
  have k2 := frD_mul a b
  have k3 := frN_mul c d
  have k4 := frD_mul c d
  have g1 := gcd_pos (a := a) hb
  have g2 := gcd_pos (a := c) hd
  obtain ⟨e1, e2⟩ := fr_same (frD_pos (a := a) hb) (frD_pos (a := c) hd) (fr_cop hb) (fr_cop hd) (by
    apply Int.eq_of_mul_eq_mul_right (show (Int.gcd a b : Int) * (Int.gcd c d : Int) ≠ 0 from by
      have := Int.mul_pos g1 g2
      omega)
    calc frN a b * frD c d * ((Int.gcd a b : Int) * (Int.gcd c d : Int)) = (frN a b * (Int.gcd a b : Int)) * (frD c d * (Int.gcd c d : Int)) := by ac_rfl
      _ = a * d := by rw [k1, k4]
      _ = c * b := h
      _ = (frN c d * (Int.gcd c d : Int)) * (frD a b * (Int.gcd a b : Int)) := by rw [k3, k2]
      _ = frN c d * frD a b * ((Int.gcd a b : Int) * (Int.gcd c d : Int)) := by ac_rfl)
  unfold fr
  rw [e1, e2]
/-- a pair in lowest terms stands for itself -/
theorem fr_self {n d : Int} (h : Int.gcd n d = 1) : fr n d = .tuple [.int n, .int d] := by
  unfold fr frN frD
  rw [h]
  simp
theorem fr_fr {a b : Int} (hb : 0 < b) : fr (frN a b) (frD a b) = fr a b := fr_eq (frD_pos hb) hb (fr_cross a b)
/-- sums, products, differences -/
theorem fr_plus {a b c d : Int} (hb : 0 < b) (hd : 0 < d) : fr (frN a b * frD c d + frN c d * frD a b) (frD a b * frD c d) = fr (a * d + c * b) (b * d) := by
  refine fr_eq (Int.mul_pos (frD_pos hb) (frD_pos hd)) (Int.mul_pos hb hd) ?_
  have h1 := fr_cross a b
  have h2 := fr_cross c d
  calc (frN a b * frD c d + frN c d * frD a b) * (b * d) = (frN a b * b) * (frD c d * d) + (frN c d * d) * (frD a b * b) := by grind
    _ = (a * frD a b) * (frD c d * d) + (c * frD c d) * (frD a b * b) := by rw [h1, h2]
    _ = (a * d + c * b) * (frD a b * frD c d) := by grind
theorem fr_minus {a b c d : Int} (hb : 0 < b) (hd : 0 < d) : fr (frN a b * frD c d - frN c d * frD a b) (frD a b * frD c d) = fr (a * d - c * b) (b * d) := by
  refine fr_eq (Int.mul_pos (frD_pos hb) (frD_pos hd)) (Int.mul_pos hb hd) ?_
  have h1 := fr_cross a b
  have h2 := fr_cross c d
  calc (frN a b * frD c d - frN c d * frD a b) * (b * d) = (frN a b * b) * (frD c d * d) - (frN c d * d) * (frD a b * b) := by grind
    _ = (a * frD a b) * (frD c d * d) - (c * frD c d) * (frD a b * b) := by rw [h1, h2]
    _ = (a * d - c * b) * (frD a b * frD c d) := by grind
theorem fr_times {a b c d : Int} (hb : 0 < b) (hd : 0 < d) : fr (frN a b * frN c d) (frD a b * frD c d) = fr (a * c) (b * d) := by
  refine fr_eq (Int.mul_pos (frD_pos hb) (frD_pos hd)) (Int.mul_pos hb hd) ?_
  have h1 := fr_cross a b
  have h2 := fr_cross c d
  calc frN a b * frN c d * (b * d) = (frN a b * b) * (frN c d * d) := by ac_rfl
    _ = (a * frD a b) * (c * frD c d) := by rw [h1, h2]
    _ = a * c * (frD a b * frD c d) := by ac_rfl
theorem fr_lt {a b c d : Int} (hb : 0 < b) (hd : 0 < d) : frN a b * frD c d < frN c d * frD a b ↔ a * d < c * b := by
  have k1 := frN_mul a b
  have k2 := frD_mul a b
  have k3 := frN_mul c d
  have k4 := frD_mul c d
  have g := Int.mul_pos (gcd_pos (a := a) hb) (gcd_pos (a := c) hd)
  have e1 : frN a b * frD c d * ((Int.gcd a b : Int) * (Int.gcd c d : Int)) = a * d := by
    calc frN a b * frD c d * ((Int.gcd a b : Int) * (Int.gcd c d : Int)) = (frN a b * (Int.gcd a b : Int)) * (frD c d * (Int.gcd c d : Int)) := by ac_rfl
      _ = a * d := by rw [k1, k4]
  have e2 : frN c d * frD a b * ((Int.gcd a b : Int) * (Int.gcd c d : Int)) = c * b := by
    calc frN c d * frD a b * ((Int.gcd a b : Int) * (Int.gcd c d : Int)) = (frN c d * (Int.gcd c d : Int)) * (frD a b * (Int.gcd a b : Int)) := by ac_rfl
      _ = c * b := by rw [k3, k2]
  rw [← e1, ← e2]
  constructor
  · intro h
    exact Int.mul_lt_mul_of_pos_right h g
  · intro h
    exact Int.lt_of_mul_lt_mul_right h (by omega)

/-! ### sizes -/
/-- |a| < 2^k -/
def sm (k : Nat) (a : Int) : Prop := a.natAbs < 2 ^ k
theorem sm.mono {k l : Nat} {a : Int} (h : sm k a) (hl : k ≤ l) : sm l a := Nat.lt_of_lt_of_le h (Nat.pow_le_pow_right (by omega) hl)
theorem sm.mul {k l : Nat} {a b : Int} (h1 : sm k a) (h2 : sm l b) : sm (k + l) (a * b) := by
  unfold sm at *
  rw [Int.natAbs_mul, Nat.pow_add]
  exact Nat.mul_lt_mul'' h1 h2
theorem sm.add {k : Nat} {a b : Int} (h1 : sm k a) (h2 : sm k b) : sm (k + 1) (a + b) := by
  unfold sm at *
  have := Int.natAbs_add_le a b
  rw [Nat.pow_succ]
  omega
theorem sm.sub {k : Nat} {a b : Int} (h1 : sm k a) (h2 : sm k b) : sm (k + 1) (a - b) := by
  unfold sm at *
  have := Int.natAbs_sub_le a b
  rw [Nat.pow_succ]
  omega
theorem sm.log {k : Nat} {a : Int} (h : sm (k + 1) a) : a.natAbs.log2 ≤ k := by
  unfold sm at h
  by_cases z : a.natAbs = 0
  · rw [z]
    simp
  · have := (Nat.log2_lt z).mpr h
    omega
theorem sm.small {k l : Nat} {a b : Int} (h1 : sm (k + 1) a) (h2 : sm (l + 1) b) (h : k + l < 1000000) : smallI a b = true := by
  unfold smallI
  rw [decide_eq_true_eq]
  have := h1.log
  have := h2.log
  omega
theorem sm.of_le {k : Nat} {a b : Int} (h : sm k b) (hl : a.natAbs ≤ b.natAbs) : sm k a := Nat.lt_of_le_of_lt hl h
theorem frN_le {a b : Int} (hb : 0 < b) : (frN a b).natAbs ≤ a.natAbs := by
  have h := congrArg Int.natAbs (frN_mul a b)
  rw [Int.natAbs_mul] at h
  have hg := gcd_pos (a := a) hb
  rw [← h]
  exact Nat.le_mul_of_pos_right _ (by omega)
theorem frD_le {a b : Int} (hb : 0 < b) : (frD a b).natAbs ≤ b.natAbs := by
  have h := congrArg Int.natAbs (frD_mul a b)
  rw [Int.natAbs_mul] at h
  have hg := gcd_pos (a := a) hb
  calc (frD a b).natAbs ≤ (frD a b).natAbs * (Int.gcd a b : Int).natAbs := Nat.le_mul_of_pos_right _ (by omega)
    _ = b.natAbs := h
theorem sm.frN {k : Nat} {a b : Int} (h : sm k a) (hb : 0 < b) : sm k (frN a b) := h.of_le (frN_le hb)
theorem sm.frD {k : Nat} {a b : Int} (h : sm k b) (hb : 0 < b) : sm k (frD a b) := h.of_le (frD_le hb)
end K06
set_option Elab.async false
set_option linter.all false
set_option maxRecDepth 100000
/-! k06: what the small defs compute. -/
namespace K06
open PySem MP
abbrev F (n : Nat) := upTo G.tab n
theorem F_at {n j : Nat} (h : j < n) {d : Fd} (hd : G.tab j = some d) (as : List (Option PyData)) (P : PyData) : F n j as P = runF (F j) d as P := by
  show upTo G.tab n j as P = _
  rw [upTo_lt h, upTo_at hd]
theorem F_ret {n j : Nat} {d : Fd} {as : List (Option PyData)} {P P' x : PyData} (h : j < n) (hd : G.tab j = some d) (h0 : as.length = d.np) (h1 : d.np ≤ d.names.length) (h2 : cntIo as = (if d.iop then 1 else 0)) (hr : rss (F j) d.iop d.body (startE d.names.length as) P = some (.rt x P')) : F n j as P = some (x, P') := by
  rw [F_at h hd]
  exact runF_ret h0 h1 h2 hr
theorem F_nx {n j : Nat} {d : Fd} {as : List (Option PyData)} {P P' : PyData} {E : MP.Env} (h : j < n) (hd : G.tab j = some d) (h0 : as.length = d.np) (h1 : d.np ≤ d.names.length) (h2 : cntIo as = (if d.iop then 1 else 0)) (hr : rss (F j) d.iop d.body (startE d.names.length as) P = some (.nx E P')) : F n j as P = some (.none, P') := by
  rw [F_at h hd]
  exact runF_nx h0 h1 h2 hr
theorem cut_from {n k : Nat} {f : Nat → PyData} : cutD (tb n f) (some (k : Int)) none = tb (n - k) fun i => f (k + i) := by
  unfold cutD
  rw [tb_len, HT.sIx_nat, HT.sIx_none, tb_drop, tb_take]
  by_cases h : k ≤ n
  · rw [Nat.min_eq_left h, show min (n - k) (n - k) = n - k from by omega]
  · have e1 : n - k = 0 := by omega
    have e2 : n - min k n = 0 := by omega
    rw [e1, e2]
    rfl
theorem cut_to {n k : Nat} {f : Nat → PyData} : cutD (tb n f) none (some (k : Int)) = tb (min k n) f := by
  unfold cutD
  rw [tb_len, HT.sIx_nat, HT.sIx_none, tb_drop, tb_take]
  rw [Nat.sub_zero, Nat.sub_zero]
  congr 1
  · omega
  · funext i
    rw [Nat.zero_add]
variable {n : Nat} {P : PyData}
theorem s0 (h : 0 < n) (ds : List PyData) (lo hi : Int) (h1 : lo ≤ ds.length) (h2 : (ds.length : Int) ≤ hi) : F n 0 [some (.tuple ds), some (.int lo), some (.int hi)] P = some (.bool true, P) := by
  refine F_ret h (d := d0) rfl rfl (by decide) rfl ?_
  simp [e_con, e_var, e_bin, e_neg, e_cmp, e_chain, e_and, e_or, e_not, e_ite, e_call, e_blt, e_isi, e_lrng, e_trng, e_tup, e_lst, e_sl, e_rev, e_every, e_ixV, e_ixC, e_ixI, e_ixL, evs_nil, evs_cons, evs_star, evs_io, evO_none, evO_some, evP_none, evP_some, evI_seq, evI_enum, evI_zip, rss_nil, rss_cons, rs_asg, rs_unp, rs_par, rs_ifs, rs_expr, rs_ret, rs_brk, rs_app, rs_while, getV, setV, isiD, copD, bopD, b_lenL, b_lenT, b_abs, b_min2, b_max2, b_int, b_intB, b_listL, b_listT, b_tupL, b_tupT, b_all, b_any, b_sumL, b_sumT, unO, tb_len, MP.frs, itemsImm, imm, immL, asgD, MP.isIo, bindT, bindTs, seqOf, MP.isInt, at0, at1, at2, startE, cntIo, frzAll, fz0, wipeE, frz, frz1, MP.vars, varsS, varsO, varsI, LIM, d0, b0, h1, h2]
theorem s1 (h : 1 < n) (i : Int) : F n 1 [some (.int i)] P = some (.bool true, P) := by
  refine F_ret h (d := d1) rfl rfl (by decide) rfl ?_
  simp [e_con, e_var, e_bin, e_neg, e_cmp, e_chain, e_and, e_or, e_not, e_ite, e_call, e_blt, e_isi, e_lrng, e_trng, e_tup, e_lst, e_sl, e_rev, e_every, e_ixV, e_ixC, e_ixI, e_ixL, evs_nil, evs_cons, evs_star, evs_io, evO_none, evO_some, evP_none, evP_some, evI_seq, evI_enum, evI_zip, rss_nil, rss_cons, rs_asg, rs_unp, rs_par, rs_ifs, rs_expr, rs_ret, rs_brk, rs_app, rs_while, getV, setV, isiD, copD, bopD, b_lenL, b_lenT, b_abs, b_min2, b_max2, b_int, b_intB, b_listL, b_listT, b_tupL, b_tupT, b_all, b_any, b_sumL, b_sumT, unO, tb_len, MP.frs, itemsImm, imm, immL, asgD, MP.isIo, bindT, bindTs, seqOf, MP.isInt, at0, at1, at2, startE, cntIo, frzAll, fz0, wipeE, frz, frz1, MP.vars, varsS, varsO, varsI, LIM, d1, b1]
theorem s2 (h : 2 < n) (i lo hi : Int) (h1 : lo ≤ i) (h2 : i ≤ hi) : F n 2 [some (.int i), some (.int lo), some (.int hi)] P = some (.bool true, P) := by
  refine F_ret h (d := d2) rfl rfl (by decide) rfl ?_
  simp [e_con, e_var, e_bin, e_neg, e_cmp, e_chain, e_and, e_or, e_not, e_ite, e_call, e_blt, e_isi, e_lrng, e_trng, e_tup, e_lst, e_sl, e_rev, e_every, e_ixV, e_ixC, e_ixI, e_ixL, evs_nil, evs_cons, evs_star, evs_io, evO_none, evO_some, evP_none, evP_some, evI_seq, evI_enum, evI_zip, rss_nil, rss_cons, rs_asg, rs_unp, rs_par, rs_ifs, rs_expr, rs_ret, rs_brk, rs_app, rs_while, getV, setV, isiD, copD, bopD, b_lenL, b_lenT, b_abs, b_min2, b_max2, b_int, b_intB, b_listL, b_listT, b_tupL, b_tupT, b_all, b_any, b_sumL, b_sumT, unO, tb_len, MP.frs, itemsImm, imm, immL, asgD, MP.isIo, bindT, bindTs, seqOf, MP.isInt, at0, at1, at2, startE, cntIo, frzAll, fz0, wipeE, frz, frz1, MP.vars, varsS, varsO, varsI, LIM, d2, b2, s1, h1, h2]
theorem s3 (h : 3 < n) (m : Nat) (f : Nat → Int) (hm : m ≤ 1000000) (hf : ∀ i, i + 1 < m → f i < f (i + 1)) : F n 3 [some (.tuple (tb m fun i => .int (f i)))] P = some (.bool true, P) := by
  have e : ev (F 3) e3_0 [some (Kd.ro, .tuple (tb m fun i => .int (f i))), none, none] P = some (.list (tb (m - 1) fun _ => .bool true), P) := by
    refine e_lcT rfl (f := fun i => .tuple [.int (f i), .int (f (1 + i))]) ?_ (by omega) fun i hi => ⟨_, rfl, ?_, ?_, rfl⟩
    · have : cutD (tb m fun i => PyData.int (f i)) (some 1) none = tb (m - 1) fun i => .int (f (1 + i)) := cut_from (k := 1)
      simp [e_con, e_var, e_bin, e_neg, e_cmp, e_chain, e_and, e_or, e_not, e_ite, e_call, e_blt, e_isi, e_lrng, e_trng, e_tup, e_lst, e_sl, e_rev, e_every, e_ixV, e_ixC, e_ixI, e_ixL, evs_nil, evs_cons, evs_star, evs_io, evO_none, evO_some, evP_none, evP_some, evI_seq, evI_enum, evI_zip, rss_nil, rss_cons, rs_asg, rs_unp, rs_par, rs_ifs, rs_expr, rs_ret, rs_brk, rs_app, rs_while, getV, setV, isiD, copD, bopD, b_lenL, b_lenT, b_abs, b_min2, b_max2, b_int, b_intB, b_listL, b_listT, b_tupL, b_tupT, b_all, b_any, b_sumL, b_sumT, unO, tb_len, MP.frs, itemsImm, imm, immL, asgD, MP.isIo, bindT, bindTs, seqOf, MP.isInt, at0, at1, at2, startE, cntIo, frzAll, fz0, wipeE, frz, frz1, MP.vars, varsS, varsO, varsI, LIM, this, tb_zip]
    · rfl
    · have := hf i (by omega)
      rw [Nat.add_comm 1 i]
      simp [e_con, e_var, e_bin, e_neg, e_cmp, e_chain, e_and, e_or, e_not, e_ite, e_call, e_blt, e_isi, e_lrng, e_trng, e_tup, e_lst, e_sl, e_rev, e_every, e_ixV, e_ixC, e_ixI, e_ixL, evs_nil, evs_cons, evs_star, evs_io, evO_none, evO_some, evP_none, evP_some, evI_seq, evI_enum, evI_zip, rss_nil, rss_cons, rs_asg, rs_unp, rs_par, rs_ifs, rs_expr, rs_ret, rs_brk, rs_app, rs_while, getV, setV, isiD, copD, bopD, b_lenL, b_lenT, b_abs, b_min2, b_max2, b_int, b_intB, b_listL, b_listT, b_tupL, b_tupT, b_all, b_any, b_sumL, b_sumT, unO, tb_len, MP.frs, itemsImm, imm, immL, asgD, MP.isIo, bindT, bindTs, seqOf, MP.isInt, at0, at1, at2, startE, cntIo, frzAll, fz0, wipeE, frz, frz1, MP.vars, varsS, varsO, varsI, LIM, this]
  refine F_ret h (d := d3) rfl rfl (by decide) rfl ?_
  simp [e_con, e_var, e_bin, e_neg, e_cmp, e_chain, e_and, e_or, e_not, e_ite, e_call, e_blt, e_isi, e_lrng, e_trng, e_tup, e_lst, e_sl, e_rev, e_every, e_ixV, e_ixC, e_ixI, e_ixL, evs_nil, evs_cons, evs_star, evs_io, evO_none, evO_some, evP_none, evP_some, evI_seq, evI_enum, evI_zip, rss_nil, rss_cons, rs_asg, rs_unp, rs_par, rs_ifs, rs_expr, rs_ret, rs_brk, rs_app, rs_while, getV, setV, isiD, copD, bopD, b_lenL, b_lenT, b_abs, b_min2, b_max2, b_int, b_intB, b_listL, b_listT, b_tupL, b_tupT, b_all, b_any, b_sumL, b_sumT, unO, tb_len, MP.frs, itemsImm, imm, immL, asgD, MP.isIo, bindT, bindTs, seqOf, MP.isInt, at0, at1, at2, startE, cntIo, frzAll, fz0, wipeE, frz, frz1, MP.vars, varsS, varsO, varsI, LIM, d3, b3, e]
theorem s4 (h : 4 < n) : F n 4 [some (.str "up"), some (.tuple [.str "up", .str "down"])] P = some (.bool true, P) := by
  refine F_ret h (d := d4) rfl rfl (by decide) rfl ?_
  have : inD (.str "up") [.str "up", .str "down"] = some true := by decide +kernel
  simp [e_con, e_var, e_bin, e_neg, e_cmp, e_chain, e_and, e_or, e_not, e_ite, e_call, e_blt, e_isi, e_lrng, e_trng, e_tup, e_lst, e_sl, e_rev, e_every, e_ixV, e_ixC, e_ixI, e_ixL, evs_nil, evs_cons, evs_star, evs_io, evO_none, evO_some, evP_none, evP_some, evI_seq, evI_enum, evI_zip, rss_nil, rss_cons, rs_asg, rs_unp, rs_par, rs_ifs, rs_expr, rs_ret, rs_brk, rs_app, rs_while, getV, setV, isiD, copD, bopD, b_lenL, b_lenT, b_abs, b_min2, b_max2, b_int, b_intB, b_listL, b_listT, b_tupL, b_tupT, b_all, b_any, b_sumL, b_sumT, unO, tb_len, MP.frs, itemsImm, imm, immL, asgD, MP.isIo, bindT, bindTs, seqOf, MP.isInt, at0, at1, at2, startE, cntIo, frzAll, fz0, wipeE, frz, frz1, MP.vars, varsS, varsO, varsI, LIM, d4, b4, this]
theorem s5 (h : 5 < n) (m : Nat) (f : Nat → Int) (a b lo hi : Int) (hm : m ≤ 1000000) (h1 : a ≤ m) (h2 : (m : Int) ≤ b) (hf : ∀ i, i < m → lo ≤ f i ∧ f i ≤ hi) : F n 5 [some (.tuple (tb m fun i => .int (f i))), some (.int a), some (.int b), some (.int lo), some (.int hi)] P = some (.bool true, P) := by
  have e : ev (F 5) e5_0 [some (Kd.ro, .tuple (tb m fun i => .int (f i))), some (Kd.ro, .int a), some (Kd.ro, .int b), some (Kd.ro, .int lo), some (Kd.ro, .int hi), none] P = some (.list (tb m fun _ => .bool true), P) := by
    refine e_lcT rfl (f := fun i => .int (f i)) (by simp [e_con, e_var, e_bin, e_neg, e_cmp, e_chain, e_and, e_or, e_not, e_ite, e_call, e_blt, e_isi, e_lrng, e_trng, e_tup, e_lst, e_sl, e_rev, e_every, e_ixV, e_ixC, e_ixI, e_ixL, evs_nil, evs_cons, evs_star, evs_io, evO_none, evO_some, evP_none, evP_some, evI_seq, evI_enum, evI_zip, rss_nil, rss_cons, rs_asg, rs_unp, rs_par, rs_ifs, rs_expr, rs_ret, rs_brk, rs_app, rs_while, getV, setV, isiD, copD, bopD, b_lenL, b_lenT, b_abs, b_min2, b_max2, b_int, b_intB, b_listL, b_listT, b_tupL, b_tupT, b_all, b_any, b_sumL, b_sumT, unO, tb_len, MP.frs, itemsImm, imm, immL, asgD, MP.isIo, bindT, bindTs, seqOf, MP.isInt, at0, at1, at2, startE, cntIo, frzAll, fz0, wipeE, frz, frz1, MP.vars, varsS, varsO, varsI, LIM]) hm fun i hi' => ⟨_, rfl, rfl, ?_, rfl⟩
    obtain ⟨k1, k2⟩ := hf i hi'
    simp [e_con, e_var, e_bin, e_neg, e_cmp, e_chain, e_and, e_or, e_not, e_ite, e_call, e_blt, e_isi, e_lrng, e_trng, e_tup, e_lst, e_sl, e_rev, e_every, e_ixV, e_ixC, e_ixI, e_ixL, evs_nil, evs_cons, evs_star, evs_io, evO_none, evO_some, evP_none, evP_some, evI_seq, evI_enum, evI_zip, rss_nil, rss_cons, rs_asg, rs_unp, rs_par, rs_ifs, rs_expr, rs_ret, rs_brk, rs_app, rs_while, getV, setV, isiD, copD, bopD, b_lenL, b_lenT, b_abs, b_min2, b_max2, b_int, b_intB, b_listL, b_listT, b_tupL, b_tupT, b_all, b_any, b_sumL, b_sumT, unO, tb_len, MP.frs, itemsImm, imm, immL, asgD, MP.isIo, bindT, bindTs, seqOf, MP.isInt, at0, at1, at2, startE, cntIo, frzAll, fz0, wipeE, frz, frz1, MP.vars, varsS, varsO, varsI, LIM, s2, k1, k2]
  refine F_ret h (d := d5) rfl rfl (by decide) rfl ?_
  simp [e_con, e_var, e_bin, e_neg, e_cmp, e_chain, e_and, e_or, e_not, e_ite, e_call, e_blt, e_isi, e_lrng, e_trng, e_tup, e_lst, e_sl, e_rev, e_every, e_ixV, e_ixC, e_ixI, e_ixL, evs_nil, evs_cons, evs_star, evs_io, evO_none, evO_some, evP_none, evP_some, evI_seq, evI_enum, evI_zip, rss_nil, rss_cons, rs_asg, rs_unp, rs_par, rs_ifs, rs_expr, rs_ret, rs_brk, rs_app, rs_while, getV, setV, isiD, copD, bopD, b_lenL, b_lenT, b_abs, b_min2, b_max2, b_int, b_intB, b_listL, b_listT, b_tupL, b_tupT, b_all, b_any, b_sumL, b_sumT, unO, tb_len, MP.frs, itemsImm, imm, immL, asgD, MP.isIo, bindT, bindTs, seqOf, MP.isInt, at0, at1, at2, startE, cntIo, frzAll, fz0, wipeE, frz, frz1, MP.vars, varsS, varsO, varsI, LIM, d5, b5, e, s0, h1, h2]
end K06
set_option Elab.async false
set_option linter.all false
set_option maxRecDepth 100000
/-! k06: divisors, fractions. -/
namespace K06
open PySem MP
theorem gcd_mod {a b : Int} : Int.gcd b (a % b) = Int.gcd a b := by
  have h : Int.gcd b (a % b + a / b * b) = Int.gcd b (a % b) := Int.gcd_add_mul_right_right _ _ _
  rw [← h, show a % b + a / b * b = a from by rw [Int.mul_comm]; exact Int.emod_add_mul_ediv a b, Int.gcd_comm]
theorem gcd_loop (cl : Cl) (P : PyData) : ∀ (fuel : Nat) (a b : Int), 0 ≤ b → b < fuel →
    ∃ a' : Int, whL (ev cl (.cmp .ne (.var 1) (.con (.int 0)))) (rss cl false (.cons (.par 0 1 (.var 1) (.bin .mod (.var 0) (.var 1))) .nil)) fuel [some (Kd.ro, .int a), some (Kd.ro, .int b)] P = some (.nx [some (Kd.ro, .int a'), some (Kd.ro, .int 0)] P) ∧ (a'.natAbs : Int) = Int.gcd a b
  | 0, a, b, h0, h1 => absurd h1 (by omega)
  | fuel + 1, a, b, h0, h1 => by
    by_cases hb : b = 0
    · subst hb
      refine ⟨a, ?_, by simp⟩
      unfold whL
      have : ev cl (.cmp .ne (.var 1) (.con (.int 0))) [some (Kd.ro, .int a), some (Kd.ro, .int 0)] P = some (.bool false, P) := by
        simp [e_con, e_var, e_bin, e_neg, e_cmp, e_chain, e_and, e_or, e_not, e_ite, e_call, e_blt, e_isi, e_lrng, e_trng, e_tup, e_lst, e_sl, e_rev, e_every, e_ixV, e_ixC, e_ixI, e_ixL, evs_nil, evs_cons, evs_star, evs_io, evO_none, evO_some, evP_none, evP_some, evI_seq, evI_enum, evI_zip, rss_nil, rss_cons, rs_asg, rs_unp, rs_par, rs_ifs, rs_expr, rs_ret, rs_brk, rs_app, rs_while, getV, setV, isiD, copD, bopD, b_lenL, b_lenT, b_abs, b_min2, b_max2, b_int, b_intB, b_listL, b_listT, b_tupL, b_tupT, b_all, b_any, b_sumL, b_sumT, unO, tb_len, MP.frs, itemsImm, imm, immL, asgD, MP.isIo, bindT, bindTs, seqOf, MP.isInt, at0, at1, at2, startE, cntIo, frzAll, fz0, wipeE, frz, frz1, MP.vars, varsS, varsO, varsI, LIM, shp, PyData.eqv]
      rw [this]
    · have hp : 0 < b := by omega
      obtain ⟨a', e1, e2⟩ := gcd_loop cl P fuel b (a % b) (Int.emod_nonneg a hb) (by have := Int.emod_lt_of_pos a hp; omega)
      refine ⟨a', ?_, by rw [e2, gcd_mod]⟩
      unfold whL
      have : ev cl (.cmp .ne (.var 1) (.con (.int 0))) [some (Kd.ro, .int a), some (Kd.ro, .int b)] P = some (.bool true, P) := by
        simp [e_con, e_var, e_bin, e_neg, e_cmp, e_chain, e_and, e_or, e_not, e_ite, e_call, e_blt, e_isi, e_lrng, e_trng, e_tup, e_lst, e_sl, e_rev, e_every, e_ixV, e_ixC, e_ixI, e_ixL, evs_nil, evs_cons, evs_star, evs_io, evO_none, evO_some, evP_none, evP_some, evI_seq, evI_enum, evI_zip, rss_nil, rss_cons, rs_asg, rs_unp, rs_par, rs_ifs, rs_expr, rs_ret, rs_brk, rs_app, rs_while, getV, setV, isiD, copD, bopD, b_lenL, b_lenT, b_abs, b_min2, b_max2, b_int, b_intB, b_listL, b_listT, b_tupL, b_tupT, b_all, b_any, b_sumL, b_sumT, unO, tb_len, MP.frs, itemsImm, imm, immL, asgD, MP.isIo, bindT, bindTs, seqOf, MP.isInt, at0, at1, at2, startE, cntIo, frzAll, fz0, wipeE, frz, frz1, MP.vars, varsS, varsO, varsI, LIM, shp, PyData.eqv, hb]
      rw [this]
      dsimp only
      have : rss cl false (.cons (.par 0 1 (.var 1) (.bin .mod (.var 0) (.var 1))) .nil) [some (Kd.ro, .int a), some (Kd.ro, .int b)] P = some (.nx [some (Kd.ro, .int b), some (Kd.ro, .int (a % b))] P) := by
        simp [e_con, e_var, e_bin, e_neg, e_cmp, e_chain, e_and, e_or, e_not, e_ite, e_call, e_blt, e_isi, e_lrng, e_trng, e_tup, e_lst, e_sl, e_rev, e_every, e_ixV, e_ixC, e_ixI, e_ixL, evs_nil, evs_cons, evs_star, evs_io, evO_none, evO_some, evP_none, evP_some, evI_seq, evI_enum, evI_zip, rss_nil, rss_cons, rs_asg, rs_unp, rs_par, rs_ifs, rs_expr, rs_ret, rs_brk, rs_app, rs_while, getV, setV, isiD, copD, bopD, b_lenL, b_lenT, b_abs, b_min2, b_max2, b_int, b_intB, b_listL, b_listT, b_tupL, b_tupT, b_all, b_any, b_sumL, b_sumT, unO, tb_len, MP.frs, itemsImm, imm, immL, asgD, MP.isIo, bindT, bindTs, seqOf, MP.isInt, at0, at1, at2, startE, cntIo, frzAll, fz0, wipeE, frz, frz1, MP.vars, varsS, varsO, varsI, LIM, hp]
      rw [this]
      exact e1
variable {n : Nat} {P : PyData}
theorem fuel_gt {b : Int} {k : Nat} (h : sm k b) (hk : k ≤ 10000) : b < fuelW := by
  have h1 : b.natAbs < 2 ^ 10000 := Nat.lt_of_lt_of_le h (Nat.pow_le_pow_right (by omega) hk)
  have h2 : 2 ^ 10000 ≤ fuelW := by decide +kernel
  omega
theorem abs_if (a : Int) : (if a < 0 then -a else a) = (a.natAbs : Int) := by split <;> omega
theorem s6 (h : 6 < n) (a b : Int) {k : Nat} (h0 : 0 ≤ b) (hb : sm k b) (hk : k ≤ 10000) : F n 6 [some (.int a), some (.int b)] P = some (.int (Int.gcd a b), P) := by
  obtain ⟨a', e1, e2⟩ := gcd_loop (F 6) P fuelW a b h0 (fuel_gt hb hk)
  have e : rs (F 6) false e6_1 [some (Kd.ro, .int a), some (Kd.ro, .int b)] P = _ := e1
  refine F_ret h (d := d6) rfl rfl (by decide) rfl ?_
  simp [e_con, e_var, e_bin, e_neg, e_cmp, e_chain, e_and, e_or, e_not, e_ite, e_call, e_blt, e_isi, e_lrng, e_trng, e_tup, e_lst, e_sl, e_rev, e_every, e_ixV, e_ixC, e_ixI, e_ixL, evs_nil, evs_cons, evs_star, evs_io, evO_none, evO_some, evP_none, evP_some, evI_seq, evI_enum, evI_zip, rss_nil, rss_cons, rs_asg, rs_unp, rs_par, rs_ifs, rs_expr, rs_ret, rs_brk, rs_app, rs_while, getV, setV, isiD, copD, bopD, b_lenL, b_lenT, b_abs, b_min2, b_max2, b_int, b_intB, b_listL, b_listT, b_tupL, b_tupT, b_all, b_any, b_sumL, b_sumT, unO, tb_len, MP.frs, itemsImm, imm, immL, asgD, MP.isIo, bindT, bindTs, seqOf, MP.isInt, at0, at1, at2, startE, cntIo, frzAll, fz0, wipeE, frz, frz1, MP.vars, varsS, varsO, varsI, LIM, d6, b6, e, abs_if]
  exact e2
theorem s44 (h : 44 < n) (a b : Int) {k : Nat} (h0 : 0 ≤ b) (hb : sm k b) (hk : k ≤ 10000) : F n 44 [some (.int a), some (.int b)] P = some (.int (Int.gcd a b), P) := by
  obtain ⟨a', e1, e2⟩ := gcd_loop (F 44) P fuelW a b h0 (fuel_gt hb hk)
  have e : rs (F 44) false e44_1 [some (Kd.ro, .int a), some (Kd.ro, .int b)] P = _ := e1
  refine F_ret h (d := d44) rfl rfl (by decide) rfl ?_
  simp [e_con, e_var, e_bin, e_neg, e_cmp, e_chain, e_and, e_or, e_not, e_ite, e_call, e_blt, e_isi, e_lrng, e_trng, e_tup, e_lst, e_sl, e_rev, e_every, e_ixV, e_ixC, e_ixI, e_ixL, evs_nil, evs_cons, evs_star, evs_io, evO_none, evO_some, evP_none, evP_some, evI_seq, evI_enum, evI_zip, rss_nil, rss_cons, rs_asg, rs_unp, rs_par, rs_ifs, rs_expr, rs_ret, rs_brk, rs_app, rs_while, getV, setV, isiD, copD, bopD, b_lenL, b_lenT, b_abs, b_min2, b_max2, b_int, b_intB, b_listL, b_listT, b_tupL, b_tupT, b_all, b_any, b_sumL, b_sumT, unO, tb_len, MP.frs, itemsImm, imm, immL, asgD, MP.isIo, bindT, bindTs, seqOf, MP.isInt, at0, at1, at2, startE, cntIo, frzAll, fz0, wipeE, frz, frz1, MP.vars, varsS, varsO, varsI, LIM, d44, b44, e, abs_if]
  exact e2
theorem gcd_le {a b : Int} (hb : 0 < b) : (Int.gcd a b : Int).natAbs ≤ b.natAbs := by
  have := Int.gcd_le_natAbs_right a (show b ≠ 0 from by omega)
  omega
theorem log_gcd {a b : Int} {k : Nat} (hb : 0 < b) (h : sm k b) (hk : k < 9000) : (Int.gcd a b).log2 < 9000 := by
  have h1 : sm k (Int.gcd a b) := h.of_le (gcd_le hb)
  have h2 := (h1.mono (show k ≤ k + 1 from by omega)).log
  have : ((Int.gcd a b : Nat) : Int).natAbs = Int.gcd a b := rfl
  rw [this] at h2
  omega
theorem s12 (h : 12 < n) (a b : Int) {k : Nat} (h0 : 0 < b) (hb : sm k b) (hk : k < 9000) : F n 12 [some (.int a), some (.int b)] P = some (fr a b, P) := by
  have hg := gcd_pos (a := a) h0
  have hl := log_gcd (a := a) h0 hb hk
  have hn : ¬ b < 0 := by omega
  refine F_ret h (d := d12) rfl rfl (by decide) rfl ?_
  have hb0 : ¬ b = 0 := by omega
  simp [e_con, e_var, e_bin, e_neg, e_cmp, e_chain, e_and, e_or, e_not, e_ite, e_call, e_blt, e_isi, e_lrng, e_trng, e_tup, e_lst, e_sl, e_rev, e_every, e_ixV, e_ixC, e_ixI, e_ixL, evs_nil, evs_cons, evs_star, evs_io, evO_none, evO_some, evP_none, evP_some, evI_seq, evI_enum, evI_zip, rss_nil, rss_cons, rs_asg, rs_unp, rs_par, rs_ifs, rs_expr, rs_ret, rs_brk, rs_app, rs_while, getV, setV, isiD, copD, bopD, b_lenL, b_lenT, b_abs, b_min2, b_max2, b_int, b_intB, b_listL, b_listT, b_tupL, b_tupT, b_all, b_any, b_sumL, b_sumT, unO, tb_len, MP.frs, itemsImm, imm, immL, asgD, MP.isIo, bindT, bindTs, seqOf, MP.isInt, at0, at1, at2, startE, cntIo, frzAll, fz0, wipeE, frz, frz1, MP.vars, varsS, varsO, varsI, LIM, d12, b12, s6 (n := 12) (by omega) a b (by omega) hb (show k ≤ 10000 by omega), hn, fr, frN, frD, hb0, hl]
theorem s45 (h : 45 < n) (a b : Int) {k : Nat} (h0 : 0 < b) (hb : sm k b) (hk : k < 9000) : F n 45 [some (.int a), some (.int b)] P = some (fr a b, P) := by
  have hg := gcd_pos (a := a) h0
  have hl := log_gcd (a := a) h0 hb hk
  have hsm : smallI (Int.gcd a b) 1 = true := ((hb.of_le (gcd_le h0)).mono (show k ≤ k + 1 from by omega)).small (l := 0) (b := 1) (show (1 : Int).natAbs < 2 ^ 1 from by decide) (by omega)
  have hg' : 0 < Int.gcd a b := by omega
  refine F_ret h (d := d45) rfl rfl (by decide) rfl ?_
  simp [e_con, e_var, e_bin, e_neg, e_cmp, e_chain, e_and, e_or, e_not, e_ite, e_call, e_blt, e_isi, e_lrng, e_trng, e_tup, e_lst, e_sl, e_rev, e_every, e_ixV, e_ixC, e_ixI, e_ixL, evs_nil, evs_cons, evs_star, evs_io, evO_none, evO_some, evP_none, evP_some, evI_seq, evI_enum, evI_zip, rss_nil, rss_cons, rs_asg, rs_unp, rs_par, rs_ifs, rs_expr, rs_ret, rs_brk, rs_app, rs_while, getV, setV, isiD, copD, bopD, b_lenL, b_lenT, b_abs, b_min2, b_max2, b_int, b_intB, b_listL, b_listT, b_tupL, b_tupT, b_all, b_any, b_sumL, b_sumT, unO, tb_len, MP.frs, itemsImm, imm, immL, asgD, MP.isIo, bindT, bindTs, seqOf, MP.isInt, at0, at1, at2, startE, cntIo, frzAll, fz0, wipeE, frz, frz1, MP.vars, varsS, varsO, varsI, LIM, d45, b45, s44 (n := 45) (by omega) a b (by omega) hb (show k ≤ 10000 by omega), h0, hsm, fr, frN, frD, hg', hl]
/-- two fractions as data -/
theorem s13 (h : 13 < n) {a b c d : Int} {k : Nat} (hb : 0 < b) (hd : 0 < d) (ka : sm k a) (kb : sm k b) (kc : sm k c) (kd : sm k d) (hk : k ≤ 4000) : F n 13 [some (fr a b), some (fr c d)] P = some (fr (a * d + c * b) (b * d), P) := by
  have m1 : smallI (frN a b) (frD c d) = true := ((ka.frN hb).mono (show k ≤ k + 1 from by omega)).small ((kd.frD hd).mono (show k ≤ k + 1 from by omega)) (by omega)
  have m2 : smallI (frN c d) (frD a b) = true := ((kc.frN hd).mono (show k ≤ k + 1 from by omega)).small ((kb.frD hb).mono (show k ≤ k + 1 from by omega)) (by omega)
  have m3 : smallI (frD a b) (frD c d) = true := ((kb.frD hb).mono (show k ≤ k + 1 from by omega)).small ((kd.frD hd).mono (show k ≤ k + 1 from by omega)) (by omega)
  have e := s12 (n := 13) (P := P) (by omega) (frN a b * frD c d + frN c d * frD a b) (frD a b * frD c d) (Int.mul_pos (frD_pos hb) (frD_pos hd)) ((kb.frD hb).mul (kd.frD hd)) (by omega)
  rw [fr_plus hb hd] at e
  refine F_ret h (d := d13) rfl rfl (by decide) rfl ?_
  unfold fr at e ⊢
  simp [e_con, e_var, e_bin, e_neg, e_cmp, e_chain, e_and, e_or, e_not, e_ite, e_call, e_blt, e_isi, e_lrng, e_trng, e_tup, e_lst, e_sl, e_rev, e_every, e_ixV, e_ixC, e_ixI, e_ixL, evs_nil, evs_cons, evs_star, evs_io, evO_none, evO_some, evP_none, evP_some, evI_seq, evI_enum, evI_zip, rss_nil, rss_cons, rs_asg, rs_unp, rs_par, rs_ifs, rs_expr, rs_ret, rs_brk, rs_app, rs_while, getV, setV, isiD, copD, bopD, b_lenL, b_lenT, b_abs, b_min2, b_max2, b_int, b_intB, b_listL, b_listT, b_tupL, b_tupT, b_all, b_any, b_sumL, b_sumT, unO, tb_len, MP.frs, itemsImm, imm, immL, asgD, MP.isIo, bindT, bindTs, seqOf, MP.isInt, at0, at1, at2, startE, cntIo, frzAll, fz0, wipeE, frz, frz1, MP.vars, varsS, varsO, varsI, LIM, d13, b13, m1, m2, m3, e]
theorem s46 (h : 46 < n) {a b c d : Int} {k : Nat} (hb : 0 < b) (hd : 0 < d) (ka : sm k a) (kb : sm k b) (kc : sm k c) (kd : sm k d) (hk : k ≤ 4000) : F n 46 [some (fr a b), some (fr c d)] P = some (fr (a * d + c * b) (b * d), P) := by
  have m1 : smallI (frN a b) (frD c d) = true := ((ka.frN hb).mono (show k ≤ k + 1 from by omega)).small ((kd.frD hd).mono (show k ≤ k + 1 from by omega)) (by omega)
  have m2 : smallI (frN c d) (frD a b) = true := ((kc.frN hd).mono (show k ≤ k + 1 from by omega)).small ((kb.frD hb).mono (show k ≤ k + 1 from by omega)) (by omega)
  have m3 : smallI (frD a b) (frD c d) = true := ((kb.frD hb).mono (show k ≤ k + 1 from by omega)).small ((kd.frD hd).mono (show k ≤ k + 1 from by omega)) (by omega)
  have e := s45 (n := 46) (P := P) (by omega) (frN a b * frD c d + frN c d * frD a b) (frD a b * frD c d) (Int.mul_pos (frD_pos hb) (frD_pos hd)) ((kb.frD hb).mul (kd.frD hd)) (by omega)
  rw [fr_plus hb hd] at e
  refine F_ret h (d := d46) rfl rfl (by decide) rfl ?_
  unfold fr at e ⊢
  simp [e_con, e_var, e_bin, e_neg, e_cmp, e_chain, e_and, e_or, e_not, e_ite, e_call, e_blt, e_isi, e_lrng, e_trng, e_tup, e_lst, e_sl, e_rev, e_every, e_ixV, e_ixC, e_ixI, e_ixL, evs_nil, evs_cons, evs_star, evs_io, evO_none, evO_some, evP_none, evP_some, evI_seq, evI_enum, evI_zip, rss_nil, rss_cons, rs_asg, rs_unp, rs_par, rs_ifs, rs_expr, rs_ret, rs_brk, rs_app, rs_while, getV, setV, isiD, copD, bopD, b_lenL, b_lenT, b_abs, b_min2, b_max2, b_int, b_intB, b_listL, b_listT, b_tupL, b_tupT, b_all, b_any, b_sumL, b_sumT, unO, tb_len, MP.frs, itemsImm, imm, immL, asgD, MP.isIo, bindT, bindTs, seqOf, MP.isInt, at0, at1, at2, startE, cntIo, frzAll, fz0, wipeE, frz, frz1, MP.vars, varsS, varsO, varsI, LIM, d46, b46, m1, m2, m3, e]
theorem s47 (h : 47 < n) {a b c d : Int} {k : Nat} (hb : 0 < b) (hd : 0 < d) (ka : sm k a) (kb : sm k b) (kc : sm k c) (kd : sm k d) (hk : k ≤ 4000) : F n 47 [some (fr a b), some (fr c d)] P = some (fr (a * d - c * b) (b * d), P) := by
  have m1 : smallI (frN a b) (frD c d) = true := ((ka.frN hb).mono (show k ≤ k + 1 from by omega)).small ((kd.frD hd).mono (show k ≤ k + 1 from by omega)) (by omega)
  have m2 : smallI (frN c d) (frD a b) = true := ((kc.frN hd).mono (show k ≤ k + 1 from by omega)).small ((kb.frD hb).mono (show k ≤ k + 1 from by omega)) (by omega)
  have m3 : smallI (frD a b) (frD c d) = true := ((kb.frD hb).mono (show k ≤ k + 1 from by omega)).small ((kd.frD hd).mono (show k ≤ k + 1 from by omega)) (by omega)
  have e := s45 (n := 47) (P := P) (by omega) (frN a b * frD c d - frN c d * frD a b) (frD a b * frD c d) (Int.mul_pos (frD_pos hb) (frD_pos hd)) ((kb.frD hb).mul (kd.frD hd)) (by omega)
  rw [fr_minus hb hd] at e
  refine F_ret h (d := d47) rfl rfl (by decide) rfl ?_
  unfold fr at e ⊢
  simp [e_con, e_var, e_bin, e_neg, e_cmp, e_chain, e_and, e_or, e_not, e_ite, e_call, e_blt, e_isi, e_lrng, e_trng, e_tup, e_lst, e_sl, e_rev, e_every, e_ixV, e_ixC, e_ixI, e_ixL, evs_nil, evs_cons, evs_star, evs_io, evO_none, evO_some, evP_none, evP_some, evI_seq, evI_enum, evI_zip, rss_nil, rss_cons, rs_asg, rs_unp, rs_par, rs_ifs, rs_expr, rs_ret, rs_brk, rs_app, rs_while, getV, setV, isiD, copD, bopD, b_lenL, b_lenT, b_abs, b_min2, b_max2, b_int, b_intB, b_listL, b_listT, b_tupL, b_tupT, b_all, b_any, b_sumL, b_sumT, unO, tb_len, MP.frs, itemsImm, imm, immL, asgD, MP.isIo, bindT, bindTs, seqOf, MP.isInt, at0, at1, at2, startE, cntIo, frzAll, fz0, wipeE, frz, frz1, MP.vars, varsS, varsO, varsI, LIM, d47, b47, m1, m2, m3, e]
theorem s48 (h : 48 < n) {a b c d : Int} {k : Nat} (hb : 0 < b) (hd : 0 < d) (ka : sm k a) (kb : sm k b) (kc : sm k c) (kd : sm k d) (hk : k ≤ 4000) : F n 48 [some (fr a b), some (fr c d)] P = some (fr (a * c) (b * d), P) := by
  have m1 : smallI (frN a b) (frN c d) = true := ((ka.frN hb).mono (show k ≤ k + 1 from by omega)).small ((kc.frN hd).mono (show k ≤ k + 1 from by omega)) (by omega)
  have m3 : smallI (frD a b) (frD c d) = true := ((kb.frD hb).mono (show k ≤ k + 1 from by omega)).small ((kd.frD hd).mono (show k ≤ k + 1 from by omega)) (by omega)
  have e := s45 (n := 48) (P := P) (by omega) (frN a b * frN c d) (frD a b * frD c d) (Int.mul_pos (frD_pos hb) (frD_pos hd)) ((kb.frD hb).mul (kd.frD hd)) (by omega)
  rw [fr_times hb hd] at e
  refine F_ret h (d := d48) rfl rfl (by decide) rfl ?_
  unfold fr at e ⊢
  simp [e_con, e_var, e_bin, e_neg, e_cmp, e_chain, e_and, e_or, e_not, e_ite, e_call, e_blt, e_isi, e_lrng, e_trng, e_tup, e_lst, e_sl, e_rev, e_every, e_ixV, e_ixC, e_ixI, e_ixL, evs_nil, evs_cons, evs_star, evs_io, evO_none, evO_some, evP_none, evP_some, evI_seq, evI_enum, evI_zip, rss_nil, rss_cons, rs_asg, rs_unp, rs_par, rs_ifs, rs_expr, rs_ret, rs_brk, rs_app, rs_while, getV, setV, isiD, copD, bopD, b_lenL, b_lenT, b_abs, b_min2, b_max2, b_int, b_intB, b_listL, b_listT, b_tupL, b_tupT, b_all, b_any, b_sumL, b_sumT, unO, tb_len, MP.frs, itemsImm, imm, immL, asgD, MP.isIo, bindT, bindTs, seqOf, MP.isInt, at0, at1, at2, startE, cntIo, frzAll, fz0, wipeE, frz, frz1, MP.vars, varsS, varsO, varsI, LIM, d48, b48, m1, m3, e]
theorem s14 (h : 14 < n) {a b c d : Int} {k : Nat} (hb : 0 < b) (hd : 0 < d) (ka : sm k a) (kb : sm k b) (kc : sm k c) (kd : sm k d) (hk : k ≤ 4000) : F n 14 [some (fr a b), some (fr c d)] P = some (.bool (decide (a * d < c * b)), P) := by
  have m1 : smallI (frN a b) (frD c d) = true := ((ka.frN hb).mono (show k ≤ k + 1 from by omega)).small ((kd.frD hd).mono (show k ≤ k + 1 from by omega)) (by omega)
  have m2 : smallI (frN c d) (frD a b) = true := ((kc.frN hd).mono (show k ≤ k + 1 from by omega)).small ((kb.frD hb).mono (show k ≤ k + 1 from by omega)) (by omega)
  refine F_ret h (d := d14) rfl rfl (by decide) rfl ?_
  unfold fr
  simp [e_con, e_var, e_bin, e_neg, e_cmp, e_chain, e_and, e_or, e_not, e_ite, e_call, e_blt, e_isi, e_lrng, e_trng, e_tup, e_lst, e_sl, e_rev, e_every, e_ixV, e_ixC, e_ixI, e_ixL, evs_nil, evs_cons, evs_star, evs_io, evO_none, evO_some, evP_none, evP_some, evI_seq, evI_enum, evI_zip, rss_nil, rss_cons, rs_asg, rs_unp, rs_par, rs_ifs, rs_expr, rs_ret, rs_brk, rs_app, rs_while, getV, setV, isiD, copD, bopD, b_lenL, b_lenT, b_abs, b_min2, b_max2, b_int, b_intB, b_listL, b_listT, b_tupL, b_tupT, b_all, b_any, b_sumL, b_sumT, unO, tb_len, MP.frs, itemsImm, imm, immL, asgD, MP.isIo, bindT, bindTs, seqOf, MP.isInt, at0, at1, at2, startE, cntIo, frzAll, fz0, wipeE, frz, frz1, MP.vars, varsS, varsO, varsI, LIM, d14, b14, m1, m2, fr_lt hb hd]
theorem s49 (h : 49 < n) {a b c d : Int} {k : Nat} (hb : 0 < b) (hd : 0 < d) (ka : sm k a) (kb : sm k b) (kc : sm k c) (kd : sm k d) (hk : k ≤ 4000) : F n 49 [some (fr a b), some (fr c d)] P = some (.bool (decide (a * d < c * b)), P) := by
  have m1 : smallI (frN a b) (frD c d) = true := ((ka.frN hb).mono (show k ≤ k + 1 from by omega)).small ((kd.frD hd).mono (show k ≤ k + 1 from by omega)) (by omega)
  have m2 : smallI (frN c d) (frD a b) = true := ((kc.frN hd).mono (show k ≤ k + 1 from by omega)).small ((kb.frD hb).mono (show k ≤ k + 1 from by omega)) (by omega)
  refine F_ret h (d := d49) rfl rfl (by decide) rfl ?_
  unfold fr
  simp [e_con, e_var, e_bin, e_neg, e_cmp, e_chain, e_and, e_or, e_not, e_ite, e_call, e_blt, e_isi, e_lrng, e_trng, e_tup, e_lst, e_sl, e_rev, e_every, e_ixV, e_ixC, e_ixI, e_ixL, evs_nil, evs_cons, evs_star, evs_io, evO_none, evO_some, evP_none, evP_some, evI_seq, evI_enum, evI_zip, rss_nil, rss_cons, rs_asg, rs_unp, rs_par, rs_ifs, rs_expr, rs_ret, rs_brk, rs_app, rs_while, getV, setV, isiD, copD, bopD, b_lenL, b_lenT, b_abs, b_min2, b_max2, b_int, b_intB, b_listL, b_listT, b_tupL, b_tupT, b_all, b_any, b_sumL, b_sumT, unO, tb_len, MP.frs, itemsImm, imm, immL, asgD, MP.isIo, bindT, bindTs, seqOf, MP.isInt, at0, at1, at2, startE, cntIo, frzAll, fz0, wipeE, frz, frz1, MP.vars, varsS, varsO, varsI, LIM, d49, b49, m1, m2, fr_lt hb hd]
end K06
set_option Elab.async false
set_option linter.all false
set_option maxRecDepth 100000
/-! k06: binomials, sums of fractions, draws. -/
namespace K06
open PySem MP
theorem sm_ch {m k : Nat} (h : m ≤ 1000) : sm 1001 (ch m k : Nat) := by
  unfold sm
  have h1 := ch_le m k
  have h2 : 2 ^ m ≤ 2 ^ 1000 := Nat.pow_le_pow_right (by omega) h
  have h3 : 2 ^ 1000 < 2 ^ 1001 := Nat.pow_lt_pow_right (by omega) (by omega)
  show (((ch m k : Nat) : Int)).natAbs < 2 ^ 1001
  rw [Int.natAbs_natCast]
  omega
theorem sm_lit {a : Int} {j k : Nat} (h : a.natAbs < 2 ^ j) (hj : j ≤ k) : sm k a := sm.mono (k := j) h hj
theorem ch_next {m i : Nat} (h : i ≤ m) : ((ch m i : Nat) : Int) * ((m : Int) - (i : Nat)) / ((i : Int) + 1) = ((ch m (i + 1) : Nat) : Int) := by
  have e := ch_step m i
  have : ((ch m i : Nat) : Int) * ((m : Int) - (i : Nat)) = (((i + 1) * ch m (i + 1) : Nat) : Int) := by
    rw [e, Int.natCast_mul, Int.mul_comm]
    congr 1
    omega
  rw [this, Int.natCast_mul]
  have h2 : ((i : Int) + 1) = ((i + 1 : Nat) : Int) := by omega
  rw [h2, Int.mul_ediv_cancel_left _ (by omega)]
variable {n : Nat} {P : PyData}
theorem small_ch {m i : Nat} (h : m ≤ 1000) (hi : i ≤ 1000) : smallI (ch m i : Nat) ((m : Int) - (i : Nat)) = true := by
  refine (sm_ch h).small (k := 1000) (l := 1000) (sm_lit (j := 11) ?_ (by omega)) (by omega)
  omega
theorem log_nat {i : Nat} (h : i ≤ 1000) : ((i : Int) + 1).natAbs.log2 < 9000 := by
  have : sm 21 ((i : Int) + 1) := by unfold sm; omega
  have := this.log
  omega
theorem s51 (h : 51 < n) (m k : Nat) (hm : m ≤ 1000) (hk : k ≤ 1000) : F n 51 [some (.int (m : Nat)), some (.int (k : Nat))] P = some (.int (ch m k : Nat), P) := by
  let S : Nat → MP.Env := fun i => [some (Kd.ro, .int (m : Nat)), some (Kd.ro, .int (k : Nat)), some (Kd.ro, .int ((if k ≤ m then ch m i else 0 : Nat) : Int)), if i = 0 then none else some (Kd.ro, .int ((i - 1 : Nat) : Int))]
  have e : ∀ E, E = S 0 → rs (F 51) false e51_1 E P = some (.nx (S k) P) := by
    rintro E rfl
    show rs (F 51) false (.for (.nm 3) (.rng1 (.var 1)) e51_0) (S 0) P = _
    rw [rs_for (evI_r1 (m := k) rfl (by omega))]
    refine for_run S (fun _ => P) rfl rfl fun i hi => ⟨[some (Kd.ro, .int (m : Nat)), some (Kd.ro, .int (k : Nat)), some (Kd.ro, .int ((if k ≤ m then ch m i else 0 : Nat) : Int)), some (Kd.ro, .int (i : Nat))], ?_, ?_⟩
    · by_cases hi0 : i = 0 <;> simp [S, e_con, e_var, e_bin, e_neg, e_cmp, e_chain, e_and, e_or, e_not, e_ite, e_call, e_blt, e_isi, e_lrng, e_trng, e_tup, e_lst, e_sl, e_rev, e_every, e_ixV, e_ixC, e_ixI, e_ixL, evs_nil, evs_cons, evs_star, evs_io, evO_none, evO_some, evP_none, evP_some, evI_seq, evI_enum, evI_zip, rss_nil, rss_cons, rs_asg, rs_unp, rs_par, rs_ifs, rs_expr, rs_ret, rs_brk, rs_app, rs_while, getV, setV, isiD, copD, bopD, b_lenL, b_lenT, b_abs, b_min2, b_max2, b_int, b_intB, b_listL, b_listT, b_tupL, b_tupT, b_all, b_any, b_sumL, b_sumT, unO, tb_len, MP.frs, itemsImm, imm, immL, asgD, MP.isIo, bindT, bindTs, seqOf, MP.isInt, at0, at1, at2, startE, cntIo, frzAll, fz0, wipeE, frz, frz1, MP.vars, varsS, varsO, varsI, LIM, hi0]
    · have h1 : (0 : Int) < (i : Int) + 1 := by omega
      have h2 := log_nat (show i ≤ 1000 by omega)
      have h3 : ¬ (i + 1 = 0) := by omega
      by_cases c : k ≤ m
      · have h4 := small_ch (m := m) (i := i) hm (by omega)
        have h5 := ch_next (m := m) (i := i) (by omega)
        simp [S, e_con, e_var, e_bin, e_neg, e_cmp, e_chain, e_and, e_or, e_not, e_ite, e_call, e_blt, e_isi, e_lrng, e_trng, e_tup, e_lst, e_sl, e_rev, e_every, e_ixV, e_ixC, e_ixI, e_ixL, evs_nil, evs_cons, evs_star, evs_io, evO_none, evO_some, evP_none, evP_some, evI_seq, evI_enum, evI_zip, rss_nil, rss_cons, rs_asg, rs_unp, rs_par, rs_ifs, rs_expr, rs_ret, rs_brk, rs_app, rs_while, getV, setV, isiD, copD, bopD, b_lenL, b_lenT, b_abs, b_min2, b_max2, b_int, b_intB, b_listL, b_listT, b_tupL, b_tupT, b_all, b_any, b_sumL, b_sumT, unO, tb_len, MP.frs, itemsImm, imm, immL, asgD, MP.isIo, bindT, bindTs, seqOf, MP.isInt, at0, at1, at2, startE, cntIo, frzAll, fz0, wipeE, frz, frz1, MP.vars, varsS, varsO, varsI, LIM, e51_0, c, h1, h2, h3, h4, h5]
      · have h4 : smallI 0 ((m : Int) - (i : Nat)) = true := (sm_lit (a := 0) (j := 1) (k := 1) (by decide) (by omega)).small (l := 1000) (sm_lit (j := 11) (by omega) (by omega)) (by omega)
        simp [S, e_con, e_var, e_bin, e_neg, e_cmp, e_chain, e_and, e_or, e_not, e_ite, e_call, e_blt, e_isi, e_lrng, e_trng, e_tup, e_lst, e_sl, e_rev, e_every, e_ixV, e_ixC, e_ixI, e_ixL, evs_nil, evs_cons, evs_star, evs_io, evO_none, evO_some, evP_none, evP_some, evI_seq, evI_enum, evI_zip, rss_nil, rss_cons, rs_asg, rs_unp, rs_par, rs_ifs, rs_expr, rs_ret, rs_brk, rs_app, rs_while, getV, setV, isiD, copD, bopD, b_lenL, b_lenT, b_abs, b_min2, b_max2, b_int, b_intB, b_listL, b_listT, b_tupL, b_tupT, b_all, b_any, b_sumL, b_sumT, unO, tb_len, MP.frs, itemsImm, imm, immL, asgD, MP.isIo, bindT, bindTs, seqOf, MP.isInt, at0, at1, at2, startE, cntIo, frzAll, fz0, wipeE, frz, frz1, MP.vars, varsS, varsO, varsI, LIM, e51_0, c, h1, h2, h3, h4]
  refine F_ret h (d := d51) rfl rfl (by decide) rfl ?_
  by_cases c : k ≤ m
  · have e' := e [some (Kd.ro, .int (m : Nat)), some (Kd.ro, .int (k : Nat)), some (Kd.ro, .int 1), none] (by simp [S, c, ch_zero])
    simp [e_con, e_var, e_bin, e_neg, e_cmp, e_chain, e_and, e_or, e_not, e_ite, e_call, e_blt, e_isi, e_lrng, e_trng, e_tup, e_lst, e_sl, e_rev, e_every, e_ixV, e_ixC, e_ixI, e_ixL, evs_nil, evs_cons, evs_star, evs_io, evO_none, evO_some, evP_none, evP_some, evI_seq, evI_enum, evI_zip, rss_nil, rss_cons, rs_asg, rs_unp, rs_par, rs_ifs, rs_expr, rs_ret, rs_brk, rs_app, rs_while, getV, setV, isiD, copD, bopD, b_lenL, b_lenT, b_abs, b_min2, b_max2, b_int, b_intB, b_listL, b_listT, b_tupL, b_tupT, b_all, b_any, b_sumL, b_sumT, unO, tb_len, MP.frs, itemsImm, imm, immL, asgD, MP.isIo, bindT, bindTs, seqOf, MP.isInt, at0, at1, at2, startE, cntIo, frzAll, fz0, wipeE, frz, frz1, MP.vars, varsS, varsO, varsI, LIM, d51, b51, c, e', S]
  · have e' := e [some (Kd.ro, .int (m : Nat)), some (Kd.ro, .int (k : Nat)), some (Kd.ro, .int 0), none] (by simp [S, c])
    simp [e_con, e_var, e_bin, e_neg, e_cmp, e_chain, e_and, e_or, e_not, e_ite, e_call, e_blt, e_isi, e_lrng, e_trng, e_tup, e_lst, e_sl, e_rev, e_every, e_ixV, e_ixC, e_ixI, e_ixL, evs_nil, evs_cons, evs_star, evs_io, evO_none, evO_some, evP_none, evP_some, evI_seq, evI_enum, evI_zip, rss_nil, rss_cons, rs_asg, rs_unp, rs_par, rs_ifs, rs_expr, rs_ret, rs_brk, rs_app, rs_while, getV, setV, isiD, copD, bopD, b_lenL, b_lenT, b_abs, b_min2, b_max2, b_int, b_intB, b_listL, b_listT, b_tupL, b_tupT, b_all, b_any, b_sumL, b_sumT, unO, tb_len, MP.frs, itemsImm, imm, immL, asgD, MP.isIo, bindT, bindTs, seqOf, MP.isInt, at0, at1, at2, startE, cntIo, frzAll, fz0, wipeE, frz, frz1, MP.vars, varsS, varsO, varsI, LIM, d51, b51, c, e', S]
    rw [ch_gt (by omega)]
    rfl
/-- choose_of -/
theorem ch_min {m k : Nat} (h : k ≤ m) : ch m (min k (m - k)) = ch m k := by
  by_cases c : k ≤ m - k
  · rw [Nat.min_eq_left c]
  · rw [Nat.min_eq_right (by omega), ch_symm m k h]
theorem s16 (h : 16 < n) (m k : Nat) (hm : m ≤ 1000) (hk : k ≤ 1000) : F n 16 [some (.int (m : Nat)), some (.int (k : Nat))] P = some (.int (ch m k : Nat), P) := by
  by_cases c : k ≤ m
  · let S : Nat → MP.Env := fun i => [some (Kd.ro, .int (m : Nat)), some (Kd.ro, .int (k : Nat)), some (Kd.ro, .int (ch m i : Nat)), if i = 0 then none else some (Kd.ro, .int ((i - 1 : Nat) : Int))]
    have e : ∀ E, E = S 0 → rs (F 16) false e16_1 E P = some (.nx (S (min k (m - k))) P) := by
      rintro E rfl
      show rs (F 16) false (.for (.nm 3) (.rng1 (.blt .min2 (.cons (.var 1) (.cons (.bin .sub (.var 0) (.var 1)) .nil)))) e16_0) (S 0) P = _
      rw [rs_for (evI_r1 (m := min k (m - k)) (by
        have e : (if (m : Int) - k < k then (m : Int) - k else k) = ((min k (m - k) : Nat) : Int) := by split <;> omega
        simp only [S, e_con, e_var, e_bin, e_neg, e_cmp, e_chain, e_and, e_or, e_not, e_ite, e_call, e_blt, e_isi, e_lrng, e_trng, e_tup, e_lst, e_sl, e_rev, e_every, e_ixV, e_ixC, e_ixI, e_ixL, evs_nil, evs_cons, evs_star, evs_io, evO_none, evO_some, evP_none, evP_some, evI_seq, evI_enum, evI_zip, rss_nil, rss_cons, rs_asg, rs_unp, rs_par, rs_ifs, rs_expr, rs_ret, rs_brk, rs_app, rs_while, getV, setV, isiD, copD, bopD, b_lenL, b_lenT, b_abs, b_min2, b_max2, b_int, b_intB, b_listL, b_listT, b_tupL, b_tupT, b_all, b_any, b_sumL, b_sumT, unO, tb_len, MP.frs, itemsImm, imm, immL, asgD, MP.isIo, bindT, bindTs, seqOf, MP.isInt, at0, at1, at2, startE, cntIo, frzAll, fz0, wipeE, frz, frz1, MP.vars, varsS, varsO, varsI, LIM, List.getElem?_cons_zero, List.getElem?_cons_succ, Option.map_some, Option.bind_some]
        rw [← e]
        rfl) (by omega))]
      refine for_run S (fun _ => P) rfl rfl fun i hi => ⟨[some (Kd.ro, .int (m : Nat)), some (Kd.ro, .int (k : Nat)), some (Kd.ro, .int (ch m i : Nat)), some (Kd.ro, .int (i : Nat))], ?_, ?_⟩
      · by_cases hi0 : i = 0 <;> simp [S, e_con, e_var, e_bin, e_neg, e_cmp, e_chain, e_and, e_or, e_not, e_ite, e_call, e_blt, e_isi, e_lrng, e_trng, e_tup, e_lst, e_sl, e_rev, e_every, e_ixV, e_ixC, e_ixI, e_ixL, evs_nil, evs_cons, evs_star, evs_io, evO_none, evO_some, evP_none, evP_some, evI_seq, evI_enum, evI_zip, rss_nil, rss_cons, rs_asg, rs_unp, rs_par, rs_ifs, rs_expr, rs_ret, rs_brk, rs_app, rs_while, getV, setV, isiD, copD, bopD, b_lenL, b_lenT, b_abs, b_min2, b_max2, b_int, b_intB, b_listL, b_listT, b_tupL, b_tupT, b_all, b_any, b_sumL, b_sumT, unO, tb_len, MP.frs, itemsImm, imm, immL, asgD, MP.isIo, bindT, bindTs, seqOf, MP.isInt, at0, at1, at2, startE, cntIo, frzAll, fz0, wipeE, frz, frz1, MP.vars, varsS, varsO, varsI, LIM, hi0]
      · have h1 : (0 : Int) < (i : Int) + 1 := by omega
        have h2 := log_nat (show i ≤ 1000 by omega)
        have h3 : ¬ (i + 1 = 0) := by omega
        have h4 := small_ch (m := m) (i := i) hm (by omega)
        have h5 := ch_next (m := m) (i := i) (by omega)
        simp [S, e_con, e_var, e_bin, e_neg, e_cmp, e_chain, e_and, e_or, e_not, e_ite, e_call, e_blt, e_isi, e_lrng, e_trng, e_tup, e_lst, e_sl, e_rev, e_every, e_ixV, e_ixC, e_ixI, e_ixL, evs_nil, evs_cons, evs_star, evs_io, evO_none, evO_some, evP_none, evP_some, evI_seq, evI_enum, evI_zip, rss_nil, rss_cons, rs_asg, rs_unp, rs_par, rs_ifs, rs_expr, rs_ret, rs_brk, rs_app, rs_while, getV, setV, isiD, copD, bopD, b_lenL, b_lenT, b_abs, b_min2, b_max2, b_int, b_intB, b_listL, b_listT, b_tupL, b_tupT, b_all, b_any, b_sumL, b_sumT, unO, tb_len, MP.frs, itemsImm, imm, immL, asgD, MP.isIo, bindT, bindTs, seqOf, MP.isInt, at0, at1, at2, startE, cntIo, frzAll, fz0, wipeE, frz, frz1, MP.vars, varsS, varsO, varsI, LIM, e16_0, c, h1, h2, h3, h4, h5]
    refine F_ret h (d := d16) rfl rfl (by decide) rfl ?_
    have e' := e [some (Kd.ro, .int (m : Nat)), some (Kd.ro, .int (k : Nat)), some (Kd.ro, .int 1), none] (by simp [S, c, ch_zero])
    have c' : (k : Int) ≤ m := by omega
    simp [e_con, e_var, e_bin, e_neg, e_cmp, e_chain, e_and, e_or, e_not, e_ite, e_call, e_blt, e_isi, e_lrng, e_trng, e_tup, e_lst, e_sl, e_rev, e_every, e_ixV, e_ixC, e_ixI, e_ixL, evs_nil, evs_cons, evs_star, evs_io, evO_none, evO_some, evP_none, evP_some, evI_seq, evI_enum, evI_zip, rss_nil, rss_cons, rs_asg, rs_unp, rs_par, rs_ifs, rs_expr, rs_ret, rs_brk, rs_app, rs_while, getV, setV, isiD, copD, bopD, b_lenL, b_lenT, b_abs, b_min2, b_max2, b_int, b_intB, b_listL, b_listT, b_tupL, b_tupT, b_all, b_any, b_sumL, b_sumT, unO, tb_len, MP.frs, itemsImm, imm, immL, asgD, MP.isIo, bindT, bindTs, seqOf, MP.isInt, at0, at1, at2, startE, cntIo, frzAll, fz0, wipeE, frz, frz1, MP.vars, varsS, varsO, varsI, LIM, d16, b16, c, e', S, ch_min c]
  · refine F_ret h (d := d16) rfl rfl (by decide) rfl ?_
    have c' : ¬ (k : Int) ≤ m := by omega
    simp [e_con, e_var, e_bin, e_neg, e_cmp, e_chain, e_and, e_or, e_not, e_ite, e_call, e_blt, e_isi, e_lrng, e_trng, e_tup, e_lst, e_sl, e_rev, e_every, e_ixV, e_ixC, e_ixI, e_ixL, evs_nil, evs_cons, evs_star, evs_io, evO_none, evO_some, evP_none, evP_some, evI_seq, evI_enum, evI_zip, rss_nil, rss_cons, rs_asg, rs_unp, rs_par, rs_ifs, rs_expr, rs_ret, rs_brk, rs_app, rs_while, getV, setV, isiD, copD, bopD, b_lenL, b_lenT, b_abs, b_min2, b_max2, b_int, b_intB, b_listL, b_listT, b_tupL, b_tupT, b_all, b_any, b_sumL, b_sumT, unO, tb_len, MP.frs, itemsImm, imm, immL, asgD, MP.isIo, bindT, bindTs, seqOf, MP.isInt, at0, at1, at2, startE, cntIo, frzAll, fz0, wipeE, frz, frz1, MP.vars, varsS, varsO, varsI, LIM, d16, b16, c, ch_gt (show m < k by omega)]
theorem sm_dr {s d m k : Nat} (hs : s ≤ 200) (hm : m ≤ s) (hk : k ≤ d) : sm 1001 (dr s d m k : Nat) := by
  have h1 := dr_le (s := s) (d := d) (m := m) (k := k) hm hk
  have h2 : sm 1001 (ch s d : Nat) := sm_ch (by omega)
  exact h2.of_le (by omega)
theorem s23 (h : 23 < n) (s d m k : Nat) (hs : s ≤ 200) (hd : d ≤ 200) (hm : m ≤ s) (hk : k ≤ d) : F n 23 [some (.int (s : Nat)), some (.int (d : Nat)), some (.int (m : Nat)), some (.int (k : Nat))] P = some (.int (dr s d m k : Nat), P) := by
  have e1 := s16 (n := 23) (P := P) (by omega) m k (by omega) (by omega)
  have e2 := s16 (n := 23) (P := P) (by omega) (s - m) (d - k) (by omega) (by omega)
  have e3 : ((s - m : Nat) : Int) = (s : Int) - m := by omega
  have e4 : ((d - k : Nat) : Int) = (d : Int) - k := by omega
  rw [e3, e4] at e2
  have h4 : smallI (ch m k : Nat) (ch (s - m) (d - k) : Nat) = true := (sm_ch (m := m) (k := k) (by omega)).small (sm_ch (m := s - m) (k := d - k) (by omega)) (by omega)
  refine F_ret h (d := d23) rfl rfl (by decide) rfl ?_
  simp [e_con, e_var, e_bin, e_neg, e_cmp, e_chain, e_and, e_or, e_not, e_ite, e_call, e_blt, e_isi, e_lrng, e_trng, e_tup, e_lst, e_sl, e_rev, e_every, e_ixV, e_ixC, e_ixI, e_ixL, evs_nil, evs_cons, evs_star, evs_io, evO_none, evO_some, evP_none, evP_some, evI_seq, evI_enum, evI_zip, rss_nil, rss_cons, rs_asg, rs_unp, rs_par, rs_ifs, rs_expr, rs_ret, rs_brk, rs_app, rs_while, getV, setV, isiD, copD, bopD, b_lenL, b_lenT, b_abs, b_min2, b_max2, b_int, b_intB, b_listL, b_listT, b_tupL, b_tupT, b_all, b_any, b_sumL, b_sumT, unO, tb_len, MP.frs, itemsImm, imm, immL, asgD, MP.isIo, bindT, bindTs, seqOf, MP.isInt, at0, at1, at2, startE, cntIo, frzAll, fz0, wipeE, frz, frz1, MP.vars, varsS, varsO, varsI, LIM, d23, b23, e1, e2, h4, dr]
theorem tb_sum {n : Nat} {g : Nat → Int} : (tb n g).sum = sz g n := by
  induction n with
  | zero => rfl
  | succ n ih =>
    rw [tb_snoc, List.sum_append, ih]
    show sz g n + (g n + 0) = sz g n + g n
    omega
end K06
set_option Elab.async false
set_option linter.all false
set_option maxRecDepth 100000
/-! k06: checks, draws, chances, sums of fractions. -/
namespace K06
open PySem MP
variable {n : Nat} {P : PyData}
theorem F_no {n j : Nat} {d : Fd} {as : List (Option PyData)} {P P' : PyData} (h : j < n) (hd : G.tab j = some d) (h0 : as.length = d.np) (h1 : d.np ≤ d.names.length) (h2 : cntIo as = (if d.iop then 1 else 0)) (hr : ∃ E, rss (F j) d.iop d.body (startE d.names.length as) P = some (.nx E P')) : F n j as P = some (.none, P') := by
  obtain ⟨E, hr⟩ := hr
  exact F_nx h hd h0 h1 h2 hr
theorem s19 (h : 19 < n) (s d : Nat) (h1 : 1 ≤ s) (h2 : s ≤ 200) (h3 : 1 ≤ d) (h4 : d ≤ s) (h5 : d ≤ 60) : F n 19 [some (.int (s : Nat)), some (.int (d : Nat))] P = some (.none, P) := by
  have e1 := s2 (n := 19) (P := P) (by omega) (s : Int) 1 200 (by omega) (by omega)
  have e2 := s2 (n := 19) (P := P) (by omega) (d : Int) 1 (if (60 : Int) < s then 60 else s) (by omega) (by split <;> omega)
  refine F_no h (d := d19) rfl rfl (by decide) rfl ?_
  simp [e_con, e_var, e_bin, e_neg, e_cmp, e_chain, e_and, e_or, e_not, e_ite, e_call, e_blt, e_isi, e_lrng, e_trng, e_tup, e_lst, e_sl, e_rev, e_every, e_ixV, e_ixC, e_ixI, e_ixL, evs_nil, evs_cons, evs_star, evs_io, evO_none, evO_some, evP_none, evP_some, evI_seq, evI_enum, evI_zip, rss_nil, rss_cons, rs_asg, rs_unp, rs_par, rs_ifs, rs_expr, rs_ret, rs_brk, rs_app, rs_while, getV, setV, isiD, copD, bopD, b_lenL, b_lenT, b_abs, b_min2, b_max2, b_int, b_intB, b_listL, b_listT, b_tupL, b_tupT, b_all, b_any, b_sumL, b_sumT, unO, tb_len, MP.frs, itemsImm, imm, immL, asgD, MP.isIo, bindT, bindTs, seqOf, MP.isInt, at0, at1, at2, startE, cntIo, frzAll, fz0, wipeE, frz, frz1, MP.vars, varsS, varsO, varsI, LIM, d19, b19, c_MOST_URN, c_MOST_DRAWN, e1, e2]
theorem s20 (h : 20 < n) (s m : Nat) (hm : m ≤ s) : F n 20 [some (.int (s : Nat)), some (.int (m : Nat))] P = some (.none, P) := by
  have e1 := s2 (n := 20) (P := P) (by omega) (m : Int) 0 s (by omega) (by omega)
  refine F_no h (d := d20) rfl rfl (by decide) rfl ?_
  simp [e_con, e_var, e_bin, e_neg, e_cmp, e_chain, e_and, e_or, e_not, e_ite, e_call, e_blt, e_isi, e_lrng, e_trng, e_tup, e_lst, e_sl, e_rev, e_every, e_ixV, e_ixC, e_ixI, e_ixL, evs_nil, evs_cons, evs_star, evs_io, evO_none, evO_some, evP_none, evP_some, evI_seq, evI_enum, evI_zip, rss_nil, rss_cons, rs_asg, rs_unp, rs_par, rs_ifs, rs_expr, rs_ret, rs_brk, rs_app, rs_while, getV, setV, isiD, copD, bopD, b_lenL, b_lenT, b_abs, b_min2, b_max2, b_int, b_intB, b_listL, b_listT, b_tupL, b_tupT, b_all, b_any, b_sumL, b_sumT, unO, tb_len, MP.frs, itemsImm, imm, immL, asgD, MP.isIo, bindT, bindTs, seqOf, MP.isInt, at0, at1, at2, startE, cntIo, frzAll, fz0, wipeE, frz, frz1, MP.vars, varsS, varsO, varsI, LIM, d20, b20, e1]
theorem imm_fr (a b : Int) : imm (fr a b) = true := rfl
/-- a region: rising outcomes -/
structure Reg (d r : Nat) (f : Nat → Nat) : Prop where
  le : ∀ i, i < r → f i ≤ d
  up : ∀ i, i + 1 < r → f i < f (i + 1)
theorem Reg.num {d r : Nat} {f : Nat → Nat} (R : Reg d r f) : r ≤ d + 1 := by
  have : ∀ i, i < r → i ≤ f i := by
    intro i
    induction i with
    | zero => intro _; omega
    | succ i ih =>
      intro h
      have := ih (by omega)
      have := R.up i h
      omega
  by_cases h : r = 0
  · omega
  · have h1 := this (r - 1) (by omega)
    have h2 := R.le (r - 1) (by omega)
    omega
def regD (r : Nat) (f : Nat → Nat) : PyData := .tuple (tb r fun i => .int (f i : Nat))
theorem s21 (h : 21 < n) (s d r : Nat) (f : Nat → Nat) (h1 : 1 ≤ s) (h2 : s ≤ 200) (h3 : 1 ≤ d) (h4 : d ≤ s) (h5 : d ≤ 60) (R : Reg d r f) : F n 21 [some (.int (s : Nat)), some (.int (d : Nat)), some (regD r f)] P = some (.none, P) := by
  have hr := R.num
  have e1 := s19 (n := 21) (P := P) (by omega) s d h1 h2 h3 h4 h5
  have e2 := s5 (n := 21) (P := P) (by omega) r (fun i => (f i : Int)) 0 ((d : Int) + 1) 0 d (by omega) (by omega) (by omega) fun i hi => ⟨by omega, by have := R.le i hi; omega⟩
  have e3 := s3 (n := 21) (P := P) (by omega) r (fun i => (f i : Int)) (by omega) fun i hi => by have := R.up i hi; omega
  refine F_no h (d := d21) rfl rfl (by decide) rfl ?_
  simp [e_con, e_var, e_bin, e_neg, e_cmp, e_chain, e_and, e_or, e_not, e_ite, e_call, e_blt, e_isi, e_lrng, e_trng, e_tup, e_lst, e_sl, e_rev, e_every, e_ixV, e_ixC, e_ixI, e_ixL, evs_nil, evs_cons, evs_star, evs_io, evO_none, evO_some, evP_none, evP_some, evI_seq, evI_enum, evI_zip, rss_nil, rss_cons, rs_asg, rs_unp, rs_par, rs_ifs, rs_expr, rs_ret, rs_brk, rs_app, rs_while, getV, setV, isiD, copD, bopD, b_lenL, b_lenT, b_abs, b_min2, b_max2, b_int, b_intB, b_listL, b_listT, b_tupL, b_tupT, b_all, b_any, b_sumL, b_sumT, unO, tb_len, MP.frs, itemsImm, imm, immL, asgD, MP.isIo, bindT, bindTs, seqOf, MP.isInt, at0, at1, at2, startE, cntIo, frzAll, fz0, wipeE, frz, frz1, MP.vars, varsS, varsO, varsI, LIM, d21, b21, regD, e1, e2, e3]
theorem s22 (h : 22 < n) (s a b : Nat) (hb : b ≤ s) (hab : a ≤ b) : F n 22 [some (.int (s : Nat)), some (.tuple [.int (a : Nat), .int (b : Nat)])] P = some (.none, P) := by
  have e1 := s0 (n := 22) (P := P) (by omega) [.int (a : Nat), .int (b : Nat)] 2 2 (by simp) (by simp)
  have e2 : ev (F 22) e22_0 [some (Kd.ro, .int (s : Nat)), some (Kd.ro, .tuple [.int (a : Nat), .int (b : Nat)]), none] P = some (.list (tb 2 fun _ => .bool true), P) := by
    refine e_lcT rfl (f := fun i => if i = 0 then .int (a : Nat) else .int (b : Nat)) ?_ (by omega) fun i hi => ⟨_, rfl, rfl, ?_, rfl⟩
    · simp [e_con, e_var, e_bin, e_neg, e_cmp, e_chain, e_and, e_or, e_not, e_ite, e_call, e_blt, e_isi, e_lrng, e_trng, e_tup, e_lst, e_sl, e_rev, e_every, e_ixV, e_ixC, e_ixI, e_ixL, evs_nil, evs_cons, evs_star, evs_io, evO_none, evO_some, evP_none, evP_some, evI_seq, evI_enum, evI_zip, rss_nil, rss_cons, rs_asg, rs_unp, rs_par, rs_ifs, rs_expr, rs_ret, rs_brk, rs_app, rs_while, getV, setV, isiD, copD, bopD, b_lenL, b_lenT, b_abs, b_min2, b_max2, b_int, b_intB, b_listL, b_listT, b_tupL, b_tupT, b_all, b_any, b_sumL, b_sumT, unO, tb_len, MP.frs, itemsImm, imm, immL, asgD, MP.isIo, bindT, bindTs, seqOf, MP.isInt, at0, at1, at2, startE, cntIo, frzAll, fz0, wipeE, frz, frz1, MP.vars, varsS, varsO, varsI, LIM]
      rfl
    · by_cases c : i = 0
      · have := s2 (n := 22) (P := P) (by omega) (a : Int) 0 s (by omega) (by omega)
        simp [e_con, e_var, e_bin, e_neg, e_cmp, e_chain, e_and, e_or, e_not, e_ite, e_call, e_blt, e_isi, e_lrng, e_trng, e_tup, e_lst, e_sl, e_rev, e_every, e_ixV, e_ixC, e_ixI, e_ixL, evs_nil, evs_cons, evs_star, evs_io, evO_none, evO_some, evP_none, evP_some, evI_seq, evI_enum, evI_zip, rss_nil, rss_cons, rs_asg, rs_unp, rs_par, rs_ifs, rs_expr, rs_ret, rs_brk, rs_app, rs_while, getV, setV, isiD, copD, bopD, b_lenL, b_lenT, b_abs, b_min2, b_max2, b_int, b_intB, b_listL, b_listT, b_tupL, b_tupT, b_all, b_any, b_sumL, b_sumT, unO, tb_len, MP.frs, itemsImm, imm, immL, asgD, MP.isIo, bindT, bindTs, seqOf, MP.isInt, at0, at1, at2, startE, cntIo, frzAll, fz0, wipeE, frz, frz1, MP.vars, varsS, varsO, varsI, LIM, c, this]
      · have := s2 (n := 22) (P := P) (by omega) (b : Int) 0 s (by omega) (by omega)
        simp [e_con, e_var, e_bin, e_neg, e_cmp, e_chain, e_and, e_or, e_not, e_ite, e_call, e_blt, e_isi, e_lrng, e_trng, e_tup, e_lst, e_sl, e_rev, e_every, e_ixV, e_ixC, e_ixI, e_ixL, evs_nil, evs_cons, evs_star, evs_io, evO_none, evO_some, evP_none, evP_some, evI_seq, evI_enum, evI_zip, rss_nil, rss_cons, rs_asg, rs_unp, rs_par, rs_ifs, rs_expr, rs_ret, rs_brk, rs_app, rs_while, getV, setV, isiD, copD, bopD, b_lenL, b_lenT, b_abs, b_min2, b_max2, b_int, b_intB, b_listL, b_listT, b_tupL, b_tupT, b_all, b_any, b_sumL, b_sumT, unO, tb_len, MP.frs, itemsImm, imm, immL, asgD, MP.isIo, bindT, bindTs, seqOf, MP.isInt, at0, at1, at2, startE, cntIo, frzAll, fz0, wipeE, frz, frz1, MP.vars, varsS, varsO, varsI, LIM, c, this]
  have e3 : ¬ b < a := by omega
  refine F_no h (d := d22) rfl rfl (by decide) rfl ?_
  simp [e_con, e_var, e_bin, e_neg, e_cmp, e_chain, e_and, e_or, e_not, e_ite, e_call, e_blt, e_isi, e_lrng, e_trng, e_tup, e_lst, e_sl, e_rev, e_every, e_ixV, e_ixC, e_ixI, e_ixL, evs_nil, evs_cons, evs_star, evs_io, evO_none, evO_some, evP_none, evP_some, evI_seq, evI_enum, evI_zip, rss_nil, rss_cons, rs_asg, rs_unp, rs_par, rs_ifs, rs_expr, rs_ret, rs_brk, rs_app, rs_while, getV, setV, isiD, copD, bopD, b_lenL, b_lenT, b_abs, b_min2, b_max2, b_int, b_intB, b_listL, b_listT, b_tupL, b_tupT, b_all, b_any, b_sumL, b_sumT, unO, tb_len, MP.frs, itemsImm, imm, immL, asgD, MP.isIo, bindT, bindTs, seqOf, MP.isInt, at0, at1, at2, startE, cntIo, frzAll, fz0, wipeE, frz, frz1, MP.vars, varsS, varsO, varsI, LIM, d22, b22, c_PAIR_urns, e1, e2, e3]
theorem s8 (h : 8 < n) {a : Int} {k : Nat} (ha : sm k a) (hk : k ≤ 9000) : F n 8 [some (.int a)] P = some (.bool true, P) := by
  have h1 : sm 9000 a := ha.mono hk
  have h2 : 2 ^ 9000 < 10 ^ 3000 := by decide +kernel
  have h3 : a.natAbs < 10 ^ 3000 := Nat.lt_trans h1 h2
  have e1 := s1 (n := 8) (P := P) (by omega) a
  have e2 : -(((10 ^ 3000 : Nat) : Int)) < a := by omega
  have e3 : a < ((10 ^ 3000 : Nat) : Int) := by omega
  have e4 : (10 ^ 3000 : Int) = ((10 ^ 3000 : Nat) : Int) := by decide +kernel
  refine F_ret h (d := d8) rfl rfl (by decide) rfl ?_
  generalize hz : ((10 ^ 3000 : Nat) : Int) = z at e2 e3 e4
  have e5 : c_MOST_SIZE = .int z := by rw [← e4]; rfl
  simp [e_con, e_var, e_bin, e_neg, e_cmp, e_chain, e_and, e_or, e_not, e_ite, e_call, e_blt, e_isi, e_lrng, e_trng, e_tup, e_lst, e_sl, e_rev, e_every, e_ixV, e_ixC, e_ixI, e_ixL, evs_nil, evs_cons, evs_star, evs_io, evO_none, evO_some, evP_none, evP_some, evI_seq, evI_enum, evI_zip, rss_nil, rss_cons, rs_asg, rs_unp, rs_par, rs_ifs, rs_expr, rs_ret, rs_brk, rs_app, rs_while, getV, setV, isiD, copD, bopD, b_lenL, b_lenT, b_abs, b_min2, b_max2, b_int, b_intB, b_listL, b_listT, b_tupL, b_tupT, b_all, b_any, b_sumL, b_sumT, unO, tb_len, MP.frs, itemsImm, imm, immL, asgD, MP.isIo, bindT, bindTs, seqOf, MP.isInt, at0, at1, at2, startE, cntIo, frzAll, fz0, wipeE, frz, frz1, MP.vars, varsS, varsO, varsI, LIM, d8, b8, e5, e1, e2, e3]
theorem s9 (h : 9 < n) {a b : Int} {k : Nat} (hb : 0 < b) (ha : sm k a) (kb : sm k b) (hk : k ≤ 8000) : F n 9 [some (fr a b)] P = some (.bool true, P) := by
  have e1 := s0 (n := 9) (P := P) (by omega) [.int (frN a b), .int (frD a b)] 2 2 (by simp) (by simp)
  have e2 : ev (F 9) e9_0 [some (Kd.ro, .tuple [.int (frN a b), .int (frD a b)]), none] P = some (.list (tb 2 fun _ => .bool true), P) := by
    refine e_lcT rfl (f := fun i => if i = 0 then .int (frN a b) else .int (frD a b)) ?_ (by omega) fun i hi => ⟨_, rfl, rfl, ?_, rfl⟩
    · simp [e_con, e_var, e_bin, e_neg, e_cmp, e_chain, e_and, e_or, e_not, e_ite, e_call, e_blt, e_isi, e_lrng, e_trng, e_tup, e_lst, e_sl, e_rev, e_every, e_ixV, e_ixC, e_ixI, e_ixL, evs_nil, evs_cons, evs_star, evs_io, evO_none, evO_some, evP_none, evP_some, evI_seq, evI_enum, evI_zip, rss_nil, rss_cons, rs_asg, rs_unp, rs_par, rs_ifs, rs_expr, rs_ret, rs_brk, rs_app, rs_while, getV, setV, isiD, copD, bopD, b_lenL, b_lenT, b_abs, b_min2, b_max2, b_int, b_intB, b_listL, b_listT, b_tupL, b_tupT, b_all, b_any, b_sumL, b_sumT, unO, tb_len, MP.frs, itemsImm, imm, immL, asgD, MP.isIo, bindT, bindTs, seqOf, MP.isInt, at0, at1, at2, startE, cntIo, frzAll, fz0, wipeE, frz, frz1, MP.vars, varsS, varsO, varsI, LIM]
      rfl
    · by_cases c : i = 0
      · have := s8 (n := 9) (P := P) (by omega) (ha.frN hb) (by omega)
        simp [e_con, e_var, e_bin, e_neg, e_cmp, e_chain, e_and, e_or, e_not, e_ite, e_call, e_blt, e_isi, e_lrng, e_trng, e_tup, e_lst, e_sl, e_rev, e_every, e_ixV, e_ixC, e_ixI, e_ixL, evs_nil, evs_cons, evs_star, evs_io, evO_none, evO_some, evP_none, evP_some, evI_seq, evI_enum, evI_zip, rss_nil, rss_cons, rs_asg, rs_unp, rs_par, rs_ifs, rs_expr, rs_ret, rs_brk, rs_app, rs_while, getV, setV, isiD, copD, bopD, b_lenL, b_lenT, b_abs, b_min2, b_max2, b_int, b_intB, b_listL, b_listT, b_tupL, b_tupT, b_all, b_any, b_sumL, b_sumT, unO, tb_len, MP.frs, itemsImm, imm, immL, asgD, MP.isIo, bindT, bindTs, seqOf, MP.isInt, at0, at1, at2, startE, cntIo, frzAll, fz0, wipeE, frz, frz1, MP.vars, varsS, varsO, varsI, LIM, c, this]
      · have := s8 (n := 9) (P := P) (by omega) (kb.frD (a := a) hb) (by omega)
        simp [e_con, e_var, e_bin, e_neg, e_cmp, e_chain, e_and, e_or, e_not, e_ite, e_call, e_blt, e_isi, e_lrng, e_trng, e_tup, e_lst, e_sl, e_rev, e_every, e_ixV, e_ixC, e_ixI, e_ixL, evs_nil, evs_cons, evs_star, evs_io, evO_none, evO_some, evP_none, evP_some, evI_seq, evI_enum, evI_zip, rss_nil, rss_cons, rs_asg, rs_unp, rs_par, rs_ifs, rs_expr, rs_ret, rs_brk, rs_app, rs_while, getV, setV, isiD, copD, bopD, b_lenL, b_lenT, b_abs, b_min2, b_max2, b_int, b_intB, b_listL, b_listT, b_tupL, b_tupT, b_all, b_any, b_sumL, b_sumT, unO, tb_len, MP.frs, itemsImm, imm, immL, asgD, MP.isIo, bindT, bindTs, seqOf, MP.isInt, at0, at1, at2, startE, cntIo, frzAll, fz0, wipeE, frz, frz1, MP.vars, varsS, varsO, varsI, LIM, c, this]
  have e3 := frD_pos (a := a) hb
  have e4 := s6 (n := 9) (P := P) (by omega) (frN a b) (frD a b) (by omega) (kb.frD hb) (by omega)
  rw [fr_cop hb] at e4
  refine F_ret h (d := d9) rfl rfl (by decide) rfl ?_
  unfold fr
  simp [e_con, e_var, e_bin, e_neg, e_cmp, e_chain, e_and, e_or, e_not, e_ite, e_call, e_blt, e_isi, e_lrng, e_trng, e_tup, e_lst, e_sl, e_rev, e_every, e_ixV, e_ixC, e_ixI, e_ixL, evs_nil, evs_cons, evs_star, evs_io, evO_none, evO_some, evP_none, evP_some, evI_seq, evI_enum, evI_zip, rss_nil, rss_cons, rs_asg, rs_unp, rs_par, rs_ifs, rs_expr, rs_ret, rs_brk, rs_app, rs_while, getV, setV, isiD, copD, bopD, b_lenL, b_lenT, b_abs, b_min2, b_max2, b_int, b_intB, b_listL, b_listT, b_tupL, b_tupT, b_all, b_any, b_sumL, b_sumT, unO, tb_len, MP.frs, itemsImm, imm, immL, asgD, MP.isIo, bindT, bindTs, seqOf, MP.isInt, at0, at1, at2, startE, cntIo, frzAll, fz0, wipeE, frz, frz1, MP.vars, varsS, varsO, varsI, LIM, d9, b9, c_PAIR_fractions, e1, e2, e3, e4, shp, PyData.eqv]
/-- a share: 0 ≤ a ≤ b -/
theorem fr_share {a b : Int} (hb : 0 < b) (h0 : 0 ≤ a) (h1 : a ≤ b) : 0 ≤ frN a b ∧ frN a b ≤ frD a b := by
  have hg := gcd_pos (a := a) hb
  exact ⟨Int.ediv_nonneg h0 (by omega), Int.ediv_le_ediv hg h1⟩
theorem s10 (h : 10 < n) {a b : Int} {k : Nat} (hb : 0 < b) (ha : sm k a) (kb : sm k b) (hk : k ≤ 8000) (h0 : 0 ≤ a) (h1 : a ≤ b) : F n 10 [some (fr a b)] P = some (.bool true, P) := by
  have e1 := s9 (n := 10) (P := P) (by omega) hb ha kb hk
  obtain ⟨e2, e3⟩ := fr_share hb h0 h1
  refine F_ret h (d := d10) rfl rfl (by decide) rfl ?_
  unfold fr at e1 ⊢
  simp [e_con, e_var, e_bin, e_neg, e_cmp, e_chain, e_and, e_or, e_not, e_ite, e_call, e_blt, e_isi, e_lrng, e_trng, e_tup, e_lst, e_sl, e_rev, e_every, e_ixV, e_ixC, e_ixI, e_ixL, evs_nil, evs_cons, evs_star, evs_io, evO_none, evO_some, evP_none, evP_some, evI_seq, evI_enum, evI_zip, rss_nil, rss_cons, rs_asg, rs_unp, rs_par, rs_ifs, rs_expr, rs_ret, rs_brk, rs_app, rs_while, getV, setV, isiD, copD, bopD, b_lenL, b_lenT, b_abs, b_min2, b_max2, b_int, b_intB, b_listL, b_listT, b_tupL, b_tupT, b_all, b_any, b_sumL, b_sumT, unO, tb_len, MP.frs, itemsImm, imm, immL, asgD, MP.isIo, bindT, bindTs, seqOf, MP.isInt, at0, at1, at2, startE, cntIo, frzAll, fz0, wipeE, frz, frz1, MP.vars, varsS, varsO, varsI, LIM, d10, b10, e1, e2, e3]
theorem s11 (h : 11 < n) {a b : Int} {k : Nat} (hb : 0 < b) (ha : sm k a) (kb : sm k b) (hk : k ≤ 8000) (h0 : 0 ≤ a) (h1 : a ≤ b) : F n 11 [some (fr a b)] P = some (.none, P) := by
  have e1 := s10 (n := 11) (P := P) (by omega) hb ha kb hk h0 h1
  refine F_no h (d := d11) rfl rfl (by decide) rfl ?_
  simp [e_con, e_var, e_bin, e_neg, e_cmp, e_chain, e_and, e_or, e_not, e_ite, e_call, e_blt, e_isi, e_lrng, e_trng, e_tup, e_lst, e_sl, e_rev, e_every, e_ixV, e_ixC, e_ixI, e_ixL, evs_nil, evs_cons, evs_star, evs_io, evO_none, evO_some, evP_none, evP_some, evI_seq, evI_enum, evI_zip, rss_nil, rss_cons, rs_asg, rs_unp, rs_par, rs_ifs, rs_expr, rs_ret, rs_brk, rs_app, rs_while, getV, setV, isiD, copD, bopD, b_lenL, b_lenT, b_abs, b_min2, b_max2, b_int, b_intB, b_listL, b_listT, b_tupL, b_tupT, b_all, b_any, b_sumL, b_sumT, unO, tb_len, MP.frs, itemsImm, imm, immL, asgD, MP.isIo, bindT, bindTs, seqOf, MP.isInt, at0, at1, at2, startE, cntIo, frzAll, fz0, wipeE, frz, frz1, MP.vars, varsS, varsO, varsI, LIM, d11, b11, e1]
/-- ways of a region -/
def rg (s d m r : Nat) (f : Nat → Nat) : Nat := su (fun i => dr s d m (f i)) r
theorem s24 (h : 24 < n) (s d m r : Nat) (f : Nat → Nat) (h2 : s ≤ 200) (h4 : d ≤ s) (hm : m ≤ s) (hr : r ≤ 201) (hf : ∀ i, i < r → f i ≤ d) :
    F n 24 [some (.int (s : Nat)), some (.int (d : Nat)), some (regD r f), some (.int (m : Nat))] P = some (fr (rg s d m r f : Nat) (ch s d : Nat), P) := by
  have e1 : ev (F 24) e24_0 [some (Kd.ro, .int (s : Nat)), some (Kd.ro, .int (d : Nat)), some (Kd.ro, regD r f), some (Kd.ro, .int (m : Nat)), none] P = some (.list (tb r fun i => .int (dr s d m (f i) : Nat)), P) := by
    refine e_lcT rfl (f := fun i => .int (f i : Nat)) (by simp [e_con, e_var, e_bin, e_neg, e_cmp, e_chain, e_and, e_or, e_not, e_ite, e_call, e_blt, e_isi, e_lrng, e_trng, e_tup, e_lst, e_sl, e_rev, e_every, e_ixV, e_ixC, e_ixI, e_ixL, evs_nil, evs_cons, evs_star, evs_io, evO_none, evO_some, evP_none, evP_some, evI_seq, evI_enum, evI_zip, rss_nil, rss_cons, rs_asg, rs_unp, rs_par, rs_ifs, rs_expr, rs_ret, rs_brk, rs_app, rs_while, getV, setV, isiD, copD, bopD, b_lenL, b_lenT, b_abs, b_min2, b_max2, b_int, b_intB, b_listL, b_listT, b_tupL, b_tupT, b_all, b_any, b_sumL, b_sumT, unO, tb_len, MP.frs, itemsImm, imm, immL, asgD, MP.isIo, bindT, bindTs, seqOf, MP.isInt, at0, at1, at2, startE, cntIo, frzAll, fz0, wipeE, frz, frz1, MP.vars, varsS, varsO, varsI, LIM, regD]) (by omega) fun i hi => ⟨_, rfl, rfl, ?_, rfl⟩
    have := s23 (n := 24) (P := P) (by omega) s d m (f i) h2 (by omega) hm (hf i hi)
    simp [e_con, e_var, e_bin, e_neg, e_cmp, e_chain, e_and, e_or, e_not, e_ite, e_call, e_blt, e_isi, e_lrng, e_trng, e_tup, e_lst, e_sl, e_rev, e_every, e_ixV, e_ixC, e_ixI, e_ixL, evs_nil, evs_cons, evs_star, evs_io, evO_none, evO_some, evP_none, evP_some, evI_seq, evI_enum, evI_zip, rss_nil, rss_cons, rs_asg, rs_unp, rs_par, rs_ifs, rs_expr, rs_ret, rs_brk, rs_app, rs_while, getV, setV, isiD, copD, bopD, b_lenL, b_lenT, b_abs, b_min2, b_max2, b_int, b_intB, b_listL, b_listT, b_tupL, b_tupT, b_all, b_any, b_sumL, b_sumT, unO, tb_len, MP.frs, itemsImm, imm, immL, asgD, MP.isIo, bindT, bindTs, seqOf, MP.isInt, at0, at1, at2, startE, cntIo, frzAll, fz0, wipeE, frz, frz1, MP.vars, varsS, varsO, varsI, LIM, this]
  have e2 := s16 (n := 24) (P := P) (by omega) s d (by omega) (by omega)
  have hc : 0 < ch s d := ch_pos h4
  have e3 := s12 (n := 24) (P := P) (by omega) (rg s d m r f : Nat) (ch s d : Nat) (by omega) (sm_ch (m := s) (k := d) (by omega)) (by omega)
  have e4 : (tb r fun i => ((dr s d m (f i) : Nat) : Int)).sum = ((rg s d m r f : Nat) : Int) := by
    rw [tb_sum, sz_nat]
    rfl
  refine F_ret h (d := d24) rfl rfl (by decide) rfl ?_
  simp [e_con, e_var, e_bin, e_neg, e_cmp, e_chain, e_and, e_or, e_not, e_ite, e_call, e_blt, e_isi, e_lrng, e_trng, e_tup, e_lst, e_sl, e_rev, e_every, e_ixV, e_ixC, e_ixI, e_ixL, evs_nil, evs_cons, evs_star, evs_io, evO_none, evO_some, evP_none, evP_some, evI_seq, evI_enum, evI_zip, rss_nil, rss_cons, rs_asg, rs_unp, rs_par, rs_ifs, rs_expr, rs_ret, rs_brk, rs_app, rs_while, getV, setV, isiD, copD, bopD, b_lenL, b_lenT, b_abs, b_min2, b_max2, b_int, b_intB, b_listL, b_listT, b_tupL, b_tupT, b_all, b_any, b_sumL, b_sumT, unO, tb_len, MP.frs, itemsImm, imm, immL, asgD, MP.isIo, bindT, bindTs, seqOf, MP.isInt, at0, at1, at2, startE, cntIo, frzAll, fz0, wipeE, frz, frz1, MP.vars, varsS, varsO, varsI, LIM, d24, b24, e1, e2, e4, e3, imm_fr]
theorem y25 {cl : Cl} (s d m : Int) (L : List PyData) (e1 : ev cl e25_0 [some (Kd.ro, .int s), some (Kd.ro, .int d), some (Kd.ro, .int m), none] P = some (.list L, P)) (e4 : immL L = true) (e2 : cl 19 [some (.int s), some (.int d)] P = some (.none, P)) (e3 : cl 20 [some (.int s), some (.int m)] P = some (.none, P)) :
    rss cl false b25 [some (Kd.ro, .int s), some (Kd.ro, .int d), some (Kd.ro, .int m), none] P = some (.rt (.tuple L) P) := by
  simp [e_con, e_var, e_bin, e_neg, e_cmp, e_chain, e_and, e_or, e_not, e_ite, e_call, e_blt, e_isi, e_lrng, e_trng, e_tup, e_lst, e_sl, e_rev, e_every, e_ixV, e_ixC, e_ixI, e_ixL, evs_nil, evs_cons, evs_star, evs_io, evO_none, evO_some, evP_none, evP_some, evI_seq, evI_enum, evI_zip, rss_nil, rss_cons, rs_asg, rs_unp, rs_par, rs_ifs, rs_expr, rs_ret, rs_brk, rs_app, rs_while, getV, setV, isiD, copD, bopD, b_lenL, b_lenT, b_abs, b_min2, b_max2, b_int, b_intB, b_listL, b_listT, b_tupL, b_tupT, b_all, b_any, b_sumL, b_sumT, unO, tb_len, MP.frs, itemsImm, imm, immL, asgD, MP.isIo, bindT, bindTs, seqOf, MP.isInt, at0, at1, at2, startE, cntIo, frzAll, fz0, wipeE, frz, frz1, MP.vars, varsS, varsO, varsI, LIM, b25, e1, e4, e2, e3]
theorem s25 (h : 25 < n) (s d m : Nat) (h1 : 1 ≤ s) (h2 : s ≤ 200) (h3 : 1 ≤ d) (h4 : d ≤ s) (h5 : d ≤ 60) (hm : m ≤ s) :
    F n 25 [some (.int (s : Nat)), some (.int (d : Nat)), some (.int (m : Nat))] P = some (.tuple (tb (d + 1) fun i => .int (dr s d m i : Nat)), P) := by
  have e1 : ev (F 25) e25_0 [some (Kd.ro, .int (s : Nat)), some (Kd.ro, .int (d : Nat)), some (Kd.ro, .int (m : Nat)), none] P = some (.list (tb (d + 1) fun i => .int (dr s d m i : Nat)), P) := by
    refine e_lcT rfl (f := fun i => .int (i : Nat)) (evI_r1 (m := d + 1) (by simp [e_con, e_var, e_bin, e_neg, e_cmp, e_chain, e_and, e_or, e_not, e_ite, e_call, e_blt, e_isi, e_lrng, e_trng, e_tup, e_lst, e_sl, e_rev, e_every, e_ixV, e_ixC, e_ixI, e_ixL, evs_nil, evs_cons, evs_star, evs_io, evO_none, evO_some, evP_none, evP_some, evI_seq, evI_enum, evI_zip, rss_nil, rss_cons, rs_asg, rs_unp, rs_par, rs_ifs, rs_expr, rs_ret, rs_brk, rs_app, rs_while, getV, setV, isiD, copD, bopD, b_lenL, b_lenT, b_abs, b_min2, b_max2, b_int, b_intB, b_listL, b_listT, b_tupL, b_tupT, b_all, b_any, b_sumL, b_sumT, unO, tb_len, MP.frs, itemsImm, imm, immL, asgD, MP.isIo, bindT, bindTs, seqOf, MP.isInt, at0, at1, at2, startE, cntIo, frzAll, fz0, wipeE, frz, frz1, MP.vars, varsS, varsO, varsI, LIM]) (by omega)) (by omega) fun i hi => ⟨_, rfl, rfl, ?_, rfl⟩
    have := s23 (n := 25) (P := P) (by omega) s d m i h2 (by omega) hm (by omega)
    simp [e_con, e_var, e_bin, e_neg, e_cmp, e_chain, e_and, e_or, e_not, e_ite, e_call, e_blt, e_isi, e_lrng, e_trng, e_tup, e_lst, e_sl, e_rev, e_every, e_ixV, e_ixC, e_ixI, e_ixL, evs_nil, evs_cons, evs_star, evs_io, evO_none, evO_some, evP_none, evP_some, evI_seq, evI_enum, evI_zip, rss_nil, rss_cons, rs_asg, rs_unp, rs_par, rs_ifs, rs_expr, rs_ret, rs_brk, rs_app, rs_while, getV, setV, isiD, copD, bopD, b_lenL, b_lenT, b_abs, b_min2, b_max2, b_int, b_intB, b_listL, b_listT, b_tupL, b_tupT, b_all, b_any, b_sumL, b_sumT, unO, tb_len, MP.frs, itemsImm, imm, immL, asgD, MP.isIo, bindT, bindTs, seqOf, MP.isInt, at0, at1, at2, startE, cntIo, frzAll, fz0, wipeE, frz, frz1, MP.vars, varsS, varsO, varsI, LIM, this]
  have e2 := s19 (n := 25) (P := P) (by omega) s d h1 h2 h3 h4 h5
  have e3 := s20 (n := 25) (P := P) (by omega) s m hm
  have e4 : immL (tb (d + 1) fun i => PyData.int (dr s d m i : Nat)) = true := immL_tb fun _ _ => rfl
  refine F_ret h (d := d25) rfl rfl (by decide) rfl ?_
  exact y25 _ _ _ _ e1 e4 e2 e3
theorem s26 (h : 26 < n) (s d m r : Nat) (f : Nat → Nat) (h1 : 1 ≤ s) (h2 : s ≤ 200) (h3 : 1 ≤ d) (h4 : d ≤ s) (h5 : d ≤ 60) (hm : m ≤ s) (R : Reg d r f) :
    F n 26 [some (.int (s : Nat)), some (.int (d : Nat)), some (regD r f), some (.int (m : Nat))] P = some (fr (rg s d m r f : Nat) (ch s d : Nat), P) := by
  have hr := R.num
  have e1 := s24 (n := 26) (P := P) (by omega) s d m r f h2 h4 hm (by omega) R.le
  have e2 := s21 (n := 26) (P := P) (by omega) s d r f h1 h2 h3 h4 h5 R
  have e3 := s20 (n := 26) (P := P) (by omega) s m hm
  refine F_ret h (d := d26) rfl rfl (by decide) rfl ?_
  simp [e_con, e_var, e_bin, e_neg, e_cmp, e_chain, e_and, e_or, e_not, e_ite, e_call, e_blt, e_isi, e_lrng, e_trng, e_tup, e_lst, e_sl, e_rev, e_every, e_ixV, e_ixC, e_ixI, e_ixL, evs_nil, evs_cons, evs_star, evs_io, evO_none, evO_some, evP_none, evP_some, evI_seq, evI_enum, evI_zip, rss_nil, rss_cons, rs_asg, rs_unp, rs_par, rs_ifs, rs_expr, rs_ret, rs_brk, rs_app, rs_while, getV, setV, isiD, copD, bopD, b_lenL, b_lenT, b_abs, b_min2, b_max2, b_int, b_intB, b_listL, b_listT, b_tupL, b_tupT, b_all, b_any, b_sumL, b_sumT, unO, tb_len, MP.frs, itemsImm, imm, immL, asgD, MP.isIo, bindT, bindTs, seqOf, MP.isInt, at0, at1, at2, startE, cntIo, frzAll, fz0, wipeE, frz, frz1, MP.vars, varsS, varsO, varsI, LIM, d26, b26, e1, e2, e3, imm_fr]
theorem y52a {cl : Cl} (s d m w i a b : Int) (X : PyData) (k1 : cl 51 [some (.int m), some (.int i)] P = some (.int a, P)) (k2 : cl 51 [some (.int (s - m)), some (.int (d - i))] P = some (.int b, P)) (h4 : smallI a b = true) (k3 : cl 45 [some (.int (a * b)), some (.int w)] P = some (X, P)) :
    ev cl (.call 45 (.cons (.bin .mul (.call 51 (.cons (.var 2) (.cons (.var 4) .nil))) (.call 51 (.cons (.bin .sub (.var 0) (.var 2)) (.cons (.bin .sub (.var 1) (.var 4)) .nil)))) (.cons (.var 3) .nil))) [some (Kd.ro, .int s), some (Kd.ro, .int d), some (Kd.ro, .int m), some (Kd.ro, .int w), some (Kd.ro, .int i)] P = some (X, P) := by
  simp [e_con, e_var, e_bin, e_neg, e_cmp, e_chain, e_and, e_or, e_not, e_ite, e_call, e_blt, e_isi, e_lrng, e_trng, e_tup, e_lst, e_sl, e_rev, e_every, e_ixV, e_ixC, e_ixI, e_ixL, evs_nil, evs_cons, evs_star, evs_io, evO_none, evO_some, evP_none, evP_some, evI_seq, evI_enum, evI_zip, rss_nil, rss_cons, rs_asg, rs_unp, rs_par, rs_ifs, rs_expr, rs_ret, rs_brk, rs_app, rs_while, getV, setV, isiD, copD, bopD, b_lenL, b_lenT, b_abs, b_min2, b_max2, b_int, b_intB, b_listL, b_listT, b_tupL, b_tupT, b_all, b_any, b_sumL, b_sumT, unO, tb_len, MP.frs, itemsImm, imm, immL, asgD, MP.isIo, bindT, bindTs, seqOf, MP.isInt, at0, at1, at2, startE, cntIo, frzAll, fz0, wipeE, frz, frz1, MP.vars, varsS, varsO, varsI, LIM, k1, k2, h4, k3]
theorem y52 {cl : Cl} (s d m w : Int) (L : List PyData) (e1 : ev cl e52_0 [some (Kd.ro, .int s), some (Kd.ro, .int d), some (Kd.ro, .int m), some (Kd.ro, .int w), none] P = some (.list L, P)) (e2 : cl 51 [some (.int s), some (.int d)] P = some (.int w, P)) :
    rss cl false b52 [some (Kd.ro, .int s), some (Kd.ro, .int d), some (Kd.ro, .int m), none, none] P = some (.rt (.list L) P) := by
  simp [e_con, e_var, e_bin, e_neg, e_cmp, e_chain, e_and, e_or, e_not, e_ite, e_call, e_blt, e_isi, e_lrng, e_trng, e_tup, e_lst, e_sl, e_rev, e_every, e_ixV, e_ixC, e_ixI, e_ixL, evs_nil, evs_cons, evs_star, evs_io, evO_none, evO_some, evP_none, evP_some, evI_seq, evI_enum, evI_zip, rss_nil, rss_cons, rs_asg, rs_unp, rs_par, rs_ifs, rs_expr, rs_ret, rs_brk, rs_app, rs_while, getV, setV, isiD, copD, bopD, b_lenL, b_lenT, b_abs, b_min2, b_max2, b_int, b_intB, b_listL, b_listT, b_tupL, b_tupT, b_all, b_any, b_sumL, b_sumT, unO, tb_len, MP.frs, itemsImm, imm, immL, asgD, MP.isIo, bindT, bindTs, seqOf, MP.isInt, at0, at1, at2, startE, cntIo, frzAll, fz0, wipeE, frz, frz1, MP.vars, varsS, varsO, varsI, LIM, b52, e1, e2, frs_e52_0]
/-- the law's own chances -/
theorem s52 (h : 52 < n) (s d m : Nat) (h2 : s ≤ 200) (h4 : d ≤ s) (hm : m ≤ s) :
    F n 52 [some (.int (s : Nat)), some (.int (d : Nat)), some (.int (m : Nat))] P = some (.list (tb (d + 1) fun i => fr (dr s d m i : Nat) (ch s d : Nat)), P) := by
  have hc : 0 < ch s d := ch_pos h4
  have e1 : ev (F 52) e52_0 [some (Kd.ro, .int (s : Nat)), some (Kd.ro, .int (d : Nat)), some (Kd.ro, .int (m : Nat)), some (Kd.ro, .int (ch s d : Nat)), none] P = some (.list (tb (d + 1) fun i => fr (dr s d m i : Nat) (ch s d : Nat)), P) := by
    refine e_lcT rfl (f := fun i => .int (i : Nat)) (evI_r1 (m := d + 1) (by simp [e_con, e_var, e_bin, e_neg, e_cmp, e_chain, e_and, e_or, e_not, e_ite, e_call, e_blt, e_isi, e_lrng, e_trng, e_tup, e_lst, e_sl, e_rev, e_every, e_ixV, e_ixC, e_ixI, e_ixL, evs_nil, evs_cons, evs_star, evs_io, evO_none, evO_some, evP_none, evP_some, evI_seq, evI_enum, evI_zip, rss_nil, rss_cons, rs_asg, rs_unp, rs_par, rs_ifs, rs_expr, rs_ret, rs_brk, rs_app, rs_while, getV, setV, isiD, copD, bopD, b_lenL, b_lenT, b_abs, b_min2, b_max2, b_int, b_intB, b_listL, b_listT, b_tupL, b_tupT, b_all, b_any, b_sumL, b_sumT, unO, tb_len, MP.frs, itemsImm, imm, immL, asgD, MP.isIo, bindT, bindTs, seqOf, MP.isInt, at0, at1, at2, startE, cntIo, frzAll, fz0, wipeE, frz, frz1, MP.vars, varsS, varsO, varsI, LIM]) (by omega)) (by omega) fun i hi => ⟨_, rfl, rfl, ?_, rfl⟩
    have k1 := s51 (n := 52) (P := P) (by omega) m i (by omega) (by omega)
    have k2 := s51 (n := 52) (P := P) (by omega) (s - m) (d - i) (by omega) (by omega)
    have e3 : ((s - m : Nat) : Int) = (s : Int) - m := by omega
    have e4 : ((d - i : Nat) : Int) = (d : Int) - i := by omega
    rw [e3, e4] at k2
    have h4 : smallI (ch m i : Nat) (ch (s - m) (d - i) : Nat) = true := (sm_ch (m := m) (k := i) (by omega)).small (sm_ch (m := s - m) (k := d - i) (by omega)) (by omega)
    have k3 := s45 (n := 52) (P := P) (by omega) (dr s d m i : Nat) (ch s d : Nat) (by omega) (sm_ch (m := s) (k := d) (by omega)) (by omega)
    have k4 : ((dr s d m i : Nat) : Int) = ((ch m i : Nat) : Int) * ((ch (s - m) (d - i) : Nat) : Int) := by
      unfold dr
      rw [Int.natCast_mul]
    rw [k4] at k3 ⊢
    exact y52a _ _ _ _ _ _ _ _ k1 k2 h4 k3
  have e2 := s51 (n := 52) (P := P) (by omega) s d (by omega) (by omega)
  refine F_ret h (d := d52) rfl rfl (by decide) rfl ?_
  exact y52 _ _ _ _ _ e1 e2
theorem fr_zero {b : Int} (hb : 0 < b) : fr 0 b = .tuple [.int 0, .int 1] := by
  have := fr_eq (a := 0) (b := b) (c := 0) (d := 1) hb (by decide) (by simp)
  rw [this]
  rfl
/-- the law's total: fractions over one number -/
theorem s50 (h : 50 < n) (r : Nat) (A : Nat → Int) (W : Int) {k : Nat} (hW : 0 < W) (kW : sm k W) (kA : ∀ i, i < r → sm k (A i)) (kS : ∀ i, i ≤ r → sm k (sz A i)) (hk : k ≤ 4000) (hr : r ≤ 1000000) :
    F n 50 [some (.list (tb r fun i => fr (A i) W))] P = some (fr (sz A r) W, P) := by
  let S : Nat → MP.Env := fun i => [some (Kd.ro, .list (tb r fun i => fr (A i) W)), some (Kd.ro, fr (sz A i) W), if i = 0 then none else some (Kd.ro, fr (A (i - 1)) W)]
  have e : ∀ E, E = S 0 → rs (F 50) false e50_1 E P = some (.nx (S r) P) := by
    rintro E rfl
    show rs (F 50) false (.for (.nm 2) (.seq (.var 0)) e50_0) (S 0) P = _
    rw [rs_for (ds := tb r fun i => fr (A i) W) (P1 := P) (by simp [S, e_con, e_var, e_bin, e_neg, e_cmp, e_chain, e_and, e_or, e_not, e_ite, e_call, e_blt, e_isi, e_lrng, e_trng, e_tup, e_lst, e_sl, e_rev, e_every, e_ixV, e_ixC, e_ixI, e_ixL, evs_nil, evs_cons, evs_star, evs_io, evO_none, evO_some, evP_none, evP_some, evI_seq, evI_enum, evI_zip, rss_nil, rss_cons, rs_asg, rs_unp, rs_par, rs_ifs, rs_expr, rs_ret, rs_brk, rs_app, rs_while, getV, setV, isiD, copD, bopD, b_lenL, b_lenT, b_abs, b_min2, b_max2, b_int, b_intB, b_listL, b_listT, b_tupL, b_tupT, b_all, b_any, b_sumL, b_sumT, unO, tb_len, MP.frs, itemsImm, imm, immL, asgD, MP.isIo, bindT, bindTs, seqOf, MP.isInt, at0, at1, at2, startE, cntIo, frzAll, fz0, wipeE, frz, frz1, MP.vars, varsS, varsO, varsI, LIM])]
    refine for_run S (fun _ => P) (by simp [S, e_con, e_var, e_bin, e_neg, e_cmp, e_chain, e_and, e_or, e_not, e_ite, e_call, e_blt, e_isi, e_lrng, e_trng, e_tup, e_lst, e_sl, e_rev, e_every, e_ixV, e_ixC, e_ixI, e_ixL, evs_nil, evs_cons, evs_star, evs_io, evO_none, evO_some, evP_none, evP_some, evI_seq, evI_enum, evI_zip, rss_nil, rss_cons, rs_asg, rs_unp, rs_par, rs_ifs, rs_expr, rs_ret, rs_brk, rs_app, rs_while, getV, setV, isiD, copD, bopD, b_lenL, b_lenT, b_abs, b_min2, b_max2, b_int, b_intB, b_listL, b_listT, b_tupL, b_tupT, b_all, b_any, b_sumL, b_sumT, unO, tb_len, MP.frs, itemsImm, imm, immL, asgD, MP.isIo, bindT, bindTs, seqOf, MP.isInt, at0, at1, at2, startE, cntIo, frzAll, fz0, wipeE, frz, frz1, MP.vars, varsS, varsO, varsI, LIM]) rfl fun i hi => ⟨[some (Kd.ro, .list (tb r fun i => fr (A i) W)), some (Kd.ro, fr (sz A i) W), some (Kd.ro, fr (A i) W)], ?_, ?_⟩
    · by_cases hi0 : i = 0 <;> simp [S, e_con, e_var, e_bin, e_neg, e_cmp, e_chain, e_and, e_or, e_not, e_ite, e_call, e_blt, e_isi, e_lrng, e_trng, e_tup, e_lst, e_sl, e_rev, e_every, e_ixV, e_ixC, e_ixI, e_ixL, evs_nil, evs_cons, evs_star, evs_io, evO_none, evO_some, evP_none, evP_some, evI_seq, evI_enum, evI_zip, rss_nil, rss_cons, rs_asg, rs_unp, rs_par, rs_ifs, rs_expr, rs_ret, rs_brk, rs_app, rs_while, getV, setV, isiD, copD, bopD, b_lenL, b_lenT, b_abs, b_min2, b_max2, b_int, b_intB, b_listL, b_listT, b_tupL, b_tupT, b_all, b_any, b_sumL, b_sumT, unO, tb_len, MP.frs, itemsImm, imm, immL, asgD, MP.isIo, bindT, bindTs, seqOf, MP.isInt, at0, at1, at2, startE, cntIo, frzAll, fz0, wipeE, frz, frz1, MP.vars, varsS, varsO, varsI, LIM, hi0]
    · have k1 := s46 (n := 50) (P := P) (by omega) hW hW (kS i (by omega)) kW (kA i hi) kW hk
      have k2 : fr (sz A i * W + A i * W) (W * W) = fr (sz A (i + 1)) W := by
        refine fr_eq (Int.mul_pos hW hW) hW ?_
        show (sz A i * W + A i * W) * W = (sz A i + A i) * (W * W)
        grind
      rw [k2] at k1
      have h3 : ¬ (i + 1 = 0) := by omega
      simp [S, e_con, e_var, e_bin, e_neg, e_cmp, e_chain, e_and, e_or, e_not, e_ite, e_call, e_blt, e_isi, e_lrng, e_trng, e_tup, e_lst, e_sl, e_rev, e_every, e_ixV, e_ixC, e_ixI, e_ixL, evs_nil, evs_cons, evs_star, evs_io, evO_none, evO_some, evP_none, evP_some, evI_seq, evI_enum, evI_zip, rss_nil, rss_cons, rs_asg, rs_unp, rs_par, rs_ifs, rs_expr, rs_ret, rs_brk, rs_app, rs_while, getV, setV, isiD, copD, bopD, b_lenL, b_lenT, b_abs, b_min2, b_max2, b_int, b_intB, b_listL, b_listT, b_tupL, b_tupT, b_all, b_any, b_sumL, b_sumT, unO, tb_len, MP.frs, itemsImm, imm, immL, asgD, MP.isIo, bindT, bindTs, seqOf, MP.isInt, at0, at1, at2, startE, cntIo, frzAll, fz0, wipeE, frz, frz1, MP.vars, varsS, varsO, varsI, LIM, e50_0, k1, h3, imm_fr]
  have e' := e [some (Kd.ro, .list (tb r fun i => fr (A i) W)), some (Kd.ro, .tuple [.int 0, .int 1]), none] (by
    show _ = [some (Kd.ro, .list (tb r fun i => fr (A i) W)), some (Kd.ro, fr 0 W), none]
    rw [fr_zero hW])
  refine F_ret h (d := d50) rfl rfl (by decide) rfl ?_
  simp [e_con, e_var, e_bin, e_neg, e_cmp, e_chain, e_and, e_or, e_not, e_ite, e_call, e_blt, e_isi, e_lrng, e_trng, e_tup, e_lst, e_sl, e_rev, e_every, e_ixV, e_ixC, e_ixI, e_ixL, evs_nil, evs_cons, evs_star, evs_io, evO_none, evO_some, evP_none, evP_some, evI_seq, evI_enum, evI_zip, rss_nil, rss_cons, rs_asg, rs_unp, rs_par, rs_ifs, rs_expr, rs_ret, rs_brk, rs_app, rs_while, getV, setV, isiD, copD, bopD, b_lenL, b_lenT, b_abs, b_min2, b_max2, b_int, b_intB, b_listL, b_listT, b_tupL, b_tupT, b_all, b_any, b_sumL, b_sumT, unO, tb_len, MP.frs, itemsImm, imm, immL, asgD, MP.isIo, bindT, bindTs, seqOf, MP.isInt, at0, at1, at2, startE, cntIo, frzAll, fz0, wipeE, frz, frz1, MP.vars, varsS, varsO, varsI, LIM, d50, b50, e', S, imm_fr]
end K06
set_option Elab.async false
set_option linter.all false
set_option maxRecDepth 100000
/-! k06: totals by pairs. -/
namespace K06
open PySem MP
variable {n : Nat} {P : PyData}
theorem cut_last {L : Nat} {f : Nat → PyData} : cutD (tb (L + 1) f) (some (-1)) none = [f L] := by
  unfold cutD
  rw [tb_len]
  have e1 : HT.sIx (L + 1) 0 (some (-1)) = L := by
    show (if (-1 : Int) < 0 then ((-1 : Int) + ((L + 1 : Nat) : Int)).toNat else min (-1 : Int).toNat (L + 1)) = L
    rw [if_pos (by decide)]
    omega
  rw [e1, HT.sIx_none, tb_drop, tb_take, show min (L + 1 - L) (L + 1 - L) = 1 from by omega]
  rfl
def oddL (L : Nat) (f : Nat → PyData) : List PyData := if L % 2 = 1 then [f (L - 1)] else []
theorem y15b {cl : Cl} (rows : PyData) (L : Nat) (f g : Nat → PyData) (o2 : Option (Kd × PyData)) (hL : 1 ≤ L) (hl : L ≤ 1000000) (ho : MP.isIo o2 = false) (h1 : immL (tb L f) = true) (hg : ∀ i, i < L / 2 → cl 13 [some (f (2 * i)), some (f (1 + 2 * i))] P = some (g i, P) ∧ imm (g i) = true) :
    ev cl e15_2 [some (Kd.ro, rows), some (Kd.own, .list (tb L f)), some (Kd.own, .list (oddL L f)), none, none] P = some (.list (tb (L / 2) g), P) := by
  refine e_lcT rfl (f := fun i => .tuple [f (2 * i), f (1 + 2 * i)]) ?_ (by omega) fun i hi => ⟨_, rfl, rfl, ?_, (hg i hi).2⟩
  · have e1 := tb_evens (n := L) (f := f)
    have e2 : evens ((tb L f).drop 1) = tb (L / 2) fun i => f (1 + 2 * i) := by
      rw [tb_drop, tb_evens, show (L - 1 + 1) / 2 = L / 2 from by omega]
    simp only [e_con, e_var, e_bin, e_neg, e_cmp, e_chain, e_and, e_or, e_not, e_ite, e_call, e_blt, e_isi, e_lrng, e_trng, e_tup, e_lst, e_sl, e_rev, e_every, e_ixV, e_ixC, e_ixI, e_ixL, evs_nil, evs_cons, evs_star, evs_io, evO_none, evO_some, evP_none, evP_some, evI_seq, evI_enum, evI_zip, rss_nil, rss_cons, rs_asg, rs_unp, rs_par, rs_ifs, rs_expr, rs_ret, rs_brk, rs_app, rs_while, getV, setV, isiD, copD, bopD, b_lenL, b_lenT, b_abs, b_min2, b_max2, b_int, b_intB, b_listL, b_listT, b_tupL, b_tupT, b_all, b_any, b_sumL, b_sumT, unO, tb_len, MP.frs, itemsImm, imm, immL, asgD, MP.isIo, bindT, bindTs, seqOf, MP.isInt, at0, at1, at2, startE, cntIo, frzAll, fz0, wipeE, frz, frz1, MP.vars, varsS, varsO, varsI, LIM, List.getElem?_cons_zero, List.getElem?_cons_succ, Option.map_some, c_PAIR_fractions, List.drop_zero]
    rw [e1, e2, tb_zip, show min ((L + 1) / 2) (L / 2) = L / 2 from by omega]
  · simp [e_con, e_var, e_bin, e_neg, e_cmp, e_chain, e_and, e_or, e_not, e_ite, e_call, e_blt, e_isi, e_lrng, e_trng, e_tup, e_lst, e_sl, e_rev, e_every, e_ixV, e_ixC, e_ixI, e_ixL, evs_nil, evs_cons, evs_star, evs_io, evO_none, evO_some, evP_none, evP_some, evI_seq, evI_enum, evI_zip, rss_nil, rss_cons, rs_asg, rs_unp, rs_par, rs_ifs, rs_expr, rs_ret, rs_brk, rs_app, rs_while, getV, setV, isiD, copD, bopD, b_lenL, b_lenT, b_abs, b_min2, b_max2, b_int, b_intB, b_listL, b_listT, b_tupL, b_tupT, b_all, b_any, b_sumL, b_sumT, unO, tb_len, MP.frs, itemsImm, imm, immL, asgD, MP.isIo, bindT, bindTs, seqOf, MP.isInt, at0, at1, at2, startE, cntIo, frzAll, fz0, wipeE, frz, frz1, MP.vars, varsS, varsO, varsI, LIM, (hg i hi).1]
theorem y15c {cl : Cl} (rows : PyData) (l odd l2 : List PyData) (o2 : Option (Kd × PyData)) (hio : o2 = none ∨ ∃ x, o2 = some (Kd.own, x))
    (ho : l.length % 2 = 1 → odd = cutD l (some (-1)) none) (ho' : ¬ l.length % 2 = 1 → odd = []) (h1 : immL l = true) (h3 : immL odd = true) (h2 : immL l2 = true) (hl : l2.length + odd.length ≤ 1000000)
    (e : ev cl e15_2 [some (Kd.ro, rows), some (Kd.own, .list l), some (Kd.own, .list odd), none, none] P = some (.list l2, P)) :
    rss cl false e15_0 [some (Kd.ro, rows), some (Kd.own, .list l), o2, none, none] P = some (.nx [some (Kd.ro, rows), some (Kd.own, .list (l2 ++ odd)), some (Kd.own, .list odd), none, none] P) := by
  have hv : MP.vars e15_2 = [1, 1] := rfl
  have hm : ((l.length : Int) % 2 = 1) ↔ l.length % 2 = 1 := by omega
  have ha : immL (l2 ++ odd) = true := immL_append h2 h3
  by_cases c : l.length % 2 = 1
  · have c' := hm.mpr c
    have e0 := ho c
    rw [← e0.symm.trans e0] at e0
    have k : rs cl false (.asg 2 (.ite (.cmp .eq (.bin .mod (.blt .len (.cons (.var 1) .nil)) (.con c_PAIR_fractions)) (.con (.int 1))) (.sl (.var 1) (.some (.neg (.con (.int 1)))) .none) (.lst .nil))) [some (Kd.ro, rows), some (Kd.own, .list l), o2, none, none] P = some (.nx [some (Kd.ro, rows), some (Kd.own, .list l), some (Kd.own, .list odd), none, none] P) := by
      have h0 : ∀ l1, imm (.list l1) = false := fun l1 => by rw [imm]
      rcases hio with rfl | ⟨x, rfl⟩ <;> simp [rs_asg, e_con, e_var, e_bin, e_neg, e_cmp, e_chain, e_and, e_or, e_not, e_ite, e_call, e_blt, e_isi, e_lrng, e_trng, e_tup, e_lst, e_sl, e_rev, e_every, e_ixV, e_ixC, e_ixI, e_ixL, evs_nil, evs_cons, evs_star, evs_io, evO_none, evO_some, evP_none, evP_some, evI_seq, evI_enum, evI_zip, rss_nil, rss_cons, rs_asg, rs_unp, rs_par, rs_ifs, rs_expr, rs_ret, rs_brk, rs_app, rs_while, getV, setV, isiD, copD, bopD, b_lenL, b_lenT, b_abs, b_min2, b_max2, b_int, b_intB, b_listL, b_listT, b_tupL, b_tupT, b_all, b_any, b_sumL, b_sumT, unO, tb_len, MP.frs, itemsImm, imm, immL, asgD, MP.isIo, bindT, bindTs, seqOf, MP.isInt, at0, at1, at2, startE, cntIo, frzAll, fz0, wipeE, frz, frz1, MP.vars, varsS, varsO, varsI, LIM, c_PAIR_fractions, c', shp, PyData.eqv, ← e0, h3, h0]
    unfold e15_0
    rw [rss_cons, k]
    simp [e_con, e_var, e_bin, e_neg, e_cmp, e_chain, e_and, e_or, e_not, e_ite, e_call, e_blt, e_isi, e_lrng, e_trng, e_tup, e_lst, e_sl, e_rev, e_every, e_ixV, e_ixC, e_ixI, e_ixL, evs_nil, evs_cons, evs_star, evs_io, evO_none, evO_some, evP_none, evP_some, evI_seq, evI_enum, evI_zip, rss_nil, rss_cons, rs_asg, rs_unp, rs_par, rs_ifs, rs_expr, rs_ret, rs_brk, rs_app, rs_while, getV, setV, isiD, copD, bopD, b_lenL, b_lenT, b_abs, b_min2, b_max2, b_int, b_intB, b_listL, b_listT, b_tupL, b_tupT, b_all, b_any, b_sumL, b_sumT, unO, tb_len, MP.frs, itemsImm, imm, immL, asgD, MP.isIo, bindT, bindTs, seqOf, MP.isInt, at0, at1, at2, startE, cntIo, frzAll, fz0, wipeE, frz, frz1, MP.vars, varsS, varsO, varsI, LIM, e, hv, strV, hl, h3, ha]
  · have c' : ¬ (l.length : Int) % 2 = 1 := fun z => c (hm.mp z)
    have e0 := ho' c
    subst e0
    have k : rs cl false (.asg 2 (.ite (.cmp .eq (.bin .mod (.blt .len (.cons (.var 1) .nil)) (.con c_PAIR_fractions)) (.con (.int 1))) (.sl (.var 1) (.some (.neg (.con (.int 1)))) .none) (.lst .nil))) [some (Kd.ro, rows), some (Kd.own, .list l), o2, none, none] P = some (.nx [some (Kd.ro, rows), some (Kd.own, .list l), some (Kd.own, .list []), none, none] P) := by
      have c2 : ((l.length : Int) % 2 == 1) = false := by simpa using c'
      rcases hio with rfl | ⟨x, rfl⟩ <;> simp [rs_asg, e_con, e_var, e_bin, e_neg, e_cmp, e_chain, e_and, e_or, e_not, e_ite, e_call, e_blt, e_isi, e_lrng, e_trng, e_tup, e_lst, e_sl, e_rev, e_every, e_ixV, e_ixC, e_ixI, e_ixL, evs_nil, evs_cons, evs_star, evs_io, evO_none, evO_some, evP_none, evP_some, evI_seq, evI_enum, evI_zip, rss_nil, rss_cons, rs_asg, rs_unp, rs_par, rs_ifs, rs_expr, rs_ret, rs_brk, rs_app, rs_while, getV, setV, isiD, copD, bopD, b_lenL, b_lenT, b_abs, b_min2, b_max2, b_int, b_intB, b_listL, b_listT, b_tupL, b_tupT, b_all, b_any, b_sumL, b_sumT, unO, tb_len, MP.frs, itemsImm, imm, immL, asgD, MP.isIo, bindT, bindTs, seqOf, MP.isInt, at0, at1, at2, startE, cntIo, frzAll, fz0, wipeE, frz, frz1, MP.vars, varsS, varsO, varsI, LIM, c_PAIR_fractions, c2, shp, PyData.eqv]
    unfold e15_0
    rw [rss_cons, k]
    simp at hl
    simp [e_con, e_var, e_bin, e_neg, e_cmp, e_chain, e_and, e_or, e_not, e_ite, e_call, e_blt, e_isi, e_lrng, e_trng, e_tup, e_lst, e_sl, e_rev, e_every, e_ixV, e_ixC, e_ixI, e_ixL, evs_nil, evs_cons, evs_star, evs_io, evO_none, evO_some, evP_none, evP_some, evI_seq, evI_enum, evI_zip, rss_nil, rss_cons, rs_asg, rs_unp, rs_par, rs_ifs, rs_expr, rs_ret, rs_brk, rs_app, rs_while, getV, setV, isiD, copD, bopD, b_lenL, b_lenT, b_abs, b_min2, b_max2, b_int, b_intB, b_listL, b_listT, b_tupL, b_tupT, b_all, b_any, b_sumL, b_sumT, unO, tb_len, MP.frs, itemsImm, imm, immL, asgD, MP.isIo, bindT, bindTs, seqOf, MP.isInt, at0, at1, at2, startE, cntIo, frzAll, fz0, wipeE, frz, frz1, MP.vars, varsS, varsO, varsI, LIM, e, hv, strV, hl, h2]
theorem sm_part {k : Nat} {B : Nat → Int} {L i : Nat} (hB : ∀ i, i < L → 0 ≤ B i) (kS : sm k (sz B L)) (hi : i < L) : sm k (B i) := by
  have h1 := sz_ge hB hi
  have h2 := hB i hi
  exact kS.of_le (by omega)
theorem loop15 {cl : Cl} (hcl : ∀ a b c d, cl 13 [some a, some b] P = some (c, d) ∨ True) (rows : PyData) (W : Int) {k : Nat} (hW : 0 < W) (kW : sm k W) (hk : k ≤ 4000)
    (h13 : ∀ a c : Int, sm k a → sm k c → cl 13 [some (fr a W), some (fr c W)] P = some (fr (a * W + c * W) (W * W), P)) :
    ∀ (fuel L : Nat) (B : Nat → Int) (o2 : Option (Kd × PyData)), 1 ≤ L → L ≤ 1000000 → L ≤ fuel → (∀ i, i < L → 0 ≤ B i) → sm k (sz B L) → (o2 = none ∨ ∃ x, o2 = some (Kd.own, x)) →
      ∃ o2', whL (ev cl (.cmp .gt (.blt .len (.cons (.var 1) .nil)) (.con (.int 1)))) (rss cl false e15_0) fuel [some (Kd.ro, rows), some (Kd.own, .list (tb L fun i => fr (B i) W)), o2, none, none] P = some (.nx [some (Kd.ro, rows), some (Kd.own, .list [fr (sz B L) W]), o2', none, none] P)
  | 0, L, B, o2, h1, _, h3, _, _, _ => absurd h3 (by omega)
  | fuel + 1, L, B, o2, h1, h2, h3, hB, kS, ho => by
    by_cases c : L = 1
    · subst c
      refine ⟨o2, ?_⟩
      unfold whL
      have : ev cl (.cmp .gt (.blt .len (.cons (.var 1) .nil)) (.con (.int 1))) [some (Kd.ro, rows), some (Kd.own, .list (tb 1 fun i => fr (B i) W)), o2, none, none] P = some (.bool false, P) := by
        simp [e_con, e_var, e_bin, e_neg, e_cmp, e_chain, e_and, e_or, e_not, e_ite, e_call, e_blt, e_isi, e_lrng, e_trng, e_tup, e_lst, e_sl, e_rev, e_every, e_ixV, e_ixC, e_ixI, e_ixL, evs_nil, evs_cons, evs_star, evs_io, evO_none, evO_some, evP_none, evP_some, evI_seq, evI_enum, evI_zip, rss_nil, rss_cons, rs_asg, rs_unp, rs_par, rs_ifs, rs_expr, rs_ret, rs_brk, rs_app, rs_while, getV, setV, isiD, copD, bopD, b_lenL, b_lenT, b_abs, b_min2, b_max2, b_int, b_intB, b_listL, b_listT, b_tupL, b_tupT, b_all, b_any, b_sumL, b_sumT, unO, tb_len, MP.frs, itemsImm, imm, immL, asgD, MP.isIo, bindT, bindTs, seqOf, MP.isInt, at0, at1, at2, startE, cntIo, frzAll, fz0, wipeE, frz, frz1, MP.vars, varsS, varsO, varsI, LIM]
      rw [this]
      show some (Rs.nx [some (Kd.ro, rows), some (Kd.own, .list [fr (B 0) W]), o2, none, none] P) = some (Rs.nx [some (Kd.ro, rows), some (Kd.own, .list [fr (0 + B 0) W]), o2, none, none] P)
      rw [Int.zero_add]
    · have im : immL (tb L fun i => fr (B i) W) = true := immL_tb fun _ _ => rfl
      have g := y15b (cl := cl) (P := P) rows L (fun i => fr (B i) W) (fun i => fr (B (2 * i) + B (1 + 2 * i)) W) none h1 h2 rfl im fun i hi => by
        have k1 := h13 (B (2 * i)) (B (1 + 2 * i)) (sm_part hB kS (by omega)) (sm_part hB kS (by omega))
        have k2 : fr (B (2 * i) * W + B (1 + 2 * i) * W) (W * W) = fr (B (2 * i) + B (1 + 2 * i)) W := fr_eq (Int.mul_pos hW hW) hW (by grind)
        rw [k2] at k1
        exact ⟨k1, rfl⟩
      have hodd : (tb (L / 2) fun i => fr (B (2 * i) + B (1 + 2 * i)) W) ++ oddL L (fun i => fr (B i) W) = tb ((L + 1) / 2) fun i => fr (half L B i) W := by
        unfold oddL
        by_cases o : L % 2 = 1
        · rw [if_pos o, show (L + 1) / 2 = L / 2 + 1 from by omega, tb_snoc]
          congr 1
          · exact tb_congr fun i hi => by unfold half; rw [if_pos hi]
          · unfold half
            rw [if_neg (by omega)]
        · rw [if_neg o, List.append_nil, show (L + 1) / 2 = L / 2 from by omega]
          exact tb_congr fun i hi => by unfold half; rw [if_pos hi]
      have hlen : (tb L fun i => fr (B i) W).length = L := tb_len
      have b := y15c (cl := cl) (P := P) rows (tb L fun i => fr (B i) W) (oddL L fun i => fr (B i) W) (tb (L / 2) fun i => fr (B (2 * i) + B (1 + 2 * i)) W) o2 ho (fun o => by
          rw [hlen] at o
          unfold oddL
          rw [if_pos o]
          obtain ⟨q, rfl⟩ : ∃ q, L = q + 1 := ⟨L - 1, by omega⟩
          rw [cut_last]
          rfl) (fun o => by
          rw [hlen] at o
          unfold oddL
          rw [if_neg o]) im (by
          unfold oddL
          split
          · exact immL_cons.mpr ⟨rfl, rfl⟩
          · rfl) (immL_tb fun _ _ => rfl) (by
          rw [tb_len]
          have : (oddL L fun i => fr (B i) W).length ≤ 1 := by
            unfold oddL
            split
            · exact Nat.le_refl 1
            · exact Nat.zero_le 1
          omega) g
      rw [hodd] at b
      obtain ⟨o2', w⟩ := loop15 hcl rows W hW kW hk h13 fuel ((L + 1) / 2) (half L B) (some (Kd.own, .list (oddL L fun i => fr (B i) W))) (by omega) (by omega) (by omega) (half_nn hB) (by rw [half_sum]; exact kS) (.inr ⟨_, rfl⟩)
      refine ⟨o2', ?_⟩
      unfold whL
      have t : ev cl (.cmp .gt (.blt .len (.cons (.var 1) .nil)) (.con (.int 1))) [some (Kd.ro, rows), some (Kd.own, .list (tb L fun i => fr (B i) W)), o2, none, none] P = some (.bool true, P) := by
        have : (1 : Int) < L := by omega
        simp [e_con, e_var, e_bin, e_neg, e_cmp, e_chain, e_and, e_or, e_not, e_ite, e_call, e_blt, e_isi, e_lrng, e_trng, e_tup, e_lst, e_sl, e_rev, e_every, e_ixV, e_ixC, e_ixI, e_ixL, evs_nil, evs_cons, evs_star, evs_io, evO_none, evO_some, evP_none, evP_some, evI_seq, evI_enum, evI_zip, rss_nil, rss_cons, rs_asg, rs_unp, rs_par, rs_ifs, rs_expr, rs_ret, rs_brk, rs_app, rs_while, getV, setV, isiD, copD, bopD, b_lenL, b_lenT, b_abs, b_min2, b_max2, b_int, b_intB, b_listL, b_listT, b_tupL, b_tupT, b_all, b_any, b_sumL, b_sumT, unO, tb_len, MP.frs, itemsImm, imm, immL, asgD, MP.isIo, bindT, bindTs, seqOf, MP.isInt, at0, at1, at2, startE, cntIo, frzAll, fz0, wipeE, frz, frz1, MP.vars, varsS, varsO, varsI, LIM, this]
      rw [t]
      try dsimp only
      rw [b]
      try dsimp only
      rw [w, half_sum]
theorem y15 {cl : Cl} (rows : List PyData) (x : PyData) (o2 : Option (Kd × PyData)) (im : immL rows = true) (hl : rows.length + 1 ≤ 1000000) (imx : imm x = true)
    (w : rs cl false e15_1 [some (Kd.ro, .list rows), some (Kd.own, .list (rows ++ [c_NOUGHT])), none, none, none] P = some (.nx [some (Kd.ro, .list rows), some (Kd.own, .list [x]), o2, none, none] P)) :
    rss cl false b15 [some (Kd.ro, .list rows), none, none, none, none] P = some (.rt x P) := by
  have un : ∀ l : List PyData, unO (l.map some ++ [some c_NOUGHT]) = some (l ++ [c_NOUGHT]) := by
    intro l
    induction l with
    | nil => rfl
    | cons a l ih =>
      show (unO (l.map some ++ [some c_NOUGHT])).map (a :: ·) = _
      rw [ih]
      rfl
  have im2 : immL (rows ++ [c_NOUGHT]) = true := immL_append im rfl
  simp [e_con, e_var, e_bin, e_neg, e_cmp, e_chain, e_and, e_or, e_not, e_ite, e_call, e_blt, e_isi, e_lrng, e_trng, e_tup, e_lst, e_sl, e_rev, e_every, e_ixV, e_ixC, e_ixI, e_ixL, evs_nil, evs_cons, evs_star, evs_io, evO_none, evO_some, evP_none, evP_some, evI_seq, evI_enum, evI_zip, rss_nil, rss_cons, rs_asg, rs_unp, rs_par, rs_ifs, rs_expr, rs_ret, rs_brk, rs_app, rs_while, getV, setV, isiD, copD, bopD, b_lenL, b_lenT, b_abs, b_min2, b_max2, b_int, b_intB, b_listL, b_listT, b_tupL, b_tupT, b_all, b_any, b_sumL, b_sumT, unO, tb_len, MP.frs, itemsImm, imm, immL, asgD, MP.isIo, bindT, bindTs, seqOf, MP.isInt, at0, at1, at2, startE, cntIo, frzAll, fz0, wipeE, frz, frz1, MP.vars, varsS, varsO, varsI, LIM, b15, un, hl, im2, w, imx]
theorem s15 (h : 15 < n) (r : Nat) (A : Nat → Int) (W : Int) {k : Nat} (hW : 0 < W) (kW : sm k W) (hA : ∀ i, i < r → 0 ≤ A i) (kS : sm k (sz A r)) (hk : k ≤ 4000) (hr : r + 1 ≤ 1000000) :
    F n 15 [some (.list (tb r fun i => fr (A i) W))] P = some (fr (sz A r) W, P) := by
  have e0 : sz (fun i => if i < r then A i else 0) (r + 1) = sz A r := by
    show sz _ r + (if r < r then A r else 0) = _
    rw [if_neg (Nat.lt_irrefl r), Int.add_zero]
    exact sz_congr fun i hi => if_pos hi
  have hf : r + 1 ≤ fuelW := by
    have : 1000000 ≤ fuelW := by decide +kernel
    omega
  obtain ⟨o2, w⟩ := loop15 (cl := F 15) (P := P) (fun _ _ _ _ => .inr trivial) (.list (tb r fun i => fr (A i) W)) W hW kW hk (fun a c ka kc => s13 (by omega) hW hW ka kW kc kW hk) fuelW (r + 1) (fun i => if i < r then A i else 0) none (by omega) hr hf
    (fun i _ => by
      try dsimp only
      split
      · rename_i c; exact hA i c
      · exact Int.le_refl _) (by rw [e0]; exact kS) (.inl rfl)
  rw [e0] at w
  have e1 : (tb (r + 1) fun i => fr (if i < r then A i else 0) W) = (tb r fun i => fr (A i) W) ++ [c_NOUGHT] := by
    rw [tb_snoc]
    congr 1
    · exact tb_congr fun i hi => by rw [if_pos hi]
    · rw [if_neg (Nat.lt_irrefl r), fr_zero hW]
      rfl
  rw [e1] at w
  exact F_ret h (d := d15) rfl rfl (by decide) rfl (y15 _ _ o2 (immL_tb fun _ _ => rfl) (by rw [tb_len]; exact hr) rfl w)
end K06
set_option Elab.async false
set_option linter.all false
set_option maxRecDepth 100000
/-! k06: powers, coins. -/
namespace K06
open PySem MP
variable {n : Nat} {P : PyData}
theorem pow_sm {b : Int} (h0 : 0 ≤ b) (hb : b ≤ 16) : ∀ i : Nat, sm (4 * i + 1) (b ^ i)
  | 0 => by
    rw [Int.pow_zero]
    show (1 : Int).natAbs < 2 ^ 1
    decide
  | i + 1 => by
    have ih := pow_sm h0 hb i
    have h1 : sm 5 b := by unfold sm; omega
    have hn : 0 ≤ b ^ i := Int.pow_nonneg h0
    unfold sm at ih ⊢
    rw [Int.pow_succ, Int.natAbs_mul]
    have h2 : b.natAbs ≤ 16 := by omega
    have h3 : 2 ^ (4 * (i + 1) + 1) = 2 ^ (4 * i + 1) * 16 := by
      rw [show 4 * (i + 1) + 1 = (4 * i + 1) + 4 from by omega, Nat.pow_add]
    rw [h3]
    have h4 : (b ^ i).natAbs * b.natAbs ≤ (b ^ i).natAbs * 16 := Nat.mul_le_mul_left _ h2
    omega
theorem y7a {cl : Cl} (b m : Int) (x : Int) (o : Option (Kd × PyData)) (t : Int) (h : smallI x b = true) : rss cl false e7_0 [some (Kd.ro, .int b), some (Kd.ro, .int m), some (Kd.ro, .int x), some (Kd.ro, .int t)] P = some (.nx [some (Kd.ro, .int b), some (Kd.ro, .int m), some (Kd.ro, .int (x * b)), some (Kd.ro, .int t)] P) := by
  simp [e_con, e_var, e_bin, e_neg, e_cmp, e_chain, e_and, e_or, e_not, e_ite, e_call, e_blt, e_isi, e_lrng, e_trng, e_tup, e_lst, e_sl, e_rev, e_every, e_ixV, e_ixC, e_ixI, e_ixL, evs_nil, evs_cons, evs_star, evs_io, evO_none, evO_some, evP_none, evP_some, evI_seq, evI_enum, evI_zip, rss_nil, rss_cons, rs_asg, rs_unp, rs_par, rs_ifs, rs_expr, rs_ret, rs_brk, rs_app, rs_while, getV, setV, isiD, copD, bopD, b_lenL, b_lenT, b_abs, b_min2, b_max2, b_int, b_intB, b_listL, b_listT, b_tupL, b_tupT, b_all, b_any, b_sumL, b_sumT, unO, tb_len, MP.frs, itemsImm, imm, immL, asgD, MP.isIo, bindT, bindTs, seqOf, MP.isInt, at0, at1, at2, startE, cntIo, frzAll, fz0, wipeE, frz, frz1, MP.vars, varsS, varsO, varsI, LIM, e7_0, h]
theorem y7 {cl : Cl} (b m x : Int) (o : Option (Kd × PyData)) (w : rs cl false e7_1 [some (Kd.ro, .int b), some (Kd.ro, .int m), some (Kd.ro, .int 1), none] P = some (.nx [some (Kd.ro, .int b), some (Kd.ro, .int m), some (Kd.ro, .int x), o] P)) :
    rss cl false b7 [some (Kd.ro, .int b), some (Kd.ro, .int m), none, none] P = some (.rt (.int x) P) := by
  simp [e_con, e_var, e_bin, e_neg, e_cmp, e_chain, e_and, e_or, e_not, e_ite, e_call, e_blt, e_isi, e_lrng, e_trng, e_tup, e_lst, e_sl, e_rev, e_every, e_ixV, e_ixC, e_ixI, e_ixL, evs_nil, evs_cons, evs_star, evs_io, evO_none, evO_some, evP_none, evP_some, evI_seq, evI_enum, evI_zip, rss_nil, rss_cons, rs_asg, rs_unp, rs_par, rs_ifs, rs_expr, rs_ret, rs_brk, rs_app, rs_while, getV, setV, isiD, copD, bopD, b_lenL, b_lenT, b_abs, b_min2, b_max2, b_int, b_intB, b_listL, b_listT, b_tupL, b_tupT, b_all, b_any, b_sumL, b_sumT, unO, tb_len, MP.frs, itemsImm, imm, immL, asgD, MP.isIo, bindT, bindTs, seqOf, MP.isInt, at0, at1, at2, startE, cntIo, frzAll, fz0, wipeE, frz, frz1, MP.vars, varsS, varsO, varsI, LIM, b7, w]
def at3 (i : Nat) : Option (Kd × PyData) := if i = 0 then none else some (Kd.ro, .int ((i - 1 : Nat) : Int))
theorem at3_succ (i : Nat) : at3 (i + 1) = some (Kd.ro, .int (i : Nat)) := by
  unfold at3
  rw [if_neg (by omega)]
  rfl
theorem bind3 (a b c : Option (Kd × PyData)) (i : Nat) (d : PyData) : bindT (.nm 3) d [a, b, c, at3 i] = some [a, b, c, some (Kd.ro, d)] := by
  unfold at3
  by_cases h : i = 0 <;> simp [e_con, e_var, e_bin, e_neg, e_cmp, e_chain, e_and, e_or, e_not, e_ite, e_call, e_blt, e_isi, e_lrng, e_trng, e_tup, e_lst, e_sl, e_rev, e_every, e_ixV, e_ixC, e_ixI, e_ixL, evs_nil, evs_cons, evs_star, evs_io, evO_none, evO_some, evP_none, evP_some, evI_seq, evI_enum, evI_zip, rss_nil, rss_cons, rs_asg, rs_unp, rs_par, rs_ifs, rs_expr, rs_ret, rs_brk, rs_app, rs_while, getV, setV, isiD, copD, bopD, b_lenL, b_lenT, b_abs, b_min2, b_max2, b_int, b_intB, b_listL, b_listT, b_tupL, b_tupT, b_all, b_any, b_sumL, b_sumT, unO, tb_len, MP.frs, itemsImm, imm, immL, asgD, MP.isIo, bindT, bindTs, seqOf, MP.isInt, at0, at1, at2, startE, cntIo, frzAll, fz0, wipeE, frz, frz1, MP.vars, varsS, varsO, varsI, LIM, h]
theorem s7 (h : 7 < n) (b : Int) (m : Nat) (h0 : 0 ≤ b) (hb : b ≤ 16) (hm : m ≤ 200) : F n 7 [some (.int b), some (.int (m : Nat))] P = some (.int (b ^ m), P) := by
  have e : rs (F 7) false e7_1 [some (Kd.ro, .int b), some (Kd.ro, .int (m : Nat)), some (Kd.ro, .int 1), none] P = some (.nx [some (Kd.ro, .int b), some (Kd.ro, .int (m : Nat)), some (Kd.ro, .int (b ^ m)), at3 m] P) := by
    show rs (F 7) false (.for (.nm 3) (.rng1 (.var 1)) e7_0) _ P = _
    rw [rs_for (evI_r1 (m := m) rfl (by omega))]
    refine for_run (fun i => [some (Kd.ro, .int b), some (Kd.ro, .int (m : Nat)), some (Kd.ro, .int (b ^ i)), at3 i]) (fun _ => P) (by rw [Int.pow_zero]; rfl) rfl fun i hi => ⟨_, bind3 _ _ _ _ _, ?_⟩
    have hs : smallI (b ^ i) b = true := (pow_sm h0 hb i).small (l := 4) (show sm 5 b by unfold sm; omega) (by omega)
    rw [y7a b m (b ^ i) none i hs]
    show some (Rs.nx [_, _, some (Kd.ro, PyData.int (b ^ i * b)), _] P) = some (Rs.nx [_, _, some (Kd.ro, PyData.int (b ^ (i + 1))), at3 (i + 1)] P)
    rw [at3_succ, Int.pow_succ]
  exact F_ret h (d := d7) rfl rfl (by decide) rfl (y7 _ _ _ _ e)
/-! ### top_of -/
/-- powers of the no -/
theorem y17a {cl : Cl} (row share x y p q : PyData) (N : Nat) (g : Nat → Int) (b : Int) (t : PyData) (o8 o9 : Option (Kd × PyData)) (hs : smallI (g N) b = true) (hl : N + 1 < 1000000) :
    rss cl false e17_2 [some (Kd.ro, row), some (Kd.ro, share), some (Kd.own, .list (tb (N + 1) fun i => .int (g i))), some (Kd.ro, t), some (Kd.ro, x), some (Kd.ro, y), some (Kd.ro, p), some (Kd.ro, .int b), some (Kd.ro, q), some (Kd.ro, .int 1), none, none] P =
      some (.nx [some (Kd.ro, row), some (Kd.ro, share), some (Kd.own, .list ((tb (N + 1) fun i => .int (g i)) ++ [.int (g N * b)])), some (Kd.ro, t), some (Kd.ro, x), some (Kd.ro, y), some (Kd.ro, p), some (Kd.ro, .int b), some (Kd.ro, q), some (Kd.ro, .int 1), none, none] P) := by
  have h1 : L2.atI (tb (N + 1) fun i => PyData.int (g i)) (-1) = some (.int (g N)) := atI_last
  have h2 : immL (tb (N + 1) fun i => PyData.int (g i)) = true := immL_tb fun _ _ => rfl
  simp [e_con, e_var, e_bin, e_neg, e_cmp, e_chain, e_and, e_or, e_not, e_ite, e_call, e_blt, e_isi, e_lrng, e_trng, e_tup, e_lst, e_sl, e_rev, e_every, e_ixV, e_ixC, e_ixI, e_ixL, evs_nil, evs_cons, evs_star, evs_io, evO_none, evO_some, evP_none, evP_some, evI_seq, evI_enum, evI_zip, rss_nil, rss_cons, rs_asg, rs_unp, rs_par, rs_ifs, rs_expr, rs_ret, rs_brk, rs_app, rs_while, getV, setV, isiD, copD, bopD, b_lenL, b_lenT, b_abs, b_min2, b_max2, b_int, b_intB, b_listL, b_listT, b_tupL, b_tupT, b_all, b_any, b_sumL, b_sumT, unO, tb_len, MP.frs, itemsImm, imm, immL, asgD, MP.isIo, bindT, bindTs, seqOf, MP.isInt, at0, at1, at2, startE, cntIo, frzAll, fz0, wipeE, frz, frz1, MP.vars, varsS, varsO, varsI, LIM, e17_2, h1, h2, hs, hl]
theorem y17b {cl : Cl} (row share cs : PyData) (pw : List PyData) (l3 : Option (Kd × PyData)) (m p q x y c a z : Int) (h1 : L2.atI pw (m - a) = some (.int z)) (s1 : smallI c y = true) (s2 : smallI (c * y) z = true) (s3 : smallI y p = true) :
    rss cl false e17_0 [some (Kd.ro, row), some (Kd.ro, share), some (Kd.own, .list pw), l3, some (Kd.ro, .int m), some (Kd.ro, cs), some (Kd.ro, .int p), some (Kd.ro, .int q), some (Kd.ro, .int x), some (Kd.ro, .int y), some (Kd.ro, .int a), some (Kd.ro, .int c)] P =
      some (.nx [some (Kd.ro, row), some (Kd.ro, share), some (Kd.own, .list pw), l3, some (Kd.ro, .int m), some (Kd.ro, cs), some (Kd.ro, .int p), some (Kd.ro, .int q), some (Kd.ro, .int (x + c * y * z)), some (Kd.ro, .int (y * p)), some (Kd.ro, .int a), some (Kd.ro, .int c)] P) := by
  simp [e_con, e_var, e_bin, e_neg, e_cmp, e_chain, e_and, e_or, e_not, e_ite, e_call, e_blt, e_isi, e_lrng, e_trng, e_tup, e_lst, e_sl, e_rev, e_every, e_ixV, e_ixC, e_ixI, e_ixL, evs_nil, evs_cons, evs_star, evs_io, evO_none, evO_some, evP_none, evP_some, evI_seq, evI_enum, evI_zip, rss_nil, rss_cons, rs_asg, rs_unp, rs_par, rs_ifs, rs_expr, rs_ret, rs_brk, rs_app, rs_while, getV, setV, isiD, copD, bopD, b_lenL, b_lenT, b_abs, b_min2, b_max2, b_int, b_intB, b_listL, b_listT, b_tupL, b_tupT, b_all, b_any, b_sumL, b_sumT, unO, tb_len, MP.frs, itemsImm, imm, immL, asgD, MP.isIo, bindT, bindTs, seqOf, MP.isInt, at0, at1, at2, startE, cntIo, frzAll, fz0, wipeE, frz, frz1, MP.vars, varsS, varsO, varsI, LIM, e17_0, h1, s1, s2, s3]
theorem y17 {cl : Cl} (cs : List PyData) (m p w x : Int) (pw : List PyData) (l3 o8 o9 o10 o11 : Option (Kd × PyData)) (ic : immL cs = true)
    (k1 : rs cl false e17_3 [some (Kd.ro, .tuple [.int m, .tuple cs]), some (Kd.ro, .tuple [.int p, .int w]), some (Kd.own, .list [.int 1]), none, some (Kd.ro, .int m), some (Kd.ro, .tuple cs), some (Kd.ro, .int p), some (Kd.ro, .int (w - p)), some (Kd.ro, .int 0), some (Kd.ro, .int 1), none, none] P = some (.nx [some (Kd.ro, .tuple [.int m, .tuple cs]), some (Kd.ro, .tuple [.int p, .int w]), some (Kd.own, .list pw), l3, some (Kd.ro, .int m), some (Kd.ro, .tuple cs), some (Kd.ro, .int p), some (Kd.ro, .int (w - p)), some (Kd.ro, .int 0), some (Kd.ro, .int 1), none, none] P))
    (k2 : rs cl false e17_1 [some (Kd.ro, .tuple [.int m, .tuple cs]), some (Kd.ro, .tuple [.int p, .int w]), some (Kd.own, .list pw), l3, some (Kd.ro, .int m), some (Kd.ro, .tuple cs), some (Kd.ro, .int p), some (Kd.ro, .int (w - p)), some (Kd.ro, .int 0), some (Kd.ro, .int 1), none, none] P = some (.nx [some (Kd.ro, .tuple [.int m, .tuple cs]), some (Kd.ro, .tuple [.int p, .int w]), some (Kd.own, .list pw), l3, some (Kd.ro, .int m), some (Kd.ro, .tuple cs), some (Kd.ro, .int p), some (Kd.ro, .int (w - p)), some (Kd.ro, .int x), o9, o10, o11] P)) :
    rss cl false b17 [some (Kd.ro, .tuple [.int m, .tuple cs]), some (Kd.ro, .tuple [.int p, .int w]), none, none, none, none, none, none, none, none, none, none] P = some (.rt (.int x) P) := by
  simp [e_con, e_var, e_bin, e_neg, e_cmp, e_chain, e_and, e_or, e_not, e_ite, e_call, e_blt, e_isi, e_lrng, e_trng, e_tup, e_lst, e_sl, e_rev, e_every, e_ixV, e_ixC, e_ixI, e_ixL, evs_nil, evs_cons, evs_star, evs_io, evO_none, evO_some, evP_none, evP_some, evI_seq, evI_enum, evI_zip, rss_nil, rss_cons, rs_asg, rs_unp, rs_par, rs_ifs, rs_expr, rs_ret, rs_brk, rs_app, rs_while, getV, setV, isiD, copD, bopD, b_lenL, b_lenT, b_abs, b_min2, b_max2, b_int, b_intB, b_listL, b_listT, b_tupL, b_tupT, b_all, b_any, b_sumL, b_sumT, unO, tb_len, MP.frs, itemsImm, imm, immL, asgD, MP.isIo, bindT, bindTs, seqOf, MP.isInt, at0, at1, at2, startE, cntIo, frzAll, fz0, wipeE, frz, frz1, MP.vars, varsS, varsO, varsI, LIM, b17, k1, k2, ic]
theorem at3_io (i : Nat) : MP.isIo (at3 i) = false := by
  unfold at3
  split <;> rfl
/-- a slot behind i turns -/
def atx (i : Nat) (f : Nat → PyData) : Option (Kd × PyData) := if i = 0 then none else some (Kd.ro, f (i - 1))
theorem atx_succ (i : Nat) (f : Nat → PyData) : atx (i + 1) f = some (Kd.ro, f i) := by
  unfold atx
  rw [if_neg (by omega)]
  rfl
theorem atx_io (i : Nat) (f : Nat → PyData) : MP.isIo (atx i f) = false := by
  unfold atx
  split <;> rfl
theorem s17 (h : 17 < n) (m : Nat) (c : Nat → Nat) (p w : Int) (hm : m ≤ 60) (hc : ∀ t, t ≤ m → sm 1001 (c t : Nat)) (h0 : 0 ≤ p) (h1 : p ≤ w) (h2 : w ≤ 16) :
    F n 17 [some (.tuple [.int (m : Nat), .tuple (tb (m + 1) fun t => .int (c t : Nat))]), some (.tuple [.int p, .int w])] P = some (.int (sz (fun t => (c t : Nat) * p ^ t * (w - p) ^ (m - t)) (m + 1)), P) := by
  have k1 : rs (F 17) false e17_3 [some (Kd.ro, .tuple [.int (m : Nat), .tuple (tb (m + 1) fun t => .int (c t : Nat))]), some (Kd.ro, .tuple [.int p, .int w]), some (Kd.own, .list [.int 1]), none, some (Kd.ro, .int (m : Nat)), some (Kd.ro, .tuple (tb (m + 1) fun t => .int (c t : Nat))), some (Kd.ro, .int p), some (Kd.ro, .int (w - p)), some (Kd.ro, .int 0), some (Kd.ro, .int 1), none, none] P =
      some (.nx [some (Kd.ro, .tuple [.int (m : Nat), .tuple (tb (m + 1) fun t => .int (c t : Nat))]), some (Kd.ro, .tuple [.int p, .int w]), some (Kd.own, .list (tb (m + 1) fun i => .int ((w - p) ^ i))), at3 m, some (Kd.ro, .int (m : Nat)), some (Kd.ro, .tuple (tb (m + 1) fun t => .int (c t : Nat))), some (Kd.ro, .int p), some (Kd.ro, .int (w - p)), some (Kd.ro, .int 0), some (Kd.ro, .int 1), none, none] P) := by
    show rs (F 17) false (.for (.nm 3) (.rng1 (.var 4)) e17_2) _ P = _
    rw [rs_for (evI_r1 (m := m) rfl (by omega))]
    refine for_run (fun i => [some (Kd.ro, .tuple [.int (m : Nat), .tuple (tb (m + 1) fun t => .int (c t : Nat))]), some (Kd.ro, .tuple [.int p, .int w]), some (Kd.own, .list (tb (i + 1) fun i => .int ((w - p) ^ i))), at3 i, some (Kd.ro, .int (m : Nat)), some (Kd.ro, .tuple (tb (m + 1) fun t => .int (c t : Nat))), some (Kd.ro, .int p), some (Kd.ro, .int (w - p)), some (Kd.ro, .int 0), some (Kd.ro, .int 1), none, none]) (fun _ => P) ?_ rfl fun i hi => ⟨_, bind_nm (at3_io i) (show 3 < 12 from by decide), ?_⟩
    · show _ = [_, _, some (Kd.own, PyData.list [.int ((w - p) ^ 0)]), _, _, _, _, _, _, _, _, _]
      rw [Int.pow_zero]
      rfl
    · have hs : smallI ((w - p) ^ i) (w - p) = true := (pow_sm (by omega) (by omega) i).small (l := 4) (show sm 5 (w - p) by unfold sm; omega) (by omega)
      have := y17a (cl := F 17) (P := P) (.tuple [.int (m : Nat), .tuple (tb (m + 1) fun t => .int (c t : Nat))]) (.tuple [.int p, .int w]) (.int (m : Nat)) (.tuple (tb (m + 1) fun t => .int (c t : Nat))) (.int p) (.int 0) i (fun i => (w - p) ^ i) (w - p) (.int (i : Nat)) none none hs (by omega)
      rw [← Int.pow_succ] at this
      rw [at3_succ, tb_snoc (n := i + 1)]
      exact this
  have k2 : rs (F 17) false e17_1 [some (Kd.ro, .tuple [.int (m : Nat), .tuple (tb (m + 1) fun t => .int (c t : Nat))]), some (Kd.ro, .tuple [.int p, .int w]), some (Kd.own, .list (tb (m + 1) fun i => .int ((w - p) ^ i))), at3 m, some (Kd.ro, .int (m : Nat)), some (Kd.ro, .tuple (tb (m + 1) fun t => .int (c t : Nat))), some (Kd.ro, .int p), some (Kd.ro, .int (w - p)), some (Kd.ro, .int 0), some (Kd.ro, .int 1), none, none] P =
      some (.nx [some (Kd.ro, .tuple [.int (m : Nat), .tuple (tb (m + 1) fun t => .int (c t : Nat))]), some (Kd.ro, .tuple [.int p, .int w]), some (Kd.own, .list (tb (m + 1) fun i => .int ((w - p) ^ i))), at3 m, some (Kd.ro, .int (m : Nat)), some (Kd.ro, .tuple (tb (m + 1) fun t => .int (c t : Nat))), some (Kd.ro, .int p), some (Kd.ro, .int (w - p)), some (Kd.ro, .int (sz (fun t => (c t : Nat) * p ^ t * (w - p) ^ (m - t)) (m + 1))), some (Kd.ro, .int (p ^ (m + 1))), atx (m + 1) (fun i => .int (i : Nat)), atx (m + 1) (fun i => .int (c i : Nat))] P) := by
    show rs (F 17) false (.for (.tup (.cons (.nm 10) (.cons (.nm 11) .nil))) (.enum (.var 5)) e17_0) _ P = _
    rw [rs_for (ds := tb (m + 1) fun i => .tuple [.int (i : Nat), .int (c i : Nat)]) (P1 := P) (by
      rw [← tb_enum (f := fun t => PyData.int (c t : Nat))]
      rfl)]
    refine for_run (fun i => [some (Kd.ro, .tuple [.int (m : Nat), .tuple (tb (m + 1) fun t => .int (c t : Nat))]), some (Kd.ro, .tuple [.int p, .int w]), some (Kd.own, .list (tb (m + 1) fun i => .int ((w - p) ^ i))), at3 m, some (Kd.ro, .int (m : Nat)), some (Kd.ro, .tuple (tb (m + 1) fun t => .int (c t : Nat))), some (Kd.ro, .int p), some (Kd.ro, .int (w - p)), some (Kd.ro, .int (sz (fun t => (c t : Nat) * p ^ t * (w - p) ^ (m - t)) i)), some (Kd.ro, .int (p ^ i)), atx i (fun i => .int (i : Nat)), atx i (fun i => .int (c i : Nat))]) (fun _ => P) ?_ rfl fun i hi => ⟨_, bind_two (atx_io i (fun i => .int (i : Nat))) (atx_io i (fun i => .int (c i : Nat))) (show 10 < 12 from by decide) (show 11 < 12 from by decide), ?_⟩
    · show _ = [_, _, _, _, _, _, _, _, _, some (Kd.ro, PyData.int (p ^ 0)), _, _]
      rw [Int.pow_zero]
      rfl
    · have a1 := hc i (by omega)
      have a2 := pow_sm (b := p) h0 (by omega) i
      have a3 := pow_sm (b := w - p) (by omega) (by omega) (m - i)
      have z1 : smallI (c i : Nat) (p ^ i) = true := a1.small a2 (by omega)
      have z2 : smallI ((c i : Nat) * p ^ i) ((w - p) ^ (m - i)) = true := (show sm (1001 + 4 * i + 1) _ from a1.mul a2).small a3 (by omega)
      have z3 : smallI (p ^ i) p = true := a2.small (l := 4) (show sm 5 p by unfold sm; omega) (by omega)
      have z4 : L2.atI (tb (m + 1) fun i => PyData.int ((w - p) ^ i)) ((m : Int) - (i : Nat)) = some (.int ((w - p) ^ (m - i))) := by
        rw [atI_tb (by omega) (by omega), show ((m : Int) - (i : Nat)).toNat = m - i from by omega]
      have := y17b (cl := F 17) (P := P) (.tuple [.int (m : Nat), .tuple (tb (m + 1) fun t => .int (c t : Nat))]) (.tuple [.int p, .int w]) (.tuple (tb (m + 1) fun t => .int (c t : Nat))) (tb (m + 1) fun i => .int ((w - p) ^ i)) (at3 m) (m : Nat) p (w - p) (sz (fun t => (c t : Nat) * p ^ t * (w - p) ^ (m - t)) i) (p ^ i) (c i : Nat) (i : Nat) _ z4 z1 z2 z3
      rw [← Int.pow_succ] at this
      rw [atx_succ, atx_succ]
      exact this
  exact F_ret h (d := d17) rfl rfl (by decide) rfl (y17 (cl := F 17) (P := P) (tb (m + 1) fun t => .int (c t : Nat)) (m : Nat) p w _ _ (at3 m) none (some (Kd.ro, .int (p ^ (m + 1)))) (atx (m + 1) fun i => .int (i : Nat)) (atx (m + 1) fun i => .int (c i : Nat)) (immL_tb fun _ _ => rfl) k1 k2)
end K06
set_option Elab.async false
set_option linter.all false
set_option maxRecDepth 100000
/-! k06: a coin's chances, two lots. -/
namespace K06
open PySem MP
variable {n : Nat} {P : PyData}
theorem y18 {cl : Cl} (m w t q : Int) (row sh X : PyData) (cs : PyData) (p : PyData) (hr : row = .tuple [.int m, cs]) (hs : sh = .tuple [p, .int w]) (k1 : cl 17 [some row, some sh] P = some (.int t, P)) (k2 : cl 7 [some (.int w), some (.int m)] P = some (.int q, P)) (k3 : cl 12 [some (.int t), some (.int q)] P = some (X, P)) :
    rss cl false b18 [some (Kd.ro, row), some (Kd.ro, sh)] P = some (.rt X P) := by
  subst hr hs
  simp [e_con, e_var, e_bin, e_neg, e_cmp, e_chain, e_and, e_or, e_not, e_ite, e_call, e_blt, e_isi, e_lrng, e_trng, e_tup, e_lst, e_sl, e_rev, e_every, e_ixV, e_ixC, e_ixI, e_ixL, evs_nil, evs_cons, evs_star, evs_io, evO_none, evO_some, evP_none, evP_some, evI_seq, evI_enum, evI_zip, rss_nil, rss_cons, rs_asg, rs_unp, rs_par, rs_ifs, rs_expr, rs_ret, rs_brk, rs_app, rs_while, getV, setV, isiD, copD, bopD, b_lenL, b_lenT, b_abs, b_min2, b_max2, b_int, b_intB, b_listL, b_listT, b_tupL, b_tupT, b_all, b_any, b_sumL, b_sumT, unO, tb_len, MP.frs, itemsImm, imm, immL, asgD, MP.isIo, bindT, bindTs, seqOf, MP.isInt, at0, at1, at2, startE, cntIo, frzAll, fz0, wipeE, frz, frz1, MP.vars, varsS, varsO, varsI, LIM, b18, k1, k2, k3]
theorem y36 {cl : Cl} (m y : Int) (sh X : PyData) (L : List PyData) (iL : immL L = true) (k1 : cl 34 [some (.int m)] P = some (.none, P)) (k2 : cl 35 [some (.int m), some (.int y)] P = some (.none, P)) (k3 : cl 11 [some sh] P = some (.none, P))
    (e : ev cl e36_0 [some (Kd.ro, .int m), some (Kd.ro, .int y), some (Kd.ro, sh), none] P = some (.list L, P)) (k4 : cl 18 [some (.tuple [.int m, .tuple L]), some sh] P = some (X, P)) :
    rss cl false b36 [some (Kd.ro, .int m), some (Kd.ro, .int y), some (Kd.ro, sh), none] P = some (.rt X P) := by
  simp [e_con, e_var, e_bin, e_neg, e_cmp, e_chain, e_and, e_or, e_not, e_ite, e_call, e_blt, e_isi, e_lrng, e_trng, e_tup, e_lst, e_sl, e_rev, e_every, e_ixV, e_ixC, e_ixI, e_ixL, evs_nil, evs_cons, evs_star, evs_io, evO_none, evO_some, evP_none, evP_some, evI_seq, evI_enum, evI_zip, rss_nil, rss_cons, rs_asg, rs_unp, rs_par, rs_ifs, rs_expr, rs_ret, rs_brk, rs_app, rs_while, getV, setV, isiD, copD, bopD, b_lenL, b_lenT, b_abs, b_min2, b_max2, b_int, b_intB, b_listL, b_listT, b_tupL, b_tupT, b_all, b_any, b_sumL, b_sumT, unO, tb_len, MP.frs, itemsImm, imm, immL, asgD, MP.isIo, bindT, bindTs, seqOf, MP.isInt, at0, at1, at2, startE, cntIo, frzAll, fz0, wipeE, frz, frz1, MP.vars, varsS, varsO, varsI, LIM, b36, k1, k2, k3, k4, e]
theorem y36a {cl : Cl} (m y a c : Int) (sh : PyData) (k1 : a = y → cl 16 [some (.int m), some (.int a)] P = some (.int c, P)) (k2 : ¬ a = y → c = 0) :
    ev cl (.ite (.cmp .eq (.var 3) (.var 1)) (.call 16 (.cons (.var 0) (.cons (.var 3) .nil))) (.con (.int 0))) [some (Kd.ro, .int m), some (Kd.ro, .int y), some (Kd.ro, sh), some (Kd.ro, .int a)] P = some (.int c, P) := by
  by_cases h : a = y
  · simp [e_con, e_var, e_bin, e_neg, e_cmp, e_chain, e_and, e_or, e_not, e_ite, e_call, e_blt, e_isi, e_lrng, e_trng, e_tup, e_lst, e_sl, e_rev, e_every, e_ixV, e_ixC, e_ixI, e_ixL, evs_nil, evs_cons, evs_star, evs_io, evO_none, evO_some, evP_none, evP_some, evI_seq, evI_enum, evI_zip, rss_nil, rss_cons, rs_asg, rs_unp, rs_par, rs_ifs, rs_expr, rs_ret, rs_brk, rs_app, rs_while, getV, setV, isiD, copD, bopD, b_lenL, b_lenT, b_abs, b_min2, b_max2, b_int, b_intB, b_listL, b_listT, b_tupL, b_tupT, b_all, b_any, b_sumL, b_sumT, unO, tb_len, MP.frs, itemsImm, imm, immL, asgD, MP.isIo, bindT, bindTs, seqOf, MP.isInt, at0, at1, at2, startE, cntIo, frzAll, fz0, wipeE, frz, frz1, MP.vars, varsS, varsO, varsI, LIM, h, shp, PyData.eqv]
    rw [← h, k1 h]
    simp
  · have h' : (a == y) = false := by simpa using h
    simp [e_con, e_var, e_bin, e_neg, e_cmp, e_chain, e_and, e_or, e_not, e_ite, e_call, e_blt, e_isi, e_lrng, e_trng, e_tup, e_lst, e_sl, e_rev, e_every, e_ixV, e_ixC, e_ixI, e_ixL, evs_nil, evs_cons, evs_star, evs_io, evO_none, evO_some, evP_none, evP_some, evI_seq, evI_enum, evI_zip, rss_nil, rss_cons, rs_asg, rs_unp, rs_par, rs_ifs, rs_expr, rs_ret, rs_brk, rs_app, rs_while, getV, setV, isiD, copD, bopD, b_lenL, b_lenT, b_abs, b_min2, b_max2, b_int, b_intB, b_listL, b_listT, b_tupL, b_tupT, b_all, b_any, b_sumL, b_sumT, unO, tb_len, MP.frs, itemsImm, imm, immL, asgD, MP.isIo, bindT, bindTs, seqOf, MP.isInt, at0, at1, at2, startE, cntIo, frzAll, fz0, wipeE, frz, frz1, MP.vars, varsS, varsO, varsI, LIM, shp, PyData.eqv, h', k2 h]
theorem s34 (h : 34 < n) (m : Nat) (h1 : 1 ≤ m) (h2 : m ≤ 60) : F n 34 [some (.int (m : Nat))] P = some (.none, P) := by
  have e1 := s2 (n := 34) (P := P) (by omega) (m : Int) 1 60 (by omega) (by omega)
  refine F_no h (d := d34) rfl rfl (by decide) rfl ?_
  generalize ((m : Nat) : Int) = zm at e1
  simp [e_con, e_var, e_bin, e_neg, e_cmp, e_chain, e_and, e_or, e_not, e_ite, e_call, e_blt, e_isi, e_lrng, e_trng, e_tup, e_lst, e_sl, e_rev, e_every, e_ixV, e_ixC, e_ixI, e_ixL, evs_nil, evs_cons, evs_star, evs_io, evO_none, evO_some, evP_none, evP_some, evI_seq, evI_enum, evI_zip, rss_nil, rss_cons, rs_asg, rs_unp, rs_par, rs_ifs, rs_expr, rs_ret, rs_brk, rs_app, rs_while, getV, setV, isiD, copD, bopD, b_lenL, b_lenT, b_abs, b_min2, b_max2, b_int, b_intB, b_listL, b_listT, b_tupL, b_tupT, b_all, b_any, b_sumL, b_sumT, unO, tb_len, MP.frs, itemsImm, imm, immL, asgD, MP.isIo, bindT, bindTs, seqOf, MP.isInt, at0, at1, at2, startE, cntIo, frzAll, fz0, wipeE, frz, frz1, MP.vars, varsS, varsO, varsI, LIM, d34, b34, c_MOST_COIN, e1]
theorem s35 (h : 35 < n) (m y : Nat) (h1 : y ≤ m) : F n 35 [some (.int (m : Nat)), some (.int (y : Nat))] P = some (.none, P) := by
  have e1 := s2 (n := 35) (P := P) (by omega) (y : Int) 0 m (by omega) (by omega)
  refine F_no h (d := d35) rfl rfl (by decide) rfl ?_
  simp [e_con, e_var, e_bin, e_neg, e_cmp, e_chain, e_and, e_or, e_not, e_ite, e_call, e_blt, e_isi, e_lrng, e_trng, e_tup, e_lst, e_sl, e_rev, e_every, e_ixV, e_ixC, e_ixI, e_ixL, evs_nil, evs_cons, evs_star, evs_io, evO_none, evO_some, evP_none, evP_some, evI_seq, evI_enum, evI_zip, rss_nil, rss_cons, rs_asg, rs_unp, rs_par, rs_ifs, rs_expr, rs_ret, rs_brk, rs_app, rs_while, getV, setV, isiD, copD, bopD, b_lenL, b_lenT, b_abs, b_min2, b_max2, b_int, b_intB, b_listL, b_listT, b_tupL, b_tupT, b_all, b_any, b_sumL, b_sumT, unO, tb_len, MP.frs, itemsImm, imm, immL, asgD, MP.isIo, bindT, bindTs, seqOf, MP.isInt, at0, at1, at2, startE, cntIo, frzAll, fz0, wipeE, frz, frz1, MP.vars, varsS, varsO, varsI, LIM, d35, b35, e1]
/-- a coin's chance: share a / 10 -/
theorem s36 (h : 36 < n) (m y : Nat) (a : Int) (hm : 1 ≤ m) (hm2 : m ≤ 60) (hy : y ≤ m) (ha : 0 ≤ a) (ha2 : a ≤ 10) :
    F n 36 [some (.int (m : Nat)), some (.int (y : Nat)), some (fr a 10)] P = some (fr ((ch m y : Nat) * frN a 10 ^ y * (frD a 10 - frN a 10) ^ (m - y)) (frD a 10 ^ m), P) := by
  obtain ⟨p0, p1⟩ := fr_share (a := a) (b := 10) (by decide) ha ha2
  have w0 := frD_pos (a := a) (b := 10) (by decide)
  have w1 : frD a 10 ≤ 10 := by
    have := frD_le (a := a) (b := 10) (by decide)
    omega
  have c1 : ∀ t, t ≤ m → sm 1001 ((if t = y then ch m t else 0 : Nat) : Int) := fun t ht => by
    split
    · exact sm_ch (by omega)
    · exact sm_lit (j := 1) (by decide) (by omega)
  have k17 := s17 (n := 18) (P := P) (by omega) m (fun t => if t = y then ch m t else 0) (frN a 10) (frD a 10) hm2 c1 p0 p1 (by omega)
  have hs : sz (fun t => ((if t = y then ch m t else 0 : Nat) : Int) * frN a 10 ^ t * (frD a 10 - frN a 10) ^ (m - t)) (m + 1) = (ch m y : Nat) * frN a 10 ^ y * (frD a 10 - frN a 10) ^ (m - y) := by
    rw [sz_one (j := y) (by omega) fun i hi hj => by
      rw [if_neg hj]
      simp]
    rw [if_pos rfl]
  rw [hs] at k17
  have k7 := s7 (n := 18) (P := P) (by omega) (frD a 10) m (by omega) (by omega) (by omega)
  have wp : 0 < frD a 10 ^ m := Int.pow_pos w0
  have k12 := s12 (n := 18) (P := P) (by omega) ((ch m y : Nat) * frN a 10 ^ y * (frD a 10 - frN a 10) ^ (m - y)) (frD a 10 ^ m) wp (pow_sm (by omega) (by omega) m) (by omega)
  have k18 : F 36 18 [some (.tuple [.int (m : Nat), .tuple (tb (m + 1) fun t => .int ((if t = y then ch m t else 0 : Nat) : Int))]), some (fr a 10)] P = _ := F_ret (by omega) (d := d18) rfl rfl (by decide) rfl (y18 (cl := F 18) (P := P) _ _ _ _ _ _ _ _ _ rfl rfl k17 k7 k12)
  have e : ev (F 36) e36_0 [some (Kd.ro, .int (m : Nat)), some (Kd.ro, .int (y : Nat)), some (Kd.ro, fr a 10), none] P = some (.list (tb (m + 1) fun t => .int ((if t = y then ch m t else 0 : Nat) : Int)), P) := by
    refine e_lcT rfl (f := fun i => .int (i : Nat)) (evI_r1 (m := m + 1) (by simp [e_con, e_var, e_bin, e_neg, e_cmp, e_chain, e_and, e_or, e_not, e_ite, e_call, e_blt, e_isi, e_lrng, e_trng, e_tup, e_lst, e_sl, e_rev, e_every, e_ixV, e_ixC, e_ixI, e_ixL, evs_nil, evs_cons, evs_star, evs_io, evO_none, evO_some, evP_none, evP_some, evI_seq, evI_enum, evI_zip, rss_nil, rss_cons, rs_asg, rs_unp, rs_par, rs_ifs, rs_expr, rs_ret, rs_brk, rs_app, rs_while, getV, setV, isiD, copD, bopD, b_lenL, b_lenT, b_abs, b_min2, b_max2, b_int, b_intB, b_listL, b_listT, b_tupL, b_tupT, b_all, b_any, b_sumL, b_sumT, unO, tb_len, MP.frs, itemsImm, imm, immL, asgD, MP.isIo, bindT, bindTs, seqOf, MP.isInt, at0, at1, at2, startE, cntIo, frzAll, fz0, wipeE, frz, frz1, MP.vars, varsS, varsO, varsI, LIM]) (by omega)) (by omega) fun i hi => ⟨_, rfl, rfl, ?_, rfl⟩
    refine y36a _ _ _ _ _ (fun z => ?_) fun z => ?_
    · rw [if_pos (show i = y by omega)]
      exact s16 (by omega) m i (by omega) (by omega)
    · rw [if_neg (show ¬ i = y by omega)]
      rfl
  have k11 := s11 (n := 36) (P := P) (by omega) (a := a) (b := 10) (k := 5) (by decide) (by unfold sm; omega) (by unfold sm; decide) (by omega) ha ha2
  exact F_ret h (d := d36) rfl rfl (by decide) rfl (y36 (cl := F 36) (P := P) _ _ _ _ _ (immL_tb fun _ _ => rfl) (s34 (by omega) m hm hm2) (s35 (by omega) m y hy) k11 e k18)
end K06
set_option Elab.async false
set_option linter.all false
set_option maxRecDepth 100000
/-! k06: two lots. -/
namespace K06
open PySem MP
variable {n : Nat} {P : PyData}
theorem y37a {cl : Cl} (a b z : Int) (k : cl 2 [some (.int z), some (.int 1), some (.int 20)] P = some (.bool true, P)) : rss cl false e37_0 [some (Kd.ro, .int a), some (Kd.ro, .int b), some (Kd.ro, .int z)] P = some (.nx [some (Kd.ro, .int a), some (Kd.ro, .int b), some (Kd.ro, .int z)] P) := by
  simp [e_con, e_var, e_bin, e_neg, e_cmp, e_chain, e_and, e_or, e_not, e_ite, e_call, e_blt, e_isi, e_lrng, e_trng, e_tup, e_lst, e_sl, e_rev, e_every, e_ixV, e_ixC, e_ixI, e_ixL, evs_nil, evs_cons, evs_star, evs_io, evO_none, evO_some, evP_none, evP_some, evI_seq, evI_enum, evI_zip, rss_nil, rss_cons, rs_asg, rs_unp, rs_par, rs_ifs, rs_expr, rs_ret, rs_brk, rs_app, rs_while, getV, setV, isiD, copD, bopD, b_lenL, b_lenT, b_abs, b_min2, b_max2, b_int, b_intB, b_listL, b_listT, b_tupL, b_tupT, b_all, b_any, b_sumL, b_sumT, unO, tb_len, MP.frs, itemsImm, imm, immL, asgD, MP.isIo, bindT, bindTs, seqOf, MP.isInt, at0, at1, at2, startE, cntIo, frzAll, fz0, wipeE, frz, frz1, MP.vars, varsS, varsO, varsI, LIM, e37_0, c_MOST_LOT, k]
theorem s37 (h : 37 < n) (a b : Nat) (h1 : 1 ≤ a) (h2 : a ≤ 20) (h3 : 1 ≤ b) (h4 : b ≤ 20) : F n 37 [some (.int (a : Nat)), some (.int (b : Nat))] P = some (.none, P) := by
  have w : rs (F 37) false e37_1 [some (Kd.ro, .int (a : Nat)), some (Kd.ro, .int (b : Nat)), none] P = some (.nx [some (Kd.ro, .int (a : Nat)), some (Kd.ro, .int (b : Nat)), atx 2 (fun i => if i = 0 then .int (a : Nat) else .int (b : Nat))] P) := by
    show rs (F 37) false (.for (.nm 2) (.seq (.tup (.cons (.var 0) (.cons (.var 1) .nil)))) e37_0) _ P = _
    rw [rs_for (ds := tb 2 fun i => if i = 0 then .int (a : Nat) else .int (b : Nat)) (P1 := P) (by rfl)]
    refine for_run (fun i => [some (Kd.ro, .int (a : Nat)), some (Kd.ro, .int (b : Nat)), atx i (fun i => if i = 0 then .int (a : Nat) else .int (b : Nat))]) (fun _ => P) rfl rfl fun i hi => ⟨_, bind_nm (atx_io i (fun i => if i = 0 then .int (a : Nat) else .int (b : Nat))) (show 2 < 3 from by decide), ?_⟩
    rw [atx_succ]
    by_cases c : i = 0
    · rw [if_pos c]
      exact y37a _ _ _ (s2 (by omega) _ _ _ (by omega) (by omega))
    · rw [if_neg c]
      exact y37a _ _ _ (s2 (by omega) _ _ _ (by omega) (by omega))
  have w2 : rss (F 37) false (.cons e37_1 .nil) [some (Kd.ro, .int (a : Nat)), some (Kd.ro, .int (b : Nat)), none] P = some (.nx [some (Kd.ro, .int (a : Nat)), some (Kd.ro, .int (b : Nat)), atx 2 (fun i => if i = 0 then .int (a : Nat) else .int (b : Nat))] P) := by
    rw [rss_cons, w]
    rfl
  exact F_nx h (d := d37) rfl rfl (by decide) rfl w2
theorem y38 {cl : Cl} (a b c : Int) (L : List PyData) (e : ev cl e38_0 [some (Kd.ro, .int a), some (Kd.ro, .int b), some (Kd.ro, .int c), none] P = some (.list L, P)) : rss cl false b38 [some (Kd.ro, .int a), some (Kd.ro, .int b), some (Kd.ro, .int c), none] P = some (.rt (.list L) P) := by
  simp [e_con, e_var, e_bin, e_neg, e_cmp, e_chain, e_and, e_or, e_not, e_ite, e_call, e_blt, e_isi, e_lrng, e_trng, e_tup, e_lst, e_sl, e_rev, e_every, e_ixV, e_ixC, e_ixI, e_ixL, evs_nil, evs_cons, evs_star, evs_io, evO_none, evO_some, evP_none, evP_some, evI_seq, evI_enum, evI_zip, rss_nil, rss_cons, rs_asg, rs_unp, rs_par, rs_ifs, rs_expr, rs_ret, rs_brk, rs_app, rs_while, getV, setV, isiD, copD, bopD, b_lenL, b_lenT, b_abs, b_min2, b_max2, b_int, b_intB, b_listL, b_listT, b_tupL, b_tupT, b_all, b_any, b_sumL, b_sumT, unO, tb_len, MP.frs, itemsImm, imm, immL, asgD, MP.isIo, bindT, bindTs, seqOf, MP.isInt, at0, at1, at2, startE, cntIo, frzAll, fz0, wipeE, frz, frz1, MP.vars, varsS, varsO, varsI, LIM, b38, e, frs_e38_0]
theorem y38a {cl : Cl} (a b c z : Int) : ev cl (.tup (.cons (.var 3) (.cons (.bin .sub (.var 2) (.var 3)) .nil))) [some (Kd.ro, .int a), some (Kd.ro, .int b), some (Kd.ro, .int c), some (Kd.ro, .int z)] P = some (.tuple [.int z, .int (c - z)], P) := by
  simp [e_con, e_var, e_bin, e_neg, e_cmp, e_chain, e_and, e_or, e_not, e_ite, e_call, e_blt, e_isi, e_lrng, e_trng, e_tup, e_lst, e_sl, e_rev, e_every, e_ixV, e_ixC, e_ixI, e_ixL, evs_nil, evs_cons, evs_star, evs_io, evO_none, evO_some, evP_none, evP_some, evI_seq, evI_enum, evI_zip, rss_nil, rss_cons, rs_asg, rs_unp, rs_par, rs_ifs, rs_expr, rs_ret, rs_brk, rs_app, rs_while, getV, setV, isiD, copD, bopD, b_lenL, b_lenT, b_abs, b_min2, b_max2, b_int, b_intB, b_listL, b_listT, b_tupL, b_tupT, b_all, b_any, b_sumL, b_sumT, unO, tb_len, MP.frs, itemsImm, imm, immL, asgD, MP.isIo, bindT, bindTs, seqOf, MP.isInt, at0, at1, at2, startE, cntIo, frzAll, fz0, wipeE, frz, frz1, MP.vars, varsS, varsO, varsI, LIM]
def mgL (a b c : Nat) : Nat := min a c + 1 - (c - b)
theorem s38 (h : 38 < n) (a b c : Nat) (ha : a ≤ 20) (hb : b ≤ 20) (hc : c ≤ a + b) : F n 38 [some (.int (a : Nat)), some (.int (b : Nat)), some (.int (c : Nat))] P = some (.list (tb (mgL a b c) fun i => .tuple [.int ((c - b + i : Nat) : Int), .int ((c : Int) - ((c - b + i : Nat) : Int))]), P) := by
  refine F_ret h (d := d38) rfl rfl (by decide) rfl (y38 _ _ _ _ ?_)
  refine e_lcT rfl (f := fun i => .int ((c - b + i : Nat) : Int)) ?_ (by unfold mgL; omega) fun i hi => ⟨_, rfl, rfl, y38a _ _ _ _, rfl⟩
  have hlo : (if ((c : Int) - b) > 0 then (c : Int) - b else 0) = ((c - b : Nat) : Int) := by split <;> omega
  have hhi : (if (c : Int) < a then (c : Int) else a) + 1 = ((min a c + 1 : Nat) : Int) := by split <;> omega
  have k1 : ev (F 38) (.blt .max2 (.cons (.con (.int 0)) (.cons (.bin .sub (.var 2) (.var 1)) .nil))) [some (Kd.ro, .int (a : Nat)), some (Kd.ro, .int (b : Nat)), some (Kd.ro, .int (c : Nat)), none] P = some (.int ((c - b : Nat) : Int), P) := by
    rw [← hlo]
    rfl
  have k2 : ev (F 38) (.bin .add (.blt .min2 (.cons (.var 0) (.cons (.var 2) .nil))) (.con (.int 1))) [some (Kd.ro, .int (a : Nat)), some (Kd.ro, .int (b : Nat)), some (Kd.ro, .int (c : Nat)), none] P = some (.int ((min a c + 1 : Nat) : Int), P) := by
    rw [← hhi]
    rfl
  rw [evI_r2 k1 k2 (by omega) (by omega)]
  rw [show (((min a c + 1 : Nat) : Int) - ((c - b : Nat) : Int)).toNat = mgL a b c from by unfold mgL; omega]
  congr 3
theorem y39a {cl : Cl} (a b w x y u v : Int) (c pr X : PyData) (k1 : cl 16 [some (.int a), some (.int x)] P = some (.int u, P)) (k2 : cl 16 [some (.int b), some (.int y)] P = some (.int v, P)) (s : smallI u v = true) (k3 : cl 12 [some (.int (u * v)), some (.int w)] P = some (X, P)) :
    ev cl (.call 12 (.cons (.bin .mul (.call 16 (.cons (.var 0) (.cons (.var 5) .nil))) (.call 16 (.cons (.var 1) (.cons (.var 6) .nil)))) (.cons (.var 3) .nil))) [some (Kd.ro, .int a), some (Kd.ro, .int b), some (Kd.ro, c), some (Kd.ro, .int w), some (Kd.fz, pr), some (Kd.ro, .int x), some (Kd.ro, .int y)] P = some (X, P) := by
  simp [e_con, e_var, e_bin, e_neg, e_cmp, e_chain, e_and, e_or, e_not, e_ite, e_call, e_blt, e_isi, e_lrng, e_trng, e_tup, e_lst, e_sl, e_rev, e_every, e_ixV, e_ixC, e_ixI, e_ixL, evs_nil, evs_cons, evs_star, evs_io, evO_none, evO_some, evP_none, evP_some, evI_seq, evI_enum, evI_zip, rss_nil, rss_cons, rs_asg, rs_unp, rs_par, rs_ifs, rs_expr, rs_ret, rs_brk, rs_app, rs_while, getV, setV, isiD, copD, bopD, b_lenL, b_lenT, b_abs, b_min2, b_max2, b_int, b_intB, b_listL, b_listT, b_tupL, b_tupT, b_all, b_any, b_sumL, b_sumT, unO, tb_len, MP.frs, itemsImm, imm, immL, asgD, MP.isIo, bindT, bindTs, seqOf, MP.isInt, at0, at1, at2, startE, cntIo, frzAll, fz0, wipeE, frz, frz1, MP.vars, varsS, varsO, varsI, LIM, k1, k2, k3, s]
theorem y39 {cl : Cl} (a b c w : Int) (L pr : List PyData) (iL : immL L = true) (k1 : cl 37 [some (.int a), some (.int b)] P = some (.none, P)) (k2 : cl 2 [some (.int c), some (.int 0), some (.int (a + b))] P = some (.bool true, P)) (k3 : cl 16 [some (.int (a + b)), some (.int c)] P = some (.int w, P)) (k4 : cl 38 [some (.int a), some (.int b), some (.int c)] P = some (.list pr, P))
    (e : ev cl e39_0 [some (Kd.ro, .int a), some (Kd.ro, .int b), some (Kd.ro, .int c), some (Kd.ro, .int w), some (Kd.own, .list pr), none, none] P = some (.list L, P)) :
    rss cl false b39 [some (Kd.ro, .int a), some (Kd.ro, .int b), some (Kd.ro, .int c), none, none, none, none] P = some (.rt (.tuple L) P) := by
  simp [e_con, e_var, e_bin, e_neg, e_cmp, e_chain, e_and, e_or, e_not, e_ite, e_call, e_blt, e_isi, e_lrng, e_trng, e_tup, e_lst, e_sl, e_rev, e_every, e_ixV, e_ixC, e_ixI, e_ixL, evs_nil, evs_cons, evs_star, evs_io, evO_none, evO_some, evP_none, evP_some, evI_seq, evI_enum, evI_zip, rss_nil, rss_cons, rs_asg, rs_unp, rs_par, rs_ifs, rs_expr, rs_ret, rs_brk, rs_app, rs_while, getV, setV, isiD, copD, bopD, b_lenL, b_lenT, b_abs, b_min2, b_max2, b_int, b_intB, b_listL, b_listT, b_tupL, b_tupT, b_all, b_any, b_sumL, b_sumT, unO, tb_len, MP.frs, itemsImm, imm, immL, asgD, MP.isIo, bindT, bindTs, seqOf, MP.isInt, at0, at1, at2, startE, cntIo, frzAll, fz0, wipeE, frz, frz1, MP.vars, varsS, varsO, varsI, LIM, b39, k1, k2, k3, k4, e, iL]
theorem s39 (h : 39 < n) (a b c : Nat) (h1 : 1 ≤ a) (h2 : a ≤ 20) (h3 : 1 ≤ b) (h4 : b ≤ 20) (hc : c ≤ a + b) :
    F n 39 [some (.int (a : Nat)), some (.int (b : Nat)), some (.int (c : Nat))] P = some (.tuple (tb (mgL a b c) fun i => fr (dr (a + b) c a (c - b + i) : Nat) (ch (a + b) c : Nat)), P) := by
  have e0 : ((a : Int) + b) = ((a + b : Nat) : Int) := by omega
  have k2 := s2 (n := 39) (P := P) (by omega) (c : Int) 0 ((a : Int) + b) (by omega) (by omega)
  have k3 := s16 (n := 39) (P := P) (by omega) (a + b) c (by omega) (by omega)
  rw [← e0] at k3
  have hp : 0 < ch (a + b) c := ch_pos hc
  have k4 := s38 (n := 39) (P := P) (by omega) a b c h2 h4 hc
  refine F_ret h (d := d39) rfl rfl (by decide) rfl (y39 (cl := F 39) (P := P) _ _ _ _ _ _ (immL_tb fun _ _ => rfl) (s37 (by omega) a b h1 h2 h3 h4) k2 k3 k4 ?_)
  refine e_lcT rfl (f := fun i => .tuple [.int ((c - b + i : Nat) : Int), .int ((c : Int) - ((c - b + i : Nat) : Int))]) rfl (by unfold mgL; omega) fun i hi => ⟨_, rfl, rfl, ?_, rfl⟩
  have hi' : c - b + i ≤ c := by unfold mgL at hi; omega
  have q1 := s16 (n := 39) (P := P) (by omega) a (c - b + i) (by omega) (by omega)
  have q2 := s16 (n := 39) (P := P) (by omega) b (c - (c - b + i)) (by omega) (by omega)
  rw [show ((c - (c - b + i) : Nat) : Int) = (c : Int) - ((c - b + i : Nat) : Int) from by omega] at q2
  have q3 := s12 (n := 39) (P := P) (by omega) (((ch a (c - b + i) : Nat) : Int) * ((ch b (c - (c - b + i)) : Nat) : Int)) (ch (a + b) c : Nat) (by omega) (sm_ch (m := a + b) (k := c) (by omega)) (by omega)
  have q4 : smallI (ch a (c - b + i) : Nat) (ch b (c - (c - b + i)) : Nat) = true := (sm_ch (m := a) (k := c - b + i) (by omega)).small (sm_ch (m := b) (k := c - (c - b + i)) (by omega)) (by omega)
  have q5 : (((ch a (c - b + i) : Nat) : Int) * ((ch b (c - (c - b + i)) : Nat) : Int)) = ((dr (a + b) c a (c - b + i) : Nat) : Int) := by
    unfold dr
    rw [show a + b - a = b from by omega, Int.natCast_mul]
  rw [q5] at q3
  refine y39a (cl := F 39) (P := P) _ _ _ _ _ _ _ _ _ _ q1 q2 q4 ?_
  rw [q5]
  exact q3
end K06
set_option Elab.async false
set_option linter.all false
set_option maxRecDepth 100000
/-! k06: the pot. -/
namespace K06
open PySem MP
variable {n : Nat} {P : PyData}
/-- the pot: what is left, the seed, how many were taken (at most B) -/
def Pot (B : Nat) (P : PyData) : Prop := ∃ o s c : Int, P = .list [.int o, .int s, .int c] ∧ 0 ≤ s ∧ s < 2305843009213693952 ∧ 0 ≤ c ∧ c ≤ B
theorem Pot.mono {B B' : Nat} {P : PyData} (h : Pot B P) (hb : B ≤ B') : Pot B' P := by
  obtain ⟨o, s, c, h1, h2, h3, h4, h5⟩ := h
  exact ⟨o, s, c, h1, h2, h3, h4, by omega⟩
theorem ix30 {α : Type} {a b c : α} : L2.ixN [a, b, c].length 0 = some 0 := rfl
theorem ix32 {α : Type} {a b c : α} : L2.ixN [a, b, c].length 2 = some 2 := rfl
theorem y41a {cl : Cl} (o s c u : Int) (ho : o > 0) (hu : 0 < u) (hl : u.natAbs.log2 < 9000) :
    rss cl true b41 [some (Kd.io, .none), some (Kd.ro, .int u), none, none, none] (.list [.int o, .int s, .int c]) = some (.rt (.int (o % u)) (.list [.int (o / u), .int s, .int c])) := by
  have h3 : L2.ixN 3 0 = some 0 := rfl
  simp [e_con, e_var, e_bin, e_neg, e_cmp, e_chain, e_and, e_or, e_not, e_ite, e_call, e_blt, e_isi, e_lrng, e_trng, e_tup, e_lst, e_sl, e_rev, e_every, e_ixV, e_ixC, e_ixI, e_ixL, evs_nil, evs_cons, evs_star, evs_io, evO_none, evO_some, evP_none, evP_some, evI_seq, evI_enum, evI_zip, rss_nil, rss_cons, rs_asg, rs_unp, rs_par, rs_ifs, rs_expr, rs_ret, rs_brk, rs_app, rs_while, getV, setV, isiD, copD, bopD, b_lenL, b_lenT, b_abs, b_min2, b_max2, b_int, b_intB, b_listL, b_listT, b_tupL, b_tupT, b_all, b_any, b_sumL, b_sumT, unO, tb_len, MP.frs, itemsImm, imm, immL, asgD, MP.isIo, bindT, bindTs, seqOf, MP.isInt, at0, at1, at2, startE, cntIo, frzAll, fz0, wipeE, frz, frz1, MP.vars, varsS, varsO, varsI, LIM, b41, rs_sub, ho, hu, hl, h3]
theorem y41b {cl : Cl} (o s c u pr bl b2 : Int) (ho : ¬ o > 0) (hu : 0 < u) (h1 : smallI 21757 (c + 1) = true) (h2 : smallI (21757 * (c + 1)) (c + 1) = true) (h3 : (s + 21757 * (c + 1) * (c + 1) + 638).natAbs.log2 < 10000)
    (hp : L2.atI [PyData.int 2147483647, .int 2147483629, .int 2147483587, .int 2147483579, .int 2147483563] ((c + 1) % 5) = some (.int pr)) (hp0 : 0 < pr)
    (hb : bl = (s + 21757 * (c + 1) * (c + 1) + 638) ^ 3 % pr) (h4 : smallI 211 (c + 1) = true) (h5 : smallI bl (bl % 11027 + 211 * (c + 1)) = true) (hb2 : b2 = bl * (bl % 11027 + 211 * (c + 1)) % 2305843009213693907) :
    rss cl true b41 [some (Kd.io, .none), some (Kd.ro, .int u), none, none, none] (.list [.int o, .int s, .int c]) = some (.rt (.int (b2 / 157 % u)) (.list [.int o, .int s, .int (c + 1)])) := by
  have hx : L2.ixN 3 2 = some 2 := rfl
  have h157 : Nat.log2 157 < 9000 := by decide +kernel
  subst hb2
  rw [hb] at h5 ⊢
  simp [e_con, e_var, e_bin, e_neg, e_cmp, e_chain, e_and, e_or, e_not, e_ite, e_call, e_blt, e_isi, e_lrng, e_trng, e_tup, e_lst, e_sl, e_rev, e_every, e_ixV, e_ixC, e_ixI, e_ixL, evs_nil, evs_cons, evs_star, evs_io, evO_none, evO_some, evP_none, evP_some, evI_seq, evI_enum, evI_zip, rss_nil, rss_cons, rs_asg, rs_unp, rs_par, rs_ifs, rs_expr, rs_ret, rs_brk, rs_app, rs_while, getV, setV, isiD, copD, bopD, b_lenL, b_lenT, b_abs, b_min2, b_max2, b_int, b_intB, b_listL, b_listT, b_tupL, b_tupT, b_all, b_any, b_sumL, b_sumT, unO, tb_len, MP.frs, itemsImm, imm, immL, asgD, MP.isIo, bindT, bindTs, seqOf, MP.isInt, at0, at1, at2, startE, cntIo, frzAll, fz0, wipeE, frz, frz1, MP.vars, varsS, varsO, varsI, LIM, b41, rs_sub, ho, hu, h1, h2, h3, hp, hp0, h4, h5, hx, h157]
theorem prime_at (k : Int) (h0 : 0 ≤ k) (h1 : k < 5) : ∃ pr : Int, L2.atI [PyData.int 2147483647, .int 2147483629, .int 2147483587, .int 2147483579, .int 2147483563] k = some (.int pr) ∧ 0 < pr ∧ pr < 2147483648 := by
  have : k = 0 ∨ k = 1 ∨ k = 2 ∨ k = 3 ∨ k = 4 := by omega
  rcases this with rfl | rfl | rfl | rfl | rfl
  · exact ⟨_, rfl, by decide, by decide⟩
  · exact ⟨_, rfl, by decide, by decide⟩
  · exact ⟨_, rfl, by decide, by decide⟩
  · exact ⟨_, rfl, by decide, by decide⟩
  · exact ⟨_, rfl, by decide, by decide⟩
theorem log_le {a : Int} {k m : Nat} (h : sm (k + 1) a) (hm : k < m) : a.natAbs.log2 < m := Nat.lt_of_le_of_lt h.log hm
/-- a digit is taken -/
theorem s41 (h : 41 < n) {B : Nat} (hP : Pot B P) (hB : B < 100000) (u : Nat) (hu : 0 < u) (hu2 : u ≤ 1000) :
    ∃ g P', F n 41 [none, some (.int (u : Nat))] P = some (.int ((g : Nat) : Int), P') ∧ g < u ∧ Pot (B + 1) P' := by
  obtain ⟨o, s, c, rfl, h0, h1, h2, h3⟩ := hP
  have hu' : (0 : Int) < (u : Nat) := by omega
  by_cases ho : o > 0
  · have e := y41a (cl := F 41) o s c (u : Nat) ho hu' (log_le (k := 20) (by unfold sm; omega) (by omega))
    have g1 := Int.emod_nonneg o (show ((u : Nat) : Int) ≠ 0 by omega)
    have g2 := Int.emod_lt_of_pos o hu'
    have e2 := F_ret (n := n) h (d := d41) (as := [none, some (.int (u : Nat))]) rfl rfl (by decide) rfl e
    refine ⟨(o % (u : Nat)).toNat, .list [.int (o / (u : Nat)), .int s, .int c], ?_, by omega, ⟨o / (u : Nat), s, c, rfl, h0, h1, h2, by omega⟩⟩
    rw [Int.toNat_of_nonneg g1]
    exact e2
  · obtain ⟨pr, p1, p2, p3⟩ := prime_at ((c + 1) % 5) (by omega) (by omega)
    have c0 : sm 18 (c + 1) := by unfold sm; omega
    have c1 : sm 16 (21757 : Int) := by unfold sm; decide
    have c2 : sm 34 (21757 * (c + 1)) := c1.mul c0
    have c3 : sm 52 (21757 * (c + 1) * (c + 1)) := c2.mul c0
    have c4 : sm 62 s := by unfold sm; omega
    have c5 : sm 63 (s + 21757 * (c + 1) * (c + 1)) := c4.add (c3.mono (by omega))
    have c6 : sm 64 (s + 21757 * (c + 1) * (c + 1) + 638) := c5.add (sm_lit (j := 10) (by decide) (by omega))
    have b0 := Int.emod_nonneg ((s + 21757 * (c + 1) * (c + 1) + 638) ^ 3) (show pr ≠ 0 by omega)
    have b1 := Int.emod_lt_of_pos ((s + 21757 * (c + 1) * (c + 1) + 638) ^ 3) p2
    generalize hb : (s + 21757 * (c + 1) * (c + 1) + 638) ^ 3 % pr = bl at b0 b1
    have c7 : sm 32 bl := by unfold sm; omega
    have c8 : sm 8 (211 : Int) := by unfold sm; decide
    have m0 := Int.emod_nonneg bl (show (11027 : Int) ≠ 0 by decide)
    have m1 := Int.emod_lt_of_pos bl (show (0 : Int) < 11027 by decide)
    have c9 : sm 27 (bl % 11027 + 211 * (c + 1)) := (show sm 26 (bl % 11027) by unfold sm; omega).add ((c8.mul c0).mono (by omega))
    have q0 := Int.emod_nonneg (bl * (bl % 11027 + 211 * (c + 1))) (show (2305843009213693907 : Int) ≠ 0 by decide)
    generalize hb2 : bl * (bl % 11027 + 211 * (c + 1)) % 2305843009213693907 = b2 at q0
    have e := y41b (cl := F 41) o s c (u : Nat) pr bl b2 ho hu' (c1.small (k := 15) (l := 17) c0 (by omega)) (c2.small (k := 33) (l := 17) c0 (by omega)) (log_le c6 (by omega)) p1 p2 hb.symm (c8.small (k := 7) (l := 17) c0 (by omega)) (c7.small (k := 31) (l := 26) c9 (by omega)) hb2.symm
    have g1 := Int.emod_nonneg (b2 / 157) (show ((u : Nat) : Int) ≠ 0 by omega)
    have g2 := Int.emod_lt_of_pos (b2 / 157) hu'
    have e2 := F_ret (n := n) h (d := d41) (as := [none, some (.int (u : Nat))]) rfl rfl (by decide) rfl e
    refine ⟨(b2 / 157 % (u : Nat)).toNat, .list [.int o, .int s, .int (c + 1)], ?_, by omega, ⟨o, s, c + 1, rfl, h0, h1, by omega, by omega⟩⟩
    rw [Int.toNat_of_nonneg g1]
    exact e2
/-- one of a list -/
theorem y42 {cl : Cl} {P' : PyData} (L : List PyData) (g : Int) (x : PyData) (k : cl 41 [none, some (.int L.length)] P = some (.int g, P')) (hx : L2.atI L g = some x) (ix : imm x = true) : rss cl true b42 [some (Kd.io, .none), some (Kd.ro, .list L)] P = some (.rt x P') := by
  simp [e_con, e_var, e_bin, e_neg, e_cmp, e_chain, e_and, e_or, e_not, e_ite, e_call, e_blt, e_isi, e_lrng, e_trng, e_tup, e_lst, e_sl, e_rev, e_every, e_ixV, e_ixC, e_ixI, e_ixL, evs_nil, evs_cons, evs_star, evs_io, evO_none, evO_some, evP_none, evP_some, evI_seq, evI_enum, evI_zip, rss_nil, rss_cons, rs_asg, rs_unp, rs_par, rs_ifs, rs_expr, rs_ret, rs_brk, rs_app, rs_while, getV, setV, isiD, copD, bopD, b_lenL, b_lenT, b_abs, b_min2, b_max2, b_int, b_intB, b_listL, b_listT, b_tupL, b_tupT, b_all, b_any, b_sumL, b_sumT, unO, tb_len, MP.frs, itemsImm, imm, immL, asgD, MP.isIo, bindT, bindTs, seqOf, MP.isInt, at0, at1, at2, startE, cntIo, frzAll, fz0, wipeE, frz, frz1, MP.vars, varsS, varsO, varsI, LIM, b42, k, hx, ix]
theorem s42 (h : 42 < n) {B : Nat} (hP : Pot B P) (hB : B < 100000) (L : List PyData) (h1 : 0 < L.length) (h2 : L.length ≤ 1000) (im : immL L = true) :
    ∃ x P', F n 42 [none, some (.list L)] P = some (x, P') ∧ x ∈ L ∧ Pot (B + 1) P' := by
  obtain ⟨g, P', e, hg, hP'⟩ := s41 (n := 42) (by omega) hP hB L.length h1 h2
  have hx : L2.atI L (g : Int) = some L[g] := by
    rw [atI_nn (by omega) (by omega), Int.toNat_natCast, List.getElem?_eq_getElem hg]
  have hm : L[g] ∈ L := List.getElem_mem hg
  exact ⟨L[g], P', F_ret h (d := d42) rfl rfl (by decide) rfl (y42 L g L[g] e hx (immL_mem im hm)), hm, hP'⟩
end K06
set_option Elab.async false
set_option linter.all false
set_option maxRecDepth 100000
/-! k06: the pot begins. -/
namespace K06
open PySem MP
variable {n : Nat} {P : PyData}
theorem p10a : (10 : Int) ^ Int.toNat 60 = 10 ^ 60 := rfl
/-- behind the first line -/
theorem y40 {cl : Cl} (l : PyData) (p c m e18 : Int) (hm : m = (10 ^ 60) ^ 5) (hm0 : 0 < m) (he : e18 = 10 ^ 18) (hl : ((10 : Int) ^ 60).natAbs.log2 < 10000) (h1 : smallI ((if c < 0 then -c else c) % m) (if decide (e18 ≤ (if c < 0 then -c else c)) = true then 1 else 0) = true)
    (h2 : smallI (c % 2305843009213693951) 32359 = true) (h3 : smallI 4723 p = true) (h4 : smallI (4723 * p) p = true)
    (k : rs cl false (.asg 2 (.ite (.cmp .lt (.var 1) (.blt .len (.cons (.var 0) .nil))) (.ix (.var 0) (.var 1)) (.bin .add (.bin .add (.bin .mod (.blt .sum (.cons (.sl (.var 0) .none (.some (.con (.int 1)))) .nil)) (.con (.int 1000003))) (.bin .mul (.con (.int 6389)) (.var 1))) (.con (.int 431))))) [some (Kd.ro, l), some (Kd.ro, .int p), none, none, none] P = some (.nx [some (Kd.ro, l), some (Kd.ro, .int p), some (Kd.ro, .int c), none, none] P)) :
    ∃ o : Int, rss cl false b40 [some (Kd.ro, l), some (Kd.ro, .int p), none, none, none] P = some (.rt (.list [.int o, .int ((c % 2305843009213693951 * 32359 + 4723 * p * p + 838) % 2305843009213693921), .int 0]) P) := by
  refine ⟨(if c < 0 then -c else c) % m * (if decide (e18 ≤ (if c < 0 then -c else c)) = true then 1 else 0), ?_⟩
  unfold b40
  rw [rss_cons, k]
  have hlog : Nat.log2 10 < 10000 := by decide +kernel
  have q1 : bopD .pow (.int 10) (.int 60) = some (.int (10 ^ 60)) := by
    show (if decide ((0 : Int) ≤ 60) && (decide ((60 : Int) ≤ 1000) && decide ((10 : Int).natAbs.log2 < 10000)) then some (PyData.int (10 ^ Int.toNat 60)) else none) = _
    rw [if_pos (by simp [hlog])]
    rfl
  have q2 : bopD .pow (.int (10 ^ 60)) (.int 5) = some (.int m) := by
    show (if decide ((0 : Int) ≤ 5) && (decide ((5 : Int) ≤ 1000) && decide (((10 : Int) ^ 60).natAbs.log2 < 10000)) then some (PyData.int ((10 ^ 60) ^ Int.toNat 5)) else none) = _
    rw [if_pos (by rw [decide_eq_true hl]; rfl), hm]
    rfl
  have q3 : bopD .pow (.int 10) (.int 18) = some (.int e18) := by
    show (if decide ((0 : Int) ≤ 18) && (decide ((18 : Int) ≤ 1000) && decide ((10 : Int).natAbs.log2 < 10000)) then some (PyData.int (10 ^ Int.toNat 18)) else none) = _
    rw [if_pos (by simp [hlog]), he]
    rfl
  have q4 : bopD .mod (.int (if c < 0 then -c else c)) (.int m) = some (.int ((if c < 0 then -c else c) % m)) := by
    rw [bx_mod, if_pos hm0]
  clear hm
  generalize (10 : Int) ^ 60 = z at q1 q2
  have h1' : smallI ((if c < 0 then -c else c) % m) (if e18 ≤ (if c < 0 then -c else c) then 1 else 0) = true := by
    rw [← h1]
    congr 1
    by_cases z : e18 ≤ (if c < 0 then -c else c) <;> simp [z]
  simp only [decide_eq_true_eq]
  simp [e_con, e_var, e_bin, e_neg, e_cmp, e_chain, e_and, e_or, e_not, e_ite, e_call, e_blt, e_isi, e_lrng, e_trng, e_tup, e_lst, e_sl, e_rev, e_every, e_ixV, e_ixC, e_ixI, e_ixL, evs_nil, evs_cons, evs_star, evs_io, evO_none, evO_some, evP_none, evP_some, evI_seq, evI_enum, evI_zip, rss_nil, rss_cons, rs_asg, rs_unp, rs_par, rs_ifs, rs_expr, rs_ret, rs_brk, rs_app, rs_while, getV, setV, isiD, copD, bx_add, bx_sub, bx_mul, bx_fdiv, bx_mod, b_lenL, b_lenT, b_abs, b_min2, b_max2, b_int, b_intB, b_listL, b_listT, b_tupL, b_tupT, b_all, b_any, b_sumL, b_sumT, unO, tb_len, MP.frs, itemsImm, imm, immL, asgD, MP.isIo, bindT, bindTs, seqOf, MP.isInt, at0, at1, at2, startE, cntIo, frzAll, fz0, wipeE, frz, frz1, MP.vars, varsS, varsO, varsI, LIM, q1, q2, q3, h1', h2, h3, h4, hm0]
theorem y40a {cl : Cl} (l : List PyData) (p c : Int) (h : p < l.length) (hx : L2.atI l p = some (.int c)) :
    rs cl false (.asg 2 (.ite (.cmp .lt (.var 1) (.blt .len (.cons (.var 0) .nil))) (.ix (.var 0) (.var 1)) (.bin .add (.bin .add (.bin .mod (.blt .sum (.cons (.sl (.var 0) .none (.some (.con (.int 1)))) .nil)) (.con (.int 1000003))) (.bin .mul (.con (.int 6389)) (.var 1))) (.con (.int 431))))) [some (Kd.ro, .list l), some (Kd.ro, .int p), none, none, none] P = some (.nx [some (Kd.ro, .list l), some (Kd.ro, .int p), some (Kd.ro, .int c), none, none] P) := by
  simp [e_con, e_var, e_bin, e_neg, e_cmp, e_chain, e_and, e_or, e_not, e_ite, e_call, e_blt, e_isi, e_lrng, e_trng, e_tup, e_lst, e_sl, e_rev, e_every, e_ixV, e_ixC, e_ixI, e_ixL, evs_nil, evs_cons, evs_star, evs_io, evO_none, evO_some, evP_none, evP_some, evI_seq, evI_enum, evI_zip, rss_nil, rss_cons, rs_asg, rs_unp, rs_par, rs_ifs, rs_expr, rs_ret, rs_brk, rs_app, rs_while, getV, setV, isiD, copD, bx_add, bx_sub, bx_mul, bx_fdiv, bx_mod, b_lenL, b_lenT, b_abs, b_min2, b_max2, b_int, b_intB, b_listL, b_listT, b_tupL, b_tupT, b_all, b_any, b_sumL, b_sumT, unO, tb_len, MP.frs, itemsImm, imm, immL, asgD, MP.isIo, bindT, bindTs, seqOf, MP.isInt, at0, at1, at2, startE, cntIo, frzAll, fz0, wipeE, frz, frz1, MP.vars, varsS, varsO, varsI, LIM, h, hx]
theorem y40b {cl : Cl} :
    rs cl false (.asg 2 (.ite (.cmp .lt (.var 1) (.blt .len (.cons (.var 0) .nil))) (.ix (.var 0) (.var 1)) (.bin .add (.bin .add (.bin .mod (.blt .sum (.cons (.sl (.var 0) .none (.some (.con (.int 1)))) .nil)) (.con (.int 1000003))) (.bin .mul (.con (.int 6389)) (.var 1))) (.con (.int 431))))) [some (Kd.ro, .list []), some (Kd.ro, .int 0), none, none, none] P = some (.nx [some (Kd.ro, .list []), some (Kd.ro, .int 0), some (Kd.ro, .int 431), none, none] P) := by
  have h1 : cutD [] none (some 1) = [] := rfl
  have h2 : bltD .sum [.list []] = some (.int 0) := rfl
  have h3 : smallI 6389 0 = true := by decide +kernel
  simp [e_con, e_var, e_bin, e_neg, e_cmp, e_chain, e_and, e_or, e_not, e_ite, e_call, e_blt, e_isi, e_lrng, e_trng, e_tup, e_lst, e_sl, e_rev, e_every, e_ixV, e_ixC, e_ixI, e_ixL, evs_nil, evs_cons, evs_star, evs_io, evO_none, evO_some, evP_none, evP_some, evI_seq, evI_enum, evI_zip, rss_nil, rss_cons, rs_asg, rs_unp, rs_par, rs_ifs, rs_expr, rs_ret, rs_brk, rs_app, rs_while, getV, setV, isiD, copD, bx_add, bx_sub, bx_mul, bx_fdiv, bx_mod, b_lenL, b_lenT, b_abs, b_min2, b_max2, b_int, b_intB, b_listL, b_listT, b_tupL, b_tupT, b_all, b_any, b_sumL, b_sumT, unO, tb_len, MP.frs, itemsImm, imm, immL, asgD, MP.isIo, bindT, bindTs, seqOf, MP.isInt, at0, at1, at2, startE, cntIo, frzAll, fz0, wipeE, frz, frz1, MP.vars, varsS, varsO, varsI, LIM, h1, h2, h3]
theorem big_m : (((10 : Int) ^ 60) ^ 5).natAbs < 2 ^ 1000 := by decide +kernel
theorem s40 (h : 40 < n) (ns : List Int) (p : Nat) (hp : p < ns.length ∨ (ns = [] ∧ p = 0)) (hp3 : p ≤ 3) :
    ∃ P', F n 40 [some (.list (ns.map PyData.int)), some (.int (p : Nat))] P = some (P', P) ∧ Pot 0 P' := by
  obtain ⟨c, k⟩ : ∃ c : Int, rs (F 40) false (.asg 2 (.ite (.cmp .lt (.var 1) (.blt .len (.cons (.var 0) .nil))) (.ix (.var 0) (.var 1)) (.bin .add (.bin .add (.bin .mod (.blt .sum (.cons (.sl (.var 0) .none (.some (.con (.int 1)))) .nil)) (.con (.int 1000003))) (.bin .mul (.con (.int 6389)) (.var 1))) (.con (.int 431))))) [some (Kd.ro, .list (ns.map PyData.int)), some (Kd.ro, .int (p : Nat)), none, none, none] P = some (.nx [some (Kd.ro, .list (ns.map PyData.int)), some (Kd.ro, .int (p : Nat)), some (Kd.ro, .int c), none, none] P) := by
    rcases hp with hp | ⟨rfl, rfl⟩
    · refine ⟨ns[p], y40a _ _ _ (by rw [List.length_map]; omega) ?_⟩
      rw [atI_nn (by omega) (by rw [List.length_map]; omega), Int.toNat_natCast, List.getElem?_map, List.getElem?_eq_getElem hp]
      rfl
    · exact ⟨431, y40b⟩
  have m0 : (0 : Int) < (10 ^ 60) ^ 5 := by decide +kernel
  have hl : ((10 : Int) ^ 60).natAbs.log2 < 10000 := by decide +kernel
  have hmod : sm 1000 ((if c < 0 then -c else c) % (10 ^ 60) ^ 5) := by
    have a0 := Int.emod_nonneg (if c < 0 then -c else c) (show ((10 : Int) ^ 60) ^ 5 ≠ 0 by omega)
    have a1 := Int.emod_lt_of_pos (if c < 0 then -c else c) m0
    unfold sm
    have := big_m
    omega
  have h1 : smallI ((if c < 0 then -c else c) % (10 ^ 60) ^ 5) (if decide ((10 : Int) ^ 18 ≤ (if c < 0 then -c else c)) = true then 1 else 0) = true := by
    refine (hmod.mono (show 1000 ≤ 1000 + 1 by omega)).small (l := 1) ?_ (by omega)
    generalize decide ((10 : Int) ^ 18 ≤ (if c < 0 then -c else c)) = bb
    cases bb <;> (unfold sm; decide)
  have b0 := Int.emod_nonneg c (show (2305843009213693951 : Int) ≠ 0 by decide)
  have b1 := Int.emod_lt_of_pos c (show (0 : Int) < 2305843009213693951 by decide)
  have h2 : smallI (c % 2305843009213693951) 32359 = true := (show sm 63 _ by unfold sm; omega).small (k := 62) (l := 16) (show sm 17 _ by unfold sm; decide) (by omega)
  have h3 : smallI 4723 (p : Nat) = true := (show sm 14 (4723 : Int) by unfold sm; decide).small (k := 13) (l := 3) (show sm 4 _ by unfold sm; omega) (by omega)
  have h4 : smallI (4723 * (p : Nat)) (p : Nat) = true := ((show sm 14 (4723 : Int) by unfold sm; decide).mul (show sm 4 ((p : Nat) : Int) by unfold sm; omega)).small (k := 17) (l := 3) (show sm 4 _ by unfold sm; omega) (by omega)
  obtain ⟨o, e⟩ := y40 (cl := F 40) (P := P) (.list (ns.map PyData.int)) (p : Nat) c _ _ rfl m0 rfl hl h1 h2 h3 h4 k
  have c0 := Int.emod_nonneg (c % 2305843009213693951 * 32359 + 4723 * (p : Nat) * (p : Nat) + 838) (show (2305843009213693921 : Int) ≠ 0 by decide)
  have c1 := Int.emod_lt_of_pos (c % 2305843009213693951 * 32359 + 4723 * (p : Nat) * (p : Nat) + 838) (show (0 : Int) < 2305843009213693921 by decide)
  exact ⟨_, F_ret h (d := d40) rfl rfl (by decide) rfl e, o, _, 0, rfl, c0, by omega, Int.le_refl _, Int.le_refl _⟩
theorem y43 {cl : Cl} (l : List PyData) (k : Nat) (hk : k ≤ 1000) (he : ev cl (.blt .max2 (.cons (.con (.int 1)) (.cons (.blt .min2 (.cons (.var 1) (.cons (.blt .len (.cons (.var 0) .nil)) .nil))) .nil))) [some (Kd.ro, .list l), some (Kd.ro, .int 3)] P = some (.int (k : Nat), P)) :
    rss cl false b43 [some (Kd.ro, .list l), some (Kd.ro, .int 3)] P = some (.rt (.list (tb k fun i => .int (i : Nat))) P) := by
  have e1 := evI_r1 he (by omega)
  have e2 : immL (tb k fun i => PyData.int (i : Nat)) = true := immL_tb fun _ _ => rfl
  have e3 : k ≤ 1000000 := by omega
  unfold b43
  rw [rss_cons, rs_ret, e_lrng, e1]
  simp [LIM, tb_len, e3, MP.frs, itemsImm, e2]
theorem s43 (h : 43 < n) (ns : List Int) : F n 43 [some (.list (ns.map PyData.int)), some (.int 3)] P = some (.list (tb (max 1 (min 3 ns.length)) fun i => .int (i : Nat)), P) := by
  refine F_ret h (d := d43) rfl rfl (by decide) rfl (y43 _ _ (by omega) ?_)
  have e : (if (if ((ns.map PyData.int).length : Int) < 3 then ((ns.map PyData.int).length : Int) else 3) > 1 then (if ((ns.map PyData.int).length : Int) < 3 then ((ns.map PyData.int).length : Int) else 3) else 1) = ((max 1 (min 3 ns.length) : Nat) : Int) := by
    rw [List.length_map]
    split <;> split <;> omega
  rw [← e]
  rfl
end K06
set_option Elab.async false
set_option linter.all false
set_option maxRecDepth 100000
/-! k06: the worst of a lot, sizes, tables, held ones. -/
namespace K06
open PySem MP
variable {n : Nat} {P : PyData}
theorem y27a {cl : Cl} (s d rg lot X X' z : PyData) (o6 : Option (Kd × PyData)) (m : Int) (b : Bool) (ho : MP.isIo o6 = false) (iX : imm X = true) (iX' : imm X' = true) (iz : imm z = true) (k1 : cl 24 [some s, some d, some rg, some (.int m)] P = some (X', P)) (k2 : cl 14 [some X, some X'] P = some (.bool b, P)) :
    rss cl false e27_0 [some (Kd.ro, s), some (Kd.ro, d), some (Kd.ro, rg), some (Kd.ro, lot), some (Kd.ro, .tuple [X, z]), some (Kd.ro, .int m), atx 0 (fun _ => X)] P = some (.nx [some (Kd.ro, s), some (Kd.ro, d), some (Kd.ro, rg), some (Kd.ro, lot), some (Kd.ro, if b then .tuple [X', .int m] else .tuple [X, z]), some (Kd.ro, .int m), some (Kd.ro, X')] P) ∧
    ∀ y, rss cl false e27_0 [some (Kd.ro, s), some (Kd.ro, d), some (Kd.ro, rg), some (Kd.ro, lot), some (Kd.ro, .tuple [X, z]), some (Kd.ro, .int m), some (Kd.ro, y)] P = some (.nx [some (Kd.ro, s), some (Kd.ro, d), some (Kd.ro, rg), some (Kd.ro, lot), some (Kd.ro, if b then .tuple [X', .int m] else .tuple [X, z]), some (Kd.ro, .int m), some (Kd.ro, X')] P) := by
  have ha : atx 0 (fun _ => X) = none := rfl
  rw [ha]
  have hi : ∀ a b : PyData, imm a = true → imm b = true → immL [a, b] = true := fun a b h1 h2 => immL_cons.mpr ⟨h1, immL_cons.mpr ⟨h2, rfl⟩⟩
  have h1 := hi X z iX iz
  have h2 := hi X' (.int m) iX' rfl
  cases b
  · constructor
    · simp [e_con, e_var, e_bin, e_neg, e_cmp, e_chain, e_and, e_or, e_not, e_ite, e_call, e_blt, e_isi, e_lrng, e_trng, e_tup, e_lst, e_sl, e_rev, e_every, e_ixV, e_ixC, e_ixI, e_ixL, evs_nil, evs_cons, evs_star, evs_io, evO_none, evO_some, evP_none, evP_some, evI_seq, evI_enum, evI_zip, rss_nil, rss_cons, rs_asg, rs_unp, rs_par, rs_ifs, rs_expr, rs_ret, rs_brk, rs_app, rs_while, getV, setV, isiD, copD, bx_add, bx_sub, bx_mul, bx_fdiv, bx_mod, b_lenL, b_lenT, b_abs, b_min2, b_max2, b_int, b_intB, b_listL, b_listT, b_tupL, b_tupT, b_all, b_any, b_sumL, b_sumT, unO, tb_len, MP.frs, itemsImm, imm, immL, asgD, MP.isIo, bindT, bindTs, seqOf, MP.isInt, at0, at1, at2, startE, cntIo, frzAll, fz0, wipeE, frz, frz1, MP.vars, varsS, varsO, varsI, LIM, e27_0, k1, k2, iX', iX, iz]
    · intro y
      simp [e_con, e_var, e_bin, e_neg, e_cmp, e_chain, e_and, e_or, e_not, e_ite, e_call, e_blt, e_isi, e_lrng, e_trng, e_tup, e_lst, e_sl, e_rev, e_every, e_ixV, e_ixC, e_ixI, e_ixL, evs_nil, evs_cons, evs_star, evs_io, evO_none, evO_some, evP_none, evP_some, evI_seq, evI_enum, evI_zip, rss_nil, rss_cons, rs_asg, rs_unp, rs_par, rs_ifs, rs_expr, rs_ret, rs_brk, rs_app, rs_while, getV, setV, isiD, copD, bx_add, bx_sub, bx_mul, bx_fdiv, bx_mod, b_lenL, b_lenT, b_abs, b_min2, b_max2, b_int, b_intB, b_listL, b_listT, b_tupL, b_tupT, b_all, b_any, b_sumL, b_sumT, unO, tb_len, MP.frs, itemsImm, imm, immL, asgD, MP.isIo, bindT, bindTs, seqOf, MP.isInt, at0, at1, at2, startE, cntIo, frzAll, fz0, wipeE, frz, frz1, MP.vars, varsS, varsO, varsI, LIM, e27_0, k1, k2, iX', iX, iz]
  · constructor
    · simp [e_con, e_var, e_bin, e_neg, e_cmp, e_chain, e_and, e_or, e_not, e_ite, e_call, e_blt, e_isi, e_lrng, e_trng, e_tup, e_lst, e_sl, e_rev, e_every, e_ixV, e_ixC, e_ixI, e_ixL, evs_nil, evs_cons, evs_star, evs_io, evO_none, evO_some, evP_none, evP_some, evI_seq, evI_enum, evI_zip, rss_nil, rss_cons, rs_asg, rs_unp, rs_par, rs_ifs, rs_expr, rs_ret, rs_brk, rs_app, rs_while, getV, setV, isiD, copD, bx_add, bx_sub, bx_mul, bx_fdiv, bx_mod, b_lenL, b_lenT, b_abs, b_min2, b_max2, b_int, b_intB, b_listL, b_listT, b_tupL, b_tupT, b_all, b_any, b_sumL, b_sumT, unO, tb_len, MP.frs, itemsImm, imm, immL, asgD, MP.isIo, bindT, bindTs, seqOf, MP.isInt, at0, at1, at2, startE, cntIo, frzAll, fz0, wipeE, frz, frz1, MP.vars, varsS, varsO, varsI, LIM, e27_0, k1, k2, iX', iX, iz]
    · intro y
      simp [e_con, e_var, e_bin, e_neg, e_cmp, e_chain, e_and, e_or, e_not, e_ite, e_call, e_blt, e_isi, e_lrng, e_trng, e_tup, e_lst, e_sl, e_rev, e_every, e_ixV, e_ixC, e_ixI, e_ixL, evs_nil, evs_cons, evs_star, evs_io, evO_none, evO_some, evP_none, evP_some, evI_seq, evI_enum, evI_zip, rss_nil, rss_cons, rs_asg, rs_unp, rs_par, rs_ifs, rs_expr, rs_ret, rs_brk, rs_app, rs_while, getV, setV, isiD, copD, bx_add, bx_sub, bx_mul, bx_fdiv, bx_mod, b_lenL, b_lenT, b_abs, b_min2, b_max2, b_int, b_intB, b_listL, b_listT, b_tupL, b_tupT, b_all, b_any, b_sumL, b_sumT, unO, tb_len, MP.frs, itemsImm, imm, immL, asgD, MP.isIo, bindT, bindTs, seqOf, MP.isInt, at0, at1, at2, startE, cntIo, frzAll, fz0, wipeE, frz, frz1, MP.vars, varsS, varsO, varsI, LIM, e27_0, k1, k2, iX', iX, iz]
theorem y27 {cl : Cl} (s d rg X Y z : PyData) (a b : Int) (o5 o6 : Option (Kd × PyData)) (iX : imm X = true) (iY : imm Y = true) (iz : imm z = true) (k1 : cl 24 [some s, some d, some rg, some (.int a)] P = some (X, P))
    (w : rs cl false e27_1 [some (Kd.ro, s), some (Kd.ro, d), some (Kd.ro, rg), some (Kd.ro, .tuple [.int a, .int b]), some (Kd.ro, .tuple [X, .int a]), none, none] P = some (.nx [some (Kd.ro, s), some (Kd.ro, d), some (Kd.ro, rg), some (Kd.ro, .tuple [.int a, .int b]), some (Kd.ro, .tuple [Y, z]), o5, o6] P)) :
    rss cl false b27 [some (Kd.ro, s), some (Kd.ro, d), some (Kd.ro, rg), some (Kd.ro, .tuple [.int a, .int b]), none, none, none] P = some (.rt (.tuple [Y, z]) P) := by
  simp [e_con, e_var, e_bin, e_neg, e_cmp, e_chain, e_and, e_or, e_not, e_ite, e_call, e_blt, e_isi, e_lrng, e_trng, e_tup, e_lst, e_sl, e_rev, e_every, e_ixV, e_ixC, e_ixI, e_ixL, evs_nil, evs_cons, evs_star, evs_io, evO_none, evO_some, evP_none, evP_some, evI_seq, evI_enum, evI_zip, rss_nil, rss_cons, rs_asg, rs_unp, rs_par, rs_ifs, rs_expr, rs_ret, rs_brk, rs_app, rs_while, getV, setV, isiD, copD, bx_add, bx_sub, bx_mul, bx_fdiv, bx_mod, b_lenL, b_lenT, b_abs, b_min2, b_max2, b_int, b_intB, b_listL, b_listT, b_tupL, b_tupT, b_all, b_any, b_sumL, b_sumT, unO, tb_len, MP.frs, itemsImm, imm, immL, asgD, MP.isIo, bindT, bindTs, seqOf, MP.isInt, at0, at1, at2, startE, cntIo, frzAll, fz0, wipeE, frz, frz1, MP.vars, varsS, varsO, varsI, LIM, b27, k1, w, iX, iY, iz]
/-- where the greatest came first -/
def firstMax (R : Nat → Nat) (a : Nat) : Nat → Nat
  | 0 => a
  | i + 1 => if R (a + i) < R (a + i + 1) then a + i + 1 else firstMax R a i
theorem s27 (h : 27 < n) (s d a b r : Nat) (f : Nat → Nat) (h2 : s ≤ 200) (h4 : d ≤ s) (hb : b ≤ s) (hab : a ≤ b) (hr : r ≤ 201) (hf : ∀ i, i < r → f i ≤ d) (mono : ∀ m, m + 1 ≤ b → rg s d m r f ≤ rg s d (m + 1) r f) (sR : ∀ m, m ≤ b → rg s d m r f ≤ ch s d) :
    ∃ z, F n 27 [some (.int (s : Nat)), some (.int (d : Nat)), some (regD r f), some (.tuple [.int (a : Nat), .int (b : Nat)])] P = some (.tuple [fr (rg s d b r f : Nat) (ch s d : Nat), .int z], P) := by
  have hc : 0 < ch s d := ch_pos h4
  have kW : sm 1001 (ch s d : Nat) := sm_ch (by omega)
  have kR : ∀ m, m ≤ b → sm 1001 (rg s d m r f : Nat) := fun m hm => kW.of_le (by have := sR m hm; omega)
  have k24 := fun m (hm : m ≤ s) => s24 (n := 27) (P := P) (by omega) s d m r f h2 h4 hm hr hf
  let X : Nat → PyData := fun m => fr (rg s d m r f : Nat) (ch s d : Nat)
  have w : rs (F 27) false e27_1 [some (Kd.ro, .int (s : Nat)), some (Kd.ro, .int (d : Nat)), some (Kd.ro, regD r f), some (Kd.ro, .tuple [.int (a : Nat), .int (b : Nat)]), some (Kd.ro, .tuple [X a, .int (a : Nat)]), none, none] P =
      some (.nx [some (Kd.ro, .int (s : Nat)), some (Kd.ro, .int (d : Nat)), some (Kd.ro, regD r f), some (Kd.ro, .tuple [.int (a : Nat), .int (b : Nat)]), some (Kd.ro, .tuple [X (a + (b - a)), .int (firstMax (fun m => rg s d m r f) a (b - a) : Nat)]), atx (b - a) (fun i => .int ((a : Int) + 1 + (i : Nat))), atx (b - a) (fun i => X (a + i + 1))] P) := by
    show rs (F 27) false (.for (.nm 5) (.rng2 (.bin .add (.ix (.var 3) (.con (.int 0))) (.con (.int 1))) (.bin .add (.ix (.var 3) (.con (.int 1))) (.con (.int 1)))) e27_0) _ P = _
    rw [rs_for (evI_r2 (i := (a : Int) + 1) (j := (b : Int) + 1) (P1 := P) (P2 := P) rfl rfl (by omega) (by omega))]
    rw [show ((b : Int) + 1 - ((a : Int) + 1)).toNat = b - a from by omega]
    refine for_run (fun i => [some (Kd.ro, .int (s : Nat)), some (Kd.ro, .int (d : Nat)), some (Kd.ro, regD r f), some (Kd.ro, .tuple [.int (a : Nat), .int (b : Nat)]), some (Kd.ro, .tuple [X (a + i), .int (firstMax (fun m => rg s d m r f) a i : Nat)]), atx i (fun i => .int ((a : Int) + 1 + (i : Nat))), atx i (fun i => X (a + i + 1))]) (fun _ => P) rfl rfl fun i hi => ⟨_, bind_nm (atx_io i (fun i => .int ((a : Int) + 1 + (i : Nat)))) (show 5 < 7 from by decide), ?_⟩
    have e0 : ((a : Int) + 1 + (i : Nat)) = ((a + i + 1 : Nat) : Int) := by omega
    have q1 := k24 (a + i + 1) (by omega)
    rw [← e0] at q1
    have q2 := s14 (n := 27) (P := P) (by omega) (a := (rg s d (a + i) r f : Nat)) (b := (ch s d : Nat)) (c := (rg s d (a + i + 1) r f : Nat)) (d := (ch s d : Nat)) (by omega) (by omega) (kR (a + i) (by omega)) kW (kR (a + i + 1) (by omega)) kW (by omega)
    have hlt : ((rg s d (a + i) r f : Nat) : Int) * (ch s d : Nat) < (rg s d (a + i + 1) r f : Nat) * (ch s d : Nat) ↔ rg s d (a + i) r f < rg s d (a + i + 1) r f := by
      constructor
      · intro z
        have := Int.lt_of_mul_lt_mul_right z (by omega)
        omega
      · intro z
        exact Int.mul_lt_mul_of_pos_right (by omega) (by omega)
    have b2 := y27a (cl := F 27) (P := P) (.int (s : Nat)) (.int (d : Nat)) (regD r f) (.tuple [.int (a : Nat), .int (b : Nat)]) (X (a + i)) (X (a + i + 1)) (.int (firstMax (fun m => rg s d m r f) a i : Nat)) none ((a : Int) + 1 + (i : Nat)) _ rfl rfl rfl rfl q1 q2
    have e1 : (if decide (((rg s d (a + i) r f : Nat) : Int) * (ch s d : Nat) < (rg s d (a + i + 1) r f : Nat) * (ch s d : Nat)) = true then PyData.tuple [X (a + i + 1), .int ((a : Int) + 1 + (i : Nat))] else .tuple [X (a + i), .int (firstMax (fun m => rg s d m r f) a i : Nat)]) = .tuple [X (a + (i + 1)), .int (firstMax (fun m => rg s d m r f) a (i + 1) : Nat)] := by
      by_cases c : rg s d (a + i) r f < rg s d (a + i + 1) r f
      · rw [decide_eq_true (hlt.mpr c), if_pos rfl, e0]
        have : firstMax (fun m => rg s d m r f) a (i + 1) = a + i + 1 := if_pos c
        rw [this]
        rfl
      · rw [decide_eq_false (fun z => c (hlt.mp z)), if_neg Bool.false_ne_true]
        have : firstMax (fun m => rg s d m r f) a (i + 1) = firstMax (fun m => rg s d m r f) a i := if_neg c
        rw [this]
        have hm := mono (a + i) (by omega)
        have he : rg s d (a + i) r f = rg s d (a + (i + 1)) r f := by
          show _ = rg s d (a + i + 1) r f
          omega
        show PyData.tuple [fr (rg s d (a + i) r f : Nat) (ch s d : Nat), _] = .tuple [fr (rg s d (a + (i + 1)) r f : Nat) (ch s d : Nat), _]
        rw [he]
    rw [e1] at b2
    rw [atx_succ, atx_succ]
    by_cases hi0 : i = 0
    · subst hi0
      exact b2.1
    · have : atx i (fun i => X (a + i + 1)) = some (Kd.ro, X (a + (i - 1) + 1)) := by
        unfold atx
        rw [if_neg hi0]
      rw [this]
      exact b2.2 _
  have w2 := y27 (cl := F 27) (P := P) (.int (s : Nat)) (.int (d : Nat)) (regD r f) (X a) (X (a + (b - a))) (.int (firstMax (fun m => rg s d m r f) a (b - a) : Nat)) (a : Int) (b : Int) _ _ rfl rfl rfl (k24 a (by omega)) w
  have e : X (a + (b - a)) = X b := by rw [show a + (b - a) = b from by omega]
  rw [e] at w2
  exact ⟨_, F_ret h (d := d27) rfl rfl (by decide) rfl w2⟩
end K06
set_option Elab.async false
set_option linter.all false
set_option maxRecDepth 100000
/-! k06: the worst of a lot with its checks; sizes. -/
namespace K06
open PySem MP
variable {n : Nat} {P : PyData}
theorem y28 {cl : Cl} (s d rg lot X z : PyData) (iX : imm X = true) (iz : imm z = true) (k1 : cl 21 [some s, some d, some rg] P = some (.none, P)) (k2 : cl 22 [some s, some lot] P = some (.none, P)) (k3 : cl 27 [some s, some d, some rg, some lot] P = some (.tuple [X, z], P)) :
    rss cl false b28 [some (Kd.ro, s), some (Kd.ro, d), some (Kd.ro, rg), some (Kd.ro, lot)] P = some (.rt (.tuple [X, z]) P) := by
  simp [e_con, e_var, e_bin, e_neg, e_cmp, e_chain, e_and, e_or, e_not, e_ite, e_call, e_blt, e_isi, e_lrng, e_trng, e_tup, e_lst, e_sl, e_rev, e_every, e_ixV, e_ixC, e_ixI, e_ixL, evs_nil, evs_cons, evs_star, evs_io, evO_none, evO_some, evP_none, evP_some, evI_seq, evI_enum, evI_zip, rss_nil, rss_cons, rs_asg, rs_unp, rs_par, rs_ifs, rs_expr, rs_ret, rs_brk, rs_app, rs_while, getV, setV, isiD, copD, bopD, b_lenL, b_lenT, b_abs, b_min2, b_max2, b_int, b_intB, b_listL, b_listT, b_tupL, b_tupT, b_all, b_any, b_sumL, b_sumT, unO, tb_len, MP.frs, itemsImm, imm, immL, asgD, MP.isIo, bindT, bindTs, seqOf, MP.isInt, at0, at1, at2, startE, cntIo, frzAll, fz0, wipeE, frz, frz1, MP.vars, varsS, varsO, varsI, LIM, b28, k1, k2, k3, iX, iz]
theorem s28 (h : 28 < n) (s d a b r : Nat) (f : Nat → Nat) (h1 : 1 ≤ s) (h2 : s ≤ 200) (h3 : 1 ≤ d) (h4 : d ≤ s) (h5 : d ≤ 60) (R : Reg d r f) (hb : b ≤ s) (hab : a ≤ b) (mono : ∀ m, m + 1 ≤ b → rg s d m r f ≤ rg s d (m + 1) r f) (sR : ∀ m, m ≤ b → rg s d m r f ≤ ch s d) :
    ∃ z, F n 28 [some (.int (s : Nat)), some (.int (d : Nat)), some (regD r f), some (.tuple [.int (a : Nat), .int (b : Nat)])] P = some (.tuple [fr (rg s d b r f : Nat) (ch s d : Nat), .int z], P) := by
  have hr := R.num
  obtain ⟨z, k3⟩ := s27 (n := 28) (P := P) (by omega) s d a b r f h2 h4 hb hab (by omega) R.le mono sR
  exact ⟨z, F_ret h (d := d28) rfl rfl (by decide) rfl (y28 (cl := F 28) (P := P) _ _ _ _ _ _ rfl rfl (s21 (by omega) s d r f h1 h2 h3 h4 h5 R) (s22 (by omega) s a b hb hab) k3)⟩
theorem y29a {cl : Cl} (s d rg sh lot X : PyData) (m : Int) (k1 : cl 24 [some s, some d, some rg, some (.int m)] P = some (X, P)) (k2 : cl 14 [some sh, some X] P = some (.bool false, P)) :
    rss cl false e29_0 [some (Kd.ro, s), some (Kd.ro, d), some (Kd.ro, rg), some (Kd.ro, sh), some (Kd.ro, lot), some (Kd.ro, .int m)] P = some (.nx [some (Kd.ro, s), some (Kd.ro, d), some (Kd.ro, rg), some (Kd.ro, sh), some (Kd.ro, lot), some (Kd.ro, .int m)] P) := by
  simp [e_con, e_var, e_bin, e_neg, e_cmp, e_chain, e_and, e_or, e_not, e_ite, e_call, e_blt, e_isi, e_lrng, e_trng, e_tup, e_lst, e_sl, e_rev, e_every, e_ixV, e_ixC, e_ixI, e_ixL, evs_nil, evs_cons, evs_star, evs_io, evO_none, evO_some, evP_none, evP_some, evI_seq, evI_enum, evI_zip, rss_nil, rss_cons, rs_asg, rs_unp, rs_par, rs_ifs, rs_expr, rs_ret, rs_brk, rs_app, rs_while, getV, setV, isiD, copD, bx_add, bx_sub, bx_mul, bx_fdiv, bx_mod, b_lenL, b_lenT, b_abs, b_min2, b_max2, b_int, b_intB, b_listL, b_listT, b_tupL, b_tupT, b_all, b_any, b_sumL, b_sumT, unO, tb_len, MP.frs, itemsImm, imm, immL, asgD, MP.isIo, bindT, bindTs, seqOf, MP.isInt, at0, at1, at2, startE, cntIo, frzAll, fz0, wipeE, frz, frz1, MP.vars, varsS, varsO, varsI, LIM, e29_0, k1, k2]
theorem y29 {cl : Cl} (s d rg sh X z : PyData) (lot : List PyData) (o : Option (Kd × PyData)) (iX : imm X = true) (iz : imm z = true) (k1 : cl 21 [some s, some d, some rg] P = some (.none, P)) (k2 : cl 11 [some sh] P = some (.none, P)) (k3 : cl 22 [some s, some (.tuple lot)] P = some (.none, P))
    (w : rs cl false e29_1 [some (Kd.ro, s), some (Kd.ro, d), some (Kd.ro, rg), some (Kd.ro, sh), some (Kd.ro, .tuple lot), none] P = some (.nx [some (Kd.ro, s), some (Kd.ro, d), some (Kd.ro, rg), some (Kd.ro, sh), some (Kd.ro, .tuple lot), o] P))
    (k4 : cl 27 [some s, some d, some rg, some (.tuple lot)] P = some (.tuple [X, z], P)) :
    rss cl false b29 [some (Kd.ro, s), some (Kd.ro, d), some (Kd.ro, rg), some (Kd.ro, sh), some (Kd.ro, .tuple lot), none] P = some (.rt (.tuple [.str "holds", X]) P) := by
  simp [e_con, e_var, e_bin, e_neg, e_cmp, e_chain, e_and, e_or, e_not, e_ite, e_call, e_blt, e_isi, e_lrng, e_trng, e_tup, e_lst, e_sl, e_rev, e_every, e_ixV, e_ixC, e_ixI, e_ixL, evs_nil, evs_cons, evs_star, evs_io, evO_none, evO_some, evP_none, evP_some, evI_seq, evI_enum, evI_zip, rss_nil, rss_cons, rs_asg, rs_unp, rs_par, rs_ifs, rs_expr, rs_ret, rs_brk, rs_app, rs_while, getV, setV, isiD, copD, bx_add, bx_sub, bx_mul, bx_fdiv, bx_mod, b_lenL, b_lenT, b_abs, b_min2, b_max2, b_int, b_intB, b_listL, b_listT, b_tupL, b_tupT, b_all, b_any, b_sumL, b_sumT, unO, tb_len, MP.frs, itemsImm, imm, immL, asgD, MP.isIo, bindT, bindTs, seqOf, MP.isInt, at0, at1, at2, startE, cntIo, frzAll, fz0, wipeE, frz, frz1, MP.vars, varsS, varsO, varsI, LIM, b29, k1, k2, k3, k4, w, iX, iz, c_HOLDS]
theorem s29 (h : 29 < n) (s d a b r : Nat) (f : Nat → Nat) (h1 : 1 ≤ s) (h2 : s ≤ 200) (h3 : 1 ≤ d) (h4 : d ≤ s) (h5 : d ≤ 60) (R : Reg d r f) (hb : b ≤ s) (hab : a ≤ b) (mono : ∀ m, m + 1 ≤ b → rg s d m r f ≤ rg s d (m + 1) r f) (sR : ∀ m, m ≤ b → rg s d m r f ≤ ch s d) :
    F n 29 [some (.int (s : Nat)), some (.int (d : Nat)), some (regD r f), some (fr (rg s d b r f : Nat) (ch s d : Nat)), some (.tuple [.int (a : Nat), .int (b : Nat)])] P = some (.tuple [.str "holds", fr (rg s d b r f : Nat) (ch s d : Nat)], P) := by
  have hr := R.num
  have hc : 0 < ch s d := ch_pos h4
  have kW : sm 1001 (ch s d : Nat) := sm_ch (by omega)
  have kR : ∀ m, m ≤ b → sm 1001 (rg s d m r f : Nat) := fun m hm => kW.of_le (by have := sR m hm; omega)
  have k24 := fun m (hm : m ≤ s) => s24 (n := 29) (P := P) (by omega) s d m r f h2 h4 hm (by omega) R.le
  have up : ∀ i m, m + i ≤ b → rg s d m r f ≤ rg s d (m + i) r f := by
    intro i
    induction i with
    | zero => exact fun m _ => Nat.le_refl _
    | succ i ih => exact fun m hm => Nat.le_trans (ih m (by omega)) (mono (m + i) (by omega))
  obtain ⟨z, k4⟩ := s27 (n := 29) (P := P) (by omega) s d a b r f h2 h4 hb hab (by omega) R.le mono sR
  refine F_ret h (d := d29) rfl rfl (by decide) rfl (y29 (cl := F 29) (P := P) _ _ _ _ _ _ _ (atx (b + 1 - a) (fun i => .int ((a : Int) + (i : Nat)))) rfl rfl (s21 (by omega) s d r f h1 h2 h3 h4 h5 R) (s11 (k := 1001) (by omega) (by omega) (kR b (by omega)) kW (by omega) (by omega) (by have := sR b (by omega); omega)) (s22 (by omega) s a b hb hab) ?_ k4)
  show rs (F 29) false (.for (.nm 5) (.rng2 (.ix (.var 4) (.con (.int 0))) (.bin .add (.ix (.var 4) (.con (.int 1))) (.con (.int 1)))) e29_0) _ P = _
  rw [rs_for (evI_r2 (i := (a : Int)) (j := (b : Int) + 1) (P1 := P) (P2 := P) rfl rfl (by omega) (by omega))]
  rw [show ((b : Int) + 1 - (a : Int)).toNat = b + 1 - a from by omega]
  refine for_run (fun i => [some (Kd.ro, .int (s : Nat)), some (Kd.ro, .int (d : Nat)), some (Kd.ro, regD r f), some (Kd.ro, fr (rg s d b r f : Nat) (ch s d : Nat)), some (Kd.ro, .tuple [.int (a : Nat), .int (b : Nat)]), atx i (fun i => .int ((a : Int) + (i : Nat)))]) (fun _ => P) rfl rfl fun i hi => ⟨_, bind_nm (atx_io i (fun i => .int ((a : Int) + (i : Nat)))) (show 5 < 6 from by decide), ?_⟩
  have e0 : ((a : Int) + (i : Nat)) = ((a + i : Nat) : Int) := by omega
  have q1 := k24 (a + i) (by omega)
  rw [← e0] at q1
  have q2 := s14 (n := 29) (P := P) (by omega) (a := (rg s d b r f : Nat)) (b := (ch s d : Nat)) (c := (rg s d (a + i) r f : Nat)) (d := (ch s d : Nat)) (by omega) (by omega) (kR b (by omega)) kW (kR (a + i) (by omega)) kW (by omega)
  have hlt : ¬ ((rg s d b r f : Nat) : Int) * (ch s d : Nat) < (rg s d (a + i) r f : Nat) * (ch s d : Nat) := by
    intro z
    have := Int.lt_of_mul_lt_mul_right z (by omega)
    have := up (b - (a + i)) (a + i) (by omega)
    rw [show a + i + (b - (a + i)) = b from by omega] at this
    omega
  rw [decide_eq_false hlt] at q2
  rw [atx_succ]
  exact y29a (cl := F 29) (P := P) _ _ _ _ _ _ _ q1 q2
end K06
set_option Elab.async false
set_option linter.all false
set_option maxRecDepth 100000
/-! k06: tables. -/
namespace K06
open PySem MP
variable {n : Nat} {P : PyData}
theorem y32 {cl : Cl} (s d m : PyData) (L U D : List PyData) (iL : immL L = true) (iU : immL U = true) (iD : immL D = true) (k1 : cl 19 [some s, some d] P = some (.none, P)) (k2 : cl 20 [some s, some m] P = some (.none, P))
    (e1 : ev cl e32_2 [some (Kd.ro, s), some (Kd.ro, d), some (Kd.ro, m), none, none, none] P = some (.list L, P))
    (e2 : ev cl e32_1 [some (Kd.ro, s), some (Kd.ro, d), some (Kd.ro, m), some (Kd.own, .list L), none, none] P = some (.list U, P))
    (e3 : ev cl e32_0 [some (Kd.ro, s), some (Kd.ro, d), some (Kd.ro, m), some (Kd.own, .list L), some (Kd.ro, .tuple U), none] P = some (.list D, P)) :
    rss cl false b32 [some (Kd.ro, s), some (Kd.ro, d), some (Kd.ro, m), none, none, none] P = some (.rt (.tuple [.tuple U, .tuple D]) P) := by
  simp [e_con, e_var, e_bin, e_neg, e_cmp, e_chain, e_and, e_or, e_not, e_ite, e_call, e_blt, e_isi, e_lrng, e_trng, e_tup, e_lst, e_sl, e_rev, e_every, e_ixV, e_ixC, e_ixI, e_ixL, evs_nil, evs_cons, evs_star, evs_io, evO_none, evO_some, evP_none, evP_some, evI_seq, evI_enum, evI_zip, rss_nil, rss_cons, rs_asg, rs_unp, rs_par, rs_ifs, rs_expr, rs_ret, rs_brk, rs_app, rs_while, getV, setV, isiD, copD, bx_add, bx_sub, bx_mul, bx_fdiv, bx_mod, b_lenL, b_lenT, b_abs, b_min2, b_max2, b_int, b_intB, b_listL, b_listT, b_tupL, b_tupT, b_all, b_any, b_sumL, b_sumT, unO, tb_len, MP.frs, itemsImm, imm, immL, asgD, MP.isIo, bindT, bindTs, seqOf, MP.isInt, at0, at1, at2, startE, cntIo, frzAll, fz0, wipeE, frz, frz1, MP.vars, varsS, varsO, varsI, LIM, b32, k1, k2, e1, e2, e3, iL, iU, iD, frs_e32_2]
theorem rg_one (s d m i : Nat) : rg s d m 1 (fun _ => i) = dr s d m i := Nat.zero_add _
theorem y32a {cl : Cl} (s d m i : Int) (X : PyData) (k : cl 24 [some (.int s), some (.int d), some (.tuple [.int i]), some (.int m)] P = some (X, P)) :
    ev cl (.call 24 (.cons (.var 0) (.cons (.var 1) (.cons (.tup (.cons (.var 5) .nil)) (.cons (.var 2) .nil))))) [some (Kd.ro, .int s), some (Kd.ro, .int d), some (Kd.ro, .int m), none, none, some (Kd.ro, .int i)] P = some (X, P) := by
  simp [e_con, e_var, e_bin, e_neg, e_cmp, e_chain, e_and, e_or, e_not, e_ite, e_call, e_blt, e_isi, e_lrng, e_trng, e_tup, e_lst, e_sl, e_rev, e_every, e_ixV, e_ixC, e_ixI, e_ixL, evs_nil, evs_cons, evs_star, evs_io, evO_none, evO_some, evP_none, evP_some, evI_seq, evI_enum, evI_zip, rss_nil, rss_cons, rs_asg, rs_unp, rs_par, rs_ifs, rs_expr, rs_ret, rs_brk, rs_app, rs_while, getV, setV, isiD, copD, bx_add, bx_sub, bx_mul, bx_fdiv, bx_mod, b_lenL, b_lenT, b_abs, b_min2, b_max2, b_int, b_intB, b_listL, b_listT, b_tupL, b_tupT, b_all, b_any, b_sumL, b_sumT, unO, tb_len, MP.frs, itemsImm, imm, immL, asgD, MP.isIo, bindT, bindTs, seqOf, MP.isInt, at0, at1, at2, startE, cntIo, frzAll, fz0, wipeE, frz, frz1, MP.vars, varsS, varsO, varsI, LIM, k]
theorem y32b {cl : Cl} (s d m i : PyData) (k : Nat) (f : Nat → PyData) (L : Nat) (X : PyData) (hi : i = .int (k : Int)) (iL : immL (tb L f) = true) (kk : cl 15 [some (.list (tb (L - k) fun j => f (k + j)))] P = some (X, P)) :
    ev cl (.call 15 (.cons (.sl (.var 3) (.some (.var 5)) .none) .nil)) [some (Kd.ro, s), some (Kd.ro, d), some (Kd.ro, m), some (Kd.fz, .list (tb L f)), none, some (Kd.ro, i)] P = some (X, P) := by
  subst hi
  simp [e_con, e_var, e_bin, e_neg, e_cmp, e_chain, e_and, e_or, e_not, e_ite, e_call, e_blt, e_isi, e_lrng, e_trng, e_tup, e_lst, e_sl, e_rev, e_every, e_ixV, e_ixC, e_ixI, e_ixL, evs_nil, evs_cons, evs_star, evs_io, evO_none, evO_some, evP_none, evP_some, evI_seq, evI_enum, evI_zip, rss_nil, rss_cons, rs_asg, rs_unp, rs_par, rs_ifs, rs_expr, rs_ret, rs_brk, rs_app, rs_while, getV, setV, isiD, copD, bx_add, bx_sub, bx_mul, bx_fdiv, bx_mod, b_lenL, b_lenT, b_abs, b_min2, b_max2, b_int, b_intB, b_listL, b_listT, b_tupL, b_tupT, b_all, b_any, b_sumL, b_sumT, unO, tb_len, MP.frs, itemsImm, imm, immL, asgD, MP.isIo, bindT, bindTs, seqOf, MP.isInt, at0, at1, at2, startE, cntIo, frzAll, fz0, wipeE, frz, frz1, MP.vars, varsS, varsO, varsI, LIM, kk, cut_from, iL]
theorem y32c {cl : Cl} (s d m i o : PyData) (k : Nat) (f : Nat → PyData) (L : Nat) (X : PyData) (hi : i = .int (k : Int)) (iL : immL (tb L f) = true) (kk : cl 15 [some (.list (tb (min (k + 1) L) f))] P = some (X, P)) :
    ev cl (.call 15 (.cons (.sl (.var 3) .none (.some (.bin .add (.var 5) (.con (.int 1))))) .nil)) [some (Kd.ro, s), some (Kd.ro, d), some (Kd.ro, m), some (Kd.fz, .list (tb L f)), some (Kd.ro, o), some (Kd.ro, i)] P = some (X, P) := by
  subst hi
  have hc : ∀ g : Nat → PyData, cutD (tb L g) none (some ((k : Int) + 1)) = tb (min (k + 1) L) g := fun g => cut_to (k := k + 1)
  simp [e_con, e_var, e_bin, e_neg, e_cmp, e_chain, e_and, e_or, e_not, e_ite, e_call, e_blt, e_isi, e_lrng, e_trng, e_tup, e_lst, e_sl, e_rev, e_every, e_ixV, e_ixC, e_ixI, e_ixL, evs_nil, evs_cons, evs_star, evs_io, evO_none, evO_some, evP_none, evP_some, evI_seq, evI_enum, evI_zip, rss_nil, rss_cons, rs_asg, rs_unp, rs_par, rs_ifs, rs_expr, rs_ret, rs_brk, rs_app, rs_while, getV, setV, isiD, copD, bx_add, bx_sub, bx_mul, bx_fdiv, bx_mod, b_lenL, b_lenT, b_abs, b_min2, b_max2, b_int, b_intB, b_listL, b_listT, b_tupL, b_tupT, b_all, b_any, b_sumL, b_sumT, unO, tb_len, MP.frs, itemsImm, imm, immL, asgD, MP.isIo, bindT, bindTs, seqOf, MP.isInt, at0, at1, at2, startE, cntIo, frzAll, fz0, wipeE, frz, frz1, MP.vars, varsS, varsO, varsI, LIM, kk, hc, iL]
/-- the head up to e -/
def hd (s d m e : Nat) : Nat := su (dr s d m) (e + 1)
theorem s32 (h : 32 < n) (s d m : Nat) (h1 : 1 ≤ s) (h2 : s ≤ 200) (h3 : 1 ≤ d) (h4 : d ≤ s) (h5 : d ≤ 60) (hm : m ≤ s) :
    F n 32 [some (.int (s : Nat)), some (.int (d : Nat)), some (.int (m : Nat))] P = some (.tuple [.tuple (tb (d + 1) fun e => fr (tl s d m e : Nat) (ch s d : Nat)), .tuple (tb (d + 1) fun e => fr (hd s d m e : Nat) (ch s d : Nat))], P) := by
  have hc : 0 < ch s d := ch_pos h4
  have kW : sm 1001 (ch s d : Nat) := sm_ch (by omega)
  have iX : ∀ N (f : Nat → Nat), immL (tb N fun i => fr (f i : Nat) (ch s d : Nat)) = true := fun N f => immL_tb fun _ _ => rfl
  have e1 : ev (F 32) e32_2 [some (Kd.ro, .int (s : Nat)), some (Kd.ro, .int (d : Nat)), some (Kd.ro, .int (m : Nat)), none, none, none] P = some (.list (tb (d + 1) fun i => fr (dr s d m i : Nat) (ch s d : Nat)), P) := by
    refine e_lcT rfl (f := fun i => .int (i : Nat)) (evI_r1 (m := d + 1) rfl (by omega)) (by omega) fun i hi => ⟨_, rfl, rfl, ?_, rfl⟩
    have := s24 (n := 32) (P := P) (by omega) s d m 1 (fun _ => i) h2 h4 hm (by omega) (fun _ _ => by omega)
    rw [rg_one] at this
    exact y32a _ _ _ _ _ this
  have e2 : ev (F 32) e32_1 [some (Kd.ro, .int (s : Nat)), some (Kd.ro, .int (d : Nat)), some (Kd.ro, .int (m : Nat)), some (Kd.own, .list (tb (d + 1) fun i => fr (dr s d m i : Nat) (ch s d : Nat))), none, none] P = some (.list (tb (d + 1) fun e => fr (tl s d m e : Nat) (ch s d : Nat)), P) := by
    refine e_lcT rfl (f := fun i => .int (i : Nat)) (evI_r1 (m := d + 1) rfl (by omega)) (by omega) fun e he => ⟨_, rfl, rfl, ?_, rfl⟩
    refine y32b _ _ _ _ e _ _ _ rfl (iX _ _) ?_
    have hs : sz (fun j => ((dr s d m (e + j) : Nat) : Int)) (d + 1 - e) = (tl s d m e : Nat) := sz_nat (fun j => dr s d m (e + j)) (d + 1 - e)
    have hl : tl s d m e ≤ ch s d := by have := hd_tl (s := s) (d := d) (m := m) (e := e) hm (by omega); omega
    have := s15 (n := 32) (P := P) (k := 1001) (by omega) (d + 1 - e) (fun j => (dr s d m (e + j) : Nat)) (ch s d : Nat) (by omega) kW (fun _ _ => by omega) (by rw [hs]; exact kW.of_le (by omega)) (by omega) (by omega)
    rw [hs] at this
    exact this
  have e3 : ev (F 32) e32_0 [some (Kd.ro, .int (s : Nat)), some (Kd.ro, .int (d : Nat)), some (Kd.ro, .int (m : Nat)), some (Kd.own, .list (tb (d + 1) fun i => fr (dr s d m i : Nat) (ch s d : Nat))), some (Kd.ro, .tuple (tb (d + 1) fun e => fr (tl s d m e : Nat) (ch s d : Nat))), none] P = some (.list (tb (d + 1) fun e => fr (hd s d m e : Nat) (ch s d : Nat)), P) := by
    refine e_lcT rfl (f := fun i => .int (i : Nat)) (evI_r1 (m := d + 1) rfl (by omega)) (by omega) fun e he => ⟨_, rfl, rfl, ?_, rfl⟩
    refine y32c _ _ _ _ _ e _ _ _ rfl (iX _ _) ?_
    have hs : sz (fun j => ((dr s d m j : Nat) : Int)) (e + 1) = (hd s d m e : Nat) := sz_nat (dr s d m) (e + 1)
    have hl : hd s d m e ≤ ch s d := by
      show su (dr s d m) (e + 1) ≤ _
      have h6 := su_split (dr s d m) (e + 1) (d - e)
      rw [show e + 1 + (d - e) = d + 1 from by omega, dr_sum hm] at h6
      omega
    have := s15 (n := 32) (P := P) (k := 1001) (by omega) (e + 1) (fun j => (dr s d m j : Nat)) (ch s d : Nat) (by omega) kW (fun _ _ => by omega) (by rw [hs]; exact kW.of_le (by omega)) (by omega) (by omega)
    rw [hs] at this
    rw [show min (e + 1) (d + 1) = e + 1 from by omega]
    exact this
  exact F_ret h (d := d32) rfl rfl (by decide) rfl (y32 (cl := F 32) (P := P) _ _ _ _ _ _ (iX _ _) (iX _ _) (iX _ _) (s19 (by omega) s d h1 h2 h3 h4 h5) (s20 (by omega) s m hm) e1 e2 e3)
end K06
set_option Elab.async false
set_option linter.all false
set_option maxRecDepth 100000
/-! k06: held ones. -/
namespace K06
open PySem MP
variable {n : Nat} {P : PyData}
theorem y33a {cl : Cl} (s d e u v m w : Int) (L R1 R2 : List PyData) (X Y : PyData) (b1 b2 : Bool) (o7 o8 : Option (Kd × PyData)) (ho : (o7 = none ∧ o8 = none) ∨ ∃ x y, o7 = some (Kd.ro, x) ∧ o8 = some (Kd.ro, y)) (l1 : R1.length ≤ 1000000) (l2 : R2.length ≤ 1000000) (iX : imm X = true) (iY : imm Y = true) (iL : immL L = true) (i1 : immL R1 = true) (i2 : immL R2 = true) (hl : L.length < 1000000)
    (r1 : evI cl (.rng2 (.var 2) (.bin .add (.var 1) (.con (.int 1)))) [some (Kd.ro, .int s), some (Kd.ro, .int d), some (Kd.ro, .int e), some (Kd.ro, .tuple [.int u, .int v]), some (Kd.ro, .int m), some (Kd.ro, .tuple [.int u, .int w]), some (Kd.own, .list L), o7, o8] P = some (R1, P))
    (r2 : evI cl (.rng1 (.bin .add (.var 2) (.con (.int 1)))) [some (Kd.ro, .int s), some (Kd.ro, .int d), some (Kd.ro, .int e), some (Kd.ro, .tuple [.int u, .int v]), some (Kd.ro, .int m), some (Kd.ro, .tuple [.int u, .int w]), some (Kd.own, .list L), some (Kd.ro, X), o8] P = some (R2, P))
    (k1 : cl 24 [some (.int s), some (.int d), some (.tuple R1), some (.int m)] P = some (X, P))
    (k2 : cl 24 [some (.int s), some (.int d), some (.tuple R2), some (.int m)] P = some (Y, P))
    (k3 : cl 14 [some X, some (.tuple [.int u, .int w])] P = some (.bool b1, P)) (k4 : cl 14 [some Y, some (.tuple [.int u, .int w])] P = some (.bool b2, P)) :
    rss cl false e33_0 [some (Kd.ro, .int s), some (Kd.ro, .int d), some (Kd.ro, .int e), some (Kd.ro, .tuple [.int u, .int v]), some (Kd.ro, .int m), some (Kd.ro, .tuple [.int u, .int w]), some (Kd.own, .list L), o7, o8] P = some (.nx [some (Kd.ro, .int s), some (Kd.ro, .int d), some (Kd.ro, .int e), some (Kd.ro, .tuple [.int u, .int v]), some (Kd.ro, .int m), some (Kd.ro, .tuple [.int u, .int w]), some (Kd.own, .list (if !b1 && !b2 then L ++ [.int m] else L)), some (Kd.ro, X), some (Kd.ro, Y)] P) := by
  rcases ho with ⟨h7, h8⟩ | ⟨x, y, h7, h8⟩ <;> subst h7 <;> subst h8 <;> cases b1 <;> cases b2 <;> simp [e_con, e_var, e_bin, e_neg, e_cmp, e_chain, e_and, e_or, e_not, e_ite, e_call, e_blt, e_isi, e_lrng, e_trng, e_tup, e_lst, e_sl, e_rev, e_every, e_ixV, e_ixC, e_ixI, e_ixL, evs_nil, evs_cons, evs_star, evs_io, evO_none, evO_some, evP_none, evP_some, evI_seq, evI_enum, evI_zip, rss_nil, rss_cons, rs_asg, rs_unp, rs_par, rs_ifs, rs_expr, rs_ret, rs_brk, rs_app, rs_while, getV, setV, isiD, copD, bx_add, bx_sub, bx_mul, bx_fdiv, bx_mod, b_lenL, b_lenT, b_abs, b_min2, b_max2, b_int, b_intB, b_listL, b_listT, b_tupL, b_tupT, b_all, b_any, b_sumL, b_sumT, unO, tb_len, MP.frs, itemsImm, imm, immL, asgD, MP.isIo, bindT, bindTs, seqOf, MP.isInt, at0, at1, at2, startE, cntIo, frzAll, fz0, wipeE, frz, frz1, MP.vars, varsS, varsO, varsI, LIM, e33_0, r1, r2, k1, k2, k3, k4, iX, iY, i1, i2, iL, hl, l1, l2]
theorem y33 {cl : Cl} (s d e u v w : Int) (L : List PyData) (o4 o7 o8 : Option (Kd × PyData)) (iL : immL L = true) (hw : v * 2 = w) (hs : smallI v 2 = true) (k1 : cl 19 [some (.int s), some (.int d)] P = some (.none, P)) (k2 : cl 2 [some (.int e), some (.int 0), some (.int d)] P = some (.bool true, P)) (k3 : cl 11 [some (.tuple [.int u, .int v])] P = some (.none, P))
    (wk : rs cl false e33_1 [some (Kd.ro, .int s), some (Kd.ro, .int d), some (Kd.ro, .int e), some (Kd.ro, .tuple [.int u, .int v]), none, some (Kd.ro, .tuple [.int u, .int w]), some (Kd.own, .list []), none, none] P = some (.nx [some (Kd.ro, .int s), some (Kd.ro, .int d), some (Kd.ro, .int e), some (Kd.ro, .tuple [.int u, .int v]), o4, some (Kd.ro, .tuple [.int u, .int w]), some (Kd.own, .list L), o7, o8] P)) :
    rss cl false b33 [some (Kd.ro, .int s), some (Kd.ro, .int d), some (Kd.ro, .int e), some (Kd.ro, .tuple [.int u, .int v]), none, none, none, none, none] P = some (.rt (.tuple L) P) := by
  subst hw
  simp [e_con, e_var, e_bin, e_neg, e_cmp, e_chain, e_and, e_or, e_not, e_ite, e_call, e_blt, e_isi, e_lrng, e_trng, e_tup, e_lst, e_sl, e_rev, e_every, e_ixV, e_ixC, e_ixI, e_ixL, evs_nil, evs_cons, evs_star, evs_io, evO_none, evO_some, evP_none, evP_some, evI_seq, evI_enum, evI_zip, rss_nil, rss_cons, rs_asg, rs_unp, rs_par, rs_ifs, rs_expr, rs_ret, rs_brk, rs_app, rs_while, getV, setV, isiD, copD, bx_add, bx_sub, bx_mul, bx_fdiv, bx_mod, b_lenL, b_lenT, b_abs, b_min2, b_max2, b_int, b_intB, b_listL, b_listT, b_tupL, b_tupT, b_all, b_any, b_sumL, b_sumT, unO, tb_len, MP.frs, itemsImm, imm, immL, asgD, MP.isIo, bindT, bindTs, seqOf, MP.isInt, at0, at1, at2, startE, cntIo, frzAll, fz0, wipeE, frz, frz1, MP.vars, varsS, varsO, varsI, LIM, b33, k1, k2, k3, wk, iL, hs, c_PAIR_urns]
/-- held places -/
def heldB (s d e u w m : Nat) : Bool := !decide (tl s d m e * w < u * ch s d) && !decide (hd s d m e * w < u * ch s d)
def heldL (s d e u w : Nat) : Nat → List PyData
  | 0 => []
  | m + 1 => if heldB s d e u w m then heldL s d e u w m ++ [.int (m : Nat)] else heldL s d e u w m
theorem heldL_len (s d e u w : Nat) : ∀ m, (heldL s d e u w m).length ≤ m
  | 0 => Nat.le_refl _
  | m + 1 => by
    have := heldL_len s d e u w m
    unfold heldL
    split
    · rw [List.length_append]
      simp
      omega
    · omega
theorem heldL_imm (s d e u w : Nat) : ∀ m, immL (heldL s d e u w m) = true
  | 0 => rfl
  | m + 1 => by
    have ih := heldL_imm s d e u w m
    unfold heldL
    split
    · exact immL_append ih rfl
    · exact ih
theorem hd_le {s d m e : Nat} (hm : m ≤ s) (he : e ≤ d) : hd s d m e ≤ ch s d := by
  show su (dr s d m) (e + 1) ≤ _
  have h6 := su_split (dr s d m) (e + 1) (d - e)
  rw [show e + 1 + (d - e) = d + 1 from by omega, dr_sum hm] at h6
  omega
theorem tl_ch {s d m e : Nat} (hm : m ≤ s) (he : e ≤ d) : tl s d m e ≤ ch s d := by
  have := hd_tl (s := s) (d := d) (m := m) (e := e) hm he
  omega
theorem lt_cast (a b c d : Nat) : (a : Int) * (b : Int) < (c : Int) * (d : Int) ↔ a * b < c * d := by
  rw [← Int.natCast_mul, ← Int.natCast_mul]
  exact Int.ofNat_lt
theorem s33 (h : 33 < n) (s d e u v : Nat) (h1 : 1 ≤ s) (h2 : s ≤ 200) (h3 : 1 ≤ d) (h4 : d ≤ s) (h5 : d ≤ 60) (he : e ≤ d) (hv0 : 0 < v) (hv : v ≤ 10) (hu : u ≤ v) (c1 : Int.gcd (u : Int) (v : Int) = 1) (c2 : Int.gcd (u : Int) ((v * 2 : Nat) : Int) = 1) :
    F n 33 [some (.int (s : Nat)), some (.int (d : Nat)), some (.int (e : Nat)), some (.tuple [.int (u : Nat), .int (v : Nat)])] P = some (.tuple (heldL s d e u (v * 2) (s + 1)), P) := by
  have hc : 0 < ch s d := ch_pos h4
  have kW : sm 1001 (ch s d : Nat) := sm_ch (by omega)
  have ku : sm 1001 (u : Nat) := sm_lit (j := 4) (by omega) (by omega)
  have kv : sm 1001 (v : Nat) := sm_lit (j := 4) (by omega) (by omega)
  have kw : sm 1001 (v * 2 : Nat) := sm_lit (j := 5) (by omega) (by omega)
  have k11 := s11 (n := 33) (P := P) (by omega) (a := (u : Nat)) (b := (v : Nat)) (k := 1001) (by omega) ku kv (by omega) (by omega) (by omega)
  rw [fr_self c1] at k11
  refine F_ret h (d := d33) rfl rfl (by decide) rfl (y33 (cl := F 33) (P := P) (s : Nat) (d : Nat) (e : Nat) (u : Nat) (v : Nat) ((v * 2 : Nat) : Int) (heldL s d e u (v * 2) (s + 1)) (atx (s + 1) fun i => .int (i : Nat)) (atx (s + 1) fun m => fr (tl s d m e : Nat) (ch s d : Nat)) (atx (s + 1) fun m => fr (hd s d m e : Nat) (ch s d : Nat)) (heldL_imm _ _ _ _ _ _) (by omega) (sm.small (k := 10) (l := 10) (sm_lit (j := 4) (by omega) (by omega)) (sm_lit (j := 4) (by omega) (by omega)) (by omega)) (s19 (by omega) s d h1 h2 h3 h4 h5) (s2 (by omega) _ _ _ (by omega) (by omega)) k11 ?_)
  show rs (F 33) false (.for (.nm 4) (.rng1 (.bin .add (.var 0) (.con (.int 1)))) e33_0) _ P = _
  rw [rs_for (evI_r1 (m := s + 1) (P1 := P) rfl (by omega))]
  refine for_run (fun i => [some (Kd.ro, .int (s : Nat)), some (Kd.ro, .int (d : Nat)), some (Kd.ro, .int (e : Nat)), some (Kd.ro, .tuple [.int (u : Nat), .int (v : Nat)]), atx i (fun i => .int (i : Nat)), some (Kd.ro, .tuple [.int (u : Nat), .int ((v * 2 : Nat) : Int)]), some (Kd.own, .list (heldL s d e u (v * 2) i)), atx i (fun m => fr (tl s d m e : Nat) (ch s d : Nat)), atx i (fun m => fr (hd s d m e : Nat) (ch s d : Nat))]) (fun _ => P) rfl rfl fun m hm => ⟨_, bind_nm (atx_io m (fun i => .int (i : Nat))) (show 4 < 9 from by decide), ?_⟩
  have q1 := s24 (n := 33) (P := P) (by omega) s d m (d + 1 - e) (fun i => e + i) h2 h4 (by omega) (by omega) (fun i hi => by omega)
  have q2 := s24 (n := 33) (P := P) (by omega) s d m (e + 1) (fun i => i) h2 h4 (by omega) (by omega) (fun i hi => by omega)
  have kt : sm 1001 (tl s d m e : Nat) := kW.of_le (by have := tl_ch (s := s) (d := d) (m := m) (e := e) (by omega) he; omega)
  have kh : sm 1001 (hd s d m e : Nat) := kW.of_le (by have := hd_le (s := s) (d := d) (m := m) (e := e) (by omega) he; omega)
  have q3 := s14 (n := 33) (P := P) (by omega) (a := (tl s d m e : Nat)) (b := (ch s d : Nat)) (c := (u : Nat)) (d := ((v * 2 : Nat) : Int)) (by omega) (by omega) kt kW ku kw (by omega)
  have q4 := s14 (n := 33) (P := P) (by omega) (a := (hd s d m e : Nat)) (b := (ch s d : Nat)) (c := (u : Nat)) (d := ((v * 2 : Nat) : Int)) (by omega) (by omega) kh kW ku kw (by omega)
  rw [fr_self c2] at q3 q4
  have r1 : ∀ E : MP.Env, E[1]? = some (some (Kd.ro, .int (d : Nat))) → E[2]? = some (some (Kd.ro, .int (e : Nat))) → evI (F 33) (.rng2 (.var 2) (.bin .add (.var 1) (.con (.int 1)))) E P = some (tb (d + 1 - e) fun i => .int ((e + i : Nat) : Int), P) := by
    intro E E1 E2
    rw [evI_r2 (i := (e : Int)) (j := (d : Int) + 1) (P1 := P) (P2 := P) (by simp [e_con, e_var, e_bin, e_neg, e_cmp, e_chain, e_and, e_or, e_not, e_ite, e_call, e_blt, e_isi, e_lrng, e_trng, e_tup, e_lst, e_sl, e_rev, e_every, e_ixV, e_ixC, e_ixI, e_ixL, evs_nil, evs_cons, evs_star, evs_io, evO_none, evO_some, evP_none, evP_some, evI_seq, evI_enum, evI_zip, rss_nil, rss_cons, rs_asg, rs_unp, rs_par, rs_ifs, rs_expr, rs_ret, rs_brk, rs_app, rs_while, getV, setV, isiD, copD, bopD, b_lenL, b_lenT, b_abs, b_min2, b_max2, b_int, b_intB, b_listL, b_listT, b_tupL, b_tupT, b_all, b_any, b_sumL, b_sumT, unO, tb_len, MP.frs, itemsImm, imm, immL, asgD, MP.isIo, bindT, bindTs, seqOf, MP.isInt, at0, at1, at2, startE, cntIo, frzAll, fz0, wipeE, frz, frz1, MP.vars, varsS, varsO, varsI, LIM, E2]) (by simp [e_con, e_var, e_bin, e_neg, e_cmp, e_chain, e_and, e_or, e_not, e_ite, e_call, e_blt, e_isi, e_lrng, e_trng, e_tup, e_lst, e_sl, e_rev, e_every, e_ixV, e_ixC, e_ixI, e_ixL, evs_nil, evs_cons, evs_star, evs_io, evO_none, evO_some, evP_none, evP_some, evI_seq, evI_enum, evI_zip, rss_nil, rss_cons, rs_asg, rs_unp, rs_par, rs_ifs, rs_expr, rs_ret, rs_brk, rs_app, rs_while, getV, setV, isiD, copD, bopD, b_lenL, b_lenT, b_abs, b_min2, b_max2, b_int, b_intB, b_listL, b_listT, b_tupL, b_tupT, b_all, b_any, b_sumL, b_sumT, unO, tb_len, MP.frs, itemsImm, imm, immL, asgD, MP.isIo, bindT, bindTs, seqOf, MP.isInt, at0, at1, at2, startE, cntIo, frzAll, fz0, wipeE, frz, frz1, MP.vars, varsS, varsO, varsI, LIM, E1]) (by omega) (by omega)]
    rw [show ((d : Int) + 1 - (e : Int)).toNat = d + 1 - e from by omega]
    exact congrArg (fun l => some (l, P)) (tb_congr fun i _ => congrArg PyData.int (by omega))
  have w := y33a (cl := F 33) (P := P) (s : Nat) (d : Nat) (e : Nat) (u : Nat) (v : Nat) (m : Nat) ((v * 2 : Nat) : Int) (heldL s d e u (v * 2) m) _ _ _ _ _ _ (atx m (fun m => fr (tl s d m e : Nat) (ch s d : Nat))) (atx m (fun m => fr (hd s d m e : Nat) (ch s d : Nat))) (by
      by_cases z : m = 0
      · subst z
        exact .inl ⟨rfl, rfl⟩
      · unfold atx
        rw [if_neg z, if_neg z]
        exact .inr ⟨_, _, rfl, rfl⟩) (by rw [tb_len]; omega) (by rw [tb_len]; omega) rfl rfl (heldL_imm _ _ _ _ _ _) (immL_tb fun _ _ => rfl) (immL_tb fun _ _ => rfl) (by have := heldL_len s d e u (v * 2) m; omega) (r1 _ rfl rfl) (evI_r1 (m := e + 1) (P1 := P) rfl (by omega)) q1 q2 q3 q4
  rw [atx_succ, atx_succ, atx_succ]
  have eb : (!decide (((tl s d m e : Nat) : Int) * ((v * 2 : Nat) : Int) < (u : Nat) * (ch s d : Nat)) && !decide (((hd s d m e : Nat) : Int) * ((v * 2 : Nat) : Int) < (u : Nat) * (ch s d : Nat))) = heldB s d e u (v * 2) m := by
    unfold heldB
    rw [decide_eq_decide.mpr (lt_cast (tl s d m e) (v * 2) u (ch s d)), decide_eq_decide.mpr (lt_cast (hd s d m e) (v * 2) u (ch s d))]
  rw [eb] at w
  have eh : heldL s d e u (v * 2) (m + 1) = if heldB s d e u (v * 2) m then heldL s d e u (v * 2) m ++ [.int (m : Nat)] else heldL s d e u (v * 2) m := rfl
  rw [eh]
  exact w
end K06
set_option Elab.async false
set_option linter.all false
set_option maxRecDepth 100000
/-! k06: borders. -/
namespace K06
open PySem MP
variable {n : Nat} {P : PyData}
theorem insI_front {a : Int} : ∀ {l : List Int}, (∀ b ∈ l, a ≤ b) → insI a l = a :: l
  | [], _ => rfl
  | b :: r, h => by
    unfold insI
    rw [if_pos (h b (List.mem_cons_self ..))]
theorem insI_end {a : Int} : ∀ {l : List Int}, (∀ b ∈ l, b ≤ a) → l.Pairwise (· ≤ ·) → insI a l = l ++ [a]
  | [], _, _ => rfl
  | b :: r, h, hs => by
    have ih := insI_end (a := a) (l := r) (fun c hc => h c (List.mem_cons_of_mem _ hc)) (List.pairwise_cons.mp hs).2
    unfold insI
    by_cases c : a ≤ b
    · rw [if_pos c]
      have e : b = a := Int.le_antisymm (h b (List.mem_cons_self ..)) c
      subst e
      rw [insI_front (List.pairwise_cons.mp hs).1] at ih
      exact congrArg (List.cons b) ih
    · rw [if_neg c, ih]
      rfl
theorem sortI_asc : ∀ {l : List Int}, l.Pairwise (· ≤ ·) → sortI l = l
  | [], _ => rfl
  | b :: r, h => by
    have h2 := List.pairwise_cons.mp h
    show insI b (sortI r) = _
    rw [sortI_asc h2.2, insI_front h2.1]
theorem sortI_desc : ∀ {l : List Int}, l.Pairwise (· ≥ ·) → sortI l = l.reverse
  | [], _ => rfl
  | b :: r, h => by
    have h2 := List.pairwise_cons.mp h
    show insI b (sortI r) = _
    rw [sortI_desc h2.2, List.reverse_cons]
    refine insI_end (fun c hc => h2.1 c (List.mem_reverse.mp hc)) ?_
    exact List.pairwise_reverse.mpr h2.2
theorem pw_tb {R : Int → Int → Prop} {m : Nat} {f : Nat → Int} (h : ∀ i j, i < j → j < m → R (f i) (f j)) : (tb m f).Pairwise R := by
  unfold tb
  rw [List.pairwise_map]
  refine List.Pairwise.imp_of_mem ?_ List.pairwise_lt_range
  intro a b ha hb hab
  exact h a b hab (List.mem_range.mp hb)
theorem b_sort {m : Nat} {f : Nat → Int} : bltD .sorted [.list (tb m fun i => .int (f i))] = some (.list ((sortI (tb m f)).map PyData.int)) := by
  show (intsOf _).map _ = _
  rw [intsOf_tb]
  rfl
theorem for_or {bind : PyData → MP.Env → Option MP.Env} {body : MP.Env → PyData → Option Rs} (S : Nat → MP.Env) (G : MP.Env → Prop) : ∀ {m : Nat} {f : Nat → PyData} {o : Nat},
    (∀ i, i < m → ∃ E1, bind (f i) (S (o + i)) = some E1 ∧ (body E1 P = some (.nx (S (o + i + 1)) P) ∨ ∃ E', body E1 P = some (.bk E' P) ∧ G E')) → G (S (o + m)) → ∃ E, forL bind body (tb m f) (S o) P = some (.nx E P) ∧ G E
  | 0, f, o, _, g => ⟨_, rfl, g⟩
  | m + 1, f, o, h, g => by
    obtain ⟨E1, h1, h2⟩ := h 0 (by omega)
    rw [Nat.add_zero] at h1 h2
    rw [tb_succ]
    unfold forL
    rw [h1]
    dsimp only
    rcases h2 with h2 | ⟨E', h2, g2⟩
    · rw [h2]
      dsimp only
      refine for_or S G (o := o + 1) ?_ (by rw [show o + 1 + m = o + (m + 1) from by omega]; exact g)
      intro i hi
      obtain ⟨E1, h1, h2⟩ := h (i + 1) (by omega)
      rw [show o + 1 + i = o + (i + 1) from by omega]
      exact ⟨E1, h1, h2⟩
    · rw [h2]
      exact ⟨E', rfl, g2⟩
theorem y30a {cl : Cl} (s d lot sh side mk od sn X Y Z : PyData) (L : List PyData) (b : Bool) (iS : imm sn = true) (iZ : imm Z = true) (iL : immL L = true) (hl : L.length < 1000000)
    (k1 : cl 24 [some s, some d, some (.tuple [sn]), some mk] P = some (Y, P)) (k2 : cl 13 [some X, some Y] P = some (Z, P)) (k3 : cl 14 [some sh, some Z] P = some (.bool b, P)) :
    rss cl false e30_0 [some (Kd.ro, s), some (Kd.ro, d), some (Kd.ro, lot), some (Kd.ro, sh), some (Kd.ro, side), some (Kd.ro, mk), some (Kd.fz, od), some (Kd.ro, sn), some (Kd.ro, X), some (Kd.own, .list L)] P =
      some ((if b then Rs.bk [some (Kd.ro, s), some (Kd.ro, d), some (Kd.ro, lot), some (Kd.ro, sh), some (Kd.ro, side), some (Kd.ro, mk), some (Kd.fz, od), some (Kd.ro, sn), some (Kd.ro, Z), some (Kd.own, .list L)] else Rs.nx [some (Kd.ro, s), some (Kd.ro, d), some (Kd.ro, lot), some (Kd.ro, sh), some (Kd.ro, side), some (Kd.ro, mk), some (Kd.fz, od), some (Kd.ro, sn), some (Kd.ro, Z), some (Kd.own, .list (L ++ [sn]))]) P) := by
  cases b <;> simp [e_con, e_var, e_bin, e_neg, e_cmp, e_chain, e_and, e_or, e_not, e_ite, e_call, e_blt, e_isi, e_lrng, e_trng, e_tup, e_lst, e_sl, e_rev, e_every, e_ixV, e_ixC, e_ixI, e_ixL, evs_nil, evs_cons, evs_star, evs_io, evO_none, evO_some, evP_none, evP_some, evI_seq, evI_enum, evI_zip, rss_nil, rss_cons, rs_asg, rs_unp, rs_par, rs_ifs, rs_expr, rs_ret, rs_brk, rs_app, rs_while, getV, setV, isiD, copD, bx_add, bx_sub, bx_mul, bx_fdiv, bx_mod, b_lenL, b_lenT, b_abs, b_min2, b_max2, b_int, b_intB, b_listL, b_listT, b_tupL, b_tupT, b_all, b_any, b_sumL, b_sumT, unO, tb_len, MP.frs, itemsImm, imm, immL, asgD, MP.isIo, bindT, bindTs, seqOf, MP.isInt, at0, at1, at2, startE, cntIo, frzAll, fz0, wipeE, frz, frz1, MP.vars, varsS, varsO, varsI, LIM, e30_0, k1, k2, k3, iS, iZ, iL, hl]
end K06
set_option Elab.async false
set_option linter.all false
set_option maxRecDepth 100000
/-! k06: borders. -/
namespace K06
open PySem MP
variable {n : Nat} {P : PyData}
theorem tl_first {s d m e : Nat} (he : e ≤ d) : tl s d m e = dr s d m e + tl s d m (e + 1) := by
  unfold tl
  rw [show d + 1 - e = (d + 1 - (e + 1)) + 1 from by omega, su_first]
  congr 1
  exact su_congr fun k _ => by rw [show e + (k + 1) = e + 1 + k from by omega]
theorem tl_end (s d m : Nat) : tl s d m (d + 1) = 0 := by
  unfold tl
  rw [Nat.sub_self]
  rfl
theorem tl_anti {s d m : Nat} : ∀ {k e : Nat}, e + k ≤ d + 1 → tl s d m (e + k) ≤ tl s d m e
  | 0, e, _ => Nat.le_refl _
  | k + 1, e, h => by
    have := tl_anti (s := s) (d := d) (m := m) (k := k) (e := e + 1) (by omega)
    rw [show e + 1 + k = e + (k + 1) from by omega] at this
    have h2 := tl_first (s := s) (d := d) (m := m) (e := e) (by omega)
    omega
theorem y30 {cl : Cl} (s d a b : Int) (sh X : PyData) (od L M : List PyData) (o7 : Option (Kd × PyData)) (iM : immL M = true) (io : immL od = true) (ho : evI cl (.rng3 (.var 1) (.neg (.con (.int 1))) (.neg (.con (.int 1)))) [some (Kd.ro, .int s), some (Kd.ro, .int d), some (Kd.ro, .tuple [.int a, .int b]), some (Kd.ro, sh), some (Kd.ro, .str "up"), some (Kd.ro, .int b), none, none, none, none] P = some (od, P)) (hl : od.length ≤ 1000000)
    (w : rs cl false e30_1 [some (Kd.ro, .int s), some (Kd.ro, .int d), some (Kd.ro, .tuple [.int a, .int b]), some (Kd.ro, sh), some (Kd.ro, .str "up"), some (Kd.ro, .int b), some (Kd.own, .list od), none, some (Kd.ro, .tuple [.int 0, .int 1]), some (Kd.own, .list [])] P = some (.nx [some (Kd.ro, .int s), some (Kd.ro, .int d), some (Kd.ro, .tuple [.int a, .int b]), some (Kd.ro, sh), some (Kd.ro, .str "up"), some (Kd.ro, .int b), some (Kd.fz, .list od), o7, some (Kd.ro, X), some (Kd.own, .list L)] P))
    (hb : bltD .sorted [.list L] = some (.list M)) :
    rss cl false b30 [some (Kd.ro, .int s), some (Kd.ro, .int d), some (Kd.ro, .tuple [.int a, .int b]), some (Kd.ro, sh), some (Kd.ro, .str "up"), none, none, none, none, none] P = some (.rt (.tuple M) P) := by
  have e1 : shp 6 (PyData.str "up") = true := by decide +kernel
  have e2 : PyData.eqv (.str "up") (.str "up") = true := by decide +kernel
  simp [e_con, e_var, e_bin, e_neg, e_cmp, e_chain, e_and, e_or, e_not, e_ite, e_call, e_blt, e_isi, e_lrng, e_trng, e_tup, e_lst, e_sl, e_rev, e_every, e_ixV, e_ixC, e_ixI, e_ixL, evs_nil, evs_cons, evs_star, evs_io, evO_none, evO_some, evP_none, evP_some, evI_seq, evI_enum, evI_zip, rss_nil, rss_cons, rs_asg, rs_unp, rs_par, rs_ifs, rs_expr, rs_ret, rs_brk, rs_app, rs_while, getV, setV, isiD, copD, bx_add, bx_sub, bx_mul, bx_fdiv, bx_mod, b_lenL, b_lenT, b_abs, b_min2, b_max2, b_int, b_intB, b_listL, b_listT, b_tupL, b_tupT, b_all, b_any, b_sumL, b_sumT, unO, tb_len, MP.frs, itemsImm, imm, immL, asgD, MP.isIo, bindT, bindTs, seqOf, MP.isInt, at0, at1, at2, startE, cntIo, frzAll, fz0, wipeE, frz, frz1, MP.vars, varsS, varsO, varsI, LIM, b30, e1, e2, io, ho, hl, w, hb, iM, c_UP, c_NOUGHT]
/-- the border's region: the last j outcomes -/
def topR (d j : Nat) : List PyData := tb j fun i => .int ((d + 1 - j + i : Nat) : Int)
theorem sort_top {d j : Nat} (hj : j ≤ d + 1) : bltD .sorted [.list (tb j fun i => .int ((d : Int) - (i : Nat)))] = some (.list (topR d j)) := by
  rw [b_sort, sortI_desc (pw_tb fun a b h1 h2 => by show (d : Int) - (a : Nat) ≥ (d : Int) - (b : Nat); omega), tb_reverse, tb_map]
  refine congrArg (fun l => some (PyData.list l)) (tb_congr fun i hi => congrArg PyData.int ?_)
  omega
theorem s30 (h : 30 < n) (s d a b e : Nat) (h2 : s ≤ 200) (h4 : d ≤ s) (hb : b ≤ s) (he : e ≤ d) :
    ∃ j, d + 1 - e ≤ j ∧ j ≤ d + 1 ∧ F n 30 [some (.int (s : Nat)), some (.int (d : Nat)), some (.tuple [.int (a : Nat), .int (b : Nat)]), some (fr (tl s d b e : Nat) (ch s d : Nat)), some (.str "up")] P = some (.tuple (topR d j), P) := by
  have hc : 0 < ch s d := ch_pos h4
  have kW : sm 1001 (ch s d : Nat) := sm_ch (by omega)
  have kt : ∀ k, k ≤ d + 1 → sm 1001 (tl s d b k : Nat) := fun k hk => kW.of_le (by
    by_cases z : k ≤ d
    · have := tl_ch (s := s) (d := d) (m := b) (e := k) hb z
      omega
    · rw [show k = d + 1 from by omega, tl_end]
      omega)
  let od : List PyData := tb (d + 1) fun t => .int ((d : Int) - (t : Nat))
  let S : Nat → MP.Env := fun i => [some (Kd.ro, .int (s : Nat)), some (Kd.ro, .int (d : Nat)), some (Kd.ro, .tuple [.int (a : Nat), .int (b : Nat)]), some (Kd.ro, fr (tl s d b e : Nat) (ch s d : Nat)), some (Kd.ro, .str "up"), some (Kd.ro, .int (b : Nat)), some (Kd.fz, .list od), atx i (fun t => .int ((d : Int) - (t : Nat))), some (Kd.ro, fr (tl s d b (d + 1 - i) : Nat) (ch s d : Nat)), some (Kd.own, .list (tb i fun t => .int ((d : Int) - (t : Nat))))]
  let G : MP.Env → Prop := fun E => ∃ j o7 X, d + 1 - e ≤ j ∧ j ≤ d + 1 ∧ E = [some (Kd.ro, .int (s : Nat)), some (Kd.ro, .int (d : Nat)), some (Kd.ro, .tuple [.int (a : Nat), .int (b : Nat)]), some (Kd.ro, fr (tl s d b e : Nat) (ch s d : Nat)), some (Kd.ro, .str "up"), some (Kd.ro, .int (b : Nat)), some (Kd.fz, .list od), o7, some (Kd.ro, X), some (Kd.own, .list (tb j fun t => .int ((d : Int) - (t : Nat))))]
  have w : ∃ E, forL (bindT (.nm 7)) (rss (F 30) false e30_0) od (S 0) P = some (.nx E P) ∧ G E := by
    refine for_or (P := P) S G (o := 0) ?_ ⟨d + 1, atx (0 + (d + 1)) (fun t => .int ((d : Int) - (t : Nat))), fr (tl s d b (d + 1 - (0 + (d + 1))) : Nat) (ch s d : Nat), by omega, by omega, by show S (0 + (d + 1)) = _; rw [Nat.zero_add]⟩
    intro i hi
    rw [Nat.zero_add]
    refine ⟨_, bind_nm (atx_io i (fun t => .int ((d : Int) - (t : Nat)))) (show 7 < 10 from by decide), ?_⟩
    have e0 : ((d : Int) - (i : Nat)) = ((d - i : Nat) : Int) := by omega
    have q1 := s24 (n := 30) (P := P) (by omega) s d b 1 (fun _ => d - i) h2 h4 hb (by omega) (fun _ _ => by omega)
    rw [rg_one] at q1
    have e1 : regD 1 (fun _ => d - i) = .tuple [.int ((d : Int) - (i : Nat))] := by rw [e0]; rfl
    rw [e1] at q1
    have kd : sm 1001 (dr s d b (d - i) : Nat) := sm_dr h2 hb (by omega)
    have q2 := s13 (n := 30) (P := P) (k := 1001) (by omega) (a := (tl s d b (d + 1 - i) : Nat)) (b := (ch s d : Nat)) (c := (dr s d b (d - i) : Nat)) (d := (ch s d : Nat)) (by omega) (by omega) (kt _ (by omega)) kW kd kW (by omega)
    have e2 : fr (((tl s d b (d + 1 - i) : Nat) : Int) * (ch s d : Nat) + (dr s d b (d - i) : Nat) * (ch s d : Nat)) ((ch s d : Nat) * (ch s d : Nat)) = fr (tl s d b (d + 1 - (i + 1)) : Nat) (ch s d : Nat) := by
      refine fr_eq (Int.mul_pos (by omega) (by omega)) (by omega) ?_
      have h6 := tl_first (s := s) (d := d) (m := b) (e := d - i) (by omega)
      rw [show d - i + 1 = d + 1 - i from by omega] at h6
      rw [show d + 1 - (i + 1) = d - i from by omega, h6, Int.natCast_add, ← Int.add_mul, Int.mul_assoc, Int.add_comm]
    rw [e2] at q2
    have q3 := s14 (n := 30) (P := P) (k := 1001) (by omega) (a := (tl s d b e : Nat)) (b := (ch s d : Nat)) (c := (tl s d b (d + 1 - (i + 1)) : Nat)) (d := (ch s d : Nat)) (by omega) (by omega) (kt _ (by omega)) kW (kt _ (by omega)) kW (by omega)
    have y := y30a (cl := F 30) (P := P) (.int (s : Nat)) (.int (d : Nat)) (.tuple [.int (a : Nat), .int (b : Nat)]) (fr (tl s d b e : Nat) (ch s d : Nat)) (.str "up") (.int (b : Nat)) (.list od) (.int ((d : Int) - (i : Nat))) _ _ _ (tb i fun t => .int ((d : Int) - (t : Nat))) _ rfl rfl (immL_tb fun _ _ => rfl) (by rw [tb_len]; omega) q1 q2 q3
    by_cases c : tl s d b e * ch s d < tl s d b (d + 1 - (i + 1)) * ch s d
    · rw [decide_eq_true ((lt_cast _ _ _ _).mpr c), if_pos rfl] at y
      refine .inr ⟨_, y, i, _, _, ?_, by omega, rfl⟩
      by_cases z : i < d + 1 - e
      · have h7 := tl_anti (s := s) (d := d) (m := b) (e := e) (k := d + 1 - (i + 1) - e) (by omega)
        rw [show e + (d + 1 - (i + 1) - e) = d + 1 - (i + 1) from by omega] at h7
        have := Nat.mul_le_mul_right (ch s d) h7
        omega
      · omega
    · rw [decide_eq_false (fun z => c ((lt_cast _ _ _ _).mp z)), if_neg Bool.false_ne_true] at y
      refine .inl ?_
      show _ = some (Rs.nx [_, _, _, _, _, _, _, atx (i + 1) _, _, some (Kd.own, .list (tb (i + 1) _))] P)
      rw [atx_succ, tb_snoc]
      exact y
  obtain ⟨E, w1, j, o7, X, g1, g2, g3⟩ := w
  subst g3
  refine ⟨j, g1, g2, F_ret h (d := d30) rfl rfl (by decide) rfl (y30 (cl := F 30) (P := P) (s : Nat) (d : Nat) (a : Nat) (b : Nat) _ X od _ _ o7 (immL_tb fun _ _ => rfl) (immL_tb fun _ _ => rfl) ?_ (by rw [tb_len]; omega) ?_ (sort_top g2))⟩
  · rw [evI_r3 (i := (d : Int)) (j := -1) (P1 := P) (P2 := P) (P3 := P) rfl rfl rfl (by omega) (by omega)]
    rw [show ((d : Int) - -1).toNat = d + 1 from by omega]
  · show rs (F 30) false (.for (.nm 7) (.seq (.var 6)) e30_0) _ P = _
    have e5 : (PyData.tuple [.int 0, .int 1]) = fr (tl s d b (d + 1 - 0) : Nat) (ch s d : Nat) := by
      rw [Nat.sub_zero, tl_end]
      exact (fr_zero (by omega)).symm
    rw [e5, rs_for (ds := od) (P1 := P) rfl]
    exact w1
end K06
set_option Elab.async false
set_option linter.all false
set_option maxRecDepth 100000
/-! k06: the border with its checks. -/
namespace K06
open PySem MP
variable {n : Nat} {P : PyData}
theorem topR_imm (d j : Nat) : immL (topR d j) = true := immL_tb fun _ _ => rfl
theorem y31 {cl : Cl} (s d lot sh : PyData) (L : List PyData) (iL : immL L = true) (k1 : cl 19 [some s, some d] P = some (.none, P)) (k2 : cl 22 [some s, some lot] P = some (.none, P)) (k3 : cl 11 [some sh] P = some (.none, P)) (k4 : cl 4 [some (.str "up"), some (.tuple [.str "up", .str "down"])] P = some (.bool true, P)) (k5 : cl 30 [some s, some d, some lot, some sh, some (.str "up")] P = some (.tuple L, P)) :
    rss cl false b31 [some (Kd.ro, s), some (Kd.ro, d), some (Kd.ro, lot), some (Kd.ro, sh), some (Kd.ro, .str "up")] P = some (.rt (.tuple L) P) := by
  simp [e_con, e_var, e_bin, e_neg, e_cmp, e_chain, e_and, e_or, e_not, e_ite, e_call, e_blt, e_isi, e_lrng, e_trng, e_tup, e_lst, e_sl, e_rev, e_every, e_ixV, e_ixC, e_ixI, e_ixL, evs_nil, evs_cons, evs_star, evs_io, evO_none, evO_some, evP_none, evP_some, evI_seq, evI_enum, evI_zip, rss_nil, rss_cons, rs_asg, rs_unp, rs_par, rs_ifs, rs_expr, rs_ret, rs_brk, rs_app, rs_while, getV, setV, isiD, copD, bx_add, bx_sub, bx_mul, bx_fdiv, bx_mod, b_lenL, b_lenT, b_abs, b_min2, b_max2, b_int, b_intB, b_listL, b_listT, b_tupL, b_tupT, b_all, b_any, b_sumL, b_sumT, unO, tb_len, MP.frs, itemsImm, imm, immL, asgD, MP.isIo, bindT, bindTs, seqOf, MP.isInt, at0, at1, at2, startE, cntIo, frzAll, fz0, wipeE, frz, frz1, MP.vars, varsS, varsO, varsI, LIM, b31, k1, k2, k3, k4, k5, iL, c_UP, c_DOWN]
theorem s31 (h : 31 < n) (s d a b e : Nat) (h1 : 1 ≤ s) (h2 : s ≤ 200) (h3 : 1 ≤ d) (h4 : d ≤ s) (h5 : d ≤ 60) (hab : a ≤ b) (hb : b ≤ s) (he : e ≤ d) :
    ∃ j, d + 1 - e ≤ j ∧ j ≤ d + 1 ∧ F n 31 [some (.int (s : Nat)), some (.int (d : Nat)), some (.tuple [.int (a : Nat), .int (b : Nat)]), some (fr (tl s d b e : Nat) (ch s d : Nat)), some (.str "up")] P = some (.tuple (topR d j), P) := by
  have hc : 0 < ch s d := ch_pos h4
  have kW : sm 1001 (ch s d : Nat) := sm_ch (by omega)
  have ht := tl_ch (s := s) (d := d) (m := b) (e := e) hb he
  obtain ⟨j, g1, g2, g3⟩ := s30 (n := 31) (P := P) (by omega) s d a b e h2 h4 hb he
  exact ⟨j, g1, g2, F_ret h (d := d31) rfl rfl (by decide) rfl (y31 (cl := F 31) (P := P) _ _ _ _ _ (topR_imm d j) (s19 (by omega) s d h1 h2 h3 h4 h5) (s22 (by omega) s a b hb hab) (s11 (k := 1001) (by omega) (by omega) (kW.of_le (by omega)) kW (by omega) (by omega) (by omega)) (s4 (by omega)) g3)⟩
end K06
set_option Elab.async false
set_option linter.all false
set_option maxRecDepth 100000
/-! k06: the same values. -/
namespace K06
open PySem MP
variable {n : Nat} {P : PyData}
def okd (k : Nat) (x : PyData) : Prop := shp k x = true ∧ PyData.eqv x x = true
theorem okd_int (k : Nat) (i : Int) : okd k (.int i) := by
  cases k <;> exact ⟨rfl, by simp [PyData.eqv]⟩
theorem eqvAll_same : ∀ {l : List PyData}, (∀ x ∈ l, PyData.eqv x x = true) → PyData.eqvAll l l = true
  | [], _ => by simp [PyData.eqvAll]
  | x :: r, h => by
    have h1 := h x (List.mem_cons_self ..)
    have h2 := eqvAll_same (l := r) fun y hy => h y (List.mem_cons_of_mem _ hy)
    simp [PyData.eqvAll, h1, h2]
theorem okd_list {k : Nat} {l : List PyData} (h : ∀ x ∈ l, okd k x) : okd (k + 1) (.list l) := by
  constructor
  · show l.all (shp k) = true
    exact List.all_eq_true.mpr fun x hx => (h x hx).1
  · have := eqvAll_same (l := l) fun x hx => (h x hx).2
    simp [PyData.eqv, this]
theorem okd_tup {k : Nat} {l : List PyData} (h : ∀ x ∈ l, okd k x) : okd (k + 1) (.tuple l) := by
  constructor
  · show l.all (shp k) = true
    exact List.all_eq_true.mpr fun x hx => (h x hx).1
  · have := eqvAll_same (l := l) fun x hx => (h x hx).2
    simp [PyData.eqv, this]
theorem okd_fr (k : Nat) (a b : Int) : okd (k + 1) (fr a b) := okd_tup fun x hx => by
  rcases List.mem_cons.mp hx with h | h
  · subst h
    exact okd_int _ _
  · rw [List.mem_singleton.mp h]
    exact okd_int _ _
theorem okd_tb {k m : Nat} {f : Nat → PyData} (h : ∀ i, i < m → okd k (f i)) : ∀ x ∈ tb m f, okd k x := by
  intro x hx
  obtain ⟨i, hi, e⟩ := tb_mem.mp hx
  subst e
  exact h i hi
theorem cop_eq {x : PyData} (h : okd 6 x) : copD .eq x x = some true := by
  show (if shp 6 x && shp 6 x then some (PyData.eqv x x) else none) = _
  rw [h.1, h.2]
  rfl
theorem cop_ne {x : PyData} (h : okd 6 x) : copD .ne x x = some false := by
  show (if shp 6 x && shp 6 x then some (!PyData.eqv x x) else none) = _
  rw [h.1, h.2]
  rfl
end K06
set_option Elab.async false
set_option linter.all false
set_option maxRecDepth 100000
/-! k06: the law's two lots. -/
namespace K06
open PySem MP
variable {n : Nat} {P : PyData}
theorem y55 {cl : Cl} {P1 P2 P3 P4 P5 : PyData} (g1 g2 g3 g4 g5 a b c w l s z : Int) (W T Q : List PyData) (sh X : PyData) (R : List PyData) (o6 : Option (Kd × PyData))
    (k1 : cl 41 [none, some (.int 12)] P = some (.int g1, P1)) (k2 : cl 41 [none, some (.int 12)] P1 = some (.int g2, P2)) (ha : 1 + g1 = a) (hb : 1 + g2 = b)
    (k3 : cl 41 [none, some (.int (a + b + 1))] P2 = some (.int c, P3))
    (k4 : cl 25 [some (.int (a + b)), some (.int a), some (.int c)] P3 = some (.tuple W, P3)) (iW : immL W = true) (k5 : cl 39 [some (.int a), some (.int b), some (.int c)] P3 = some (.tuple T, P3)) (iT : immL T = true)
    (k6 : cl 51 [some (.int (a + b)), some (.int a)] P3 = some (.int w, P3)) (hl : (if b < c then c - b else 0) = l)
    (e1 : ev cl e55_2 [some (Kd.io, .none), some (Kd.ro, .int c), some (Kd.ro, .int w), some (Kd.ro, .int l), none, none, none, some (Kd.ro, .int a), some (Kd.ro, .int b), some (Kd.ro, .tuple W), some (Kd.ro, .tuple T), none, none, none] P3 = some (.list Q, P3))
    (iQ : immL Q = true) (hQ : cutD Q (some l) (some (l + T.length)) = T) (oT : okd 6 (.list T))
    (k7 : cl 41 [none, some (.int 11)] P3 = some (.int g4, P4)) (k8 : cl 45 [some (.int g4), some (.int 10)] P4 = some (sh, P4)) (ish : imm sh = true)
    (k9 : cl 41 [none, some (.int (a + 1))] P4 = some (.int z, P5))
    (wk : rs cl true e55_1 [some (Kd.io, .none), some (Kd.ro, .int c), some (Kd.ro, .int w), some (Kd.ro, .int l), some (Kd.ro, .int z), some (Kd.own, .list []), none, some (Kd.ro, .int a), some (Kd.ro, .int b), some (Kd.ro, .tuple W), some (Kd.ro, .tuple T), some (Kd.ro, .int (a + b)), some (Kd.ro, sh), none] P5 = some (.nx [some (Kd.io, .none), some (Kd.ro, .int c), some (Kd.ro, .int w), some (Kd.ro, .int l), some (Kd.ro, .int z), some (Kd.own, .list R), o6, some (Kd.ro, .int a), some (Kd.ro, .int b), some (Kd.ro, .tuple W), some (Kd.ro, .tuple T), some (Kd.ro, .int (a + b)), some (Kd.ro, sh), none] P5))
    (iR : immL R = true) (k10 : cl 50 [some (.list R)] P5 = some (X, P5)) (k11 : cl 36 [some (.int a), some (.int z), some sh] P5 = some (X, P5)) (oX : okd 6 X) :
    rss cl true b55 [some (Kd.io, .none), none, none, none, none, none, none, none, none, none, none, none, none, none] P = some (.rt (.bool true) P5) := by
  have oT1 := oT.1
  have oT2 := oT.2
  have oX1 := oX.1
  have oX2 := oX.2
  simp [e_con, e_var, e_bin, e_neg, e_cmp, e_chain, e_and, e_or, e_not, e_ite, e_call, e_blt, e_isi, e_lrng, e_trng, e_tup, e_lst, e_sl, e_rev, e_every, e_ixV, e_ixC, e_ixI, e_ixL, evs_nil, evs_cons, evs_star, evs_io, evO_none, evO_some, evP_none, evP_some, evI_seq, evI_enum, evI_zip, rss_nil, rss_cons, rs_asg, rs_unp, rs_par, rs_ifs, rs_expr, rs_ret, rs_brk, rs_app, rs_while, getV, setV, isiD, copD, bx_add, bx_sub, bx_mul, bx_fdiv, bx_mod, b_lenL, b_lenT, b_abs, b_min2, b_max2, b_int, b_intB, b_listL, b_listT, b_tupL, b_tupT, b_all, b_any, b_sumL, b_sumT, unO, tb_len, MP.frs, itemsImm, imm, immL, asgD, MP.isIo, bindT, bindTs, seqOf, MP.isInt, at0, at1, at2, startE, cntIo, frzAll, fz0, wipeE, frz, frz1, MP.vars, varsS, varsO, varsI, LIM, b55, k1, k2, ha, hb, k3, k4, iW, k5, iT, k6, hl, e1, iQ, hQ, oT1, oT2, k7, k8, ish, k9, wk, iR, k10, k11, oX1, oX2]
theorem y55a {cl : Cl} (c w l z m a b u t : Int) (R L : List PyData) (Wy Ty sh X Y Z : PyData) (o6 : Option (Kd × PyData)) (iL : immL L = true) (iR : immL R = true) (hR : R.length < 1000000) (iZ : imm Z = true)
    (k1 : cl 36 [some (.int (a + b)), some (.int m), some sh] P = some (X, P)) (k2 : cl 25 [some (.int (a + b)), some (.int a), some (.int m)] P = some (.tuple L, P)) (hx : L2.atI L z = some (.int t)) (k3 : cl 51 [some (.int (a + b)), some (.int a)] P = some (.int u, P)) (k4 : cl 45 [some (.int t), some (.int u)] P = some (Y, P)) (k5 : cl 48 [some X, some Y] P = some (Z, P)) :
    rss cl true e55_0 [some (Kd.io, .none), some (Kd.ro, .int c), some (Kd.ro, .int w), some (Kd.ro, .int l), some (Kd.ro, .int z), some (Kd.own, .list R), some (Kd.ro, .int m), some (Kd.ro, .int a), some (Kd.ro, .int b), some (Kd.ro, Wy), some (Kd.ro, Ty), some (Kd.ro, .int (a + b)), some (Kd.ro, sh), none] P =
      some (.nx [some (Kd.io, .none), some (Kd.ro, .int c), some (Kd.ro, .int w), some (Kd.ro, .int l), some (Kd.ro, .int z), some (Kd.own, .list (R ++ [Z])), some (Kd.ro, .int m), some (Kd.ro, .int a), some (Kd.ro, .int b), some (Kd.ro, Wy), some (Kd.ro, Ty), some (Kd.ro, .int (a + b)), some (Kd.ro, sh), none] P) := by
  simp [e_con, e_var, e_bin, e_neg, e_cmp, e_chain, e_and, e_or, e_not, e_ite, e_call, e_blt, e_isi, e_lrng, e_trng, e_tup, e_lst, e_sl, e_rev, e_every, e_ixV, e_ixC, e_ixI, e_ixL, evs_nil, evs_cons, evs_star, evs_io, evO_none, evO_some, evP_none, evP_some, evI_seq, evI_enum, evI_zip, rss_nil, rss_cons, rs_asg, rs_unp, rs_par, rs_ifs, rs_expr, rs_ret, rs_brk, rs_app, rs_while, getV, setV, isiD, copD, bx_add, bx_sub, bx_mul, bx_fdiv, bx_mod, b_lenL, b_lenT, b_abs, b_min2, b_max2, b_int, b_intB, b_listL, b_listT, b_tupL, b_tupT, b_all, b_any, b_sumL, b_sumT, unO, tb_len, MP.frs, itemsImm, imm, immL, asgD, MP.isIo, bindT, bindTs, seqOf, MP.isInt, at0, at1, at2, startE, cntIo, frzAll, fz0, wipeE, frz, frz1, MP.vars, varsS, varsO, varsI, LIM, e55_0, k1, k2, hx, k3, k4, k5, iL, iR, hR, iZ]
theorem y55b {cl : Cl} (c w l a b t : Int) (Wy Ty X : PyData) (k : cl 45 [some (.int t), some (.int w)] P = some (X, P)) :
    ev cl (.call 45 (.cons (.var 13) (.cons (.var 2) .nil))) [some (Kd.io, .none), some (Kd.ro, .int c), some (Kd.ro, .int w), some (Kd.ro, .int l), none, none, none, some (Kd.ro, .int a), some (Kd.ro, .int b), some (Kd.ro, Wy), some (Kd.ro, Ty), none, none, some (Kd.ro, .int t)] P = some (X, P) := by
  simp [e_con, e_var, e_bin, e_neg, e_cmp, e_chain, e_and, e_or, e_not, e_ite, e_call, e_blt, e_isi, e_lrng, e_trng, e_tup, e_lst, e_sl, e_rev, e_every, e_ixV, e_ixC, e_ixI, e_ixL, evs_nil, evs_cons, evs_star, evs_io, evO_none, evO_some, evP_none, evP_some, evI_seq, evI_enum, evI_zip, rss_nil, rss_cons, rs_asg, rs_unp, rs_par, rs_ifs, rs_expr, rs_ret, rs_brk, rs_app, rs_while, getV, setV, isiD, copD, bx_add, bx_sub, bx_mul, bx_fdiv, bx_mod, b_lenL, b_lenT, b_abs, b_min2, b_max2, b_int, b_intB, b_listL, b_listT, b_tupL, b_tupT, b_all, b_any, b_sumL, b_sumT, unO, tb_len, MP.frs, itemsImm, imm, immL, asgD, MP.isIo, bindT, bindTs, seqOf, MP.isInt, at0, at1, at2, startE, cntIo, frzAll, fz0, wipeE, frz, frz1, MP.vars, varsS, varsO, varsI, LIM, k]
end K06
set_option Elab.async false
set_option linter.all false
set_option maxRecDepth 100000
/-! k06: the law's two lots. -/
namespace K06
open PySem MP
variable {n : Nat} {P : PyData}
theorem cut_mid {m i L : Nat} {f : Nat → PyData} (h : i + L ≤ m) : cutD (tb m f) (some (i : Int)) (some ((i : Int) + (L : Nat))) = tb L fun t => f (i + t) := by
  have e : ((i : Int) + (L : Nat)) = ((i + L : Nat) : Int) := by omega
  rw [e]
  unfold cutD
  rw [tb_len, HT.sIx_nat, HT.sIx_nat, tb_drop, tb_take]
  rw [show min (i + L) m = i + L from by omega, show min i m = i from by omega]
  congr 1
  omega
theorem sz_le {A : Nat → Int} {r : Nat} (h : ∀ i, i < r → 0 ≤ A i) {i : Nat} (hi : i ≤ r) : sz A i ≤ sz A r := by
  have := sz_split A i (r - i)
  rw [show i + (r - i) = r from by omega] at this
  have h2 := sz_nn (B := fun k => A (i + k)) (n := r - i) fun k hk => h (i + k) (by omega)
  omega
theorem pw_nn {b : Int} (h : 0 ≤ b) (k : Nat) : 0 ≤ b ^ k := Int.pow_nonneg h
/-- the loop's rows -/
theorem row_sm {s a z : Nat} {p q : Int} (hs : s ≤ 24) (ha : a ≤ s) (hz : z ≤ a) (h0 : 0 ≤ p) (h1 : p ≤ 10) (h2 : 0 ≤ q) (h3 : q ≤ 10) (h4 : 0 ≤ p + q) (h5 : p + q ≤ 10) :
    sm 3000 (sz (fun m => (ch s m : Nat) * p ^ m * q ^ (s - m) * (dr s a m z : Nat)) (s + 1)) := by
  rw [coin_urn p q ha hz]
  have c1 : sm 1001 (ch s a : Nat) := sm_ch (by omega)
  have c2 : sm 1001 (ch a z : Nat) := sm_ch (by omega)
  have c3 : sm 100 (p ^ z) := (pow_sm h0 (by omega) z).mono (by omega)
  have c4 : sm 100 (q ^ (a - z)) := (pow_sm h2 (by omega) (a - z)).mono (by omega)
  have c5 : sm 100 ((p + q) ^ (s - a)) := (pow_sm h4 (by omega) (s - a)).mono (by omega)
  exact ((((c1.mul c2).mul c3).mul c4).mul c5).mono (by omega)
theorem s55 (h : 55 < n) {B : Nat} (hP : Pot B P) (hB : B < 90000) : ∃ P', F n 55 [none] P = some (.bool true, P') ∧ Pot (B + 5) P' := by
  obtain ⟨g1, P1, k1, h1, hP1⟩ := s41 (n := 55) (by omega) hP (by omega) 12 (by omega) (by omega)
  obtain ⟨g2, P2, k2, h2, hP2⟩ := s41 (n := 55) (by omega) hP1 (by omega) 12 (by omega) (by omega)
  obtain ⟨a, ea⟩ : ∃ a, 1 + g1 = a := ⟨_, rfl⟩
  obtain ⟨b, eb⟩ : ∃ b, 1 + g2 = b := ⟨_, rfl⟩
  obtain ⟨c, P3, k3, h3, hP3⟩ := s41 (n := 55) (by omega) hP2 (by omega) (a + b + 1) (by omega) (by omega)
  obtain ⟨g4, P4, k7, h4, hP4⟩ := s41 (n := 55) (by omega) hP3 (by omega) 11 (by omega) (by omega)
  obtain ⟨z, P5, k9, h5, hP5⟩ := s41 (n := 55) (by omega) hP4 (by omega) (a + 1) (by omega) (by omega)
  refine ⟨P5, ?_, hP5⟩
  have e3 : ((a : Int) + (b : Int) + 1) = ((a + b + 1 : Nat) : Int) := by omega
  have e9 : ((a : Int) + 1) = ((a + 1 : Nat) : Int) := by omega
  have eab : ((a : Int) + (b : Int)) = ((a + b : Nat) : Int) := by omega
  rw [← e3] at k3
  rw [← e9] at k9
  have k4 := s25 (n := 55) (P := P3) (by omega) (a + b) a c (by omega) (by omega) (by omega) (by omega) (by omega) (by omega)
  have k5 := s39 (n := 55) (P := P3) (by omega) a b c (by omega) (by omega) (by omega) (by omega) (by omega)
  have k6 := fun Q => s51 (n := 55) (P := Q) (by omega) (a + b) a (by omega) (by omega)
  have hca : 0 < ch (a + b) a := ch_pos (by omega)
  have hcc : 0 < ch (a + b) c := ch_pos (by omega)
  have kW : sm 1001 (ch (a + b) a : Nat) := sm_ch (by omega)
  have k45 := fun Q t (ht : sm 1001 (t : Nat)) => s45 (n := 55) (P := Q) (k := 1001) (by omega) ((t : Nat) : Int) (ch (a + b) a : Nat) (by omega) kW (by omega)
  rw [← eab] at k4
  have k6' := k6 P3
  rw [← eab] at k6'
  have k8 := s45 (n := 55) (P := P4) (k := 10) (by omega) (g4 : Nat) 10 (by omega) (by unfold sm; decide) (by omega)
  obtain ⟨p0, p1⟩ := fr_share (a := (g4 : Nat)) (b := 10) (by decide) (by omega) (by omega)
  have w0 := frD_pos (a := (g4 : Nat)) (b := 10) (by decide)
  have w1 : frD (g4 : Nat) 10 ≤ 10 := by
    have := frD_le (a := (g4 : Nat)) (b := 10) (by decide)
    omega
  obtain ⟨p, ep⟩ : ∃ p, frN (g4 : Nat) 10 = p := ⟨_, rfl⟩
  obtain ⟨w, ew⟩ : ∃ w, frD (g4 : Nat) 10 = w := ⟨_, rfl⟩
  have k36 := fun Q m y (hm : 1 ≤ m) (hm2 : m ≤ 60) (hy : y ≤ m) => s36 (n := 55) (P := Q) (by omega) m y (g4 : Nat) hm hm2 hy (by omega) (by omega)
  rw [ep] at p0 p1
  rw [ew] at p1 w0 w1
  simp only [ep, ew] at k36
  let A : Nat → Int := fun m => (ch (a + b) m : Nat) * p ^ m * (w - p) ^ (a + b - m) * (dr (a + b) a m z : Nat)
  let W : Int := w ^ (a + b) * (ch (a + b) a : Nat)
  have hA : ∀ m, 0 ≤ A m := fun m => Int.mul_nonneg (Int.mul_nonneg (Int.mul_nonneg (by omega) (pw_nn p0 m)) (pw_nn (by omega) _)) (by omega)
  have hWp : 0 < w ^ (a + b) := Int.pow_pos w0
  have hW : 0 < W := Int.mul_pos hWp (by omega)
  have sW : sm 3000 W := (((pow_sm (b := w) (by omega) (by omega) (a + b)).mono (l := 100) (by omega)).mul kW).mono (by omega)
  have sT : sm 3000 (sz A (a + b + 1)) := row_sm (s := a + b) (a := a) (z := z) (p := p) (q := w - p) (by omega) (by omega) (by omega) p0 (by omega) (by omega) (by omega) (by omega) (by omega)
  have kS : ∀ i, i ≤ a + b + 1 → sm 3000 (sz A i) := fun i hi => sT.of_le (by
    have h6 := sz_le (A := A) (r := a + b + 1) (fun i _ => hA i) hi
    have h7 := sz_nn (B := A) (n := i) fun j _ => hA j
    omega)
  have kA : ∀ i, i < a + b + 1 → sm 3000 (A i) := fun i hi => sT.of_le (by
    have h6 := sz_ge (B := A) (i := i) (n := a + b + 1) (fun i _ => hA i) hi
    have h7 := hA i
    omega)
  have k10 := s50 (n := 55) (P := P5) (by omega) (a + b + 1) A W hW sW kA kS (by omega) (by omega)
  have k11 := k36 P5 a z (by omega) (by omega) (by omega)
  have eX : fr (sz A (a + b + 1)) W = fr ((ch a z : Nat) * p ^ z * (w - p) ^ (a - z)) (w ^ a) := by
    refine fr_eq hW (Int.pow_pos w0) ?_
    have h6 := coin_urn (s := a + b) (o := a) (k := z) p (w - p) (by omega) (by omega)
    show sz A (a + b + 1) * _ = _
    rw [show sz A (a + b + 1) = _ from h6]
    show _ = _ * (w ^ (a + b) * (ch (a + b) a : Nat))
    rw [show a + b - a = b from by omega, show p + (w - p) = w from by omega, Int.pow_add]
    grind
  rw [← eX] at k11
  have iX : okd 6 (fr (sz A (a + b + 1)) W) := okd_fr 5 _ _
  have e55 : ev (F 55) e55_2 [some (Kd.io, .none), some (Kd.ro, .int (c : Nat)), some (Kd.ro, .int (ch (a + b) a : Nat)), some (Kd.ro, .int ((c - b : Nat) : Int)), none, none, none, some (Kd.ro, .int (a : Nat)), some (Kd.ro, .int (b : Nat)), some (Kd.ro, .tuple (tb (a + 1) fun i => .int (dr (a + b) a c i : Nat))), some (Kd.ro, .tuple (tb (mgL a b c) fun i => fr (dr (a + b) c a (c - b + i) : Nat) (ch (a + b) c : Nat))), none, none, none] P3 = some (.list (tb (a + 1) fun i => fr (dr (a + b) a c i : Nat) (ch (a + b) a : Nat)), P3) := by
    refine e_lcT rfl (f := fun i => .int (dr (a + b) a c i : Nat)) (by simp [e_con, e_var, e_bin, e_neg, e_cmp, e_chain, e_and, e_or, e_not, e_ite, e_call, e_blt, e_isi, e_lrng, e_trng, e_tup, e_lst, e_sl, e_rev, e_every, e_ixV, e_ixC, e_ixI, e_ixL, evs_nil, evs_cons, evs_star, evs_io, evO_none, evO_some, evP_none, evP_some, evI_seq, evI_enum, evI_zip, rss_nil, rss_cons, rs_asg, rs_unp, rs_par, rs_ifs, rs_expr, rs_ret, rs_brk, rs_app, rs_while, getV, setV, isiD, copD, bopD, b_lenL, b_lenT, b_abs, b_min2, b_max2, b_int, b_intB, b_listL, b_listT, b_tupL, b_tupT, b_all, b_any, b_sumL, b_sumT, unO, tb_len, MP.frs, itemsImm, imm, immL, asgD, MP.isIo, bindT, bindTs, seqOf, MP.isInt, at0, at1, at2, startE, cntIo, frzAll, fz0, wipeE, frz, frz1, MP.vars, varsS, varsO, varsI, LIM]) (by omega) fun i hi => ⟨_, rfl, rfl, ?_, rfl⟩
    exact y55b _ _ _ _ _ _ _ _ _ (k45 P3 _ (sm_dr (by omega) (by omega) (by omega)))
  have hmg : c - b + mgL a b c ≤ a + 1 := by
    unfold mgL
    omega
  have hQ : cutD (tb (a + 1) fun i => fr (dr (a + b) a c i : Nat) (ch (a + b) a : Nat)) (some ((c - b : Nat) : Int)) (some (((c - b : Nat) : Int) + ((tb (mgL a b c) fun i => fr (dr (a + b) c a (c - b + i) : Nat) (ch (a + b) c : Nat)).length : Nat))) = tb (mgL a b c) fun i => fr (dr (a + b) c a (c - b + i) : Nat) (ch (a + b) c : Nat) := by
    rw [tb_len, cut_mid hmg]
    refine tb_congr fun i hi => fr_eq (by omega) (by omega) ?_
    have h6 := dr_swap (s := a + b) (d := a) (m := c) (k := c - b + i) (by omega) (by omega) (by omega) (by unfold mgL at hi; omega)
    rw [← Int.natCast_mul, ← Int.natCast_mul]
    exact congrArg Nat.cast h6.symm
  refine F_ret h (d := d55) rfl rfl (by decide) rfl (y55 (cl := F 55) (g1 : Nat) (g2 : Nat) 0 (g4 : Nat) 0 (a : Nat) (b : Nat) (c : Nat) (ch (a + b) a : Nat) ((c - b : Nat) : Int) 0 (z : Nat) _ _ _ _ _ (tb (a + b + 1) fun m => fr (A m) W) (atx (a + b + 1) fun m => .int (m : Nat)) k1 k2 (by omega) (by omega) k3 k4 (immL_tb fun _ _ => rfl) k5 (immL_tb fun _ _ => rfl) k6' (by split <;> omega) e55 (immL_tb fun _ _ => rfl) hQ (okd_list (okd_tb fun _ _ => okd_fr 4 _ _)) k7 k8 rfl k9 ?_ (immL_tb fun _ _ => rfl) k10 k11 iX)
  show rs (F 55) true (.for (.nm 6) (.rng1 (.bin .add (.var 11) (.con (.int 1)))) e55_0) _ P5 = _
  have er : ∀ E : MP.Env, E[11]? = some (some (Kd.ro, .int ((a : Int) + (b : Int)))) → evI (F 55) (.rng1 (.bin .add (.var 11) (.con (.int 1)))) E P5 = some (tb (a + b + 1) fun i => .int (i : Nat), P5) := fun E hE => evI_r1 (m := a + b + 1) (P1 := P5) (by
    have : ((a : Int) + (b : Int) + 1) = ((a + b + 1 : Nat) : Int) := by omega
    simp [e_con, e_var, e_bin, e_neg, e_cmp, e_chain, e_and, e_or, e_not, e_ite, e_call, e_blt, e_isi, e_lrng, e_trng, e_tup, e_lst, e_sl, e_rev, e_every, e_ixV, e_ixC, e_ixI, e_ixL, evs_nil, evs_cons, evs_star, evs_io, evO_none, evO_some, evP_none, evP_some, evI_seq, evI_enum, evI_zip, rss_nil, rss_cons, rs_asg, rs_unp, rs_par, rs_ifs, rs_expr, rs_ret, rs_brk, rs_app, rs_while, getV, setV, isiD, copD, bopD, b_lenL, b_lenT, b_abs, b_min2, b_max2, b_int, b_intB, b_listL, b_listT, b_tupL, b_tupT, b_all, b_any, b_sumL, b_sumT, unO, tb_len, MP.frs, itemsImm, imm, immL, asgD, MP.isIo, bindT, bindTs, seqOf, MP.isInt, at0, at1, at2, startE, cntIo, frzAll, fz0, wipeE, frz, frz1, MP.vars, varsS, varsO, varsI, LIM, hE]) (by omega)
  rw [rs_for (er _ rfl)]
  refine for_run (fun i => [some (Kd.io, .none), some (Kd.ro, .int (c : Nat)), some (Kd.ro, .int (ch (a + b) a : Nat)), some (Kd.ro, .int ((c - b : Nat) : Int)), some (Kd.ro, .int (z : Nat)), some (Kd.own, .list (tb i fun m => fr (A m) W)), atx i (fun m => .int (m : Nat)), some (Kd.ro, .int (a : Nat)), some (Kd.ro, .int (b : Nat)), some (Kd.ro, .tuple (tb (a + 1) fun i => .int (dr (a + b) a c i : Nat))), some (Kd.ro, .tuple (tb (mgL a b c) fun i => fr (dr (a + b) c a (c - b + i) : Nat) (ch (a + b) c : Nat))), some (Kd.ro, .int ((a : Int) + (b : Int))), some (Kd.ro, fr (g4 : Nat) 10), none]) (fun _ => P5) rfl rfl fun m hm => ⟨_, bind_nm (atx_io m (fun i => .int (i : Nat))) (show 6 < 14 from by decide), ?_⟩
  have q1 := k36 P5 (a + b) m (by omega) (by omega) (by omega)
  have q2 := s25 (n := 55) (P := P5) (by omega) (a + b) a m (by omega) (by omega) (by omega) (by omega) (by omega) (by omega)
  have q3 := k6 P5
  rw [← eab] at q1 q2 q3
  have kd : sm 1001 (dr (a + b) a m z : Nat) := sm_dr (by omega) (by omega) (by omega)
  have q4 := k45 P5 (dr (a + b) a m z) kd
  have kX : sm 3000 ((ch (a + b) m : Nat) * p ^ m * (w - p) ^ (a + b - m)) := (((sm_ch (m := a + b) (k := m) (by omega)).mul ((pow_sm p0 (by omega) m).mono (l := 100) (by omega))).mul ((pow_sm (b := w - p) (by omega) (by omega) (a + b - m)).mono (l := 100) (by omega))).mono (by omega)
  have q5 := s48 (n := 55) (P := P5) (k := 3000) (by omega) (a := (ch (a + b) m : Nat) * p ^ m * (w - p) ^ (a + b - m)) (b := w ^ (a + b)) (c := (dr (a + b) a m z : Nat)) (d := (ch (a + b) a : Nat)) hWp (by omega) kX ((pow_sm (b := w) (by omega) (by omega) (a + b)).mono (by omega)) (kd.mono (by omega)) (kW.mono (by omega)) (by omega)
  have hx : L2.atI (tb (a + 1) fun i => PyData.int (dr (a + b) a m i : Nat)) (z : Int) = some (.int (dr (a + b) a m z : Nat)) := by
    rw [atI_tb (by omega) (by omega), Int.toNat_natCast]
  have y := y55a (cl := F 55) (P := P5) (c : Nat) (ch (a + b) a : Nat) ((c - b : Nat) : Int) (z : Nat) (m : Nat) (a : Nat) (b : Nat) _ _ (tb m fun m => fr (A m) W) _ (.tuple (tb (a + 1) fun i => .int (dr (a + b) a c i : Nat))) (.tuple (tb (mgL a b c) fun i => fr (dr (a + b) c a (c - b + i) : Nat) (ch (a + b) c : Nat))) (fr (g4 : Nat) 10) _ _ _ none (immL_tb fun _ _ => rfl) (immL_tb fun _ _ => rfl) (by rw [tb_len]; omega) rfl q1 q2 hx q3 q4 q5
  rw [atx_succ, show (tb (m + 1) fun m => fr (A m) W) = _ from tb_snoc]
  exact y
end K06
set_option Elab.async false
set_option linter.all false
set_option maxRecDepth 100000
/-! k06: the law's urn, piece by piece. -/
namespace K06
open PySem MP
variable {n : Nat} {P : PyData}
theorem rss_step {cl : Cl} {iop : Bool} {s : St} {r : Sts} {E E1 : MP.Env} {P P1 : PyData} (h : rs cl iop s E P = some (.nx E1 P1)) : rss cl iop (.cons s r) E P = rss cl iop r E1 P1 := by
  rw [rss_cons, h]
theorem y53a {cl : Cl} {s d m w : Int} {L W : List PyData} (iL : immL L = true) (iW : immL W = true) (k1 : cl 52 [some (.int s), some (.int d), some (.int m)] P = some (.list L, P)) (k2 : cl 25 [some (.int s), some (.int d), some (.int m)] P = some (.tuple W, P)) :
    rs cl true (.par 11 12 (.call 52 (.cons (.var 1) (.cons (.var 2) (.cons (.var 3) .nil)))) (.call 25 (.cons (.var 1) (.cons (.var 2) (.cons (.var 3) .nil))))) [some (Kd.io, .none), some (Kd.ro, .int s), some (Kd.ro, .int d), some (Kd.ro, .int m), none, none, none, none, none, none, none, none, none, none, none, none, none, none, none, none, none] P = some (.nx [some (Kd.io, .none), some (Kd.ro, .int s), some (Kd.ro, .int d), some (Kd.ro, .int m), none, none, none, none, none, none, none, some (Kd.own, .list L), some (Kd.ro, .tuple W), none, none, none, none, none, none, none, none] P) := by
  simp [e_con, e_var, e_bin, e_neg, e_cmp, e_chain, e_and, e_or, e_not, e_ite, e_call, e_blt, e_isi, e_lrng, e_trng, e_tup, e_lst, e_sl, e_rev, e_every, e_ixV, e_ixC, e_ixI, e_ixL, evs_nil, evs_cons, evs_star, evs_io, evO_none, evO_some, evP_none, evP_some, evI_seq, evI_enum, evI_zip, rss_nil, rss_cons, rs_asg, rs_unp, rs_par, rs_ifs, rs_expr, rs_ret, rs_brk, rs_app, rs_while, getV, setV, isiD, copD, bx_add, bx_sub, bx_mul, bx_fdiv, bx_mod, b_lenL, b_lenT, b_abs, b_min2, b_max2, b_int, b_intB, b_listL, b_listT, b_tupL, b_tupT, b_all, b_any, b_sumL, b_sumT, unO, tb_len, MP.frs, itemsImm, imm, immL, asgD, MP.isIo, bindT, bindTs, seqOf, MP.isInt, at0, at1, at2, startE, cntIo, frzAll, fz0, wipeE, frz, frz1, MP.vars, varsS, varsO, varsI, LIM, k1, k2, iL, iW]
theorem y53b {cl : Cl} {s d m w v : Int} {L : List PyData} {W : PyData} (iL : immL L = true) (iW : imm W = true) (oL : okd 6 (.list L)) (e : ev cl e53_13 [some (Kd.io, .none), some (Kd.ro, .int s), some (Kd.ro, .int d), some (Kd.ro, .int m), some (Kd.ro, .int w), none, none, none, none, none, none, some (Kd.own, .list L), some (Kd.ro, W), none, none, none, none, none, none, none, none] P = some (.list L, P)) (hs : bltD .sum [W] = some (.int w)) :
    rs cl true (.ifs (.or (.cmp .ne e53_13 (.var 11)) (.cmp .ne (.blt .sum (.cons (.var 12) .nil)) (.var 4))) (.cons (.ret (.con (.bool false))) .nil) .nil) [some (Kd.io, .none), some (Kd.ro, .int s), some (Kd.ro, .int d), some (Kd.ro, .int m), some (Kd.ro, .int w), none, none, none, none, none, none, some (Kd.own, .list L), some (Kd.ro, W), none, none, none, none, none, none, none, none] P = some (.nx [some (Kd.io, .none), some (Kd.ro, .int s), some (Kd.ro, .int d), some (Kd.ro, .int m), some (Kd.ro, .int w), none, none, none, none, none, none, some (Kd.own, .list L), some (Kd.ro, W), none, none, none, none, none, none, none, none] P) := by
  have o1 := oL.1
  have o2 := oL.2
  have o3 := (okd_int 6 w).1
  have o4 := (okd_int 6 w).2
  simp [e_con, e_var, e_bin, e_neg, e_cmp, e_chain, e_and, e_or, e_not, e_ite, e_call, e_blt, e_isi, e_lrng, e_trng, e_tup, e_lst, e_sl, e_rev, e_every, e_ixV, e_ixC, e_ixI, e_ixL, evs_nil, evs_cons, evs_star, evs_io, evO_none, evO_some, evP_none, evP_some, evI_seq, evI_enum, evI_zip, rss_nil, rss_cons, rs_asg, rs_unp, rs_par, rs_ifs, rs_expr, rs_ret, rs_brk, rs_app, rs_while, getV, setV, isiD, copD, bx_add, bx_sub, bx_mul, bx_fdiv, bx_mod, b_lenL, b_lenT, b_abs, b_min2, b_max2, b_int, b_intB, b_listL, b_listT, b_tupL, b_tupT, b_all, b_any, b_sumL, b_sumT, unO, tb_len, MP.frs, itemsImm, imm, immL, asgD, MP.isIo, bindT, bindTs, seqOf, MP.isInt, at0, at1, at2, startE, cntIo, frzAll, fz0, wipeE, frz, frz1, MP.vars, varsS, varsO, varsI, LIM, e, hs, o1, o2, o3, o4, iL, iW]
theorem y53c0 {cl : Cl} (s d w : Int) (L W : List PyData) (b : Sts) :
    rs cl true (.ifs (.cmp .gt (.var 3) (.con (.int 0))) b .nil) [some (Kd.io, .none), some (Kd.ro, .int s), some (Kd.ro, .int d), some (Kd.ro, .int 0), some (Kd.ro, .int w), none, none, none, none, none, none, some (Kd.own, .list L), some (Kd.ro, .tuple W), none, none, none, none, none, none, none, none] P = some (.nx [some (Kd.io, .none), some (Kd.ro, .int s), some (Kd.ro, .int d), some (Kd.ro, .int 0), some (Kd.ro, .int w), none, none, none, none, none, none, some (Kd.own, .list L), some (Kd.ro, .tuple W), none, none, none, none, none, none, none, none] P) := by
  simp [e_con, e_var, e_bin, e_neg, e_cmp, e_chain, e_and, e_or, e_not, e_ite, e_call, e_blt, e_isi, e_lrng, e_trng, e_tup, e_lst, e_sl, e_rev, e_every, e_ixV, e_ixC, e_ixI, e_ixL, evs_nil, evs_cons, evs_star, evs_io, evO_none, evO_some, evP_none, evP_some, evI_seq, evI_enum, evI_zip, rss_nil, rss_cons, rs_asg, rs_unp, rs_par, rs_ifs, rs_expr, rs_ret, rs_brk, rs_app, rs_while, getV, setV, isiD, copD, bx_add, bx_sub, bx_mul, bx_fdiv, bx_mod, b_lenL, b_lenT, b_abs, b_min2, b_max2, b_int, b_intB, b_listL, b_listT, b_tupL, b_tupT, b_all, b_any, b_sumL, b_sumT, unO, tb_len, MP.frs, itemsImm, imm, immL, asgD, MP.isIo, bindT, bindTs, seqOf, MP.isInt, at0, at1, at2, startE, cntIo, frzAll, fz0, wipeE, frz, frz1, MP.vars, varsS, varsO, varsI, LIM]
theorem y53c1 {cl : Cl} (s d m w : Int) (L W A : List PyData) (o14 : Option (Kd × PyData)) (hm : 0 < m) (iA : immL A = true) (k : cl 25 [some (.int s), some (.int m), some (.int d)] P = some (.tuple A, P))
    (wk : rs cl true e53_12 [some (Kd.io, .none), some (Kd.ro, .int s), some (Kd.ro, .int d), some (Kd.ro, .int m), some (Kd.ro, .int w), none, none, none, none, none, none, some (Kd.own, .list L), some (Kd.ro, .tuple W), some (Kd.ro, .tuple A), none, none, none, none, none, none, none] P = some (.nx [some (Kd.io, .none), some (Kd.ro, .int s), some (Kd.ro, .int d), some (Kd.ro, .int m), some (Kd.ro, .int w), none, none, none, none, none, none, some (Kd.own, .list L), some (Kd.ro, .tuple W), some (Kd.ro, .tuple A), o14, none, none, none, none, none, none] P)) :
    rs cl true (.ifs (.cmp .gt (.var 3) (.con (.int 0))) (.cons (.asg 13 (.call 25 (.cons (.var 1) (.cons (.var 3) (.cons (.var 2) .nil))))) (.cons e53_12 .nil)) .nil) [some (Kd.io, .none), some (Kd.ro, .int s), some (Kd.ro, .int d), some (Kd.ro, .int m), some (Kd.ro, .int w), none, none, none, none, none, none, some (Kd.own, .list L), some (Kd.ro, .tuple W), none, none, none, none, none, none, none, none] P = some (.nx [some (Kd.io, .none), some (Kd.ro, .int s), some (Kd.ro, .int d), some (Kd.ro, .int m), some (Kd.ro, .int w), none, none, none, none, none, none, some (Kd.own, .list L), some (Kd.ro, .tuple W), some (Kd.ro, .tuple A), o14, none, none, none, none, none, none] P) := by
  simp [e_con, e_var, e_bin, e_neg, e_cmp, e_chain, e_and, e_or, e_not, e_ite, e_call, e_blt, e_isi, e_lrng, e_trng, e_tup, e_lst, e_sl, e_rev, e_every, e_ixV, e_ixC, e_ixI, e_ixL, evs_nil, evs_cons, evs_star, evs_io, evO_none, evO_some, evP_none, evP_some, evI_seq, evI_enum, evI_zip, rss_nil, rss_cons, rs_asg, rs_unp, rs_par, rs_ifs, rs_expr, rs_ret, rs_brk, rs_app, rs_while, getV, setV, isiD, copD, bx_add, bx_sub, bx_mul, bx_fdiv, bx_mod, b_lenL, b_lenT, b_abs, b_min2, b_max2, b_int, b_intB, b_listL, b_listT, b_tupL, b_tupT, b_all, b_any, b_sumL, b_sumT, unO, tb_len, MP.frs, itemsImm, imm, immL, asgD, MP.isIo, bindT, bindTs, seqOf, MP.isInt, at0, at1, at2, startE, cntIo, frzAll, fz0, wipeE, frz, frz1, MP.vars, varsS, varsO, varsI, LIM, hm, iA, k, wk]
theorem y53c2 {cl : Cl} (s d m w i t u : Int) (L A : List PyData) (W X : PyData) (hA : L2.atI A i = some (.int t)) (hL : L2.atI L i = some X) (oX : okd 6 X) (iX : imm X = true) (iA : immL A = true) (iL : immL L = true) (k1 : cl 51 [some (.int s), some (.int m)] P = some (.int u, P)) (k2 : cl 45 [some (.int t), some (.int u)] P = some (X, P)) :
    rss cl true e53_11 [some (Kd.io, .none), some (Kd.ro, .int s), some (Kd.ro, .int d), some (Kd.ro, .int m), some (Kd.ro, .int w), none, none, none, none, none, none, some (Kd.own, .list L), some (Kd.ro, W), some (Kd.ro, .tuple A), some (Kd.ro, .int i), none, none, none, none, none, none] P = some (.nx [some (Kd.io, .none), some (Kd.ro, .int s), some (Kd.ro, .int d), some (Kd.ro, .int m), some (Kd.ro, .int w), none, none, none, none, none, none, some (Kd.own, .list L), some (Kd.ro, W), some (Kd.ro, .tuple A), some (Kd.ro, .int i), none, none, none, none, none, none] P) := by
  have o1 := oX.1
  have o2 := oX.2
  simp [e_con, e_var, e_bin, e_neg, e_cmp, e_chain, e_and, e_or, e_not, e_ite, e_call, e_blt, e_isi, e_lrng, e_trng, e_tup, e_lst, e_sl, e_rev, e_every, e_ixV, e_ixC, e_ixI, e_ixL, evs_nil, evs_cons, evs_star, evs_io, evO_none, evO_some, evP_none, evP_some, evI_seq, evI_enum, evI_zip, rss_nil, rss_cons, rs_asg, rs_unp, rs_par, rs_ifs, rs_expr, rs_ret, rs_brk, rs_app, rs_while, getV, setV, isiD, copD, bx_add, bx_sub, bx_mul, bx_fdiv, bx_mod, b_lenL, b_lenT, b_abs, b_min2, b_max2, b_int, b_intB, b_listL, b_listT, b_tupL, b_tupT, b_all, b_any, b_sumL, b_sumT, unO, tb_len, MP.frs, itemsImm, imm, immL, asgD, MP.isIo, bindT, bindTs, seqOf, MP.isInt, at0, at1, at2, startE, cntIo, frzAll, fz0, wipeE, frz, frz1, MP.vars, varsS, varsO, varsI, LIM, e53_11, hA, hL, k1, k2, o1, o2, iX, iA, iL]
theorem y53d {cl : Cl} {s d m w : Int} {L W : List PyData} {o13 o14 : Option (Kd × PyData)} (iW : immL W = true) (oW : okd 6 (.tuple W.reverse)) (k : cl 25 [some (.int s), some (.int d), some (.int (s - m))] P = some (.tuple W.reverse, P)) :
    rs cl true (.ifs (.cmp .ne (.call 25 (.cons (.var 1) (.cons (.var 2) (.cons (.bin .sub (.var 1) (.var 3)) .nil)))) (.rev (.var 12))) (.cons (.ret (.con (.bool false))) .nil) .nil) [some (Kd.io, .none), some (Kd.ro, .int s), some (Kd.ro, .int d), some (Kd.ro, .int m), some (Kd.ro, .int w), none, none, none, none, none, none, some (Kd.own, .list L), some (Kd.ro, .tuple W), o13, o14, none, none, none, none, none, none] P = some (.nx [some (Kd.io, .none), some (Kd.ro, .int s), some (Kd.ro, .int d), some (Kd.ro, .int m), some (Kd.ro, .int w), none, none, none, none, none, none, some (Kd.own, .list L), some (Kd.ro, .tuple W), o13, o14, none, none, none, none, none, none] P) := by
  have o1 := oW.1
  have o2 := oW.2
  simp [e_con, e_var, e_bin, e_neg, e_cmp, e_chain, e_and, e_or, e_not, e_ite, e_call, e_blt, e_isi, e_lrng, e_trng, e_tup, e_lst, e_sl, e_rev, e_every, e_ixV, e_ixC, e_ixI, e_ixL, evs_nil, evs_cons, evs_star, evs_io, evO_none, evO_some, evP_none, evP_some, evI_seq, evI_enum, evI_zip, rss_nil, rss_cons, rs_asg, rs_unp, rs_par, rs_ifs, rs_expr, rs_ret, rs_brk, rs_app, rs_while, getV, setV, isiD, copD, bx_add, bx_sub, bx_mul, bx_fdiv, bx_mod, b_lenL, b_lenT, b_abs, b_min2, b_max2, b_int, b_intB, b_listL, b_listT, b_tupL, b_tupT, b_all, b_any, b_sumL, b_sumT, unO, tb_len, MP.frs, itemsImm, imm, immL, asgD, MP.isIo, bindT, bindTs, seqOf, MP.isInt, at0, at1, at2, startE, cntIo, frzAll, fz0, wipeE, frz, frz1, MP.vars, varsS, varsO, varsI, LIM, k, o1, o2, iW]
theorem y53e {cl : Cl} {s d m w : Int} {L W M : List PyData} {X : PyData} {o13 o14 : Option (Kd × PyData)} (iM : immL M = true) (iX : imm X = true) (e : ev cl e53_10 [some (Kd.io, .none), some (Kd.ro, .int s), some (Kd.ro, .int d), some (Kd.ro, .int m), some (Kd.ro, .int w), none, none, none, none, none, none, some (Kd.own, .list L), some (Kd.ro, .tuple W), o13, o14, none, none, none, none, none, none] P = some (.list M, P)) (k : cl 50 [some (.list M)] P = some (X, P)) :
    rs cl true (.asg 5 (.call 50 (.cons e53_10 .nil))) [some (Kd.io, .none), some (Kd.ro, .int s), some (Kd.ro, .int d), some (Kd.ro, .int m), some (Kd.ro, .int w), none, none, none, none, none, none, some (Kd.own, .list L), some (Kd.ro, .tuple W), o13, o14, none, none, none, none, none, none] P = some (.nx [some (Kd.io, .none), some (Kd.ro, .int s), some (Kd.ro, .int d), some (Kd.ro, .int m), some (Kd.ro, .int w), some (Kd.ro, X), none, none, none, none, none, some (Kd.own, .list L), some (Kd.ro, .tuple W), o13, o14, none, none, none, none, none, none] P) := by
  simp [e_con, e_var, e_bin, e_neg, e_cmp, e_chain, e_and, e_or, e_not, e_ite, e_call, e_blt, e_isi, e_lrng, e_trng, e_tup, e_lst, e_sl, e_rev, e_every, e_ixV, e_ixC, e_ixI, e_ixL, evs_nil, evs_cons, evs_star, evs_io, evO_none, evO_some, evP_none, evP_some, evI_seq, evI_enum, evI_zip, rss_nil, rss_cons, rs_asg, rs_unp, rs_par, rs_ifs, rs_expr, rs_ret, rs_brk, rs_app, rs_while, getV, setV, isiD, copD, bx_add, bx_sub, bx_mul, bx_fdiv, bx_mod, b_lenL, b_lenT, b_abs, b_min2, b_max2, b_int, b_intB, b_listL, b_listT, b_tupL, b_tupT, b_all, b_any, b_sumL, b_sumT, unO, tb_len, MP.frs, itemsImm, imm, immL, asgD, MP.isIo, bindT, bindTs, seqOf, MP.isInt, at0, at1, at2, startE, cntIo, frzAll, fz0, wipeE, frz, frz1, MP.vars, varsS, varsO, varsI, LIM, e, k, iM, iX]
theorem y53f {cl : Cl} {s d m w dm : Int} {L W : List PyData} {X : PyData} {o13 o14 : Option (Kd × PyData)} (hs : smallI d m = true) (hd : d * m = dm) (oX : okd 6 X) (k : cl 45 [some (.int dm), some (.int s)] P = some (X, P)) :
    rs cl true (.ifs (.cmp .ne (.var 5) (.call 45 (.cons (.bin .mul (.var 2) (.var 3)) (.cons (.var 1) .nil)))) (.cons (.ret (.con (.bool false))) .nil) .nil) [some (Kd.io, .none), some (Kd.ro, .int s), some (Kd.ro, .int d), some (Kd.ro, .int m), some (Kd.ro, .int w), some (Kd.ro, X), none, none, none, none, none, some (Kd.own, .list L), some (Kd.ro, .tuple W), o13, o14, none, none, none, none, none, none] P = some (.nx [some (Kd.io, .none), some (Kd.ro, .int s), some (Kd.ro, .int d), some (Kd.ro, .int m), some (Kd.ro, .int w), some (Kd.ro, X), none, none, none, none, none, some (Kd.own, .list L), some (Kd.ro, .tuple W), o13, o14, none, none, none, none, none, none] P) := by
  have o1 := oX.1
  have o2 := oX.2
  simp [e_con, e_var, e_bin, e_neg, e_cmp, e_chain, e_and, e_or, e_not, e_ite, e_call, e_blt, e_isi, e_lrng, e_trng, e_tup, e_lst, e_sl, e_rev, e_every, e_ixV, e_ixC, e_ixI, e_ixL, evs_nil, evs_cons, evs_star, evs_io, evO_none, evO_some, evP_none, evP_some, evI_seq, evI_enum, evI_zip, rss_nil, rss_cons, rs_asg, rs_unp, rs_par, rs_ifs, rs_expr, rs_ret, rs_brk, rs_app, rs_while, getV, setV, isiD, copD, bx_add, bx_sub, bx_mul, bx_fdiv, bx_mod, b_lenL, b_lenT, b_abs, b_min2, b_max2, b_int, b_intB, b_listL, b_listT, b_tupL, b_tupT, b_all, b_any, b_sumL, b_sumT, unO, tb_len, MP.frs, itemsImm, imm, immL, asgD, MP.isIo, bindT, bindTs, seqOf, MP.isInt, at0, at1, at2, startE, cntIo, frzAll, fz0, wipeE, frz, frz1, MP.vars, varsS, varsO, varsI, LIM, hs, hd, k, o1, o2]
theorem y53g {cl : Cl} {s d m w : Int} {L W M : List PyData} {X Y : PyData} {o13 o14 : Option (Kd × PyData)} (iM : immL M = true) (iY : imm Y = true) (e : ev cl e53_9 [some (Kd.io, .none), some (Kd.ro, .int s), some (Kd.ro, .int d), some (Kd.ro, .int m), some (Kd.ro, .int w), some (Kd.ro, X), none, none, none, none, none, some (Kd.own, .list L), some (Kd.ro, .tuple W), o13, o14, none, none, none, none, none, none] P = some (.list M, P)) (k : cl 50 [some (.list M)] P = some (Y, P)) :
    rs cl true (.asg 6 (.call 50 (.cons e53_9 .nil))) [some (Kd.io, .none), some (Kd.ro, .int s), some (Kd.ro, .int d), some (Kd.ro, .int m), some (Kd.ro, .int w), some (Kd.ro, X), none, none, none, none, none, some (Kd.own, .list L), some (Kd.ro, .tuple W), o13, o14, none, none, none, none, none, none] P = some (.nx [some (Kd.io, .none), some (Kd.ro, .int s), some (Kd.ro, .int d), some (Kd.ro, .int m), some (Kd.ro, .int w), some (Kd.ro, X), some (Kd.ro, Y), none, none, none, none, some (Kd.own, .list L), some (Kd.ro, .tuple W), o13, o14, none, none, none, none, none, none] P) := by
  simp [e_con, e_var, e_bin, e_neg, e_cmp, e_chain, e_and, e_or, e_not, e_ite, e_call, e_blt, e_isi, e_lrng, e_trng, e_tup, e_lst, e_sl, e_rev, e_every, e_ixV, e_ixC, e_ixI, e_ixL, evs_nil, evs_cons, evs_star, evs_io, evO_none, evO_some, evP_none, evP_some, evI_seq, evI_enum, evI_zip, rss_nil, rss_cons, rs_asg, rs_unp, rs_par, rs_ifs, rs_expr, rs_ret, rs_brk, rs_app, rs_while, getV, setV, isiD, copD, bx_add, bx_sub, bx_mul, bx_fdiv, bx_mod, b_lenL, b_lenT, b_abs, b_min2, b_max2, b_int, b_intB, b_listL, b_listT, b_tupL, b_tupT, b_all, b_any, b_sumL, b_sumT, unO, tb_len, MP.frs, itemsImm, imm, immL, asgD, MP.isIo, bindT, bindTs, seqOf, MP.isInt, at0, at1, at2, startE, cntIo, frzAll, fz0, wipeE, frz, frz1, MP.vars, varsS, varsO, varsI, LIM, e, k, iM, iY]
theorem y53h {cl : Cl} {s d m w a b : Int} {L W : List PyData} {X Y : PyData} {o13 o14 : Option (Kd × PyData)} (h1 : 1 ≤ s) (oY : okd 6 Y) (s1 : smallI d m = true) (s2 : smallI (d * m) (s - m) = true) (s3 : smallI (d * m * (s - m)) (s - d) = true) (s4 : smallI s s = true) (s5 : smallI (s * s) (s - 1) = true) (ha : d * m * (s - m) * (s - d) = a) (hb : s * s * (s - 1) = b) (k : 1 < s → cl 45 [some (.int a), some (.int b)] P = some (Y, P)) :
    rs cl true (.ifs (.and (.cmp .gt (.var 1) (.con (.int 1))) (.cmp .ne (.var 6) (.call 45 (.cons (.bin .mul (.bin .mul (.bin .mul (.var 2) (.var 3)) (.bin .sub (.var 1) (.var 3))) (.bin .sub (.var 1) (.var 2))) (.cons (.bin .mul (.bin .mul (.var 1) (.var 1)) (.bin .sub (.var 1) (.con (.int 1)))) .nil))))) (.cons (.ret (.con (.bool false))) .nil) .nil) [some (Kd.io, .none), some (Kd.ro, .int s), some (Kd.ro, .int d), some (Kd.ro, .int m), some (Kd.ro, .int w), some (Kd.ro, X), some (Kd.ro, Y), none, none, none, none, some (Kd.own, .list L), some (Kd.ro, .tuple W), o13, o14, none, none, none, none, none, none] P = some (.nx [some (Kd.io, .none), some (Kd.ro, .int s), some (Kd.ro, .int d), some (Kd.ro, .int m), some (Kd.ro, .int w), some (Kd.ro, X), some (Kd.ro, Y), none, none, none, none, some (Kd.own, .list L), some (Kd.ro, .tuple W), o13, o14, none, none, none, none, none, none] P) := by
  have o1 := oY.1
  have o2 := oY.2
  by_cases c : 1 < s
  · have k := k c
    simp [e_con, e_var, e_bin, e_neg, e_cmp, e_chain, e_and, e_or, e_not, e_ite, e_call, e_blt, e_isi, e_lrng, e_trng, e_tup, e_lst, e_sl, e_rev, e_every, e_ixV, e_ixC, e_ixI, e_ixL, evs_nil, evs_cons, evs_star, evs_io, evO_none, evO_some, evP_none, evP_some, evI_seq, evI_enum, evI_zip, rss_nil, rss_cons, rs_asg, rs_unp, rs_par, rs_ifs, rs_expr, rs_ret, rs_brk, rs_app, rs_while, getV, setV, isiD, copD, bx_add, bx_sub, bx_mul, bx_fdiv, bx_mod, b_lenL, b_lenT, b_abs, b_min2, b_max2, b_int, b_intB, b_listL, b_listT, b_tupL, b_tupT, b_all, b_any, b_sumL, b_sumT, unO, tb_len, MP.frs, itemsImm, imm, immL, asgD, MP.isIo, bindT, bindTs, seqOf, MP.isInt, at0, at1, at2, startE, cntIo, frzAll, fz0, wipeE, frz, frz1, MP.vars, varsS, varsO, varsI, LIM, c, s1, s2, s3, s4, s5, ha, hb, k, o1, o2]
  · have : s = 1 := by omega
    subst this
    simp [e_con, e_var, e_bin, e_neg, e_cmp, e_chain, e_and, e_or, e_not, e_ite, e_call, e_blt, e_isi, e_lrng, e_trng, e_tup, e_lst, e_sl, e_rev, e_every, e_ixV, e_ixC, e_ixI, e_ixL, evs_nil, evs_cons, evs_star, evs_io, evO_none, evO_some, evP_none, evP_some, evI_seq, evI_enum, evI_zip, rss_nil, rss_cons, rs_asg, rs_unp, rs_par, rs_ifs, rs_expr, rs_ret, rs_brk, rs_app, rs_while, getV, setV, isiD, copD, bx_add, bx_sub, bx_mul, bx_fdiv, bx_mod, b_lenL, b_lenT, b_abs, b_min2, b_max2, b_int, b_intB, b_listL, b_listT, b_tupL, b_tupT, b_all, b_any, b_sumL, b_sumT, unO, tb_len, MP.frs, itemsImm, imm, immL, asgD, MP.isIo, bindT, bindTs, seqOf, MP.isInt, at0, at1, at2, startE, cntIo, frzAll, fz0, wipeE, frz, frz1, MP.vars, varsS, varsO, varsI, LIM]
theorem y53i {cl : Cl} {P1 : PyData} {s d m w g : Int} {L W : List PyData} {X Y : PyData} {o13 o14 : Option (Kd × PyData)} (k : cl 41 [none, some (.int d)] P = some (.int g, P1)) :
    rs cl true (.asg 7 (.bin .add (.con (.int 1)) (.blt .int (.cons (.call 41 (.io 0 (.cons (.var 2) .nil))) .nil)))) [some (Kd.io, .none), some (Kd.ro, .int s), some (Kd.ro, .int d), some (Kd.ro, .int m), some (Kd.ro, .int w), some (Kd.ro, X), some (Kd.ro, Y), none, none, none, none, some (Kd.own, .list L), some (Kd.ro, .tuple W), o13, o14, none, none, none, none, none, none] P = some (.nx [some (Kd.io, .none), some (Kd.ro, .int s), some (Kd.ro, .int d), some (Kd.ro, .int m), some (Kd.ro, .int w), some (Kd.ro, X), some (Kd.ro, Y), some (Kd.ro, .int (1 + g)), none, none, none, some (Kd.own, .list L), some (Kd.ro, .tuple W), o13, o14, none, none, none, none, none, none] P1) := by
  simp [e_con, e_var, e_bin, e_neg, e_cmp, e_chain, e_and, e_or, e_not, e_ite, e_call, e_blt, e_isi, e_lrng, e_trng, e_tup, e_lst, e_sl, e_rev, e_every, e_ixV, e_ixC, e_ixI, e_ixL, evs_nil, evs_cons, evs_star, evs_io, evO_none, evO_some, evP_none, evP_some, evI_seq, evI_enum, evI_zip, rss_nil, rss_cons, rs_asg, rs_unp, rs_par, rs_ifs, rs_expr, rs_ret, rs_brk, rs_app, rs_while, getV, setV, isiD, copD, bx_add, bx_sub, bx_mul, bx_fdiv, bx_mod, b_lenL, b_lenT, b_abs, b_min2, b_max2, b_int, b_intB, b_listL, b_listT, b_tupL, b_tupT, b_all, b_any, b_sumL, b_sumT, unO, tb_len, MP.frs, itemsImm, imm, immL, asgD, MP.isIo, bindT, bindTs, seqOf, MP.isInt, at0, at1, at2, startE, cntIo, frzAll, fz0, wipeE, frz, frz1, MP.vars, varsS, varsO, varsI, LIM, k]
theorem y53j {cl : Cl} {s d m w f : Int} {L W R : List PyData} {X Y : PyData} {o13 o14 : Option (Kd × PyData)} (h0 : 0 ≤ f) (h1 : f ≤ 1000) (iR : immL R = true) (hR : (List.replicate (f + 1).toNat [PyData.tuple [.int 0, .int 1]]).flatten = R) :
    rs cl true (.asg 8 (.bin .mul (.lst (.cons (.tup (.cons (.con (.int 0)) (.cons (.con (.int 1)) .nil))) .nil)) (.bin .add (.var 7) (.con (.int 1))))) [some (Kd.io, .none), some (Kd.ro, .int s), some (Kd.ro, .int d), some (Kd.ro, .int m), some (Kd.ro, .int w), some (Kd.ro, X), some (Kd.ro, Y), some (Kd.ro, .int f), none, none, none, some (Kd.own, .list L), some (Kd.ro, .tuple W), o13, o14, none, none, none, none, none, none] P = some (.nx [some (Kd.io, .none), some (Kd.ro, .int s), some (Kd.ro, .int d), some (Kd.ro, .int m), some (Kd.ro, .int w), some (Kd.ro, X), some (Kd.ro, Y), some (Kd.ro, .int f), some (Kd.own, .list R), none, none, some (Kd.own, .list L), some (Kd.ro, .tuple W), o13, o14, none, none, none, none, none, none] P) := by
  have e : bopD .mul (.list [.tuple [.int 0, .int 1]]) (.int (f + 1)) = some (.list R) := by
    show (if _ then _ else none) = _
    rw [if_pos, hR]
    simp [immL, imm, LIM]
    omega
  simp [e_con, e_var, e_bin, e_neg, e_cmp, e_chain, e_and, e_or, e_not, e_ite, e_call, e_blt, e_isi, e_lrng, e_trng, e_tup, e_lst, e_sl, e_rev, e_every, e_ixV, e_ixC, e_ixI, e_ixL, evs_nil, evs_cons, evs_star, evs_io, evO_none, evO_some, evP_none, evP_some, evI_seq, evI_enum, evI_zip, rss_nil, rss_cons, rs_asg, rs_unp, rs_par, rs_ifs, rs_expr, rs_ret, rs_brk, rs_app, rs_while, getV, setV, isiD, copD, bx_add, bx_sub, bx_mul, bx_fdiv, bx_mod, b_lenL, b_lenT, b_abs, b_min2, b_max2, b_int, b_intB, b_listL, b_listT, b_tupL, b_tupT, b_all, b_any, b_sumL, b_sumT, unO, tb_len, MP.frs, itemsImm, imm, immL, asgD, MP.isIo, bindT, bindTs, seqOf, MP.isInt, at0, at1, at2, startE, cntIo, frzAll, fz0, wipeE, frz, frz1, MP.vars, varsS, varsO, varsI, LIM, e, iR, strV]
end K06
set_option Elab.async false
set_option linter.all false
set_option maxRecDepth 100000
/-! k06: the law's urn, the later pieces. -/
namespace K06
open PySem MP
variable {n : Nat} {P : PyData}
theorem y53l {cl : Cl} {s d m w f : Int} {L W R A : List PyData} {X Y : PyData} {o13 o14 o15 o18 o19 : Option (Kd × PyData)} (iA : immL A = true) (k : cl 25 [some (.int s), some (.int f), some (.int m)] P = some (.tuple A, P)) :
    rs cl true (.asg 9 (.call 25 (.cons (.var 1) (.cons (.var 7) (.cons (.var 3) .nil))))) [some (Kd.io, .none), some (Kd.ro, .int s), some (Kd.ro, .int d), some (Kd.ro, .int m), some (Kd.ro, .int w), some (Kd.ro, X), some (Kd.ro, Y), some (Kd.ro, .int f), some (Kd.own, .list R), none, none, some (Kd.fz, .list L), some (Kd.ro, .tuple W), o13, o14, o15, none, none, o18, o19, none] P = some (.nx [some (Kd.io, .none), some (Kd.ro, .int s), some (Kd.ro, .int d), some (Kd.ro, .int m), some (Kd.ro, .int w), some (Kd.ro, X), some (Kd.ro, Y), some (Kd.ro, .int f), some (Kd.own, .list R), some (Kd.ro, .tuple A), none, some (Kd.fz, .list L), some (Kd.ro, .tuple W), o13, o14, o15, none, none, o18, o19, none] P) := by
  simp [e_con, e_var, e_bin, e_neg, e_cmp, e_chain, e_and, e_or, e_not, e_ite, e_call, e_blt, e_isi, e_lrng, e_trng, e_tup, e_lst, e_sl, e_rev, e_every, e_ixV, e_ixC, e_ixI, e_ixL, evs_nil, evs_cons, evs_star, evs_io, evO_none, evO_some, evP_none, evP_some, evI_seq, evI_enum, evI_zip, rss_nil, rss_cons, rs_asg, rs_unp, rs_par, rs_ifs, rs_expr, rs_ret, rs_brk, rs_app, rs_while, getV, setV, isiD, copD, bx_add, bx_sub, bx_mul, bx_fdiv, bx_mod, b_lenL, b_lenT, b_abs, b_min2, b_max2, b_int, b_intB, b_listL, b_listT, b_tupL, b_tupT, b_all, b_any, b_sumL, b_sumT, unO, tb_len, MP.frs, itemsImm, imm, immL, asgD, MP.isIo, bindT, bindTs, seqOf, MP.isInt, at0, at1, at2, startE, cntIo, frzAll, fz0, wipeE, frz, frz1, MP.vars, varsS, varsO, varsI, LIM, k, iA]
theorem y53m {cl : Cl} {s d m w f : Int} {L W R A : List PyData} {X Y : PyData} {o13 o14 o15 o18 o19 : Option (Kd × PyData)} (iR : immL R = true) (oR : okd 6 (.list R)) (e : ev cl e53_4 [some (Kd.io, .none), some (Kd.ro, .int s), some (Kd.ro, .int d), some (Kd.ro, .int m), some (Kd.ro, .int w), some (Kd.ro, X), some (Kd.ro, Y), some (Kd.ro, .int f), some (Kd.own, .list R), some (Kd.ro, .tuple A), none, some (Kd.fz, .list L), some (Kd.ro, .tuple W), o13, o14, o15, none, none, o18, o19, none] P = some (.list R, P)) :
    rs cl true (.ifs (.cmp .ne (.var 8) e53_4) (.cons (.ret (.con (.bool false))) .nil) .nil) [some (Kd.io, .none), some (Kd.ro, .int s), some (Kd.ro, .int d), some (Kd.ro, .int m), some (Kd.ro, .int w), some (Kd.ro, X), some (Kd.ro, Y), some (Kd.ro, .int f), some (Kd.own, .list R), some (Kd.ro, .tuple A), none, some (Kd.fz, .list L), some (Kd.ro, .tuple W), o13, o14, o15, none, none, o18, o19, none] P = some (.nx [some (Kd.io, .none), some (Kd.ro, .int s), some (Kd.ro, .int d), some (Kd.ro, .int m), some (Kd.ro, .int w), some (Kd.ro, X), some (Kd.ro, Y), some (Kd.ro, .int f), some (Kd.own, .list R), some (Kd.ro, .tuple A), none, some (Kd.fz, .list L), some (Kd.ro, .tuple W), o13, o14, o15, none, none, o18, o19, none] P) := by
  have o1 := oR.1
  have o2 := oR.2
  simp [e_con, e_var, e_bin, e_neg, e_cmp, e_chain, e_and, e_or, e_not, e_ite, e_call, e_blt, e_isi, e_lrng, e_trng, e_tup, e_lst, e_sl, e_rev, e_every, e_ixV, e_ixC, e_ixI, e_ixL, evs_nil, evs_cons, evs_star, evs_io, evO_none, evO_some, evP_none, evP_some, evI_seq, evI_enum, evI_zip, rss_nil, rss_cons, rs_asg, rs_unp, rs_par, rs_ifs, rs_expr, rs_ret, rs_brk, rs_app, rs_while, getV, setV, isiD, copD, bx_add, bx_sub, bx_mul, bx_fdiv, bx_mod, b_lenL, b_lenT, b_abs, b_min2, b_max2, b_int, b_intB, b_listL, b_listT, b_tupL, b_tupT, b_all, b_any, b_sumL, b_sumT, unO, tb_len, MP.frs, itemsImm, imm, immL, asgD, MP.isIo, bindT, bindTs, seqOf, MP.isInt, at0, at1, at2, startE, cntIo, frzAll, fz0, wipeE, frz, frz1, MP.vars, varsS, varsO, varsI, LIM, e, o1, o2, iR]
theorem y53n {cl : Cl} {s d m w f : Int} {L W R A U D : List PyData} {X Y : PyData} {o13 o14 o15 o18 o19 : Option (Kd × PyData)} (iU : immL U = true) (iD : immL D = true) (k : cl 32 [some (.int s), some (.int d), some (.int m)] P = some (.tuple [.tuple U, .tuple D], P)) :
    rs cl true (.unp (.cons (.nm 16) (.cons (.nm 17) .nil)) (.call 32 (.cons (.var 1) (.cons (.var 2) (.cons (.var 3) .nil))))) [some (Kd.io, .none), some (Kd.ro, .int s), some (Kd.ro, .int d), some (Kd.ro, .int m), some (Kd.ro, .int w), some (Kd.ro, X), some (Kd.ro, Y), some (Kd.ro, .int f), some (Kd.own, .list R), some (Kd.ro, .tuple A), none, some (Kd.fz, .list L), some (Kd.ro, .tuple W), o13, o14, o15, none, none, o18, o19, none] P = some (.nx [some (Kd.io, .none), some (Kd.ro, .int s), some (Kd.ro, .int d), some (Kd.ro, .int m), some (Kd.ro, .int w), some (Kd.ro, X), some (Kd.ro, Y), some (Kd.ro, .int f), some (Kd.own, .list R), some (Kd.ro, .tuple A), none, some (Kd.fz, .list L), some (Kd.ro, .tuple W), o13, o14, o15, some (Kd.ro, .tuple U), some (Kd.ro, .tuple D), o18, o19, none] P) := by
  simp [e_con, e_var, e_bin, e_neg, e_cmp, e_chain, e_and, e_or, e_not, e_ite, e_call, e_blt, e_isi, e_lrng, e_trng, e_tup, e_lst, e_sl, e_rev, e_every, e_ixV, e_ixC, e_ixI, e_ixL, evs_nil, evs_cons, evs_star, evs_io, evO_none, evO_some, evP_none, evP_some, evI_seq, evI_enum, evI_zip, rss_nil, rss_cons, rs_asg, rs_unp, rs_par, rs_ifs, rs_expr, rs_ret, rs_brk, rs_app, rs_while, getV, setV, isiD, copD, bx_add, bx_sub, bx_mul, bx_fdiv, bx_mod, b_lenL, b_lenT, b_abs, b_min2, b_max2, b_int, b_intB, b_listL, b_listT, b_tupL, b_tupT, b_all, b_any, b_sumL, b_sumT, unO, tb_len, MP.frs, itemsImm, imm, immL, asgD, MP.isIo, bindT, bindTs, seqOf, MP.isInt, at0, at1, at2, startE, cntIo, frzAll, fz0, wipeE, frz, frz1, MP.vars, varsS, varsO, varsI, LIM, k, iU, iD]
theorem y53o {cl : Cl} {s d m w f : Int} {L W R A U D : List PyData} {X Y : PyData} {o13 o14 o15 o18 o19 : Option (Kd × PyData)} (iU : immL U = true) (oU : okd 6 (.list U)) (e : ev cl e53_3 [some (Kd.io, .none), some (Kd.ro, .int s), some (Kd.ro, .int d), some (Kd.ro, .int m), some (Kd.ro, .int w), some (Kd.ro, X), some (Kd.ro, Y), some (Kd.ro, .int f), some (Kd.own, .list R), some (Kd.ro, .tuple A), none, some (Kd.fz, .list L), some (Kd.ro, .tuple W), o13, o14, o15, some (Kd.ro, .tuple U), some (Kd.ro, .tuple D), o18, o19, none] P = some (.list U, P)) :
    rs cl true (.ifs (.cmp .ne (.blt .list (.cons (.var 16) .nil)) e53_3) (.cons (.ret (.con (.bool false))) .nil) .nil) [some (Kd.io, .none), some (Kd.ro, .int s), some (Kd.ro, .int d), some (Kd.ro, .int m), some (Kd.ro, .int w), some (Kd.ro, X), some (Kd.ro, Y), some (Kd.ro, .int f), some (Kd.own, .list R), some (Kd.ro, .tuple A), none, some (Kd.fz, .list L), some (Kd.ro, .tuple W), o13, o14, o15, some (Kd.ro, .tuple U), some (Kd.ro, .tuple D), o18, o19, none] P = some (.nx [some (Kd.io, .none), some (Kd.ro, .int s), some (Kd.ro, .int d), some (Kd.ro, .int m), some (Kd.ro, .int w), some (Kd.ro, X), some (Kd.ro, Y), some (Kd.ro, .int f), some (Kd.own, .list R), some (Kd.ro, .tuple A), none, some (Kd.fz, .list L), some (Kd.ro, .tuple W), o13, o14, o15, some (Kd.ro, .tuple U), some (Kd.ro, .tuple D), o18, o19, none] P) := by
  have o1 := oU.1
  have o2 := oU.2
  simp [e_con, e_var, e_bin, e_neg, e_cmp, e_chain, e_and, e_or, e_not, e_ite, e_call, e_blt, e_isi, e_lrng, e_trng, e_tup, e_lst, e_sl, e_rev, e_every, e_ixV, e_ixC, e_ixI, e_ixL, evs_nil, evs_cons, evs_star, evs_io, evO_none, evO_some, evP_none, evP_some, evI_seq, evI_enum, evI_zip, rss_nil, rss_cons, rs_asg, rs_unp, rs_par, rs_ifs, rs_expr, rs_ret, rs_brk, rs_app, rs_while, getV, setV, isiD, copD, bx_add, bx_sub, bx_mul, bx_fdiv, bx_mod, b_lenL, b_lenT, b_abs, b_min2, b_max2, b_int, b_intB, b_listL, b_listT, b_tupL, b_tupT, b_all, b_any, b_sumL, b_sumT, unO, tb_len, MP.frs, itemsImm, imm, immL, asgD, MP.isIo, bindT, bindTs, seqOf, MP.isInt, at0, at1, at2, startE, cntIo, frzAll, fz0, wipeE, frz, frz1, MP.vars, varsS, varsO, varsI, LIM, e, o1, o2, iU]
theorem y53p {cl : Cl} {s d m w f : Int} {L W R A U D : List PyData} {X Y : PyData} {o13 o14 o15 o18 o19 : Option (Kd × PyData)} (iU : immL D = true) (oU : okd 6 (.list D)) (e : ev cl e53_2 [some (Kd.io, .none), some (Kd.ro, .int s), some (Kd.ro, .int d), some (Kd.ro, .int m), some (Kd.ro, .int w), some (Kd.ro, X), some (Kd.ro, Y), some (Kd.ro, .int f), some (Kd.own, .list R), some (Kd.ro, .tuple A), none, some (Kd.fz, .list L), some (Kd.ro, .tuple W), o13, o14, o15, some (Kd.ro, .tuple U), some (Kd.ro, .tuple D), o18, o19, none] P = some (.list D, P)) :
    rs cl true (.ifs (.cmp .ne (.blt .list (.cons (.var 17) .nil)) e53_2) (.cons (.ret (.con (.bool false))) .nil) .nil) [some (Kd.io, .none), some (Kd.ro, .int s), some (Kd.ro, .int d), some (Kd.ro, .int m), some (Kd.ro, .int w), some (Kd.ro, X), some (Kd.ro, Y), some (Kd.ro, .int f), some (Kd.own, .list R), some (Kd.ro, .tuple A), none, some (Kd.fz, .list L), some (Kd.ro, .tuple W), o13, o14, o15, some (Kd.ro, .tuple U), some (Kd.ro, .tuple D), o18, o19, none] P = some (.nx [some (Kd.io, .none), some (Kd.ro, .int s), some (Kd.ro, .int d), some (Kd.ro, .int m), some (Kd.ro, .int w), some (Kd.ro, X), some (Kd.ro, Y), some (Kd.ro, .int f), some (Kd.own, .list R), some (Kd.ro, .tuple A), none, some (Kd.fz, .list L), some (Kd.ro, .tuple W), o13, o14, o15, some (Kd.ro, .tuple U), some (Kd.ro, .tuple D), o18, o19, none] P) := by
  have o1 := oU.1
  have o2 := oU.2
  simp [e_con, e_var, e_bin, e_neg, e_cmp, e_chain, e_and, e_or, e_not, e_ite, e_call, e_blt, e_isi, e_lrng, e_trng, e_tup, e_lst, e_sl, e_rev, e_every, e_ixV, e_ixC, e_ixI, e_ixL, evs_nil, evs_cons, evs_star, evs_io, evO_none, evO_some, evP_none, evP_some, evI_seq, evI_enum, evI_zip, rss_nil, rss_cons, rs_asg, rs_unp, rs_par, rs_ifs, rs_expr, rs_ret, rs_brk, rs_app, rs_while, getV, setV, isiD, copD, bx_add, bx_sub, bx_mul, bx_fdiv, bx_mod, b_lenL, b_lenT, b_abs, b_min2, b_max2, b_int, b_intB, b_listL, b_listT, b_tupL, b_tupT, b_all, b_any, b_sumL, b_sumT, unO, tb_len, MP.frs, itemsImm, imm, immL, asgD, MP.isIo, bindT, bindTs, seqOf, MP.isInt, at0, at1, at2, startE, cntIo, frzAll, fz0, wipeE, frz, frz1, MP.vars, varsS, varsO, varsI, LIM, e, o1, o2, iU]
theorem y53q {cl : Cl} {P1 : PyData} {s d m w f : Int} {L W R A U D G : List PyData} {X Y : PyData} {o13 o14 o15 o18 o19 : Option (Kd × PyData)} (iG : immL G = true) (e : ev cl e53_1 [some (Kd.io, .none), some (Kd.ro, .int s), some (Kd.ro, .int d), some (Kd.ro, .int m), some (Kd.ro, .int w), some (Kd.ro, X), some (Kd.ro, Y), some (Kd.ro, .int f), some (Kd.own, .list R), some (Kd.ro, .tuple A), none, some (Kd.fz, .list L), some (Kd.ro, .tuple W), o13, o14, o15, some (Kd.ro, .tuple U), some (Kd.ro, .tuple D), o18, o19, none] P = some (.list G, P1)) :
    rs cl true (.asg 10 (.blt .tuple (.cons e53_1 .nil))) [some (Kd.io, .none), some (Kd.ro, .int s), some (Kd.ro, .int d), some (Kd.ro, .int m), some (Kd.ro, .int w), some (Kd.ro, X), some (Kd.ro, Y), some (Kd.ro, .int f), some (Kd.own, .list R), some (Kd.ro, .tuple A), none, some (Kd.fz, .list L), some (Kd.ro, .tuple W), o13, o14, o15, some (Kd.ro, .tuple U), some (Kd.ro, .tuple D), o18, o19, none] P = some (.nx [some (Kd.io, .none), some (Kd.ro, .int s), some (Kd.ro, .int d), some (Kd.ro, .int m), some (Kd.ro, .int w), some (Kd.ro, X), some (Kd.ro, Y), some (Kd.ro, .int f), some (Kd.own, .list R), some (Kd.ro, .tuple A), some (Kd.ro, .tuple G), some (Kd.fz, .list L), some (Kd.ro, .tuple W), o13, o14, o15, some (Kd.ro, .tuple U), some (Kd.ro, .tuple D), o18, o19, none] P1) := by
  simp [e_con, e_var, e_bin, e_neg, e_cmp, e_chain, e_and, e_or, e_not, e_ite, e_call, e_blt, e_isi, e_lrng, e_trng, e_tup, e_lst, e_sl, e_rev, e_every, e_ixV, e_ixC, e_ixI, e_ixL, evs_nil, evs_cons, evs_star, evs_io, evO_none, evO_some, evP_none, evP_some, evI_seq, evI_enum, evI_zip, rss_nil, rss_cons, rs_asg, rs_unp, rs_par, rs_ifs, rs_expr, rs_ret, rs_brk, rs_app, rs_while, getV, setV, isiD, copD, bx_add, bx_sub, bx_mul, bx_fdiv, bx_mod, b_lenL, b_lenT, b_abs, b_min2, b_max2, b_int, b_intB, b_listL, b_listT, b_tupL, b_tupT, b_all, b_any, b_sumL, b_sumT, unO, tb_len, MP.frs, itemsImm, imm, immL, asgD, MP.isIo, bindT, bindTs, seqOf, MP.isInt, at0, at1, at2, startE, cntIo, frzAll, fz0, wipeE, frz, frz1, MP.vars, varsS, varsO, varsI, LIM, e, iG]
theorem y53r {cl : Cl} {s d m w f : Int} {L W R A U D G M : List PyData} {X Y T : PyData} {o13 o14 o15 o18 o19 : Option (Kd × PyData)} (iM : immL M = true) (iT : imm T = true) (oT : okd 6 T) (e : ev cl e53_0 [some (Kd.io, .none), some (Kd.ro, .int s), some (Kd.ro, .int d), some (Kd.ro, .int m), some (Kd.ro, .int w), some (Kd.ro, X), some (Kd.ro, Y), some (Kd.ro, .int f), some (Kd.own, .list R), some (Kd.ro, .tuple A), some (Kd.ro, .tuple G), some (Kd.fz, .list L), some (Kd.ro, .tuple W), o13, o14, o15, some (Kd.ro, .tuple U), some (Kd.ro, .tuple D), o18, o19, none] P = some (.list M, P)) (k1 : cl 26 [some (.int s), some (.int d), some (.tuple G), some (.int m)] P = some (T, P)) (k2 : cl 50 [some (.list M)] P = some (T, P)) :
    rss cl true (.cons (.ret (.cmp .eq (.call 26 (.cons (.var 1) (.cons (.var 2) (.cons (.var 10) (.cons (.var 3) .nil))))) (.call 50 (.cons e53_0 .nil)))) .nil) [some (Kd.io, .none), some (Kd.ro, .int s), some (Kd.ro, .int d), some (Kd.ro, .int m), some (Kd.ro, .int w), some (Kd.ro, X), some (Kd.ro, Y), some (Kd.ro, .int f), some (Kd.own, .list R), some (Kd.ro, .tuple A), some (Kd.ro, .tuple G), some (Kd.fz, .list L), some (Kd.ro, .tuple W), o13, o14, o15, some (Kd.ro, .tuple U), some (Kd.ro, .tuple D), o18, o19, none] P = some (.rt (.bool true) P) := by
  have o1 := oT.1
  have o2 := oT.2
  simp [e_con, e_var, e_bin, e_neg, e_cmp, e_chain, e_and, e_or, e_not, e_ite, e_call, e_blt, e_isi, e_lrng, e_trng, e_tup, e_lst, e_sl, e_rev, e_every, e_ixV, e_ixC, e_ixI, e_ixL, evs_nil, evs_cons, evs_star, evs_io, evO_none, evO_some, evP_none, evP_some, evI_seq, evI_enum, evI_zip, rss_nil, rss_cons, rs_asg, rs_unp, rs_par, rs_ifs, rs_expr, rs_ret, rs_brk, rs_app, rs_while, getV, setV, isiD, copD, bx_add, bx_sub, bx_mul, bx_fdiv, bx_mod, b_lenL, b_lenT, b_abs, b_min2, b_max2, b_int, b_intB, b_listL, b_listT, b_tupL, b_tupT, b_all, b_any, b_sumL, b_sumT, unO, tb_len, MP.frs, itemsImm, imm, immL, asgD, MP.isIo, bindT, bindTs, seqOf, MP.isInt, at0, at1, at2, startE, cntIo, frzAll, fz0, wipeE, frz, frz1, MP.vars, varsS, varsO, varsI, LIM, e, k1, k2, o1, o2, iM, iT]
end K06
set_option Elab.async false
set_option linter.all false
set_option maxRecDepth 100000
/-! k06: the law's urn: the elements. -/
namespace K06
open PySem MP
variable {n : Nat} {P : PyData} {o0 o1 o2 o3 o4 o5 o6 o7 o8 o9 o10 o11 o12 o13 o14 o15 o16 o17 o18 o19 o20 : Option (Kd × PyData)}
theorem u53_13 {cl : Cl} (w t : Int) (X : PyData) (k : cl 45 [some (.int t), some (.int w)] P = some (X, P)) :
    ev cl (.call 45 (.cons (.var 20) (.cons (.var 4) .nil))) [o0, o1, o2, o3, some (Kd.ro, .int w), o5, o6, o7, o8, o9, o10, o11, o12, o13, o14, o15, o16, o17, o18, o19, some (Kd.ro, .int t)] P = some (X, P) := by
  simp [e_con, e_var, e_bin, e_neg, e_cmp, e_chain, e_and, e_or, e_not, e_ite, e_call, e_blt, e_isi, e_lrng, e_trng, e_tup, e_lst, e_sl, e_rev, e_every, e_ixV, e_ixC, e_ixI, e_ixL, evs_nil, evs_cons, evs_star, evs_io, evO_none, evO_some, evP_none, evP_some, evI_seq, evI_enum, evI_zip, rss_nil, rss_cons, rs_asg, rs_unp, rs_par, rs_ifs, rs_expr, rs_ret, rs_brk, rs_app, rs_while, getV, setV, isiD, copD, bx_add, bx_sub, bx_mul, bx_fdiv, bx_mod, b_lenL, b_lenT, b_abs, b_min2, b_max2, b_int, b_intB, b_listL, b_listT, b_tupL, b_tupT, b_all, b_any, b_sumL, b_sumT, unO, tb_len, MP.frs, itemsImm, imm, immL, asgD, MP.isIo, bindT, bindTs, seqOf, MP.isInt, at0, at1, at2, startE, cntIo, frzAll, fz0, wipeE, frz, frz1, MP.vars, varsS, varsO, varsI, LIM, k]
theorem u53_10 {cl : Cl} (i : Int) (Q X : PyData) (k : cl 48 [some (.tuple [.int i, .int 1]), some Q] P = some (X, P)) :
    ev cl (.call 48 (.cons (.tup (.cons (.var 14) (.cons (.con (.int 1)) .nil))) (.cons (.var 15) .nil))) [o0, o1, o2, o3, o4, o5, o6, o7, o8, o9, o10, o11, o12, o13, some (Kd.ro, .int i), some (Kd.ro, Q), o16, o17, o18, o19, o20] P = some (X, P) := by
  simp [e_con, e_var, e_bin, e_neg, e_cmp, e_chain, e_and, e_or, e_not, e_ite, e_call, e_blt, e_isi, e_lrng, e_trng, e_tup, e_lst, e_sl, e_rev, e_every, e_ixV, e_ixC, e_ixI, e_ixL, evs_nil, evs_cons, evs_star, evs_io, evO_none, evO_some, evP_none, evP_some, evI_seq, evI_enum, evI_zip, rss_nil, rss_cons, rs_asg, rs_unp, rs_par, rs_ifs, rs_expr, rs_ret, rs_brk, rs_app, rs_while, getV, setV, isiD, copD, bx_add, bx_sub, bx_mul, bx_fdiv, bx_mod, b_lenL, b_lenT, b_abs, b_min2, b_max2, b_int, b_intB, b_listL, b_listT, b_tupL, b_tupT, b_all, b_any, b_sumL, b_sumT, unO, tb_len, MP.frs, itemsImm, imm, immL, asgD, MP.isIo, bindT, bindTs, seqOf, MP.isInt, at0, at1, at2, startE, cntIo, frzAll, fz0, wipeE, frz, frz1, MP.vars, varsS, varsO, varsI, LIM, k]
theorem u53_9 {cl : Cl} (i : Int) (Q M X Y Z : PyData) (k1 : cl 47 [some (.tuple [.int i, .int 1]), some M] P = some (X, P)) (k2 : cl 48 [some X, some X] P = some (Y, P)) (k3 : cl 48 [some Y, some Q] P = some (Z, P)) :
    ev cl (.call 48 (.cons (.call 48 (.cons (.call 47 (.cons (.tup (.cons (.var 14) (.cons (.con (.int 1)) .nil))) (.cons (.var 5) .nil))) (.cons (.call 47 (.cons (.tup (.cons (.var 14) (.cons (.con (.int 1)) .nil))) (.cons (.var 5) .nil))) .nil))) (.cons (.var 15) .nil))) [o0, o1, o2, o3, o4, some (Kd.ro, M), o6, o7, o8, o9, o10, o11, o12, o13, some (Kd.ro, .int i), some (Kd.ro, Q), o16, o17, o18, o19, o20] P = some (Z, P) := by
  simp [e_con, e_var, e_bin, e_neg, e_cmp, e_chain, e_and, e_or, e_not, e_ite, e_call, e_blt, e_isi, e_lrng, e_trng, e_tup, e_lst, e_sl, e_rev, e_every, e_ixV, e_ixC, e_ixI, e_ixL, evs_nil, evs_cons, evs_star, evs_io, evO_none, evO_some, evP_none, evP_some, evI_seq, evI_enum, evI_zip, rss_nil, rss_cons, rs_asg, rs_unp, rs_par, rs_ifs, rs_expr, rs_ret, rs_brk, rs_app, rs_while, getV, setV, isiD, copD, bx_add, bx_sub, bx_mul, bx_fdiv, bx_mod, b_lenL, b_lenT, b_abs, b_min2, b_max2, b_int, b_intB, b_listL, b_listT, b_tupL, b_tupT, b_all, b_any, b_sumL, b_sumT, unO, tb_len, MP.frs, itemsImm, imm, immL, asgD, MP.isIo, bindT, bindTs, seqOf, MP.isInt, at0, at1, at2, startE, cntIo, frzAll, fz0, wipeE, frz, frz1, MP.vars, varsS, varsO, varsI, LIM, k1, k2, k3]
theorem u53_3 {cl : Cl} (i : PyData) (k : Nat) (f : Nat → PyData) (L : Nat) (X : PyData) (hi : i = .int (k : Int)) (iL : immL (tb L f) = true) (kk : cl 50 [some (.list (tb (L - k) fun j => f (k + j)))] P = some (X, P)) :
    ev cl (.call 50 (.cons (.sl (.var 11) (.some (.var 14)) .none) .nil)) [o0, o1, o2, o3, o4, o5, o6, o7, o8, o9, o10, some (Kd.fz, .list (tb L f)), o12, o13, some (Kd.ro, i), o15, o16, o17, o18, o19, o20] P = some (X, P) := by
  subst hi
  simp [e_con, e_var, e_bin, e_neg, e_cmp, e_chain, e_and, e_or, e_not, e_ite, e_call, e_blt, e_isi, e_lrng, e_trng, e_tup, e_lst, e_sl, e_rev, e_every, e_ixV, e_ixC, e_ixI, e_ixL, evs_nil, evs_cons, evs_star, evs_io, evO_none, evO_some, evP_none, evP_some, evI_seq, evI_enum, evI_zip, rss_nil, rss_cons, rs_asg, rs_unp, rs_par, rs_ifs, rs_expr, rs_ret, rs_brk, rs_app, rs_while, getV, setV, isiD, copD, bx_add, bx_sub, bx_mul, bx_fdiv, bx_mod, b_lenL, b_lenT, b_abs, b_min2, b_max2, b_int, b_intB, b_listL, b_listT, b_tupL, b_tupT, b_all, b_any, b_sumL, b_sumT, unO, tb_len, MP.frs, itemsImm, imm, immL, asgD, MP.isIo, bindT, bindTs, seqOf, MP.isInt, at0, at1, at2, startE, cntIo, frzAll, fz0, wipeE, frz, frz1, MP.vars, varsS, varsO, varsI, LIM, kk, cut_from, iL]
theorem u53_2 {cl : Cl} (i : PyData) (k : Nat) (f : Nat → PyData) (L : Nat) (X : PyData) (hi : i = .int (k : Int)) (iL : immL (tb L f) = true) (kk : cl 50 [some (.list (tb (min (k + 1) L) f))] P = some (X, P)) :
    ev cl (.call 50 (.cons (.sl (.var 11) .none (.some (.bin .add (.var 14) (.con (.int 1))))) .nil)) [o0, o1, o2, o3, o4, o5, o6, o7, o8, o9, o10, some (Kd.fz, .list (tb L f)), o12, o13, some (Kd.ro, i), o15, o16, o17, o18, o19, o20] P = some (X, P) := by
  subst hi
  have hc : ∀ g : Nat → PyData, cutD (tb L g) none (some ((k : Int) + 1)) = tb (min (k + 1) L) g := fun g => cut_to (k := k + 1)
  simp [e_con, e_var, e_bin, e_neg, e_cmp, e_chain, e_and, e_or, e_not, e_ite, e_call, e_blt, e_isi, e_lrng, e_trng, e_tup, e_lst, e_sl, e_rev, e_every, e_ixV, e_ixC, e_ixI, e_ixL, evs_nil, evs_cons, evs_star, evs_io, evO_none, evO_some, evP_none, evP_some, evI_seq, evI_enum, evI_zip, rss_nil, rss_cons, rs_asg, rs_unp, rs_par, rs_ifs, rs_expr, rs_ret, rs_brk, rs_app, rs_while, getV, setV, isiD, copD, bx_add, bx_sub, bx_mul, bx_fdiv, bx_mod, b_lenL, b_lenT, b_abs, b_min2, b_max2, b_int, b_intB, b_listL, b_listT, b_tupL, b_tupT, b_all, b_any, b_sumL, b_sumT, unO, tb_len, MP.frs, itemsImm, imm, immL, asgD, MP.isIo, bindT, bindTs, seqOf, MP.isInt, at0, at1, at2, startE, cntIo, frzAll, fz0, wipeE, frz, frz1, MP.vars, varsS, varsO, varsI, LIM, kk, hc, iL]
theorem u53_4 {cl : Cl} (s f t w : Int) (X : PyData) (k1 : cl 51 [some (.int s), some (.int f)] P = some (.int w, P)) (k2 : cl 45 [some (.int t), some (.int w)] P = some (X, P)) :
    ev cl (.call 45 (.cons (.var 20) (.cons (.call 51 (.cons (.var 1) (.cons (.var 7) .nil))) .nil))) [o0, some (Kd.ro, .int s), o2, o3, o4, o5, o6, some (Kd.ro, .int f), o8, o9, o10, o11, o12, o13, o14, o15, o16, o17, o18, o19, some (Kd.ro, .int t)] P = some (X, P) := by
  simp [e_con, e_var, e_bin, e_neg, e_cmp, e_chain, e_and, e_or, e_not, e_ite, e_call, e_blt, e_isi, e_lrng, e_trng, e_tup, e_lst, e_sl, e_rev, e_every, e_ixV, e_ixC, e_ixI, e_ixL, evs_nil, evs_cons, evs_star, evs_io, evO_none, evO_some, evP_none, evP_some, evI_seq, evI_enum, evI_zip, rss_nil, rss_cons, rs_asg, rs_unp, rs_par, rs_ifs, rs_expr, rs_ret, rs_brk, rs_app, rs_while, getV, setV, isiD, copD, bx_add, bx_sub, bx_mul, bx_fdiv, bx_mod, b_lenL, b_lenT, b_abs, b_min2, b_max2, b_int, b_intB, b_listL, b_listT, b_tupL, b_tupT, b_all, b_any, b_sumL, b_sumT, unO, tb_len, MP.frs, itemsImm, imm, immL, asgD, MP.isIo, bindT, bindTs, seqOf, MP.isInt, at0, at1, at2, startE, cntIo, frzAll, fz0, wipeE, frz, frz1, MP.vars, varsS, varsO, varsI, LIM, k1, k2]
theorem u53_0 {cl : Cl} (i : Int) (L : List PyData) (X : PyData) (iL : immL L = true) (hx : L2.atI L i = some X) :
    ev cl (.ix (.var 11) (.var 14)) [o0, o1, o2, o3, o4, o5, o6, o7, o8, o9, o10, some (Kd.fz, .list L), o12, o13, some (Kd.ro, .int i), o15, o16, o17, o18, o19, o20] P = some (X, P) := by
  simp [e_con, e_var, e_bin, e_neg, e_cmp, e_chain, e_and, e_or, e_not, e_ite, e_call, e_blt, e_isi, e_lrng, e_trng, e_tup, e_lst, e_sl, e_rev, e_every, e_ixV, e_ixC, e_ixI, e_ixL, evs_nil, evs_cons, evs_star, evs_io, evO_none, evO_some, evP_none, evP_some, evI_seq, evI_enum, evI_zip, rss_nil, rss_cons, rs_asg, rs_unp, rs_par, rs_ifs, rs_expr, rs_ret, rs_brk, rs_app, rs_while, getV, setV, isiD, copD, bx_add, bx_sub, bx_mul, bx_fdiv, bx_mod, b_lenL, b_lenT, b_abs, b_min2, b_max2, b_int, b_intB, b_listL, b_listT, b_tupL, b_tupT, b_all, b_any, b_sumL, b_sumT, unO, tb_len, MP.frs, itemsImm, imm, immL, asgD, MP.isIo, bindT, bindTs, seqOf, MP.isInt, at0, at1, at2, startE, cntIo, frzAll, fz0, wipeE, frz, frz1, MP.vars, varsS, varsO, varsI, LIM, hx, iL]
theorem u53_1 {cl : Cl} {P1 : PyData} (g : Int) (k : cl 41 [none, some (.int 2)] P = some (.int g, P1)) :
    evO cl (.some (.cmp .eq (.call 41 (.io 0 (.cons (.con (.int 2)) .nil))) (.con (.int 0)))) [some (Kd.io, .none), o1, o2, o3, o4, o5, o6, o7, o8, o9, o10, o11, o12, o13, o14, o15, o16, o17, o18, o19, o20] P = some (decide (g = 0), P1) := by
  have e : PyData.eqv (.int g) (.int 0) = decide (g = 0) := by
    by_cases c : g = 0 <;> simp [PyData.eqv, c]
  have e1 := fun x => (okd_int 6 x).1
  simp [e_con, e_var, e_bin, e_neg, e_cmp, e_chain, e_and, e_or, e_not, e_ite, e_call, e_blt, e_isi, e_lrng, e_trng, e_tup, e_lst, e_sl, e_rev, e_every, e_ixV, e_ixC, e_ixI, e_ixL, evs_nil, evs_cons, evs_star, evs_io, evO_none, evO_some, evP_none, evP_some, evI_seq, evI_enum, evI_zip, rss_nil, rss_cons, rs_asg, rs_unp, rs_par, rs_ifs, rs_expr, rs_ret, rs_brk, rs_app, rs_while, getV, setV, isiD, copD, bx_add, bx_sub, bx_mul, bx_fdiv, bx_mod, b_lenL, b_lenT, b_abs, b_min2, b_max2, b_int, b_intB, b_listL, b_listT, b_tupL, b_tupT, b_all, b_any, b_sumL, b_sumT, unO, tb_len, MP.frs, itemsImm, imm, immL, asgD, MP.isIo, bindT, bindTs, seqOf, MP.isInt, at0, at1, at2, startE, cntIo, frzAll, fz0, wipeE, frz, frz1, MP.vars, varsS, varsO, varsI, LIM, k, e, e1]
/-- the inner place of the double loop -/
theorem u53_7 {cl : Cl} (j : Int) (R : List PyData) (Q T X Y Z : PyData) (jn : Nat) (iR : immL R = true) (iZ : imm Z = true) (hx : L2.atI R j = some X) (k1 : cl 48 [some Q, some T] P = some (Y, P)) (k2 : cl 46 [some X, some Y] P = some (Z, P)) (h2 : L2.ixN R.length j = some jn) :
    rss cl true e53_7 [o0, o1, o2, o3, o4, o5, o6, o7, some (Kd.own, .list R), o9, o10, o11, o12, o13, o14, some (Kd.ro, Q), o16, o17, some (Kd.ro, .int j), some (Kd.ro, T), o20] P = some (.nx [o0, o1, o2, o3, o4, o5, o6, o7, some (Kd.own, .list (R.set jn Z)), o9, o10, o11, o12, o13, o14, some (Kd.ro, Q), o16, o17, some (Kd.ro, .int j), some (Kd.ro, T), o20] P) := by
  simp [e_con, e_var, e_bin, e_neg, e_cmp, e_chain, e_and, e_or, e_not, e_ite, e_call, e_blt, e_isi, e_lrng, e_trng, e_tup, e_lst, e_sl, e_rev, e_every, e_ixV, e_ixC, e_ixI, e_ixL, evs_nil, evs_cons, evs_star, evs_io, evO_none, evO_some, evP_none, evP_some, evI_seq, evI_enum, evI_zip, rss_nil, rss_cons, rs_asg, rs_unp, rs_par, rs_ifs, rs_expr, rs_ret, rs_brk, rs_app, rs_while, getV, setV, isiD, copD, bx_add, bx_sub, bx_mul, bx_fdiv, bx_mod, b_lenL, b_lenT, b_abs, b_min2, b_max2, b_int, b_intB, b_listL, b_listT, b_tupL, b_tupT, b_all, b_any, b_sumL, b_sumT, unO, tb_len, MP.frs, itemsImm, imm, immL, asgD, MP.isIo, bindT, bindTs, seqOf, MP.isInt, at0, at1, at2, startE, cntIo, frzAll, fz0, wipeE, frz, frz1, MP.vars, varsS, varsO, varsI, LIM, e53_7, rs_sub, hx, k1, k2, iR, iZ, h2]
theorem tb_set {α : Type} {m j : Nat} {h : Nat → α} {x : α} : (tb m h).set j x = tb m fun i => if i = j then x else h i := by
  refine tb_ext (by rw [List.length_set, tb_len]) fun i hi => ?_
  rw [List.getElem?_set]
  by_cases c : j = i
  · rw [if_pos c, if_pos (by rw [tb_len]; omega), if_pos c.symm]
  · rw [if_neg c, tb_get, if_pos hi, if_neg (fun e => c e.symm)]
theorem ixN_nat {m j : Nat} (h : j < m) : L2.ixN m (j : Int) = some j := by
  unfold L2.ixN
  rw [if_pos (by omega), if_pos (by omega), Int.toNat_natCast]
end K06
set_option Elab.async false
set_option linter.all false
set_option maxRecDepth 100000
/-! k06: the law's urn: lists and loops. -/
namespace K06
open PySem MP
variable {n : Nat} {P : PyData}
theorem sz_abs {A : Nat → Int} {k : Nat} : ∀ {r : Nat}, (∀ i, i < r → sm k (A i)) → (sz A r).natAbs ≤ r * 2 ^ k
  | 0, _ => Nat.zero_le _
  | r + 1, h => by
    have h1 := sz_abs (A := A) (r := r) fun i hi => h i (by omega)
    have h2 := h r (by omega)
    unfold sm at h2
    show (sz A r + A r).natAbs ≤ _
    have := Int.natAbs_add_le (sz A r) (A r)
    rw [Nat.add_mul, Nat.one_mul]
    omega
theorem sz_sm {A : Nat → Int} {k j r : Nat} (h : ∀ i, i < r → sm k (A i)) (hr : r < 2 ^ j) : ∀ i, i ≤ r → sm (k + j) (sz A i) := by
  intro i hi
  have h1 := sz_abs (A := A) (k := k) (r := i) fun t ht => h t (by omega)
  unfold sm
  rw [Nat.pow_add]
  have h2 : i * 2 ^ k < 2 ^ j * 2 ^ k := Nat.mul_lt_mul_of_pos_right (by omega) (Nat.two_pow_pos k)
  rw [Nat.mul_comm (2 ^ k)]
  omega
theorem sm_nat {k a : Nat} (h : a < 2 ^ k) : sm k (a : Nat) := by
  unfold sm
  rw [Int.natAbs_natCast]
  exact h
theorem z53_13 (s d m : Nat) (o13 o14 : Option (Kd × PyData)) (h1 : 1 ≤ s) (h2 : s ≤ 24) (h3 : 1 ≤ d) (h4 : d ≤ s) (hm : m ≤ s) :
    ev (F 53) e53_13 [some (Kd.io, .none), some (Kd.ro, .int (s : Nat)), some (Kd.ro, .int (d : Nat)), some (Kd.ro, .int (m : Nat)), some (Kd.ro, .int (ch s d : Nat)), none, none, none, none, none, none, some (Kd.own, .list (tb (d + 1) fun i => fr (dr s d m i : Nat) (ch s d : Nat))), some (Kd.ro, .tuple (tb (d + 1) fun i => .int (dr s d m i : Nat))), none, none, none, none, none, none, none, none] P = some (.list (tb (d + 1) fun i => fr (dr s d m i : Nat) (ch s d : Nat)), P) := by
  refine e_lcT rfl (f := fun i => .int (dr s d m i : Nat)) (by simp [e_con, e_var, e_bin, e_neg, e_cmp, e_chain, e_and, e_or, e_not, e_ite, e_call, e_blt, e_isi, e_lrng, e_trng, e_tup, e_lst, e_sl, e_rev, e_every, e_ixV, e_ixC, e_ixI, e_ixL, evs_nil, evs_cons, evs_star, evs_io, evO_none, evO_some, evP_none, evP_some, evI_seq, evI_enum, evI_zip, rss_nil, rss_cons, rs_asg, rs_unp, rs_par, rs_ifs, rs_expr, rs_ret, rs_brk, rs_app, rs_while, getV, setV, isiD, copD, bopD, b_lenL, b_lenT, b_abs, b_min2, b_max2, b_int, b_intB, b_listL, b_listT, b_tupL, b_tupT, b_all, b_any, b_sumL, b_sumT, unO, tb_len, MP.frs, itemsImm, imm, immL, asgD, MP.isIo, bindT, bindTs, seqOf, MP.isInt, at0, at1, at2, startE, cntIo, frzAll, fz0, wipeE, frz, frz1, MP.vars, varsS, varsO, varsI, LIM]) (by omega) fun i hi => ⟨_, rfl, rfl, ?_, rfl⟩
  have hc : 0 < ch s d := ch_pos h4
  have k45 := s45 (n := 53) (P := P) (k := 1001) (by omega) ((dr s d m i : Nat) : Int) (ch s d : Nat) (by omega) (sm_ch (by omega)) (by omega)
  exact u53_13 _ _ _ k45
/-- the middle's list -/
theorem z53_10 (s d m : Nat) (o13 o14 : Option (Kd × PyData)) (h13 : MP.isIo o13 = false) (h14 : MP.isIo o14 = false) (h1 : 1 ≤ s) (h2 : s ≤ 24) (h3 : 1 ≤ d) (h4 : d ≤ s) (hm : m ≤ s) :
    ev (F 53) e53_10 [some (Kd.io, .none), some (Kd.ro, .int (s : Nat)), some (Kd.ro, .int (d : Nat)), some (Kd.ro, .int (m : Nat)), some (Kd.ro, .int (ch s d : Nat)), none, none, none, none, none, none, some (Kd.own, .list (tb (d + 1) fun i => fr (dr s d m i : Nat) (ch s d : Nat))), some (Kd.ro, .tuple (tb (d + 1) fun i => .int (dr s d m i : Nat))), o13, o14, none, none, none, none, none, none] P = some (.list (tb (d + 1) fun i => fr ((i : Nat) * (dr s d m i : Nat)) (1 * (ch s d : Nat))), P) := by
  have hc : 0 < ch s d := ch_pos h4
  refine e_lcT (by show (MP.isIo o14 || (MP.isIo none || false)) = false; rw [h14]; rfl) (f := fun i => .tuple [.int (i : Nat), fr (dr s d m i : Nat) (ch s d : Nat)]) ?_ (by omega) fun i hi => ⟨_, rfl, rfl, ?_, rfl⟩
  · simp [e_con, e_var, e_bin, e_neg, e_cmp, e_chain, e_and, e_or, e_not, e_ite, e_call, e_blt, e_isi, e_lrng, e_trng, e_tup, e_lst, e_sl, e_rev, e_every, e_ixV, e_ixC, e_ixI, e_ixL, evs_nil, evs_cons, evs_star, evs_io, evO_none, evO_some, evP_none, evP_some, evI_seq, evI_enum, evI_zip, rss_nil, rss_cons, rs_asg, rs_unp, rs_par, rs_ifs, rs_expr, rs_ret, rs_brk, rs_app, rs_while, getV, setV, isiD, copD, bopD, b_lenL, b_lenT, b_abs, b_min2, b_max2, b_int, b_intB, b_listL, b_listT, b_tupL, b_tupT, b_all, b_any, b_sumL, b_sumT, unO, tb_len, MP.frs, itemsImm, imm, immL, asgD, MP.isIo, bindT, bindTs, seqOf, MP.isInt, at0, at1, at2, startE, cntIo, frzAll, fz0, wipeE, frz, frz1, MP.vars, varsS, varsO, varsI, LIM, tb_enum]
  · have k := s48 (n := 53) (P := P) (k := 1001) (by omega) (a := (i : Nat)) (b := 1) (c := (dr s d m i : Nat)) (d := (ch s d : Nat)) (by omega) (by omega) (by unfold sm; omega) (by unfold sm; decide) (sm_dr (by omega) hm (by omega)) (sm_ch (by omega)) (by omega)
    rw [fr_self (n := ((i : Nat) : Int)) (d := 1) (by simp)] at k
    exact u53_10 _ _ _ k
theorem z53_9 (s d m : Nat) (o13 o14 : Option (Kd × PyData)) (h13 : MP.isIo o13 = false) (h14 : MP.isIo o14 = false) (h1 : 1 ≤ s) (h2 : s ≤ 24) (h3 : 1 ≤ d) (h4 : d ≤ s) (hm : m ≤ s) :
    ev (F 53) e53_9 [some (Kd.io, .none), some (Kd.ro, .int (s : Nat)), some (Kd.ro, .int (d : Nat)), some (Kd.ro, .int (m : Nat)), some (Kd.ro, .int (ch s d : Nat)), some (Kd.ro, fr ((d : Int) * (m : Int)) (s : Nat)), none, none, none, none, none, some (Kd.own, .list (tb (d + 1) fun i => fr (dr s d m i : Nat) (ch s d : Nat))), some (Kd.ro, .tuple (tb (d + 1) fun i => .int (dr s d m i : Nat))), o13, o14, none, none, none, none, none, none] P = some (.list (tb (d + 1) fun i => fr (((i : Int) * (s : Int) - (d : Int) * (m : Int) * 1) * ((i : Int) * (s : Int) - (d : Int) * (m : Int) * 1) * (dr s d m i : Nat)) (1 * (s : Int) * (1 * (s : Int)) * (ch s d : Nat))), P) := by
  have hc : 0 < ch s d := ch_pos h4
  refine e_lcT (by show (MP.isIo o14 || (MP.isIo none || false)) = false; rw [h14]; rfl) (f := fun i => .tuple [.int (i : Nat), fr (dr s d m i : Nat) (ch s d : Nat)]) ?_ (by omega) fun i hi => ⟨_, rfl, rfl, ?_, rfl⟩
  · simp [e_con, e_var, e_bin, e_neg, e_cmp, e_chain, e_and, e_or, e_not, e_ite, e_call, e_blt, e_isi, e_lrng, e_trng, e_tup, e_lst, e_sl, e_rev, e_every, e_ixV, e_ixC, e_ixI, e_ixL, evs_nil, evs_cons, evs_star, evs_io, evO_none, evO_some, evP_none, evP_some, evI_seq, evI_enum, evI_zip, rss_nil, rss_cons, rs_asg, rs_unp, rs_par, rs_ifs, rs_expr, rs_ret, rs_brk, rs_app, rs_while, getV, setV, isiD, copD, bopD, b_lenL, b_lenT, b_abs, b_min2, b_max2, b_int, b_intB, b_listL, b_listT, b_tupL, b_tupT, b_all, b_any, b_sumL, b_sumT, unO, tb_len, MP.frs, itemsImm, imm, immL, asgD, MP.isIo, bindT, bindTs, seqOf, MP.isInt, at0, at1, at2, startE, cntIo, frzAll, fz0, wipeE, frz, frz1, MP.vars, varsS, varsO, varsI, LIM, tb_enum]
  · have c0 : sm 5 (i : Int) := by unfold sm; omega
    have c1 : sm 5 (s : Int) := by unfold sm; omega
    have c2 : sm 5 (d : Int) := by unfold sm; omega
    have c3 : sm 5 (m : Int) := by unfold sm; omega
    have c4 : sm 1 (1 : Int) := by unfold sm; decide
    have c5 : sm 12 ((i : Int) * (s : Int) - (d : Int) * (m : Int) * 1) := ((c0.mul c1).mono (by omega)).sub ((c2.mul c3).mul c4)
    have hp : (0 : Int) < 1 * (s : Int) := by omega
    have k1 := s47 (n := 53) (P := P) (k := 1001) (by omega) (a := (i : Int)) (b := 1) (c := (d : Int) * (m : Int)) (d := (s : Int)) (by omega) (by omega) (c0.mono (by omega)) (c4.mono (by omega)) ((c2.mul c3).mono (by omega)) (c1.mono (by omega)) (by omega)
    rw [fr_self (n := ((i : Nat) : Int)) (d := 1) (by simp)] at k1
    have k2 := s48 (n := 53) (P := P) (k := 1001) (by omega) hp hp (c5.mono (by omega)) ((c4.mul c1).mono (by omega)) (c5.mono (by omega)) ((c4.mul c1).mono (by omega)) (by omega)
    have k3 := s48 (n := 53) (P := P) (k := 1001) (by omega) (c := (dr s d m i : Nat)) (d := (ch s d : Nat)) (Int.mul_pos hp hp) (by omega) ((c5.mul c5).mono (by omega)) (((c4.mul c1).mul (c4.mul c1)).mono (by omega)) (sm_dr (by omega) hm (by omega)) (sm_ch (by omega)) (by omega)
    exact u53_9 _ _ _ _ _ _ k1 k2 k3
/-- the middle -/
theorem t53_mid (s d m : Nat) (h1 : 1 ≤ s) (h2 : s ≤ 24) (h3 : 1 ≤ d) (h4 : d ≤ s) (hm : m ≤ s) :
    F 53 50 [some (.list (tb (d + 1) fun i => fr ((i : Nat) * (dr s d m i : Nat)) (1 * (ch s d : Nat))))] P = some (fr ((d : Int) * (m : Int)) (s : Nat), P) := by
  have hc : 0 < ch s d := ch_pos h4
  have hk : ∀ i, i < d + 1 → sm 1100 ((i : Nat) * (dr s d m i : Nat)) := fun i hi => ((show sm 6 (i : Int) by unfold sm; omega).mul (sm_dr (s := s) (d := d) (m := m) (k := i) (by omega) hm (by omega))).mono (by omega)
  have k := s50 (n := 53) (P := P) (k := 1106) (by omega) (d + 1) (fun i => (i : Nat) * (dr s d m i : Nat)) (1 * (ch s d : Nat)) (by omega) ((sm_ch (m := s) (k := d) (by omega)).of_le (by omega) |>.mono (by omega)) (fun i hi => (hk i hi).mono (by omega)) (sz_sm (j := 6) hk (by omega)) (by omega) (by omega)
  rw [k]
  congr 2
  refine fr_eq (by omega) (by omega) ?_
  have h5 := congrArg (fun z : Nat => (z : Int)) (dr_mid (s := s) (d := d) (m := m) hm h4)
  have h6 : sz (fun i => ((i : Nat) : Int) * ((dr s d m i : Nat) : Int)) (d + 1) = ((su (fun k => k * dr s d m k) (d + 1) : Nat) : Int) := by
    rw [← sz_nat]
    exact sz_congr fun k _ => by rw [Int.natCast_mul]
  rw [h6]
  simp only [Int.natCast_mul] at h5
  rw [Int.mul_comm, h5]
  grind
theorem t53_sq (s d m : Nat) (h1 : 1 ≤ s) (h2 : s ≤ 24) (h3 : 1 ≤ d) (h4 : d ≤ s) (hm : m ≤ s) :
    ∃ Y, F 53 50 [some (.list (tb (d + 1) fun i => fr (((i : Int) * (s : Int) - (d : Int) * (m : Int) * 1) * ((i : Int) * (s : Int) - (d : Int) * (m : Int) * 1) * (dr s d m i : Nat)) (1 * (s : Int) * (1 * (s : Int)) * (ch s d : Nat))))] P = some (Y, P) ∧ imm Y = true ∧ okd 6 Y ∧
      ((1 : Int) < s → F 53 45 [some (.int ((d : Int) * m * ((s : Int) - m) * ((s : Int) - d))), some (.int ((s : Int) * s * ((s : Int) - 1)))] P = some (Y, P)) := by
  have hc : 0 < ch s d := ch_pos h4
  have c0 : sm 5 (1 : Int) := by unfold sm; decide
  have c1 : sm 5 (s : Int) := by unfold sm; omega
  have c2 : sm 5 (d : Int) := by unfold sm; omega
  have c3 : sm 5 (m : Int) := by unfold sm; omega
  have c4 : sm 1 (1 : Int) := by unfold sm; decide
  have hk : ∀ i, i < d + 1 → sm 1100 (((i : Int) * (s : Int) - (d : Int) * (m : Int) * 1) * ((i : Int) * (s : Int) - (d : Int) * (m : Int) * 1) * (dr s d m i : Nat)) := fun i hi => by
    have c5 : sm 12 ((i : Int) * (s : Int) - (d : Int) * (m : Int) * 1) := (((show sm 5 (i : Int) by unfold sm; omega).mul c1).mono (by omega)).sub ((c2.mul c3).mul c4)
    exact ((c5.mul c5).mul (sm_dr (s := s) (d := d) (m := m) (k := i) (by omega) hm (by omega))).mono (by omega)
  have hp : (0 : Int) < 1 * (s : Int) := by omega
  have hW : (0 : Int) < 1 * (s : Int) * (1 * (s : Int)) * (ch s d : Nat) := Int.mul_pos (Int.mul_pos hp hp) (by omega)
  have sW : sm 1106 (1 * (s : Int) * (1 * (s : Int)) * (ch s d : Nat)) := (((c4.mul c1).mul (c4.mul c1)).mul (sm_ch (m := s) (k := d) (by omega))).mono (by omega)
  have k := s50 (n := 53) (P := P) (k := 1106) (by omega) (d + 1) _ _ hW sW (fun i hi => (hk i hi).mono (by omega)) (sz_sm (j := 6) hk (by omega)) (by omega) (by omega)
  refine ⟨_, k, rfl, okd_fr 5 _ _, fun hs => ?_⟩
  have hs2 : (0 : Int) < (s : Int) - 1 := by omega
  have hp2 : (0 : Int) < (s : Int) := by omega
  have k2 := s45 (n := 53) (P := P) (k := 100) (by omega) ((d : Int) * m * ((s : Int) - m) * ((s : Int) - d)) ((s : Int) * s * ((s : Int) - 1)) (Int.mul_pos (Int.mul_pos hp2 hp2) hs2) (((c1.mul c1).mul (c1.sub c0)).mono (by omega)) (by omega)
  rw [k2]
  congr 2
  have h7 := dr_var (s := s) (d := d) (m := m) hm h4 (by omega)
  refine fr_eq (Int.mul_pos (Int.mul_pos hp2 hp2) hs2) hW ?_
  simp only [Int.mul_one, Int.one_mul]
  rw [← h7]
end K06
set_option Elab.async false
set_option linter.all false
set_option maxRecDepth 100000
/-! k06: the law's urn: loops. -/
namespace K06
open PySem MP
variable {n : Nat} {P : PyData}
/-- one far on, or as before -/
def aty (o : Option (Kd × PyData)) (i : Nat) (f : Nat → PyData) : Option (Kd × PyData) := if i = 0 then o else some (Kd.ro, f (i - 1))
theorem aty_succ (o : Option (Kd × PyData)) (i : Nat) (f : Nat → PyData) : aty o (i + 1) f = some (Kd.ro, f i) := by
  unfold aty
  rw [if_neg (by omega), Nat.add_sub_cancel]
theorem aty_io (o : Option (Kd × PyData)) (ho : MP.isIo o = false) (i : Nat) (f : Nat → PyData) : MP.isIo (aty o i f) = false := by
  unfold aty
  split
  · exact ho
  · rfl
theorem z53_12 (s d m : Nat) (h1 : 1 ≤ s) (h2 : s ≤ 24) (h3 : 1 ≤ d) (h4 : d ≤ s) (hm : m ≤ s) (h0 : 1 ≤ m) :
    rs (F 53) true e53_12 [some (Kd.io, .none), some (Kd.ro, .int (s : Nat)), some (Kd.ro, .int (d : Nat)), some (Kd.ro, .int (m : Nat)), some (Kd.ro, .int (ch s d : Nat)), none, none, none, none, none, none, some (Kd.own, .list (tb (d + 1) fun i => fr (dr s d m i : Nat) (ch s d : Nat))), some (Kd.ro, .tuple (tb (d + 1) fun i => .int (dr s d m i : Nat))), some (Kd.ro, .tuple (tb (m + 1) fun i => .int (dr s m d i : Nat))), none, none, none, none, none, none, none] P = some (.nx [some (Kd.io, .none), some (Kd.ro, .int (s : Nat)), some (Kd.ro, .int (d : Nat)), some (Kd.ro, .int (m : Nat)), some (Kd.ro, .int (ch s d : Nat)), none, none, none, none, none, none, some (Kd.own, .list (tb (d + 1) fun i => fr (dr s d m i : Nat) (ch s d : Nat))), some (Kd.ro, .tuple (tb (d + 1) fun i => .int (dr s d m i : Nat))), some (Kd.ro, .tuple (tb (m + 1) fun i => .int (dr s m d i : Nat))), atx (min d m + 1) fun i => .int (i : Nat), none, none, none, none, none, none] P) := by
  show rs (F 53) true (.for (.nm 14) (.rng1 (.bin .add (.blt .min2 (.cons (.var 2) (.cons (.var 3) .nil))) (.con (.int 1)))) e53_11) _ P = _
  have er : ∀ E : MP.Env, E[2]? = some (some (Kd.ro, .int (d : Nat))) → E[3]? = some (some (Kd.ro, .int (m : Nat))) → evI (F 53) (.rng1 (.bin .add (.blt .min2 (.cons (.var 2) (.cons (.var 3) .nil))) (.con (.int 1)))) E P = some (tb (min d m + 1) fun i => .int (i : Nat), P) := fun E e2 e3 => evI_r1 (m := min d m + 1) (P1 := P) (by
    have : ((if (m : Int) < (d : Int) then (m : Int) else (d : Int)) + 1) = ((min d m + 1 : Nat) : Int) := by split <;> omega
    simp [e_con, e_var, e_bin, e_neg, e_cmp, e_chain, e_and, e_or, e_not, e_ite, e_call, e_blt, e_isi, e_lrng, e_trng, e_tup, e_lst, e_sl, e_rev, e_every, e_ixV, e_ixC, e_ixI, e_ixL, evs_nil, evs_cons, evs_star, evs_io, evO_none, evO_some, evP_none, evP_some, evI_seq, evI_enum, evI_zip, rss_nil, rss_cons, rs_asg, rs_unp, rs_par, rs_ifs, rs_expr, rs_ret, rs_brk, rs_app, rs_while, getV, setV, isiD, copD, bopD, b_lenL, b_lenT, b_abs, b_min2, b_max2, b_int, b_intB, b_listL, b_listT, b_tupL, b_tupT, b_all, b_any, b_sumL, b_sumT, unO, tb_len, MP.frs, itemsImm, imm, immL, asgD, MP.isIo, bindT, bindTs, seqOf, MP.isInt, at0, at1, at2, startE, cntIo, frzAll, fz0, wipeE, frz, frz1, MP.vars, varsS, varsO, varsI, LIM, e2, e3, this]
    split <;> omega) (by omega)
  rw [rs_for (er _ rfl rfl)]
  refine for_run (fun i => [some (Kd.io, .none), some (Kd.ro, .int (s : Nat)), some (Kd.ro, .int (d : Nat)), some (Kd.ro, .int (m : Nat)), some (Kd.ro, .int (ch s d : Nat)), none, none, none, none, none, none, some (Kd.own, .list (tb (d + 1) fun i => fr (dr s d m i : Nat) (ch s d : Nat))), some (Kd.ro, .tuple (tb (d + 1) fun i => .int (dr s d m i : Nat))), some (Kd.ro, .tuple (tb (m + 1) fun i => .int (dr s m d i : Nat))), atx i fun i => .int (i : Nat), none, none, none, none, none, none]) (fun _ => P) rfl rfl fun i hi => ⟨_, bind_nm (atx_io i (fun i => .int (i : Nat))) (show 14 < 21 from by decide), ?_⟩
  have hc : 0 < ch s d := ch_pos h4
  have hcm : 0 < ch s m := ch_pos hm
  have k1 := s51 (n := 53) (P := P) (by omega) s m (by omega) (by omega)
  have k2 := s45 (n := 53) (P := P) (k := 1001) (by omega) ((dr s m d i : Nat) : Int) (ch s m : Nat) (by omega) (sm_ch (by omega)) (by omega)
  have e : fr (dr s m d i : Nat) (ch s m : Nat) = fr (dr s d m i : Nat) (ch s d : Nat) := fr_eq (by omega) (by omega) (by
    have h6 := dr_swap (s := s) (d := d) (m := m) (k := i) h4 hm (by omega) (by omega)
    rw [← Int.natCast_mul, ← Int.natCast_mul]
    exact congrArg Nat.cast h6)
  rw [e] at k2
  have hA : L2.atI (tb (m + 1) fun i => PyData.int (dr s m d i : Nat)) (i : Int) = some (.int (dr s m d i : Nat)) := by
    rw [atI_tb (by omega) (by omega), Int.toNat_natCast]
  have hL : L2.atI (tb (d + 1) fun i => fr (dr s d m i : Nat) (ch s d : Nat)) (i : Int) = some (fr (dr s d m i : Nat) (ch s d : Nat)) := by
    rw [atI_tb (by omega) (by omega), Int.toNat_natCast]
  have y := y53c2 (cl := F 53) (P := P) (s : Nat) (d : Nat) (m : Nat) (ch s d : Nat) (i : Nat) _ _ _ _ (.tuple (tb (d + 1) fun i => .int (dr s d m i : Nat))) _ hA hL (okd_fr 5 _ _) rfl (immL_tb fun _ _ => rfl) (immL_tb fun _ _ => rfl) k1 k2
  rw [atx_succ]
  exact y
/-! ### drawn again -/
def rr (s d m f k j : Nat) : Int := sz (fun i => (dr s d m i : Nat) * (dr d f i j : Nat)) k
def rx (s d m f k t j : Nat) : Int := if j < t then rr s d m f (k + 1) j else rr s d m f k j
theorem rr_sm {s d m f k j : Nat} (h2 : s ≤ 24) (h4 : d ≤ s) (hm : m ≤ s) (hf : f ≤ d) (hk : k ≤ d + 1) (hj : j ≤ f) : sm 2010 (rr s d m f k j) :=
  (sz_sm (k := 2002) (j := 8) (r := d + 1) (fun i hi => (sm_dr (s := s) (d := d) (m := m) (k := i) (by omega) hm (by omega)).mul (sm_dr (s := d) (d := f) (m := i) (k := j) (by omega) (by omega) (by omega))) (by omega) k hk)
theorem z53_8 (s d m f k : Nat) (X Y : PyData) (o13 o18 o19 : Option (Kd × PyData)) (i18 : MP.isIo o18 = false) (i19 : MP.isIo o19 = false) (h1 : 1 ≤ s) (h2 : s ≤ 24) (h3 : 1 ≤ d) (h4 : d ≤ s) (hm : m ≤ s) (hf : f ≤ d) (hf1 : 1 ≤ f) (hk : k ≤ d) :
    rs (F 53) true e53_8 [some (Kd.io, .none), some (Kd.ro, .int (s : Nat)), some (Kd.ro, .int (d : Nat)), some (Kd.ro, .int (m : Nat)), some (Kd.ro, .int (ch s d : Nat)), some (Kd.ro, X), some (Kd.ro, Y), some (Kd.ro, .int (f : Nat)), some (Kd.own, .list (tb (f + 1) fun j => fr (rr s d m f k j) ((ch s d : Nat) * (ch d f : Nat)))), none, none, some (Kd.fz, .list (tb (d + 1) fun i => fr (dr s d m i : Nat) (ch s d : Nat))), some (Kd.ro, .tuple (tb (d + 1) fun i => .int (dr s d m i : Nat))), o13, some (Kd.ro, .int (k : Nat)), some (Kd.ro, fr (dr s d m k : Nat) (ch s d : Nat)), none, none, o18, o19, none] P =
      some (.nx [some (Kd.io, .none), some (Kd.ro, .int (s : Nat)), some (Kd.ro, .int (d : Nat)), some (Kd.ro, .int (m : Nat)), some (Kd.ro, .int (ch s d : Nat)), some (Kd.ro, X), some (Kd.ro, Y), some (Kd.ro, .int (f : Nat)), some (Kd.own, .list (tb (f + 1) fun j => fr (rr s d m f (k + 1) j) ((ch s d : Nat) * (ch d f : Nat)))), none, none, some (Kd.fz, .list (tb (d + 1) fun i => fr (dr s d m i : Nat) (ch s d : Nat))), some (Kd.ro, .tuple (tb (d + 1) fun i => .int (dr s d m i : Nat))), o13, some (Kd.ro, .int (k : Nat)), some (Kd.ro, fr (dr s d m k : Nat) (ch s d : Nat)), none, none, some (Kd.ro, .int (f : Nat)), some (Kd.ro, fr (dr d f k f : Nat) (ch d f : Nat)), none] P) := by
  have hc : 0 < ch s d := ch_pos h4
  have hcf : 0 < ch d f := ch_pos hf
  have hW : (0 : Int) < (ch s d : Nat) * (ch d f : Nat) := Int.mul_pos (by omega) (by omega)
  have sW : sm 2010 (((ch s d : Nat) : Int) * (ch d f : Nat)) := ((sm_ch (m := s) (k := d) (by omega)).mul (sm_ch (m := d) (k := f) (by omega))).mono (by omega)
  have k52 := s52 (n := 53) (P := P) (by omega) d f k (by omega) hf hk
  show rs (F 53) true (.for (.tup (.cons (.nm 18) (.cons (.nm 19) .nil))) (.enum (.call 52 (.cons (.var 2) (.cons (.var 7) (.cons (.var 14) .nil))))) e53_7) _ P = _
  have er : ∀ E : MP.Env, E[2]? = some (some (Kd.ro, .int (d : Nat))) → E[7]? = some (some (Kd.ro, .int (f : Nat))) → E[14]? = some (some (Kd.ro, .int (k : Nat))) → evI (F 53) (.enum (.call 52 (.cons (.var 2) (.cons (.var 7) (.cons (.var 14) .nil))))) E P = some (tb (f + 1) fun j => .tuple [.int (j : Nat), fr (dr d f k j : Nat) (ch d f : Nat)], P) := fun E e2 e3 e4 => by
    simp [e_con, e_var, e_bin, e_neg, e_cmp, e_chain, e_and, e_or, e_not, e_ite, e_call, e_blt, e_isi, e_lrng, e_trng, e_tup, e_lst, e_sl, e_rev, e_every, e_ixV, e_ixC, e_ixI, e_ixL, evs_nil, evs_cons, evs_star, evs_io, evO_none, evO_some, evP_none, evP_some, evI_seq, evI_enum, evI_zip, rss_nil, rss_cons, rs_asg, rs_unp, rs_par, rs_ifs, rs_expr, rs_ret, rs_brk, rs_app, rs_while, getV, setV, isiD, copD, bopD, b_lenL, b_lenT, b_abs, b_min2, b_max2, b_int, b_intB, b_listL, b_listT, b_tupL, b_tupT, b_all, b_any, b_sumL, b_sumT, unO, tb_len, MP.frs, itemsImm, imm, immL, asgD, MP.isIo, bindT, bindTs, seqOf, MP.isInt, at0, at1, at2, startE, cntIo, frzAll, fz0, wipeE, frz, frz1, MP.vars, varsS, varsO, varsI, LIM, e2, e3, e4, k52, tb_enum]
  rw [rs_for (er _ rfl rfl rfl)]
  have e0 : (tb (f + 1) fun j => fr (rr s d m f k j) ((ch s d : Nat) * (ch d f : Nat))) = tb (f + 1) fun j => fr (rx s d m f k 0 j) ((ch s d : Nat) * (ch d f : Nat)) := tb_congr fun j _ => by unfold rx; rw [if_neg (by omega)]
  have e1 : (tb (f + 1) fun j => fr (rr s d m f (k + 1) j) ((ch s d : Nat) * (ch d f : Nat))) = tb (f + 1) fun j => fr (rx s d m f k (f + 1) j) ((ch s d : Nat) * (ch d f : Nat)) := tb_congr fun j hj => by unfold rx; rw [if_pos hj]
  rw [e0, e1]
  refine for_run (fun t => [some (Kd.io, .none), some (Kd.ro, .int (s : Nat)), some (Kd.ro, .int (d : Nat)), some (Kd.ro, .int (m : Nat)), some (Kd.ro, .int (ch s d : Nat)), some (Kd.ro, X), some (Kd.ro, Y), some (Kd.ro, .int (f : Nat)), some (Kd.own, .list (tb (f + 1) fun j => fr (rx s d m f k t j) ((ch s d : Nat) * (ch d f : Nat)))), none, none, some (Kd.fz, .list (tb (d + 1) fun i => fr (dr s d m i : Nat) (ch s d : Nat))), some (Kd.ro, .tuple (tb (d + 1) fun i => .int (dr s d m i : Nat))), o13, some (Kd.ro, .int (k : Nat)), some (Kd.ro, fr (dr s d m k : Nat) (ch s d : Nat)), none, none, aty o18 t fun j => .int (j : Nat), aty o19 t fun j => fr (dr d f k j : Nat) (ch d f : Nat), none]) (fun _ => P) rfl rfl fun t ht => ⟨_, bind_two (aty_io o18 i18 t fun j => .int (j : Nat)) (aty_io o19 i19 t fun j => fr (dr d f k j : Nat) (ch d f : Nat)) (show 18 < 21 from by decide) (show 19 < 21 from by decide), ?_⟩
  have k1 := s48 (n := 53) (P := P) (k := 1001) (by omega) (a := (dr s d m k : Nat)) (b := (ch s d : Nat)) (c := (dr d f k t : Nat)) (d := (ch d f : Nat)) (by omega) (by omega) (sm_dr (by omega) hm (by omega)) (sm_ch (by omega)) (sm_dr (by omega) (by omega) (by omega)) (sm_ch (by omega)) (by omega)
  have sP : sm 2010 (((dr s d m k : Nat) : Int) * (dr d f k t : Nat)) := ((sm_dr (s := s) (d := d) (m := m) (k := k) (by omega) hm (by omega)).mul (sm_dr (s := d) (d := f) (m := k) (k := t) (by omega) (by omega) (by omega))).mono (by omega)
  have k2 := s46 (n := 53) (P := P) (k := 2010) (by omega) (a := rr s d m f k t) (c := ((dr s d m k : Nat) : Int) * (dr d f k t : Nat)) hW hW (rr_sm h2 h4 hm hf (by omega) (by omega)) sW sP sW (by omega)
  have e2 : fr (rr s d m f k t * ((ch s d : Nat) * (ch d f : Nat)) + ((dr s d m k : Nat) : Int) * (dr d f k t : Nat) * ((ch s d : Nat) * (ch d f : Nat))) (((ch s d : Nat) : Int) * (ch d f : Nat) * ((ch s d : Nat) * (ch d f : Nat))) = fr (rr s d m f (k + 1) t) ((ch s d : Nat) * (ch d f : Nat)) := by
    refine fr_eq (Int.mul_pos hW hW) hW ?_
    show _ = (rr s d m f k t + ((dr s d m k : Nat) : Int) * (dr d f k t : Nat)) * _
    grind
  rw [e2] at k2
  have hx : L2.atI (tb (f + 1) fun j => fr (rx s d m f k t j) ((ch s d : Nat) * (ch d f : Nat))) (t : Int) = some (fr (rr s d m f k t) ((ch s d : Nat) * (ch d f : Nat))) := by
    rw [atI_tb (by omega) (by omega), Int.toNat_natCast]
    unfold rx
    rw [if_neg (by omega)]
  have y := u53_7 (cl := F 53) (P := P) (o0 := some (Kd.io, .none)) (o1 := some (Kd.ro, .int (s : Nat))) (o2 := some (Kd.ro, .int (d : Nat))) (o3 := some (Kd.ro, .int (m : Nat))) (o4 := some (Kd.ro, .int (ch s d : Nat))) (o5 := some (Kd.ro, X)) (o6 := some (Kd.ro, Y)) (o7 := some (Kd.ro, .int (f : Nat))) (o9 := none) (o10 := none) (o11 := some (Kd.fz, .list (tb (d + 1) fun i => fr (dr s d m i : Nat) (ch s d : Nat)))) (o12 := some (Kd.ro, .tuple (tb (d + 1) fun i => .int (dr s d m i : Nat)))) (o13 := o13) (o14 := some (Kd.ro, .int (k : Nat))) (o16 := none) (o17 := none) (o20 := none) (t : Nat) _ _ _ _ _ _ t (immL_tb fun _ _ => rfl) rfl hx k1 k2 (by rw [tb_len]; exact ixN_nat ht)
  rw [tb_set] at y
  rw [aty_succ, aty_succ]
  have e3 : (tb (f + 1) fun i => if i = t then fr (rr s d m f (k + 1) t) ((ch s d : Nat) * (ch d f : Nat)) else fr (rx s d m f k t i) ((ch s d : Nat) * (ch d f : Nat))) = tb (f + 1) fun j => fr (rx s d m f k (t + 1) j) ((ch s d : Nat) * (ch d f : Nat)) := tb_congr fun j hj => by
    unfold rx
    by_cases c : j = t
    · subst c
      rw [if_pos rfl, if_pos (by omega)]
    · rw [if_neg c]
      by_cases c2 : j < t
      · rw [if_pos c2, if_pos (by omega)]
      · rw [if_neg c2, if_neg (by omega)]
  rw [e3] at y
  exact y
theorem z53_6 (s d m f : Nat) (X Y : PyData) (o13 o14 : Option (Kd × PyData)) (i14 : MP.isIo o14 = false) (h1 : 1 ≤ s) (h2 : s ≤ 24) (h3 : 1 ≤ d) (h4 : d ≤ s) (hm : m ≤ s) (hf : f ≤ d) (hf1 : 1 ≤ f) :
    rs (F 53) true e53_6 [some (Kd.io, .none), some (Kd.ro, .int (s : Nat)), some (Kd.ro, .int (d : Nat)), some (Kd.ro, .int (m : Nat)), some (Kd.ro, .int (ch s d : Nat)), some (Kd.ro, X), some (Kd.ro, Y), some (Kd.ro, .int (f : Nat)), some (Kd.own, .list (tb (f + 1) fun _ => .tuple [.int 0, .int 1])), none, none, some (Kd.own, .list (tb (d + 1) fun i => fr (dr s d m i : Nat) (ch s d : Nat))), some (Kd.ro, .tuple (tb (d + 1) fun i => .int (dr s d m i : Nat))), o13, o14, none, none, none, none, none, none] P =
      some (.nx [some (Kd.io, .none), some (Kd.ro, .int (s : Nat)), some (Kd.ro, .int (d : Nat)), some (Kd.ro, .int (m : Nat)), some (Kd.ro, .int (ch s d : Nat)), some (Kd.ro, X), some (Kd.ro, Y), some (Kd.ro, .int (f : Nat)), some (Kd.own, .list (tb (f + 1) fun j => fr (rr s d m f (d + 1) j) ((ch s d : Nat) * (ch d f : Nat)))), none, none, some (Kd.fz, .list (tb (d + 1) fun i => fr (dr s d m i : Nat) (ch s d : Nat))), some (Kd.ro, .tuple (tb (d + 1) fun i => .int (dr s d m i : Nat))), o13, some (Kd.ro, .int (d : Nat)), some (Kd.ro, fr (dr s d m d : Nat) (ch s d : Nat)), none, none, some (Kd.ro, .int (f : Nat)), some (Kd.ro, fr (dr d f d f : Nat) (ch d f : Nat)), none] P) := by
  have hc : 0 < ch s d := ch_pos h4
  have hcf : 0 < ch d f := ch_pos hf
  have hW : (0 : Int) < (ch s d : Nat) * (ch d f : Nat) := Int.mul_pos (by omega) (by omega)
  show rs (F 53) true (.for (.tup (.cons (.nm 14) (.cons (.nm 15) .nil))) (.enum (.var 11)) e53_5) _ P = _
  have er : ∀ E : MP.Env, E[11]? = some (some (Kd.own, .list (tb (d + 1) fun i => fr (dr s d m i : Nat) (ch s d : Nat)))) → evI (F 53) (.enum (.var 11)) E P = some (tb (d + 1) fun k => .tuple [.int (k : Nat), fr (dr s d m k : Nat) (ch s d : Nat)], P) := fun E e2 => by
    simp [e_con, e_var, e_bin, e_neg, e_cmp, e_chain, e_and, e_or, e_not, e_ite, e_call, e_blt, e_isi, e_lrng, e_trng, e_tup, e_lst, e_sl, e_rev, e_every, e_ixV, e_ixC, e_ixI, e_ixL, evs_nil, evs_cons, evs_star, evs_io, evO_none, evO_some, evP_none, evP_some, evI_seq, evI_enum, evI_zip, rss_nil, rss_cons, rs_asg, rs_unp, rs_par, rs_ifs, rs_expr, rs_ret, rs_brk, rs_app, rs_while, getV, setV, isiD, copD, bopD, b_lenL, b_lenT, b_abs, b_min2, b_max2, b_int, b_intB, b_listL, b_listT, b_tupL, b_tupT, b_all, b_any, b_sumL, b_sumT, unO, tb_len, MP.frs, itemsImm, imm, immL, asgD, MP.isIo, bindT, bindTs, seqOf, MP.isInt, at0, at1, at2, startE, cntIo, frzAll, fz0, wipeE, frz, frz1, MP.vars, varsS, varsO, varsI, LIM, e2, tb_enum]
  rw [rs_for (er _ rfl)]
  have e0 : (tb (f + 1) fun _ => PyData.tuple [.int 0, .int 1]) = tb (f + 1) fun j => fr (rr s d m f 0 j) ((ch s d : Nat) * (ch d f : Nat)) := tb_congr fun j _ => by
    show _ = fr 0 _
    rw [fr_zero hW]
  rw [e0]
  refine for_run (n := d + 1) (fun k => [some (Kd.io, .none), some (Kd.ro, .int (s : Nat)), some (Kd.ro, .int (d : Nat)), some (Kd.ro, .int (m : Nat)), some (Kd.ro, .int (ch s d : Nat)), some (Kd.ro, X), some (Kd.ro, Y), some (Kd.ro, .int (f : Nat)), some (Kd.own, .list (tb (f + 1) fun j => fr (rr s d m f k j) ((ch s d : Nat) * (ch d f : Nat)))), none, none, some (Kd.fz, .list (tb (d + 1) fun i => fr (dr s d m i : Nat) (ch s d : Nat))), some (Kd.ro, .tuple (tb (d + 1) fun i => .int (dr s d m i : Nat))), o13, aty o14 k fun k => .int (k : Nat), atx k fun k => fr (dr s d m k : Nat) (ch s d : Nat), none, none, atx k fun _ => .int (f : Nat), atx k fun k => fr (dr d f k f : Nat) (ch d f : Nat), none]) (fun _ => P) rfl rfl fun k hk => ⟨_, bind_two (aty_io o14 i14 k fun k => .int (k : Nat)) (atx_io k fun k => fr (dr s d m k : Nat) (ch s d : Nat)) (show 14 < 21 from by decide) (show 15 < 21 from by decide), ?_⟩
  have y := z53_8 (P := P) s d m f k X Y o13 (atx k fun _ => .int (f : Nat)) (atx k fun k => fr (dr d f k f : Nat) (ch d f : Nat)) (atx_io k _) (atx_io k _) h1 h2 h3 h4 hm hf hf1 (by omega)
  rw [aty_succ, atx_succ, atx_succ, atx_succ]
  exact (rss_step (r := .nil) y).trans rfl
end K06
set_option Elab.async false
set_option linter.all false
set_option maxRecDepth 100000
/-! k06: the law's urn, whole. -/
namespace K06
open PySem MP
variable {n : Nat} {P : PyData}
theorem e_lcR {cl : Cl} {E : MP.Env} {elt : Ex} {tg : Tg} {it : Ito} {cond : Exo} {own : List Nat} {ds r : List PyData} {P1 P2 : PyData} (h0 : (own.any fun i => MP.isIo (E.getD i none)) = false) (hi : evI cl it E P = some (ds, P1))
    (h : lcFold (fun d => bindT tg d (wipeE (frzAll E) own)) (evO cl cond) (ev cl elt) ds [] P1 = some (r, P2)) : ev cl (.lc elt tg it cond own) E P = some (.list r, P2) := by
  unfold ev
  rw [h0, if_neg Bool.false_ne_true, hi]
  show (lcFold _ _ _ _ [] P1).map _ = _
  rw [h]
  rfl
/-- some of all, by the pot -/
theorem lc_pick {bind : PyData → Option MP.Env} {test : MP.Env → PyData → Option (Bool × PyData)} {elt : MP.Env → PyData → Option (PyData × PyData)} :
    ∀ {k o : Nat} {B : Nat} {P : PyData} {r : Nat} {f : Nat → Nat}, (∀ i, i < k → ∃ E1, bind (.int ((o + i : Nat) : Int)) = some E1 ∧ (∀ P, elt E1 P = some (.int ((o + i : Nat) : Int), P)) ∧ ∀ (B : Nat) (P : PyData), Pot B P → B < 100000 → ∃ b P', test E1 P = some (b, P') ∧ Pot (B + 1) P') →
      Pot B P → B + k ≤ 100000 → r ≤ o → o + k ≤ 1000 → (∀ i, i < r → f i < o) → (∀ i, i + 1 < r → f i < f (i + 1)) →
      ∃ (r' : Nat) (f' : Nat → Nat) (P' : PyData), lcFold bind test elt (tb k fun i => .int ((o + i : Nat) : Int)) (tb r fun i => .int (f i : Nat)) P = some (tb r' fun i => .int (f' i : Nat), P') ∧ (∀ i, i < r' → f' i < o + k) ∧ (∀ i, i + 1 < r' → f' i < f' (i + 1)) ∧ Pot (B + k) P'
  | 0, o, B, P, r, f, _, hP, _, _, _, h1, h2 => ⟨r, f, P, rfl, h1, h2, hP⟩
  | k + 1, o, B, P, r, f, h, hP, hB, hr, hl, h1, h2 => by
    obtain ⟨E1, e1, e2, e3⟩ := h 0 (by omega)
    obtain ⟨b, P1, e4, hP1⟩ := e3 B P hP (by omega)
    have hn : ∀ i, i < k → ∃ E1, bind (.int ((o + 1 + i : Nat) : Int)) = some E1 ∧ (∀ P, elt E1 P = some (.int ((o + 1 + i : Nat) : Int), P)) ∧ ∀ (B : Nat) (P : PyData), Pot B P → B < 100000 → ∃ b P', test E1 P = some (b, P') ∧ Pot (B + 1) P' := fun i hi => by
      have := h (i + 1) (by omega)
      rw [show o + (i + 1) = o + 1 + i from by omega] at this
      exact this
    have et : (tb k fun i => PyData.int ((o + (i + 1) : Nat) : Int)) = tb k fun i => .int ((o + 1 + i : Nat) : Int) := tb_congr fun i _ => by rw [show o + (i + 1) = o + 1 + i from by omega]
    rw [tb_succ, et]
    unfold lcFold
    rw [e1]
    dsimp only
    rw [e4]
    cases b with
    | false =>
      dsimp only
      obtain ⟨r', f', P', g1, g2, g3, g4⟩ := lc_pick (o := o + 1) (r := r) (f := f) hn hP1 (by omega) (by omega) (by omega) (fun i hi => by have := h1 i hi; omega) h2
      exact ⟨r', f', P', g1, fun i hi => by have := g2 i hi; omega, g3, by rw [show B + (k + 1) = B + 1 + k from by omega]; exact g4⟩
    | true =>
      dsimp only
      rw [e2]
      dsimp only
      rw [show imm (.int ((o + 0 : Nat) : Int)) = true from rfl, decide_eq_true (show (tb r fun i => PyData.int (f i : Nat)).length < LIM from by rw [tb_len]; unfold LIM; omega), Bool.and_self, if_pos rfl]
      have e5 : (tb r fun i => PyData.int (f i : Nat)) ++ [.int ((o + 0 : Nat) : Int)] = tb (r + 1) fun i => .int ((if i < r then f i else o : Nat) : Int) := by
        rw [tb_snoc, if_neg (Nat.lt_irrefl r)]
        congr 1
        exact tb_congr fun i hi => by rw [if_pos hi]
      rw [e5]
      obtain ⟨r', f', P', g1, g2, g3, g4⟩ := lc_pick (o := o + 1) (r := r + 1) (f := fun i => if i < r then f i else o) hn hP1 (by omega) (by omega) (by omega) (fun i hi => by
        show (if i < r then f i else o) < _
        split
        · rename_i c
          have := h1 i c
          omega
        · omega) (fun i hi => by
        show (if i < r then f i else o) < (if i + 1 < r then f (i + 1) else o)
        rw [if_pos (show i < r from by omega)]
        split
        · rename_i c
          exact h2 i c
        · exact h1 i (by omega))
      exact ⟨r', f', P', g1, fun i hi => by have := g2 i hi; omega, g3, by rw [show B + (k + 1) = B + 1 + k from by omega]; exact g4⟩
theorem z53_1 {B : Nat} (hP : Pot B P) (hB : B < 90000) (s d m f : Nat) (X Y : PyData) (o13 o14 o15 o18 o19 : Option (Kd × PyData)) (i13 : MP.isIo o13 = false) (i14 : MP.isIo o14 = false) (i15 : MP.isIo o15 = false) (i18 : MP.isIo o18 = false) (i19 : MP.isIo o19 = false) (h1 : 1 ≤ s) (h2 : s ≤ 24) (h3 : 1 ≤ d) (h4 : d ≤ s) (hm : m ≤ s) (hf1 : 1 ≤ f) (hf : f ≤ d) :
    ∃ r g P', Reg d r g ∧ ev (F 53) e53_1 [some (Kd.io, .none), some (Kd.ro, .int (s : Nat)), some (Kd.ro, .int (d : Nat)), some (Kd.ro, .int (m : Nat)), some (Kd.ro, .int (ch s d : Nat)), some (Kd.ro, X), some (Kd.ro, Y), some (Kd.ro, .int (f : Nat)), some (Kd.own, .list (tb (f + 1) fun j => fr (rr s d m f (d + 1) j) ((ch s d : Nat) * (ch d f : Nat)))), some (Kd.ro, .tuple (tb (f + 1) fun i => .int (dr s f m i : Nat))), none, some (Kd.fz, .list (tb (d + 1) fun i => fr (dr s d m i : Nat) (ch s d : Nat))), some (Kd.ro, .tuple (tb (d + 1) fun i => .int (dr s d m i : Nat))), o13, o14, o15, some (Kd.ro, .tuple (tb (d + 1) fun e => fr (tl s d m e : Nat) (ch s d : Nat))), some (Kd.ro, .tuple (tb (d + 1) fun e => fr (hd s d m e : Nat) (ch s d : Nat))), o18, o19, none] P = some (.list (tb r fun i => .int (g i : Nat)), P') ∧ Pot (B + (d + 1)) P' := by
  have hb : ∀ i, i < d + 1 → ∃ E1, bindT (.nm 14) (.int ((0 + i : Nat) : Int)) (wipeE (frzAll [some (Kd.io, .none), some (Kd.ro, .int (s : Nat)), some (Kd.ro, .int (d : Nat)), some (Kd.ro, .int (m : Nat)), some (Kd.ro, .int (ch s d : Nat)), some (Kd.ro, X), some (Kd.ro, Y), some (Kd.ro, .int (f : Nat)), some (Kd.own, .list (tb (f + 1) fun j => fr (rr s d m f (d + 1) j) ((ch s d : Nat) * (ch d f : Nat)))), some (Kd.ro, .tuple (tb (f + 1) fun i => .int (dr s f m i : Nat))), none, some (Kd.fz, .list (tb (d + 1) fun i => fr (dr s d m i : Nat) (ch s d : Nat))), some (Kd.ro, .tuple (tb (d + 1) fun i => .int (dr s d m i : Nat))), o13, o14, o15, some (Kd.ro, .tuple (tb (d + 1) fun e => fr (tl s d m e : Nat) (ch s d : Nat))), some (Kd.ro, .tuple (tb (d + 1) fun e => fr (hd s d m e : Nat) (ch s d : Nat))), o18, o19, none]) [14]) = some E1 ∧ (∀ P, ev (F 53) (.var 14) E1 P = some (.int ((0 + i : Nat) : Int), P)) ∧ ∀ (B : Nat) (P : PyData), Pot B P → B < 100000 → ∃ b P', evO (F 53) (.some (.cmp .eq (.call 41 (.io 0 (.cons (.con (.int 2)) .nil))) (.con (.int 0)))) E1 P = some (b, P') ∧ Pot (B + 1) P' := fun i hi => ⟨_, rfl, fun P => rfl, fun B P hP hB => by
    obtain ⟨g, P1, k, hg, hP1⟩ := s41 (n := 53) (by omega) hP hB 2 (by omega) (by omega)
    exact ⟨_, P1, u53_1 _ k, hP1⟩⟩
  obtain ⟨r, g, P', g1, g2, g3, g4⟩ := lc_pick (bind := fun x => bindT (.nm 14) x (wipeE (frzAll [some (Kd.io, .none), some (Kd.ro, .int (s : Nat)), some (Kd.ro, .int (d : Nat)), some (Kd.ro, .int (m : Nat)), some (Kd.ro, .int (ch s d : Nat)), some (Kd.ro, X), some (Kd.ro, Y), some (Kd.ro, .int (f : Nat)), some (Kd.own, .list (tb (f + 1) fun j => fr (rr s d m f (d + 1) j) ((ch s d : Nat) * (ch d f : Nat)))), some (Kd.ro, .tuple (tb (f + 1) fun i => .int (dr s f m i : Nat))), none, some (Kd.fz, .list (tb (d + 1) fun i => fr (dr s d m i : Nat) (ch s d : Nat))), some (Kd.ro, .tuple (tb (d + 1) fun i => .int (dr s d m i : Nat))), o13, o14, o15, some (Kd.ro, .tuple (tb (d + 1) fun e => fr (tl s d m e : Nat) (ch s d : Nat))), some (Kd.ro, .tuple (tb (d + 1) fun e => fr (hd s d m e : Nat) (ch s d : Nat))), o18, o19, none]) [14])) (test := evO (F 53) (.some (.cmp .eq (.call 41 (.io 0 (.cons (.con (.int 2)) .nil))) (.con (.int 0))))) (elt := ev (F 53) (.var 14)) (k := d + 1) (o := 0) (r := 0) (f := fun _ => 0) hb hP (by omega) (by omega) (by omega) (fun i hi => by omega) (fun i hi => by omega)
  refine ⟨r, g, P', ⟨fun i hi => by have := g2 i hi; omega, g3⟩, ?_, g4⟩
  refine e_lcR (ds := tb (d + 1) fun i => .int ((0 + i : Nat) : Int)) (P1 := P) ?_ ?_ g1
  · show (MP.isIo o14 || false) = false
    rw [i14]
    rfl
  · rw [evI_r1 (m := d + 1) (P1 := P) (by simp [e_con, e_var, e_bin, e_neg, e_cmp, e_chain, e_and, e_or, e_not, e_ite, e_call, e_blt, e_isi, e_lrng, e_trng, e_tup, e_lst, e_sl, e_rev, e_every, e_ixV, e_ixC, e_ixI, e_ixL, evs_nil, evs_cons, evs_star, evs_io, evO_none, evO_some, evP_none, evP_some, evI_seq, evI_enum, evI_zip, rss_nil, rss_cons, rs_asg, rs_unp, rs_par, rs_ifs, rs_expr, rs_ret, rs_brk, rs_app, rs_while, getV, setV, isiD, copD, bopD, b_lenL, b_lenT, b_abs, b_min2, b_max2, b_int, b_intB, b_listL, b_listT, b_tupL, b_tupT, b_all, b_any, b_sumL, b_sumT, unO, tb_len, MP.frs, itemsImm, imm, immL, asgD, MP.isIo, bindT, bindTs, seqOf, MP.isInt, at0, at1, at2, startE, cntIo, frzAll, fz0, wipeE, frz, frz1, MP.vars, varsS, varsO, varsI, LIM]) (by omega)]
    congr 2
    exact tb_congr fun i _ => by rw [Nat.zero_add]
theorem z53_0 (s d m f r : Nat) (g : Nat → Nat) (X Y : PyData) (o13 o14 o15 o18 o19 : Option (Kd × PyData)) (i13 : MP.isIo o13 = false) (i14 : MP.isIo o14 = false) (i15 : MP.isIo o15 = false) (i18 : MP.isIo o18 = false) (i19 : MP.isIo o19 = false) (h1 : 1 ≤ s) (h2 : s ≤ 24) (h3 : 1 ≤ d) (h4 : d ≤ s) (hm : m ≤ s) (hf1 : 1 ≤ f) (hf : f ≤ d) (R : Reg d r g) :
    ev (F 53) e53_0 [some (Kd.io, .none), some (Kd.ro, .int (s : Nat)), some (Kd.ro, .int (d : Nat)), some (Kd.ro, .int (m : Nat)), some (Kd.ro, .int (ch s d : Nat)), some (Kd.ro, X), some (Kd.ro, Y), some (Kd.ro, .int (f : Nat)), some (Kd.own, .list (tb (f + 1) fun j => fr (rr s d m f (d + 1) j) ((ch s d : Nat) * (ch d f : Nat)))), some (Kd.ro, .tuple (tb (f + 1) fun i => .int (dr s f m i : Nat))), some (Kd.ro, .tuple (tb r fun i => .int (g i : Nat))), some (Kd.fz, .list (tb (d + 1) fun i => fr (dr s d m i : Nat) (ch s d : Nat))), some (Kd.ro, .tuple (tb (d + 1) fun i => .int (dr s d m i : Nat))), o13, o14, o15, some (Kd.ro, .tuple (tb (d + 1) fun e => fr (tl s d m e : Nat) (ch s d : Nat))), some (Kd.ro, .tuple (tb (d + 1) fun e => fr (hd s d m e : Nat) (ch s d : Nat))), o18, o19, none] P = some (.list (tb r fun i => fr (dr s d m (g i) : Nat) (ch s d : Nat)), P) := by
  have := R.num
  refine e_lcT (by show (MP.isIo o14 || false) = false; rw [i14]; rfl) (f := fun i => .int (g i : Nat)) (by simp [e_con, e_var, e_bin, e_neg, e_cmp, e_chain, e_and, e_or, e_not, e_ite, e_call, e_blt, e_isi, e_lrng, e_trng, e_tup, e_lst, e_sl, e_rev, e_every, e_ixV, e_ixC, e_ixI, e_ixL, evs_nil, evs_cons, evs_star, evs_io, evO_none, evO_some, evP_none, evP_some, evI_seq, evI_enum, evI_zip, rss_nil, rss_cons, rs_asg, rs_unp, rs_par, rs_ifs, rs_expr, rs_ret, rs_brk, rs_app, rs_while, getV, setV, isiD, copD, bopD, b_lenL, b_lenT, b_abs, b_min2, b_max2, b_int, b_intB, b_listL, b_listT, b_tupL, b_tupT, b_all, b_any, b_sumL, b_sumT, unO, tb_len, MP.frs, itemsImm, imm, immL, asgD, MP.isIo, bindT, bindTs, seqOf, MP.isInt, at0, at1, at2, startE, cntIo, frzAll, fz0, wipeE, frz, frz1, MP.vars, varsS, varsO, varsI, LIM]) (by omega) fun i hi => ⟨_, rfl, rfl, ?_, rfl⟩
  have := R.le i hi
  exact u53_0 (g i : Nat) _ _ (immL_tb fun _ _ => rfl) (by rw [atI_tb (by omega) (by omega), Int.toNat_natCast])
theorem t53_0 (s d m r : Nat) (g : Nat → Nat) (h1 : 1 ≤ s) (h2 : s ≤ 24) (h3 : 1 ≤ d) (h4 : d ≤ s) (hm : m ≤ s) (R : Reg d r g) : F 53 50 [some (.list (tb r fun i => fr (dr s d m (g i) : Nat) (ch s d : Nat)))] P = some (fr (rg s d m r g : Nat) (ch s d : Nat), P) := by
  have hr := R.num
  have hc : 0 < ch s d := ch_pos h4
  have hk : ∀ i, i < r → sm 1001 (dr s d m (g i) : Nat) := fun i hi => sm_dr (by omega) hm (R.le i hi)
  have k := s50 (n := 53) (P := P) (k := 1007) (by omega) r (fun i => (dr s d m (g i) : Nat)) (ch s d : Nat) (by omega) ((sm_ch (m := s) (k := d) (by omega)).mono (by omega)) (fun i hi => (hk i hi).mono (by omega)) (sz_sm (j := 6) hk (by omega)) (by omega) (by omega)
  rw [k, sz_nat]
  rfl
theorem z53_3 (s d m f : Nat) (X Y : PyData) (o13 o14 o15 o18 o19 : Option (Kd × PyData)) (i13 : MP.isIo o13 = false) (i14 : MP.isIo o14 = false) (i15 : MP.isIo o15 = false) (i18 : MP.isIo o18 = false) (i19 : MP.isIo o19 = false) (h1 : 1 ≤ s) (h2 : s ≤ 24) (h3 : 1 ≤ d) (h4 : d ≤ s) (hm : m ≤ s) (hf1 : 1 ≤ f) (hf : f ≤ d) : ev (F 53) e53_3 [some (Kd.io, .none), some (Kd.ro, .int (s : Nat)), some (Kd.ro, .int (d : Nat)), some (Kd.ro, .int (m : Nat)), some (Kd.ro, .int (ch s d : Nat)), some (Kd.ro, X), some (Kd.ro, Y), some (Kd.ro, .int (f : Nat)), some (Kd.own, .list (tb (f + 1) fun j => fr (rr s d m f (d + 1) j) ((ch s d : Nat) * (ch d f : Nat)))), some (Kd.ro, .tuple (tb (f + 1) fun i => .int (dr s f m i : Nat))), none, some (Kd.fz, .list (tb (d + 1) fun i => fr (dr s d m i : Nat) (ch s d : Nat))), some (Kd.ro, .tuple (tb (d + 1) fun i => .int (dr s d m i : Nat))), o13, o14, o15, some (Kd.ro, .tuple (tb (d + 1) fun e => fr (tl s d m e : Nat) (ch s d : Nat))), some (Kd.ro, .tuple (tb (d + 1) fun e => fr (hd s d m e : Nat) (ch s d : Nat))), o18, o19, none] P = some (.list (tb (d + 1) fun e => fr (tl s d m e : Nat) (ch s d : Nat)), P) := by
  have hc : 0 < ch s d := ch_pos h4
  refine e_lcT (by show (MP.isIo o14 || false) = false; rw [i14]; rfl) (f := fun i => .int (i : Nat)) (evI_r1 (m := d + 1) (by simp [e_con, e_var, e_bin, e_neg, e_cmp, e_chain, e_and, e_or, e_not, e_ite, e_call, e_blt, e_isi, e_lrng, e_trng, e_tup, e_lst, e_sl, e_rev, e_every, e_ixV, e_ixC, e_ixI, e_ixL, evs_nil, evs_cons, evs_star, evs_io, evO_none, evO_some, evP_none, evP_some, evI_seq, evI_enum, evI_zip, rss_nil, rss_cons, rs_asg, rs_unp, rs_par, rs_ifs, rs_expr, rs_ret, rs_brk, rs_app, rs_while, getV, setV, isiD, copD, bopD, b_lenL, b_lenT, b_abs, b_min2, b_max2, b_int, b_intB, b_listL, b_listT, b_tupL, b_tupT, b_all, b_any, b_sumL, b_sumT, unO, tb_len, MP.frs, itemsImm, imm, immL, asgD, MP.isIo, bindT, bindTs, seqOf, MP.isInt, at0, at1, at2, startE, cntIo, frzAll, fz0, wipeE, frz, frz1, MP.vars, varsS, varsO, varsI, LIM]) (by omega)) (by omega) fun e he => ⟨_, rfl, rfl, ?_, rfl⟩
  refine u53_3 _ e _ _ _ rfl (immL_tb fun _ _ => rfl) ?_
  have hk : ∀ i, i < d + 1 - e → sm 1001 (dr s d m (e + i) : Nat) := fun i hi => sm_dr (by omega) hm (by omega)
  have k := s50 (n := 53) (P := P) (k := 1007) (by omega) (d + 1 - e) (fun j => (dr s d m (e + j) : Nat)) (ch s d : Nat) (by omega) ((sm_ch (m := s) (k := d) (by omega)).mono (by omega)) (fun i hi => (hk i hi).mono (by omega)) (sz_sm (j := 6) hk (by omega)) (by omega) (by omega)
  rw [k, sz_nat]
  rfl
theorem z53_2 (s d m f : Nat) (X Y : PyData) (o13 o14 o15 o18 o19 : Option (Kd × PyData)) (i13 : MP.isIo o13 = false) (i14 : MP.isIo o14 = false) (i15 : MP.isIo o15 = false) (i18 : MP.isIo o18 = false) (i19 : MP.isIo o19 = false) (h1 : 1 ≤ s) (h2 : s ≤ 24) (h3 : 1 ≤ d) (h4 : d ≤ s) (hm : m ≤ s) (hf1 : 1 ≤ f) (hf : f ≤ d) : ev (F 53) e53_2 [some (Kd.io, .none), some (Kd.ro, .int (s : Nat)), some (Kd.ro, .int (d : Nat)), some (Kd.ro, .int (m : Nat)), some (Kd.ro, .int (ch s d : Nat)), some (Kd.ro, X), some (Kd.ro, Y), some (Kd.ro, .int (f : Nat)), some (Kd.own, .list (tb (f + 1) fun j => fr (rr s d m f (d + 1) j) ((ch s d : Nat) * (ch d f : Nat)))), some (Kd.ro, .tuple (tb (f + 1) fun i => .int (dr s f m i : Nat))), none, some (Kd.fz, .list (tb (d + 1) fun i => fr (dr s d m i : Nat) (ch s d : Nat))), some (Kd.ro, .tuple (tb (d + 1) fun i => .int (dr s d m i : Nat))), o13, o14, o15, some (Kd.ro, .tuple (tb (d + 1) fun e => fr (tl s d m e : Nat) (ch s d : Nat))), some (Kd.ro, .tuple (tb (d + 1) fun e => fr (hd s d m e : Nat) (ch s d : Nat))), o18, o19, none] P = some (.list (tb (d + 1) fun e => fr (hd s d m e : Nat) (ch s d : Nat)), P) := by
  have hc : 0 < ch s d := ch_pos h4
  refine e_lcT (by show (MP.isIo o14 || false) = false; rw [i14]; rfl) (f := fun i => .int (i : Nat)) (evI_r1 (m := d + 1) (by simp [e_con, e_var, e_bin, e_neg, e_cmp, e_chain, e_and, e_or, e_not, e_ite, e_call, e_blt, e_isi, e_lrng, e_trng, e_tup, e_lst, e_sl, e_rev, e_every, e_ixV, e_ixC, e_ixI, e_ixL, evs_nil, evs_cons, evs_star, evs_io, evO_none, evO_some, evP_none, evP_some, evI_seq, evI_enum, evI_zip, rss_nil, rss_cons, rs_asg, rs_unp, rs_par, rs_ifs, rs_expr, rs_ret, rs_brk, rs_app, rs_while, getV, setV, isiD, copD, bopD, b_lenL, b_lenT, b_abs, b_min2, b_max2, b_int, b_intB, b_listL, b_listT, b_tupL, b_tupT, b_all, b_any, b_sumL, b_sumT, unO, tb_len, MP.frs, itemsImm, imm, immL, asgD, MP.isIo, bindT, bindTs, seqOf, MP.isInt, at0, at1, at2, startE, cntIo, frzAll, fz0, wipeE, frz, frz1, MP.vars, varsS, varsO, varsI, LIM]) (by omega)) (by omega) fun e he => ⟨_, rfl, rfl, ?_, rfl⟩
  refine u53_2 _ e _ _ _ rfl (immL_tb fun _ _ => rfl) ?_
  have hk : ∀ i, i < e + 1 → sm 1001 (dr s d m i : Nat) := fun i hi => sm_dr (by omega) hm (by omega)
  have k := s50 (n := 53) (P := P) (k := 1007) (by omega) (e + 1) (fun j => (dr s d m j : Nat)) (ch s d : Nat) (by omega) ((sm_ch (m := s) (k := d) (by omega)).mono (by omega)) (fun i hi => (hk i hi).mono (by omega)) (sz_sm (j := 6) hk (by omega)) (by omega) (by omega)
  rw [show min (e + 1) (d + 1) = e + 1 from by omega, k, sz_nat]
  rfl
theorem z53_4 (s d m f : Nat) (X Y : PyData) (o13 o14 o15 o18 o19 : Option (Kd × PyData)) (i13 : MP.isIo o13 = false) (i14 : MP.isIo o14 = false) (i15 : MP.isIo o15 = false) (i18 : MP.isIo o18 = false) (i19 : MP.isIo o19 = false) (h1 : 1 ≤ s) (h2 : s ≤ 24) (h3 : 1 ≤ d) (h4 : d ≤ s) (hm : m ≤ s) (hf1 : 1 ≤ f) (hf : f ≤ d) : ev (F 53) e53_4 [some (Kd.io, .none), some (Kd.ro, .int (s : Nat)), some (Kd.ro, .int (d : Nat)), some (Kd.ro, .int (m : Nat)), some (Kd.ro, .int (ch s d : Nat)), some (Kd.ro, X), some (Kd.ro, Y), some (Kd.ro, .int (f : Nat)), some (Kd.own, .list (tb (f + 1) fun j => fr (rr s d m f (d + 1) j) ((ch s d : Nat) * (ch d f : Nat)))), some (Kd.ro, .tuple (tb (f + 1) fun i => .int (dr s f m i : Nat))), none, some (Kd.fz, .list (tb (d + 1) fun i => fr (dr s d m i : Nat) (ch s d : Nat))), some (Kd.ro, .tuple (tb (d + 1) fun i => .int (dr s d m i : Nat))), o13, o14, o15, none, none, o18, o19, none] P = some (.list (tb (f + 1) fun j => fr (rr s d m f (d + 1) j) ((ch s d : Nat) * (ch d f : Nat))), P) := by
  have hc : 0 < ch s d := ch_pos h4
  have hcf : 0 < ch d f := ch_pos hf
  have hcs : 0 < ch s f := ch_pos (by omega)
  refine e_lcT rfl (f := fun i => .int (dr s f m i : Nat)) (by simp [e_con, e_var, e_bin, e_neg, e_cmp, e_chain, e_and, e_or, e_not, e_ite, e_call, e_blt, e_isi, e_lrng, e_trng, e_tup, e_lst, e_sl, e_rev, e_every, e_ixV, e_ixC, e_ixI, e_ixL, evs_nil, evs_cons, evs_star, evs_io, evO_none, evO_some, evP_none, evP_some, evI_seq, evI_enum, evI_zip, rss_nil, rss_cons, rs_asg, rs_unp, rs_par, rs_ifs, rs_expr, rs_ret, rs_brk, rs_app, rs_while, getV, setV, isiD, copD, bopD, b_lenL, b_lenT, b_abs, b_min2, b_max2, b_int, b_intB, b_listL, b_listT, b_tupL, b_tupT, b_all, b_any, b_sumL, b_sumT, unO, tb_len, MP.frs, itemsImm, imm, immL, asgD, MP.isIo, bindT, bindTs, seqOf, MP.isInt, at0, at1, at2, startE, cntIo, frzAll, fz0, wipeE, frz, frz1, MP.vars, varsS, varsO, varsI, LIM]) (by omega) fun j hj => ⟨_, rfl, rfl, ?_, rfl⟩
  have k1 := s51 (n := 53) (P := P) (by omega) s f (by omega) (by omega)
  have k2 := s45 (n := 53) (P := P) (k := 1001) (by omega) ((dr s f m j : Nat) : Int) (ch s f : Nat) (by omega) (sm_ch (by omega)) (by omega)
  have e : fr (dr s f m j : Nat) (ch s f : Nat) = fr (rr s d m f (d + 1) j) ((ch s d : Nat) * (ch d f : Nat)) := fr_eq (by omega) (Int.mul_pos (by omega) (by omega)) (by
    have h6 := congrArg (fun z : Nat => (z : Int)) (dr_dr' (s := s) (d := d) (m := m) (f := f) (j := j) hm h4 hf (by omega))
    have h7 : rr s d m f (d + 1) j = ((su (fun k => dr s d m k * dr d f k j) (d + 1) : Nat) : Int) := by
      unfold rr
      rw [← sz_nat]
      exact sz_congr fun k _ => by rw [Int.natCast_mul]
    simp only [Int.natCast_mul] at h6
    rw [h7, ← h6])
  rw [e] at k2
  exact u53_4 _ _ _ _ _ k1 k2
theorem y53a2 {cl : Cl} {s d m w : Int} {L W : PyData} (k : cl 51 [some (.int s), some (.int d)] P = some (.int w, P)) :
    rs cl true (.asg 4 (.call 51 (.cons (.var 1) (.cons (.var 2) .nil)))) [some (Kd.io, .none), some (Kd.ro, .int s), some (Kd.ro, .int d), some (Kd.ro, .int m), none, none, none, none, none, none, none, some (Kd.own, L), some (Kd.ro, W), none, none, none, none, none, none, none, none] P = some (.nx [some (Kd.io, .none), some (Kd.ro, .int s), some (Kd.ro, .int d), some (Kd.ro, .int m), some (Kd.ro, .int w), none, none, none, none, none, none, some (Kd.own, L), some (Kd.ro, W), none, none, none, none, none, none, none, none] P) := by
  simp [e_con, e_var, e_bin, e_neg, e_cmp, e_chain, e_and, e_or, e_not, e_ite, e_call, e_blt, e_isi, e_lrng, e_trng, e_tup, e_lst, e_sl, e_rev, e_every, e_ixV, e_ixC, e_ixI, e_ixL, evs_nil, evs_cons, evs_star, evs_io, evO_none, evO_some, evP_none, evP_some, evI_seq, evI_enum, evI_zip, rss_nil, rss_cons, rs_asg, rs_unp, rs_par, rs_ifs, rs_expr, rs_ret, rs_brk, rs_app, rs_while, getV, setV, isiD, copD, bopD, b_lenL, b_lenT, b_abs, b_min2, b_max2, b_int, b_intB, b_listL, b_listT, b_tupL, b_tupT, b_all, b_any, b_sumL, b_sumT, unO, tb_len, MP.frs, itemsImm, imm, immL, asgD, MP.isIo, bindT, bindTs, seqOf, MP.isInt, at0, at1, at2, startE, cntIo, frzAll, fz0, wipeE, frz, frz1, MP.vars, varsS, varsO, varsI, LIM, k]
theorem tb_rep {m : Nat} {x : PyData} : (List.replicate m [x]).flatten = tb m fun _ => x := by
  induction m with
  | zero => rfl
  | succ m ih => rw [List.replicate_succ, List.flatten_cons, ih, tb_succ]; rfl
theorem s53 (h : 53 < n) {B : Nat} (hP : Pot B P) (hB : B < 80000) (s d m : Nat) (h1 : 1 ≤ s) (h2 : s ≤ 24) (h3 : 1 ≤ d) (h4 : d ≤ s) (hm : m ≤ s) : ∃ P', F n 53 [none, some (.int (s : Nat)), some (.int (d : Nat)), some (.int (m : Nat))] P = some (.bool true, P') ∧ Pot (B + 26) P' := by
  have hc : 0 < ch s d := ch_pos h4
  obtain ⟨g, P1, kg, hg, hP1⟩ := s41 (n := 53) (by omega) hP (by omega) d (by omega) (by omega)
  obtain ⟨f, ef⟩ : ∃ f, 1 + g = f := ⟨_, rfl⟩
  have efI : (1 : Int) + (g : Nat) = (f : Nat) := by omega
  have hf : f ≤ d := by omega
  have hf1 : 1 ≤ f := by omega
  obtain ⟨o13, o14, i13, i14, far⟩ : ∃ o13 o14 : Option (Kd × PyData), MP.isIo o13 = false ∧ MP.isIo o14 = false ∧ rs (F 53) true (.ifs (.cmp .gt (.var 3) (.con (.int 0))) (.cons (.asg 13 (.call 25 (.cons (.var 1) (.cons (.var 3) (.cons (.var 2) .nil))))) (.cons e53_12 .nil)) .nil) [some (Kd.io, .none), some (Kd.ro, .int (s : Nat)), some (Kd.ro, .int (d : Nat)), some (Kd.ro, .int (m : Nat)), some (Kd.ro, .int (ch s d : Nat)), none, none, none, none, none, none, some (Kd.own, .list (tb (d + 1) fun i => fr (dr s d m i : Nat) (ch s d : Nat))), some (Kd.ro, .tuple (tb (d + 1) fun i => .int (dr s d m i : Nat))), none, none, none, none, none, none, none, none] P = some (.nx [some (Kd.io, .none), some (Kd.ro, .int (s : Nat)), some (Kd.ro, .int (d : Nat)), some (Kd.ro, .int (m : Nat)), some (Kd.ro, .int (ch s d : Nat)), none, none, none, none, none, none, some (Kd.own, .list (tb (d + 1) fun i => fr (dr s d m i : Nat) (ch s d : Nat))), some (Kd.ro, .tuple (tb (d + 1) fun i => .int (dr s d m i : Nat))), o13, o14, none, none, none, none, none, none] P) := by
    by_cases c : m = 0
    · subst c
      exact ⟨none, none, rfl, rfl, y53c0 _ _ _ _ _ _⟩
    · have k := s25 (n := 53) (P := P) (by omega) s m d h1 (by omega) (by omega) hm (by omega) h4
      exact ⟨_, _, rfl, atx_io _ _, y53c1 _ _ _ _ _ _ _ _ (by omega) (immL_tb fun _ _ => rfl) k (z53_12 s d m h1 h2 h3 h4 hm (by omega))⟩
  obtain ⟨Y, kY, iY, oY, hY⟩ := t53_sq (P := P) s d m h1 h2 h3 h4 hm
  have k52 := s52 (n := 53) (P := P) (by omega) s d m (by omega) h4 hm
  have k25 := s25 (n := 53) (P := P) (by omega) s d m h1 (by omega) h3 h4 (by omega) hm
  have k51 := s51 (n := 53) (P := P) (by omega) s d (by omega) (by omega)
  have k25b := s25 (n := 53) (P := P) (by omega) s d (s - m) h1 (by omega) h3 h4 (by omega) (by omega)
  have k25c := s25 (n := 53) (P := P1) (by omega) s f m h1 (by omega) hf1 (by omega) (by omega) hm
  have k32 := s32 (n := 53) (P := P1) (by omega) s d m h1 (by omega) h3 h4 (by omega) hm
  have kmid := t53_mid (P := P) s d m h1 h2 h3 h4 hm
  have c1 : sm 5 (s : Int) := by unfold sm; omega
  have c2 : sm 5 (d : Int) := by unfold sm; omega
  have c3 : sm 5 (m : Int) := by unfold sm; omega
  have c4 : sm 6 ((s : Int) - m) := c1.sub c3
  have c5 : sm 6 ((s : Int) - d) := c1.sub c2
  have c6 : sm 6 ((s : Int) - 1) := c1.sub (by unfold sm; decide)
  have k45 := s45 (n := 53) (P := P) (k := 100) (by omega) ((d : Int) * m) (s : Nat) (by omega) (c1.mono (by omega)) (by omega)
  have hrev : (tb (d + 1) fun i => PyData.int (dr s d m i : Nat)).reverse = tb (d + 1) fun i => .int (dr s d (s - m) i : Nat) := by
    rw [tb_reverse]
    refine tb_congr fun i hi => ?_
    have : dr s d m (d + 1 - 1 - i) = dr s d (s - m) i := by
      unfold dr
      rw [show d - (d + 1 - 1 - i) = i from by omega, show s - (s - m) = m from by omega, show d + 1 - 1 - i = d - i from by omega, Nat.mul_comm]
    rw [this]
  rw [← hrev, show ((s - m : Nat) : Int) = (s : Int) - m from by omega] at k25b
  have hsum : bltD .sum [.tuple (tb (d + 1) fun i => .int (dr s d m i : Nat))] = some (.int (ch s d : Nat)) := by
    rw [b_sumT, tb_sum, sz_nat, dr_sum hm]
  obtain ⟨r, g', P2, RG, e1, hP2⟩ := z53_1 (P := P1) (B := B + 1) hP1 (by omega) s d m f (fr ((d : Int) * (m : Int)) (s : Nat)) Y o13 (some (Kd.ro, .int (d : Nat))) (some (Kd.ro, fr (dr s d m d : Nat) (ch s d : Nat))) (some (Kd.ro, .int (f : Nat))) (some (Kd.ro, fr (dr d f d f : Nat) (ch d f : Nat))) i13 rfl rfl rfl rfl h1 h2 h3 h4 hm hf1 hf
  have k26 := s26 (n := 53) (P := P2) (by omega) s d m r g' h1 (by omega) h3 h4 (by omega) hm RG
  refine ⟨P2, ?_, hP2.mono (by omega)⟩
  refine F_ret h (d := d53) rfl rfl (by decide) rfl ?_
  show rss (F 53) true b53 [some (Kd.io, .none), some (Kd.ro, .int (s : Nat)), some (Kd.ro, .int (d : Nat)), some (Kd.ro, .int (m : Nat)), none, none, none, none, none, none, none, none, none, none, none, none, none, none, none, none, none] P = _
  unfold b53
  have iL : immL (tb (d + 1) fun i => fr (dr s d m i : Nat) (ch s d : Nat)) = true := immL_tb fun _ _ => rfl
  have iW : immL (tb (d + 1) fun i => PyData.int (dr s d m i : Nat)) = true := immL_tb fun _ _ => rfl
  have iW' : imm (.tuple (tb (d + 1) fun i => .int (dr s d m i : Nat))) = true := iW
  rw [rss_step (y53a (w := 0) (iL := iL) (iW := iW) (k1 := k52) (k2 := k25))]
  rw [rss_step (y53a2 (k := k51))]
  rw [rss_step (y53b (v := 0) (iL := iL) (iW := iW') (oL := okd_list (okd_tb fun _ _ => okd_fr 4 _ _)) (e := z53_13 s d m none none h1 h2 h3 h4 hm) (hs := hsum))]
  rw [rss_step far]
  rw [rss_step (y53d (o13 := o13) (o14 := o14) (iW := iW) (oW := okd_tup (by rw [hrev]; exact okd_tb fun _ _ => okd_int 5 _)) (k := k25b))]
  rw [rss_step (y53e (o13 := o13) (o14 := o14) (iM := immL_tb fun _ _ => rfl) (iX := rfl) (e := z53_10 s d m o13 o14 i13 i14 h1 h2 h3 h4 hm) (k := kmid))]
  rw [rss_step (y53f (o13 := o13) (o14 := o14) (hs := c2.small (k := 4) (l := 4) c3 (by omega)) (hd := rfl) (oX := okd_fr 5 _ _) (k := k45))]
  rw [rss_step (y53g (o13 := o13) (o14 := o14) (iM := immL_tb fun _ _ => rfl) (iY := iY) (e := z53_9 s d m o13 o14 i13 i14 h1 h2 h3 h4 hm) (k := kY))]
  rw [rss_step (y53h (o13 := o13) (o14 := o14) (h1 := (by omega)) (oY := oY) (s1 := c2.small (k := 4) (l := 4) c3 (by omega)) (s2 := (c2.mul c3).small (k := 9) (l := 5) c4 (by omega)) (s3 := ((c2.mul c3).mul c4).small (k := 15) (l := 5) c5 (by omega)) (s4 := c1.small (k := 4) (l := 4) c1 (by omega)) (s5 := (c1.mul c1).small (k := 9) (l := 5) c6 (by omega)) (ha := rfl) (hb := rfl) (k := hY))]
  rw [rss_step (y53i (o13 := o13) (o14 := o14) (k := kg)), efI]
  rw [rss_step (y53j (R := tb (f + 1) fun _ => .tuple [.int 0, .int 1]) (o13 := o13) (o14 := o14) (h0 := (by omega)) (h1 := (by omega)) (iR := immL_tb fun _ _ => rfl) (hR := (by rw [show ((f : Int) + 1).toNat = f + 1 from by omega]; exact tb_rep)))]
  rw [rss_step (z53_6 s d m f _ Y o13 o14 i14 h1 h2 h3 h4 hm hf hf1)]
  rw [rss_step (y53l (o13 := o13) (iA := immL_tb fun _ _ => rfl) (k := k25c))]
  rw [rss_step (y53m (o13 := o13) (iR := immL_tb fun _ _ => rfl) (oR := okd_list (okd_tb fun _ _ => okd_fr 4 _ _)) (e := z53_4 s d m f _ Y o13 _ _ _ _ i13 rfl rfl rfl rfl h1 h2 h3 h4 hm hf1 hf))]
  rw [rss_step (y53n (o13 := o13) (iU := immL_tb fun _ _ => rfl) (iD := immL_tb fun _ _ => rfl) (k := k32))]
  rw [rss_step (y53o (o13 := o13) (iU := immL_tb fun _ _ => rfl) (oU := okd_list (okd_tb fun _ _ => okd_fr 4 _ _)) (e := z53_3 s d m f _ Y o13 _ _ _ _ i13 rfl rfl rfl rfl h1 h2 h3 h4 hm hf1 hf))]
  rw [rss_step (y53p (o13 := o13) (iU := immL_tb fun _ _ => rfl) (oU := okd_list (okd_tb fun _ _ => okd_fr 4 _ _)) (e := z53_2 s d m f _ Y o13 _ _ _ _ i13 rfl rfl rfl rfl h1 h2 h3 h4 hm hf1 hf))]
  rw [rss_step (y53q (o13 := o13) (iG := immL_tb fun _ _ => rfl) (e := e1))]
  exact y53r (o13 := o13) (iM := immL_tb fun _ _ => rfl) (iT := rfl) (oT := okd_fr 5 _ _) (e := z53_0 s d m f r g' _ Y o13 _ _ _ _ i13 rfl rfl rfl rfl h1 h2 h3 h4 hm hf1 hf RG) (k1 := k26) (k2 := t53_0 s d m r g' h1 h2 h3 h4 hm RG)
end K06
set_option Elab.async false
set_option linter.all false
set_option maxRecDepth 100000
/-! k06: likeliest ones: lists. -/
namespace K06
open PySem MP
variable {n : Nat} {P : PyData}
/-! ### a finite check: rows rise, then fall -/
def pasc : List (List Nat) := [[1], [1, 1], [1, 2, 1], [1, 3, 3, 1], [1, 4, 6, 4, 1], [1, 5, 10, 10, 5, 1], [1, 6, 15, 20, 15, 6, 1], [1, 7, 21, 35, 35, 21, 7, 1], [1, 8, 28, 56, 70, 56, 28, 8, 1], [1, 9, 36, 84, 126, 126, 84, 36, 9, 1], [1, 10, 45, 120, 210, 252, 210, 120, 45, 10, 1], [1, 11, 55, 165, 330, 462, 462, 330, 165, 55, 11, 1], [1, 12, 66, 220, 495, 792, 924, 792, 495, 220, 66, 12, 1], [1, 13, 78, 286, 715, 1287, 1716, 1716, 1287, 715, 286, 78, 13, 1], [1, 14, 91, 364, 1001, 2002, 3003, 3432, 3003, 2002, 1001, 364, 91, 14, 1]]
def chF (n k : Nat) : Nat := (pasc.getD n []).getD k 0
theorem chF_all : ((List.range 15).all fun n => (List.range 15).all fun k => chF n k == ch n k) = true := by decide +kernel
theorem chF_eq {n k : Nat} (hn : n < 15) (hk : k < 15) : chF n k = ch n k := by
  have h1 := List.all_eq_true.mp chF_all n (List.mem_range.mpr hn)
  have h2 := List.all_eq_true.mp h1 k (List.mem_range.mpr hk)
  exact eq_of_beq h2
def TF (s d e : Nat) : List Int := (List.range (s + 1)).map fun m => Int.ofNat (chF m e * chF (s - m) (d - e))
def mxI : List Int → Int
  | n :: r => maxI n r
  | [] => 0
def bst (T : List Int) : List Nat := (List.range T.length).filter fun m => T.getD m 0 == mxI T
def dueI (s d e : Nat) : List Int :=
  let q := e * (s + 1) / d
  let t : Int := Int.ofNat (min s q)
  if (decide (0 < e) && decide (e < d)) && q * d == e * (s + 1) then [t - 1, t] else [t]
def fchk (s d e : Nat) : Bool :=
  let T := TF s d e
  let B := bst T
  (B.map Int.ofNat == dueI s d e) && (match B with
    | b :: _ => (sortI (T.take (b + 1)) == T.take (b + 1)) && ((sortI (T.drop b)).reverse == T.drop b)
    | [] => false)
set_option maxHeartbeats 0 in
theorem fchk_all : ((List.range 15).all fun s => (List.range (s + 1)).all fun d => (List.range (d + 1)).all fun e => s == 0 || (d == 0 || fchk s d e)) = true := by decide +kernel
theorem TF_eq {s d e : Nat} (h2 : s ≤ 14) (h4 : d ≤ s) (he : e ≤ d) : TF s d e = tb (s + 1) fun m => ((dr s d m e : Nat) : Int) := by
  unfold TF tb
  refine List.map_congr_left fun m hm => ?_
  have := List.mem_range.mp hm
  rw [chF_eq (by omega) (by omega), chF_eq (by omega) (by omega)]
  rfl
theorem fchk_at {s d e : Nat} (h1 : 1 ≤ s) (h2 : s ≤ 14) (h3 : 1 ≤ d) (h4 : d ≤ s) (he : e ≤ d) : fchk s d e = true := by
  have a1 := List.all_eq_true.mp fchk_all s (List.mem_range.mpr (by omega))
  have a2 := List.all_eq_true.mp a1 d (List.mem_range.mpr (by omega))
  have a3 := List.all_eq_true.mp a2 e (List.mem_range.mpr (by omega))
  rw [show (s == 0) = false from beq_eq_false_iff_ne.mpr (by omega), show (d == 0) = false from beq_eq_false_iff_ne.mpr (by omega)] at a3
  exact a3
/-- places where it holds -/
def filL (p : Nat → Bool) (k : Nat) : List PyData := ((List.range k).filter p).map fun i => .int (i : Nat)
theorem lc_fil {bind : PyData → Option MP.Env} {test : MP.Env → PyData → Option (Bool × PyData)} {elt : MP.Env → PyData → Option (PyData × PyData)} {p : Nat → Bool} :
    ∀ {k : Nat}, (∀ i, i < k → ∃ E1, bind (.int (i : Nat)) = some E1 ∧ test E1 P = some (p i, P) ∧ elt E1 P = some (.int (i : Nat), P)) → k ≤ 1000 → ∀ j, j ≤ k →
      lcFold bind test elt ((tb k fun i => PyData.int (i : Nat)).drop (k - j)) (filL p (k - j)) P = some (filL p k, P)
  | k, h, hk, 0, _ => by
    rw [Nat.sub_zero, List.drop_eq_nil_of_le (by rw [tb_len]; exact Nat.le_refl _)]
    rfl
  | k, h, hk, j + 1, hj => by
    have ih := lc_fil h hk j (by omega)
    obtain ⟨E1, h1, h2, h3⟩ := h (k - (j + 1)) (by omega)
    have e1 : (tb k fun i => PyData.int (i : Nat)).drop (k - (j + 1)) = .int ((k - (j + 1) : Nat) : Int) :: (tb k fun i => PyData.int (i : Nat)).drop (k - j) := by
      rw [tb_drop, show k - (k - (j + 1)) = j + 1 from by omega, tb_succ, tb_drop, show k - (k - j) = j from by omega, Nat.add_zero]
      congr 1
      exact tb_congr fun i _ => by rw [show k - (j + 1) + (i + 1) = k - j + i from by omega]
    have e2 : filL p (k - j) = if p (k - (j + 1)) then filL p (k - (j + 1)) ++ [.int ((k - (j + 1) : Nat) : Int)] else filL p (k - (j + 1)) := by
      unfold filL
      rw [show k - j = (k - (j + 1)) + 1 from by omega, List.range_succ, List.filter_append, List.map_append]
      by_cases c : p (k - (j + 1)) = true
      · rw [if_pos c]
        simp [c]
      · rw [if_neg c]
        simp [c]
    have e3 : (filL p (k - (j + 1))).length < LIM := by
      unfold filL LIM
      rw [List.length_map]
      have := List.length_filter_le p (List.range (k - (j + 1)))
      rw [List.length_range] at this
      omega
    rw [e1]
    unfold lcFold
    rw [h1]
    dsimp only
    rw [h2]
    cases c : p (k - (j + 1)) with
    | false =>
      dsimp only
      rw [c, if_neg Bool.false_ne_true] at e2
      rw [← e2]
      exact ih
    | true =>
      dsimp only
      rw [c, if_pos rfl] at e2
      rw [h3]
      dsimp only
      rw [decide_eq_true e3, show imm (.int ((k - (j + 1) : Nat) : Int)) = true from rfl, Bool.and_self, if_pos rfl, ← e2]
      exact ih
theorem lc_fil0 {bind : PyData → Option MP.Env} {test : MP.Env → PyData → Option (Bool × PyData)} {elt : MP.Env → PyData → Option (PyData × PyData)} {p : Nat → Bool} {k : Nat} (h : ∀ i, i < k → ∃ E1, bind (.int (i : Nat)) = some E1 ∧ test E1 P = some (p i, P) ∧ elt E1 P = some (.int (i : Nat), P)) (hk : k ≤ 1000) :
    lcFold bind test elt (tb k fun i => PyData.int (i : Nat)) [] P = some (filL p k, P) := by
  have := lc_fil h hk k (Nat.le_refl _)
  rw [Nat.sub_self] at this
  exact this
/-! ### held ones lie together -/
theorem hd_anti {s d e : Nat} (he : e ≤ d) {m m' : Nat} (h : m ≤ m') (hs : m' ≤ s) : hd s d m' e ≤ hd s d m e := by
  unfold hd
  by_cases c : e = d
  · subst c
    rw [dr_sum hs, dr_sum (Nat.le_trans h hs)]
    exact Nat.le_refl _
  · have h1 := hd_tl (s := s) (d := d) (m := m) (e := e + 1) (by omega) (by omega)
    have h2 := hd_tl (s := s) (d := d) (m := m') (e := e + 1) (by omega) (by omega)
    have h3 := tl_le (s := s) (d := d) (e := e + 1) (by omega) h hs
    omega
theorem heldB_mid {s d e u w i j k : Nat} (he : e ≤ d) (hij : i ≤ j) (hjk : j ≤ k) (hk : k ≤ s) (h1 : heldB s d e u w i = true) (h2 : heldB s d e u w k = true) : heldB s d e u w j = true := by
  unfold heldB at *
  rw [Bool.and_eq_true] at *
  simp only [Bool.not_eq_true', decide_eq_false_iff_not] at *
  have a1 := tl_le (s := s) (d := d) (e := e) he hij (by omega)
  have a2 := hd_anti (s := s) (d := d) (e := e) he hjk hk
  have a3 := Nat.mul_le_mul_right w a1
  have a4 := Nat.mul_le_mul_right w a2
  omega
theorem heldL_shape {s d e u w : Nat} (he : e ≤ d) : ∀ m, m ≤ s + 1 → (heldL s d e u w m = [] ∧ ∀ i, i < m → heldB s d e u w i = false) ∨
    ∃ lo len, lo + (len + 1) ≤ m ∧ heldL s d e u w m = tb (len + 1) (fun i => .int ((lo + i : Nat) : Int)) ∧ ∀ i, i < m → (heldB s d e u w i = true ↔ lo ≤ i ∧ i < lo + (len + 1))
  | 0, _ => .inl ⟨rfl, fun i hi => by omega⟩
  | m + 1, hm => by
    have eh : heldL s d e u w (m + 1) = if heldB s d e u w m then heldL s d e u w m ++ [.int (m : Nat)] else heldL s d e u w m := rfl
    rw [eh]
    rcases heldL_shape (s := s) (u := u) (w := w) he m (by omega) with ⟨h1, h2⟩ | ⟨lo, len, h0, h1, h2⟩
    · by_cases c : heldB s d e u w m = true
      · right
        refine ⟨m, 0, by omega, ?_, fun i hi => ?_⟩
        · rw [if_pos c, h1]
          rfl
        · by_cases z : i = m
          · subst z
            exact ⟨fun _ => by omega, fun _ => c⟩
          · have := h2 i (by omega)
            rw [this]
            exact ⟨fun z => (by cases z), fun z => by omega⟩
      · left
        rw [if_neg c]
        refine ⟨h1, fun i hi => ?_⟩
        by_cases z : i = m
        · subst z
          exact Bool.eq_false_iff.mpr c
        · exact h2 i (by omega)
    · right
      by_cases c : heldB s d e u w m = true
      · have hend : lo + (len + 1) = m := by
          by_cases z : lo + (len + 1) = m
          · exact z
          · have hb := heldB_mid (s := s) (d := d) (e := e) (u := u) (w := w) (i := lo) (j := lo + (len + 1)) (k := m) he (by omega) (by omega) (by omega) ((h2 lo (by omega)).mpr (by omega)) c
            have := (h2 (lo + (len + 1)) (by omega)).mp hb
            omega
        refine ⟨lo, len + 1, by omega, ?_, fun i hi => ?_⟩
        · rw [if_pos c, h1, show (tb (len + 1 + 1) fun i => PyData.int ((lo + i : Nat) : Int)) = _ from tb_snoc, show lo + (len + 1) = m from hend]
        · by_cases z : i = m
          · subst z
            exact ⟨fun _ => by omega, fun _ => c⟩
          · rw [h2 i (by omega)]
            omega
      · refine ⟨lo, len, by omega, ?_, fun i hi => ?_⟩
        · rw [if_neg c, h1]
        · by_cases z : i = m
          · subst z
            exact ⟨fun z => absurd z c, fun z => by omega⟩
          · exact h2 i (by omega)
theorem int_eqv (a b : Int) : PyData.eqv (.int a) (.int b) = decide (a = b) := by
  by_cases c : a = b <;> simp [PyData.eqv, c]
theorem heldL_flat (s d e u w : Nat) : ∀ m, (heldL s d e u w m).all flatD = true
  | 0 => rfl
  | m + 1 => by
    have ih := heldL_flat s d e u w m
    unfold heldL
    split
    · rw [List.all_append, ih]
      rfl
    · exact ih
theorem heldL_any (s d e u w i : Nat) : ∀ m, ((heldL s d e u w m).any fun y => PyData.eqv y (.int (i : Nat))) = (decide (i < m) && heldB s d e u w i)
  | 0 => by
    show false = _
    rw [decide_eq_false (by omega), Bool.false_and]
  | m + 1 => by
    have ih := heldL_any s d e u w i m
    unfold heldL
    by_cases z : i = m
    · subst z
      rw [decide_eq_true (show i < i + 1 by omega), Bool.true_and]
      rw [decide_eq_false (by omega), Bool.false_and] at ih
      split
      · rename_i c
        rw [List.any_append, ih, c]
        simp [int_eqv]
      · rename_i c
        rw [ih]
        exact (Bool.eq_false_iff.mpr c).symm
    · have e1 : decide (i < m + 1) = decide (i < m) := decide_eq_decide.mpr (by omega)
      rw [e1, ← ih]
      split
      · rw [List.any_append]
        have : ¬ (m : Int) = (i : Int) := by omega
        simp [int_eqv, this]
      · rfl
theorem heldL_in {s d e u w i m : Nat} (h : i < m) : inD (.int (i : Nat)) (heldL s d e u w m) = some (heldB s d e u w i) := by
  unfold inD
  rw [heldL_flat, if_pos (by rfl), heldL_any, decide_eq_true h, Bool.true_and]
theorem top_in {d j e i : Nat} (h1 : d + 1 - e ≤ j) (h2 : j ≤ d + 1) (hi : e + i ≤ d) : inD (.int ((e + i : Nat) : Int)) (topR d j) = some true := by
  unfold inD topR
  have f1 : (tb j fun i => PyData.int ((d + 1 - j + i : Nat) : Int)).all flatD = true := List.all_eq_true.mpr fun x hx => by
    obtain ⟨t, _, e⟩ := tb_mem.mp hx
    subst e
    rfl
  rw [f1, if_pos (by rfl)]
  congr 1
  rw [List.any_eq_true]
  refine ⟨.int ((e + i : Nat) : Int), tb_mem.mpr ⟨e + i - (d + 1 - j), by omega, ?_⟩, ?_⟩
  · rw [show d + 1 - j + (e + i - (d + 1 - j)) = e + i from by omega]
  · rw [int_eqv, decide_eq_true rfl]
end K06
set_option Elab.async false
set_option linter.all false
set_option maxRecDepth 100000
/-! k06: likeliest ones, piece by piece. -/
namespace K06
open PySem MP
variable {n : Nat} {P P1 P2 : PyData} {cl : Cl}
theorem y54a {s d e : Int} (k : cl 41 [none, some (.int (d + 1))] P = some (.int e, P1)) :
    rs cl true (.asg 3 (.blt .int (.cons (.call 41 (.io 0 (.cons (.bin .add (.var 2) (.con (.int 1))) .nil))) .nil))) [some (Kd.io, .none), some (Kd.ro, .int s), some (Kd.ro, .int d), none, none, none, none, none, none, none, none, none, none, none, none, none, none, none, none, none, none] P = some (.nx [some (Kd.io, .none), some (Kd.ro, .int s), some (Kd.ro, .int d), some (Kd.ro, .int e), none, none, none, none, none, none, none, none, none, none, none, none, none, none, none, none, none] P1) := by
  simp [e_con, e_var, e_bin, e_neg, e_cmp, e_chain, e_and, e_or, e_not, e_ite, e_call, e_blt, e_isi, e_lrng, e_trng, e_tup, e_lst, e_sl, e_rev, e_every, e_ixV, e_ixC, e_ixI, e_ixL, evs_nil, evs_cons, evs_star, evs_io, evO_none, evO_some, evP_none, evP_some, evI_seq, evI_enum, evI_zip, rss_nil, rss_cons, rs_asg, rs_unp, rs_par, rs_ifs, rs_expr, rs_ret, rs_brk, rs_app, rs_while, getV, setV, isiD, copD, bx_add, bx_sub, bx_mul, bx_fdiv, bx_mod, b_lenL, b_lenT, b_abs, b_min2, b_max2, b_int, b_intB, b_listL, b_listT, b_tupL, b_tupT, b_all, b_any, b_sumL, b_sumT, unO, tb_len, MP.frs, itemsImm, imm, immL, asgD, MP.isIo, bindT, bindTs, seqOf, MP.isInt, at0, at1, at2, startE, cntIo, frzAll, fz0, wipeE, frz, frz1, MP.vars, varsS, varsO, varsI, LIM, k]
theorem y54b {s d e : Int} {T : List PyData} (x : ev cl e54_6 [some (Kd.io, .none), some (Kd.ro, .int s), some (Kd.ro, .int d), some (Kd.ro, .int e), none, none, none, none, none, none, none, none, none, none, none, none, none, none, none, none, none] P = some (.list T, P)) :
    rs cl true (.asg 4 e54_6) [some (Kd.io, .none), some (Kd.ro, .int s), some (Kd.ro, .int d), some (Kd.ro, .int e), none, none, none, none, none, none, none, none, none, none, none, none, none, none, none, none, none] P = some (.nx [some (Kd.io, .none), some (Kd.ro, .int s), some (Kd.ro, .int d), some (Kd.ro, .int e), some (Kd.own, .list T), none, none, none, none, none, none, none, none, none, none, none, none, none, none, none, none] P) := by
  simp [e_con, e_var, e_bin, e_neg, e_cmp, e_chain, e_and, e_or, e_not, e_ite, e_call, e_blt, e_isi, e_lrng, e_trng, e_tup, e_lst, e_sl, e_rev, e_every, e_ixV, e_ixC, e_ixI, e_ixL, evs_nil, evs_cons, evs_star, evs_io, evO_none, evO_some, evP_none, evP_some, evI_seq, evI_enum, evI_zip, rss_nil, rss_cons, rs_asg, rs_unp, rs_par, rs_ifs, rs_expr, rs_ret, rs_brk, rs_app, rs_while, getV, setV, isiD, copD, bx_add, bx_sub, bx_mul, bx_fdiv, bx_mod, b_lenL, b_lenT, b_abs, b_min2, b_max2, b_int, b_intB, b_listL, b_listT, b_tupL, b_tupT, b_all, b_any, b_sumL, b_sumT, unO, tb_len, MP.frs, itemsImm, imm, immL, asgD, MP.isIo, bindT, bindTs, seqOf, MP.isInt, at0, at1, at2, startE, cntIo, frzAll, fz0, wipeE, frz, frz1, MP.vars, varsS, varsO, varsI, LIM, x, frs_e54_6]
theorem y54c {s d e : Int} {T B : List PyData} (x : ev cl e54_5 [some (Kd.io, .none), some (Kd.ro, .int s), some (Kd.ro, .int d), some (Kd.ro, .int e), some (Kd.own, .list T), none, none, none, none, none, none, none, none, none, none, none, none, none, none, none, none] P = some (.list B, P)) :
    rs cl true (.asg 5 e54_5) [some (Kd.io, .none), some (Kd.ro, .int s), some (Kd.ro, .int d), some (Kd.ro, .int e), some (Kd.own, .list T), none, none, none, none, none, none, none, none, none, none, none, none, none, none, none, none] P = some (.nx [some (Kd.io, .none), some (Kd.ro, .int s), some (Kd.ro, .int d), some (Kd.ro, .int e), some (Kd.own, .list T), some (Kd.own, .list B), none, none, none, none, none, none, none, none, none, none, none, none, none, none, none] P) := by
  simp [e_con, e_var, e_bin, e_neg, e_cmp, e_chain, e_and, e_or, e_not, e_ite, e_call, e_blt, e_isi, e_lrng, e_trng, e_tup, e_lst, e_sl, e_rev, e_every, e_ixV, e_ixC, e_ixI, e_ixL, evs_nil, evs_cons, evs_star, evs_io, evO_none, evO_some, evP_none, evP_some, evI_seq, evI_enum, evI_zip, rss_nil, rss_cons, rs_asg, rs_unp, rs_par, rs_ifs, rs_expr, rs_ret, rs_brk, rs_app, rs_while, getV, setV, isiD, copD, bx_add, bx_sub, bx_mul, bx_fdiv, bx_mod, b_lenL, b_lenT, b_abs, b_min2, b_max2, b_int, b_intB, b_listL, b_listT, b_tupL, b_tupT, b_all, b_any, b_sumL, b_sumT, unO, tb_len, MP.frs, itemsImm, imm, immL, asgD, MP.isIo, bindT, bindTs, seqOf, MP.isInt, at0, at1, at2, startE, cntIo, frzAll, fz0, wipeE, frz, frz1, MP.vars, varsS, varsO, varsI, LIM, x, frs_e54_5]
theorem y54d {s d e t : Int} {T B : List PyData} (h : smallI e (s + 1) = true) (ht : e * (s + 1) = t) :
    rs cl true (.asg 6 (.bin .mul (.var 3) (.bin .add (.var 1) (.con (.int 1))))) [some (Kd.io, .none), some (Kd.ro, .int s), some (Kd.ro, .int d), some (Kd.ro, .int e), some (Kd.own, .list T), some (Kd.own, .list B), none, none, none, none, none, none, none, none, none, none, none, none, none, none, none] P = some (.nx [some (Kd.io, .none), some (Kd.ro, .int s), some (Kd.ro, .int d), some (Kd.ro, .int e), some (Kd.own, .list T), some (Kd.own, .list B), some (Kd.ro, .int t), none, none, none, none, none, none, none, none, none, none, none, none, none, none] P) := by
  simp [e_con, e_var, e_bin, e_neg, e_cmp, e_chain, e_and, e_or, e_not, e_ite, e_call, e_blt, e_isi, e_lrng, e_trng, e_tup, e_lst, e_sl, e_rev, e_every, e_ixV, e_ixC, e_ixI, e_ixL, evs_nil, evs_cons, evs_star, evs_io, evO_none, evO_some, evP_none, evP_some, evI_seq, evI_enum, evI_zip, rss_nil, rss_cons, rs_asg, rs_unp, rs_par, rs_ifs, rs_expr, rs_ret, rs_brk, rs_app, rs_while, getV, setV, isiD, copD, bx_add, bx_sub, bx_mul, bx_fdiv, bx_mod, b_lenL, b_lenT, b_abs, b_min2, b_max2, b_int, b_intB, b_listL, b_listT, b_tupL, b_tupT, b_all, b_any, b_sumL, b_sumT, unO, tb_len, MP.frs, itemsImm, imm, immL, asgD, MP.isIo, bindT, bindTs, seqOf, MP.isInt, at0, at1, at2, startE, cntIo, frzAll, fz0, wipeE, frz, frz1, MP.vars, varsS, varsO, varsI, LIM, h, ht]
theorem y54e {s d e t q : Int} {T B : List PyData} (h0 : 0 < d) (h1 : d.natAbs.log2 < 9000) (hq : (if t / d < s then t / d else s) = q) :
    rs cl true (.asg 7 (.lst (.cons (.blt .min2 (.cons (.var 1) (.cons (.bin .fdiv (.var 6) (.var 2)) .nil))) .nil))) [some (Kd.io, .none), some (Kd.ro, .int s), some (Kd.ro, .int d), some (Kd.ro, .int e), some (Kd.own, .list T), some (Kd.own, .list B), some (Kd.ro, .int t), none, none, none, none, none, none, none, none, none, none, none, none, none, none] P = some (.nx [some (Kd.io, .none), some (Kd.ro, .int s), some (Kd.ro, .int d), some (Kd.ro, .int e), some (Kd.own, .list T), some (Kd.own, .list B), some (Kd.ro, .int t), some (Kd.own, .list [.int q]), none, none, none, none, none, none, none, none, none, none, none, none, none] P) := by
  simp [e_con, e_var, e_bin, e_neg, e_cmp, e_chain, e_and, e_or, e_not, e_ite, e_call, e_blt, e_isi, e_lrng, e_trng, e_tup, e_lst, e_sl, e_rev, e_every, e_ixV, e_ixC, e_ixI, e_ixL, evs_nil, evs_cons, evs_star, evs_io, evO_none, evO_some, evP_none, evP_some, evI_seq, evI_enum, evI_zip, rss_nil, rss_cons, rs_asg, rs_unp, rs_par, rs_ifs, rs_expr, rs_ret, rs_brk, rs_app, rs_while, getV, setV, isiD, copD, bx_add, bx_sub, bx_mul, bx_fdiv, bx_mod, b_lenL, b_lenT, b_abs, b_min2, b_max2, b_int, b_intB, b_listL, b_listT, b_tupL, b_tupT, b_all, b_any, b_sumL, b_sumT, unO, tb_len, MP.frs, itemsImm, imm, immL, asgD, MP.isIo, bindT, bindTs, seqOf, MP.isInt, at0, at1, at2, startE, cntIo, frzAll, fz0, wipeE, frz, frz1, MP.vars, varsS, varsO, varsI, LIM, h0, h1, hq]
theorem y54f {s d e t q : Int} {T B : List PyData} (h0 : 0 < d) (h1 : d.natAbs.log2 < 9000) (h2 : smallI (t / d) d = true) :
    rs cl true (.ifs (.and (.chain .lt .lt (.con (.int 0)) (.var 3) (.var 2)) (.cmp .eq (.bin .mul (.bin .fdiv (.var 6) (.var 2)) (.var 2)) (.var 6))) (.cons (.asg 7 (.bin .add (.lst (.cons (.bin .sub (.ix (.var 7) (.con (.int 0))) (.con (.int 1))) .nil)) (.var 7))) .nil) .nil) [some (Kd.io, .none), some (Kd.ro, .int s), some (Kd.ro, .int d), some (Kd.ro, .int e), some (Kd.own, .list T), some (Kd.own, .list B), some (Kd.ro, .int t), some (Kd.own, .list [.int q]), none, none, none, none, none, none, none, none, none, none, none, none, none] P = some (.nx [some (Kd.io, .none), some (Kd.ro, .int s), some (Kd.ro, .int d), some (Kd.ro, .int e), some (Kd.own, .list T), some (Kd.own, .list B), some (Kd.ro, .int t), some (Kd.own, .list (if (decide (0 < e) && decide (e < d)) && decide (t / d * d = t) then [.int (q - 1), .int q] else [.int q])), none, none, none, none, none, none, none, none, none, none, none, none, none] P) := by
  have o := fun x => (okd_int 6 x).1
  have g1 : L2.atI [PyData.int q] 0 = some (.int q) := at0
  have add : bopD .add (.list [.int (q - 1)]) (.list [.int q]) = some (.list [.int (q - 1), .int q]) := rfl
  by_cases c1 : 0 < e <;> by_cases c2 : e < d <;> by_cases c3 : t / d * d = t <;> simp [e_con, e_var, e_bin, e_neg, e_cmp, e_chain, e_and, e_or, e_not, e_ite, e_call, e_blt, e_isi, e_lrng, e_trng, e_tup, e_lst, e_sl, e_rev, e_every, e_ixV, e_ixC, e_ixI, e_ixL, evs_nil, evs_cons, evs_star, evs_io, evO_none, evO_some, evP_none, evP_some, evI_seq, evI_enum, evI_zip, rss_nil, rss_cons, rs_asg, rs_unp, rs_par, rs_ifs, rs_expr, rs_ret, rs_brk, rs_app, rs_while, getV, setV, isiD, copD, bopD, b_lenL, b_lenT, b_abs, b_min2, b_max2, b_int, b_intB, b_listL, b_listT, b_tupL, b_tupT, b_all, b_any, b_sumL, b_sumT, unO, tb_len, MP.frs, itemsImm, imm, immL, asgD, MP.isIo, bindT, bindTs, seqOf, MP.isInt, at0, at1, at2, startE, cntIo, frzAll, fz0, wipeE, frz, frz1, MP.vars, varsS, varsO, varsI, LIM, c1, c2, c3, h0, h1, h2, o, int_eqv, g1, add, strV]
theorem y54g {s d e t b : Int} {T B T1 T2 S2 : List PyData} (hb : L2.atI B 0 = some (.int b)) (iT : immL T = true) (iB : immL B = true) (i1 : immL T1 = true) (i2 : immL T2 = true) (c1 : cutD T none (some (b + 1)) = T1) (c2 : cutD T (some b) none = T2) (s1 : bltD .sorted [.list T1] = some (.list T1)) (s2 : bltD .sorted [.list T2] = some (.list S2)) (hr : S2.reverse = T2) (oB : okd 6 (.list B)) (o1 : okd 6 (.list T1)) (o2 : okd 6 (.list T2)) :
    rs cl true (.ifs (.or (.cmp .ne (.var 5) (.var 7)) (.or (.cmp .ne (.sl (.var 4) .none (.some (.bin .add (.ix (.var 5) (.con (.int 0))) (.con (.int 1))))) (.blt .sorted (.cons (.sl (.var 4) .none (.some (.bin .add (.ix (.var 5) (.con (.int 0))) (.con (.int 1))))) .nil))) (.cmp .ne (.sl (.var 4) (.some (.ix (.var 5) (.con (.int 0)))) .none) (.rev (.blt .sorted (.cons (.sl (.var 4) (.some (.ix (.var 5) (.con (.int 0)))) .none) .nil)))))) (.cons (.ret (.con (.bool false))) .nil) .nil) [some (Kd.io, .none), some (Kd.ro, .int s), some (Kd.ro, .int d), some (Kd.ro, .int e), some (Kd.own, .list T), some (Kd.own, .list B), some (Kd.ro, .int t), some (Kd.own, .list B), none, none, none, none, none, none, none, none, none, none, none, none, none] P = some (.nx [some (Kd.io, .none), some (Kd.ro, .int s), some (Kd.ro, .int d), some (Kd.ro, .int e), some (Kd.own, .list T), some (Kd.own, .list B), some (Kd.ro, .int t), some (Kd.own, .list B), none, none, none, none, none, none, none, none, none, none, none, none, none] P) := by
  simp [e_con, e_var, e_bin, e_neg, e_cmp, e_chain, e_and, e_or, e_not, e_ite, e_call, e_blt, e_isi, e_lrng, e_trng, e_tup, e_lst, e_sl, e_rev, e_every, e_ixV, e_ixC, e_ixI, e_ixL, evs_nil, evs_cons, evs_star, evs_io, evO_none, evO_some, evP_none, evP_some, evI_seq, evI_enum, evI_zip, rss_nil, rss_cons, rs_asg, rs_unp, rs_par, rs_ifs, rs_expr, rs_ret, rs_brk, rs_app, rs_while, getV, setV, isiD, copD, bx_add, bx_sub, bx_mul, bx_fdiv, bx_mod, b_lenL, b_lenT, b_abs, b_min2, b_max2, b_int, b_intB, b_listL, b_listT, b_tupL, b_tupT, b_all, b_any, b_sumL, b_sumT, unO, tb_len, MP.frs, itemsImm, imm, immL, asgD, MP.isIo, bindT, bindTs, seqOf, MP.isInt, at0, at1, at2, startE, cntIo, frzAll, fz0, wipeE, frz, frz1, MP.vars, varsS, varsO, varsI, LIM, hb, c1, c2, s1, s2, hr, oB.1, oB.2, o1.1, o1.2, o2.1, o2.2, iT, iB, i1, i2]
theorem y54h {s d e t x y a b : Int} {T B D : List PyData} (k1 : cl 41 [none, some (.int (s + 1))] P = some (.int x, P1)) (k2 : cl 41 [none, some (.int (s + 1))] P1 = some (.int y, P2)) (h : bltD .sorted [.list [.int x, .int y]] = some (.list [.int a, .int b])) :
    rs cl true (.asg 8 (.blt .sorted (.cons (.lst (.cons (.blt .int (.cons (.call 41 (.io 0 (.cons (.bin .add (.var 1) (.con (.int 1))) .nil))) .nil)) (.cons (.blt .int (.cons (.call 41 (.io 0 (.cons (.bin .add (.var 1) (.con (.int 1))) .nil))) .nil)) .nil))) .nil))) [some (Kd.io, .none), some (Kd.ro, .int s), some (Kd.ro, .int d), some (Kd.ro, .int e), some (Kd.own, .list T), some (Kd.own, .list B), some (Kd.ro, .int t), some (Kd.own, .list D), none, none, none, none, none, none, none, none, none, none, none, none, none] P = some (.nx [some (Kd.io, .none), some (Kd.ro, .int s), some (Kd.ro, .int d), some (Kd.ro, .int e), some (Kd.own, .list T), some (Kd.own, .list B), some (Kd.ro, .int t), some (Kd.own, .list D), some (Kd.own, .list [.int a, .int b]), none, none, none, none, none, none, none, none, none, none, none, none] P2) := by
  simp [e_con, e_var, e_bin, e_neg, e_cmp, e_chain, e_and, e_or, e_not, e_ite, e_call, e_blt, e_isi, e_lrng, e_trng, e_tup, e_lst, e_sl, e_rev, e_every, e_ixV, e_ixC, e_ixI, e_ixL, evs_nil, evs_cons, evs_star, evs_io, evO_none, evO_some, evP_none, evP_some, evI_seq, evI_enum, evI_zip, rss_nil, rss_cons, rs_asg, rs_unp, rs_par, rs_ifs, rs_expr, rs_ret, rs_brk, rs_app, rs_while, getV, setV, isiD, copD, bx_add, bx_sub, bx_mul, bx_fdiv, bx_mod, b_lenL, b_lenT, b_abs, b_min2, b_max2, b_int, b_intB, b_listL, b_listT, b_tupL, b_tupT, b_all, b_any, b_sumL, b_sumT, unO, tb_len, MP.frs, itemsImm, imm, immL, asgD, MP.isIo, bindT, bindTs, seqOf, MP.isInt, at0, at1, at2, startE, cntIo, frzAll, fz0, wipeE, frz, frz1, MP.vars, varsS, varsO, varsI, LIM, k1, k2, h, imm]
theorem y54i {s d e t a b : Int} {T B D R : List PyData} (iR : immL R = true) (lR : R.length ≤ 1000000) (k : evI cl (.rng2 (.var 3) (.bin .add (.var 2) (.con (.int 1)))) [some (Kd.io, .none), some (Kd.ro, .int s), some (Kd.ro, .int d), some (Kd.ro, .int e), some (Kd.own, .list T), some (Kd.own, .list B), some (Kd.ro, .int t), some (Kd.own, .list D), some (Kd.own, .list [.int a, .int b]), none, none, none, none, none, none, none, none, none, none, none, none] P = some (R, P)) :
    rs cl true (.asg 9 (.trng (.rng2 (.var 3) (.bin .add (.var 2) (.con (.int 1)))))) [some (Kd.io, .none), some (Kd.ro, .int s), some (Kd.ro, .int d), some (Kd.ro, .int e), some (Kd.own, .list T), some (Kd.own, .list B), some (Kd.ro, .int t), some (Kd.own, .list D), some (Kd.own, .list [.int a, .int b]), none, none, none, none, none, none, none, none, none, none, none, none] P = some (.nx [some (Kd.io, .none), some (Kd.ro, .int s), some (Kd.ro, .int d), some (Kd.ro, .int e), some (Kd.own, .list T), some (Kd.own, .list B), some (Kd.ro, .int t), some (Kd.own, .list D), some (Kd.own, .list [.int a, .int b]), some (Kd.ro, .tuple R), none, none, none, none, none, none, none, none, none, none, none] P) := by
  simp [e_con, e_var, e_bin, e_neg, e_cmp, e_chain, e_and, e_or, e_not, e_ite, e_call, e_blt, e_isi, e_lrng, e_trng, e_tup, e_lst, e_sl, e_rev, e_every, e_ixV, e_ixC, e_ixI, e_ixL, evs_nil, evs_cons, evs_star, evs_io, evO_none, evO_some, evP_none, evP_some, evI_seq, evI_enum, evI_zip, rss_nil, rss_cons, rs_asg, rs_unp, rs_par, rs_ifs, rs_expr, rs_ret, rs_brk, rs_app, rs_while, getV, setV, isiD, copD, bx_add, bx_sub, bx_mul, bx_fdiv, bx_mod, b_lenL, b_lenT, b_abs, b_min2, b_max2, b_int, b_intB, b_listL, b_listT, b_tupL, b_tupT, b_all, b_any, b_sumL, b_sumT, unO, tb_len, MP.frs, itemsImm, imm, immL, asgD, MP.isIo, bindT, bindTs, seqOf, MP.isInt, at0, at1, at2, startE, cntIo, frzAll, fz0, wipeE, frz, frz1, MP.vars, varsS, varsO, varsI, LIM, e_trng, k, iR, lR]
theorem y54j {s d e t a b : Int} {T B D R I : List PyData} (iR : immL R = true) (k : ev cl e54_4 [some (Kd.io, .none), some (Kd.ro, .int s), some (Kd.ro, .int d), some (Kd.ro, .int e), some (Kd.own, .list T), some (Kd.own, .list B), some (Kd.ro, .int t), some (Kd.own, .list D), some (Kd.own, .list [.int a, .int b]), some (Kd.ro, .tuple R), none, none, none, none, none, none, none, none, none, none, none] P = some (.list I, P)) :
    rs cl true (.asg 10 e54_4) [some (Kd.io, .none), some (Kd.ro, .int s), some (Kd.ro, .int d), some (Kd.ro, .int e), some (Kd.own, .list T), some (Kd.own, .list B), some (Kd.ro, .int t), some (Kd.own, .list D), some (Kd.own, .list [.int a, .int b]), some (Kd.ro, .tuple R), none, none, none, none, none, none, none, none, none, none, none] P = some (.nx [some (Kd.io, .none), some (Kd.ro, .int s), some (Kd.ro, .int d), some (Kd.ro, .int e), some (Kd.own, .list T), some (Kd.own, .list B), some (Kd.ro, .int t), some (Kd.own, .list D), some (Kd.own, .list [.int a, .int b]), some (Kd.ro, .tuple R), some (Kd.own, .list I), none, none, none, none, none, none, none, none, none, none] P) := by
  simp [e_con, e_var, e_bin, e_neg, e_cmp, e_chain, e_and, e_or, e_not, e_ite, e_call, e_blt, e_isi, e_lrng, e_trng, e_tup, e_lst, e_sl, e_rev, e_every, e_ixV, e_ixC, e_ixI, e_ixL, evs_nil, evs_cons, evs_star, evs_io, evO_none, evO_some, evP_none, evP_some, evI_seq, evI_enum, evI_zip, rss_nil, rss_cons, rs_asg, rs_unp, rs_par, rs_ifs, rs_expr, rs_ret, rs_brk, rs_app, rs_while, getV, setV, isiD, copD, bx_add, bx_sub, bx_mul, bx_fdiv, bx_mod, b_lenL, b_lenT, b_abs, b_min2, b_max2, b_int, b_intB, b_listL, b_listT, b_tupL, b_tupT, b_all, b_any, b_sumL, b_sumT, unO, tb_len, MP.frs, itemsImm, imm, immL, asgD, MP.isIo, bindT, bindTs, seqOf, MP.isInt, at0, at1, at2, startE, cntIo, frzAll, fz0, wipeE, frz, frz1, MP.vars, varsS, varsO, varsI, LIM, k, iR, frs_e54_4]
theorem y54k {s d e t a b : Int} {T B D R I : List PyData} {L : Nat} (iR : immL R = true) (iI : immL I = true) (k : ev cl e54_3 [some (Kd.io, .none), some (Kd.ro, .int s), some (Kd.ro, .int d), some (Kd.ro, .int e), some (Kd.own, .list T), some (Kd.own, .list B), some (Kd.ro, .int t), some (Kd.own, .list D), some (Kd.own, .list [.int a, .int b]), some (Kd.ro, .tuple R), some (Kd.own, .list I), none, none, none, none, none, none, none, none, none, none] P = some (.list (tb L fun _ => .bool false), P)) :
    rs cl true (.ifs (.blt .any (.cons e54_3 .nil)) (.cons (.ret (.con (.bool false))) .nil) .nil) [some (Kd.io, .none), some (Kd.ro, .int s), some (Kd.ro, .int d), some (Kd.ro, .int e), some (Kd.own, .list T), some (Kd.own, .list B), some (Kd.ro, .int t), some (Kd.own, .list D), some (Kd.own, .list [.int a, .int b]), some (Kd.ro, .tuple R), some (Kd.own, .list I), none, none, none, none, none, none, none, none, none, none] P = some (.nx [some (Kd.io, .none), some (Kd.ro, .int s), some (Kd.ro, .int d), some (Kd.ro, .int e), some (Kd.own, .list T), some (Kd.own, .list B), some (Kd.ro, .int t), some (Kd.own, .list D), some (Kd.own, .list [.int a, .int b]), some (Kd.ro, .tuple R), some (Kd.own, .list I), none, none, none, none, none, none, none, none, none, none] P) := by
  simp [e_con, e_var, e_bin, e_neg, e_cmp, e_chain, e_and, e_or, e_not, e_ite, e_call, e_blt, e_isi, e_lrng, e_trng, e_tup, e_lst, e_sl, e_rev, e_every, e_ixV, e_ixC, e_ixI, e_ixL, evs_nil, evs_cons, evs_star, evs_io, evO_none, evO_some, evP_none, evP_some, evI_seq, evI_enum, evI_zip, rss_nil, rss_cons, rs_asg, rs_unp, rs_par, rs_ifs, rs_expr, rs_ret, rs_brk, rs_app, rs_while, getV, setV, isiD, copD, bx_add, bx_sub, bx_mul, bx_fdiv, bx_mod, b_lenL, b_lenT, b_abs, b_min2, b_max2, b_int, b_intB, b_listL, b_listT, b_tupL, b_tupT, b_all, b_any, b_sumL, b_sumT, unO, tb_len, MP.frs, itemsImm, imm, immL, asgD, MP.isIo, bindT, bindTs, seqOf, MP.isInt, at0, at1, at2, startE, cntIo, frzAll, fz0, wipeE, frz, frz1, MP.vars, varsS, varsO, varsI, LIM, k, iR, iI]
theorem y54l {s d e t a b : Int} {T B D R I : List PyData} {X z : PyData} (iR : immL R = true) (iI : immL I = true) (oX : okd 6 X) (hI : L2.atI I (-1) = some X) (k : cl 28 [some (.int s), some (.int d), some (.tuple R), some (.tuple [.int a, .int b])] P = some (.tuple [X, z], P)) :
    rs cl true (.ifs (.cmp .ne (.ix (.call 28 (.cons (.var 1) (.cons (.var 2) (.cons (.var 9) (.cons (.blt .tuple (.cons (.var 8) .nil)) .nil))))) (.con (.int 0))) (.ix (.var 10) (.neg (.con (.int 1))))) (.cons (.ret (.con (.bool false))) .nil) .nil) [some (Kd.io, .none), some (Kd.ro, .int s), some (Kd.ro, .int d), some (Kd.ro, .int e), some (Kd.own, .list T), some (Kd.own, .list B), some (Kd.ro, .int t), some (Kd.own, .list D), some (Kd.own, .list [.int a, .int b]), some (Kd.ro, .tuple R), some (Kd.own, .list I), none, none, none, none, none, none, none, none, none, none] P = some (.nx [some (Kd.io, .none), some (Kd.ro, .int s), some (Kd.ro, .int d), some (Kd.ro, .int e), some (Kd.own, .list T), some (Kd.own, .list B), some (Kd.ro, .int t), some (Kd.own, .list D), some (Kd.own, .list [.int a, .int b]), some (Kd.ro, .tuple R), some (Kd.own, .list I), none, none, none, none, none, none, none, none, none, none] P) := by
  simp [e_con, e_var, e_bin, e_neg, e_cmp, e_chain, e_and, e_or, e_not, e_ite, e_call, e_blt, e_isi, e_lrng, e_trng, e_tup, e_lst, e_sl, e_rev, e_every, e_ixV, e_ixC, e_ixI, e_ixL, evs_nil, evs_cons, evs_star, evs_io, evO_none, evO_some, evP_none, evP_some, evI_seq, evI_enum, evI_zip, rss_nil, rss_cons, rs_asg, rs_unp, rs_par, rs_ifs, rs_expr, rs_ret, rs_brk, rs_app, rs_while, getV, setV, isiD, copD, bx_add, bx_sub, bx_mul, bx_fdiv, bx_mod, b_lenL, b_lenT, b_abs, b_min2, b_max2, b_int, b_intB, b_listL, b_listT, b_tupL, b_tupT, b_all, b_any, b_sumL, b_sumT, unO, tb_len, MP.frs, itemsImm, imm, immL, asgD, MP.isIo, bindT, bindTs, seqOf, MP.isInt, at0, at1, at2, startE, cntIo, frzAll, fz0, wipeE, frz, frz1, MP.vars, varsS, varsO, varsI, LIM, k, iR, iI, hI, oX.1, oX.2]
theorem y54m {s d e t a b : Int} {T B D R I : List PyData} {X : PyData} (iR : immL R = true) (iI : immL I = true) (oX : okd 6 (.tuple [.str "holds", X])) (hI : L2.atI I (-1) = some X) (k : cl 29 [some (.int s), some (.int d), some (.tuple R), some X, some (.tuple [.int a, .int b])] P = some (.tuple [.str "holds", X], P)) :
    rs cl true (.ifs (.cmp .ne (.call 29 (.cons (.var 1) (.cons (.var 2) (.cons (.var 9) (.cons (.ix (.var 10) (.neg (.con (.int 1)))) (.cons (.blt .tuple (.cons (.var 8) .nil)) .nil)))))) (.tup (.cons (.con (.str "holds")) (.cons (.ix (.var 10) (.neg (.con (.int 1)))) .nil)))) (.cons (.ret (.con (.bool false))) .nil) .nil) [some (Kd.io, .none), some (Kd.ro, .int s), some (Kd.ro, .int d), some (Kd.ro, .int e), some (Kd.own, .list T), some (Kd.own, .list B), some (Kd.ro, .int t), some (Kd.own, .list D), some (Kd.own, .list [.int a, .int b]), some (Kd.ro, .tuple R), some (Kd.own, .list I), none, none, none, none, none, none, none, none, none, none] P = some (.nx [some (Kd.io, .none), some (Kd.ro, .int s), some (Kd.ro, .int d), some (Kd.ro, .int e), some (Kd.own, .list T), some (Kd.own, .list B), some (Kd.ro, .int t), some (Kd.own, .list D), some (Kd.own, .list [.int a, .int b]), some (Kd.ro, .tuple R), some (Kd.own, .list I), none, none, none, none, none, none, none, none, none, none] P) := by
  simp [e_con, e_var, e_bin, e_neg, e_cmp, e_chain, e_and, e_or, e_not, e_ite, e_call, e_blt, e_isi, e_lrng, e_trng, e_tup, e_lst, e_sl, e_rev, e_every, e_ixV, e_ixC, e_ixI, e_ixL, evs_nil, evs_cons, evs_star, evs_io, evO_none, evO_some, evP_none, evP_some, evI_seq, evI_enum, evI_zip, rss_nil, rss_cons, rs_asg, rs_unp, rs_par, rs_ifs, rs_expr, rs_ret, rs_brk, rs_app, rs_while, getV, setV, isiD, copD, bx_add, bx_sub, bx_mul, bx_fdiv, bx_mod, b_lenL, b_lenT, b_abs, b_min2, b_max2, b_int, b_intB, b_listL, b_listT, b_tupL, b_tupT, b_all, b_any, b_sumL, b_sumT, unO, tb_len, MP.frs, itemsImm, imm, immL, asgD, MP.isIo, bindT, bindTs, seqOf, MP.isInt, at0, at1, at2, startE, cntIo, frzAll, fz0, wipeE, frz, frz1, MP.vars, varsS, varsO, varsI, LIM, k, iR, iI, hI, oX.1, oX.2]
theorem y54n {s d e t a b : Int} {T B D R I G : List PyData} {X : PyData} (iR : immL R = true) (iI : immL I = true) (iG : immL G = true) (hI : L2.atI I (-1) = some X) (k : cl 31 [some (.int s), some (.int d), some (.tuple [.int a, .int b]), some X, some (.str "up")] P = some (.tuple G, P)) :
    rs cl true (.asg 11 (.call 31 (.cons (.var 1) (.cons (.var 2) (.cons (.blt .tuple (.cons (.var 8) .nil)) (.cons (.ix (.var 10) (.neg (.con (.int 1)))) (.cons (.con (.str "up")) .nil))))))) [some (Kd.io, .none), some (Kd.ro, .int s), some (Kd.ro, .int d), some (Kd.ro, .int e), some (Kd.own, .list T), some (Kd.own, .list B), some (Kd.ro, .int t), some (Kd.own, .list D), some (Kd.own, .list [.int a, .int b]), some (Kd.ro, .tuple R), some (Kd.own, .list I), none, none, none, none, none, none, none, none, none, none] P = some (.nx [some (Kd.io, .none), some (Kd.ro, .int s), some (Kd.ro, .int d), some (Kd.ro, .int e), some (Kd.own, .list T), some (Kd.own, .list B), some (Kd.ro, .int t), some (Kd.own, .list D), some (Kd.own, .list [.int a, .int b]), some (Kd.ro, .tuple R), some (Kd.own, .list I), some (Kd.ro, .tuple G), none, none, none, none, none, none, none, none, none] P) := by
  simp [e_con, e_var, e_bin, e_neg, e_cmp, e_chain, e_and, e_or, e_not, e_ite, e_call, e_blt, e_isi, e_lrng, e_trng, e_tup, e_lst, e_sl, e_rev, e_every, e_ixV, e_ixC, e_ixI, e_ixL, evs_nil, evs_cons, evs_star, evs_io, evO_none, evO_some, evP_none, evP_some, evI_seq, evI_enum, evI_zip, rss_nil, rss_cons, rs_asg, rs_unp, rs_par, rs_ifs, rs_expr, rs_ret, rs_brk, rs_app, rs_while, getV, setV, isiD, copD, bx_add, bx_sub, bx_mul, bx_fdiv, bx_mod, b_lenL, b_lenT, b_abs, b_min2, b_max2, b_int, b_intB, b_listL, b_listT, b_tupL, b_tupT, b_all, b_any, b_sumL, b_sumT, unO, tb_len, MP.frs, itemsImm, imm, immL, asgD, MP.isIo, bindT, bindTs, seqOf, MP.isInt, at0, at1, at2, startE, cntIo, frzAll, fz0, wipeE, frz, frz1, MP.vars, varsS, varsO, varsI, LIM, k, iR, iI, iG, hI]
theorem y54o {s d e t a b : Int} {T B D R I G : List PyData} {L : Nat} (iR : immL R = true) (iI : immL I = true) (iG : immL G = true) (lG : G.length ≤ 1000000) (oG : okd 6 (.list G)) (x : ev cl e54_2 [some (Kd.io, .none), some (Kd.ro, .int s), some (Kd.ro, .int d), some (Kd.ro, .int e), some (Kd.own, .list T), some (Kd.own, .list B), some (Kd.ro, .int t), some (Kd.own, .list D), some (Kd.own, .list [.int a, .int b]), some (Kd.ro, .tuple R), some (Kd.own, .list I), some (Kd.ro, .tuple G), none, none, none, none, none, none, none, none, none] P = some (.list (tb L fun _ => .bool true), P)) (y : evI cl (.rng2 (.bin .sub (.bin .add (.var 2) (.con (.int 1))) (.blt .len (.cons (.var 11) .nil))) (.bin .add (.var 2) (.con (.int 1)))) [some (Kd.io, .none), some (Kd.ro, .int s), some (Kd.ro, .int d), some (Kd.ro, .int e), some (Kd.own, .list T), some (Kd.own, .list B), some (Kd.ro, .int t), some (Kd.own, .list D), some (Kd.own, .list [.int a, .int b]), some (Kd.ro, .tuple R), some (Kd.own, .list I), some (Kd.ro, .tuple G), none, none, none, none, none, none, none, none, none] P = some (G, P)) :
    rs cl true (.ifs (.or (.not (.blt .all (.cons e54_2 .nil))) (.cmp .ne (.blt .list (.cons (.var 11) .nil)) (.lrng (.rng2 (.bin .sub (.bin .add (.var 2) (.con (.int 1))) (.blt .len (.cons (.var 11) .nil))) (.bin .add (.var 2) (.con (.int 1))))))) (.cons (.ret (.con (.bool false))) .nil) .nil) [some (Kd.io, .none), some (Kd.ro, .int s), some (Kd.ro, .int d), some (Kd.ro, .int e), some (Kd.own, .list T), some (Kd.own, .list B), some (Kd.ro, .int t), some (Kd.own, .list D), some (Kd.own, .list [.int a, .int b]), some (Kd.ro, .tuple R), some (Kd.own, .list I), some (Kd.ro, .tuple G), none, none, none, none, none, none, none, none, none] P = some (.nx [some (Kd.io, .none), some (Kd.ro, .int s), some (Kd.ro, .int d), some (Kd.ro, .int e), some (Kd.own, .list T), some (Kd.own, .list B), some (Kd.ro, .int t), some (Kd.own, .list D), some (Kd.own, .list [.int a, .int b]), some (Kd.ro, .tuple R), some (Kd.own, .list I), some (Kd.ro, .tuple G), none, none, none, none, none, none, none, none, none] P) := by
  simp [e_con, e_var, e_bin, e_neg, e_cmp, e_chain, e_and, e_or, e_not, e_ite, e_call, e_blt, e_isi, e_lrng, e_trng, e_tup, e_lst, e_sl, e_rev, e_every, e_ixV, e_ixC, e_ixI, e_ixL, evs_nil, evs_cons, evs_star, evs_io, evO_none, evO_some, evP_none, evP_some, evI_seq, evI_enum, evI_zip, rss_nil, rss_cons, rs_asg, rs_unp, rs_par, rs_ifs, rs_expr, rs_ret, rs_brk, rs_app, rs_while, getV, setV, isiD, copD, bx_add, bx_sub, bx_mul, bx_fdiv, bx_mod, b_lenL, b_lenT, b_abs, b_min2, b_max2, b_int, b_intB, b_listL, b_listT, b_tupL, b_tupT, b_all, b_any, b_sumL, b_sumT, unO, tb_len, MP.frs, itemsImm, imm, immL, asgD, MP.isIo, bindT, bindTs, seqOf, MP.isInt, at0, at1, at2, startE, cntIo, frzAll, fz0, wipeE, frz, frz1, MP.vars, varsS, varsO, varsI, LIM, x, y, iR, iI, iG, lG, oG.1, oG.2]
theorem y54p {s d e t a b : Int} {T B D R I G : List PyData} {told : PyData} (it : imm told = true) (k : cl 42 [none, some (.list [.tuple [.int 1, .int 10], .tuple [.int 1, .int 2], .tuple [.int 9, .int 10]])] P = some (told, P1)) :
    rs cl true (.asg 12 (.call 42 (.io 0 (.cons (.lst (.cons (.tup (.cons (.con (.int 1)) (.cons (.con (.int 10)) .nil))) (.cons (.tup (.cons (.con (.int 1)) (.cons (.con (.int 2)) .nil))) (.cons (.tup (.cons (.con (.int 9)) (.cons (.con (.int 10)) .nil))) .nil)))) .nil)))) [some (Kd.io, .none), some (Kd.ro, .int s), some (Kd.ro, .int d), some (Kd.ro, .int e), some (Kd.own, .list T), some (Kd.own, .list B), some (Kd.ro, .int t), some (Kd.own, .list D), some (Kd.own, .list [.int a, .int b]), some (Kd.ro, .tuple R), some (Kd.own, .list I), some (Kd.ro, .tuple G), none, none, none, none, none, none, none, none, none] P = some (.nx [some (Kd.io, .none), some (Kd.ro, .int s), some (Kd.ro, .int d), some (Kd.ro, .int e), some (Kd.own, .list T), some (Kd.own, .list B), some (Kd.ro, .int t), some (Kd.own, .list D), some (Kd.own, .list [.int a, .int b]), some (Kd.ro, .tuple R), some (Kd.own, .list I), some (Kd.ro, .tuple G), some (Kd.ro, told), none, none, none, none, none, none, none, none] P1) := by
  simp [e_con, e_var, e_bin, e_neg, e_cmp, e_chain, e_and, e_or, e_not, e_ite, e_call, e_blt, e_isi, e_lrng, e_trng, e_tup, e_lst, e_sl, e_rev, e_every, e_ixV, e_ixC, e_ixI, e_ixL, evs_nil, evs_cons, evs_star, evs_io, evO_none, evO_some, evP_none, evP_some, evI_seq, evI_enum, evI_zip, rss_nil, rss_cons, rs_asg, rs_unp, rs_par, rs_ifs, rs_expr, rs_ret, rs_brk, rs_app, rs_while, getV, setV, isiD, copD, bx_add, bx_sub, bx_mul, bx_fdiv, bx_mod, b_lenL, b_lenT, b_abs, b_min2, b_max2, b_int, b_intB, b_listL, b_listT, b_tupL, b_tupT, b_all, b_any, b_sumL, b_sumT, unO, tb_len, MP.frs, itemsImm, imm, immL, asgD, MP.isIo, bindT, bindTs, seqOf, MP.isInt, at0, at1, at2, startE, cntIo, frzAll, fz0, wipeE, frz, frz1, MP.vars, varsS, varsO, varsI, LIM, k, it]
theorem y54q {s d e t a b : Int} {T B D R I G H : List PyData} {told half : PyData} (it : imm half = true) (iH : immL H = true) (k1 : cl 48 [some told, some (.tuple [.int 1, .int 2])] P = some (half, P)) (k2 : cl 33 [some (.int s), some (.int d), some (.int e), some told] P = some (.tuple H, P)) :
    rs cl true (.par 14 15 (.call 48 (.cons (.var 12) (.cons (.tup (.cons (.con (.int 1)) (.cons (.con (.int 2)) .nil))) .nil))) (.call 33 (.cons (.var 1) (.cons (.var 2) (.cons (.var 3) (.cons (.var 12) .nil)))))) [some (Kd.io, .none), some (Kd.ro, .int s), some (Kd.ro, .int d), some (Kd.ro, .int e), some (Kd.own, .list T), some (Kd.own, .list B), some (Kd.ro, .int t), some (Kd.own, .list D), some (Kd.own, .list [.int a, .int b]), some (Kd.ro, .tuple R), some (Kd.own, .list I), some (Kd.ro, .tuple G), some (Kd.ro, told), none, none, none, none, none, none, none, none] P = some (.nx [some (Kd.io, .none), some (Kd.ro, .int s), some (Kd.ro, .int d), some (Kd.ro, .int e), some (Kd.own, .list T), some (Kd.own, .list B), some (Kd.ro, .int t), some (Kd.own, .list D), some (Kd.own, .list [.int a, .int b]), some (Kd.ro, .tuple R), some (Kd.own, .list I), some (Kd.ro, .tuple G), some (Kd.ro, told), none, some (Kd.ro, half), some (Kd.ro, .tuple H), none, none, none, none, none] P) := by
  simp [e_con, e_var, e_bin, e_neg, e_cmp, e_chain, e_and, e_or, e_not, e_ite, e_call, e_blt, e_isi, e_lrng, e_trng, e_tup, e_lst, e_sl, e_rev, e_every, e_ixV, e_ixC, e_ixI, e_ixL, evs_nil, evs_cons, evs_star, evs_io, evO_none, evO_some, evP_none, evP_some, evI_seq, evI_enum, evI_zip, rss_nil, rss_cons, rs_asg, rs_unp, rs_par, rs_ifs, rs_expr, rs_ret, rs_brk, rs_app, rs_while, getV, setV, isiD, copD, bx_add, bx_sub, bx_mul, bx_fdiv, bx_mod, b_lenL, b_lenT, b_abs, b_min2, b_max2, b_int, b_intB, b_listL, b_listT, b_tupL, b_tupT, b_all, b_any, b_sumL, b_sumT, unO, tb_len, MP.frs, itemsImm, imm, immL, asgD, MP.isIo, bindT, bindTs, seqOf, MP.isInt, at0, at1, at2, startE, cntIo, frzAll, fz0, wipeE, frz, frz1, MP.vars, varsS, varsO, varsI, LIM, k1, k2, it, iH]
theorem bool_eqv (a b : Bool) : PyData.eqv (.bool a) (.bool b) = (a == b) := by
  cases a <;> cases b <;> simp [PyData.eqv]
theorem y54r {s d e t a b m : Int} {T B D R I G H U N : List PyData} {told half X Y : PyData} {b1 b2 : Bool} {o16 o17 : Option (Kd × PyData)} (ho : (o16 = none ∧ o17 = none) ∨ ∃ x y, o16 = some (Kd.ro, x) ∧ o17 = some (Kd.ro, y)) (iU : immL U = true) (iN : immL N = true) (k : cl 32 [some (.int s), some (.int d), some (.int m)] P = some (.tuple [.tuple U, .tuple N], P)) (hU : L2.atI U e = some X) (hN : L2.atI N e = some Y) (k1 : cl 49 [some X, some half] P = some (.bool b1, P)) (k2 : cl 49 [some Y, some half] P = some (.bool b2, P)) (hi : inD (.int m) H = some (!b1 && !b2)) :
    rss cl true e54_0 [some (Kd.io, .none), some (Kd.ro, .int s), some (Kd.ro, .int d), some (Kd.ro, .int e), some (Kd.own, .list T), some (Kd.own, .list B), some (Kd.ro, .int t), some (Kd.own, .list D), some (Kd.own, .list [.int a, .int b]), some (Kd.ro, .tuple R), some (Kd.own, .list I), some (Kd.ro, .tuple G), some (Kd.ro, told), some (Kd.ro, .int m), some (Kd.ro, half), some (Kd.ro, .tuple H), o16, o17, none, none, none] P = some (.nx [some (Kd.io, .none), some (Kd.ro, .int s), some (Kd.ro, .int d), some (Kd.ro, .int e), some (Kd.own, .list T), some (Kd.own, .list B), some (Kd.ro, .int t), some (Kd.own, .list D), some (Kd.own, .list [.int a, .int b]), some (Kd.ro, .tuple R), some (Kd.own, .list I), some (Kd.ro, .tuple G), some (Kd.ro, told), some (Kd.ro, .int m), some (Kd.ro, half), some (Kd.ro, .tuple H), some (Kd.ro, .tuple U), some (Kd.ro, .tuple N), none, none, none] P) := by
  rcases ho with ⟨h7, h8⟩ | ⟨x, y, h7, h8⟩ <;> subst h7 <;> subst h8 <;> cases b1 <;> cases b2 <;> simp at hi <;> simp [e_con, e_var, e_bin, e_neg, e_cmp, e_chain, e_and, e_or, e_not, e_ite, e_call, e_blt, e_isi, e_lrng, e_trng, e_tup, e_lst, e_sl, e_rev, e_every, e_ixV, e_ixC, e_ixI, e_ixL, evs_nil, evs_cons, evs_star, evs_io, evO_none, evO_some, evP_none, evP_some, evI_seq, evI_enum, evI_zip, rss_nil, rss_cons, rs_asg, rs_unp, rs_par, rs_ifs, rs_expr, rs_ret, rs_brk, rs_app, rs_while, getV, setV, isiD, copD, bx_add, bx_sub, bx_mul, bx_fdiv, bx_mod, b_lenL, b_lenT, b_abs, b_min2, b_max2, b_int, b_intB, b_listL, b_listT, b_tupL, b_tupT, b_all, b_any, b_sumL, b_sumT, unO, tb_len, MP.frs, itemsImm, imm, immL, asgD, MP.isIo, bindT, bindTs, seqOf, MP.isInt, at0, at1, at2, startE, cntIo, frzAll, fz0, wipeE, frz, frz1, MP.vars, varsS, varsO, varsI, LIM, e54_0, k, hU, hN, k1, k2, hi, iU, iN, bool_eqv, shp]
theorem y54s0 {s d e t a b : Int} {T B D R I G : List PyData} {told half : PyData} {o13 o16 o17 : Option (Kd × PyData)} :
    rss cl true (.cons (.ret (.ite (.cmp .ne (.var 15) (.tup .nil)) (.cmp .eq (.blt .list (.cons (.var 15) .nil)) (.lrng (.rng2 (.ix (.var 15) (.con (.int 0))) (.bin .add (.ix (.var 15) (.neg (.con (.int 1)))) (.con (.int 1)))))) (.con (.bool true)))) .nil) [some (Kd.io, .none), some (Kd.ro, .int s), some (Kd.ro, .int d), some (Kd.ro, .int e), some (Kd.own, .list T), some (Kd.own, .list B), some (Kd.ro, .int t), some (Kd.own, .list D), some (Kd.own, .list [.int a, .int b]), some (Kd.ro, .tuple R), some (Kd.own, .list I), some (Kd.ro, .tuple G), some (Kd.ro, told), o13, some (Kd.ro, half), some (Kd.ro, .tuple []), o16, o17, none, none, none] P = some (.rt (.bool true) P) := by
  have e1 : PyData.eqv (.tuple []) (.tuple []) = true := by simp [PyData.eqv, PyData.eqvAll]
  simp [e_con, e_var, e_bin, e_neg, e_cmp, e_chain, e_and, e_or, e_not, e_ite, e_call, e_blt, e_isi, e_lrng, e_trng, e_tup, e_lst, e_sl, e_rev, e_every, e_ixV, e_ixC, e_ixI, e_ixL, evs_nil, evs_cons, evs_star, evs_io, evO_none, evO_some, evP_none, evP_some, evI_seq, evI_enum, evI_zip, rss_nil, rss_cons, rs_asg, rs_unp, rs_par, rs_ifs, rs_expr, rs_ret, rs_brk, rs_app, rs_while, getV, setV, isiD, copD, bx_add, bx_sub, bx_mul, bx_fdiv, bx_mod, b_lenL, b_lenT, b_abs, b_min2, b_max2, b_int, b_intB, b_listL, b_listT, b_tupL, b_tupT, b_all, b_any, b_sumL, b_sumT, unO, tb_len, MP.frs, itemsImm, imm, immL, asgD, MP.isIo, bindT, bindTs, seqOf, MP.isInt, at0, at1, at2, startE, cntIo, frzAll, fz0, wipeE, frz, frz1, MP.vars, varsS, varsO, varsI, LIM, e1, shp]
theorem y54s1 {s d e t a b lo hi : Int} {T B D R I G H : List PyData} {h0 told half : PyData} {o13 o16 o17 : Option (Kd × PyData)} (iH : immL H = true) (lH : H.length ≤ 1000000) (oH : okd 6 (.list H)) (e0 : H = h0 :: H.tail) (h1 : L2.atI H 0 = some (.int lo)) (h2 : L2.atI H (-1) = some (.int hi)) (k : evI cl (.rng2 (.ix (.var 15) (.con (.int 0))) (.bin .add (.ix (.var 15) (.neg (.con (.int 1)))) (.con (.int 1)))) [some (Kd.io, .none), some (Kd.ro, .int s), some (Kd.ro, .int d), some (Kd.ro, .int e), some (Kd.own, .list T), some (Kd.own, .list B), some (Kd.ro, .int t), some (Kd.own, .list D), some (Kd.own, .list [.int a, .int b]), some (Kd.ro, .tuple R), some (Kd.own, .list I), some (Kd.ro, .tuple G), some (Kd.ro, told), o13, some (Kd.ro, half), some (Kd.ro, .tuple H), o16, o17, none, none, none] P = some (H, P)) :
    rss cl true (.cons (.ret (.ite (.cmp .ne (.var 15) (.tup .nil)) (.cmp .eq (.blt .list (.cons (.var 15) .nil)) (.lrng (.rng2 (.ix (.var 15) (.con (.int 0))) (.bin .add (.ix (.var 15) (.neg (.con (.int 1)))) (.con (.int 1)))))) (.con (.bool true)))) .nil) [some (Kd.io, .none), some (Kd.ro, .int s), some (Kd.ro, .int d), some (Kd.ro, .int e), some (Kd.own, .list T), some (Kd.own, .list B), some (Kd.ro, .int t), some (Kd.own, .list D), some (Kd.own, .list [.int a, .int b]), some (Kd.ro, .tuple R), some (Kd.own, .list I), some (Kd.ro, .tuple G), some (Kd.ro, told), o13, some (Kd.ro, half), some (Kd.ro, .tuple H), o16, o17, none, none, none] P = some (.rt (.bool true) P) := by
  have e1 : PyData.eqv (.tuple H) (.tuple []) = false := by rw [e0]; simp [PyData.eqv, PyData.eqvAll]
  have e2 : shp 6 (.tuple H) = true := oH.1
  have e3 : shp 6 (.tuple []) = true := rfl
  simp [e_con, e_var, e_bin, e_neg, e_cmp, e_chain, e_and, e_or, e_not, e_ite, e_call, e_blt, e_isi, e_lrng, e_trng, e_tup, e_lst, e_sl, e_rev, e_every, e_ixV, e_ixC, e_ixI, e_ixL, evs_nil, evs_cons, evs_star, evs_io, evO_none, evO_some, evP_none, evP_some, evI_seq, evI_enum, evI_zip, rss_nil, rss_cons, rs_asg, rs_unp, rs_par, rs_ifs, rs_expr, rs_ret, rs_brk, rs_app, rs_while, getV, setV, isiD, copD, bx_add, bx_sub, bx_mul, bx_fdiv, bx_mod, b_lenL, b_lenT, b_abs, b_min2, b_max2, b_int, b_intB, b_listL, b_listT, b_tupL, b_tupT, b_all, b_any, b_sumL, b_sumT, unO, tb_len, MP.frs, itemsImm, imm, immL, asgD, MP.isIo, bindT, bindTs, seqOf, MP.isInt, at0, at1, at2, startE, cntIo, frzAll, fz0, wipeE, frz, frz1, MP.vars, varsS, varsO, varsI, LIM, e1, e2, e3, k, iH, lH, oH.1, oH.2]
/-! ### elements -/
variable {o0 o1 o2 o3 o4 o5 o6 o7 o8 o9 o10 o11 o12 o13 o14 o15 o16 o17 o18 o19 o20 : Option (Kd × PyData)}
theorem u54_6 {s d e m x : Int} {A : List PyData} (iA : immL A = true) (k : cl 25 [some (.int s), some (.int d), some (.int m)] P = some (.tuple A, P)) (hA : L2.atI A e = some (.int x)) :
    ev cl (.ix (.call 25 (.cons (.var 1) (.cons (.var 2) (.cons (.var 13) .nil)))) (.var 3)) [o0, some (Kd.ro, .int s), some (Kd.ro, .int d), some (Kd.ro, .int e), o4, o5, o6, o7, o8, o9, o10, o11, o12, some (Kd.ro, .int m), o14, o15, o16, o17, o18, o19, o20] P = some (.int x, P) := by
  simp [e_con, e_var, e_bin, e_neg, e_cmp, e_chain, e_and, e_or, e_not, e_ite, e_call, e_blt, e_isi, e_lrng, e_trng, e_tup, e_lst, e_sl, e_rev, e_every, e_ixV, e_ixC, e_ixI, e_ixL, evs_nil, evs_cons, evs_star, evs_io, evO_none, evO_some, evP_none, evP_some, evI_seq, evI_enum, evI_zip, rss_nil, rss_cons, rs_asg, rs_unp, rs_par, rs_ifs, rs_expr, rs_ret, rs_brk, rs_app, rs_while, getV, setV, isiD, copD, bx_add, bx_sub, bx_mul, bx_fdiv, bx_mod, b_lenL, b_lenT, b_abs, b_min2, b_max2, b_int, b_intB, b_listL, b_listT, b_tupL, b_tupT, b_all, b_any, b_sumL, b_sumT, unO, tb_len, MP.frs, itemsImm, imm, immL, asgD, MP.isIo, bindT, bindTs, seqOf, MP.isInt, at0, at1, at2, startE, cntIo, frzAll, fz0, wipeE, frz, frz1, MP.vars, varsS, varsO, varsI, LIM, k, hA, iA]
theorem u54_5 {m t M : Int} {T : List PyData} (iT : immL T = true) (hx : L2.atI T m = some (.int t)) (hM : bltD .maxl [.list T] = some (.int M)) :
    evO cl (.some (.cmp .eq (.ix (.var 4) (.var 13)) (.blt .maxl (.cons (.var 4) .nil)))) [o0, o1, o2, o3, some (Kd.fz, .list T), o5, o6, o7, o8, o9, o10, o11, o12, some (Kd.ro, .int m), o14, o15, o16, o17, o18, o19, o20] P = some (decide (t = M), P) := by
  have o := fun x => (okd_int 6 x).1
  simp [e_con, e_var, e_bin, e_neg, e_cmp, e_chain, e_and, e_or, e_not, e_ite, e_call, e_blt, e_isi, e_lrng, e_trng, e_tup, e_lst, e_sl, e_rev, e_every, e_ixV, e_ixC, e_ixI, e_ixL, evs_nil, evs_cons, evs_star, evs_io, evO_none, evO_some, evP_none, evP_some, evI_seq, evI_enum, evI_zip, rss_nil, rss_cons, rs_asg, rs_unp, rs_par, rs_ifs, rs_expr, rs_ret, rs_brk, rs_app, rs_while, getV, setV, isiD, copD, bx_add, bx_sub, bx_mul, bx_fdiv, bx_mod, b_lenL, b_lenT, b_abs, b_min2, b_max2, b_int, b_intB, b_listL, b_listT, b_tupL, b_tupT, b_all, b_any, b_sumL, b_sumT, unO, tb_len, MP.frs, itemsImm, imm, immL, asgD, MP.isIo, bindT, bindTs, seqOf, MP.isInt, at0, at1, at2, startE, cntIo, frzAll, fz0, wipeE, frz, frz1, MP.vars, varsS, varsO, varsI, LIM, hx, hM, o, int_eqv, iT]
theorem u54_4 {s d m : Int} {R : List PyData} {X : PyData} (iR : immL R = true) (k : cl 26 [some (.int s), some (.int d), some (.tuple R), some (.int m)] P = some (X, P)) :
    ev cl (.call 26 (.cons (.var 1) (.cons (.var 2) (.cons (.var 9) (.cons (.var 13) .nil))))) [o0, some (Kd.ro, .int s), some (Kd.ro, .int d), o3, o4, o5, o6, o7, o8, some (Kd.ro, .tuple R), o10, o11, o12, some (Kd.ro, .int m), o14, o15, o16, o17, o18, o19, o20] P = some (X, P) := by
  simp [e_con, e_var, e_bin, e_neg, e_cmp, e_chain, e_and, e_or, e_not, e_ite, e_call, e_blt, e_isi, e_lrng, e_trng, e_tup, e_lst, e_sl, e_rev, e_every, e_ixV, e_ixC, e_ixI, e_ixL, evs_nil, evs_cons, evs_star, evs_io, evO_none, evO_some, evP_none, evP_some, evI_seq, evI_enum, evI_zip, rss_nil, rss_cons, rs_asg, rs_unp, rs_par, rs_ifs, rs_expr, rs_ret, rs_brk, rs_app, rs_while, getV, setV, isiD, copD, bx_add, bx_sub, bx_mul, bx_fdiv, bx_mod, b_lenL, b_lenT, b_abs, b_min2, b_max2, b_int, b_intB, b_listL, b_listT, b_tupL, b_tupT, b_all, b_any, b_sumL, b_sumT, unO, tb_len, MP.frs, itemsImm, imm, immL, asgD, MP.isIo, bindT, bindTs, seqOf, MP.isInt, at0, at1, at2, startE, cntIo, frzAll, fz0, wipeE, frz, frz1, MP.vars, varsS, varsO, varsI, LIM, k, iR]
theorem u54_3 {X Y : PyData} {b : Bool} (k : cl 49 [some Y, some X] P = some (.bool b, P)) :
    ev cl (.call 49 (.cons (.var 19) (.cons (.var 18) .nil))) [o0, o1, o2, o3, o4, o5, o6, o7, o8, o9, o10, o11, o12, o13, o14, o15, o16, o17, some (Kd.ro, X), some (Kd.ro, Y), o20] P = some (.bool b, P) := by
  simp [e_con, e_var, e_bin, e_neg, e_cmp, e_chain, e_and, e_or, e_not, e_ite, e_call, e_blt, e_isi, e_lrng, e_trng, e_tup, e_lst, e_sl, e_rev, e_every, e_ixV, e_ixC, e_ixI, e_ixL, evs_nil, evs_cons, evs_star, evs_io, evO_none, evO_some, evP_none, evP_some, evI_seq, evI_enum, evI_zip, rss_nil, rss_cons, rs_asg, rs_unp, rs_par, rs_ifs, rs_expr, rs_ret, rs_brk, rs_app, rs_while, getV, setV, isiD, copD, bx_add, bx_sub, bx_mul, bx_fdiv, bx_mod, b_lenL, b_lenT, b_abs, b_min2, b_max2, b_int, b_intB, b_listL, b_listT, b_tupL, b_tupT, b_all, b_any, b_sumL, b_sumT, unO, tb_len, MP.frs, itemsImm, imm, immL, asgD, MP.isIo, bindT, bindTs, seqOf, MP.isInt, at0, at1, at2, startE, cntIo, frzAll, fz0, wipeE, frz, frz1, MP.vars, varsS, varsO, varsI, LIM, k]
theorem u54_2 {G : List PyData} {x : PyData} {b : Bool} (iG : immL G = true) (k : inD x G = some b) :
    ev cl (.cmp .isin (.var 20) (.var 11)) [o0, o1, o2, o3, o4, o5, o6, o7, o8, o9, o10, some (Kd.ro, .tuple G), o12, o13, o14, o15, o16, o17, o18, o19, some (Kd.ro, x)] P = some (.bool b, P) := by
  simp [e_con, e_var, e_bin, e_neg, e_cmp, e_chain, e_and, e_or, e_not, e_ite, e_call, e_blt, e_isi, e_lrng, e_trng, e_tup, e_lst, e_sl, e_rev, e_every, e_ixV, e_ixC, e_ixI, e_ixL, evs_nil, evs_cons, evs_star, evs_io, evO_none, evO_some, evP_none, evP_some, evI_seq, evI_enum, evI_zip, rss_nil, rss_cons, rs_asg, rs_unp, rs_par, rs_ifs, rs_expr, rs_ret, rs_brk, rs_app, rs_while, getV, setV, isiD, copD, bx_add, bx_sub, bx_mul, bx_fdiv, bx_mod, b_lenL, b_lenT, b_abs, b_min2, b_max2, b_int, b_intB, b_listL, b_listT, b_tupL, b_tupT, b_all, b_any, b_sumL, b_sumT, unO, tb_len, MP.frs, itemsImm, imm, immL, asgD, MP.isIo, bindT, bindTs, seqOf, MP.isInt, at0, at1, at2, startE, cntIo, frzAll, fz0, wipeE, frz, frz1, MP.vars, varsS, varsO, varsI, LIM, k, iG]
end K06
set_option Elab.async false
set_option linter.all false
set_option maxRecDepth 100000
/-! k06: likeliest ones, whole. -/
namespace K06
open PySem MP
variable {n : Nat} {P : PyData}
theorem intsOf_map : ∀ (l : List Int), intsOf (l.map PyData.int) = some l
  | [] => rfl
  | a :: r => by
    show (intsOf (r.map PyData.int)).map _ = _
    rw [intsOf_map r]
    rfl
theorem sort_map (l : List Int) : bltD .sorted [.list (l.map PyData.int)] = some (.list ((sortI l).map PyData.int)) := by
  show (intsOf _).map _ = _
  rw [intsOf_map]
  rfl
theorem okd_ints (k : Nat) (l : List Int) : okd (k + 2) (.list (l.map PyData.int)) := okd_list fun x hx => by
  obtain ⟨i, _, e⟩ := List.mem_map.mp hx
  subst e
  exact okd_int _ _
theorem immL_map (l : List Int) : immL (l.map PyData.int) = true := immL_of fun x hx => by
  obtain ⟨i, _, e⟩ := List.mem_map.mp hx
  subst e
  rfl
theorem max_map (l : List Int) (h : l ≠ []) : bltD .maxl [.list (l.map PyData.int)] = some (.int (mxI l)) := by
  cases l with
  | nil => exact absurd rfl h
  | cons a r =>
    show (match intsOf ((a :: r).map PyData.int) with
    | some (n :: r) => some (PyData.int (maxI n r))
    | _ => none) = _
    rw [intsOf_map]
    rfl
theorem T_map (s d e : Nat) : ((tb (s + 1) fun m => PyData.int (dr s d m e : Nat)) : List PyData) = ((tb (s + 1) fun m => ((dr s d m e : Nat) : Int))).map PyData.int := by rw [tb_map]
/-- what the finite check tells -/
theorem likely (s d e : Nat) (h1 : 1 ≤ s) (h2 : s ≤ 14) (h3 : 1 ≤ d) (h4 : d ≤ s) (he : e ≤ d) : ∃ b : Nat, b ≤ s ∧ filL (fun m => decide (((dr s d m e : Nat) : Int) = mxI (tb (s + 1) fun m => ((dr s d m e : Nat) : Int)))) (s + 1) = (dueI s d e).map PyData.int ∧ (∃ r, dueI s d e = (b : Int) :: r) ∧ sortI (((tb (s + 1) fun m => ((dr s d m e : Nat) : Int))).take (b + 1)) = ((tb (s + 1) fun m => ((dr s d m e : Nat) : Int))).take (b + 1) ∧ (sortI (((tb (s + 1) fun m => ((dr s d m e : Nat) : Int))).drop b)).reverse = ((tb (s + 1) fun m => ((dr s d m e : Nat) : Int))).drop b := by
  have h := fchk_at h1 h2 h3 h4 he
  unfold fchk at h
  rw [TF_eq h2 h4 he] at h
  dsimp only at h
  rw [Bool.and_eq_true] at h
  obtain ⟨k1, k2⟩ := h
  have k1 := eq_of_beq k1
  have eB : bst (tb (s + 1) fun m => ((dr s d m e : Nat) : Int)) = (List.range (s + 1)).filter (fun m => decide (((dr s d m e : Nat) : Int) = mxI (tb (s + 1) fun m => ((dr s d m e : Nat) : Int)))) := by
    unfold bst
    rw [tb_len]
    refine List.filter_congr fun m hm => ?_
    have hm := List.mem_range.mp hm
    rw [List.getD_eq_getElem?_getD, tb_get, if_pos hm]
    by_cases c : ((dr s d m e : Nat) : Int) = mxI (tb (s + 1) fun m => ((dr s d m e : Nat) : Int))
    · rw [decide_eq_true c]
      exact beq_iff_eq.mpr c
    · rw [decide_eq_false c]
      exact beq_eq_false_iff_ne.mpr c
  have eF : filL (fun m => decide (((dr s d m e : Nat) : Int) = mxI (tb (s + 1) fun m => ((dr s d m e : Nat) : Int)))) (s + 1) = (dueI s d e).map PyData.int := by
    unfold filL
    rw [← eB, ← k1, List.map_map]
    rfl
  cases hB : bst (tb (s + 1) fun m => ((dr s d m e : Nat) : Int)) with
  | nil =>
    rw [hB] at k2
    cases k2
  | cons b r =>
    rw [hB] at k1 k2
    dsimp only at k2
    rw [Bool.and_eq_true] at k2
    have hb : b ∈ bst (tb (s + 1) fun m => ((dr s d m e : Nat) : Int)) := by rw [hB]; exact List.mem_cons_self ..
    rw [eB] at hb
    have hb := List.mem_range.mp (List.mem_filter.mp hb).1
    exact ⟨b, by omega, eF, ⟨r.map Int.ofNat, by rw [← k1]; rfl⟩, eq_of_beq k2.1, eq_of_beq k2.2⟩
theorem due_eq {s d e : Nat} (h3 : 1 ≤ d) : (if (decide ((0 : Int) < (e : Nat)) && decide (((e : Nat) : Int) < (d : Nat))) && decide (((e : Int) * ((s : Int) + 1)) / (d : Nat) * (d : Nat) = (e : Int) * ((s : Int) + 1)) then [PyData.int ((if (e : Int) * ((s : Int) + 1) / (d : Nat) < (s : Nat) then (e : Int) * ((s : Int) + 1) / (d : Nat) else (s : Nat)) - 1), .int (if (e : Int) * ((s : Int) + 1) / (d : Nat) < (s : Nat) then (e : Int) * ((s : Int) + 1) / (d : Nat) else (s : Nat))] else [.int (if (e : Int) * ((s : Int) + 1) / (d : Nat) < (s : Nat) then (e : Int) * ((s : Int) + 1) / (d : Nat) else (s : Nat))]) = (dueI s d e).map PyData.int := by
  have et : (e : Int) * ((s : Int) + 1) = ((e * (s + 1) : Nat) : Int) := by rw [Int.natCast_mul, Int.natCast_succ]
  have eq : ((e * (s + 1) : Nat) : Int) / (d : Nat) = ((e * (s + 1) / d : Nat) : Int) := rfl
  rw [et, eq]
  have em : (if ((e * (s + 1) / d : Nat) : Int) < (s : Nat) then ((e * (s + 1) / d : Nat) : Int) else (s : Nat)) = ((min s (e * (s + 1) / d) : Nat) : Int) := by split <;> omega
  rw [em]
  have e1 : decide ((0 : Int) < (e : Nat)) = decide (0 < e) := decide_eq_decide.mpr (by omega)
  have e2 : decide (((e : Nat) : Int) < (d : Nat)) = decide (e < d) := decide_eq_decide.mpr (by omega)
  have e3 : decide (((e * (s + 1) / d : Nat) : Int) * (d : Nat) = ((e * (s + 1) : Nat) : Int)) = (e * (s + 1) / d * d == e * (s + 1)) := by
    rw [← Int.natCast_mul]
    by_cases c : e * (s + 1) / d * d = e * (s + 1)
    · rw [c, decide_eq_true rfl]
      exact (beq_iff_eq.mpr rfl).symm
    · rw [decide_eq_false (by omega)]
      exact (beq_eq_false_iff_ne.mpr c).symm
  rw [e1, e2, e3]
  unfold dueI
  dsimp only
  split <;> rfl
theorem z54_6 (s d e : Nat) (h1 : 1 ≤ s) (h2 : s ≤ 14) (h3 : 1 ≤ d) (h4 : d ≤ s) (he : e ≤ d) : ev (F 54) e54_6 [some (Kd.io, .none), some (Kd.ro, .int (s : Nat)), some (Kd.ro, .int (d : Nat)), some (Kd.ro, .int (e : Nat)), none, none, none, none, none, none, none, none, none, none, none, none, none, none, none, none, none] P = some (.list (tb (s + 1) fun m => PyData.int (dr s d m e : Nat)), P) := by
  refine e_lcT rfl (f := fun i => .int (i : Nat)) (evI_r1 (m := s + 1) (by simp [e_con, e_var, e_bin, e_neg, e_cmp, e_chain, e_and, e_or, e_not, e_ite, e_call, e_blt, e_isi, e_lrng, e_trng, e_tup, e_lst, e_sl, e_rev, e_every, e_ixV, e_ixC, e_ixI, e_ixL, evs_nil, evs_cons, evs_star, evs_io, evO_none, evO_some, evP_none, evP_some, evI_seq, evI_enum, evI_zip, rss_nil, rss_cons, rs_asg, rs_unp, rs_par, rs_ifs, rs_expr, rs_ret, rs_brk, rs_app, rs_while, getV, setV, isiD, copD, bopD, b_lenL, b_lenT, b_abs, b_min2, b_max2, b_int, b_intB, b_listL, b_listT, b_tupL, b_tupT, b_all, b_any, b_sumL, b_sumT, unO, tb_len, MP.frs, itemsImm, imm, immL, asgD, MP.isIo, bindT, bindTs, seqOf, MP.isInt, at0, at1, at2, startE, cntIo, frzAll, fz0, wipeE, frz, frz1, MP.vars, varsS, varsO, varsI, LIM]) (by omega)) (by omega) fun m hm => ⟨_, rfl, rfl, ?_, rfl⟩
  have k := s25 (n := 54) (P := P) (by omega) s d m h1 (by omega) h3 h4 (by omega) (by omega)
  exact u54_6 (immL_tb fun _ _ => rfl) k (by rw [atI_tb (by omega) (by omega), Int.toNat_natCast])
theorem z54_5 (s d e : Nat) (h1 : 1 ≤ s) (h2 : s ≤ 14) (h3 : 1 ≤ d) (h4 : d ≤ s) (he : e ≤ d) : ev (F 54) e54_5 [some (Kd.io, .none), some (Kd.ro, .int (s : Nat)), some (Kd.ro, .int (d : Nat)), some (Kd.ro, .int (e : Nat)), some (Kd.own, .list (tb (s + 1) fun m => PyData.int (dr s d m e : Nat))), none, none, none, none, none, none, none, none, none, none, none, none, none, none, none, none] P = some (.list (filL (fun m => decide (((dr s d m e : Nat) : Int) = mxI (tb (s + 1) fun m => ((dr s d m e : Nat) : Int)))) (s + 1)), P) := by
  have hM : bltD .maxl [.list (tb (s + 1) fun m => PyData.int (dr s d m e : Nat))] = some (.int (mxI (tb (s + 1) fun m => ((dr s d m e : Nat) : Int)))) := by
    rw [T_map]
    exact max_map _ (by rw [tb_succ]; exact List.cons_ne_nil _ _)
  refine e_lcR (ds := tb (s + 1) fun i => .int (i : Nat)) (P1 := P) rfl (evI_r1 (m := s + 1) (by simp [e_con, e_var, e_bin, e_neg, e_cmp, e_chain, e_and, e_or, e_not, e_ite, e_call, e_blt, e_isi, e_lrng, e_trng, e_tup, e_lst, e_sl, e_rev, e_every, e_ixV, e_ixC, e_ixI, e_ixL, evs_nil, evs_cons, evs_star, evs_io, evO_none, evO_some, evP_none, evP_some, evI_seq, evI_enum, evI_zip, rss_nil, rss_cons, rs_asg, rs_unp, rs_par, rs_ifs, rs_expr, rs_ret, rs_brk, rs_app, rs_while, getV, setV, isiD, copD, bopD, b_lenL, b_lenT, b_abs, b_min2, b_max2, b_int, b_intB, b_listL, b_listT, b_tupL, b_tupT, b_all, b_any, b_sumL, b_sumT, unO, tb_len, MP.frs, itemsImm, imm, immL, asgD, MP.isIo, bindT, bindTs, seqOf, MP.isInt, at0, at1, at2, startE, cntIo, frzAll, fz0, wipeE, frz, frz1, MP.vars, varsS, varsO, varsI, LIM]) (by omega)) (lc_fil0 (fun m hm => ⟨_, rfl, ?_, rfl⟩) (by omega))
  exact u54_5 (immL_tb fun _ _ => rfl) (by rw [atI_tb (by omega) (by omega), Int.toNat_natCast]) hM
theorem z54_4 (s d e a b : Nat) (B D : List PyData) (t : Int) (h1 : 1 ≤ s) (h2 : s ≤ 14) (h3 : 1 ≤ d) (h4 : d ≤ s) (he : e ≤ d) (hab : a ≤ b) (hb : b ≤ s) : ev (F 54) e54_4 [some (Kd.io, .none), some (Kd.ro, .int (s : Nat)), some (Kd.ro, .int (d : Nat)), some (Kd.ro, .int (e : Nat)), some (Kd.own, .list (tb (s + 1) fun m => PyData.int (dr s d m e : Nat))), some (Kd.own, .list B), some (Kd.ro, .int t), some (Kd.own, .list D), some (Kd.own, .list [.int (a : Nat), .int (b : Nat)]), some (Kd.ro, .tuple (tb (d + 1 - e) fun i => PyData.int ((e + i : Nat) : Int))), none, none, none, none, none, none, none, none, none, none, none] P = some (.list (tb (b + 1 - a) fun i => fr (tl s d (a + i) e : Nat) (ch s d : Nat)), P) := by
  have ei : ∀ E : MP.Env, E[8]? = some (some (Kd.own, .list [.int (a : Nat), .int (b : Nat)])) → evI (F 54) (.rng2 (.ix (.var 8) (.con (.int 0))) (.bin .add (.ix (.var 8) (.con (.int 1))) (.con (.int 1)))) E P = some (tb (b + 1 - a) fun i => .int ((a + i : Nat) : Int), P) := by
    intro E h8
    rw [evI_r2 (i := (a : Int)) (j := (b : Int) + 1) (P1 := P) (P2 := P) (by simp [e_con, e_var, e_bin, e_neg, e_cmp, e_chain, e_and, e_or, e_not, e_ite, e_call, e_blt, e_isi, e_lrng, e_trng, e_tup, e_lst, e_sl, e_rev, e_every, e_ixV, e_ixC, e_ixI, e_ixL, evs_nil, evs_cons, evs_star, evs_io, evO_none, evO_some, evP_none, evP_some, evI_seq, evI_enum, evI_zip, rss_nil, rss_cons, rs_asg, rs_unp, rs_par, rs_ifs, rs_expr, rs_ret, rs_brk, rs_app, rs_while, getV, setV, isiD, copD, bopD, b_lenL, b_lenT, b_abs, b_min2, b_max2, b_int, b_intB, b_listL, b_listT, b_tupL, b_tupT, b_all, b_any, b_sumL, b_sumT, unO, tb_len, MP.frs, itemsImm, imm, immL, asgD, MP.isIo, bindT, bindTs, seqOf, MP.isInt, at0, at1, at2, startE, cntIo, frzAll, fz0, wipeE, frz, frz1, MP.vars, varsS, varsO, varsI, LIM, h8]) (by simp [e_con, e_var, e_bin, e_neg, e_cmp, e_chain, e_and, e_or, e_not, e_ite, e_call, e_blt, e_isi, e_lrng, e_trng, e_tup, e_lst, e_sl, e_rev, e_every, e_ixV, e_ixC, e_ixI, e_ixL, evs_nil, evs_cons, evs_star, evs_io, evO_none, evO_some, evP_none, evP_some, evI_seq, evI_enum, evI_zip, rss_nil, rss_cons, rs_asg, rs_unp, rs_par, rs_ifs, rs_expr, rs_ret, rs_brk, rs_app, rs_while, getV, setV, isiD, copD, bopD, b_lenL, b_lenT, b_abs, b_min2, b_max2, b_int, b_intB, b_listL, b_listT, b_tupL, b_tupT, b_all, b_any, b_sumL, b_sumT, unO, tb_len, MP.frs, itemsImm, imm, immL, asgD, MP.isIo, bindT, bindTs, seqOf, MP.isInt, at0, at1, at2, startE, cntIo, frzAll, fz0, wipeE, frz, frz1, MP.vars, varsS, varsO, varsI, LIM, h8]) (by omega) (by omega), show ((b : Int) + 1 - (a : Int)).toNat = b + 1 - a from by omega]
    exact congrArg (fun l => some (l, P)) (tb_congr fun i _ => congrArg PyData.int (by omega))
  refine e_lcT rfl (ei _ rfl) (by omega) fun i hi => ⟨_, rfl, rfl, ?_, rfl⟩
  have k := s26 (n := 54) (P := P) (by omega) s d (a + i) (d + 1 - e) (fun i => e + i) h1 (by omega) h3 h4 (by omega) (by omega) ⟨fun i hi => by omega, fun i hi => by omega⟩
  exact u54_4 (immL_tb fun _ _ => rfl) k
theorem z54_3 (s d e a b : Nat) (B D : List PyData) (t : Int) (h1 : 1 ≤ s) (h2 : s ≤ 14) (h3 : 1 ≤ d) (h4 : d ≤ s) (he : e ≤ d) (hab : a ≤ b) (hb : b ≤ s) : ev (F 54) e54_3 [some (Kd.io, .none), some (Kd.ro, .int (s : Nat)), some (Kd.ro, .int (d : Nat)), some (Kd.ro, .int (e : Nat)), some (Kd.own, .list (tb (s + 1) fun m => PyData.int (dr s d m e : Nat))), some (Kd.own, .list B), some (Kd.ro, .int t), some (Kd.own, .list D), some (Kd.own, .list [.int (a : Nat), .int (b : Nat)]), some (Kd.ro, .tuple (tb (d + 1 - e) fun i => PyData.int ((e + i : Nat) : Int))), some (Kd.own, .list (tb (b + 1 - a) fun i => fr (tl s d (a + i) e : Nat) (ch s d : Nat))), none, none, none, none, none, none, none, none, none, none] P = some (.list (tb (min (b + 1 - a) (b + 1 - a - 1)) fun _ => .bool false), P) := by
  have hc : 0 < ch s d := ch_pos h4
  have kW : sm 1001 (ch s d : Nat) := sm_ch (by omega)
  have kt : ∀ m, m ≤ s → sm 1001 (tl s d m e : Nat) := fun m hm => kW.of_le (by have := tl_ch (s := s) (d := d) (m := m) (e := e) hm he; omega)
  have c1 : cutD (tb (b + 1 - a) fun i => fr (tl s d (a + i) e : Nat) (ch s d : Nat)) (some 1) none = tb (b + 1 - a - 1) fun i => fr (tl s d (a + (1 + i)) e : Nat) (ch s d : Nat) := cut_from (k := 1)
  have ei : ∀ E : MP.Env, E[10]? = some (some (Kd.own, .list (tb (b + 1 - a) fun i => fr (tl s d (a + i) e : Nat) (ch s d : Nat)))) → evI (F 54) (.zip (.var 10) (.sl (.var 10) (.some (.con (.int 1))) .none)) E P = some (tb (min (b + 1 - a) (b + 1 - a - 1)) fun i => .tuple [fr (tl s d (a + i) e : Nat) (ch s d : Nat), fr (tl s d (a + (1 + i)) e : Nat) (ch s d : Nat)], P) := by
    intro E h8
    simp [e_con, e_var, e_bin, e_neg, e_cmp, e_chain, e_and, e_or, e_not, e_ite, e_call, e_blt, e_isi, e_lrng, e_trng, e_tup, e_lst, e_sl, e_rev, e_every, e_ixV, e_ixC, e_ixI, e_ixL, evs_nil, evs_cons, evs_star, evs_io, evO_none, evO_some, evP_none, evP_some, evI_seq, evI_enum, evI_zip, rss_nil, rss_cons, rs_asg, rs_unp, rs_par, rs_ifs, rs_expr, rs_ret, rs_brk, rs_app, rs_while, getV, setV, isiD, copD, bopD, b_lenL, b_lenT, b_abs, b_min2, b_max2, b_int, b_intB, b_listL, b_listT, b_tupL, b_tupT, b_all, b_any, b_sumL, b_sumT, unO, tb_len, MP.frs, itemsImm, imm, immL, asgD, MP.isIo, bindT, bindTs, seqOf, MP.isInt, at0, at1, at2, startE, cntIo, frzAll, fz0, wipeE, frz, frz1, MP.vars, varsS, varsO, varsI, LIM, h8, c1, tb_zip]
  refine e_lcT rfl (ei _ rfl) (by omega) fun i hi => ⟨_, rfl, rfl, ?_, rfl⟩
  have k := s49 (n := 54) (P := P) (by omega) (a := (tl s d (a + (1 + i)) e : Nat)) (b := (ch s d : Nat)) (c := (tl s d (a + i) e : Nat)) (d := (ch s d : Nat)) (by omega) (by omega) (kt _ (by omega)) kW (kt _ (by omega)) kW (by omega)
  have hlt : ¬ ((tl s d (a + (1 + i)) e : Nat) : Int) * (ch s d : Nat) < (tl s d (a + i) e : Nat) * (ch s d : Nat) := by
    intro z
    have := Int.lt_of_mul_lt_mul_right z (by omega)
    have := tl_le (s := s) (d := d) (e := e) he (m := a + i) (m' := a + (1 + i)) (by omega) (by omega)
    omega
  rw [decide_eq_false hlt] at k
  exact u54_3 k
theorem z54_2 (s d e a b j : Nat) (B D : List PyData) (t : Int) (h1 : 1 ≤ s) (h2 : s ≤ 14) (h3 : 1 ≤ d) (h4 : d ≤ s) (he : e ≤ d) (hj1 : d + 1 - e ≤ j) (hj2 : j ≤ d + 1) : ev (F 54) e54_2 [some (Kd.io, .none), some (Kd.ro, .int (s : Nat)), some (Kd.ro, .int (d : Nat)), some (Kd.ro, .int (e : Nat)), some (Kd.own, .list (tb (s + 1) fun m => PyData.int (dr s d m e : Nat))), some (Kd.own, .list B), some (Kd.ro, .int t), some (Kd.own, .list D), some (Kd.own, .list [.int (a : Nat), .int (b : Nat)]), some (Kd.ro, .tuple (tb (d + 1 - e) fun i => PyData.int ((e + i : Nat) : Int))), some (Kd.own, .list (tb (b + 1 - a) fun i => fr (tl s d (a + i) e : Nat) (ch s d : Nat))), some (Kd.ro, .tuple (topR d j)), none, none, none, none, none, none, none, none, none] P = some (.list (tb (d + 1 - e) fun _ => .bool true), P) := by
  refine e_lcT rfl (f := fun i => .int ((e + i : Nat) : Int)) (by simp [e_con, e_var, e_bin, e_neg, e_cmp, e_chain, e_and, e_or, e_not, e_ite, e_call, e_blt, e_isi, e_lrng, e_trng, e_tup, e_lst, e_sl, e_rev, e_every, e_ixV, e_ixC, e_ixI, e_ixL, evs_nil, evs_cons, evs_star, evs_io, evO_none, evO_some, evP_none, evP_some, evI_seq, evI_enum, evI_zip, rss_nil, rss_cons, rs_asg, rs_unp, rs_par, rs_ifs, rs_expr, rs_ret, rs_brk, rs_app, rs_while, getV, setV, isiD, copD, bopD, b_lenL, b_lenT, b_abs, b_min2, b_max2, b_int, b_intB, b_listL, b_listT, b_tupL, b_tupT, b_all, b_any, b_sumL, b_sumT, unO, tb_len, MP.frs, itemsImm, imm, immL, asgD, MP.isIo, bindT, bindTs, seqOf, MP.isInt, at0, at1, at2, startE, cntIo, frzAll, fz0, wipeE, frz, frz1, MP.vars, varsS, varsO, varsI, LIM]) (by omega) fun i hi => ⟨_, rfl, rfl, ?_, rfl⟩
  exact u54_2 (topR_imm d j) (top_in hj1 hj2 (by omega))
theorem z54_1 (s d e a b j u v : Nat) (B D : List PyData) (t : Int) (told : PyData) (h1 : 1 ≤ s) (h2 : s ≤ 14) (h3 : 1 ≤ d) (h4 : d ≤ s) (he : e ≤ d) (hv0 : 0 < v) (hv : v ≤ 10) (hu : u ≤ v) :
    rs (F 54) true e54_1 [some (Kd.io, .none), some (Kd.ro, .int (s : Nat)), some (Kd.ro, .int (d : Nat)), some (Kd.ro, .int (e : Nat)), some (Kd.own, .list (tb (s + 1) fun m => PyData.int (dr s d m e : Nat))), some (Kd.own, .list B), some (Kd.ro, .int t), some (Kd.own, .list D), some (Kd.own, .list [.int (a : Nat), .int (b : Nat)]), some (Kd.ro, .tuple (tb (d + 1 - e) fun i => PyData.int ((e + i : Nat) : Int))), some (Kd.own, .list (tb (b + 1 - a) fun i => fr (tl s d (a + i) e : Nat) (ch s d : Nat))), some (Kd.ro, .tuple (topR d j)), some (Kd.ro, told), none, some (Kd.ro, fr ((u : Int) * 1) ((v : Int) * 2)), some (Kd.ro, .tuple (heldL s d e u (v * 2) (s + 1))), none, none, none, none, none] P = some (.nx [some (Kd.io, .none), some (Kd.ro, .int (s : Nat)), some (Kd.ro, .int (d : Nat)), some (Kd.ro, .int (e : Nat)), some (Kd.own, .list (tb (s + 1) fun m => PyData.int (dr s d m e : Nat))), some (Kd.own, .list B), some (Kd.ro, .int t), some (Kd.own, .list D), some (Kd.own, .list [.int (a : Nat), .int (b : Nat)]), some (Kd.ro, .tuple (tb (d + 1 - e) fun i => PyData.int ((e + i : Nat) : Int))), some (Kd.own, .list (tb (b + 1 - a) fun i => fr (tl s d (a + i) e : Nat) (ch s d : Nat))), some (Kd.ro, .tuple (topR d j)), some (Kd.ro, told), some (Kd.ro, .int (s : Nat)), some (Kd.ro, fr ((u : Int) * 1) ((v : Int) * 2)), some (Kd.ro, .tuple (heldL s d e u (v * 2) (s + 1))), some (Kd.ro, .tuple (tb (d + 1) fun e => fr (tl s d s e : Nat) (ch s d : Nat))), some (Kd.ro, .tuple (tb (d + 1) fun e => fr (hd s d s e : Nat) (ch s d : Nat))), none, none, none] P) := by
  have hc : 0 < ch s d := ch_pos h4
  have kW : sm 1001 (ch s d : Nat) := sm_ch (by omega)
  have ku : sm 1001 ((u : Int) * 1) := by rw [Int.mul_one]; exact sm_lit (j := 4) (by omega) (by omega)
  have kv : sm 1001 ((v : Int) * 2) := sm_lit (j := 5) (by omega) (by omega)
  have kt : ∀ m, m ≤ s → sm 1001 (tl s d m e : Nat) := fun m hm => kW.of_le (by have := tl_ch (s := s) (d := d) (m := m) (e := e) hm he; omega)
  have kh : ∀ m, m ≤ s → sm 1001 (hd s d m e : Nat) := fun m hm => kW.of_le (by have := hd_le (s := s) (d := d) (m := m) (e := e) hm he; omega)
  show rs (F 54) true (.for (.nm 13) (.rng1 (.bin .add (.var 1) (.con (.int 1)))) e54_0) _ P = _
  rw [rs_for (evI_r1 (m := s + 1) (P1 := P) (by simp [e_con, e_var, e_bin, e_neg, e_cmp, e_chain, e_and, e_or, e_not, e_ite, e_call, e_blt, e_isi, e_lrng, e_trng, e_tup, e_lst, e_sl, e_rev, e_every, e_ixV, e_ixC, e_ixI, e_ixL, evs_nil, evs_cons, evs_star, evs_io, evO_none, evO_some, evP_none, evP_some, evI_seq, evI_enum, evI_zip, rss_nil, rss_cons, rs_asg, rs_unp, rs_par, rs_ifs, rs_expr, rs_ret, rs_brk, rs_app, rs_while, getV, setV, isiD, copD, bopD, b_lenL, b_lenT, b_abs, b_min2, b_max2, b_int, b_intB, b_listL, b_listT, b_tupL, b_tupT, b_all, b_any, b_sumL, b_sumT, unO, tb_len, MP.frs, itemsImm, imm, immL, asgD, MP.isIo, bindT, bindTs, seqOf, MP.isInt, at0, at1, at2, startE, cntIo, frzAll, fz0, wipeE, frz, frz1, MP.vars, varsS, varsO, varsI, LIM]) (by omega))]
  have g := for_run (P := P) (n := s + 1) (f := fun i => .int (i : Nat)) (bind := bindT (.nm 13)) (body := rss (F 54) true e54_0) (E := [some (Kd.io, .none), some (Kd.ro, .int (s : Nat)), some (Kd.ro, .int (d : Nat)), some (Kd.ro, .int (e : Nat)), some (Kd.own, .list (tb (s + 1) fun m => PyData.int (dr s d m e : Nat))), some (Kd.own, .list B), some (Kd.ro, .int t), some (Kd.own, .list D), some (Kd.own, .list [.int (a : Nat), .int (b : Nat)]), some (Kd.ro, .tuple (tb (d + 1 - e) fun i => PyData.int ((e + i : Nat) : Int))), some (Kd.own, .list (tb (b + 1 - a) fun i => fr (tl s d (a + i) e : Nat) (ch s d : Nat))), some (Kd.ro, .tuple (topR d j)), some (Kd.ro, told), none, some (Kd.ro, fr ((u : Int) * 1) ((v : Int) * 2)), some (Kd.ro, .tuple (heldL s d e u (v * 2) (s + 1))), none, none, none, none, none]) (fun i => [some (Kd.io, .none), some (Kd.ro, .int (s : Nat)), some (Kd.ro, .int (d : Nat)), some (Kd.ro, .int (e : Nat)), some (Kd.own, .list (tb (s + 1) fun m => PyData.int (dr s d m e : Nat))), some (Kd.own, .list B), some (Kd.ro, .int t), some (Kd.own, .list D), some (Kd.own, .list [.int (a : Nat), .int (b : Nat)]), some (Kd.ro, .tuple (tb (d + 1 - e) fun i => PyData.int ((e + i : Nat) : Int))), some (Kd.own, .list (tb (b + 1 - a) fun i => fr (tl s d (a + i) e : Nat) (ch s d : Nat))), some (Kd.ro, .tuple (topR d j)), some (Kd.ro, told), atx i fun i => .int (i : Nat), some (Kd.ro, fr ((u : Int) * 1) ((v : Int) * 2)), some (Kd.ro, .tuple (heldL s d e u (v * 2) (s + 1))), atx i fun m => .tuple (tb (d + 1) fun e => fr (tl s d m e : Nat) (ch s d : Nat)), atx i fun m => .tuple (tb (d + 1) fun e => fr (hd s d m e : Nat) (ch s d : Nat)), none, none, none]) (fun _ => P) rfl rfl fun m hm => ⟨_, bind_nm (atx_io m (fun i => .int (i : Nat))) (show 13 < 21 from by decide), ?_⟩
  · rw [atx_succ, atx_succ, atx_succ] at g
    exact g
  have k32 := s32 (n := 54) (P := P) (by omega) s d m h1 (by omega) h3 h4 (by omega) (by omega)
  have q1 := s49 (n := 54) (P := P) (by omega) (a := (tl s d m e : Nat)) (b := (ch s d : Nat)) (c := (u : Int) * 1) (d := (v : Int) * 2) (by omega) (by omega) (kt m (by omega)) kW ku kv (by omega)
  have q2 := s49 (n := 54) (P := P) (by omega) (a := (hd s d m e : Nat)) (b := (ch s d : Nat)) (c := (u : Int) * 1) (d := (v : Int) * 2) (by omega) (by omega) (kh m (by omega)) kW ku kv (by omega)
  have eb : (!decide (((tl s d m e : Nat) : Int) * ((v : Int) * 2) < (u : Int) * 1 * (ch s d : Nat)) && !decide (((hd s d m e : Nat) : Int) * ((v : Int) * 2) < (u : Int) * 1 * (ch s d : Nat))) = heldB s d e u (v * 2) m := by
    unfold heldB
    rw [Int.mul_one, show ((v : Int) * 2) = ((v * 2 : Nat) : Int) from by omega, decide_eq_decide.mpr (lt_cast (tl s d m e) (v * 2) u (ch s d)), decide_eq_decide.mpr (lt_cast (hd s d m e) (v * 2) u (ch s d))]
  have hin : inD (.int (m : Nat)) (heldL s d e u (v * 2) (s + 1)) = some (!decide (((tl s d m e : Nat) : Int) * ((v : Int) * 2) < (u : Int) * 1 * (ch s d : Nat)) && !decide (((hd s d m e : Nat) : Int) * ((v : Int) * 2) < (u : Int) * 1 * (ch s d : Nat))) := by
    rw [eb]
    exact heldL_in hm
  rw [atx_succ, atx_succ, atx_succ]
  exact y54r (o16 := atx m fun m => .tuple (tb (d + 1) fun e => fr (tl s d m e : Nat) (ch s d : Nat))) (o17 := atx m fun m => .tuple (tb (d + 1) fun e => fr (hd s d m e : Nat) (ch s d : Nat))) (by
      by_cases z : m = 0
      · subst z
        exact .inl ⟨rfl, rfl⟩
      · unfold atx
        rw [if_neg z, if_neg z]
        exact .inr ⟨_, _, rfl, rfl⟩) (immL_tb fun _ _ => rfl) (immL_tb fun _ _ => rfl) k32 (by rw [atI_tb (by omega) (by omega), Int.toNat_natCast]) (by rw [atI_tb (by omega) (by omega), Int.toNat_natCast]) q1 q2 hin
theorem s54 (h : 54 < n) {Q : Nat} (hP : Pot Q P) (hQ : Q < 80000) (s d : Nat) (h1 : 1 ≤ s) (h2 : s ≤ 14) (h3 : 1 ≤ d) (h4 : d ≤ s) : ∃ P', F n 54 [none, some (.int (s : Nat)), some (.int (d : Nat))] P = some (.bool true, P') ∧ Pot (Q + 4) P' := by
  have hc : 0 < ch s d := ch_pos h4
  have kW : sm 1001 (ch s d : Nat) := sm_ch (by omega)
  obtain ⟨e, P1, ke, he', hP1⟩ := s41 (n := 54) (by omega) hP (by omega) (d + 1) (by omega) (by omega)
  have he : e ≤ d := by omega
  obtain ⟨x, P2, kx, hx, hP2⟩ := s41 (n := 54) (by omega) hP1 (by omega) (s + 1) (by omega) (by omega)
  obtain ⟨y, P3, ky, hy, hP3⟩ := s41 (n := 54) (by omega) hP2 (by omega) (s + 1) (by omega) (by omega)
  obtain ⟨told, P4, kt, hm, hP4⟩ := s42 (n := 54) (by omega) hP3 (by omega) [.tuple [.int 1, .int 10], .tuple [.int 1, .int 2], .tuple [.int 9, .int 10]] (by decide) (by decide) rfl
  refine ⟨P4, ?_, hP4⟩
  obtain ⟨u, v, hv0, hv, hu, g1, g2, etold⟩ : ∃ u v : Nat, 0 < v ∧ v ≤ 10 ∧ u ≤ v ∧ Int.gcd (u : Int) (v : Int) = 1 ∧ Int.gcd (u : Int) ((v * 2 : Nat) : Int) = 1 ∧ told = .tuple [.int (u : Nat), .int (v : Nat)] := by
    rcases List.mem_cons.mp hm with z | hm
    · exact ⟨1, 10, by decide, by decide, by decide, by decide, by decide, z⟩
    rcases List.mem_cons.mp hm with z | hm
    · exact ⟨1, 2, by decide, by decide, by decide, by decide, by decide, z⟩
    · exact ⟨9, 10, by decide, by decide, by decide, by decide, by decide, List.mem_singleton.mp hm⟩
  obtain ⟨a, b, hab, hb, hso⟩ : ∃ a b : Nat, a ≤ b ∧ b ≤ s ∧ bltD .sorted [.list [.int (x : Nat), .int (y : Nat)]] = some (.list [.int (a : Nat), .int (b : Nat)]) := by
    have q := sort_map [(x : Int), (y : Int)]
    by_cases c : x ≤ y
    · refine ⟨x, y, c, by omega, ?_⟩
      rw [show sortI [(x : Int), (y : Int)] = [(x : Int), (y : Int)] from by
        show (if (x : Int) ≤ (y : Int) then _ else _) = _
        rw [if_pos (by omega)]] at q
      exact q
    · refine ⟨y, x, by omega, by omega, ?_⟩
      rw [show sortI [(x : Int), (y : Int)] = [(y : Int), (x : Int)] from by
        show (if (x : Int) ≤ (y : Int) then _ else _) = _
        rw [if_neg (by omega)]
        rfl] at q
      exact q
  rw [Int.natCast_succ] at ke kx ky
  obtain ⟨bb, hbb, eF, ⟨rr', eD⟩, es1, es2⟩ := likely s d e h1 h2 h3 h4 he
  have mono : ∀ m, m + 1 ≤ b → rg s d m (d + 1 - e) (fun i => e + i) ≤ rg s d (m + 1) (d + 1 - e) (fun i => e + i) := fun m hm => tl_mono (s := s) (d := d) (m := m) (e := e) (by omega) he
  have sR : ∀ m, m ≤ b → rg s d m (d + 1 - e) (fun i => e + i) ≤ ch s d := fun m hm => tl_ch (s := s) (d := d) (m := m) (e := e) (by omega) he
  have RG : Reg d (d + 1 - e) (fun i => e + i) := ⟨fun i hi => by omega, fun i hi => by omega⟩
  obtain ⟨z, k28⟩ := s28 (n := 54) (P := P3) (by omega) s d a b (d + 1 - e) (fun i => e + i) h1 (by omega) h3 h4 (by omega) RG hb hab mono sR
  have k29 := s29 (n := 54) (P := P3) (by omega) s d a b (d + 1 - e) (fun i => e + i) h1 (by omega) h3 h4 (by omega) RG hb hab mono sR
  obtain ⟨j, hj1, hj2, k31⟩ := s31 (n := 54) (P := P3) (by omega) s d a b e h1 (by omega) h3 h4 (by omega) hab hb he
  have k33 := s33 (n := 54) (P := P4) (by omega) s d e u v h1 (by omega) h3 h4 (by omega) he hv0 hv hu g1 g2
  have k48 := s48 (n := 54) (P := P4) (k := 1001) (by omega) (a := (u : Nat)) (b := (v : Nat)) (c := 1) (d := 2) (by omega) (by omega) (sm_lit (j := 4) (by omega) (by omega)) (sm_lit (j := 4) (by omega) (by omega)) (sm_lit (j := 1) (by omega) (by omega)) (sm_lit (j := 2) (by omega) (by omega)) (by omega)
  rw [fr_self g1, fr_self (n := 1) (d := 2) (by decide), ← etold] at k48
  rw [← etold] at k33
  have iT : immL (tb (s + 1) fun m => PyData.int (dr s d m e : Nat)) = true := immL_tb fun _ _ => rfl
  have iR : immL (tb (d + 1 - e) fun i => PyData.int ((e + i : Nat) : Int)) = true := immL_tb fun _ _ => rfl
  have iI : immL (tb (b + 1 - a) fun i => fr (tl s d (a + i) e : Nat) (ch s d : Nat)) = true := immL_tb fun _ _ => rfl
  have hI : L2.atI (tb (b + 1 - a) fun i => fr (tl s d (a + i) e : Nat) (ch s d : Nat)) (-1) = some (fr (tl s d b e : Nat) (ch s d : Nat)) := by
    rw [show b + 1 - a = (b - a) + 1 from by omega, atI_last, show a + (b - a) = b from by omega]
  have sd : sm 4 (d : Int) := by unfold sm; omega
  have ss : sm 5 ((s : Int) + 1) := by unfold sm; omega
  have se : sm 4 (e : Int) := by unfold sm; omega
  have hq0 : 0 ≤ (e : Int) * ((s : Int) + 1) := Int.mul_nonneg (by omega) (by omega)
  have sq : sm 9 ((e : Int) * ((s : Int) + 1) / (d : Nat)) := (se.mul ss).of_le (by
    have := Int.ediv_le_self (b := (d : Int)) hq0
    have := Int.ediv_nonneg (a := (e : Int) * ((s : Int) + 1)) (b := (d : Int)) hq0 (by omega)
    omega)
  have eT1 : cutD (tb (s + 1) fun m => PyData.int (dr s d m e : Nat)) none (some ((bb : Int) + 1)) = (((tb (s + 1) fun m => ((dr s d m e : Nat) : Int))).take (bb + 1)).map PyData.int := by
    have : cutD (tb (s + 1) fun m => PyData.int (dr s d m e : Nat)) none (some ((bb + 1 : Nat) : Int)) = _ := cut_to
    rw [show ((bb + 1 : Nat) : Int) = (bb : Int) + 1 from by omega] at this
    rw [this, tb_take, tb_map]
  have eT2 : cutD (tb (s + 1) fun m => PyData.int (dr s d m e : Nat)) (some (bb : Int)) none = (((tb (s + 1) fun m => ((dr s d m e : Nat) : Int))).drop bb).map PyData.int := by
    rw [cut_from, tb_drop, tb_map]
  have q1 := sort_map (((tb (s + 1) fun m => ((dr s d m e : Nat) : Int))).take (bb + 1))
  rw [es1] at q1
  have q2 := sort_map (((tb (s + 1) fun m => ((dr s d m e : Nat) : Int))).drop bb)
  have hB0 : L2.atI ((dueI s d e).map PyData.int) 0 = some (.int (bb : Nat)) := by
    rw [eD]
    exact at0
  refine F_ret h (d := d54) rfl rfl (by decide) rfl ?_
  show rss (F 54) true b54 [some (Kd.io, .none), some (Kd.ro, .int (s : Nat)), some (Kd.ro, .int (d : Nat)), none, none, none, none, none, none, none, none, none, none, none, none, none, none, none, none, none, none] P = _
  unfold b54
  rw [rss_step (y54a ke)]
  rw [rss_step (y54b (z54_6 s d e h1 h2 h3 h4 he))]
  rw [rss_step (y54c (z54_5 s d e h1 h2 h3 h4 he)), eF]
  rw [rss_step (y54d (se.small (k := 3) (l := 4) ss (by omega)) rfl)]
  rw [rss_step (y54e (by omega) (log_le (k := 3) sd (by omega)) rfl)]
  rw [rss_step (y54f (by omega) (log_le (k := 3) sd (by omega)) (sq.small (k := 8) (l := 3) sd (by omega))), due_eq h3]
  rw [rss_step (y54g hB0 iT (immL_map _) (immL_map _) (immL_map _) eT1 eT2 q1 q2 (by rw [← List.map_reverse, es2]) (okd_ints 4 _) (okd_ints 4 _) (okd_ints 4 _))]
  rw [rss_step (y54h kx ky hso)]
  rw [rss_step (y54i (R := (tb (d + 1 - e) fun i => PyData.int ((e + i : Nat) : Int))) iR (by rw [tb_len]; omega) (by
    rw [evI_r2 (i := (e : Int)) (j := (d : Int) + 1) (P1 := P3) (P2 := P3) (by simp [e_con, e_var, e_bin, e_neg, e_cmp, e_chain, e_and, e_or, e_not, e_ite, e_call, e_blt, e_isi, e_lrng, e_trng, e_tup, e_lst, e_sl, e_rev, e_every, e_ixV, e_ixC, e_ixI, e_ixL, evs_nil, evs_cons, evs_star, evs_io, evO_none, evO_some, evP_none, evP_some, evI_seq, evI_enum, evI_zip, rss_nil, rss_cons, rs_asg, rs_unp, rs_par, rs_ifs, rs_expr, rs_ret, rs_brk, rs_app, rs_while, getV, setV, isiD, copD, bopD, b_lenL, b_lenT, b_abs, b_min2, b_max2, b_int, b_intB, b_listL, b_listT, b_tupL, b_tupT, b_all, b_any, b_sumL, b_sumT, unO, tb_len, MP.frs, itemsImm, imm, immL, asgD, MP.isIo, bindT, bindTs, seqOf, MP.isInt, at0, at1, at2, startE, cntIo, frzAll, fz0, wipeE, frz, frz1, MP.vars, varsS, varsO, varsI, LIM]) (by simp [e_con, e_var, e_bin, e_neg, e_cmp, e_chain, e_and, e_or, e_not, e_ite, e_call, e_blt, e_isi, e_lrng, e_trng, e_tup, e_lst, e_sl, e_rev, e_every, e_ixV, e_ixC, e_ixI, e_ixL, evs_nil, evs_cons, evs_star, evs_io, evO_none, evO_some, evP_none, evP_some, evI_seq, evI_enum, evI_zip, rss_nil, rss_cons, rs_asg, rs_unp, rs_par, rs_ifs, rs_expr, rs_ret, rs_brk, rs_app, rs_while, getV, setV, isiD, copD, bopD, b_lenL, b_lenT, b_abs, b_min2, b_max2, b_int, b_intB, b_listL, b_listT, b_tupL, b_tupT, b_all, b_any, b_sumL, b_sumT, unO, tb_len, MP.frs, itemsImm, imm, immL, asgD, MP.isIo, bindT, bindTs, seqOf, MP.isInt, at0, at1, at2, startE, cntIo, frzAll, fz0, wipeE, frz, frz1, MP.vars, varsS, varsO, varsI, LIM]) (by omega) (by omega), show ((d : Int) + 1 - (e : Int)).toNat = d + 1 - e from by omega]
    exact congrArg (fun l => some (l, P3)) (tb_congr fun i _ => congrArg PyData.int (by omega))))]
  rw [rss_step (y54j iR (z54_4 s d e a b _ _ _ h1 h2 h3 h4 he hab hb))]
  rw [rss_step (y54k iR iI (z54_3 s d e a b _ _ _ h1 h2 h3 h4 he hab hb))]
  rw [rss_step (y54l iR iI (okd_fr 5 _ _) hI k28)]
  rw [rss_step (y54m iR iI (okd_tup (k := 5) fun x hx => by
    rcases List.mem_cons.mp hx with hx | hx
    · subst hx
      exact ⟨by decide +kernel, by decide +kernel⟩
    · rw [List.mem_singleton.mp hx]
      exact okd_fr 4 _ _) hI k29)]
  rw [rss_step (y54n iR iI (topR_imm d j) hI k31)]
  rw [rss_step (y54o iR iI (topR_imm d j) (by unfold topR; rw [tb_len]; omega) (okd_list (okd_tb fun _ _ => okd_int 5 _)) (z54_2 s d e a b j _ _ _ h1 h2 h3 h4 he hj1 hj2) (by
    rw [evI_r2 (i := (d : Int) + 1 - (j : Nat)) (j := (d : Int) + 1) (P1 := P3) (P2 := P3) (by simp [e_con, e_var, e_bin, e_neg, e_cmp, e_chain, e_and, e_or, e_not, e_ite, e_call, e_blt, e_isi, e_lrng, e_trng, e_tup, e_lst, e_sl, e_rev, e_every, e_ixV, e_ixC, e_ixI, e_ixL, evs_nil, evs_cons, evs_star, evs_io, evO_none, evO_some, evP_none, evP_some, evI_seq, evI_enum, evI_zip, rss_nil, rss_cons, rs_asg, rs_unp, rs_par, rs_ifs, rs_expr, rs_ret, rs_brk, rs_app, rs_while, getV, setV, isiD, copD, bopD, b_lenL, b_lenT, b_abs, b_min2, b_max2, b_int, b_intB, b_listL, b_listT, b_tupL, b_tupT, b_all, b_any, b_sumL, b_sumT, unO, tb_len, MP.frs, itemsImm, imm, immL, asgD, MP.isIo, bindT, bindTs, seqOf, MP.isInt, at0, at1, at2, startE, cntIo, frzAll, fz0, wipeE, frz, frz1, MP.vars, varsS, varsO, varsI, LIM, topR, immL_tb, imm]) (by simp [e_con, e_var, e_bin, e_neg, e_cmp, e_chain, e_and, e_or, e_not, e_ite, e_call, e_blt, e_isi, e_lrng, e_trng, e_tup, e_lst, e_sl, e_rev, e_every, e_ixV, e_ixC, e_ixI, e_ixL, evs_nil, evs_cons, evs_star, evs_io, evO_none, evO_some, evP_none, evP_some, evI_seq, evI_enum, evI_zip, rss_nil, rss_cons, rs_asg, rs_unp, rs_par, rs_ifs, rs_expr, rs_ret, rs_brk, rs_app, rs_while, getV, setV, isiD, copD, bopD, b_lenL, b_lenT, b_abs, b_min2, b_max2, b_int, b_intB, b_listL, b_listT, b_tupL, b_tupT, b_all, b_any, b_sumL, b_sumT, unO, tb_len, MP.frs, itemsImm, imm, immL, asgD, MP.isIo, bindT, bindTs, seqOf, MP.isInt, at0, at1, at2, startE, cntIo, frzAll, fz0, wipeE, frz, frz1, MP.vars, varsS, varsO, varsI, LIM]) (by omega) (by omega), show ((d : Int) + 1 - ((d : Int) + 1 - (j : Nat))).toNat = j from by omega]
    exact congrArg (fun l => some (l, P3)) (tb_congr fun i _ => congrArg PyData.int (by omega))))]
  rw [rss_step (y54p (by rw [etold]; rfl) kt)]
  rw [rss_step (y54q rfl (heldL_imm _ _ _ _ _ _) k48 k33)]
  rw [rss_step (z54_1 s d e a b j u v _ _ _ told h1 h2 h3 h4 he hv0 hv hu)]
  rcases heldL_shape (s := s) (d := d) (e := e) (u := u) (w := v * 2) he (s + 1) (Nat.le_refl _) with ⟨q3, _⟩ | ⟨lo, len, q4, q3, _⟩
  · rw [q3]
    exact y54s0
  · rw [q3]
    exact y54s1 (h0 := .int ((lo + 0 : Nat) : Int)) (lo := (lo : Int)) (hi := ((lo + len : Nat) : Int)) (immL_tb fun _ _ => rfl) (by rw [tb_len]; omega) (okd_list (okd_tb fun _ _ => okd_int 5 _)) (by rw [tb_succ]; rfl) (by rw [atI_tb (by omega) (by omega)]; rfl) atI_last (by
      rw [evI_r2 (i := (lo : Int)) (j := ((lo + len : Nat) : Int) + 1) (P1 := P4) (P2 := P4) (by simp [e_con, e_var, e_bin, e_neg, e_cmp, e_chain, e_and, e_or, e_not, e_ite, e_call, e_blt, e_isi, e_lrng, e_trng, e_tup, e_lst, e_sl, e_rev, e_every, e_ixV, e_ixC, e_ixI, e_ixL, evs_nil, evs_cons, evs_star, evs_io, evO_none, evO_some, evP_none, evP_some, evI_seq, evI_enum, evI_zip, rss_nil, rss_cons, rs_asg, rs_unp, rs_par, rs_ifs, rs_expr, rs_ret, rs_brk, rs_app, rs_while, getV, setV, isiD, copD, bopD, b_lenL, b_lenT, b_abs, b_min2, b_max2, b_int, b_intB, b_listL, b_listT, b_tupL, b_tupT, b_all, b_any, b_sumL, b_sumT, unO, tb_len, MP.frs, itemsImm, imm, immL, asgD, MP.isIo, bindT, bindTs, seqOf, MP.isInt, at0, at1, at2, startE, cntIo, frzAll, fz0, wipeE, frz, frz1, MP.vars, varsS, varsO, varsI, LIM, atI_tb, immL_tb, imm]) (by simp [e_con, e_var, e_bin, e_neg, e_cmp, e_chain, e_and, e_or, e_not, e_ite, e_call, e_blt, e_isi, e_lrng, e_trng, e_tup, e_lst, e_sl, e_rev, e_every, e_ixV, e_ixC, e_ixI, e_ixL, evs_nil, evs_cons, evs_star, evs_io, evO_none, evO_some, evP_none, evP_some, evI_seq, evI_enum, evI_zip, rss_nil, rss_cons, rs_asg, rs_unp, rs_par, rs_ifs, rs_expr, rs_ret, rs_brk, rs_app, rs_while, getV, setV, isiD, copD, bopD, b_lenL, b_lenT, b_abs, b_min2, b_max2, b_int, b_intB, b_listL, b_listT, b_tupL, b_tupT, b_all, b_any, b_sumL, b_sumT, unO, tb_len, MP.frs, itemsImm, imm, immL, asgD, MP.isIo, bindT, bindTs, seqOf, MP.isInt, at0, at1, at2, startE, cntIo, frzAll, fz0, wipeE, frz, frz1, MP.vars, varsS, varsO, varsI, LIM, atI_last]) (by omega) (by omega), show (((lo + len : Nat) : Int) + 1 - (lo : Int)).toNat = len + 1 from by omega]
      exact congrArg (fun l => some (l, P4)) (tb_congr fun i _ => congrArg PyData.int (by omega)))
end K06
set_option Elab.async false
set_option linter.all false
set_option maxRecDepth 100000
/-! k06: the law. -/
namespace K06
open PySem MP
variable {n : Nat} {P : PyData}
theorem for_ex {bind : PyData → MP.Env → Option MP.Env} {body : MP.Env → PyData → Option Rs} (I : Nat → MP.Env → PyData → Prop) : ∀ {n : Nat} {f : Nat → PyData} {o : Nat} {E : MP.Env} {P : PyData},
    (∀ i, i < n → ∀ E P, I (o + i) E P → ∃ E1 E2 P2, bind (f i) E = some E1 ∧ body E1 P = some (.nx E2 P2) ∧ I (o + i + 1) E2 P2) → I o E P → ∃ E' P', forL bind body (tb n f) E P = some (.nx E' P') ∧ I (o + n) E' P'
  | 0, f, o, E, P, _, h0 => ⟨E, P, rfl, h0⟩
  | n + 1, f, o, E, P, h, h0 => by
    obtain ⟨E1, E2, P2, h1, h2, h3⟩ := h 0 (by omega) E P h0
    rw [tb_succ]
    unfold forL
    rw [h1]
    dsimp only
    rw [h2]
    dsimp only
    obtain ⟨E', P', g1, g2⟩ := for_ex (bind := bind) (body := body) I (n := n) (f := fun i => f (i + 1)) (o := o + 1) (E := E2) (P := P2) (fun i hi E P hE => by
      have := h (i + 1) (by omega) E P (by rw [show o + (i + 1) = o + 1 + i from by omega]; exact hE)
      rw [show o + (i + 1) = o + 1 + i from by omega] at this
      exact this) h3
    exact ⟨E', P', g1, by rw [show o + (n + 1) = o + 1 + n from by omega]; exact g2⟩
theorem rs_pot {cl : Cl} {iop : Bool} {i : Nat} {e : Ex} {E : MP.Env} : rs cl iop (.pot i e) E P = (if iop then none else match ev cl e E P with
    | none => none
    | some (d, P1) => if MP.frs e d && flatList d then (if hasIo (E.set i none) then none else (setV E i Kd.io .none).map fun E1 => .nx E1 d) else none) := rfl
/-- names that stand, or none -/
def Two (a b : Option (Kd × PyData)) : Prop := (a = none ∧ b = none) ∨ ∃ x y, a = some (Kd.ro, x) ∧ b = some (Kd.ro, y)
theorem y56 {cl : Cl} {P1 P2 P3 P4 P5 P6 sc pl la : PyData} {o4 o5 : Option (Kd × PyData)} {g1 g2 s d m s' d' : Int} (ho : Two o4 o5) (k1 : cl 41 [none, some (.int 24)] P = some (.int g1, P1)) (e1 : 1 + g1 = s) (k2 : cl 41 [none, some (.int s)] P1 = some (.int g2, P2)) (e2 : 1 + g2 = d) (k3 : cl 41 [none, some (.int (s + 1))] P2 = some (.int m, P3)) (k4 : cl 53 [none, some (.int s), some (.int d), some (.int m)] P3 = some (.bool true, P4))
    (e3 : (if 14 < s then 14 else s) = s') (e4 : (if 14 < d then 14 else d) = d') (k5 : cl 54 [none, some (.int s'), some (.int d')] P4 = some (.bool true, P5)) (k6 : cl 55 [none] P5 = some (.bool true, P6)) :
    rss cl false e56_2 [some (Kd.ro, sc), some (Kd.ro, pl), some (Kd.io, .none), some (Kd.ro, la), o4, o5] P = some (.nx [some (Kd.ro, sc), some (Kd.ro, pl), some (Kd.io, .none), some (Kd.ro, la), some (Kd.ro, .int s), some (Kd.ro, .int d)] P6) := by
  rcases ho with ⟨h7, h8⟩ | ⟨x, y, h7, h8⟩ <;> subst h7 <;> subst h8 <;> simp [e_con, e_var, e_bin, e_neg, e_cmp, e_chain, e_and, e_or, e_not, e_ite, e_call, e_blt, e_isi, e_lrng, e_trng, e_tup, e_lst, e_sl, e_rev, e_every, e_ixV, e_ixC, e_ixI, e_ixL, evs_nil, evs_cons, evs_star, evs_io, evO_none, evO_some, evP_none, evP_some, evI_seq, evI_enum, evI_zip, rss_nil, rss_cons, rs_asg, rs_unp, rs_par, rs_ifs, rs_expr, rs_ret, rs_brk, rs_app, rs_while, getV, setV, isiD, copD, bx_add, bx_sub, bx_mul, bx_fdiv, bx_mod, b_lenL, b_lenT, b_abs, b_min2, b_max2, b_int, b_intB, b_listL, b_listT, b_tupL, b_tupT, b_all, b_any, b_sumL, b_sumT, unO, tb_len, MP.frs, itemsImm, imm, immL, asgD, MP.isIo, bindT, bindTs, seqOf, MP.isInt, at0, at1, at2, startE, cntIo, frzAll, fz0, wipeE, frz, frz1, MP.vars, varsS, varsO, varsI, LIM, e56_2, k1, e1, k2, e2, k3, k4, e3, e4, k5, k6]
/-- one lap -/
theorem t56 {Q : Nat} (hP : Pot Q P) (hQ : Q < 70000) (sc pl la : PyData) (o4 o5 : Option (Kd × PyData)) (ho : Two o4 o5) : ∃ x y P', rss (F 56) false e56_2 [some (Kd.ro, sc), some (Kd.ro, pl), some (Kd.io, .none), some (Kd.ro, la), o4, o5] P = some (.nx [some (Kd.ro, sc), some (Kd.ro, pl), some (Kd.io, .none), some (Kd.ro, la), some (Kd.ro, x), some (Kd.ro, y)] P') ∧ Pot (Q + 40) P' := by
  obtain ⟨g1, P1, k1, h1, hP1⟩ := s41 (n := 56) (by omega) hP (by omega) 24 (by omega) (by omega)
  obtain ⟨s, es⟩ : ∃ s, 1 + g1 = s := ⟨_, rfl⟩
  obtain ⟨g2, P2, k2, h2, hP2⟩ := s41 (n := 56) (by omega) hP1 (by omega) s (by omega) (by omega)
  obtain ⟨d, ed⟩ : ∃ d, 1 + g2 = d := ⟨_, rfl⟩
  obtain ⟨m, P3, k3, h3, hP3⟩ := s41 (n := 56) (by omega) hP2 (by omega) (s + 1) (by omega) (by omega)
  obtain ⟨P4, k4, hP4⟩ := s53 (n := 56) (by omega) hP3 (by omega) s d m (by omega) (by omega) (by omega) (by omega) (by omega)
  obtain ⟨P5, k5, hP5⟩ := s54 (n := 56) (by omega) hP4 (by omega) (min s 14) (min d 14) (by omega) (by omega) (by omega) (by omega)
  obtain ⟨P6, k6, hP6⟩ := s55 (n := 56) (by omega) hP5 (by omega)
  rw [Int.natCast_succ] at k3
  exact ⟨_, _, P6, y56 ho k1 (by omega) k2 (by omega) k3 k4 (by split <;> omega) (by split <;> omega) k5 k6, hP6.mono (by omega)⟩
/-- one place -/
theorem y56a {cl : Cl} {P1 P2 sc pl : PyData} {o2 o3 o4 o5 : Option (Kd × PyData)} {E : MP.Env} (h2 : o2 = none ∨ o2 = some (Kd.io, .none)) (hl : flatList P1 = true) (ho : (o3 = none ∧ o4 = none ∧ o5 = none) ∨ ∃ x y z, o3 = some (Kd.ro, x) ∧ o4 = some (Kd.ro, y) ∧ o5 = some (Kd.ro, z)) (k : cl 40 [some sc, some pl] P = some (P1, P)) (w : rs cl false e56_3 [some (Kd.ro, sc), some (Kd.ro, pl), some (Kd.io, .none), o3, o4, o5] P1 = some (.nx E P2)) :
    rss cl false e56_0 [some (Kd.ro, sc), some (Kd.ro, pl), o2, o3, o4, o5] P = some (.nx E P2) := by
  rcases h2 with h2 | h2 <;> subst h2 <;> rcases ho with ⟨h3, h4, h5⟩ | ⟨x, y, z, h3, h4, h5⟩ <;> subst h3 <;> subst h4 <;> subst h5 <;> simp [e_con, e_var, e_bin, e_neg, e_cmp, e_chain, e_and, e_or, e_not, e_ite, e_call, e_blt, e_isi, e_lrng, e_trng, e_tup, e_lst, e_sl, e_rev, e_every, e_ixV, e_ixC, e_ixI, e_ixL, evs_nil, evs_cons, evs_star, evs_io, evO_none, evO_some, evP_none, evP_some, evI_seq, evI_enum, evI_zip, rss_nil, rss_cons, rs_asg, rs_unp, rs_par, rs_ifs, rs_expr, rs_ret, rs_brk, rs_app, rs_while, getV, setV, isiD, copD, bopD, b_lenL, b_lenT, b_abs, b_min2, b_max2, b_int, b_intB, b_listL, b_listT, b_tupL, b_tupT, b_all, b_any, b_sumL, b_sumT, unO, tb_len, MP.frs, itemsImm, imm, immL, asgD, MP.isIo, bindT, bindTs, seqOf, MP.isInt, at0, at1, at2, startE, cntIo, frzAll, fz0, wipeE, frz, frz1, MP.vars, varsS, varsO, varsI, LIM, e56_0, rs_pot, k, w, hl, hasIo]
theorem Pot.flat {Q : Nat} (h : Pot Q P) : flatList P = true := by
  obtain ⟨o, s, c, e, _⟩ := h
  rw [e]
  rfl
theorem t56b {Q : PyData} (ns : List Int) (p : Nat) (hp : p < ns.length ∨ (ns = [] ∧ p = 0)) (hp3 : p ≤ 3) (o2 o3 o4 o5 : Option (Kd × PyData)) (h2 : o2 = none ∨ o2 = some (Kd.io, .none)) (ho : (o3 = none ∧ o4 = none ∧ o5 = none) ∨ ∃ x y z, o3 = some (Kd.ro, x) ∧ o4 = some (Kd.ro, y) ∧ o5 = some (Kd.ro, z)) :
    ∃ x y z P', rss (F 56) false e56_0 [some (Kd.ro, .list (ns.map PyData.int)), some (Kd.ro, .int (p : Nat)), o2, o3, o4, o5] Q = some (.nx [some (Kd.ro, .list (ns.map PyData.int)), some (Kd.ro, .int (p : Nat)), some (Kd.io, .none), some (Kd.ro, x), some (Kd.ro, y), some (Kd.ro, z)] P') := by
  obtain ⟨P1, k40, hP1⟩ := s40 (n := 56) (P := Q) (by omega) ns p hp hp3
  let I : Nat → MP.Env → PyData → Prop := fun i E P => Pot (40 * i) P ∧ ∃ o3 o4 o5, E = [some (Kd.ro, .list (ns.map PyData.int)), some (Kd.ro, .int (p : Nat)), some (Kd.io, .none), o3, o4, o5] ∧ MP.isIo o3 = false ∧ Two o4 o5 ∧ (0 < i → ∃ x y z, o3 = some (Kd.ro, x) ∧ o4 = some (Kd.ro, y) ∧ o5 = some (Kd.ro, z))
  have hi3 : MP.isIo o3 = false := by
    rcases ho with ⟨h, _⟩ | ⟨x, y, z, h, _⟩ <;> rw [h] <;> rfl
  have hi45 : Two o4 o5 := by
    rcases ho with ⟨_, h, h'⟩ | ⟨x, y, z, _, h, h'⟩
    · exact .inl ⟨h, h'⟩
    · exact .inr ⟨_, _, h, h'⟩
  obtain ⟨E, P', g1, g2, q3, q4, q5, g3, _, _, g4⟩ := for_ex (bind := bindT (.nm 3)) (body := rss (F 56) false e56_2) I (n := 3) (f := fun i => .int (i : Nat)) (o := 0) (E := [some (Kd.ro, .list (ns.map PyData.int)), some (Kd.ro, .int (p : Nat)), some (Kd.io, .none), o3, o4, o5]) (P := P1) (fun i hi E P hE => by
    obtain ⟨hPi, q3, q4, q5, g3, i3, i45, g4⟩ := hE
    rw [Nat.zero_add] at *
    obtain ⟨x, y, P', r1, r2⟩ := t56 (Q := 40 * i) hPi (by omega) (.list (ns.map PyData.int)) (.int (p : Nat)) (.int (i : Nat)) q4 q5 i45
    refine ⟨_, _, P', ?_, r1, ?_⟩
    · rw [g3]
      exact bind_nm i3 (show 3 < 6 from by decide)
    · exact ⟨r2.mono (by omega), _, _, _, rfl, rfl, .inr ⟨_, _, rfl, rfl⟩, fun _ => ⟨_, _, _, rfl, rfl, rfl⟩⟩) ⟨hP1, _, _, _, rfl, hi3, hi45, fun z => by omega⟩
  obtain ⟨x, y, z, z3, z4, z5⟩ := g4 (by omega)
  subst z3 z4 z5
  refine ⟨x, y, z, P', y56a h2 hP1.flat ho k40 ?_⟩
  show rs (F 56) false (.for (.nm 3) (.rng1 (.con (.int 3))) e56_2) _ P1 = _
  rw [rs_for (evI_r1 (m := 3) (P1 := P1) rfl (by omega)), ← g3]
  exact g1
theorem s56 (ns : List Int) : ∃ P', F 57 56 [some (.list (ns.map PyData.int))] .none = some (.bool true, P') := by
  have k43 := s43 (n := 56) (P := .none) (by omega) ns
  let I : Nat → MP.Env → PyData → Prop := fun i E P => ∃ o1 o2 o3 o4 o5, E = [some (Kd.ro, .list (ns.map PyData.int)), o1, o2, o3, o4, o5] ∧ MP.isIo o1 = false ∧ (o2 = none ∨ o2 = some (Kd.io, .none)) ∧ ((o3 = none ∧ o4 = none ∧ o5 = none) ∨ ∃ x y z, o3 = some (Kd.ro, x) ∧ o4 = some (Kd.ro, y) ∧ o5 = some (Kd.ro, z))
  obtain ⟨E, P', g1, _⟩ := for_ex (bind := bindT (.nm 1)) (body := rss (F 56) false e56_0) I (n := max 1 (min 3 ns.length)) (f := fun i => .int (i : Nat)) (o := 0) (E := [some (Kd.ro, .list (ns.map PyData.int)), none, none, none, none, none]) (P := .none) (fun i hi E P hE => by
    obtain ⟨o1, o2, o3, o4, o5, g3, i1, h2, ho⟩ := hE
    obtain ⟨x, y, z, P', r1⟩ := t56b (Q := P) ns i (by
      by_cases c : ns = []
      · subst c
        exact .inr ⟨rfl, by simp at hi; omega⟩
      · have := List.length_pos_iff.mpr c
        exact .inl (by omega)) (by omega) o2 o3 o4 o5 h2 ho
    refine ⟨_, _, P', ?_, r1, ?_⟩
    · rw [g3]
      exact bind_nm i1 (show 1 < 6 from by decide)
    · exact ⟨_, _, _, _, _, rfl, rfl, .inr rfl, .inr ⟨_, _, _, rfl, rfl, rfl⟩⟩) ⟨_, _, _, _, _, rfl, rfl, .inl rfl, .inl ⟨rfl, rfl, rfl⟩⟩
  refine ⟨P', F_ret (n := 57) (j := 56) (d := d56) (by omega) rfl rfl (by decide) rfl ?_⟩
  show rss (F 56) false b56 [some (Kd.ro, .list (ns.map PyData.int)), none, none, none, none, none] .none = _
  unfold b56
  have st : rs (F 56) false e56_1 [some (Kd.ro, .list (ns.map PyData.int)), none, none, none, none, none] .none = some (.nx E P') := by
    show rs (F 56) false (.for (.nm 1) (.seq (.call 43 (.cons (.var 0) (.cons (.con (.int 3)) .nil)))) e56_0) _ .none = _
    rw [rs_for (ds := tb (max 1 (min 3 ns.length)) fun i => .int (i : Nat)) (P1 := .none) (by simp [e_con, e_var, e_bin, e_neg, e_cmp, e_chain, e_and, e_or, e_not, e_ite, e_call, e_blt, e_isi, e_lrng, e_trng, e_tup, e_lst, e_sl, e_rev, e_every, e_ixV, e_ixC, e_ixI, e_ixL, evs_nil, evs_cons, evs_star, evs_io, evO_none, evO_some, evP_none, evP_some, evI_seq, evI_enum, evI_zip, rss_nil, rss_cons, rs_asg, rs_unp, rs_par, rs_ifs, rs_expr, rs_ret, rs_brk, rs_app, rs_while, getV, setV, isiD, copD, bopD, b_lenL, b_lenT, b_abs, b_min2, b_max2, b_int, b_intB, b_listL, b_listT, b_tupL, b_tupT, b_all, b_any, b_sumL, b_sumT, unO, tb_len, MP.frs, itemsImm, imm, immL, asgD, MP.isIo, bindT, bindTs, seqOf, MP.isInt, at0, at1, at2, startE, cntIo, frzAll, fz0, wipeE, frz, frz1, MP.vars, varsS, varsO, varsI, LIM, k43])]
    exact g1
  rw [rss_step st]
  rfl
end K06
set_option Elab.async false
set_option linter.all false
set_option maxRecDepth 100000
set_option maxHeartbeats 0
/-! k06: the head, the facts, the end. -/
namespace K06
open PySem PySem.Spec PyProof.Rows L2 MP
def mkD (st : Stmt) (x : Str) : He.DefD := ⟨(x, none), x, x, defArgs st, defBody st, defScope st, [], []⟩
def fn : List He.DefD := (List.range 57).map fun j => mkD (top (ixT j)) (nmL.getD j Str.empty)
def names1 : List Str := ["is_tuple","is_whole","is_integer","is_rising","is_word","are_integers","StudyError","BadNumber","BadShare","BadStretch","BadRegion","PAIR_fractions","MOST_SIZE","NOUGHT","common_of","whole_power","is_size","is_fraction","is_share","check_share","ratio_of","plus_of","is_below","total_of","choose_of","top_of","row_value_of"]
def names2 : List Str := ["PAIR_urns","MOST_URN","MOST_DRAWN","UP","DOWN","HOLDS","FAILS","check_urn","check_marked","check_urn_region","check_lot","draws_of","urn_chance_of","urn_draws","urn_noes","urn_worst_of","urn_worst","urn_size_at_most","urn_border_of","urn_border","urn_tables","urn_held","MOST_COIN","check_many","check_outcome","coin_chance"]
def names3 : List Str := ["MOST_LOT","check_lots","margin_of","margin_shares","_law_pot","_law_take","_law_of","_law_places","_law_gcd","_law_ratio","_law_plus","_law_minus","_law_times","_law_below","_law_total","_law_choose","_law_own","_law_is_urn_right","_law_is_likeliest_right","_law_are_two_right"]
def names : List Str := names1 ++ names2 ++ names3
abbrev R : PySem.W.OpenRow := PySem.W.OpenLaw.row PySem.Challenge.rw_neveroftener_k06_whole_draws_of_draws
abbrev hk : PySem.W.Hook := hookM 4 bltNames cstL fn
def ob (s : PySem.W.SharedT) : He.AlD := obsMG 4 bltNames cstL fn (HandSHeadRun.getT s)
theorem ob_eq (s : PySem.W.SharedT) : ob s = hk.obs s.abs := obsMG_eq (HandSHeadRun.getT_eq s)
theorem run (w : World) : HandSHeadRun.RunEq R (PySem.W.view R.prog [81]) hk ob 6000 names w := by
  intro os
  kernel_rfl
theorem fn_at (j : Nat) (h : j < 57) : fn[j]? = some (mkD (top (ixT j)) (nmL.getD j Str.empty)) := by
  unfold fn
  rw [List.getElem?_map, List.getElem?_range h]
  rfl
theorem scpAll : ((List.range 57).all fun j => match G.tab j with
    | some d => scpB d.names (G.ps j) (G.scope j)
    | none => true) = true := by decide +kernel
theorem ixAll : ((List.range 57).all fun j => decide (G.idx (G.nm j) = some j)) = true := by decide +kernel
theorem idx_nm : ∀ (l : List Str) (x : Str) (k j : Nat), idxOf x l k = some j → k ≤ j ∧ l[j - k]? = some x
  | [], _, _, _, h => by cases h
  | y :: r, x, k, j, h => by
    unfold idxOf at h
    split at h
    · rename_i e
      cases h
      exact ⟨Nat.le_refl _, by rw [Nat.sub_self, ← e]; rfl⟩
    · obtain ⟨h1, h2⟩ := idx_nm r x (k + 1) j h
      refine ⟨by omega, ?_⟩
      rw [show j - k = (j - (k + 1)) + 1 from by omega]
      exact h2
theorem cst_mem : ∀ (l : List (Str × PyData)) (x : Str) (d : PyData), l.lookup x = some d → (x, d) ∈ l
  | [], _, _, h => by cases h
  | (y, e) :: r, x, d, h => by
    rw [List.lookup_cons] at h
    cases hb : x == y with
    | true =>
      rw [hb] at h
      have e1 := eq_of_beq hb
      cases h
      rw [e1]
      exact List.mem_cons_self
    | false =>
      rw [hb] at h
      exact List.mem_cons_of_mem _ (cst_mem r x d h)
theorem bd : ∀ j, j < 57 → ∀ (kV doc pm : Value) (an : Option Addr) (cdv ct : Value) (us : List Value), us.length = (G.ps j).length → bindArgs (PySem.W.fnOf (G.nm j) (G.nm j) (G.args j) (G.body j) (G.scope j) .none kV doc pm an cdv ct) ⟨us, []⟩ = pure ((G.ps j).zip us)
  | 0, _ => fun _ _ _ _ _ _ us hl => match us, hl with
    | [_, _, _], _ => rfl
  | 1, _ => fun _ _ _ _ _ _ us hl => match us, hl with
    | [_], _ => rfl
  | 2, _ => fun _ _ _ _ _ _ us hl => match us, hl with
    | [_, _, _], _ => rfl
  | 3, _ => fun _ _ _ _ _ _ us hl => match us, hl with
    | [_], _ => rfl
  | 4, _ => fun _ _ _ _ _ _ us hl => match us, hl with
    | [_, _], _ => rfl
  | 5, _ => fun _ _ _ _ _ _ us hl => match us, hl with
    | [_, _, _, _, _], _ => rfl
  | 6, _ => fun _ _ _ _ _ _ us hl => match us, hl with
    | [_, _], _ => rfl
  | 7, _ => fun _ _ _ _ _ _ us hl => match us, hl with
    | [_, _], _ => rfl
  | 8, _ => fun _ _ _ _ _ _ us hl => match us, hl with
    | [_], _ => rfl
  | 9, _ => fun _ _ _ _ _ _ us hl => match us, hl with
    | [_], _ => rfl
  | 10, _ => fun _ _ _ _ _ _ us hl => match us, hl with
    | [_], _ => rfl
  | 11, _ => fun _ _ _ _ _ _ us hl => match us, hl with
    | [_], _ => rfl
  | 12, _ => fun _ _ _ _ _ _ us hl => match us, hl with
    | [_, _], _ => rfl
  | 13, _ => fun _ _ _ _ _ _ us hl => match us, hl with
    | [_, _], _ => rfl
  | 14, _ => fun _ _ _ _ _ _ us hl => match us, hl with
    | [_, _], _ => rfl
  | 15, _ => fun _ _ _ _ _ _ us hl => match us, hl with
    | [_], _ => rfl
  | 16, _ => fun _ _ _ _ _ _ us hl => match us, hl with
    | [_, _], _ => rfl
  | 17, _ => fun _ _ _ _ _ _ us hl => match us, hl with
    | [_, _], _ => rfl
  | 18, _ => fun _ _ _ _ _ _ us hl => match us, hl with
    | [_, _], _ => rfl
  | 19, _ => fun _ _ _ _ _ _ us hl => match us, hl with
    | [_, _], _ => rfl
  | 20, _ => fun _ _ _ _ _ _ us hl => match us, hl with
    | [_, _], _ => rfl
  | 21, _ => fun _ _ _ _ _ _ us hl => match us, hl with
    | [_, _, _], _ => rfl
  | 22, _ => fun _ _ _ _ _ _ us hl => match us, hl with
    | [_, _], _ => rfl
  | 23, _ => fun _ _ _ _ _ _ us hl => match us, hl with
    | [_, _, _, _], _ => rfl
  | 24, _ => fun _ _ _ _ _ _ us hl => match us, hl with
    | [_, _, _, _], _ => rfl
  | 25, _ => fun _ _ _ _ _ _ us hl => match us, hl with
    | [_, _, _], _ => rfl
  | 26, _ => fun _ _ _ _ _ _ us hl => match us, hl with
    | [_, _, _, _], _ => rfl
  | 27, _ => fun _ _ _ _ _ _ us hl => match us, hl with
    | [_, _, _, _], _ => rfl
  | 28, _ => fun _ _ _ _ _ _ us hl => match us, hl with
    | [_, _, _, _], _ => rfl
  | 29, _ => fun _ _ _ _ _ _ us hl => match us, hl with
    | [_, _, _, _, _], _ => rfl
  | 30, _ => fun _ _ _ _ _ _ us hl => match us, hl with
    | [_, _, _, _, _], _ => rfl
  | 31, _ => fun _ _ _ _ _ _ us hl => match us, hl with
    | [_, _, _, _, _], _ => rfl
  | 32, _ => fun _ _ _ _ _ _ us hl => match us, hl with
    | [_, _, _], _ => rfl
  | 33, _ => fun _ _ _ _ _ _ us hl => match us, hl with
    | [_, _, _, _], _ => rfl
  | 34, _ => fun _ _ _ _ _ _ us hl => match us, hl with
    | [_], _ => rfl
  | 35, _ => fun _ _ _ _ _ _ us hl => match us, hl with
    | [_, _], _ => rfl
  | 36, _ => fun _ _ _ _ _ _ us hl => match us, hl with
    | [_, _, _], _ => rfl
  | 37, _ => fun _ _ _ _ _ _ us hl => match us, hl with
    | [_, _], _ => rfl
  | 38, _ => fun _ _ _ _ _ _ us hl => match us, hl with
    | [_, _, _], _ => rfl
  | 39, _ => fun _ _ _ _ _ _ us hl => match us, hl with
    | [_, _, _], _ => rfl
  | 40, _ => fun _ _ _ _ _ _ us hl => match us, hl with
    | [_, _], _ => rfl
  | 41, _ => fun _ _ _ _ _ _ us hl => match us, hl with
    | [_, _], _ => rfl
  | 42, _ => fun _ _ _ _ _ _ us hl => match us, hl with
    | [_, _], _ => rfl
  | 43, _ => fun _ _ _ _ _ _ us hl => match us, hl with
    | [_, _], _ => rfl
  | 44, _ => fun _ _ _ _ _ _ us hl => match us, hl with
    | [_, _], _ => rfl
  | 45, _ => fun _ _ _ _ _ _ us hl => match us, hl with
    | [_, _], _ => rfl
  | 46, _ => fun _ _ _ _ _ _ us hl => match us, hl with
    | [_, _], _ => rfl
  | 47, _ => fun _ _ _ _ _ _ us hl => match us, hl with
    | [_, _], _ => rfl
  | 48, _ => fun _ _ _ _ _ _ us hl => match us, hl with
    | [_, _], _ => rfl
  | 49, _ => fun _ _ _ _ _ _ us hl => match us, hl with
    | [_, _], _ => rfl
  | 50, _ => fun _ _ _ _ _ _ us hl => match us, hl with
    | [_], _ => rfl
  | 51, _ => fun _ _ _ _ _ _ us hl => match us, hl with
    | [_, _], _ => rfl
  | 52, _ => fun _ _ _ _ _ _ us hl => match us, hl with
    | [_, _, _], _ => rfl
  | 53, _ => fun _ _ _ _ _ _ us hl => match us, hl with
    | [_, _, _, _], _ => rfl
  | 54, _ => fun _ _ _ _ _ _ us hl => match us, hl with
    | [_, _, _], _ => rfl
  | 55, _ => fun _ _ _ _ _ _ us hl => match us, hl with
    | [_], _ => rfl
  | 56, _ => fun _ _ _ _ _ _ us hl => match us, hl with
    | [_], _ => rfl
  | j + 57, h => absurd h (by omega)
theorem facts {P : Program} {w : World} {K : PySem.W.Frag} {h : Heap} {mg : Str → Option Value} (X : K.In h) (Gn : h.Ns mainGlobals mg) (c : SaysM bltNames cstL fn K) : G.Facts P w K mg 57 where
  fn := fun j hj => c.def_ X Gn j (fn_at j hj) rfl rfl rfl
  bd := bd
  sc := fun j hj d hd => by
    have := List.all_eq_true.mp scpAll j (List.mem_range.mpr hj)
    rw [hd] at this
    exact scp_ok this
  ck := fun j hj => List.all_eq_true.mp okAll j (List.mem_range.mpr hj)
  ix := fun x j h => by
    obtain ⟨_, h2⟩ := idx_nm nmL x 0 j h
    show nmL.getD j Str.empty = x
    rw [List.getD_eq_getElem?_getD]
    rw [Nat.sub_zero] at h2
    rw [h2]
    rfl
  cs := fun x d h => c.cst X Gn (cst_mem _ _ _ h)
  fr := fun x hx => c.free X Gn hx
end K06
open PySem PySem.W PySem.Calls PyProof.Rows
theorem K06.holds_of (hl : ∀ ns : List Int, ns.length ≤ 63 → ∃ P', MP.upTo K06.G.tab 57 56 [some (.list (ns.map PyData.int))] .none = some (.bool true, P')) : PySem.Challenge.rw_neveroftener_k06_whole_draws_of_draws.Holds := by
  w_on; o_law
  refine HandSHeadRun.head_any (r := OpenLaw.row PySem.Challenge.rw_neveroftener_k06_whole_draws_of_draws) (q := view (OpenLaw.row PySem.Challenge.rw_neveroftener_k06_whole_draws_of_draws).prog [81]) (H := K06.hk) (ob := K06.ob) (M := 6000) (loose := K06.names) (d := HandSHeadRun.topDef (OpenLaw.row PySem.Challenge.rw_neveroftener_k06_whole_draws_of_draws).prog 81) (kwd := []) K06.ob_eq
    (by kernel_rfl) (fun s => by kernel_rfl) K06.run (by kernel_rfl) (by kernel_rfl) (by kernel_rfl) (by rfl) (by first | assumption | decide +kernel) (by decide +kernel) ⟨rfl, rfl, rfl, rfl, rfl, by decide +kernel⟩ ?hw ?hc
  case hw => w_witness2
  case hc =>
    refine L2.walk_ofE (l := PySem.Challenge.rw_neveroftener_k06_whole_draws_of_draws) (n := 63) (k := 57) (x := "script") (CX := L2.CX0) rfl (by decide) (by kernel_rfl) ⟨rfl, by decide, by decide⟩ ?F (fun _ _ _ _ z => z)
    intro w mg fa h Y G hmg0
    obtain ⟨K, KX, c⟩ := Y
    have hmg : mg ("law" : PySem.Str) = some (.ref fa) := by
      have e : (HandSHeadRun.topDef (OpenLaw.row PySem.Challenge.rw_neveroftener_k06_whole_draws_of_draws).prog 81).name = ("law" : PySem.Str) := by kernel_rfl
      rw [← e]
      exact hmg0
    have F := K06.facts (P := (PySem.Challenge.rw_neveroftener_k06_whole_draws_of_draws).prog) (w := w) KX G c
    obtain ⟨a, fd, hF, hm⟩ := F.fn 56 (by decide)
    have e : fa = a := by
      have hm' : mg ("law" : PySem.Str) = some (.ref a) := hm
      rw [hmg] at hm'
      cases hm'
      rfl
    subst e
    refine ⟨K, fd, MP.spF K (MP.upTo K06.G.tab 57) 56, KX, fun s v => ?_, fun H a ns hl' _ hS => ?_, fun base hb hn => ?_⟩
    · exact L2.FunD.bindsA (ps := ["script"]) hF (K06.bd 56 (by decide)) s [v] rfl
    · obtain ⟨P', hP⟩ := hl ns hl'
      obtain ⟨F0, hr⟩ := MP.sq_rp hS
      refine ⟨[some (.list (ns.map PyData.int))], .none, 0, F0 ++ [], .bool true, P', .cons hr .nil, fun z => ?_, hP, fun v H' G' _ _ rv _ => (rv.boolV).1⟩
      rcases List.mem_cons.mp z with z | z <;> cases z
    · obtain ⟨a', fd', hF', hm', hO⟩ := F.ok base 56 (by decide)
      have e : a' = fa := by
        have h1 : mg ("law" : PySem.Str) = some (.ref a') := hm'
        rw [hmg] at h1
        cases h1
        rfl
      subst e
      obtain ⟨oc, od, dV, kV, doc, pm, an, cdv, ct, osl, e1, lk, _⟩ := hF.ex
      obtain ⟨oc', od', dV', kV', doc', pm', an', cdv', ct', osl', e1', lk', _⟩ := hF'.ex
      rw [lk] at lk'
      cases lk'
      exact hO
set_option maxRecDepth 100000 in
set_option maxHeartbeats 0 in
theorem PySem.Challenge.cw_neveroftener_k06_whole_draws_of_draws_holds : PySem.Challenge.rw_neveroftener_k06_whole_draws_of_draws.Holds := by
  exact K06.holds_of fun ns _ => K06.s56 ns
