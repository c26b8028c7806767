import PyProof.Rows.All
import Wide.All
import OpenK.AllK
import Wide.FinOn
import HandS.ForMost
import HandS.ForExc
import HandS.Flow
import HandS.Style
import HandS.Conv
import HandS.Zip
import HandS.IsInst
import HandS.TupAny
import HandS.TupMul
import HandS.TupLe
import HandS.TupSets
import HandS.Wide
import HandS.SetFor
import HandS.Strs
import HandS.StrMore
import HandS.CallLocal
import HandS.TryMany
import HandS.ExcIs
import HandS.Deep
import HandS.SortInts
import KE.KDictKeyed
import KE.DatumOrd
import KE.DataAny
import KE.KDictDisplayH
import PySem.Challenge.RW_clerklines_k13_whole_triangle
set_option Elab.async false
set_option linter.all false
set_option maxRecDepth 100000
set_option Elab.async false
set_option linter.all false
set_option maxRecDepth 100000
/-! Qz: values as trees (OV), slots and temporaries (SV), and how a heap bears them (Rel). -/
namespace Qz
open PySem PySem.Spec PyProof.Rows L2

/-- whether it is so: a test that no reduction looks into -/
noncomputable def sm (p : Prop) : Bool := @decide p (Classical.propDecidable p)
theorem sm_iff {p : Prop} : sm p = true ↔ p := by unfold sm; exact @decide_eq_true_iff p (Classical.propDecidable p)
@[simp] theorem sm_true {p : Prop} (h : p) : sm p = true := sm_iff.mpr h
@[simp] theorem sm_false {p : Prop} (h : ¬ p) : sm p = false := by
  cases e : sm p with
  | true => exact absurd (sm_iff.mp e) h
  | false => rfl
/-- where one stands -/
structure Gp where
  K : PySem.W.Frag
  P : Program
  w : World
/-- the kind of a node that is owned: a list; a dict by tuple keys; an instance -/
inductive Kd where
  | lst
  | dct (ks : List NestedKey)
  | obj (C : Addr) (fs : List Str)
  | scr
/-- a value as a tree: data that never changes, or an owned node -/
inductive OV where
  | fz (d : PyData)
  | nd (k : Kd) (os : List OV)
  | fo (o : OV)
abbrev OV.ls (os : List OV) : OV := .nd .lst os
/-- what a slot or a temporary holds: nothing, an owned value, a borrowed one, an alias of another slot -/
inductive SV where
  | no
  | ow (o : OV)
  | bo (o : OV)
  | fb (o : OV)
  | rf (k : Nat)

/-! ### data in the frozen part -/
mutual
inductive Rp (R : Hp) : V → PyData → Prop
  | non : Rp R .non .none
  | bl (b : Bool) : Rp R (.bl b) (.bool b)
  | int (i : Int) : Rp R (.int i) (.int i)
  | str (x : Str) : Rp R (.str x) (.str x)
  | lst {a : Addr} {vs : List V} {ds : List PyData} : R a = some (.lst vs) → RpL R vs ds → Rp R (.ref a) (.list ds)
  | tup {a : Addr} {vs : List V} {ds : List PyData} : R a = some (.tup vs) → RpL R vs ds → Rp R (.ref a) (.tuple ds)
inductive RpL (R : Hp) : List V → List PyData → Prop
  | nil : RpL R [] []
  | cons {v : V} {vs : List V} {d : PyData} {ds : List PyData} : Rp R v d → RpL R vs ds → RpL R (v :: vs) (d :: ds)
end
theorem Rd.same {R R' : Hp} {a : Addr} {u : HO} (s : Same R R') (h : Rd R a u) : Rd R' a u := by
  rcases h with h | ⟨o, h⟩
  · exact .inl (s _ _ h)
  · exact .inr ⟨o, s _ _ h⟩
mutual
theorem Rp.mono {R R' : Hp} (s : Same R R') : ∀ {v : V} {d : PyData}, Rp R v d → Rp R' v d
  | _, _, .non => .non
  | _, _, .bl b => .bl b
  | _, _, .int i => .int i
  | _, _, .str x => .str x
  | _, _, .lst h r => .lst (s _ _ h) (RpL.mono s r)
  | _, _, .tup h r => .tup (s _ _ h) (RpL.mono s r)
theorem RpL.mono {R R' : Hp} (s : Same R R') : ∀ {vs : List V} {ds : List PyData}, RpL R vs ds → RpL R' vs ds
  | _, _, .nil => .nil
  | _, _, .cons h r => .cons (Rp.mono s h) (RpL.mono s r)
end
mutual
theorem Rp.dp {K : PySem.W.Frag} {R : Hp} : ∀ {v : V} {d : PyData}, Rp R v d → Dp K R v d
  | _, _, .non => .non
  | _, _, .bl b => .bl b
  | _, _, .int i => .int i
  | _, _, .str x => .str x
  | _, _, .lst h r => .lst (.inl (.inl h)) (RpL.dp r)
  | _, _, .tup h r => .tup (.inl (.inl h)) (RpL.dp r)
theorem RpL.dp {K : PySem.W.Frag} {R : Hp} : ∀ {vs : List V} {ds : List PyData}, RpL R vs ds → DpAll K R vs ds
  | _, _, .nil => .nil
  | _, _, .cons h r => .cons (Rp.dp h) (RpL.dp r)
end
theorem RpL.length {R : Hp} : ∀ {vs : List V} {ds : List PyData}, RpL R vs ds → vs.length = ds.length
  | _, _, .nil => rfl
  | _, _, .cons _ r => by simp [RpL.length r]
theorem RpL.get {R : Hp} : ∀ {vs : List V} {ds : List PyData} {i : Nat} {d : PyData}, RpL R vs ds → ds[i]? = some d → ∃ v, vs[i]? = some v ∧ Rp R v d
  | _, _, _, _, .nil, e => by simp at e
  | _, _, 0, _, .cons h _, e => by simp at e; subst e; exact ⟨_, rfl, h⟩
  | _, _, i + 1, _, .cons _ r, e => by
    obtain ⟨v, h1, h2⟩ := RpL.get (i := i) r (by simpa using e)
    exact ⟨v, by simpa using h1, h2⟩
theorem RpL.getV {R : Hp} : ∀ {vs : List V} {ds : List PyData} {i : Nat} {v : V}, RpL R vs ds → vs[i]? = some v → ∃ d, ds[i]? = some d ∧ Rp R v d
  | _, _, _, _, .nil, e => by simp at e
  | _, _, 0, _, .cons h _, e => by simp at e; subst e; exact ⟨_, rfl, h⟩
  | _, _, i + 1, _, .cons _ r, e => by
    obtain ⟨v, h1, h2⟩ := RpL.getV (i := i) r (by simpa using e)
    exact ⟨v, by simpa using h1, h2⟩
theorem RpL.append {R : Hp} : ∀ {vs ws : List V} {ds es : List PyData}, RpL R vs ds → RpL R ws es → RpL R (vs ++ ws) (ds ++ es)
  | _, _, _, _, .nil, s => s
  | _, _, _, _, .cons h r, s => .cons h (RpL.append r s)
theorem RpL.take {R : Hp} : ∀ {vs : List V} {ds : List PyData} (n : Nat), RpL R vs ds → RpL R (vs.take n) (ds.take n)
  | _, _, 0, _ => .nil
  | _, _, _ + 1, .nil => .nil
  | _, _, n + 1, .cons h r => .cons h (RpL.take n r)
theorem RpL.drop {R : Hp} : ∀ {vs : List V} {ds : List PyData} (n : Nat), RpL R vs ds → RpL R (vs.drop n) (ds.drop n)
  | _, _, 0, r => r
  | _, _, _ + 1, .nil => .nil
  | _, _, n + 1, .cons _ r => RpL.drop n r

/-! ### owned values -/
/-- the dict at a, by its raw entries -/
def DctO (P : Program) (w : World) (a : Addr) (xs : List (NestedKey × Addr × Value)) (ep : Nat) : HO :=
  .ext fun h => xs.length ≤ sizeLine ∧ (a == sysModules) = false ∧ ∃ o es, h.get? a = some o ∧ o.ExactDict ∧ o.data = .dict es ep ∧ es.toList = xs.map (entryOfKey (nestedKind P w)) ∧ (xs.map (·.1)).Nodup
/-- a key of the dict: its tuple, its value -/
def KeyOk (R : Hp) (k : NestedKey) (v : V) (x : NestedKey × Addr × Value) : Prop :=
  x.1 = k ∧ k.depth ≤ 8 ∧ (∃ ks, k = .tup ks) ∧ Rp R (.ref x.2.1) k.data ∧ RelV v x.2.2
inductive KeysOk (R : Hp) : List NestedKey → List V → List (NestedKey × Addr × Value) → Prop
  | nil : KeysOk R [] [] []
  | cons {k v x ks vs xs} : KeyOk R k v x → KeysOk R ks vs xs → KeysOk R (k :: ks) (v :: vs) (x :: xs)
theorem KeysOk.mono {R R' : Hp} (s : Same R R') : ∀ {ks vs xs}, KeysOk R ks vs xs → KeysOk R' ks vs xs
  | _, _, _, .nil => .nil
  | _, _, _, .cons ⟨h1, h2, h3, h4, h5⟩ r => .cons ⟨h1, h2, h3, h4.mono s, h5⟩ (KeysOk.mono s r)
/-- the script: locked, or an object of the module -/
def ScrL (K : PySem.W.Frag) (H : Hp) (a : Addr) (vs : List V) : Prop := (∃ o, H a = some (.frz o (.lst vs))) ∨
    ∃ (o : Obj) (its : Array Value) (n : Nat), K.lookup a = some o ∧ o.cls = .type "list" ∧ o.dict = none ∧ o.data = .seq its n ∧ its.size ≤ sizeLine ∧ Vals vs its.toList
theorem ScrL.sq {K : PySem.W.Frag} {H : Hp} {a : Addr} {vs : List V} (h : ScrL K H a vs) : SqL K H a vs := by
  rcases h with h | h
  · exact .inl (.inr h)
  · exact .inr h
/-- a node at a, of kind k, its children's values vs, its own addresses B -/
inductive Nd (G : Gp) (R H : Hp) : Addr → Kd → List V → List Addr → Prop
  | lst {a vs} : H a = some (.lst vs) → Nd G R H a .lst vs [a]
  | dct {a ks vs xs ep} : H a = some (DctO G.P G.w a xs ep) → KeysOk R ks vs xs → Nd G R H a (.dct ks) vs [a]
  | obj {a C fs vs dx} : H a = some (.ins C dx (fs.zip vs)) → H dx = some (.own a) → fs.length = vs.length → Nd G R H a (.obj C fs) vs [a, dx]
  | scr {a vs} : ScrL G.K H a vs → Nd G R H a .scr vs []
mutual
inductive Ow (G : Gp) (R : Hp) : Hp → V → OV → List Addr → Prop
  | fz {H : Hp} {v d} : Rp R v d → Ow G R H v (.fz d) []
  | nd {H : Hp} {a k vs os B A} : Nd G R H a k vs B → OwL G R H vs os A → Ow G R H (.ref a) (.nd k os) (B ++ A)
  | fo {H : Hp} {v o B} : Ow G R R v o B → Ow G R H v (.fo o) []
inductive OwL (G : Gp) (R : Hp) : Hp → List V → List OV → List Addr → Prop
  | nil {H : Hp} : OwL G R H [] [] []
  | cons {H : Hp} {v vs o os A B} : Ow G R H v o A → OwL G R H vs os B → OwL G R H (v :: vs) (o :: os) (A ++ B)
end
section
variable {G : Gp} {R R' H H' : Hp}
theorem Nd.mono (s : Same R R') {a k vs B} : Nd G R H a k vs B → Nd G R' H a k vs B
  | .lst h => .lst h
  | .dct h k => .dct h (k.mono s)
  | .obj h1 h2 h3 => .obj h1 h2 h3
  | .scr h => .scr h
/-- what is locked stays locked -/
def Frz (H H' : Hp) : Prop := ∀ b o u, H b = some (.frz o u) → H' b = some (.frz o u)
theorem frz_same {H H' : Hp} (s : Same H H') : Frz H H' := fun b o u q => s b _ q
theorem Nd.frame {a k vs B} (z : Frz H H') (n : Nd G R H a k vs B) (f : ∀ b ∈ B, ∀ o, H b = some o → H' b = some o) : Nd G R H' a k vs B := by
  cases n with
  | lst h => exact .lst (f _ (by simp) _ h)
  | dct h k => exact .dct (f _ (by simp) _ h) k
  | obj h1 h2 h3 => exact .obj (f _ (by simp) _ h1) (f _ (by simp) _ h2) h3
  | scr h => exact .scr (by
      rcases h with ⟨o, h⟩ | h
      · exact .inl ⟨o, z _ _ _ h⟩
      · exact .inr h)
mutual
theorem Ow.frame (z : Frz H H') : ∀ {v o A}, Ow G R H v o A → (∀ b ∈ A, ∀ o, H b = some o → H' b = some o) → Ow G R H' v o A
  | _, _, _, .fz h, _ => .fz h
  | _, _, _, .fo h, _ => .fo h
  | _, _, _, .nd n l, f => .nd (n.frame z fun b hb => f b (List.mem_append_left _ hb)) (OwL.frame z l fun b hb => f b (List.mem_append_right _ hb))
theorem OwL.frame (z : Frz H H') : ∀ {v o A}, OwL G R H v o A → (∀ b ∈ A, ∀ o, H b = some o → H' b = some o) → OwL G R H' v o A
  | _, _, _, .nil, _ => .nil
  | _, _, _, .cons h l, f => .cons (Ow.frame z h fun b hb => f b (List.mem_append_left _ hb)) (OwL.frame z l fun b hb => f b (List.mem_append_right _ hb))
end
mutual
theorem Ow.mono (s : Same R R') : ∀ {H v o A}, Ow G R H v o A → Ow G R' H v o A
  | _, _, _, _, .fz h => .fz (h.mono s)
  | _, _, _, _, .fo h => .fo ((Ow.mono s h).frame (frz_same s) fun b _ o q => s b o q)
  | _, _, _, _, .nd n l => .nd (n.mono s) (OwL.mono s l)
theorem OwL.mono (s : Same R R') : ∀ {H v o A}, OwL G R H v o A → OwL G R' H v o A
  | _, _, _, _, .nil => .nil
  | _, _, _, _, .cons h l => .cons (Ow.mono s h) (OwL.mono s l)
end
theorem Nd.live {a k vs B} (n : Nd G R H a k vs B) : ∀ b ∈ B, ∃ o, H b = some o := by
  cases n with
  | lst h => intro b hb; simp at hb; subst hb; exact ⟨_, h⟩
  | dct h k => intro b hb; simp at hb; subst hb; exact ⟨_, h⟩
  | scr h => intro b hb; simp at hb
  | obj h1 h2 h3 =>
    intro b hb
    simp at hb
    rcases hb with rfl | rfl
    · exact ⟨_, h1⟩
    · exact ⟨_, h2⟩
mutual
theorem Ow.live : ∀ {v o A}, Ow G R H v o A → ∀ b ∈ A, ∃ o, H b = some o
  | _, _, _, .fz h, b, hb => by simp at hb
  | _, _, _, .fo h, b, hb => by simp at hb
  | _, _, _, .nd n l, b, hb => (List.mem_append.mp hb).elim (n.live b) (OwL.live l b)
theorem OwL.live : ∀ {v o A}, OwL G R H v o A → ∀ b ∈ A, ∃ o, H b = some o
  | _, _, _, .nil, b, hb => by simp at hb
  | _, _, _, .cons h l, b, hb => (List.mem_append.mp hb).elim (Ow.live h b) (OwL.live l b)
end
theorem Nd.nofrz {a k vs B} (n : Nd G R H a k vs B) : ∀ b ∈ B, ∀ o u, H b ≠ some (.frz o u) := by
  cases n with
  | lst h => intro b hb o u q; simp at hb; subst hb; rw [h] at q; cases q
  | dct h k => intro b hb o u q; simp at hb; subst hb; rw [h] at q; cases q
  | scr h => intro b hb; simp at hb
  | obj h1 h2 h3 =>
    intro b hb o u q
    simp at hb
    rcases hb with rfl | rfl
    · rw [h1] at q; cases q
    · rw [h2] at q; cases q
mutual
theorem Ow.nofrz : ∀ {v o A}, Ow G R H v o A → ∀ b ∈ A, ∀ o u, H b ≠ some (.frz o u)
  | _, _, _, .fz h, b, hb => by simp at hb
  | _, _, _, .fo h, b, hb => by simp at hb
  | _, _, _, .nd n l, b, hb => (List.mem_append.mp hb).elim (n.nofrz b) (OwL.nofrz l b)
theorem OwL.nofrz : ∀ {v o A}, OwL G R H v o A → ∀ b ∈ A, ∀ o u, H b ≠ some (.frz o u)
  | _, _, _, .nil, b, hb => by simp at hb
  | _, _, _, .cons h l, b, hb => (List.mem_append.mp hb).elim (Ow.nofrz h b) (OwL.nofrz l b)
end
theorem OwL.length : ∀ {vs os A}, OwL G R H vs os A → vs.length = os.length
  | _, _, _, .nil => rfl
  | _, _, _, .cons _ r => by simp [OwL.length r]
end
-- a tree as data: lists alone
mutual
def OV.dat : OV → Option PyData
  | .fz d => some d
  | .nd .lst os => (OV.dats os).map .list
  | .nd (.dct _) _ => none
  | .nd (.obj _ _) _ => none
  | .nd .scr _ => none
  | .fo _ => none
def OV.dats : List OV → Option (List PyData)
  | [] => some []
  | o :: os => match o.dat, OV.dats os with
    | some d, some ds => some (d :: ds)
    | _, _ => none
end
section
variable {G : Gp} {R R' H : Hp}
mutual
-- frozen: what is read in R' where R' has the tree's own objects
theorem Ow.toRp (s : Same R R') : ∀ {v o A d}, Ow G R H v o A → o.dat = some d → (∀ b ∈ A, ∀ u, H b = some u → R' b = some u) → Rp R' v d
  | _, _, _, d, .fz h, e, _ => by
    simp only [OV.dat, Option.some.injEq] at e
    subst e
    exact h.mono s
  | _, _, _, d, .fo h, e, _ => by simp [OV.dat] at e
  | _, _, _, d, .nd (k := k) n l, e, f => by
    cases n with
    | lst h =>
      rw [OV.dat] at e
      obtain ⟨ds, e1, e2⟩ := Option.map_eq_some_iff.mp e
      subst e2
      exact .lst (f _ (by simp) _ h) (OwL.toRp s l e1 fun b hb => f b (List.mem_append_right _ hb))
    | dct h k => simp [OV.dat] at e
    | obj h1 h2 h3 => simp [OV.dat] at e
    | scr h => simp [OV.dat] at e
theorem OwL.toRp (s : Same R R') : ∀ {vs os A ds}, OwL G R H vs os A → OV.dats os = some ds → (∀ b ∈ A, ∀ u, H b = some u → R' b = some u) → RpL R' vs ds
  | _, _, _, ds, .nil, e, _ => by
    simp only [OV.dats, Option.some.injEq] at e
    subst e
    exact .nil
  | _, _, _, ds, .cons (o := o) (os := os) h l, e, f => by
    rw [OV.dats] at e
    cases e1 : o.dat with
    | none => rw [e1] at e; simp at e
    | some d =>
      cases e2 : OV.dats os with
      | none => rw [e1, e2] at e; simp at e
      | some ds' =>
        rw [e1, e2] at e
        simp only [Option.some.injEq] at e
        subst e
        exact .cons (Ow.toRp s h e1 fun b hb => f b (List.mem_append_left _ hb)) (OwL.toRp s l e2 fun b hb => f b (List.mem_append_right _ hb))
end
theorem Ow.rp (s : Same R H) {v o A d} (h : Ow G R H v o A) (e : o.dat = some d) : Rp H v d := h.toRp s e fun _ _ _ q => q
end
-- a tree that may be frozen as it is
mutual
def OV.nos : OV → Bool
  | .fz _ => true
  | .fo _ => true
  | .nd .scr _ => false
  | .nd .lst os => OV.nosL os
  | .nd (.dct _) os => OV.nosL os
  | .nd (.obj _ _) os => OV.nosL os
def OV.nosL : List OV → Bool
  | [] => true
  | o :: os => o.nos && OV.nosL os
end
section
variable {G : Gp} {R R' : Hp}
mutual
theorem Ow.toFo (s : Same R R') : ∀ {H v o A}, Ow G R H v o A → o.nos = true → (∀ b ∈ A, ∀ u, H b = some u → R' b = some u) → Ow G R' R' v o A
  | _, _, _, _, .fz h, _, _ => .fz (h.mono s)
  | _, _, _, _, .fo h, _, _ => .fo ((h.mono s).frame (frz_same s) fun b _ o q => s b o q)
  | _, _, _, _, .nd (k := k) n l, e, f => by
    cases n with
    | lst h => exact .nd (.lst (f _ (by simp) _ h)) (OwL.toFo s l (by simpa [OV.nos] using e) fun b hb => f b (List.mem_append_right _ hb))
    | dct h k => exact .nd (.dct (f _ (by simp) _ h) (k.mono s)) (OwL.toFo s l (by simpa [OV.nos] using e) fun b hb => f b (List.mem_append_right _ hb))
    | obj h1 h2 h3 => exact .nd (.obj (f _ (by simp) _ h1) (f _ (by simp) _ h2) h3) (OwL.toFo s l (by simpa [OV.nos] using e) fun b hb => f b (List.mem_append_right _ hb))
    | scr h => simp [OV.nos] at e
theorem OwL.toFo (s : Same R R') : ∀ {H vs os A}, OwL G R H vs os A → OV.nosL os = true → (∀ b ∈ A, ∀ u, H b = some u → R' b = some u) → OwL G R' R' vs os A
  | _, _, _, _, .nil, _, _ => .nil
  | _, _, _, _, .cons h l, e, f => by
    rw [OV.nosL, Bool.and_eq_true] at e
    exact .cons (Ow.toFo s h e.1 fun b hb => f b (List.mem_append_left _ hb)) (OwL.toFo s l e.2 fun b hb => f b (List.mem_append_right _ hb))
end
end
end Qz
namespace Qz
open PySem PySem.Spec PyProof.Rows L2
section
variable {G : Gp} {R R' H H' : Hp}
/-! ### lists of owned values -/
theorem OwL.append : ∀ {vs os A ws ps B}, OwL G R H vs os A → OwL G R H ws ps B → OwL G R H (vs ++ ws) (os ++ ps) (A ++ B)
  | _, _, _, _, _, _, .nil, s => s
  | _, _, _, _, _, B, .cons (A := A1) (B := B1) h l, s => by
    have := OwL.cons h (OwL.append l s)
    rw [← List.append_assoc] at this
    exact this
theorem OwL.one {v o A} (h : Ow G R H v o A) : OwL G R H [v] [o] A := by
  have := OwL.cons h (.nil (G := G) (R := R) (H := H))
  rwa [List.append_nil] at this
theorem OwL.one' {v o A} (h : OwL G R H [v] [o] A) : Ow G R H v o A := by
  cases h with
  | cons h l => cases l; rwa [List.append_nil]
theorem OwL.split : ∀ {vs ws : List V} {os ps : List OV} {A}, OwL G R H (vs ++ ws) (os ++ ps) A → vs.length = os.length → ∃ A1 A2, OwL G R H vs os A1 ∧ OwL G R H ws ps A2 ∧ A = A1 ++ A2
  | [], ws, [], ps, A, h, _ => ⟨[], A, .nil, h, rfl⟩
  | [], _, _ :: _, _, _, _, e => by simp at e
  | _ :: _, _, [], _, _, _, e => by simp at e
  | v :: vs, ws, o :: os, ps, A, h, e => by
    cases h with
    | cons h l =>
      obtain ⟨A1, A2, h1, h2, rfl⟩ := OwL.split l (by simpa using e)
      exact ⟨_, A2, .cons h h1, h2, by rw [List.append_assoc]⟩
theorem OwL.get {vs os A} (h : OwL G R H vs os A) {j : Nat} {o : OV} (e : os[j]? = some o) : ∃ v A1 A2 A3, vs[j]? = some v ∧ Ow G R H v o A2 ∧ A = A1 ++ (A2 ++ A3) ∧ OwL G R H (vs.take j) (os.take j) A1 ∧ OwL G R H (vs.drop (j + 1)) (os.drop (j + 1)) A3 := by
  have hj : j < os.length := (List.getElem?_eq_some_iff.mp e).1
  have hv : j < vs.length := by rw [h.length]; exact hj
  have eo : os[j] = o := (List.getElem?_eq_some_iff.mp e).2
  have e1 : vs = vs.take j ++ (vs[j] :: vs.drop (j + 1)) := by simp
  have e2 : os = os.take j ++ (o :: os.drop (j + 1)) := by rw [← eo]; simp
  rw [e1, e2] at h
  obtain ⟨A1, A2, h1, h2, rfl⟩ := h.split (by simp; omega)
  cases h2 with
  | cons h2 h3 => exact ⟨vs[j], A1, _, _, List.getElem?_eq_getElem hv, h2, rfl, h1, h3⟩
theorem OwL.nth : ∀ {vs : List V} {os : List OV} {A} {j : Nat} {v : V}, OwL G R H vs os A → vs[j]? = some v → ∃ o, os[j]? = some o
  | vs, os, A, j, v, h, e => by
    have hj : j < vs.length := (List.getElem?_eq_some_iff.mp e).1
    rw [h.length] at hj
    exact ⟨os[j], List.getElem?_eq_getElem hj⟩
/-- frozen children alone -/
def frs : List OV → Option (List PyData)
  | [] => some []
  | .fz d :: os => (frs os).map (d :: ·)
  | _ :: _ => none
theorem frs_map (ds : List PyData) : frs (ds.map .fz) = some ds := by
  induction ds with
  | nil => rfl
  | cons d ds ih => simp [frs, ih]
theorem frs_eq : ∀ {os : List OV} {ds : List PyData}, frs os = some ds → os = ds.map .fz
  | [], ds, e => by simp [frs] at e; subst e; rfl
  | .fz d :: os, ds, e => by
    rw [frs] at e
    obtain ⟨es, e1, rfl⟩ := Option.map_eq_some_iff.mp e
    rw [frs_eq e1]; rfl
  | .nd k l :: os, ds, e => by simp [frs] at e
  | .fo o :: os, ds, e => by simp [frs] at e
theorem OwL.frs : ∀ {vs : List V} {ds : List PyData} {A}, OwL G R H vs (ds.map .fz) A → RpL R vs ds ∧ A = []
  | [], [], _, .nil => ⟨.nil, rfl⟩
  | _, d :: ds, _, .cons (.fz h) l => by
    obtain ⟨r, e⟩ := OwL.frs (ds := ds) l
    exact ⟨.cons h r, by simp [e]⟩
theorem OwL.of_rp : ∀ {vs : List V} {ds : List PyData}, RpL R vs ds → OwL G R H vs (ds.map .fz) []
  | _, _, .nil => .nil
  | _, _, .cons h r => .cons (A := []) (.fz h) (OwL.of_rp r)

/-! ### the relation -/
/-- what is kept: bo, what arguments may read; fm, all that is kept -/
structure Fr where
  bo : Hp
  fm : Hp
  sub : Same bo fm
instance : CoeFun Fr (fun _ => Addr → Option HO) := ⟨Fr.fm⟩
/-- F, and what is frozen -/
def un (F R : Hp) : Hp := fun a => match F a with
  | some u => some u
  | none => R a
theorem un_same {F R R' : Hp} (s : Same R R') : Same (un F R) (un F R') := fun a u q => by
  unfold un at q ⊢
  split at q
  · exact q
  · exact s a u q
theorem un_to {F R H : Hp} (f : Same F H) (s : Same R H) : Same (un F R) H := fun a u q => by
  unfold un at q
  split at q
  · rename_i u' e; cases q; exact f a _ e
  · exact s a u q
theorem un_F {F R : Hp} : Same F (un F R) := fun a u q => by unfold un; rw [q]
theorem un_R {F R : Hp} (d : ∀ a o, F a = some o → R a = none) : Same R (un F R) := fun a u q => by
  unfold un
  split
  · rename_i u' e; rw [d a _ e] at q; cases q
  · exact q
theorem un_mono {F F' R : Hp} (s : Same F F') (d : ∀ a o, F' a = some o → R a = none) : Same (un F R) (un F' R) := un_to (s.trans un_F) (un_R d)
def SlotOk (G : Gp) (R : Hp) (Fm : Fr) (H : Hp) (n : Nat) (vals : List (Option V)) (i : Nat) (A : List Addr) : SV → Prop
  | .no => A = []
  | .ow o => ∃ v, vals[i]? = some (some v) ∧ Ow G R H v o A
  | .bo o => A = [] ∧ ∃ v B, vals[i]? = some (some v) ∧ Ow G R (un Fm.bo R) v o B
  | .fb o => A = [] ∧ ∃ v B, vals[i]? = some (some v) ∧ Ow G R R v o B
  | .rf k => A = [] ∧ k < n ∧ ∃ v, vals[i]? = some (some v) ∧ vals[k]? = some (some v)
/-- its: slots, cells, temporaries; vals: their values; R: what is frozen; Fm: what is kept for others; ws, ps: a bundle in hand -/
structure RelX (G : Gp) (n : Nat) (R : Hp) (Fm : Fr) (its : List SV) (vals : List (Option V)) (H : Hp) (ws : List V) (ps : List OV) : Prop where
  len : its.length = vals.length
  rh : Same R H
  fh : Same Fm.fm H
  dj : (∀ a o, Fm a = some o → R a = none) ∧ ∀ a o u, R a ≠ some (.frz o u)
  ex : ∃ (fp : Nat → List Addr) (B : List Addr), (∀ i sv, its[i]? = some sv → SlotOk G R Fm H n vals i (fp i) sv) ∧ (∀ i, its.length ≤ i → fp i = []) ∧ (∀ i, (fp i).Nodup) ∧
    (∀ i j a, a ∈ fp i → a ∈ fp j → i = j) ∧ (∀ i a, a ∈ fp i → R a = none ∧ Fm a = none) ∧ OwL G R H ws ps B ∧ B.Nodup ∧ (∀ a ∈ B, R a = none ∧ Fm a = none ∧ ∀ i, a ∉ fp i)
abbrev Rel (G : Gp) (n : Nat) (R : Hp) (Fm : Fr) (its : List SV) (vals : List (Option V)) (H : Hp) : Prop := RelX G n R Fm its vals H [] []
end
section
variable {G : Gp} {n : Nat} {R H : Hp} {Fm : Fr} {its : List SV} {vals : List (Option V)} {ws : List V} {ps : List OV}
/-- the bundle dropped, or a part of it -/
theorem RelX.weak (x : RelX G n R Fm its vals H ws ps) : Rel G n R Fm its vals H := by
  obtain ⟨fp, B, h1, h2, h3, h4, h5, _⟩ := x.ex
  exact ⟨x.len, x.rh, x.fh, x.dj, fp, [], h1, h2, h3, h4, h5, .nil, List.nodup_nil, fun a h => by simp at h⟩
/-- gather: owned items at the end come into the bundle's front -/
theorem RelX.gather {v : V} {o : OV} (x : RelX G n R Fm (its ++ [.ow o]) (vals ++ [some v]) H ws ps) (hn : n ≤ its.length) : RelX G n R Fm its vals H (v :: ws) (o :: ps) := by
  obtain ⟨fp, B, h1, h2, h3, h4, h5, h6, h7, h8⟩ := x.ex
  have hl : its.length = vals.length := by have := x.len; simp at this; exact this
  obtain ⟨v', hv, ho⟩ := h1 its.length (.ow o) (by simp)
  have ev : v' = v := by rw [hl] at hv; simp at hv; exact hv.symm
  subst ev
  refine ⟨hl, x.rh, x.fh, x.dj, fun i => if i < its.length then fp i else [], fp its.length ++ B, fun i sv e => ?_, fun i hi => by simp only; rw [if_neg (by omega)], fun i => ?_, fun i j a hi hj => ?_, fun i a hi => ?_, .cons ho h6, ?_, fun a ha => ?_⟩
  · have hi : i < its.length := (List.getElem?_eq_some_iff.mp e).1
    have q := h1 i sv (by rw [List.getElem?_append_left hi]; exact e)
    simp only [if_pos hi]
    have lk : ∀ j, j < its.length → (vals ++ [some v'])[j]? = vals[j]? := fun j hj => List.getElem?_append_left (by omega)
    cases sv with
    | no => exact q
    | ow o => obtain ⟨v, e1, e2⟩ := q; exact ⟨v, by rw [← lk i hi]; exact e1, e2⟩
    | bo o => obtain ⟨e0, v, B, e1, e2⟩ := q; exact ⟨e0, v, B, by rw [← lk i hi]; exact e1, e2⟩
    | fb o => obtain ⟨e0, v, B, e1, e2⟩ := q; exact ⟨e0, v, B, by rw [← lk i hi]; exact e1, e2⟩
    | rf k => obtain ⟨e0, hk, v, e1, e2⟩ := q; exact ⟨e0, hk, v, by rw [← lk i hi]; exact e1, by rw [← lk k (by omega)]; exact e2⟩
  · simp only; split
    · exact h3 i
    · exact List.nodup_nil
  · simp only at hi hj
    split at hi
    · split at hj
      · exact h4 i j a hi hj
      · simp at hj
    · simp at hi
  · simp only at hi
    split at hi
    · exact h5 i a hi
    · simp at hi
  · refine List.nodup_append.mpr ⟨h3 _, h7, fun a ha b hb e => ?_⟩
    subst e
    exact (h8 a hb).2.2 _ ha
  · rcases List.mem_append.mp ha with ha | ha
    · refine ⟨(h5 _ a ha).1, (h5 _ a ha).2, fun i hi => ?_⟩
      simp only at hi
      split at hi
      · have := h4 i _ a hi ha; omega
      · simp at hi
    · refine ⟨(h8 a ha).1, (h8 a ha).2.1, fun i hi => ?_⟩
      simp only at hi
      split at hi
      · exact (h8 a ha).2.2 i hi
      · simp at hi
/-- the bundle's front goes back to the items -/
theorem RelX.scatter {v : V} {o : OV} (x : RelX G n R Fm its vals H (v :: ws) (o :: ps)) : RelX G n R Fm (its ++ [.ow o]) (vals ++ [some v]) H ws ps := by
  obtain ⟨fp, B, h1, h2, h3, h4, h5, h6, h7, h8⟩ := x.ex
  cases h6 with
  | cons ho h6 =>
    rename_i A B
    have nd := List.nodup_append.mp h7
    refine ⟨by simp [x.len], x.rh, x.fh, x.dj, fun i => if i = its.length then A else fp i, B, fun i sv e => ?_, fun i hi => ?_, fun i => ?_, fun i j a hi hj => ?_, fun i a hi => ?_, h6, nd.2.1, fun a ha => ?_⟩
    · have lk : ∀ j y, vals[j]? = some y → (vals ++ [some v])[j]? = some y := fun j y e => by rw [List.getElem?_append_left (List.getElem?_eq_some_iff.mp e).1]; exact e
      by_cases hi : i = its.length
      · subst hi
        simp at e
        subst e
        simp only [if_pos rfl]
        exact ⟨v, by rw [x.len]; simp, ho⟩
      · have hlt : i < its.length := by
          have := (List.getElem?_eq_some_iff.mp e).1
          simp at this; omega
        rw [List.getElem?_append_left hlt] at e
        have q := h1 i sv e
        simp only [if_neg hi]
        cases sv with
        | no => exact q
        | ow o => obtain ⟨v, e1, e2⟩ := q; exact ⟨v, lk _ _ e1, e2⟩
        | bo o => obtain ⟨e0, v, B, e1, e2⟩ := q; exact ⟨e0, v, B, lk _ _ e1, e2⟩
        | fb o => obtain ⟨e0, v, B, e1, e2⟩ := q; exact ⟨e0, v, B, lk _ _ e1, e2⟩
        | rf k => obtain ⟨e0, hk, v, e1, e2⟩ := q; exact ⟨e0, hk, v, lk _ _ e1, lk _ _ e2⟩
    · simp at hi
      simp only
      rw [if_neg (by omega)]; exact h2 i (by omega)
    · simp only; split
      · exact nd.1
      · exact h3 i
    · simp only at hi hj
      by_cases ei : i = its.length <;> by_cases ej : j = its.length
      · rw [ei, ej]
      · rw [if_pos ei] at hi; rw [if_neg ej] at hj
        exact absurd hj ((h8 a (List.mem_append_left _ hi)).2.2 j)
      · rw [if_neg ei] at hi; rw [if_pos ej] at hj
        exact absurd hi ((h8 a (List.mem_append_left _ hj)).2.2 i)
      · rw [if_neg ei] at hi; rw [if_neg ej] at hj
        exact h4 i j a hi hj
    · simp only at hi
      split at hi
      · exact ⟨(h8 a (List.mem_append_left _ hi)).1, (h8 a (List.mem_append_left _ hi)).2.1⟩
      · exact h5 i a hi
    · refine ⟨(h8 a (List.mem_append_right _ ha)).1, (h8 a (List.mem_append_right _ ha)).2.1, fun i hi => ?_⟩
      simp only at hi
      split at hi
      · exact nd.2.2 a hi a ha rfl
      · exact (h8 a (List.mem_append_right _ ha)).2.2 i hi
/-- items at the end dropped -/
theorem RelX.drop1 {v : Option V} {sv : SV} (x : RelX G n R Fm (its ++ [sv]) (vals ++ [v]) H ws ps) (hn : n ≤ its.length) : RelX G n R Fm its vals H ws ps := by
  obtain ⟨fp, B, h1, h2, h3, h4, h5, h6, h7, h8⟩ := x.ex
  have hl : its.length = vals.length := by have := x.len; simp at this; exact this
  refine ⟨hl, x.rh, x.fh, x.dj, fun i => if i < its.length then fp i else [], B, fun i sv e => ?_, fun i hi => by simp only; rw [if_neg (by omega)], fun i => ?_, fun i j a hi hj => ?_, fun i a hi => ?_, h6, h7, fun a ha => ⟨(h8 a ha).1, (h8 a ha).2.1, fun i hi => ?_⟩⟩
  · have hi : i < its.length := (List.getElem?_eq_some_iff.mp e).1
    have q := h1 i sv (by rw [List.getElem?_append_left hi]; exact e)
    simp only [if_pos hi]
    have lk : ∀ j, j < its.length → (vals ++ [v])[j]? = vals[j]? := fun j hj => List.getElem?_append_left (by omega)
    cases sv with
    | no => exact q
    | ow o => obtain ⟨v, e1, e2⟩ := q; exact ⟨v, by rw [← lk i hi]; exact e1, e2⟩
    | bo o => obtain ⟨e0, v, B, e1, e2⟩ := q; exact ⟨e0, v, B, by rw [← lk i hi]; exact e1, e2⟩
    | fb o => obtain ⟨e0, v, B, e1, e2⟩ := q; exact ⟨e0, v, B, by rw [← lk i hi]; exact e1, e2⟩
    | rf k => obtain ⟨e0, hk, v, e1, e2⟩ := q; exact ⟨e0, hk, v, by rw [← lk i hi]; exact e1, by rw [← lk k (by omega)]; exact e2⟩
  · simp only; split
    · exact h3 i
    · exact List.nodup_nil
  · simp only at hi hj
    split at hi
    · split at hj
      · exact h4 i j a hi hj
      · simp at hj
    · simp at hi
  · simp only at hi
    split at hi
    · exact h5 i a hi
    · simp at hi
  · simp only at hi
    split at hi
    · exact (h8 a ha).2.2 i hi
    · simp at hi
/-- an item without footprint is put at the end -/
theorem RelX.pushA {v : V} {sv : SV} (x : RelX G n R Fm its vals H ws ps) (h : SlotOk G R Fm H n (vals ++ [some v]) its.length [] sv) : RelX G n R Fm (its ++ [sv]) (vals ++ [some v]) H ws ps := by
  obtain ⟨fp, B, h1, h2, h3, h4, h5, h6, h7, h8⟩ := x.ex
  refine ⟨by simp [x.len], x.rh, x.fh, x.dj, fp, B, fun i sv' e => ?_, fun i hi => h2 i (by simp at hi; omega), h3, h4, h5, h6, h7, h8⟩
  have lk : ∀ j y, vals[j]? = some y → (vals ++ [some v])[j]? = some y := fun j y e => by rw [List.getElem?_append_left (List.getElem?_eq_some_iff.mp e).1]; exact e
  by_cases hi : i = its.length
  · subst hi
    simp at e
    subst e
    rw [h2 _ (Nat.le_refl _)]
    exact h
  · have hlt : i < its.length := by
      have := (List.getElem?_eq_some_iff.mp e).1
      simp at this; omega
    rw [List.getElem?_append_left hlt] at e
    have q := h1 i sv' e
    cases sv' with
    | no => exact q
    | ow o => obtain ⟨v, e1, e2⟩ := q; exact ⟨v, lk _ _ e1, e2⟩
    | bo o => obtain ⟨e0, v, B, e1, e2⟩ := q; exact ⟨e0, v, B, lk _ _ e1, e2⟩
    | fb o => obtain ⟨e0, v, B, e1, e2⟩ := q; exact ⟨e0, v, B, lk _ _ e1, e2⟩
    | rf k => obtain ⟨e0, hk, v, e1, e2⟩ := q; exact ⟨e0, hk, v, lk _ _ e1, lk _ _ e2⟩
theorem RelX.pushFz {v : V} {d : PyData} (x : RelX G n R Fm its vals H ws ps) (h : Rp R v d) : RelX G n R Fm (its ++ [.ow (.fz d)]) (vals ++ [some v]) H ws ps :=
  x.pushA ⟨v, by rw [x.len]; simp, .fz h⟩
theorem RelX.pushRf {v : V} {k : Nat} (x : RelX G n R Fm its vals H ws ps) (hk : k < n) (e : vals[k]? = some (some v)) : RelX G n R Fm (its ++ [.rf k]) (vals ++ [some v]) H ws ps :=
  x.pushA ⟨rfl, hk, v, by rw [x.len]; simp, by rw [List.getElem?_append_left (List.getElem?_eq_some_iff.mp e).1]; exact e⟩
/-- the bundle gets frozen data in front -/
theorem RelX.consFz {v : V} {d : PyData} (x : RelX G n R Fm its vals H ws ps) (h : Rp R v d) : RelX G n R Fm its vals H (v :: ws) (.fz d :: ps) := by
  obtain ⟨fp, B, h1, h2, h3, h4, h5, h6, h7, h8⟩ := x.ex
  exact ⟨x.len, x.rh, x.fh, x.dj, fp, B, h1, h2, h3, h4, h5, .cons (A := []) (.fz h) h6, h7, h8⟩
end
end Qz
namespace Qz
open PySem PySem.Spec PyProof.Rows L2
section
variable {G : Gp} {n : Nat} {R H H' : Hp} {Fm : Fr} {its : List SV} {vals : List (Option V)} {ws : List V} {ps : List OV}
theorem SlotOk.mono {R' : Hp} {i : Nat} {A : List Addr} {sv : SV} (s : Same R R') (h : SlotOk G R Fm H n vals i A sv) : SlotOk G R' Fm H n vals i A sv := by
  cases sv with
  | no => exact h
  | ow o => obtain ⟨v, e1, e2⟩ := h; exact ⟨v, e1, e2.mono s⟩
  | bo o => obtain ⟨e0, v, B, e1, e2⟩ := h; exact ⟨e0, v, B, e1, (e2.mono s).frame (frz_same (un_same s)) fun b _ o q => un_same s b o q⟩
  | fb o => obtain ⟨e0, v, B, e1, e2⟩ := h; exact ⟨e0, v, B, e1, (e2.mono s).frame (frz_same s) fun b _ o q => s b o q⟩
  | rf k => exact h
theorem SlotOk.frame {i : Nat} {A : List Addr} {sv : SV} (z : Frz H H') (h : SlotOk G R Fm H n vals i A sv) (f : ∀ b ∈ A, ∀ o, H b = some o → H' b = some o) : SlotOk G R Fm H' n vals i A sv := by
  cases sv with
  | no => exact h
  | ow o => obtain ⟨v, e1, e2⟩ := h; exact ⟨v, e1, e2.frame z f⟩
  | bo o => exact h
  | fb o => exact h
  | rf k => exact h
/-- the heap grows -/
theorem RelX.grow (x : RelX G n R Fm its vals H ws ps) (s : Same H H') : RelX G n R Fm its vals H' ws ps := by
  obtain ⟨fp, B, h1, h2, h3, h4, h5, h6, h7, h8⟩ := x.ex
  exact ⟨x.len, x.rh.trans s, x.fh.trans s, x.dj, fp, B, fun i sv e => (h1 i sv e).frame (frz_same s) fun b _ o q => s b o q, h2, h3, h4, h5, h6.frame (frz_same s) fun b _ o q => s b o q, h7, h8⟩
theorem same_upd {H : Hp} {p : Addr} {o : HO} (h : H p = none) : Same H (upd H p o) := fun b x e => by
  rw [upd_ne (ne_of_none e h)]
  exact e
theorem SlotOk.live {i : Nat} {A : List Addr} {sv : SV} (h : SlotOk G R Fm H n vals i A sv) : ∀ b ∈ A, ∃ o, H b = some o := by
  cases sv with
  | no => intro b hb; rw [show A = [] from h] at hb; simp at hb
  | ow o => obtain ⟨v, e1, e2⟩ := h; exact e2.live
  | bo o => intro b hb; rw [h.1] at hb; simp at hb
  | fb o => intro b hb; rw [h.1] at hb; simp at hb
  | rf k => intro b hb; rw [h.1] at hb; simp at hb
/-- a content -/
def conI (its : List SV) (k : Nat) : Option OV := match its[k]? with
  | some (.ow o) => some o
  | some (.bo o) => some o
  | some (.fb o) => some o
  | _ => none
def con (L : List SV) : SV → Option OV
  | .ow o => some o
  | .rf k => conI L k
  | _ => none
theorem RelX.conI (x : RelX G n R Fm its vals H ws ps) {k : Nat} {o : OV} (e : conI its k = some o) : ∃ v A, vals[k]? = some (some v) ∧ Ow G R H v o A := by
  obtain ⟨fp, B, h1, _⟩ := x.ex
  unfold Qz.conI at e
  split at e
  · rename_i o' q
    cases e
    obtain ⟨v, e1, e2⟩ := h1 k _ q
    exact ⟨v, _, e1, e2⟩
  · rename_i o' q
    cases e
    obtain ⟨_, v, B, e1, e2⟩ := h1 k _ q
    exact ⟨v, B, e1, e2.frame (frz_same (un_to (Fm.sub.trans x.fh) x.rh)) fun b _ o q => un_to (Fm.sub.trans x.fh) x.rh b o q⟩
  · rename_i o' q
    cases e
    obtain ⟨_, v, B, e1, e2⟩ := h1 k _ q
    exact ⟨v, B, e1, e2.frame (frz_same x.rh) fun b _ o q => x.rh b o q⟩
  · cases e
/-- the content of the item at i; L is the part that aliases speak of -/
theorem RelX.con (x : RelX G n R Fm its vals H ws ps) {L : List SV} {i : Nat} {r : SV} {o : OV} (hi : its[i]? = some r) (hL : ∀ k, k < n → its[k]? = L[k]?) (e : con L r = some o) : ∃ v A, vals[i]? = some (some v) ∧ Ow G R H v o A := by
  cases r with
  | no => simp [Qz.con] at e
  | ow o' =>
    simp only [Qz.con, Option.some.injEq] at e
    subst e
    exact x.conI (by unfold Qz.conI; rw [hi])
  | bo o' => simp [Qz.con] at e
  | fb o' => simp [Qz.con] at e
  | rf k =>
    obtain ⟨fp, B, h1, _⟩ := x.ex
    obtain ⟨_, hk, v, e1, e2⟩ := h1 i _ hi
    have e' : Qz.conI its k = some o := by
      simp only [Qz.con, Qz.conI] at e ⊢
      rw [hL k hk]
      exact e
    obtain ⟨v', A, e3, h⟩ := x.conI e'
    rw [e2] at e3
    cases e3
    exact ⟨v, A, e1, h⟩
/-- the content of the last item -/
theorem RelX.conLast {L T : List SV} {vs : List (Option V)} {v : V} {r : SV} {o : OV} (x : RelX G n R Fm (L ++ T ++ [r]) (vs ++ [some v]) H ws ps) (hn : n = L.length) (e : Qz.con L r = some o) : ∃ A, Ow G R H v o A := by
  have hl : (L ++ T).length = vs.length := by have := x.len; simp at this ⊢; omega
  obtain ⟨v', A, e1, h⟩ := x.con (i := (L ++ T).length) (r := r) (by simp) (fun k hk => by rw [List.append_assoc, List.getElem?_append_left (by omega)]) e
  rw [hl] at e1
  simp at e1
  subst e1
  exact ⟨A, h⟩
theorem RelX.conLast2 {L T : List SV} {vs : List (Option V)} {v v2 : V} {r r2 : SV} {o : OV} (x : RelX G n R Fm (L ++ T ++ [r] ++ [r2]) (vs ++ [some v] ++ [some v2]) H ws ps) (hn : n = L.length) (e : Qz.con L r = some o) : ∃ A, Ow G R H v o A :=
  (x.drop1 (by simp; omega)).conLast hn e

/-! ### freezing -/
/-- the item at k, frozen -/
theorem RelX.freezeAt (x : RelX G n R Fm its vals H ws ps) {k : Nat} {o : OV} {d : PyData} (hk : its[k]? = some (.ow o)) (hd : o.dat = some d) : ∃ R', Same R R' ∧ RelX G n R' Fm (its.set k (.ow (.fz d))) vals H ws ps := by
  obtain ⟨fp, B, h1, h2, h3, h4, h5, h6, h7, h8⟩ := x.ex
  have hlt : k < its.length := (List.getElem?_eq_some_iff.mp hk).1
  obtain ⟨v, ev, ho⟩ := h1 k _ hk
  let R' : Hp := fun a => if a ∈ fp k then H a else R a
  have eq1 : ∀ a, a ∈ fp k → R' a = H a := fun a h => if_pos h
  have eq2 : ∀ a, a ∉ fp k → R' a = R a := fun a h => if_neg h
  have s : Same R R' := fun a u q => by
    rw [eq2 a fun h => by rw [(h5 k a h).1] at q; cases q]
    exact q
  have hr : Rp R' v d := ho.toRp s hd fun b hb u q => by rw [eq1 b hb]; exact q
  refine ⟨R', s, by simp [x.len], fun a u q => ?_, x.fh, ⟨fun a u q => ?_, fun a o u q => ?_⟩, fun i => if i = k then [] else fp i, B, fun i sv e => ?_, fun i hi => ?_, fun i => ?_, fun i j a hi hj => ?_, fun i a hi => ?_, h6.mono s, h7, fun a ha => ?_⟩
  · by_cases h : a ∈ fp k
    · rw [eq1 a h] at q; exact q
    · rw [eq2 a h] at q; exact x.rh a u q
  · rw [eq2 a fun h => by rw [(h5 k a h).2] at q; cases q]
    exact x.dj.1 a u q
  · by_cases h : a ∈ fp k
    · rw [eq1 a h] at q; exact ho.nofrz a h o u q
    · rw [eq2 a h] at q; exact x.dj.2 a o u q
  · by_cases hi : i = k
    · subst hi
      rw [List.getElem?_set_self hlt] at e
      cases e
      simp only [if_pos rfl]
      exact ⟨v, ev, .fz hr⟩
    · rw [List.getElem?_set_ne (Ne.symm hi)] at e
      simp only [if_neg hi]
      exact (h1 i sv e).mono s
  · simp at hi
    simp only
    rw [if_neg (by omega)]; exact h2 i hi
  · simp only; split
    · exact List.nodup_nil
    · exact h3 i
  · simp only at hi hj
    split at hi
    · simp at hi
    · split at hj
      · simp at hj
      · exact h4 i j a hi hj
  · simp only at hi
    split at hi
    · simp at hi
    · rename_i ne
      rw [eq2 a fun h => ne (h4 i k a hi h)]
      exact h5 i a hi
  · rw [eq2 a fun h => (h8 a ha).2.2 k h]
    refine ⟨(h8 a ha).1, (h8 a ha).2.1, fun i hi => ?_⟩
    simp only at hi
    split at hi
    · simp at hi
    · exact (h8 a ha).2.2 i hi
/-- the bundle, frozen -/
theorem RelX.freezeB (x : RelX G n R Fm its vals H ws ps) {ds : List PyData} (hd : OV.dats ps = some ds) : ∃ R', Same R R' ∧ RpL R' ws ds ∧ RelX G n R' Fm its vals H [] [] := by
  obtain ⟨fp, B, h1, h2, h3, h4, h5, h6, h7, h8⟩ := x.ex
  let R' : Hp := fun a => if a ∈ B then H a else R a
  have eq1 : ∀ a, a ∈ B → R' a = H a := fun a h => if_pos h
  have eq2 : ∀ a, a ∉ B → R' a = R a := fun a h => if_neg h
  have s : Same R R' := fun a u q => by
    rw [eq2 a fun h => by rw [(h8 a h).1] at q; cases q]
    exact q
  have hr : RpL R' ws ds := h6.toRp s hd fun b hb u q => by rw [eq1 b hb]; exact q
  refine ⟨R', s, hr, x.len, fun a u q => ?_, x.fh, ⟨fun a u q => ?_, fun a o u q => ?_⟩, fp, [], fun i sv e => (h1 i sv e).mono s, h2, h3, h4, fun i a hi => ?_, .nil, List.nodup_nil, fun a h => by simp at h⟩
  · by_cases h : a ∈ B
    · rw [eq1 a h] at q; exact q
    · rw [eq2 a h] at q; exact x.rh a u q
  · rw [eq2 a fun h => by rw [(h8 a h).2.1] at q; cases q]
    exact x.dj.1 a u q
  · by_cases h : a ∈ B
    · rw [eq1 a h] at q; exact h6.nofrz a h o u q
    · rw [eq2 a h] at q; exact x.dj.2 a o u q
  · rw [eq2 a fun h => (h8 a h).2.2 i hi]
    exact h5 i a hi

/-! ### new objects -/
theorem RelX.allocL (x : RelX G n R Fm its vals H ws ps) {p : Addr} (hp : H p = none) : RelX G n R Fm its vals (upd H p (.lst ws)) [.ref p] [.ls ps] := by
  have y := x.grow (same_upd (o := .lst ws) hp)
  obtain ⟨fp, B, h1, h2, h3, h4, h5, h6, h7, h8⟩ := x.ex
  obtain ⟨fp', B', k1, k2, k3, k4, k5, k6, k7, k8⟩ := y.ex
  have g1 : ∀ i sv, its[i]? = some sv → SlotOk G R Fm (upd H p (.lst ws)) n vals i (fp i) sv := fun i sv e => (h1 i sv e).frame (frz_same (same_upd hp)) fun b _ o q => same_upd hp b o q
  have nB : p ∉ B := fun h => by obtain ⟨o, q⟩ := h6.live p h; rw [hp] at q; cases q
  have nf : ∀ i, p ∉ fp i := fun i h => by
    by_cases hi : i < its.length
    · obtain ⟨o, q⟩ := (h1 i _ (List.getElem?_eq_getElem hi)).live p h
      rw [hp] at q; cases q
    · rw [h2 i (by omega)] at h; simp at h
  refine ⟨x.len, y.rh, y.fh, y.dj, fp, p :: B, g1, h2, h3, h4, h5, ?_, List.nodup_cons.mpr ⟨nB, h7⟩, fun a ha => ?_⟩
  · have q := OwL.one (Ow.nd (Nd.lst (G := G) (R := R) (H := upd H p (.lst ws)) (a := p) (vs := ws) upd_same) (h6.frame (frz_same (same_upd hp)) fun b _ o q => same_upd hp b o q))
    exact q
  · rcases List.mem_cons.mp ha with rfl | ha
    · refine ⟨?_, ?_, nf⟩
      · cases q : R a with
        | none => rfl
        | some u => rw [x.rh a u q] at hp; cases hp
      · cases q : Fm.fm a with
        | none => rfl
        | some u => rw [x.fh a u q] at hp; cases hp
    · exact h8 a ha
/-- a new frozen object: a tuple of frozen data -/
theorem RelX.allocT (x : RelX G n R Fm its vals H ws ps) {p : Addr} {ts : List V} {ds : List PyData} (hp : H p = none) (hr : RpL R ts ds) :
    Same R (upd R p (.tup ts)) ∧ RelX G n (upd R p (.tup ts)) Fm its vals (upd H p (.tup ts)) ws ps ∧ Rp (upd R p (.tup ts)) (.ref p) (.tuple ds) := by
  have hR : R p = none := by
    cases q : R p with
    | none => rfl
    | some u => rw [x.rh p u q] at hp; cases hp
  have hF : Fm.fm p = none := by
    cases q : Fm.fm p with
    | none => rfl
    | some u => rw [x.fh p u q] at hp; cases hp
  have s : Same R (upd R p (.tup ts)) := same_upd hR
  have sh : Same H (upd H p (.tup ts)) := same_upd hp
  obtain ⟨fp, B, h1, h2, h3, h4, h5, h6, h7, h8⟩ := x.ex
  have nB : p ∉ B := fun h => by obtain ⟨o, q⟩ := h6.live p h; rw [hp] at q; cases q
  have nf : ∀ i, p ∉ fp i := fun i h => by
    by_cases hi : i < its.length
    · obtain ⟨o, q⟩ := (h1 i _ (List.getElem?_eq_getElem hi)).live p h
      rw [hp] at q; cases q
    · rw [h2 i (by omega)] at h; simp at h
  refine ⟨s, ⟨x.len, fun a u q => ?_, x.fh.trans sh, ⟨fun a u q => ?_, fun a o u q => ?_⟩, fp, B, fun i sv e => ((h1 i sv e).mono s).frame (frz_same sh) fun b _ o q => sh b o q, h2, h3, h4, fun i a hi => ?_, (h6.mono s).frame (frz_same sh) fun b _ o q => sh b o q, h7, fun a ha => ?_⟩, .tup upd_same (hr.mono s)⟩
  · by_cases h : a = p
    · subst h; rw [upd_same] at q ⊢; exact q
    · rw [upd_ne h] at q ⊢; exact x.rh a u q
  · rw [upd_ne fun h => by subst h; rw [hF] at q; cases q]
    exact x.dj.1 a u q
  · by_cases h : a = p
    · subst h; rw [upd_same] at q; cases q
    · rw [upd_ne h] at q; exact x.dj.2 a o u q
  · rw [upd_ne fun h => by subst h; exact nf i hi]
    exact h5 i a hi
  · rw [upd_ne fun h => by subst h; exact nB ha]
    exact h8 a ha

/-! ### changes -/
/-- the list of the item at k gets other children, out of its own and the bundle's; the rest is the bundle -/
theorem RelX.mutL (x : RelX G n R Fm its vals H ws ps) {k : Nat} {os : List OV} (hk : its[k]? = some (.ow (.ls os))) :
    ∃ a vs, vals[k]? = some (some (.ref a)) ∧ H a = some (.lst vs) ∧ vs.length = os.length ∧ ∀ (vs' ws' : List V) (os' ps' : List OV),
      (∀ A B, OwL G R H vs os A → OwL G R H ws ps B → ∃ A' B' C, OwL G R H vs' os' A' ∧ OwL G R H ws' ps' B' ∧ (A ++ B).Perm (A' ++ (B' ++ C))) →
      RelX G n R Fm (its.set k (.ow (.ls os'))) vals (upd H a (.lst vs')) ws' ps' := by
  obtain ⟨fp, B, h1, h2, h3, h4, h5, h6, h7, h8⟩ := x.ex
  have hlt : k < its.length := (List.getElem?_eq_some_iff.mp hk).1
  obtain ⟨v, ev, ho⟩ := h1 k _ hk
  cases ea : fp k with
  | nil => rw [ea] at ho; generalize hz : ([] : List Addr) = z at ho; cases ho with | nd nn l => cases nn with | lst hh => simp at hz
  | cons a0 A0 =>
    rw [ea] at ho
    generalize hz : a0 :: A0 = z at ho
    cases ho with
    | nd nn l =>
      cases nn with
      | lst hh =>
        rename_i a vs A
        simp only [List.singleton_append, List.cons.injEq] at hz
        obtain ⟨rfl, rfl⟩ := hz
        refine ⟨a0, vs, ev, hh, l.length, fun vs' ws' os' ps' f => ?_⟩
        obtain ⟨A', B', C, g1, g2, pm⟩ := f A0 B l h6
        have ndk := h3 k
        rw [ea] at ndk
        obtain ⟨nA, ndA⟩ := List.nodup_cons.mp ndk
        have ak : a0 ∈ fp k := by rw [ea]; simp
        have nB : a0 ∉ B := fun h => (h8 a0 h).2.2 k ak
        have ndAB : (A0 ++ B).Nodup := List.nodup_append.mpr ⟨ndA, h7, fun a ha b hb e => by subst e; exact (h8 a hb).2.2 k (by rw [ea]; exact List.mem_cons_of_mem _ ha)⟩
        have nd' := (pm.nodup_iff).mp ndAB
        have ndA' := (List.nodup_append.mp nd').1
        have ndBC := (List.nodup_append.mp nd').2.1
        have mem : ∀ b, b ∈ A' ++ (B' ++ C) → b ∈ A0 ∨ b ∈ B := fun b hb => List.mem_append.mp (pm.mem_iff.mpr hb)
        have memA : ∀ b ∈ A', b ∈ A0 ∨ b ∈ B := fun b hb => mem b (List.mem_append_left _ hb)
        have memB : ∀ b ∈ B', b ∈ A0 ∨ b ∈ B := fun b hb => mem b (List.mem_append_right _ (List.mem_append_left _ hb))
        have nea : ∀ b, (b ∈ A0 ∨ b ∈ B) → b ≠ a0 := fun b hb e => by
          subst e
          exact hb.elim nA nB
        have fr : ∀ b, b ≠ a0 → ∀ o, H b = some o → upd H a0 (.lst vs') b = some o := fun b hb o q => by rw [upd_ne hb]; exact q
        have fz : Frz H (upd H a0 (.lst vs')) := fun b o u q => fr b (fun e => by subst e; rw [hh] at q; cases q) _ q
        have off : ∀ b, (b ∈ A0 ∨ b ∈ B) → R b = none ∧ Fm.fm b = none ∧ ∀ i, i ≠ k → b ∉ fp i := fun b hb => by
          rcases hb with hb | hb
          · have bk : b ∈ fp k := by rw [ea]; exact List.mem_cons_of_mem _ hb
            exact ⟨(h5 k b bk).1, (h5 k b bk).2, fun i hi h => hi (h4 i k b h bk)⟩
          · exact ⟨(h8 b hb).1, (h8 b hb).2.1, fun i _ => (h8 b hb).2.2 i⟩
        refine ⟨by simp [x.len], fun b u q => ?_, fun b u q => ?_, x.dj, fun i => if i = k then a0 :: A' else fp i, B', fun i sv e => ?_, fun i hi => ?_, fun i => ?_, fun i j b hi hj => ?_, fun i b hi => ?_, g2.frame fz fun b hb => fr b (nea b (memB b hb)), (List.nodup_append.mp ndBC).1, fun b hb => ?_⟩
        · exact fr b (fun e => by subst e; rw [(h5 k b ak).1] at q; cases q) u (x.rh b u q)
        · exact fr b (fun e => by subst e; rw [(h5 k b ak).2] at q; cases q) u (x.fh b u q)
        · by_cases hi : i = k
          · subst hi
            rw [List.getElem?_set_self hlt] at e
            cases e
            simp only [if_pos rfl]
            exact ⟨.ref a0, ev, Ow.nd (Nd.lst upd_same) (g1.frame fz fun b hb => fr b (nea b (memA b hb)))⟩
          · rw [List.getElem?_set_ne (Ne.symm hi)] at e
            simp only [if_neg hi]
            exact (h1 i sv e).frame fz fun b hb => fr b fun e => by subst e; exact hi (h4 i k b hb ak)
        · simp at hi
          simp only
          rw [if_neg (by omega)]; exact h2 i hi
        · simp only; split
          · exact List.nodup_cons.mpr ⟨fun h => nea a0 (memA a0 h) rfl, ndA'⟩
          · exact h3 i
        · simp only at hi hj
          by_cases ei : i = k <;> by_cases ej : j = k
          · rw [ei, ej]
          · rw [if_pos ei] at hi; rw [if_neg ej] at hj
            rcases List.mem_cons.mp hi with rfl | hi
            · exact absurd (h4 j k _ hj ak) ej
            · exact absurd hj ((off b (memA b hi)).2.2 j ej)
          · rw [if_neg ei] at hi; rw [if_pos ej] at hj
            rcases List.mem_cons.mp hj with rfl | hj
            · exact absurd (h4 i k _ hi ak) ei
            · exact absurd hi ((off b (memA b hj)).2.2 i ei)
          · rw [if_neg ei] at hi; rw [if_neg ej] at hj
            exact h4 i j b hi hj
        · simp only at hi
          split at hi
          · rcases List.mem_cons.mp hi with rfl | hi
            · exact h5 k _ ak
            · exact ⟨(off b (memA b hi)).1, (off b (memA b hi)).2.1⟩
          · exact h5 i b hi
        · refine ⟨(off b (memB b hb)).1, (off b (memB b hb)).2.1, fun i hi => ?_⟩
          simp only at hi
          split at hi
          · rcases List.mem_cons.mp hi with rfl | hi
            · exact nea b (memB b hb) rfl
            · have := (List.nodup_append.mp nd').2.2 b hi b (List.mem_append_left _ hb)
              exact this rfl
          · rename_i ne
            exact (off b (memB b hb)).2.2 i ne hi
/-- no item is an alias of k -/
def noRef (its : List SV) (k : Nat) : Bool := its.all fun sv => match sv with
  | .rf j => j != k
  | _ => true
theorem noRef_ne {its : List SV} {k i j : Nat} (h : noRef its k = true) (e : its[i]? = some (.rf j)) : j ≠ k := by
  have := List.all_eq_true.mp h _ (List.mem_of_getElem? e)
  simpa using this
/-- the slot k is stored: the bundle's front comes into it -/
theorem RelX.store (x : RelX G n R Fm its vals H (v :: ws) (o :: ps)) {k : Nat} (hk : k < its.length) (hr : noRef its k = true) : RelX G n R Fm (its.set k (.ow o)) (vals.set k (some v)) H ws ps := by
  obtain ⟨fp, B0, h1, h2, h3, h4, h5, h6, h7, h8⟩ := x.ex
  cases h6 with
  | cons ho h6 =>
    rename_i A B
    have nd := List.nodup_append.mp h7
    have hkv : k < vals.length := by rw [← x.len]; exact hk
    refine ⟨by simp [x.len], x.rh, x.fh, x.dj, fun i => if i = k then A else fp i, B, fun i sv e => ?_, fun i hi => ?_, fun i => ?_, fun i j a hi hj => ?_, fun i a hi => ?_, h6, nd.2.1, fun a ha => ?_⟩
    · by_cases hi : i = k
      · subst hi
        rw [List.getElem?_set_self hk] at e
        cases e
        simp only [if_pos rfl]
        exact ⟨v, by rw [List.getElem?_set_self hkv], ho⟩
      · rw [List.getElem?_set_ne (Ne.symm hi)] at e
        simp only [if_neg hi]
        have q := h1 i sv e
        have lk : ∀ j, j ≠ k → (vals.set k (some v))[j]? = vals[j]? := fun j hj => by rw [List.getElem?_set_ne (Ne.symm hj)]
        cases sv with
        | no => exact q
        | ow o => obtain ⟨v, e1, e2⟩ := q; exact ⟨v, by rw [lk i hi]; exact e1, e2⟩
        | bo o => obtain ⟨e0, v, B, e1, e2⟩ := q; exact ⟨e0, v, B, by rw [lk i hi]; exact e1, e2⟩
        | fb o => obtain ⟨e0, v, B, e1, e2⟩ := q; exact ⟨e0, v, B, by rw [lk i hi]; exact e1, e2⟩
        | rf j => obtain ⟨e0, hj, v, e1, e2⟩ := q; exact ⟨e0, hj, v, by rw [lk i hi]; exact e1, by rw [lk j (noRef_ne hr e)]; exact e2⟩
    · simp at hi
      simp only
      rw [if_neg (by omega)]; exact h2 i hi
    · simp only; split
      · exact nd.1
      · exact h3 i
    · simp only at hi hj
      by_cases ei : i = k <;> by_cases ej : j = k
      · rw [ei, ej]
      · rw [if_pos ei] at hi; rw [if_neg ej] at hj
        exact absurd hj ((h8 a (List.mem_append_left _ hi)).2.2 j)
      · rw [if_neg ei] at hi; rw [if_pos ej] at hj
        exact absurd hi ((h8 a (List.mem_append_left _ hj)).2.2 i)
      · rw [if_neg ei] at hi; rw [if_neg ej] at hj
        exact h4 i j a hi hj
    · simp only at hi
      split at hi
      · exact ⟨(h8 a (List.mem_append_left _ hi)).1, (h8 a (List.mem_append_left _ hi)).2.1⟩
      · exact h5 i a hi
    · refine ⟨(h8 a (List.mem_append_right _ ha)).1, (h8 a (List.mem_append_right _ ha)).2.1, fun i hi => ?_⟩
      simp only at hi
      split at hi
      · exact nd.2.2 a hi a ha rfl
      · exact (h8 a (List.mem_append_right _ ha)).2.2 i hi
/-- the slot k is forgotten; its value may be anything -/
theorem RelX.forget (x : RelX G n R Fm its vals H ws ps) {k : Nat} (hr : noRef its k = true) (v : Option V) : RelX G n R Fm (its.set k .no) (vals.set k v) H ws ps := by
  obtain ⟨fp, B, h1, h2, h3, h4, h5, h6, h7, h8⟩ := x.ex
  refine ⟨by simp [x.len], x.rh, x.fh, x.dj, fun i => if i = k then [] else fp i, B, fun i sv e => ?_, fun i hi => ?_, fun i => ?_, fun i j a hi hj => ?_, fun i a hi => ?_, h6, h7, fun a ha => ⟨(h8 a ha).1, (h8 a ha).2.1, fun i hi => ?_⟩⟩
  · by_cases hi : i = k
    · subst hi
      have hlt : i < its.length := by
        have := (List.getElem?_eq_some_iff.mp e).1
        simpa using this
      rw [List.getElem?_set_self hlt] at e
      cases e
      simp only [if_pos rfl]
      rfl
    · rw [List.getElem?_set_ne (Ne.symm hi)] at e
      simp only [if_neg hi]
      have q := h1 i sv e
      have lk : ∀ j, j ≠ k → (vals.set k v)[j]? = vals[j]? := fun j hj => by rw [List.getElem?_set_ne (Ne.symm hj)]
      cases sv with
      | no => exact q
      | ow o => obtain ⟨v, e1, e2⟩ := q; exact ⟨v, by rw [lk i hi]; exact e1, e2⟩
      | bo o => obtain ⟨e0, v, B, e1, e2⟩ := q; exact ⟨e0, v, B, by rw [lk i hi]; exact e1, e2⟩
      | fb o => obtain ⟨e0, v, B, e1, e2⟩ := q; exact ⟨e0, v, B, by rw [lk i hi]; exact e1, e2⟩
      | rf j => obtain ⟨e0, hj, v, e1, e2⟩ := q; exact ⟨e0, hj, v, by rw [lk i hi]; exact e1, by rw [lk j (noRef_ne hr e)]; exact e2⟩
  · simp at hi
    simp only
    split
    · rfl
    · exact h2 i hi
  · simp only; split
    · exact List.nodup_nil
    · exact h3 i
  · simp only at hi hj
    split at hi
    · simp at hi
    · split at hj
      · simp at hj
      · exact h4 i j a hi hj
  · simp only at hi
    split at hi
    · simp at hi
    · exact h5 i a hi
  · simp only at hi
    split at hi
    · simp at hi
    · exact (h8 a ha).2.2 i hi
/-- an owned slot is moved out into the bundle -/
theorem RelX.moveOut (x : RelX G n R Fm its vals H ws ps) {k : Nat} {o : OV} (hk : its[k]? = some (.ow o)) : ∃ v, vals[k]? = some (some v) ∧ RelX G n R Fm (its.set k .no) vals H (v :: ws) (o :: ps) := by
  obtain ⟨fp, B, h1, h2, h3, h4, h5, h6, h7, h8⟩ := x.ex
  obtain ⟨v, ev, ho⟩ := h1 k _ hk
  have hlt : k < its.length := (List.getElem?_eq_some_iff.mp hk).1
  refine ⟨v, ev, by simp [x.len], x.rh, x.fh, x.dj, fun i => if i = k then [] else fp i, fp k ++ B, fun i sv e => ?_, fun i hi => ?_, fun i => ?_, fun i j a hi hj => ?_, fun i a hi => ?_, .cons ho h6, List.nodup_append.mpr ⟨h3 k, h7, fun a ha b hb e => by subst e; exact (h8 a hb).2.2 k ha⟩, fun a ha => ?_⟩
  · by_cases hi : i = k
    · subst hi
      rw [List.getElem?_set_self hlt] at e
      cases e
      simp only [if_pos rfl]
      rfl
    · rw [List.getElem?_set_ne (Ne.symm hi)] at e
      simp only [if_neg hi]
      exact h1 i sv e
  · simp at hi
    simp only
    split
    · rfl
    · exact h2 i hi
  · simp only; split
    · exact List.nodup_nil
    · exact h3 i
  · simp only at hi hj
    split at hi
    · simp at hi
    · split at hj
      · simp at hj
      · exact h4 i j a hi hj
  · simp only at hi
    split at hi
    · simp at hi
    · exact h5 i a hi
  · rcases List.mem_append.mp ha with ha | ha
    · refine ⟨(h5 k a ha).1, (h5 k a ha).2, fun i hi => ?_⟩
      simp only at hi
      split at hi
      · simp at hi
      · rename_i ne; exact ne (h4 i k a hi ha)
    · refine ⟨(h8 a ha).1, (h8 a ha).2.1, fun i hi => ?_⟩
      simp only at hi
      split at hi
      · simp at hi
      · exact (h8 a ha).2.2 i hi
/-- items without footprint exchanged -/
theorem RelX.reA {its' : List SV} (x : RelX G n R Fm its vals H ws ps) (hl : its'.length = its.length) (h : ∀ (i : Nat) sv, its'[i]? = some sv → its[i]? = some sv ∨ ((its[i]? = some .no ∨ ∃ k, its[i]? = some (.rf k)) ∧ SlotOk G R Fm H n vals i [] sv)) : RelX G n R Fm its' vals H ws ps := by
  obtain ⟨fp, B, h1, h2, h3, h4, h5, h6, h7, h8⟩ := x.ex
  refine ⟨by rw [hl]; exact x.len, x.rh, x.fh, x.dj, fp, B, fun i sv e => ?_, fun i hi => h2 i (by omega), h3, h4, h5, h6, h7, h8⟩
  rcases h i sv e with q | ⟨q | ⟨k, q⟩, r⟩
  · exact h1 i sv q
  · rw [show fp i = [] from h1 i _ q]; exact r
  · rw [(h1 i _ q).1]; exact r
/-- a frozen tree is stored -/
theorem RelX.storeFb (x : RelX G n R Fm its vals H ws ps) {k : Nat} {v : V} {o : OV} {B : List Addr} (hk : k < its.length) (hr : noRef its k = true) (h : Ow G R R v o B) : RelX G n R Fm (its.set k (.fb o)) (vals.set k (some v)) H ws ps := by
  have hkv : k < vals.length := by rw [← x.len]; exact hk
  refine (x.forget hr (some v)).reA (by simp) fun i sv e => ?_
  by_cases hi : i = k
  · subst hi
    rw [List.getElem?_set_self hk] at e
    cases e
    exact .inr ⟨.inl (by rw [List.getElem?_set_self hk]), rfl, v, B, by rw [List.getElem?_set_self hkv], h⟩
  · rw [List.getElem?_set_ne (Ne.symm hi)] at e
    exact .inl (by rw [List.getElem?_set_ne (Ne.symm hi)]; exact e)
/-- the bundle's first tree, frozen as it is -/
theorem RelX.freezeO {v : V} {o : OV} (x : RelX G n R Fm its vals H (v :: ws) (o :: ps)) (hd : o.nos = true) : ∃ R' A, Same R R' ∧ Ow G R' R' v o A ∧ RelX G n R' Fm its vals H ws ps := by
  obtain ⟨fp, B0, h1, h2, h3, h4, h5, h6, h7, h8⟩ := x.ex
  cases h6 with
  | cons ho h6 =>
  rename_i A B
  have nd := List.nodup_append.mp h7
  let R' : Hp := fun a => if a ∈ A then H a else R a
  have eq1 : ∀ a, a ∈ A → R' a = H a := fun a h => if_pos h
  have eq2 : ∀ a, a ∉ A → R' a = R a := fun a h => if_neg h
  have m8 : ∀ a, a ∈ A → R a = none ∧ Fm.fm a = none ∧ ∀ i, a ∉ fp i := fun a h => h8 a (List.mem_append_left _ h)
  have s : Same R R' := fun a u q => by
    rw [eq2 a fun h => by rw [(m8 a h).1] at q; cases q]
    exact q
  have hr : Ow G R' R' v o A := ho.toFo s hd fun b hb u q => by rw [eq1 b hb]; exact q
  refine ⟨R', A, s, hr, x.len, fun a u q => ?_, x.fh, ⟨fun a u q => ?_, fun a o u q => ?_⟩, fp, B, fun i sv e => (h1 i sv e).mono s, h2, h3, h4, fun i a hi => ?_, h6.mono s, nd.2.1, fun a ha => ?_⟩
  · by_cases h : a ∈ A
    · rw [eq1 a h] at q; exact q
    · rw [eq2 a h] at q; exact x.rh a u q
  · rw [eq2 a fun h => by rw [(m8 a h).2.1] at q; cases q]
    exact x.dj.1 a u q
  · by_cases h : a ∈ A
    · rw [eq1 a h] at q; exact ho.nofrz a h o u q
    · rw [eq2 a h] at q; exact x.dj.2 a o u q
  · rw [eq2 a fun h => (m8 a h).2.2 i hi]
    exact h5 i a hi
  · rw [eq2 a fun h => nd.2.2 a h a ha rfl]
    exact h8 a (List.mem_append_right _ ha)
end
end Qz
namespace Qz
open PySem PySem.Spec PyProof.Rows L2
abbrev gp (X : Cx) : Gp := ⟨X.K, X.prog, X.w⟩
abbrev Sta := List SV
abbrev FE := Sta → Option (SV × Sta)
abbrev FT := Sta → Option (Bool × Sta)
/-- L: slots and cells; T: temporaries -/
structure At (G : Gp) (m : Nat) (R : Hp) (Fm : Fr) (L T : Sta) (σ : L2.St) (τ : List (Option V)) (H : Hp) : Prop where
  sl : σ.length = m
  ge : σ.length ≤ L.length
  rel : Rel G L.length R Fm (L ++ T) (σ ++ τ) H
section
variable {G : Gp} {m : Nat} {R H H' : Hp} {Fm : Fr} {L T : Sta} {σ : L2.St} {τ : List (Option V)} {v : V} {r : SV}
theorem At.lens (x : At G m R Fm L T σ τ H) : L.length + T.length = σ.length + τ.length := by
  have := x.rel.len
  simp at this
  exact this
theorem At.push {d : PyData} (x : At G m R Fm L T σ τ H) (h : Rp R v d) : At G m R Fm L (T ++ [.ow (.fz d)]) σ (τ ++ [some v]) H :=
  ⟨x.sl, x.ge, by rw [← List.append_assoc, ← List.append_assoc]; exact x.rel.pushFz h⟩
theorem At.pushRf {k : Nat} (x : At G m R Fm L T σ τ H) (hk : k < L.length) (e : (σ ++ τ)[k]? = some (some v)) : At G m R Fm L (T ++ [.rf k]) σ (τ ++ [some v]) H :=
  ⟨x.sl, x.ge, by rw [← List.append_assoc, ← List.append_assoc]; exact x.rel.pushRf hk e⟩
theorem At.drop {o : Option V} (x : At G m R Fm L (T ++ [r]) σ (τ ++ [o]) H) : At G m R Fm L T σ τ H := by
  refine ⟨x.sl, x.ge, ?_⟩
  have := x.rel
  rw [← List.append_assoc, ← List.append_assoc] at this
  exact this.drop1 (by simp)
theorem At.grow (x : At G m R Fm L T σ τ H) (s : Same H H') : At G m R Fm L T σ τ H' := ⟨x.sl, x.ge, x.rel.grow s⟩
theorem At.con {o : OV} (x : At G m R Fm L (T ++ [r]) σ (τ ++ [some v]) H) (e : Qz.con L r = some o) : ∃ A, Ow G R H v o A := by
  have := x.rel
  rw [← List.append_assoc, ← List.append_assoc] at this
  exact this.conLast rfl e
/-- the last temporary into a bundle -/
theorem At.take1 {o : OV} (x : At G m R Fm L (T ++ [.ow o]) σ (τ ++ [some v]) H) : RelX G L.length R Fm (L ++ T) (σ ++ τ) H [v] [o] := by
  have := x.rel
  rw [← List.append_assoc, ← List.append_assoc] at this
  exact this.gather (by simp)
theorem At.put1 {o : OV} (sl : σ.length = m) (ge : σ.length ≤ L.length) (x : RelX G L.length R Fm (L ++ T) (σ ++ τ) H [v] [o]) : At G m R Fm L (T ++ [.ow o]) σ (τ ++ [some v]) H := by
  refine ⟨sl, ge, ?_⟩
  rw [← List.append_assoc, ← List.append_assoc]
  exact x.scatter
theorem At.of {L' : Sta} (x : At G m R Fm L T σ τ H) (e : L'.length = L.length) {R' H'} (r : Rel G L.length R' Fm (L' ++ T) (σ ++ τ) H') : At G m R' Fm L' T σ τ H' := ⟨x.sl, by rw [e]; exact x.ge, by rw [e]; exact r⟩
end
/-- an expression by its function -/
def tE (G : Gp) (m : Nat) (f : FE) : TE := fun σ H Q => ∃ R Fm L T τ, At G m R Fm L T σ τ H ∧ ∃ r L', f L = some (r, L') ∧
  ∀ R' v H', Same R R' → At G m R' Fm L' (T ++ [r]) σ (τ ++ [some v]) H' → Q v H'
def tT (G : Gp) (m : Nat) (f : FT) : TT := fun σ H Q => ∃ R Fm L T τ, At G m R Fm L T σ τ H ∧ ∃ b L', f L = some (b, L') ∧
  ∀ R' H', Same R R' → At G m R' Fm L' T σ τ H' → Q b H'
abbrev PEd (X : Cx) (e : Expr) (f : FE) : Prop := PE X e (tE (gp X) X.N.length f)
abbrev PTd (X : Cx) (e : Expr) (f : FT) : Prop := PT X e (tT (gp X) X.N.length f)
theorem imp {X : Cx} {e : Expr} {t t' : TE} (h : PE X e t) (i : ∀ σ H Q, t' σ H Q → t σ H Q) : PE X e t' := ⟨fun pins s σ H Q I q => h.run pins s σ H Q I (i σ H Q q)⟩
theorem impT {X : Cx} {e : Expr} {t t' : TT} (h : PT X e t) (i : ∀ σ H Q, t' σ H Q → t σ H Q) : PT X e t' := ⟨fun pins s σ H Q I q => h.run pins s σ H Q I (i σ H Q q)⟩
/-- what an operation hands back: frozen data, or a new list -/
inductive Res where
  | fr (d : PyData)
  | nl (ds : List PyData)
def Res.ov : Res → OV
  | .fr d => .fz d
  | .nl ds => .ls (ds.map .fz)
/-- what the operation's rule may count on -/
def New (R H : Hp) (Q : VK) : Res → Prop
  | .fr d => (∀ z, Rp R z d → Q z H) ∧ ∀ p ts ds, d = .tuple ds → H p = none → RpL R ts ds → Q (.ref p) (upd H p (.tup ts))
  | .nl ds => ∀ p ts, H p = none → RpL R ts ds → Q (.ref p) (upd H p (.lst ts))
theorem At.new {G : Gp} {m : Nat} {R H : Hp} {Fm : Fr} {L T : Sta} {σ : L2.St} {τ : List (Option V)} {Q : VK} (x : At G m R Fm L T σ τ H) {res : Res}
    (q : ∀ R' v H', Same R R' → At G m R' Fm L (T ++ [.ow res.ov]) σ (τ ++ [some v]) H' → Q v H') : New R H Q res := by
  cases res with
  | fr d =>
    refine ⟨fun z hz => q R z H (Same.refl R) (x.push hz), fun p ts ds e hp hr => ?_⟩
    subst e
    obtain ⟨s, y, h⟩ := x.rel.allocT hp hr
    exact q _ _ _ s ((At.mk x.sl x.ge y).push h)
  | nl ds =>
    intro p ts hp hr
    obtain ⟨fp, B, h1, h2, h3, h4, h5, h6, h7, h8⟩ := x.rel.ex
    have y : RelX G L.length R Fm (L ++ T) (σ ++ τ) H ts (ds.map .fz) := ⟨x.rel.len, x.rel.rh, x.rel.fh, x.rel.dj, fp, [], h1, h2, h3, h4, h5, OwL.of_rp hr, List.nodup_nil, fun a h => by simp at h⟩
    exact q R _ _ (Same.refl R) (At.put1 x.sl x.ge (y.allocL hp))
def f0 (g : Option Res) : FE := fun L => g.map fun d => (.ow d.ov, L)
def f1 (g : OV → Option Res) (fa : FE) : FE := fun L => match fa L with
  | some (a, M1) => match con M1 a with
    | some x => match g x with
      | some d => some (.ow d.ov, M1)
      | none => none
    | none => none
  | none => none
def f2 (g : OV → OV → Option Res) (fa fb : FE) : FE := fun L => match fa L with
  | some (a, M1) => match fb M1 with
    | some (b, M2) => match con M2 a, con M2 b with
      | some x, some y => match g x y with
        | some d => some (.ow d.ov, M2)
        | none => none
      | _, _ => none
    | none => none
  | none => none
section
variable {G : Gp} {m : Nat}
theorem run1 {g : OV → Option Res} {fa : FE} {k : V → Hp → VK → Prop} (hk : ∀ R H v a A d Q, Same R H → Ow G R H v a A → g a = some d → New R H Q d → k v H Q) :
    ∀ σ H Q, tE G m (f1 g fa) σ H Q → tE G m fa σ H fun x H1 => k x H1 Q := by
  rintro σ H Q ⟨R, Fm, L, T, τ, x, r, L', e, q⟩
  unfold f1 at e
  split at e
  · rename_i a M1 ea
    split at e
    · rename_i o eo
      split at e
      · rename_i d ed
        cases e
        refine ⟨R, Fm, L, T, τ, x, a, _, ea, fun R1 v H1 s1 x1 => ?_⟩
        obtain ⟨A, ho⟩ := x1.con eo
        exact hk R1 H1 v o A d Q x1.rel.rh ho ed (x1.drop.new fun R' v H' s => q R' v H' (s1.trans s))
      · cases e
    · cases e
  · cases e
theorem run2 {g : OV → OV → Option Res} {fa fb : FE} {k : V → V → Hp → VK → Prop} (hk : ∀ R H v u a b A B d Q, Same R H → Ow G R H v a A → Ow G R H u b B → g a b = some d → New R H Q d → k v u H Q) :
    ∀ σ H Q, tE G m (f2 g fa fb) σ H Q → tE G m fa σ H fun x H1 => tE G m fb σ H1 fun y H2 => k x y H2 Q := by
  rintro σ H Q ⟨R, Fm, L, T, τ, x, r, L', e, q⟩
  unfold f2 at e
  split at e
  · rename_i a M1 ea
    split at e
    · rename_i b M2 eb
      split at e
      · rename_i o1 o2 eo1 eo2
        split at e
        · rename_i d ed
          cases e
          refine ⟨R, Fm, L, T, τ, x, a, M1, ea, fun R1 v H1 s1 x1 => ⟨R1, Fm, M1, _, _, x1, b, _, eb, fun R2 u H2 s2 x2 => ?_⟩⟩
          obtain ⟨B, ho2⟩ := x2.con eo2
          obtain ⟨A, ho1⟩ := x2.drop.con eo1
          exact hk R2 H2 v u o1 o2 A B d Q x2.rel.rh ho1 ho2 ed (x2.drop.drop.new fun R' v H' s => q R' v H' (s1.trans (s2.trans s)))
        · cases e
      · cases e
    · cases e
  · cases e
end
/-! ### names, constants -/
def fName (i : Nat) : FE := fun L => match L[i]? with
  | some (.ow _) => some (.rf i, L)
  | some (.bo _) => some (.rf i, L)
  | some (.fb _) => some (.rf i, L)
  | some (.rf k) => some (.rf k, L)
  | _ => none
section
variable {X : Cx} {pos : Pos}
theorem d_name (i : Nat) {x : Str} (hN : X.N[i]? = some x := by rfl) (hv : Vis X.env.scope x := by first | exact Or.inl rfl | exact Or.inr (Or.inl rfl) | exact Or.inr (Or.inr rfl)) (hd : (x == ("__debug__" : Str)) = false := by decide)
    (hcd : (x == ("__classdict__" : Str)) = false := by decide) : PEd X (.Name x pos) (fName i) := by
  refine imp (pe_var hN hv hd hcd) fun σ H Q h => ?_
  obtain ⟨R, Fm, L, T, τ, y, r, L', e, q⟩ := h
  have hi : i < σ.length := by rw [y.sl]; exact (List.getElem?_eq_some_iff.mp hN).1
  have hL : i < L.length := Nat.lt_of_lt_of_le hi y.ge
  obtain ⟨fp, B, h1, _⟩ := y.rel.ex
  unfold fName at e
  have lk : ∀ sv, L[i]? = some sv → (L ++ T)[i]? = some sv := fun sv h => by rw [List.getElem?_append_left hL]; exact h
  have gt : ∀ v, (σ ++ τ)[i]? = some (some v) → σ[i]? = some (some v) := fun v h => by rw [List.getElem?_append_left hi] at h; exact h
  split at e
  · rename_i o eo
    cases e
    obtain ⟨v, e1, _⟩ := h1 i _ (lk _ eo)
    exact ⟨v, gt v e1, q R v H (Same.refl R) (y.pushRf hL e1)⟩
  · rename_i o eo
    cases e
    obtain ⟨_, v, B, e1, _⟩ := h1 i _ (lk _ eo)
    exact ⟨v, gt v e1, q R v H (Same.refl R) (y.pushRf hL e1)⟩
  · rename_i o eo
    cases e
    obtain ⟨_, v, B, e1, _⟩ := h1 i _ (lk _ eo)
    exact ⟨v, gt v e1, q R v H (Same.refl R) (y.pushRf hL e1)⟩
  · rename_i k eo
    cases e
    obtain ⟨_, hk, v, e1, e2⟩ := h1 i _ (lk _ eo)
    exact ⟨v, gt v e1, q R v H (Same.refl R) (y.pushRf hk e2)⟩
  · cases e
theorem d_c {e : Expr} {v : V} {d : PyData} (h : PE X e (tC v)) (hr : ∀ R, Rp R v d) : PEd X e (f0 (some (.fr d))) := by
  refine imp h fun σ H Q h => ?_
  obtain ⟨R, Fm, L, T, τ, y, r, L', e, q⟩ := h
  cases e
  exact q R v H (Same.refl R) (y.push (hr R))
theorem d_int {i j} : PEd X (.Constant (.int i) j pos) (f0 (some (.fr (.int i)))) := d_c pe_int fun _ => .int i
theorem d_bl {b j} : PEd X (.Constant (.bool b) j pos) (f0 (some (.fr (.bool b)))) := d_c pe_bl fun _ => .bl b
theorem d_non {j} : PEd X (.Constant .none j pos) (f0 (some (.fr .none))) := d_c pe_non fun _ => .non
theorem d_str {x j} : PEd X (.Constant (.str x) j pos) (f0 (some (.fr (.str x)))) := d_c pe_str fun _ => .str x
end
/-! ### readings of contents -/
section
variable {G : Gp} {R H : Hp} {v : V} {A : List Addr}
theorem Ow.int {i : Int} (h : Ow G R H v (.fz (.int i)) A) : v = .int i := by cases h with | fz h => cases h; rfl
theorem Ow.str {x : Str} (h : Ow G R H v (.fz (.str x)) A) : v = .str x := by cases h with | fz h => cases h; rfl
theorem Ow.bl {b : Bool} (h : Ow G R H v (.fz (.bool b)) A) : v = .bl b := by cases h with | fz h => cases h; rfl
theorem Ow.non (h : Ow G R H v (.fz .none) A) : v = .non := by cases h with | fz h => cases h; rfl
theorem Ow.tup {ds : List PyData} (h : Ow G R H v (.fz (.tuple ds)) A) : ∃ a vs, v = .ref a ∧ R a = some (.tup vs) ∧ RpL R vs ds := by
  cases h with | fz h => cases h with | tup h r => exact ⟨_, _, rfl, h, r⟩
/-- the frozen children of a list -/
def lkids : OV → Option (List PyData)
  | .fz (.list ds) => some ds
  | .nd .lst os => frs os
  | _ => none
theorem Ow.lk {o : OV} {ds : List PyData} (s : Same R H) (h : Ow G R H v o A) (e : lkids o = some ds) : ∃ a vs, v = .ref a ∧ H a = some (.lst vs) ∧ RpL R vs ds := by
  unfold lkids at e
  split at e
  · cases e
    cases h with | fz h => cases h with | lst h r => exact ⟨_, _, rfl, s _ _ h, r⟩
  · have e' := frs_eq e
    subst e'
    cases h with
    | nd n l =>
      cases n with
      | lst h => exact ⟨_, _, rfl, h, l.frs.1⟩
  · cases e
/-- the children that may be read: of a list or a tuple -/
def kids : OV → Option (Bool × List PyData)
  | .fz (.tuple ds) => some (true, ds)
  | .nd .scr os => (frs os).map fun ds => (false, ds)
  | o => (lkids o).map fun ds => (false, ds)
theorem Ow.kd {o : OV} {ds : List PyData} {b : Bool} (s : Same R H) (h : Ow G R H v o A) (e : kids o = some (b, ds)) : ∃ a vs, v = .ref a ∧ RpL R vs ds ∧ ((b = false ∧ SqL G.K H a vs) ∨ (b = true ∧ SqT G.K H a vs)) := by
  unfold kids at e
  split at e
  · cases e
    obtain ⟨a, vs, e, h1, h2⟩ := h.tup
    exact ⟨a, vs, e, h2, .inr ⟨rfl, SqT.of (s _ _ h1)⟩⟩
  · obtain ⟨ds', e1, e2⟩ := Option.map_eq_some_iff.mp e
    cases e2
    have e' := frs_eq e1
    subst e'
    cases h with
    | nd n l =>
      cases n with
      | scr h => exact ⟨_, _, rfl, l.frs.1, .inl ⟨rfl, h.sq⟩⟩
  · obtain ⟨ds', e1, e2⟩ := Option.map_eq_some_iff.mp e
    cases e2
    obtain ⟨a, vs, e, h1, h2⟩ := h.lk s e1
    exact ⟨a, vs, e, h2, .inl ⟨rfl, SqL.of h1⟩⟩
end
/-! ### numbers -/
def gI (g : Int → Int → Option Int) : OV → OV → Option Res
  | .fz (.int i), .fz (.int j) => (g i j).map fun k => .fr (.int k)
  | _, _ => none
theorem gI_run {G : Gp} {g : Int → Int → Option Int} {k : V → V → Hp → VK → Prop} (hk : ∀ (i j z : Int) H (Q : VK), g i j = some z → Q (.int z) H → k (.int i) (.int j) H Q) :
    ∀ R H v u a b A B d Q, Same R H → Ow G R H v a A → Ow G R H u b B → gI g a b = some d → New R H Q d → k v u H Q := by
  intro R H v u a b A B d Q s ha hb e q
  unfold gI at e
  split at e
  · rename_i i j
    obtain ⟨z, e1, e2⟩ := Option.map_eq_some_iff.mp e
    cases e2
    cases ha.int
    cases hb.int
    exact hk i j z H Q e1 (q.1 _ (.int z))
  · cases e
section
variable {X : Cx} {a b : Expr} {fa fb : FE} {pos : Pos}
def gAddI := gI fun i j => some (i + j)
def gSub := gI fun i j => some (i - j)
noncomputable def small64 (i : Int) : Bool := sm (-(2 ^ 64) < i ∧ i < 2 ^ 64)
def gMod := gI fun i j => if 0 < j then some (i % j) else none
noncomputable def gDiv := gI fun i j => if sm (0 < j ∧ j < 1073741824) then some (i / j) else none
noncomputable def gPow := gI fun i j => if sm (0 ≤ j ∧ j ≤ 1000000 ∧ i.natAbs < 2 ^ 64) then some (i ^ j.toNat) else none
theorem d_sub (ha : PEd X a fa) (hb : PEd X b fb) : PEd X (.BinOp a .Sub b pos) (f2 gSub fa fb) :=
  imp (pe_op op_sub ha hb) (run2 (gI_run fun i j z H Q e q => ⟨i, j, rfl, rfl, by cases e; exact q⟩))
theorem d_mod (ha : PEd X a fa) (hb : PEd X b fb) : PEd X (.BinOp a .Mod b pos) (f2 gMod fa fb) :=
  imp (pe_op op_mod ha hb) (run2 (gI_run fun i j z H Q e q => by
    split at e
    · rename_i h; cases e; exact ⟨i, j, rfl, rfl, h, q⟩
    · cases e))
theorem d_div (ha : PEd X a fa) (hb : PEd X b fb) : PEd X (.BinOp a .FloorDiv b pos) (f2 gDiv fa fb) :=
  imp (pe_op op_fdiv ha hb) (run2 (gI_run fun i j z H Q e q => by
    split at e
    · rename_i h; cases e; exact ⟨i, j, rfl, rfl, sm_iff.mp h, q⟩
    · cases e))
theorem d_pow (ha : PEd X a fa) (hb : PEd X b fb) : PEd X (.BinOp a .Pow b pos) (f2 gPow fa fb) :=
  imp (pe_op op_pow ha hb) (run2 (gI_run fun i j z H Q e q => by
    split at e
    · rename_i h; cases e; exact ⟨i, j, rfl, rfl, sm_iff.mp h, q⟩
    · cases e))
def gNeg : OV → Option Res
  | .fz (.int i) => some (.fr (.int (-i)))
  | _ => none
theorem d_neg (ha : PEd X a fa) : PEd X (.UnaryOp .USub a pos) (f1 gNeg fa) :=
  imp (pe_un un_neg ha) (run1 fun R H v a A d Q s ha e q => by
    unfold gNeg at e
    split at e
    · rename_i i
      cases e
      cases ha.int
      exact ⟨i, rfl, q.1 _ (.int _)⟩
    · cases e)
/-! ### + -/
def gAdd : OV → OV → Option Res
  | .fz (.int i), .fz (.int j) => some (.fr (.int (i + j)))
  | .fz (.str x), .fz (.str y) => if x.length + y.length ≤ sizeLine then some (.fr (.str (x ++ y))) else none
  | .fz (.tuple xs), .fz (.tuple ys) => if xs.length + ys.length ≤ sizeLine then some (.fr (.tuple (xs ++ ys))) else none
  | a, b => match lkids a, lkids b with
    | some xs, some ys => if xs.length + ys.length ≤ sizeLine then some (.nl (xs ++ ys)) else none
    | _, _ => none
theorem d_add (ha : PEd X a fa) (hb : PEd X b fb) : PEd X (.BinOp a .Add b pos) (f2 gAdd fa fb) :=
  imp (pe_op (op_add.or (op_add_str.or (op_catA.or op_cat))) ha hb) (run2 fun R H v u a b A B d Q s ha hb e q => by
    unfold gAdd at e
    split at e
    · rename_i i j
      cases e; cases ha.int; cases hb.int
      exact .inl ⟨i, j, rfl, rfl, q.1 _ (.int _)⟩
    · rename_i x y
      split at e
      · rename_i h
        cases e; cases ha.str; cases hb.str
        exact .inr (.inl ⟨x, y, rfl, rfl, h, q.1 _ (.str _)⟩)
      · cases e
    · rename_i xs ys
      split at e
      · rename_i h
        cases e
        obtain ⟨a, vs, rfl, h1, r1⟩ := ha.tup
        obtain ⟨b, us, rfl, h2, r2⟩ := hb.tup
        refine .inr (.inr (.inl ⟨a, b, vs, us, rfl, rfl, SqT.of (s _ _ h1), SqT.of (s _ _ h2), by rw [r1.length, r2.length]; exact h, fun e => ?_, fun _ e => ?_, fun _ _ p hp => ?_⟩))
        · subst e
          have e0 : xs = [] := List.length_eq_zero_iff.mp (by rw [← r1.length]; rfl)
          subst e0
          exact q.1 _ (.tup h2 r2)
        · subst e
          have e0 : ys = [] := List.length_eq_zero_iff.mp (by rw [← r2.length]; rfl)
          subst e0
          rw [List.append_nil] at q
          exact q.1 _ (.tup h1 r1)
        · exact q.2 p _ _ rfl hp (r1.append r2)
      · cases e
    · split at e
      · rename_i xs ys e1 e2
        split at e
        · rename_i h
          cases e
          obtain ⟨a, vs, rfl, h1, r1⟩ := ha.lk s e1
          obtain ⟨b, us, rfl, h2, r2⟩ := hb.lk s e2
          exact .inr (.inr (.inr ⟨a, b, vs, us, rfl, rfl, h1, h2, by rw [r1.length, r2.length]; exact h, fun p hp => q p _ hp (r1.append r2)⟩))
        · cases e
      · cases e)
end
end Qz
namespace Qz
open PySem PySem.Spec PyProof.Rows L2
section
variable {G : Gp} {R H : Hp} {v : V} {A : List Addr}
/-- data that may be read -/
def rdat : OV → Option PyData
  | .nd .scr os => (frs os).map .list
  | o => o.dat
mutual
theorem dp_same {K : PySem.W.Frag} {H H' : Hp} (s : Same H H') : ∀ {v : V} {d : PyData}, Dp K H v d → Dp K H' v d
  | _, _, .non => .non
  | _, _, .bl b => .bl b
  | _, _, .int i => .int i
  | _, _, .str x => .str x
  | _, _, .lst h r => .lst (s.seq h) (dps_same s r)
  | _, _, .tup h r => .tup (by
      rcases h with (h | ⟨o, h⟩) | h
      · exact .inl (.inl (s _ _ h))
      · exact .inl (.inr ⟨o, s _ _ h⟩)
      · exact .inr h) (dps_same s r)
theorem dps_same {K : PySem.W.Frag} {H H' : Hp} (s : Same H H') : ∀ {v : List V} {d : List PyData}, DpAll K H v d → DpAll K H' v d
  | _, _, .nil => .nil
  | _, _, .cons h r => .cons (dp_same s h) (dps_same s r)
end
theorem Ow.dp {o : OV} {d : PyData} (s : Same R H) (h : Ow G R H v o A) (e : rdat o = some d) : Dp G.K H v d := by
  unfold rdat at e
  split at e
  · obtain ⟨ds, e1, e2⟩ := Option.map_eq_some_iff.mp e
    subst e2
    have e' := frs_eq e1
    subst e'
    cases h with
    | nd n l =>
      cases n with
      | scr h => exact .lst h.sq (dps_same s l.frs.1.dp)
  · exact (h.rp s e).dp
end
section
variable {X : Cx} {a b c : Expr} {fa fb fc : FE} {pos : Pos}
/-! ### comparisons -/
theorem mkCmp {op : CmpOp} {r : R2} {g : OV → OV → Option Res} (ho : OpR X (compareOp op) r) (hm : behindInMarks op b = false)
    (hk : ∀ R H v u a b A B d Q, Same R H → Ow (gp X) R H v a A → Ow (gp X) R H u b B → g a b = some d → New R H Q d → r v u H Q) (ha : PEd X a fa) (hb : PEd X b fb) : PEd X (.Compare a [op] [b] pos) (f2 g fa fb) :=
  imp (pe_cmpR ho ha hb hm) (run2 hk)
/-- a value that is a bool, as a test -/
def fB (f : FE) : FT := fun L => match f L with
  | some (r, M) => match con M r with
    | some (.fz (.bool b)) => some (b, M)
    | _ => none
  | none => none
theorem tB_of {G : Gp} {m : Nat} {f : FE} : ∀ σ H Q, tT G m (fB f) σ H Q → tE G m f σ H fun x H' => ∃ k, x = .bl k ∧ Q k H' := by
  rintro σ H Q ⟨R, Fm, L, T, τ, x, k, L', e, q⟩
  unfold fB at e
  split at e
  · rename_i r M er
    split at e
    · rename_i b' eb
      cases e
      refine ⟨R, Fm, L, T, τ, x, r, _, er, fun R' v H' s y => ?_⟩
      obtain ⟨A, ho⟩ := y.con eb
      cases ho.bl
      exact ⟨_, rfl, q R' H' s y.drop⟩
    · cases e
  · cases e
theorem mkCmpT {op : CmpOp} {r : R2} {g : OV → OV → Option Res} (ho : OpR X (compareOp op) r) (hm : behindInMarks op b = false)
    (hk : ∀ R H v u a b A B d Q, Same R H → Ow (gp X) R H v a A → Ow (gp X) R H u b B → g a b = some d → New R H Q d → r v u H Q) (ha : PEd X a fa) (hb : PEd X b fb) : PTd X (.Compare a [op] [b] pos) (fB (f2 g fa fb)) :=
  impT (pt_cmpR ho ha hb hm) fun σ H Q h => run2 hk σ H _ (tB_of σ H Q h)
/-- an expression that is a bool, as a test -/
theorem d_tval {e : Expr} {f : FE} (h : PEd X e f) (he : ∀ whole, isTrue e X.env whole = (do let v ← whole; standAt e.pos; holding [v] (truthy v)) := by intro _; rfl) : PTd X e (fB f) :=
  impT (pt_val h he) tB_of
def gB (g : Int → Int → Bool) : OV → OV → Option Res
  | .fz (.int i), .fz (.int j) => some (.fr (.bool (g i j)))
  | _, _ => none
theorem gB_run {G : Gp} {g : Int → Int → Bool} : ∀ R H v u a b A B d Q, Same R H → Ow G R H v a A → Ow G R H u b B → gB g a b = some d → New R H Q d → rI0 (fun i j => .bl (g i j)) v u H Q := by
  intro R H v u a b A B d Q s ha hb e q
  unfold gB at e
  split at e
  · rename_i i j
    cases e; cases ha.int; cases hb.int
    exact ⟨i, j, rfl, rfl, q.1 _ (.bl _)⟩
  · cases e
def gLt := gB fun i j => decide (i < j)
def gLe := gB fun i j => decide (i ≤ j)
def gGt := gB fun i j => decide (j < i)
def gGe := gB fun i j => decide (j ≤ i)
theorem d_lt (ha : PEd X a fa) (hb : PEd X b fb) : PEd X (.Compare a [.Lt] [b] pos) (f2 gLt fa fb) := mkCmp op_lt (nomark _) gB_run ha hb
theorem d_le (ha : PEd X a fa) (hb : PEd X b fb) : PEd X (.Compare a [.LtE] [b] pos) (f2 gLe fa fb) := mkCmp op_le (nomark _) gB_run ha hb
theorem d_gt (ha : PEd X a fa) (hb : PEd X b fb) : PEd X (.Compare a [.Gt] [b] pos) (f2 gGt fa fb) := mkCmp op_gt (nomark _) gB_run ha hb
theorem d_ge (ha : PEd X a fa) (hb : PEd X b fb) : PEd X (.Compare a [.GtE] [b] pos) (f2 gGe fa fb) := mkCmp op_ge (nomark _) gB_run ha hb
theorem t_lt (ha : PEd X a fa) (hb : PEd X b fb) : PTd X (.Compare a [.Lt] [b] pos) (fB (f2 gLt fa fb)) := mkCmpT op_lt (nomark _) gB_run ha hb
theorem t_le (ha : PEd X a fa) (hb : PEd X b fb) : PTd X (.Compare a [.LtE] [b] pos) (fB (f2 gLe fa fb)) := mkCmpT op_le (nomark _) gB_run ha hb
theorem t_gt (ha : PEd X a fa) (hb : PEd X b fb) : PTd X (.Compare a [.Gt] [b] pos) (fB (f2 gGt fa fb)) := mkCmpT op_gt (nomark _) gB_run ha hb
theorem t_ge (ha : PEd X a fa) (hb : PEd X b fb) : PTd X (.Compare a [.GtE] [b] pos) (fB (f2 gGe fa fb)) := mkCmpT op_ge (nomark _) gB_run ha hb
/-- == and != of data -/
def gEqB (n : Bool) (a b : OV) : Option Res := match rdat a, rdat b with
  | some d, some e => if SeqAt.shaped d && SeqAt.shaped e then some (.fr (.bool (if n then !PyData.eqv d e else PyData.eqv d e))) else none
  | _, _ => none
abbrev gEq := gEqB false
abbrev gNe := gEqB true
theorem gEq_run {G : Gp} : ∀ R H v u a b A B d Q, Same R H → Ow G R H v a A → Ow G R H u b B → gEq a b = some d → New R H Q d → rEqD G.K v u H Q := by
  intro R H v u a b A B d Q s ha hb e q
  unfold gEq gEqB at e
  split at e
  · rename_i x y ex ey
    split at e
    · rename_i h
      cases e
      obtain ⟨h1, h2⟩ := Bool.and_eq_true_iff.mp h
      exact ⟨x, y, ha.dp s ex, hb.dp s ey, h1, h2, q.1 _ (.bl _)⟩
    · cases e
  · cases e
theorem gNe_run {G : Gp} : ∀ R H v u a b A B d Q, Same R H → Ow G R H v a A → Ow G R H u b B → gNe a b = some d → New R H Q d → rNeD G.K v u H Q := by
  intro R H v u a b A B d Q s ha hb e q
  unfold gNe gEqB at e
  split at e
  · rename_i x y ex ey
    split at e
    · rename_i h
      cases e
      obtain ⟨h1, h2⟩ := Bool.and_eq_true_iff.mp h
      exact ⟨x, y, ha.dp s ex, hb.dp s ey, h1, h2, q.1 _ (.bl _)⟩
    · cases e
  · cases e
theorem d_eq (hu : X.A.units + 64 < cLine) (ha : PEd X a fa) (hb : PEd X b fb) : PEd X (.Compare a [.Eq] [b] pos) (f2 gEq fa fb) := mkCmp (op_eqD hu) (nomark _) gEq_run ha hb
theorem d_ne (hu : X.A.units + 64 < cLine) (ha : PEd X a fa) (hb : PEd X b fb) : PEd X (.Compare a [.NotEq] [b] pos) (f2 gNe fa fb) := mkCmp (op_neD hu) (nomark _) gNe_run ha hb
theorem t_eq (hu : X.A.units + 64 < cLine) (ha : PEd X a fa) (hb : PEd X b fb) : PTd X (.Compare a [.Eq] [b] pos) (fB (f2 gEq fa fb)) := mkCmpT (op_eqD hu) (nomark _) gEq_run ha hb
theorem t_ne (hu : X.A.units + 64 < cLine) (ha : PEd X a fa) (hb : PEd X b fb) : PTd X (.Compare a [.NotEq] [b] pos) (fB (f2 gNe fa fb)) := mkCmpT (op_neD hu) (nomark _) gNe_run ha hb
/-- is None, is True -/
def gIsB (n : Bool) : OV → OV → Option Res
  | .fz (.bool x), .fz (.bool y) => some (.fr (.bool (if n then !decide (x = y) else decide (x = y))))
  | .fz .none, .fz .none => some (.fr (.bool (!n)))
  | .fo _, _ => none
  | _, .fz .none => some (.fr (.bool n))
  | _, _ => none
abbrev gIs := gIsB false
abbrev gIsNot := gIsB true
theorem Ow.notNon {G : Gp} {R H : Hp} {v : V} {o : OV} {A : List Addr} (h : Ow G R H v o A) (e : o ≠ .fz .none) (f : ∀ x, o ≠ .fo x) : v ≠ .non := by
  intro q
  subst q
  cases h with
  | fz h => cases h; exact e rfl
  | fo h => exact f _ rfl
theorem gIs_run {G : Gp} : ∀ R H v u a b A B d Q, Same R H → Ow G R H v a A → Ow G R H u b B → gIs a b = some d → New R H Q d → (rIsB v u H Q ∨ (u = .non ∧ Q (.bl (decide (v = .non))) H)) := by
  intro R H v u a b A B d Q s ha hb e q
  unfold gIs gIsB at e
  split at e
  · rename_i x y
    cases e; cases ha.bl; cases hb.bl
    exact .inl ⟨x, y, rfl, rfl, q.1 _ (.bl _)⟩
  · cases e; cases ha.non; cases hb.non
    exact .inr ⟨rfl, q.1 _ (.bl _)⟩
  · cases e
  · rename_i hno hnf
    cases e; cases hb.non
    refine .inr ⟨rfl, ?_⟩
    have : v ≠ .non := ha.notNon hno fun x q => hnf x (by rw [q])
    rw [decide_eq_false this]
    exact q.1 _ (.bl _)
  · cases e
theorem gIsNot_run {G : Gp} : ∀ R H v u a b A B d Q, Same R H → Ow G R H v a A → Ow G R H u b B → gIsNot a b = some d → New R H Q d → (rNotB v u H Q ∨ (u = .non ∧ Q (.bl (!decide (v = .non))) H)) := by
  intro R H v u a b A B d Q s ha hb e q
  unfold gIsNot gIsB at e
  split at e
  · rename_i x y
    cases e; cases ha.bl; cases hb.bl
    exact .inl ⟨x, y, rfl, rfl, q.1 _ (.bl _)⟩
  · cases e; cases ha.non; cases hb.non
    exact .inr ⟨rfl, q.1 _ (.bl _)⟩
  · cases e
  · rename_i hno hnf
    cases e; cases hb.non
    refine .inr ⟨rfl, ?_⟩
    have : v ≠ .non := ha.notNon hno fun x q => hnf x (by rw [q])
    rw [decide_eq_false this]
    exact q.1 _ (.bl _)
  · cases e
theorem d_is (ha : PEd X a fa) (hb : PEd X b fb) : PEd X (.Compare a [.Is] [b] pos) (f2 gIs fa fb) := mkCmp (op_isBl.or op_isN) (nomark _) gIs_run ha hb
theorem d_isnot (ha : PEd X a fa) (hb : PEd X b fb) : PEd X (.Compare a [.IsNot] [b] pos) (f2 gIsNot fa fb) := mkCmp (op_notBl.or op_notN) (nomark _) gIsNot_run ha hb
theorem t_is (ha : PEd X a fa) (hb : PEd X b fb) : PTd X (.Compare a [.Is] [b] pos) (fB (f2 gIs fa fb)) := mkCmpT (op_isBl.or op_isN) (nomark _) gIs_run ha hb
theorem t_isnot (ha : PEd X a fa) (hb : PEd X b fb) : PTd X (.Compare a [.IsNot] [b] pos) (fB (f2 gIsNot fa fb)) := mkCmpT (op_notBl.or op_notN) (nomark _) gIsNot_run ha hb
/-! in: of data in a list; of flat data in a tuple -/
def flatD : PyData → Bool
  | .none => true
  | .bool _ => true
  | .int _ => true
  | .str _ => true
  | _ => false
theorem flatV_of {R : Hp} {v : V} {d : PyData} (h : Rp R v d) (f : flatD d = true) : flatV v = true := by
  cases h <;> first | rfl | exact f
theorem eqV_of {R : Hp} {v u : V} {d e : PyData} (h : Rp R v d) (k : Rp R u e) (f : flatD d = true) (g : flatD e = true) : eqV v u = PyData.eqv d e := by
  cases h <;> cases k <;> first | rfl | (exact absurd f Bool.false_ne_true) | (exact absurd g Bool.false_ne_true)
theorem inV_of {R : Hp} {u : V} {e : PyData} (k : Rp R u e) (g : flatD e = true) : ∀ {vs : List V} {ds : List PyData}, RpL R vs ds → ds.all flatD = true → vs.all flatV = true ∧ inV u vs = ds.any fun z => PyData.eqv z e
  | _, _, .nil, _ => ⟨rfl, rfl⟩
  | _, _, .cons h r, f => by
    simp only [List.all_cons, Bool.and_eq_true] at f
    obtain ⟨i1, i2⟩ := inV_of k g r f.2
    refine ⟨by simp [flatV_of h f.1, i1], ?_⟩
    simp only [inV, List.any_cons] at i2 ⊢
    rw [eqV_of h k f.1 g, i2]
def gInB (n : Bool) (a b : OV) : Option Res := match rdat a with
  | some d => match b with
    | .fz (.tuple ds) => if flatD d && ds.all flatD then some (.fr (.bool (if n then !(ds.any fun z => PyData.eqv z d) else ds.any fun z => PyData.eqv z d))) else none
    | b => match rdat b with
      | some (.list ds) => if SeqAt.shaped d && SeqAt.shaped (.list ds) then some (.fr (.bool (if n then !(ds.any fun z => PyData.eqv z d) else ds.any fun z => PyData.eqv z d))) else none
      | _ => none
  | none => none
abbrev gIn := gInB false
abbrev gNotIn := gInB true
theorem gIn_run {G : Gp} : ∀ R H v u a b A B d Q, Same R H → Ow G R H v a A → Ow G R H u b B → gIn a b = some d → New R H Q d → (rInD G.K v u H Q ∨ rIn G.K false v u H Q) := by
  intro R H v u a b A B d Q s ha hb e q
  unfold gIn gInB at e
  split at e
  · rename_i x ex
    split at e
    · rename_i ds
      split at e
      · rename_i h
        cases e
        obtain ⟨h1, h2⟩ := Bool.and_eq_true_iff.mp h
        obtain ⟨p, vs, rfl, hp, r⟩ := hb.tup
        have hx : Rp H v x := by
          cases a with
          | fz d' => exact ha.rp s ex
          | fo o' => simp [rdat, OV.dat] at ex
          | nd k os =>
            cases k with
            | lst => exact ha.rp s ex
            | dct ks => simp [rdat, OV.dat] at ex
            | obj C fs => simp [rdat, OV.dat] at ex
            | scr =>
              obtain ⟨zs, _, e2⟩ := Option.map_eq_some_iff.mp ex
              subst e2
              simp [flatD] at h1
        obtain ⟨i1, i2⟩ := inV_of hx h1 (r.mono s) h2
        exact .inr ⟨p, vs, rfl, .inr (SqT.of (s _ _ hp)), flatV_of hx h1, i1, by rw [i2]; exact q.1 _ (.bl _)⟩
      · cases e
    · split at e
      · rename_i ds ey
        split at e
        · rename_i h
          cases e
          obtain ⟨h1, h2⟩ := Bool.and_eq_true_iff.mp h
          exact .inl ⟨x, ds, ha.dp s ex, hb.dp s ey, h1, h2, q.1 _ (.bl _)⟩
        · cases e
      · cases e
  · cases e
theorem gNotIn_run {G : Gp} : ∀ R H v u a b A B d Q, Same R H → Ow G R H v a A → Ow G R H u b B → gNotIn a b = some d → New R H Q d → (rNotInD G.K v u H Q ∨ rIn G.K true v u H Q) := by
  intro R H v u a b A B d Q s ha hb e q
  unfold gNotIn gInB at e
  split at e
  · rename_i x ex
    split at e
    · rename_i ds
      split at e
      · rename_i h
        cases e
        obtain ⟨h1, h2⟩ := Bool.and_eq_true_iff.mp h
        obtain ⟨p, vs, rfl, hp, r⟩ := hb.tup
        have hx : Rp H v x := by
          cases a with
          | fz d' => exact ha.rp s ex
          | fo o' => simp [rdat, OV.dat] at ex
          | nd k os =>
            cases k with
            | lst => exact ha.rp s ex
            | dct ks => simp [rdat, OV.dat] at ex
            | obj C fs => simp [rdat, OV.dat] at ex
            | scr =>
              obtain ⟨zs, _, e2⟩ := Option.map_eq_some_iff.mp ex
              subst e2
              simp [flatD] at h1
        obtain ⟨i1, i2⟩ := inV_of hx h1 (r.mono s) h2
        exact .inr ⟨p, vs, rfl, .inr (SqT.of (s _ _ hp)), flatV_of hx h1, i1, by rw [i2]; exact q.1 _ (.bl _)⟩
      · cases e
    · split at e
      · rename_i ds ey
        split at e
        · rename_i h
          cases e
          obtain ⟨h1, h2⟩ := Bool.and_eq_true_iff.mp h
          exact .inl ⟨x, ds, ha.dp s ex, hb.dp s ey, h1, h2, q.1 _ (.bl _)⟩
        · cases e
      · cases e
  · cases e
theorem d_in (hu : X.A.units + 65 < cLine) (ha : PEd X a fa) (hb : PEd X b fb) (hm : behindInMarks .In b = false := by rfl) : PEd X (.Compare a [.In] [b] pos) (f2 gIn fa fb) := mkCmp ((op_inD hu).or op_in_seq) hm gIn_run ha hb
theorem d_notin (hu : X.A.units + 65 < cLine) (ha : PEd X a fa) (hb : PEd X b fb) (hm : behindInMarks .NotIn b = false := by rfl) : PEd X (.Compare a [.NotIn] [b] pos) (f2 gNotIn fa fb) := mkCmp ((op_notInD hu).or op_notIn_seq) hm gNotIn_run ha hb
theorem t_in (hu : X.A.units + 65 < cLine) (ha : PEd X a fa) (hb : PEd X b fb) (hm : behindInMarks .In b = false := by rfl) : PTd X (.Compare a [.In] [b] pos) (fB (f2 gIn fa fb)) := mkCmpT ((op_inD hu).or op_in_seq) hm gIn_run ha hb
theorem t_notin (hu : X.A.units + 65 < cLine) (ha : PEd X a fa) (hb : PEd X b fb) (hm : behindInMarks .NotIn b = false := by rfl) : PTd X (.Compare a [.NotIn] [b] pos) (fB (f2 gNotIn fa fb)) := mkCmpT ((op_notInD hu).or op_notIn_seq) hm gNotIn_run ha hb
/-! ### and, or, not, if -/
def fAnd (f g : FT) : FT := fun L => match f L with
  | some (true, M) => g M
  | some (false, M) => some (false, M)
  | none => none
def fOr (f g : FT) : FT := fun L => match f L with
  | some (true, M) => some (true, M)
  | some (false, M) => g M
  | none => none
def fNot (f : FT) : FT := fun L => match f L with
  | some (b, M) => some (!b, M)
  | none => none
abbrev PWd (X : Cx) (e : Expr) (f : FT) : Prop := PW X e (tT (gp X) X.N.length f)
theorem impW {X : Cx} {e : Expr} {t t' : TT} (h : PW X e t) (i : ∀ σ H Q, t' σ H Q → t σ H Q) : PW X e t' := ⟨fun wh pins s σ H Q I q => h.run wh pins s σ H Q I (i σ H Q q)⟩
variable {ta tb : FT} {rest : List Expr}
theorem w_and1 (ha : PTd X a ta) : PWd X (.BoolOp .And [a] pos) ta := pw_and1 ha
theorem w_or1 (ha : PTd X a ta) : PWd X (.BoolOp .Or [a] pos) ta := pw_or1 ha
theorem w_and (ha : PTd X a ta) (hb : PWd X (.BoolOp .And (b :: rest) pos) tb) : PWd X (.BoolOp .And (a :: b :: rest) pos) (fAnd ta tb) :=
  impW (pw_and ha hb) (by
    rintro σ H Q ⟨R, Fm, L, T, τ, x, k, L', e, q⟩
    unfold fAnd at e
    split at e
    · rename_i M er
      refine ⟨R, Fm, L, T, τ, x, true, M, er, fun R' H' s y => ?_⟩
      exact iteT (⟨R', Fm, M, T, τ, y, k, L', e, fun R2 H2 s2 => q R2 H2 (s.trans s2)⟩)
    · rename_i M er
      cases e
      exact ⟨R, Fm, L, T, τ, x, false, _, er, fun R' H' s y => iteF (q R' H' s y)⟩
    · cases e)
theorem w_or (ha : PTd X a ta) (hb : PWd X (.BoolOp .Or (b :: rest) pos) tb) : PWd X (.BoolOp .Or (a :: b :: rest) pos) (fOr ta tb) :=
  impW (pw_or ha hb) (by
    rintro σ H Q ⟨R, Fm, L, T, τ, x, k, L', e, q⟩
    unfold fOr at e
    split at e
    · rename_i M er
      cases e
      exact ⟨R, Fm, L, T, τ, x, true, _, er, fun R' H' s y => iteT (q R' H' s y)⟩
    · rename_i M er
      refine ⟨R, Fm, L, T, τ, x, false, M, er, fun R' H' s y => ?_⟩
      exact iteF (⟨R', Fm, M, T, τ, y, k, L', e, fun R2 H2 s2 => q R2 H2 (s.trans s2)⟩)
    · cases e)
theorem t_not (ha : PTd X a ta) : PTd X (.UnaryOp .Not a pos) (fNot ta) :=
  impT (pt_not ha) (by
    rintro σ H Q ⟨R, Fm, L, T, τ, x, k, L', e, q⟩
    unfold fNot at e
    split at e
    · rename_i b M er
      cases e
      exact ⟨R, Fm, L, T, τ, x, b, _, er, fun R' H' s y => q R' H' s y⟩
    · cases e)
/-- as values -/
def fAndV (f g : FE) : FE := fun L => match fB f L with
  | some (true, M) => g M
  | some (false, M) => some (.ow (.fz (.bool false)), M)
  | none => none
def fOrV (f g : FE) : FE := fun L => match fB f L with
  | some (true, M) => some (.ow (.fz (.bool true)), M)
  | some (false, M) => g M
  | none => none
def fNotV (f : FE) : FE := fun L => match fB f L with
  | some (b, M) => some (.ow (.fz (.bool (!b))), M)
  | none => none
theorem d_one {op} (h : PEd X a fa) : PEd X (.BoolOp op [a] pos) fa := pe_one h
theorem d_and (ha : PEd X a fa) (hb : PEd X (.BoolOp .And (b :: rest) pos) fb) : PEd X (.BoolOp .And (a :: b :: rest) pos) (fAndV fa fb) :=
  imp (pe_and ha hb) (by
    rintro σ H Q ⟨R, Fm, L, T, τ, x, r, L', e, q⟩
    unfold fAndV at e
    refine tB_of σ H (fun k H' => if k = true then _ else _) ?_
    split at e
    · rename_i M er
      refine ⟨R, Fm, L, T, τ, x, true, M, er, fun R' H' s y => ?_⟩
      exact iteT (⟨R', Fm, M, T, τ, y, r, L', e, fun R2 v H2 s2 => q R2 v H2 (s.trans s2)⟩)
    · rename_i M er
      cases e
      exact ⟨R, Fm, L, T, τ, x, false, _, er, fun R' H' s y => iteF (q R' _ H' s (y.push (.bl false)))⟩
    · cases e)
theorem d_or (ha : PEd X a fa) (hb : PEd X (.BoolOp .Or (b :: rest) pos) fb) : PEd X (.BoolOp .Or (a :: b :: rest) pos) (fOrV fa fb) :=
  imp (pe_or ha hb) (by
    rintro σ H Q ⟨R, Fm, L, T, τ, x, r, L', e, q⟩
    unfold fOrV at e
    refine tB_of σ H (fun k H' => if k = true then _ else _) ?_
    split at e
    · rename_i M er
      cases e
      exact ⟨R, Fm, L, T, τ, x, true, _, er, fun R' H' s y => iteT (q R' _ H' s (y.push (.bl true)))⟩
    · rename_i M er
      refine ⟨R, Fm, L, T, τ, x, false, M, er, fun R' H' s y => ?_⟩
      exact iteF (⟨R', Fm, M, T, τ, y, r, L', e, fun R2 v H2 s2 => q R2 v H2 (s.trans s2)⟩)
    · cases e)
theorem d_not (ha : PEd X a fa) : PEd X (.UnaryOp .Not a pos) (fNotV fa) :=
  imp (pe_not ha) (by
    rintro σ H Q ⟨R, Fm, L, T, τ, x, r, L', e, q⟩
    unfold fNotV at e
    refine tB_of σ H (fun k H' => Q (.bl (!k)) H') ?_
    split at e
    · rename_i b M er
      cases e
      exact ⟨R, Fm, L, T, τ, x, b, _, er, fun R' H' s y => q R' _ H' s (y.push (.bl _))⟩
    · cases e)
def fIf (t : FT) (f g : FE) : FE := fun L => match t L with
  | some (true, M) => f M
  | some (false, M) => g M
  | none => none
theorem d_if (hc : PTd X c ta) (ha : PEd X a fa) (hb : PEd X b fb) : PEd X (.IfExp c a b pos) (fIf ta fa fb) :=
  imp (pe_ifExp hc ha hb) (by
    rintro σ H Q ⟨R, Fm, L, T, τ, x, r, L', e, q⟩
    unfold fIf at e
    split at e
    · rename_i M er
      refine ⟨R, Fm, L, T, τ, x, true, M, er, fun R' H' s y => ?_⟩
      exact iteT (⟨R', Fm, M, T, τ, y, r, L', e, fun R2 v H2 s2 => q R2 v H2 (s.trans s2)⟩)
    · rename_i M er
      refine ⟨R, Fm, L, T, τ, x, false, M, er, fun R' H' s y => ?_⟩
      exact iteF (⟨R', Fm, M, T, τ, y, r, L', e, fun R2 v H2 s2 => q R2 v H2 (s.trans s2)⟩)
    · cases e)
end
end Qz
namespace Qz
open PySem PySem.Spec PyProof.Rows L2
/-! t * 1 is t -/
theorem tuple_mul1 (l : Addr) (items : Array Value) (n : Nat) (dd : Option Addr) (sl : Array (Option Value)) (u : Tok) :
    Meets (Builtin.«tuple.__mul__» ⟨[.ref l, .int 1 u], []⟩) (fun _ R s => s.heap.get? l = some { cls := .type "tuple", dict := dd, data := .seq items n, slots := sl } ∧
      R (.ok (.ret (Value.ref l))) s) :=
  .of_wp fun prog w A R s h => by
    obtain ⟨hp, g, d, tk, os⟩ := s
    obtain ⟨hl, h⟩ := h
    have f1 := AutoSeq1.idx_int
    have c0 : (decide ((1 : Int) < -(2 ^ 63)) || decide ((1 : Int) ≥ 2 ^ 63)) = false := by decide
    have c1 : (items.isEmpty || (1 : Int) == 1) = true := by simp
    wp_walk using wpAny_loadPart' hl
    repeat (first
      | (refine wpAny_ite_false (decide_eq_false (by rw [c0]; exact Bool.false_ne_true)) ?_; wp_walk using wpAny_loadPart' hl)
      | (refine wpAny_ite_true (decide_eq_true c1) ?_; wp_walk using wpAny_loadPart' hl))
    exact ⟨_, rfl, h⟩
def rRep1 (K : PySem.W.Frag) : R2 := fun x y H Q => ∃ l xs, x = .ref l ∧ y = .int 1 ∧ SqT K H l xs ∧ Q (.ref l) H
theorem op_rep1 {X : Cx} : OpR X (binaryOp .Mult) (rRep1 X.K) := by
  intro pins s σ H x y v u Q I rx ry h
  obtain ⟨l, xs, rfl, rfl, hT, q⟩ := h
  cases rx
  obtain ⟨t, rfl⟩ := ry
  obtain ⟨its, r, ⟨⟨cls, dd, data, sl⟩, ho, hc, n, hd⟩, hs⟩ := I.tuple hT
  simp only at hc hd
  subst hc hd
  refine wpAny_binaryOp_repeat_ref (T := "tuple") (U := "int") (by decide) ⟨_, ho, rfl⟩ (fun s' => typeIs_int s' 1 t) noFill_tuple_mul F.fills_int_mul F.slot_int_rmul repeat_tuple F.slot_int_index.lookup
    (call_meets F.slot_int_rmul (typeIs_int s 1 t) F.entry_int_rmul (F.args_int_rmul_2 _ _) (int_rmul_tuple 1 t l its.toArray n dd sl)
      ⟨ho, rfl, ⟨_, ho, rfl⟩, call_meets F.slot_tuple_mul ⟨_, ho, rfl⟩ F.entry_tuple_mul (F.args_tuple_mul_2 _ _) (tuple_mul1 l its.toArray n dd sl t) ⟨ho, ?_⟩⟩)
  exact ⟨.ref l, H, I, rfl, q⟩
end Qz
namespace Qz
open PySem PySem.Spec PyProof.Rows L2
section
variable {X : Cx} {a b c : Expr} {fa fb fc : FE} {pos : Pos}
/-! ### * -/
noncomputable def wide (i : Int) : Bool := sm (i.natAbs < 2 ^ 400)
def repD (n : Nat) (ds : List PyData) : List PyData := (List.replicate n ds).flatten
theorem repD_rp {R : Hp} {vs : List V} {ds : List PyData} (r : RpL R vs ds) : ∀ n, RpL R (List.replicate n vs).flatten (repD n ds)
  | 0 => .nil
  | n + 1 => by
    show RpL R (List.replicate (n + 1) vs).flatten (List.replicate (n + 1) ds).flatten
    rw [List.replicate_succ, List.replicate_succ, List.flatten_cons, List.flatten_cons]
    exact r.append (repD_rp r n)
noncomputable def gMul : OV → OV → Option Res
  | .fz (.int i), .fz (.int j) => if small64 i || small64 j || (wide i && wide j) then some (.fr (.int (i * j))) else none
  | .fz (.tuple ds), .fz (.int k) => if k = 1 then some (.fr (.tuple ds)) else if sm (2 ≤ k ∧ k ≤ 1000 ∧ ds.length ≤ 1000 ∧ ds ≠ []) then some (.fr (.tuple (repD k.toNat ds))) else none
  | a, .fz (.int k) => match lkids a with
    | some ds => if sm (-(2 ^ 63) ≤ k ∧ k < 2 ^ 63 ∧ ds.length * k.toNat ≤ sizeLine) then some (.nl (repD k.toNat ds)) else none
    | none => none
  | _, _ => none
theorem d_mul (ha : PEd X a fa) (hb : PEd X b fb) : PEd X (.BinOp a .Mult b pos) (f2 gMul fa fb) :=
  imp (pe_op (op_mul.or (op_mulW.or (op_rep1.or (op_repT.or op_rep)))) ha hb) (run2 fun R H v u a b A B d Q s ha hb e q => by
    unfold gMul at e
    split at e
    · rename_i i j
      split at e
      · rename_i h
        cases e; cases ha.int; cases hb.int
        rw [Bool.or_eq_true, Bool.or_eq_true] at h
        rcases h with (h | h) | h
        · unfold small64 at h
          exact .inl ⟨i, j, rfl, rfl, .inl (sm_iff.mp h), q.1 _ (.int _)⟩
        · unfold small64 at h
          exact .inl ⟨i, j, rfl, rfl, .inr (sm_iff.mp h), q.1 _ (.int _)⟩
        · unfold wide at h
          simp only [Bool.and_eq_true, sm_iff] at h
          exact .inr (.inl ⟨i, j, rfl, rfl, wide_mul h.1 h.2 (by decide) (by decide) (by decide), q.1 _ (.int _)⟩)
      · cases e
    · rename_i ds k
      cases hb.int
      obtain ⟨l, vs, rfl, h1, r1⟩ := ha.tup
      split at e
      · rename_i hk
        subst hk
        cases e
        exact .inr (.inr (.inl ⟨l, vs, rfl, rfl, SqT.of (s _ _ h1), q.1 _ (.tup h1 r1)⟩))
      · split at e
        · rename_i hk
          replace hk := sm_iff.mp hk
          cases e
          exact .inr (.inr (.inr (.inl ⟨l, k, vs, rfl, rfl, SqT.of (s _ _ h1), fun e => hk.2.2.2 (List.length_eq_zero_iff.mp (by rw [← r1.length, e]; rfl)), hk.1, hk.2.1, by rw [r1.length]; exact hk.2.2.1, fun p hp => q.2 p _ _ rfl hp (repD_rp r1 _)⟩)))
        · cases e
    · rename_i k hno1 hno2
      cases hb.int
      split at e
      · rename_i ds ed
        split at e
        · rename_i hk
          replace hk := sm_iff.mp hk
          cases e
          obtain ⟨l, vs, rfl, h1, r1⟩ := ha.lk s ed
          exact .inr (.inr (.inr (.inr ⟨l, k, vs, rfl, rfl, h1, hk.1, hk.2.1, by rw [r1.length]; exact hk.2.2, fun p hp => q p _ hp (repD_rp r1 _)⟩)))
        · cases e
      · cases e
    · cases e)
/-! ### a <= b <= c of numbers -/
def fChain (fa fb fc : FE) : FE := fun L => match fa L with
  | some (a, M1) => match fb M1 with
    | some (b, M2) => match con M2 a, con M2 b with
      | some (.fz (.int i)), some (.fz (.int j)) => if i ≤ j then (match fc M2 with
          | some (c, M3) => match con M3 b, con M3 c with
            | some (.fz (.int j')), some (.fz (.int k)) => some (.ow (.fz (.bool (decide (j' ≤ k)))), M3)
            | _, _ => none
          | none => none) else some (.ow (.fz (.bool false)), M2)
      | _, _ => none
    | none => none
  | none => none
theorem chain_run {G : Gp} {m : Nat} : ∀ σ H Q, tE G m (fChain fa fb fc) σ H Q → tChain (rI0 fun i j => .bl (decide (i ≤ j))) (rI0 fun i j => .bl (decide (i ≤ j))) (tE G m fa) (tE G m fb) (tE G m fc) σ H Q := by
  rintro σ H Q ⟨R, Fm, L, T, τ, x, r, L', e, q⟩
  unfold fChain at e
  split at e
  · rename_i a M1 ea
    split at e
    · rename_i b M2 eb
      split at e
      · rename_i i j ei ej
        refine ⟨R, Fm, L, T, τ, x, a, M1, ea, fun R1 v H1 s1 x1 => ⟨R1, Fm, M1, _, _, x1, b, M2, eb, fun R2 u H2 s2 x2 => ?_⟩⟩
        obtain ⟨B, ho2⟩ := x2.con ej
        obtain ⟨A, ho1⟩ := x2.drop.con ei
        cases ho1.int; cases ho2.int
        refine ⟨i, j, rfl, rfl, decide (i ≤ j), rfl, ?_⟩
        split at e
        · rename_i hij
          rw [decide_eq_true hij]
          split at e
          · rename_i c M3 ec
            split at e
            · rename_i j' k ej' ek
              cases e
              refine iteT ⟨R2, Fm, M2, _, _, x2, c, _, ec, fun R3 z H3 s3 x3 => ?_⟩
              obtain ⟨C, ho3⟩ := x3.con ek
              obtain ⟨B', ho2'⟩ := x3.drop.con ej'
              cases ho3.int
              have ej := ho2'.int
              cases ej
              exact ⟨_, k, rfl, rfl, q R3 _ H3 (s1.trans (s2.trans s3)) (x3.drop.drop.drop.push (.bl _))⟩
            · cases e
          · cases e
        · rename_i hij
          cases e
          rw [decide_eq_false hij]
          exact iteF (q R2 _ H2 (s1.trans s2) (x2.drop.drop.push (.bl _)))
      · cases e
    · cases e
  · cases e
theorem d_chain (ha : PEd X a fa) (hb : PEd X b fb) (hc : PEd X c fc) (hm : lastMarks [.LtE, .LtE] [b, c] = false := by with_unfolding_all rfl) : PEd X (.Compare a [.LtE, .LtE] [b, c] pos) (fChain fa fb fc) := imp (pe_chain op_le op_le ha hb hc hm) chain_run
/-! ### subscripts, slices -/
theorem atI_rp {R : Hp} {vs : List V} {ds : List PyData} (r : RpL R vs ds) {i : Int} {d : PyData} (e : atI ds i = some d) : ∃ v, atI vs i = some v ∧ Rp R v d := by
  unfold atI at e ⊢
  rw [r.length]
  cases h : ixN ds.length i with
  | none => rw [h] at e; cases e
  | some j =>
    rw [h] at e
    exact r.get e
def gIx : OV → OV → Option Res
  | a, .fz (.int i) => match kids a with
    | some (_, ds) => (atI ds i).map .fr
    | none => none
  | _, _ => none
theorem d_ix (ha : PEd X a fa) (hb : PEd X b fb) (hs : PlainIx b := by exact fun _ _ => rfl) : PEd X (.Subscript a b pos) (f2 gIx fa fb) :=
  imp (pe_ix (ix_list.or ix_tup) ha hb hs) (run2 fun R H v u a b A B d Q s ha hb e q => by
    unfold gIx at e
    split at e
    · rename_i i
      cases hb.int
      split at e
      · rename_i k ds ek
        obtain ⟨d', e1, e2⟩ := Option.map_eq_some_iff.mp e
        subst e2
        obtain ⟨l, vs, rfl, r, h⟩ := ha.kd s ek
        obtain ⟨z, ez, hz⟩ := atI_rp r e1
        rcases h with ⟨_, h⟩ | ⟨_, h⟩
        · exact .inl ⟨l, vs, i, z, rfl, rfl, h, ez, q.1 z hz⟩
        · exact .inr ⟨l, vs, i, z, rfl, rfl, h, ez, q.1 z hz⟩
      · cases e
    · cases e)
def cutD (ds : List PyData) (lo hi : Option Int) : List PyData := (ds.drop (HT.sIx ds.length 0 lo)).take (HT.sIx ds.length ds.length hi - HT.sIx ds.length 0 lo)
theorem cutD_rp {R : Hp} {vs : List V} {ds : List PyData} (r : RpL R vs ds) (lo hi : Option Int) : RpL R (cutV vs lo hi) (cutD ds lo hi) := by
  unfold cutV cutD
  rw [r.length]
  exact (r.drop _).take _
/-- a slice's part -/
abbrev FO := Sta → Option (Option Int × Sta)
def tO (G : Gp) (m : Nat) (f : FO) : TO := fun σ H Q => ∃ R Fm L T τ, At G m R Fm L T σ τ H ∧ ∃ b L', f L = some (b, L') ∧ ∀ R' H', Same R R' → At G m R' Fm L' T σ τ H' → Q b H'
abbrev POd (X : Cx) (e : Option Expr) (f : FO) : Prop := PO X e (tO (gp X) X.N.length f)
theorem impO {X : Cx} {e : Option Expr} {t t' : TO} (h : PO X e t) (i : ∀ σ H Q, t' σ H Q → t σ H Q) : PO X e t' := ⟨fun pins s σ H Q I q => h.run pins s σ H Q I (i σ H Q q)⟩
def foN : FO := fun L => some (none, L)
def foS (f : FE) : FO := fun L => match f L with
  | some (r, M) => match con M r with
    | some (.fz (.int i)) => some (some i, M)
    | _ => none
  | none => none
theorem o_none : POd X none foN := impO po_none (by
  rintro σ H Q ⟨R, Fm, L, T, τ, x, r, L', e, q⟩
  cases e
  exact q R H (Same.refl R) x)
theorem o_some (h : PEd X a fa) : POd X (some a) (foS fa) := impO (po_some h) (by
  rintro σ H Q ⟨R, Fm, L, T, τ, x, r, L', e, q⟩
  unfold foS at e
  split at e
  · rename_i r' M er
    split at e
    · rename_i i ei
      cases e
      refine ⟨R, Fm, L, T, τ, x, r', _, er, fun R' v H' s y => ?_⟩
      obtain ⟨A, ho⟩ := y.con ei
      cases ho.int
      exact ⟨i, rfl, q R' H' s y.drop⟩
    · cases e
  · cases e)
def fSl (fa : FE) (fl fh : FO) : FE := fun L => match fa L with
  | some (a, M1) => match fl M1 with
    | some (lo, M2) => match fh M2 with
      | some (hi, M3) => match con M3 a with
        | some o => match kids o with
          | some (true, ds) => some (.ow (.fz (.tuple (cutD ds lo hi))), M3)
          | some (false, ds) => some (.ow (.ls ((cutD ds lo hi).map .fz)), M3)
          | none => none
        | none => none
      | none => none
    | none => none
  | none => none
theorem d_slice {lo hi : Option Expr} {fl fh : FO} {p2 : Pos} (ha : PEd X a fa) (hl : POd X lo fl) (hh : POd X hi fh) : PEd X (.Subscript a (.Slice lo hi none p2) pos) (fSl fa fl fh) :=
  imp (pe_slice (sl_list.or sl_tupA) ha hl hh) (by
    rintro σ H Q ⟨R, Fm, L, T, τ, x, r, L', e, q⟩
    unfold fSl at e
    split at e
    · rename_i a M1 ea
      split at e
      · rename_i l M2 el
        split at e
        · rename_i u M3 eu
          split at e
          · rename_i o eo
            refine ⟨R, Fm, L, T, τ, x, a, M1, ea, fun R1 v H1 s1 x1 => ⟨R1, Fm, M1, _, _, x1, l, M2, el, fun R2 H2 s2 x2 => ⟨R2, Fm, M2, _, _, x2, u, M3, eu, fun R3 H3 s3 x3 => ?_⟩⟩⟩
            obtain ⟨A, ho⟩ := x3.con eo
            split at e
            · rename_i ds ek
              cases e
              obtain ⟨p, vs, rfl, rr, h⟩ := ho.kd x3.rel.rh ek
              rcases h with ⟨h, _⟩ | ⟨_, h⟩
              · cases h
              · have nw := x3.drop.new (res := .fr (.tuple (cutD ds l u))) fun R' v H' s y => q R' v H' (s1.trans (s2.trans (s3.trans s))) y
                refine .inr ⟨p, vs, rfl, h, fun hw => nw.1 _ ?_, fun _ p' hp => nw.2 p' _ _ rfl hp (cutD_rp rr l u)⟩
                have e1 : cutD ds l u = ds := by
                  unfold cutD
                  rw [← rr.length, hw.1, hw.2, rr.length]
                  simp
                rw [e1]
                obtain ⟨p', vs', e2, h1, h2⟩ := Ow.tup (ds := ds) (G := gp X) (R := R3) (H := H3) (A := A) (v := .ref p) (by
                  cases o with
                  | fz d =>
                    cases d <;> simp [kids, lkids] at ek
                    rw [ek] at ho
                    exact ho
                  | fo o => simp [kids, lkids] at ek
                  | nd k os => cases k <;> simp [kids, lkids] at ek)
                cases e2
                exact .tup h1 h2
            · rename_i ds ek
              cases e
              obtain ⟨p, vs, rfl, rr, h⟩ := ho.kd x3.rel.rh ek
              rcases h with ⟨_, h⟩ | ⟨h, _⟩
              · have nw := x3.drop.new (res := .nl (cutD ds l u)) fun R' v H' s y => q R' v H' (s1.trans (s2.trans (s3.trans s))) y
                exact .inl ⟨p, vs, rfl, h, fun p' hp => nw p' _ hp (cutD_rp rr l u)⟩
              · cases h
            · cases e
          · cases e
        · cases e
      · cases e
    · cases e)
/-! ### built-ins of one argument -/
theorem mkCB {id : String} {x : Str} {r : List V → Hp → VK → Prop} {g : OV → Option Res} {p : Pos} (hc : CallR X (.builtin id) r) (hg : Gl X x) (hm : X.mg x = none) (hv : bootBuiltins x = some (.builtin id))
    (hk : ∀ R H v a A d Q, Same R H → Ow (gp X) R H v a A → g a = some d → New R H Q d → r [v] H Q) (ha : PEd X a fa) (hn : x ≠ "__name__" := by decide) (hdb : (x == ("__debug__" : Str)) = false := by decide)
    (he : starEach [a] X.env = (false, eval a X.env) :: starEach [] X.env := by rfl) : PEd X (.Call (.Name x p) [a] [] pos) (f1 g fa) :=
  imp (pe_callB hc hg hm hv (pa_cons ha pa_nil he) hn hdb he) (run1 (k := fun v H Q => r [v] H Q) hk)
theorem mkCT {T : String} {x : Str} {r : List V → Hp → VK → Prop} {g : OV → Option Res} {p : Pos} (hc : CallR X (.type T) r) (hg : Gl X x) (hm : X.mg x = none) (hv : bootBuiltins x = some (.type T))
    (hk : ∀ R H v a A d Q, Same R H → Ow (gp X) R H v a A → g a = some d → New R H Q d → r [v] H Q) (ha : PEd X a fa) (hn : x ≠ "__name__" := by decide) (hdb : (x == ("__debug__" : Str)) = false := by decide)
    (he : starEach [a] X.env = (false, eval a X.env) :: starEach [] X.env := by rfl) : PEd X (.Call (.Name x p) [a] [] pos) (f1 g fa) :=
  imp (pe_callTy hc hg hm hv (pa_cons ha pa_nil he) hn hdb he) (run1 (k := fun v H Q => r [v] H Q) hk)
def gLen : OV → Option Res
  | .fz (.str x) => if x.length ≤ sizeLine then some (.fr (.int x.length)) else none
  | o => (kids o).map fun p => .fr (.int p.2.length)
theorem d_len {p : Pos} (hg : Gl X "len") (hm : X.mg "len" = none) (ha : PEd X a fa) (he : starEach [a] X.env = (false, eval a X.env) :: starEach [] X.env := by rfl) : PEd X (.Call (.Name "len" p) [a] [] pos) (f1 gLen fa) :=
  mkCB (call_len_seq.or call_len_str) hg hm PySem.boot_len (fun R H v a A d Q s ha e q => by
    unfold gLen at e
    split at e
    · rename_i x
      split at e
      · rename_i h
        cases e; cases ha.str
        exact .inr ⟨x, rfl, h, q.1 _ (.int _)⟩
      · cases e
    · obtain ⟨⟨k, ds⟩, e1, e2⟩ := Option.map_eq_some_iff.mp e
      subst e2
      obtain ⟨l, vs, rfl, rr, h⟩ := ha.kd s e1
      refine .inl ⟨l, vs, rfl, h.imp And.right And.right, ?_⟩
      rw [rr.length]
      exact q.1 _ (.int _)) ha (he := he)
def gTuple (o : OV) : Option Res := (kids o).map fun p => .fr (.tuple p.2)
theorem boot_tupleT : bootBuiltins "tuple" = some (.type "tuple") := by decide +kernel
theorem d_tuple {p : Pos} (hg : Gl X "tuple") (hm : X.mg "tuple" = none) (ha : PEd X a fa) (he : starEach [a] X.env = (false, eval a X.env) :: starEach [] X.env := by rfl) : PEd X (.Call (.Name "tuple" p) [a] [] pos) (f1 gTuple fa) :=
  mkCT call_tuple_of hg hm boot_tupleT (fun R H v a A d Q s ha e q => by
    unfold gTuple at e
    obtain ⟨⟨k, ds⟩, e1, e2⟩ := Option.map_eq_some_iff.mp e
    subst e2
    obtain ⟨l, vs, rfl, rr, h⟩ := ha.kd s e1
    refine ⟨l, vs, rfl, ?_⟩
    rcases h with ⟨_, h⟩ | ⟨hk, h⟩
    · exact .inl ⟨h, fun p hp => q.2 p _ _ rfl hp rr⟩
    · refine .inr ⟨h, q.1 _ ?_⟩
      subst hk
      obtain ⟨p', vs', e2, h1, h2⟩ := Ow.tup (ds := ds) (G := gp X) (R := R) (H := H) (A := A) (v := .ref l) (by
        cases a with
        | fz d =>
          cases d <;> simp [kids, lkids] at e1
          rw [e1] at ha
          exact ha
        | fo o => simp [kids, lkids] at e1
        | nd k os => cases k <;> simp [kids, lkids] at e1)
      cases e2
      exact .tup h1 h2) ha (he := he)
def gList (o : OV) : Option Res := (kids o).map fun p => .nl p.2
theorem boot_listT : bootBuiltins "list" = some (.type "list") := by decide +kernel
theorem d_list {p : Pos} (hg : Gl X "list") (hm : X.mg "list" = none) (ha : PEd X a fa) (he : starEach [a] X.env = (false, eval a X.env) :: starEach [] X.env := by rfl) : PEd X (.Call (.Name "list" p) [a] [] pos) (f1 gList fa) :=
  mkCT call_list_of hg hm boot_listT (fun R H v a A d Q s ha e q => by
    unfold gList at e
    obtain ⟨⟨k, ds⟩, e1, e2⟩ := Option.map_eq_some_iff.mp e
    subst e2
    obtain ⟨l, vs, rfl, rr, h⟩ := ha.kd s e1
    exact ⟨l, vs, rfl, h.imp And.right And.right, fun p hp => q p _ hp rr⟩) ha (he := he)
/-! all, any of bools -/
def bools : List PyData → Option (List Bool)
  | [] => some []
  | .bool b :: r => (bools r).map (b :: ·)
  | _ :: _ => none
theorem bools_rp {R : Hp} : ∀ {vs : List V} {ds : List PyData} {bs : List Bool}, RpL R vs ds → bools ds = some bs → vs = bs.map V.bl
  | _, _, _, .nil, e => by simp [bools] at e; subst e; rfl
  | _, _, _, .cons h r, e => by
    cases h <;> simp only [bools] at e <;> first | (cases e; done) | skip
    obtain ⟨bs', e1, e2⟩ := Option.map_eq_some_iff.mp e
    subst e2
    rw [bools_rp r e1]
    rfl
def gAll (o : OV) : Option Res := (lkids o).bind fun ds => (bools ds).map fun bs => .fr (.bool (bs.all id))
def gAny (o : OV) : Option Res := (lkids o).bind fun ds => (bools ds).map fun bs => .fr (.bool (bs.any id))
theorem d_all {p : Pos} (hc : X.calm = true) (hg : Gl X "all") (hm : X.mg "all" = none) (ha : PEd X a fa) (he : starEach [a] X.env = (false, eval a X.env) :: starEach [] X.env := by rfl) : PEd X (.Call (.Name "all" p) [a] [] pos) (f1 gAll fa) :=
  mkCB (cr_all hc) hg hm (by decide +kernel) (fun R H v a A d Q s ha e q => by
    unfold gAll at e
    obtain ⟨ds, e1, e2⟩ := Option.bind_eq_some_iff.mp e
    obtain ⟨bs, e3, e4⟩ := Option.map_eq_some_iff.mp e2
    subst e4
    obtain ⟨l, vs, rfl, h, rr⟩ := ha.lk s e1
    have ev := bools_rp rr e3
    subst ev
    exact ⟨l, bs, rfl, SqL.of h, q.1 _ (.bl _)⟩) ha (he := he)
theorem d_any {p : Pos} (hc : X.calm = true) (hg : Gl X "any") (hm : X.mg "any" = none) (ha : PEd X a fa) (he : starEach [a] X.env = (false, eval a X.env) :: starEach [] X.env := by rfl) : PEd X (.Call (.Name "any" p) [a] [] pos) (f1 gAny fa) :=
  mkCB (cr_any hc) hg hm (by decide +kernel) (fun R H v a A d Q s ha e q => by
    unfold gAny at e
    obtain ⟨ds, e1, e2⟩ := Option.bind_eq_some_iff.mp e
    obtain ⟨bs, e3, e4⟩ := Option.map_eq_some_iff.mp e2
    subst e4
    obtain ⟨l, vs, rfl, h, rr⟩ := ha.lk s e1
    have ev := bools_rp rr e3
    subst ev
    exact ⟨l, bs, rfl, SqL.of h, q.1 _ (.bl _)⟩) ha (he := he)
end
end Qz
namespace Qz
open PySem PySem.Spec PyProof.Rows L2
/-! ### taking what lies on top -/
def tk (L : Sta) : SV → Option (OV × Sta)
  | .ow o => some (o, L)
  | .rf k => match L[k]? with
    | some (.ow (.fz d)) => some (.fz d, L)
    | some (.bo (.fz d)) => some (.fz d, L)
    | some (.ow o) => match o.dat with
      | some d => some (.fz d, L.set k (.ow (.fz d)))
      | none => none
    | _ => none
  | _ => none
section
variable {G : Gp} {m : Nat} {R H : Hp} {Fm : Fr} {L L' T : Sta} {σ : L2.St} {τ : List (Option V)} {v : V} {r : SV} {o : OV}
theorem At.tk (x : At G m R Fm L (T ++ [r]) σ (τ ++ [some v]) H) (e : tk L r = some (o, L')) : ∃ R', Same R R' ∧ At G m R' Fm L' (T ++ [.ow o]) σ (τ ++ [some v]) H := by
  cases r with
  | no => cases e
  | bo o' => cases e
  | fb o' => cases e
  | ow o' =>
    cases e
    exact ⟨R, Same.refl R, x⟩
  | rf k =>
    unfold Qz.tk at e
    simp only at e
    split at e
    · rename_i d ek
      cases e
      obtain ⟨A, ho⟩ := x.con (o := .fz d) (by simp only [Qz.con, Qz.conI]; rw [ek])
      cases ho with
      | fz h => exact ⟨R, Same.refl R, x.drop.push h⟩
    · rename_i d ek
      cases e
      obtain ⟨A, ho⟩ := x.con (o := .fz d) (by simp only [Qz.con, Qz.conI]; rw [ek])
      cases ho with
      | fz h => exact ⟨R, Same.refl R, x.drop.push h⟩
    · rename_i o' hno ek
      split at e
      · rename_i d ed
        cases e
        have hk : k < L.length := (List.getElem?_eq_some_iff.mp ek).1
        have rel := x.rel
        obtain ⟨R', s, y⟩ := rel.freezeAt (k := k) (o := o') (by rw [List.getElem?_append_left hk]; exact ek) ed
        rw [List.set_append_left _ _ hk] at y
        have z : At G m R' Fm (L.set k (.ow (.fz d))) (T ++ [.rf k]) σ (τ ++ [some v]) H := ⟨x.sl, by simpa using x.ge, by simpa using y⟩
        obtain ⟨A, ho⟩ := z.con (o := .fz d) (by simp only [Qz.con, Qz.conI]; rw [List.getElem?_set_self hk])
        cases ho with
        | fz h => exact ⟨R', s, z.drop.push h⟩
      · cases e
    · cases e
end
/-! ### arguments, displays -/
def fArgs : List FE → Sta → Option (List OV × Sta)
  | [], L => some ([], L)
  | f :: fs, L => match f L with
    | some (r, M) => match tk M r with
      | some (o, M') => match fArgs fs M' with
        | some (os, M'') => some (o :: os, M'')
        | none => none
      | none => none
    | none => none
def tA (G : Gp) (m : Nat) (fs : List FE) : TA := fun σ H Q => ∃ R Fm L T τ, At G m R Fm L T σ τ H ∧ ∃ os L', fArgs fs L = some (os, L') ∧
  ∀ R' vs H', Same R R' → vs.length = os.length → At G m R' Fm L' (T ++ os.map .ow) σ (τ ++ vs.map some) H' → Q vs H'
abbrev PAd (X : Cx) (es : List Expr) (fs : List FE) : Prop := PA X es (tA (gp X) X.N.length fs)
theorem impA {X : Cx} {es : List Expr} {t t' : TA} (h : PA X es t) (i : ∀ σ H Q, t' σ H Q → t σ H Q) : PA X es t' := ⟨fun pos pins s σ H Q I q => h.run pos pins s σ H Q I (i σ H Q q)⟩
/-- several temporaries into the bundle -/
theorem RelX.gatherN {G : Gp} {n : Nat} {R H : Hp} {Fm : Fr} : ∀ {os : List OV} {vs : List V} {its : List SV} {vals : List (Option V)} {ws : List V} {ps : List OV}, vs.length = os.length → n ≤ its.length →
    RelX G n R Fm (its ++ os.map .ow) (vals ++ vs.map some) H ws ps → RelX G n R Fm its vals H (vs ++ ws) (os ++ ps)
  | [], [], its, vals, ws, ps, _, _, x => by simpa using x
  | [], _ :: _, _, _, _, _, e, _, _ => by simp at e
  | _ :: _, [], _, _, _, _, e, _, _ => by simp at e
  | o :: os, v :: vs, its, vals, ws, ps, e, hn, x => by
    have x' : RelX G n R Fm ((its ++ [.ow o]) ++ os.map .ow) ((vals ++ [some v]) ++ vs.map some) H ws ps := by simpa using x
    exact (RelX.gatherN (by simpa using e) (by simp; omega) x').gather hn
theorem At.takeN {G : Gp} {m : Nat} {R H : Hp} {Fm : Fr} {L T : Sta} {σ : L2.St} {τ : List (Option V)} {vs : List V} {os : List OV} (e : vs.length = os.length) (x : At G m R Fm L (T ++ os.map .ow) σ (τ ++ vs.map some) H) : RelX G L.length R Fm (L ++ T) (σ ++ τ) H vs os := by
  have := x.rel
  rw [← List.append_assoc, ← List.append_assoc] at this
  have := RelX.gatherN e (by simp) this
  simpa using this
section
variable {X : Cx} {a b c : Expr} {fa fb fc : FE} {es : List Expr} {fs : List FE} {pos : Pos}
theorem a_nil : PAd X [] [] := impA pa_nil (by
  rintro σ H Q ⟨R, Fm, L, T, τ, x, os, L', e, q⟩
  cases e
  exact q R [] H (Same.refl R) rfl (by simpa using x))
theorem a_cons (ha : PEd X a fa) (hr : PAd X es fs) (hs : starEach (a :: es) X.env = (false, eval a X.env) :: starEach es X.env := by rfl) : PAd X (a :: es) (fa :: fs) := impA (pa_cons ha hr hs) (by
  rintro σ H Q ⟨R, Fm, L, T, τ, x, os, L', e, q⟩
  unfold fArgs at e
  split at e
  · rename_i r M er
    split at e
    · rename_i o M' eo
      split at e
      · rename_i os' M'' eos
        cases e
        refine ⟨R, Fm, L, T, τ, x, r, M, er, fun R1 v H1 s1 x1 => ?_⟩
        obtain ⟨R2, s2, x2⟩ := x1.tk eo
        refine ⟨R2, Fm, M', _, _, x2, os', _, eos, fun R3 vs H3 s3 hl x3 => q R3 (v :: vs) H3 (s1.trans (s2.trans s3)) (by simp [hl]) (by simpa using x3)⟩
      · cases e
    · cases e
  · cases e)
def fTup (fs : List FE) : FE := fun L => match fArgs fs L with
  | some (os, M) => match OV.dats os with
    | some ds => if ds.length ≤ sizeLine then some (.ow (.fz (.tuple ds)), M) else none
    | none => none
  | none => none
def fLst (fs : List FE) : FE := fun L => match fArgs fs L with
  | some (os, M) => if os.length ≤ sizeLine then some (.ow (.ls os), M) else none
  | none => none
theorem d_tup {x1} (h : PAd X es fs) : PEd X (.Tuple es x1 pos) (fTup fs) := imp (pe_tup h) (by
  rintro σ H Q ⟨R, Fm, L, T, τ, x, r, L', e, q⟩
  unfold fTup at e
  split at e
  · rename_i os M eo
    split at e
    · rename_i ds ed
      split at e
      · rename_i hz
        cases e
        refine ⟨R, Fm, L, T, τ, x, os, _, eo, fun R1 vs H1 s1 hl x1 => ?_⟩
        have y := x1.takeN hl
        obtain ⟨R2, s2, rp, z⟩ := y.freezeB ed
        refine ⟨by rw [rp.length]; exact hz, fun p hp => ?_⟩
        obtain ⟨s3, z3, h3⟩ := z.allocT hp rp
        exact q _ _ _ (s1.trans (s2.trans s3)) ((At.mk x1.sl x1.ge z3).push h3)
      · cases e
    · cases e
  · cases e)
theorem d_lst (h : PAd X es fs) : PEd X (.List es pos) (fLst fs) := imp (pe_lst h) (by
  rintro σ H Q ⟨R, Fm, L, T, τ, x, r, L', e, q⟩
  unfold fLst at e
  split at e
  · rename_i os M eo
    split at e
    · rename_i hz
      cases e
      refine ⟨R, Fm, L, T, τ, x, os, _, eo, fun R1 vs H1 s1 hl x1 => ⟨by rw [hl]; exact hz, fun p hp => ?_⟩⟩
      exact q R1 _ _ s1 (At.put1 x1.sl x1.ge ((x1.takeN hl).allocL hp))
    · cases e
  · cases e)
end
/-! ### calls of the text's own defs -/
/-- all that is not frozen -/
def rest (R H : Hp) : Hp := fun a => match R a with
  | none => H a
  | some _ => none
theorem rest_of {R H : Hp} {a : Addr} (h : R a = none) : rest R H a = H a := by unfold rest; rw [h]
theorem rest_some {R H : Hp} {a : Addr} {o : HO} (h : rest R H a = some o) : R a = none ∧ H a = some o := by
  unfold rest at h
  split at h
  · rename_i e; exact ⟨e, h⟩
  · cases h
section
variable {G : Gp} {n : Nat} {R R' H H' : Hp} {Fm : Fr} {its : List SV} {vals : List (Option V)}
theorem frz_rest (x : Rel G n R Fm its vals H) : Frz H (rest R H) := fun b o u q => by
  have hR : R b = none := by
    cases e : R b with
    | none => rfl
    | some z =>
      have := x.rh b z e
      rw [q] at this
      cases this
      exact absurd e (x.dj.2 b o u)
  rw [rest_of hR]; exact q
theorem rest_un (s : Same R H) : Same H (un (rest R H) R) := fun a u q => by
  unfold un rest
  cases e : R a with
  | none => simp [q]
  | some z => rw [s a z e] at q; simpa using q
theorem RelX.lentI (x : Rel G n R Fm its vals H) {k : Nat} {o : OV} (e : Qz.conI its k = some o) : ∃ v A, vals[k]? = some (some v) ∧ Ow G R (un (rest R H) R) v o A := by
  obtain ⟨fp, B, h1, _, _, _, h5, _⟩ := x.ex
  unfold Qz.conI at e
  split at e
  · rename_i o' q
    cases e
    obtain ⟨v, e1, e2⟩ := h1 k _ q
    exact ⟨v, _, e1, e2.frame (frz_same (rest_un x.rh)) fun b _ u q => rest_un x.rh b u q⟩
  · rename_i o' q
    cases e
    obtain ⟨_, v, B, e1, e2⟩ := h1 k _ q
    have t : Same (un Fm.bo R) (un (rest R H) R) := (un_to (Fm.sub.trans x.fh) x.rh).trans (rest_un x.rh)
    exact ⟨v, B, e1, e2.frame (frz_same t) fun b _ u q => t b u q⟩
  · rename_i o' q
    cases e
    obtain ⟨_, v, B, e1, e2⟩ := h1 k _ q
    exact ⟨v, B, e1, e2.frame (frz_same (x.rh.trans (rest_un x.rh))) fun b _ u q => (x.rh.trans (rest_un x.rh)) b u q⟩
  · cases e
theorem RelX.lent (x : Rel G n R Fm its vals H) {L : List SV} {i : Nat} {r : SV} {o : OV} (hi : its[i]? = some r) (hL : ∀ k, k < n → its[k]? = L[k]?) (e : Qz.con L r = some o) : ∃ v A, vals[i]? = some (some v) ∧ Ow G R (un (rest R H) R) v o A := by
  cases r with
  | no => simp [Qz.con] at e
  | ow o' =>
    simp only [Qz.con, Option.some.injEq] at e
    subst e
    exact x.lentI (by unfold Qz.conI; rw [hi])
  | bo o' => simp [Qz.con] at e
  | fb o' => simp [Qz.con] at e
  | rf k =>
    obtain ⟨fp, B, h1, _⟩ := x.ex
    obtain ⟨_, hk, v, e1, e2⟩ := h1 i _ hi
    have e' : Qz.conI its k = some o := by
      simp only [Qz.con, Qz.conI] at e ⊢
      rw [hL k hk]
      exact e
    obtain ⟨v', A, e3, h⟩ := x.lentI e'
    rw [e2] at e3
    cases e3
    exact ⟨v, A, e1, h⟩
/-- all that is not frozen is kept -/
def restF (R H : Hp) : Fr := ⟨rest R H, rest R H, Same.refl _⟩
/-- into a def: its arguments borrowed -/
theorem RelX.enterP (x : Rel G n R Fm its vals H) {os : List OV} {vs : List V} (hl : vs.length = os.length) (h : ∀ (j : Nat) (o : OV), os[j]? = some o → ∃ v B, vs[j]? = some v ∧ Ow G R (un (rest R H) R) v o B) : Rel G 0 R (restF R H) (os.map .bo) (vs.map some) H := by
  refine ⟨by simp [hl], x.rh, fun a u q => (rest_some q).2, ⟨fun a u q => (rest_some q).1, x.dj.2⟩, fun _ => [], [], fun i sv e => ?_, fun _ _ => rfl, fun _ => List.nodup_nil, fun _ _ _ q => by simp at q, fun _ _ q => by simp at q, .nil, List.nodup_nil, fun _ q => by simp at q⟩
  rw [List.getElem?_map] at e
  cases eo : os[i]? with
  | none => rw [eo] at e; cases e
  | some o =>
    rw [eo] at e
    cases e
    obtain ⟨v, B, e1, e2⟩ := h i o eo
    exact ⟨rfl, v, B, by rw [List.getElem?_map, e1]; rfl, e2⟩
/-- out of it -/
theorem RelX.leaveP (x : Rel G n R Fm its vals H) (s : Same R R') {ws : List V} {ps : List OV} (y : RelX G 0 R' (restF R H) [] [] H' ws ps) : RelX G n R' Fm its vals H' ws ps := by
  obtain ⟨fp, B, h1, h2, h3, h4, h5, h6, h7, h8⟩ := x.ex
  obtain ⟨_, B', _, _, _, _, _, k6, k7, k8⟩ := y.ex
  have fz : Frz H H' := fun b o u q => y.fh b _ (frz_rest x b o u q)
  have kp : ∀ b u, R b = none → H b = some u → H' b = some u := fun b u h q => y.fh b u (by show rest R H b = some u; rw [rest_of h]; exact q)
  have off : ∀ b u, R b = none → H b = some u → R' b = none := fun b u h q => y.dj.1 b u (by show rest R H b = some u; rw [rest_of h]; exact q)
  refine ⟨x.len, y.rh, fun b u q => kp b u (x.dj.1 b u q) (x.fh b u q), ⟨fun b u q => off b u (x.dj.1 b u q) (x.fh b u q), y.dj.2⟩, fp, B', fun i sv e => ?_, h2, h3, h4, fun i a hi => ?_, k6, k7, fun a ha => ?_⟩
  · exact ((h1 i sv e).mono s).frame fz fun b hb u q => kp b u (h5 i b hb).1 q
  · have hlt : i < its.length := Nat.lt_of_not_le fun h => by rw [h2 i h] at hi; simp at hi
    obtain ⟨u, q⟩ := (h1 i _ (List.getElem?_eq_getElem hlt)).live a hi
    exact ⟨off a u (h5 i a hi).1 q, (h5 i a hi).2⟩
  · obtain ⟨r1, r2, _⟩ := k8 a ha
    have r2 : rest R H a = none := r2
    have nl : ∀ u, R a = none → H a ≠ some u := fun u h q => by rw [rest_of h, q] at r2; cases r2
    have hR : R a = none := s.free r1
    refine ⟨r1, ?_, fun i hi => ?_⟩
    · cases q : Fm.fm a with
      | none => rfl
      | some u => exact absurd (x.fh a u q) (nl u hR)
    · have hlt : i < its.length := Nat.lt_of_not_le fun h => by rw [h2 i h] at hi; simp at hi
      obtain ⟨u, q⟩ := (h1 i _ (List.getElem?_eq_getElem hlt)).live a hi
      exact nl u hR q
/-- into a def that changes the item k -/
theorem RelX.ioK (x : Rel G n R Fm its vals H) {k : Nat} {o : OV} (hk : its[k]? = some (.ow o)) : ∃ (Fc : Fr) (vk : V), vals[k]? = some (some vk) ∧
    (∀ i r L o', its[i]? = some r → (∀ j, j < n → its[j]? = L[j]?) → r ≠ .rf k → i ≠ k → Qz.con L r = some o' → ∃ v A, vals[i]? = some (some v) ∧ Ow G R (un Fc.bo R) v o' A) ∧
    (∀ (ic : List SV) (vc : List (Option V)) (j : Nat), ic.length = vc.length → ic[j]? = some (.ow o) → vc[j]? = some (some vk) → (∀ i sv, ic[i]? = some sv → i ≠ j → ∃ o' v B, sv = .bo o' ∧ vc[i]? = some (some v) ∧ Ow G R (un Fc.bo R) v o' B) → Rel G 0 R Fc ic vc H) ∧
    ∀ R' H' ws ps o', Same R R' → RelX G 0 R' Fc [] [] H' (vk :: ws) (o' :: ps) → RelX G n R' Fm (its.set k (.ow o')) vals H' ws ps := by
  obtain ⟨fp, B, h1, h2, h3, h4, h5, h6, h7, h8⟩ := x.ex
  have hlt : k < its.length := (List.getElem?_eq_some_iff.mp hk).1
  obtain ⟨vk, ev, ho⟩ := h1 k _ hk
  let Fc : Hp := fun a => if a ∈ fp k then none else rest R H a
  have c1 : ∀ a, a ∉ fp k → Fc a = rest R H a := fun a h => if_neg h
  have c2 : ∀ a u, Fc a = some u → a ∉ fp k ∧ R a = none ∧ H a = some u := fun a u q => by
    by_cases h : a ∈ fp k
    · have : Fc a = none := if_pos h
      rw [this] at q; cases q
    · rw [c1 a h] at q
      exact ⟨h, (rest_some q).1, (rest_some q).2⟩
  have fzc : Frz H Fc := fun b o' u q => by
    rw [c1 b fun h => ho.nofrz b h o' u q]
    exact frz_rest x b o' u q
  refine ⟨⟨Fc, Fc, Same.refl _⟩, vk, ev, fun i r L o' hi hL hr hik e => ?_, fun ic vc j hl hj hv hb => ?_, fun R' H' ws ps o' s y => ?_⟩
  · have lend : ∀ i', i' ≠ k → ∀ o', Qz.conI its i' = some o' → ∃ v A, vals[i']? = some (some v) ∧ Ow G R (un Fc R) v o' A := fun i' hi' o' e => by
      unfold Qz.conI at e
      split at e
      · rename_i o'' q
        cases e
        obtain ⟨v, e1, e2⟩ := h1 i' _ q
        exact ⟨v, _, e1, e2.frame (fun b o u q => un_F b _ (fzc b o u q)) fun b hb u q => un_F b u (by rw [c1 b fun h => hi' (h4 i' k b hb h), rest_of (h5 i' b hb).1]; exact q)⟩
      · rename_i o'' q
        cases e
        obtain ⟨_, v, B, e1, e2⟩ := h1 i' _ q
        have g : ∀ b u, Fm.bo b = some u → Fc b = some u := fun b u q' => by
          have q := Fm.sub b u q'
          have nb : b ∉ fp k := fun h => by rw [(h5 k b h).2] at q; cases q
          rw [c1 b nb, rest_of (x.dj.1 b u q)]
          exact x.fh b u q
        have t : Same (un Fm.bo R) (un Fc R) := un_mono g fun a o q => (c2 a o q).2.1
        exact ⟨v, B, e1, e2.frame (frz_same t) fun b _ u q => t b u q⟩
      · rename_i o'' q
        cases e
        obtain ⟨_, v, B, e1, e2⟩ := h1 i' _ q
        have t : Same R (un Fc R) := un_R fun a o q => (c2 a o q).2.1
        exact ⟨v, B, e1, e2.frame (frz_same t) fun b _ u q => t b u q⟩
      · cases e
    cases r with
    | no => simp [Qz.con] at e
    | bo _ => simp [Qz.con] at e
    | fb _ => simp [Qz.con] at e
    | ow o'' =>
      simp only [Qz.con, Option.some.injEq] at e
      subst e
      exact lend i hik _ (by unfold Qz.conI; rw [hi])
    | rf k' =>
      obtain ⟨_, hk', v, e1, e2⟩ := h1 i _ hi
      have e' : Qz.conI its k' = some o' := by
        simp only [Qz.con, Qz.conI] at e ⊢
        rw [hL k' hk']
        exact e
      obtain ⟨v', A, e3, h⟩ := lend k' (fun h => hr (by rw [h])) _ e'
      rw [e2] at e3
      cases e3
      exact ⟨v, A, e1, h⟩
  · refine ⟨hl, x.rh, fun a u q => (c2 a u q).2.2, ⟨fun a u q => (c2 a u q).2.1, x.dj.2⟩, fun i => if i = j then fp k else [], [], fun i sv e => ?_, fun i hi => ?_, fun i => ?_, fun i i' a hi hi' => ?_, fun i a hi => ?_, .nil, List.nodup_nil, fun _ q => by simp at q⟩
    · by_cases h : i = j
      · subst h
        rw [hj] at e
        cases e
        simp only [if_pos rfl]
        exact ⟨vk, hv, ho⟩
      · simp only [if_neg h]
        obtain ⟨o', v, B, e1, e2, e3⟩ := hb i sv e h
        subst e1
        exact ⟨rfl, v, B, e2, e3⟩
    · have : j < ic.length := (List.getElem?_eq_some_iff.mp hj).1
      simp only
      rw [if_neg (by omega)]
    · simp only; split
      · exact h3 k
      · exact List.nodup_nil
    · simp only at hi hi'
      split at hi
      · split at hi'
        · omega
        · simp at hi'
      · simp at hi
    · simp only at hi
      split at hi
      · refine ⟨(h5 k a hi).1, ?_⟩
        exact if_pos hi
      · simp at hi
  · obtain ⟨_, B', _, _, _, _, _, k6, k7, k8⟩ := y.ex
    cases k6 with
    | cons ho' k6 =>
      rename_i A' B'
      have nd := List.nodup_append.mp k7
      have kp : ∀ b u, b ∉ fp k → R b = none → H b = some u → H' b = some u := fun b u hb h q => y.fh b u (by show Fc b = some u; rw [c1 b hb, rest_of h]; exact q)
      have off : ∀ b u, b ∉ fp k → R b = none → H b = some u → R' b = none := fun b u hb h q => y.dj.1 b u (by show Fc b = some u; rw [c1 b hb, rest_of h]; exact q)
      have fz : Frz H H' := fun b o u q => y.fh b _ (fzc b o u q)
      have lv : ∀ i a, a ∈ fp i → ∃ u, H a = some u := fun i a hi => by
        have hlt : i < its.length := Nat.lt_of_not_le fun h => by rw [h2 i h] at hi; simp at hi
        exact (h1 i _ (List.getElem?_eq_getElem hlt)).live a hi
      have nfm : ∀ b u, Fm.fm b = some u → b ∉ fp k := fun b u q h => by rw [(h5 k b h).2] at q; cases q
      -- the new object's places are nobody's
      have fresh : ∀ a, a ∈ A' ++ B' → R' a = none ∧ Fm.fm a = none ∧ ∀ i, i ≠ k → a ∉ fp i := fun a ha => by
        obtain ⟨r1, r2, _⟩ := k8 a ha
        have r2 : Fc a = none := r2
        have hR : R a = none := s.free r1
        refine ⟨r1, ?_, fun i hi hm => ?_⟩
        · cases q : Fm.fm a with
          | none => rfl
          | some u =>
            have := c1 a (nfm a u q)
            rw [rest_of hR, x.fh a u q] at this
            rw [this] at r2; cases r2
        · obtain ⟨u, q⟩ := lv i a hm
          have := c1 a fun h => hi (h4 i k a hm h)
          rw [rest_of hR, q] at this
          rw [this] at r2; cases r2
      refine ⟨by simp [x.len], y.rh, fun b u q => kp b u (nfm b u q) (x.dj.1 b u q) (x.fh b u q), ⟨fun b u q => off b u (nfm b u q) (x.dj.1 b u q) (x.fh b u q), y.dj.2⟩, fun i => if i = k then A' else fp i, B', fun i sv e => ?_, fun i hi => ?_, fun i => ?_, fun i j a hi hj => ?_, fun i a hi => ?_, k6, nd.2.1, fun a ha => ?_⟩
      · by_cases hi : i = k
        · subst hi
          rw [List.getElem?_set_self hlt] at e
          cases e
          simp only [if_pos rfl]
          exact ⟨vk, ev, ho'⟩
        · rw [List.getElem?_set_ne (Ne.symm hi)] at e
          simp only [if_neg hi]
          exact ((h1 i sv e).mono s).frame fz fun b hb u q => kp b u (fun h => hi (h4 i k b hb h)) (h5 i b hb).1 q
      · simp at hi
        simp only
        rw [if_neg (by omega)]; exact h2 i hi
      · simp only; split
        · exact nd.1
        · exact h3 i
      · simp only at hi hj
        by_cases ei : i = k <;> by_cases ej : j = k
        · rw [ei, ej]
        · rw [if_pos ei] at hi; rw [if_neg ej] at hj
          exact absurd hj ((fresh a (List.mem_append_left _ hi)).2.2 j ej)
        · rw [if_neg ei] at hi; rw [if_pos ej] at hj
          exact absurd hi ((fresh a (List.mem_append_left _ hj)).2.2 i ei)
        · rw [if_neg ei] at hi; rw [if_neg ej] at hj
          exact h4 i j a hi hj
      · simp only at hi
        split at hi
        · exact ⟨(fresh a (List.mem_append_left _ hi)).1, (fresh a (List.mem_append_left _ hi)).2.1⟩
        · rename_i ne
          obtain ⟨u, q⟩ := lv i a hi
          exact ⟨off a u (fun h => ne (h4 i k a hi h)) (h5 i a hi).1 q, (h5 i a hi).2⟩
      · obtain ⟨g1, g2, g3⟩ := fresh a (List.mem_append_right _ ha)
        refine ⟨g1, g2, fun i hi => ?_⟩
        simp only at hi
        split at hi
        · exact nd.2.2 a hi a ha rfl
        · rename_i ne
          exact g3 i ne hi
end
end Qz
namespace Qz
open PySem PySem.Spec PyProof.Rows L2
/-! ### arguments as they are (names lend) -/
def fArgsP : List FE → Sta → Option (List SV × Sta)
  | [], L => some ([], L)
  | f :: fs, L => match f L with
    | some (r, M) => match fArgsP fs M with
      | some (rs, M') => some (r :: rs, M')
      | none => none
    | none => none
theorem fArgsP_len : ∀ {fs : List FE} {L L' : Sta} {rs : List SV}, fArgsP fs L = some (rs, L') → rs.length = fs.length
  | [], L, L', rs, e => by cases e; rfl
  | f :: fs, L, L', rs, e => by
    unfold fArgsP at e
    split at e
    · split at e
      · rename_i e1
        cases e
        simp [fArgsP_len e1]
      · cases e
    · cases e
def tP (G : Gp) (m : Nat) (fs : List FE) : TA := fun σ H Q => ∃ R Fm L T τ, At G m R Fm L T σ τ H ∧ ∃ rs L', fArgsP fs L = some (rs, L') ∧
  ∀ R' vs H', Same R R' → vs.length = rs.length → At G m R' Fm L' (T ++ rs) σ (τ ++ vs.map some) H' → Q vs H'
abbrev PPd (X : Cx) (es : List Expr) (fs : List FE) : Prop := PA X es (tP (gp X) X.N.length fs)
section
variable {X : Cx} {a b c : Expr} {fa fb fc : FE} {es : List Expr} {fs : List FE} {pos : Pos}
theorem p_nil : PPd X [] [] := impA pa_nil (by
  rintro σ H Q ⟨R, Fm, L, T, τ, x, os, L', e, q⟩
  cases e
  exact q R [] H (Same.refl R) rfl (by simpa using x))
theorem p_cons (ha : PEd X a fa) (hr : PPd X es fs) (hs : starEach (a :: es) X.env = (false, eval a X.env) :: starEach es X.env := by rfl) : PPd X (a :: es) (fa :: fs) := impA (pa_cons ha hr hs) (by
  rintro σ H Q ⟨R, Fm, L, T, τ, x, os, L', e, q⟩
  unfold fArgsP at e
  split at e
  · rename_i r M er
    split at e
    · rename_i os' M'' eos
      cases e
      refine ⟨R, Fm, L, T, τ, x, r, M, er, fun R1 v H1 s1 x1 => ?_⟩
      refine ⟨R1, Fm, M, _, _, x1, os', _, eos, fun R3 vs H3 s3 hl x3 => q R3 (v :: vs) H3 (s1.trans s3) (by simp [hl]) (by simpa using x3)⟩
    · cases e
  · cases e)
end
/-! ### promises of defs -/
/-- all arguments are read alone -/
def spP (G : Gp) (np : Nat) (m : List OV → Option OV) : Sp := fun vs H Q _ => vs.length = np ∧ ∃ R Fm os, vs.length = os.length ∧ Rel G 0 R Fm (os.map .bo) (vs.map some) H ∧ ∃ r, m os = some r ∧
  ∀ R' v H', Same R R' → RelX G 0 R' Fm [] [] H' [v] [r] → Q v H'
/-- the argument j is changed -/
def spI (G : Gp) (np j : Nat) (m : List OV → Option (OV × OV)) : Sp := fun vs H Q _ => vs.length = np ∧ ∃ R Fm os oj vj, vs.length = os.length ∧ os[j]? = some oj ∧ vs[j]? = some vj ∧
  Rel G 0 R Fm ((os.map .bo).set j (.ow oj)) (vs.map some) H ∧ ∃ r oj', m os = some (r, oj') ∧ ∀ R' v H', Same R R' → RelX G 0 R' Fm [] [] H' [vj, v] [oj', r] → Q v H'
/-- contents -/
def cons (L : Sta) : List SV → Option (List OV)
  | [] => some []
  | r :: rs => match con L r, cons L rs with
    | some o, some os => some (o :: os)
    | _, _ => none
theorem cons_len {L : Sta} : ∀ {rs : List SV} {os : List OV}, cons L rs = some os → os.length = rs.length
  | [], os, e => by cases e; rfl
  | r :: rs, os, e => by
    unfold cons at e
    split at e
    · rename_i e1 e2
      cases e
      simp [cons_len e2]
    · cases e
theorem cons_get {L : Sta} : ∀ {rs : List SV} {os : List OV} {j : Nat} {o : OV}, cons L rs = some os → os[j]? = some o → ∃ r, rs[j]? = some r ∧ con L r = some o
  | [], os, j, o, e, h => by cases e; simp at h
  | r :: rs, os, j, o, e, h => by
    unfold cons at e
    split at e
    · rename_i e1 e2
      cases e
      cases j with
      | zero => simp at h; subst h; exact ⟨r, rfl, e1⟩
      | succ j =>
        obtain ⟨r', h1, h2⟩ := cons_get (j := j) e2 (by simpa using h)
        exact ⟨r', by simpa using h1, h2⟩
    · cases e
def fCall (m : List OV → Option OV) (fs : List FE) : FE := fun L => match fArgsP fs L with
  | some (rs, M) => match cons M rs with
    | some os => match m os with
      | some r => some (.ow r, M)
      | none => none
    | none => none
  | none => none
/-- the argument j is an alias of an owned slot -/
def fCallI (j : Nat) (m : List OV → Option (OV × OV)) (fs : List FE) : FE := fun L => match fArgsP fs L with
  | some (rs, M) => match rs[j]? with
    | some (.rf k) => match M[k]? with
      | some (.ow _) => if (rs.eraseIdx j).all (fun r => match r with | .rf k' => k' != k | _ => true) then (match cons M rs with
          | some os => match m os with
            | some (r, o') => some (.ow r, M.set k (.ow o'))
            | none => none
          | none => none) else none
      | _ => none
    | _ => none
  | none => none
section
variable {G : Gp} {m : Nat} {fs : List FE}
theorem At.args {R H : Hp} {Fm : Fr} {L T rs : Sta} {σ : L2.St} {τ : List (Option V)} {vs : List V} (x : At G m R Fm L (T ++ rs) σ (τ ++ vs.map some) H) (hl : vs.length = rs.length) {j : Nat} {r : SV} (e : rs[j]? = some r) :
    (L ++ (T ++ rs))[(L ++ T).length + j]? = some r ∧ (σ ++ (τ ++ vs.map some))[(L ++ T).length + j]? = (vs[j]?).map some := by
  have ln := x.lens
  simp at ln
  have hj : j < rs.length := (List.getElem?_eq_some_iff.mp e).1
  constructor
  · rw [← List.append_assoc, List.getElem?_append_right (by omega)]
    simpa using e
  · rw [← List.append_assoc, List.getElem?_append_right (by simp; omega), ← List.getElem?_map]
    congr 1
    simp
    omega
theorem At.dropN {R H : Hp} {Fm : Fr} {L : Sta} {σ : L2.St} : ∀ {rs : Sta} {vs : List (Option V)} {T : Sta} {τ : List (Option V)}, vs.length = rs.length → At G m R Fm L (T ++ rs) σ (τ ++ vs) H → At G m R Fm L T σ τ H
  | [], [], T, τ, _, x => by simpa using x
  | [], _ :: _, _, _, e, _ => by simp at e
  | _ :: _, [], _, _, e, _ => by simp at e
  | r :: rs, v :: vs, T, τ, e, x => by
    have x' : At G m R Fm L ((T ++ [r]) ++ rs) σ ((τ ++ [v]) ++ vs) H := by simpa using x
    exact (At.dropN (by simpa using e) x').drop
theorem call_run {np : Nat} {f : List OV → Option OV} (hn : fs.length = np) {E : XK} : ∀ σ H Q, tE G m (fCall f fs) σ H Q → tP G m fs σ H fun vs H1 => spP G np f (vs ++ []) H1 Q E := by
  rintro σ H Q ⟨R, Fm, L, T, τ, x, r, L', e, q⟩
  unfold fCall at e
  split at e
  · rename_i rs M er
    split at e
    · rename_i os eo
      split at e
      · rename_i r' em
        cases e
        refine ⟨R, Fm, L, T, τ, x, rs, _, er, fun R1 vs H1 s1 hl x1 => ?_⟩
        have hlo := cons_len eo
        show spP G np f (vs ++ []) H1 Q E
        rw [List.append_nil]
        refine ⟨by rw [hl, fArgsP_len er, hn], R1, restF R1 H1, os, by rw [hl, hlo], x1.rel.enterP (by rw [hl, hlo]) fun j o ej => ?_, r', em, fun R2 v H2 s2 y => ?_⟩
        · obtain ⟨r, e1, e2⟩ := cons_get eo ej
          obtain ⟨g1, g2⟩ := x1.args hl e1
          obtain ⟨v, B, e3, h⟩ := x1.rel.lent (L := L') g1 (fun k hk => by rw [List.getElem?_append_left hk]) e2
          rw [g2] at e3
          obtain ⟨v', e4, e5⟩ := Option.map_eq_some_iff.mp e3
          cases e5
          exact ⟨v, B, e4, h⟩
        · have z := (At.dropN (by simp [hl]) x1).rel.leaveP s2 (H' := H2) (ws := [v]) (ps := [r']) y
          exact q R2 v H2 (s1.trans s2) (At.put1 x1.sl x1.ge z)
      · cases e
    · cases e
  · cases e
theorem callI_run {np j : Nat} {f : List OV → Option (OV × OV)} (hn : fs.length = np) {E : XK} : ∀ σ H Q, tE G m (fCallI j f fs) σ H Q → tP G m fs σ H fun vs H1 => spI G np j f (vs ++ []) H1 Q E := by
  rintro σ H Q ⟨R, Fm, L, T, τ, x, r, L', e, q⟩
  unfold fCallI at e
  split at e
  · rename_i rs M er
    split at e
    · rename_i k ek
      split at e
      · rename_i ok eok
        split at e
        · rename_i hno
          split at e
          · rename_i os eo
            split at e
            · rename_i r' o' em
              cases e
              refine ⟨R, Fm, L, T, τ, x, rs, _, er, fun R1 vs H1 s1 hl x1 => ?_⟩
              have hlo := cons_len eo
              have hkM : k < M.length := (List.getElem?_eq_some_iff.mp eok).1
              have hjr : j < rs.length := (List.getElem?_eq_some_iff.mp ek).1
              have ek' : (M ++ (T ++ rs))[k]? = some (.ow ok) := by rw [List.getElem?_append_left hkM]; exact eok
              obtain ⟨Fc, vk, evk, lend, mk, back⟩ := x1.rel.ioK ek'
              -- the value of the argument j
              obtain ⟨gj1, gj2⟩ := x1.args hl ek
              obtain ⟨fp, B, h1, _⟩ := x1.rel.ex
              obtain ⟨_, _, vj, e1, e2⟩ := h1 _ _ gj1
              rw [evk] at e2
              cases e2
              rw [gj2] at e1
              obtain ⟨vj', evj, e3⟩ := Option.map_eq_some_iff.mp e1
              cases e3
              have eoj : os[j]? = some ok := by
                have hj : j < os.length := by rw [hlo]; exact hjr
                obtain ⟨r, q1, q2⟩ := cons_get eo (List.getElem?_eq_getElem hj)
                rw [ek] at q1
                cases q1
                rw [List.getElem?_eq_getElem hj]
                simp only [con, conI] at q2
                rw [eok] at q2
                simp only [Option.some.injEq] at q2
                rw [q2]
              show spI G np j f (vs ++ []) H1 Q E
              rw [List.append_nil]
              refine ⟨by rw [hl, fArgsP_len er, hn], R1, Fc, os, ok, vk, by rw [hl, hlo], eoj, evj, ?_, r', o', em, fun R2 v H2 s2 y => ?_⟩
              · refine mk _ _ j (by simp [hl, hlo]) (by rw [List.getElem?_set_self (by simp; rw [hlo]; exact hjr)]) (by rw [List.getElem?_map, evj]; rfl) fun i sv ei hij => ?_
                rw [List.getElem?_set_ne (Ne.symm hij), List.getElem?_map] at ei
                obtain ⟨o, eo', e4⟩ := Option.map_eq_some_iff.mp ei
                subst e4
                obtain ⟨r, q1, q2⟩ := cons_get eo eo'
                obtain ⟨g1, g2⟩ := x1.args hl q1
                have hir : i < rs.length := (List.getElem?_eq_some_iff.mp q1).1
                have nk : r ≠ .rf k := by
                  intro hr
                  subst hr
                  have hm : SV.rf k ∈ rs.eraseIdx j := by
                    by_cases hlt : i < j
                    · exact List.mem_of_getElem? (i := i) (by rw [List.getElem?_eraseIdx, if_pos hlt]; exact q1)
                    · exact List.mem_of_getElem? (i := i - 1) (by rw [List.getElem?_eraseIdx, if_neg (by omega), show i - 1 + 1 = i by omega]; exact q1)
                  have := List.all_eq_true.mp hno _ hm
                  simp at this
                obtain ⟨v, A, e5, h⟩ := lend _ r M o g1 (fun k hk => by rw [List.getElem?_append_left hk]) nk (by simp; omega) q2
                rw [g2] at e5
                obtain ⟨v', e6, e7⟩ := Option.map_eq_some_iff.mp e5
                cases e7
                exact ⟨o, v, A, rfl, by rw [List.getElem?_map, e6]; rfl, h⟩
              · have z := back R2 H2 [v] [r'] o' s2 y
                rw [List.set_append_left _ _ hkM] at z
                have z1 : At G m R2 Fm (M.set k (.ow o')) ((T ++ rs) ++ [.ow r']) σ ((τ ++ vs.map some) ++ [some v]) H2 := At.put1 x1.sl (by simpa using x1.ge) (by simpa using z)
                -- drop the arguments below the top
                have z2 := z1.take1
                have z3 : RelX G (M.set k (.ow o')).length R2 Fm (M.set k (.ow o') ++ T) (σ ++ τ) H2 [v] [r'] := by
                  have hd : ∀ (rs : Sta) (us : List (Option V)) (T : Sta) (τ : List (Option V)), us.length = rs.length → RelX G (M.set k (.ow o')).length R2 Fm (M.set k (.ow o') ++ (T ++ rs)) (σ ++ (τ ++ us)) H2 [v] [r'] → RelX G (M.set k (.ow o')).length R2 Fm (M.set k (.ow o') ++ T) (σ ++ τ) H2 [v] [r'] := by
                    intro rs
                    induction rs with
                    | nil => intro us T τ hl h; cases us with | nil => simpa using h | cons _ _ => simp at hl
                    | cons r rs ih =>
                      intro us T τ hl h
                      cases us with
                      | nil => simp at hl
                      | cons u us =>
                        have h' := ih us (T ++ [r]) (τ ++ [u]) (by simpa using hl) (by simpa using h)
                        rw [← List.append_assoc, ← List.append_assoc] at h'
                        exact h'.drop1 (by simp)
                  exact hd rs (vs.map some) T τ (by simp [hl]) z2
                exact q R2 v H2 (s1.trans s2) (At.put1 x1.sl (by simpa using x1.ge) z3)
            · cases e
          · cases e
        · cases e
      · cases e
    · cases e
  · cases e
end
section
variable {X : Cx} {e : Expr} {es : List Expr} {fs : List FE} {pos p : Pos} {x : Str} {CX : CXT} {k : Nat} {f : Addr} {fd : FuncData} {ps : List Str} {np : Nat}
theorem d_call {mf : List OV → Option OV} {E : XK} (F : FnOk X.prog X.w X.K X.mg X.base CX k f fd ps (spP (gp X) np mf)) (hr : Room k X.A) (hg : Gl X x) (hm : X.mg x = some (.ref f)) (hk : PySem.W.keepIn X.K (.ref f) = true) (hb : Binds X.K fd ps [])
    (hx : Passes CX X E) (ha : PPd X (e :: es) fs) (hn : fs.length = np := by rfl) (hd : (x == ("__debug__" : Str)) = false := by decide) (he : starEach (e :: es) X.env = (false, eval e X.env) :: starEach es X.env := by rfl)
    (hpl : (backTo pos (starEach es X.env)).any (·.1) = false := by rfl) : PEd X (.Call (.Name x p) (e :: es) [] pos) (fCall mf fs) :=
  imp (pe_call (dvs := []) (ds := []) F hr hg hm hk hb .nil hx ha hd he hpl) (call_run hn)
theorem d_callI {j : Nat} {mf : List OV → Option (OV × OV)} {E : XK} (F : FnOk X.prog X.w X.K X.mg X.base CX k f fd ps (spI (gp X) np j mf)) (hr : Room k X.A) (hg : Gl X x) (hm : X.mg x = some (.ref f)) (hk : PySem.W.keepIn X.K (.ref f) = true) (hb : Binds X.K fd ps [])
    (hx : Passes CX X E) (ha : PPd X (e :: es) fs) (hn : fs.length = np := by rfl) (hd : (x == ("__debug__" : Str)) = false := by decide) (he : starEach (e :: es) X.env = (false, eval e X.env) :: starEach es X.env := by rfl)
    (hpl : (backTo pos (starEach es X.env)).any (·.1) = false := by rfl) : PEd X (.Call (.Name x p) (e :: es) [] pos) (fCallI j mf fs) :=
  imp (pe_call (dvs := []) (ds := []) F hr hg hm hk hb .nil hx ha hd he hpl) (callI_run hn)
end
end Qz
namespace Qz
open PySem PySem.Spec PyProof.Rows L2
/-! ### list methods, on what a name holds -/
section
variable {G : Gp} {m : Nat} {R H : Hp} {Fm : Fr} {L T : Sta} {σ : L2.St} {τ : List (Option V)} {v : V} {k : Nat}
/-- the value under an alias -/
theorem At.rfv {u : V} {T' : Sta} {τ' : List (Option V)} (x : At G m R Fm L (T ++ [.rf k]) σ (τ ++ [some v]) H) : k < L.length ∧ (σ ++ τ)[k]? = some (some v) := by
  have rel := x.rel
  have ln := x.lens
  simp at ln
  obtain ⟨fp, B, h1, _⟩ := rel.ex
  have e1 : (L ++ (T ++ [.rf k]))[(L ++ T).length]? = some (.rf k) := by
    rw [← List.append_assoc, List.getElem?_append_right (by omega)]; simp
  obtain ⟨_, hk, w', e2, e3⟩ := h1 _ _ e1
  have e4 : (σ ++ (τ ++ [some v]))[(L ++ T).length]? = some (some v) := by
    rw [← List.append_assoc, List.getElem?_append_right (by simp; omega)]
    have : (L ++ T).length - (σ ++ τ).length = 0 := by simp; omega
    rw [this]; rfl
  rw [e4] at e2
  cases e2
  refine ⟨hk, ?_⟩
  rw [← List.append_assoc, List.getElem?_append_left (by simp; omega)] at e3
  exact e3
end
def rfOf : SV → Option Nat
  | .rf k => some k
  | _ => none
def lstOf (L : Sta) (k : Nat) : Option (List OV) := match L[k]? with
  | some (.ow (.nd .lst os)) => some os
  | _ => none
theorem lstOf_eq {L : Sta} {k : Nat} {os : List OV} (e : lstOf L k = some os) : L[k]? = some (.ow (.ls os)) := by
  unfold lstOf at e
  split at e
  · rename_i h; cases e; exact h
  · cases e
def isL (L : Sta) (k : Nat) : Bool := match conI L k with
  | some (.nd .lst _) => true
  | some (.fz (.list _)) => true
  | _ => false
theorem At.isL {G : Gp} {m : Nat} {R H : Hp} {Fm : Fr} {L T : Sta} {σ : L2.St} {τ : List (Option V)} {v : V} {k : Nat} (x : At G m R Fm L (T ++ [.rf k]) σ (τ ++ [some v]) H) (e : isL L k = true) : tyV G.K "list" v H := by
  unfold Qz.isL at e
  split at e
  · rename_i os eo
    obtain ⟨A, ho⟩ := x.con (o := .nd .lst os) eo
    cases ho with
    | nd n l => cases n with | lst h => exact .inl ⟨rfl, _, SqL.of h⟩
  · rename_i ds eo
    obtain ⟨A, ho⟩ := x.con (o := .fz (.list ds)) eo
    cases ho with
    | fz h => cases h with | lst h r => exact .inl ⟨rfl, _, SqL.of (x.rel.rh _ _ h)⟩
  · cases e
/-- xs.append(e) -/
def fApp (fr fe : FE) : FE := fun L => match fr L with
  | some (.rf k, M) => if isL M k then (match fArgs [fe] M with
    | some ([o], M') => match lstOf M' k with
      | some os => if os.length < sizeLine then some (.ow (.fz .none), M'.set k (.ow (.ls (os ++ [o])))) else none
      | none => none
    | _ => none) else none
  | _ => none
/-- xs.extend(e): a list of frozen things, or a list made there -/
def fExt (fr fe : FE) : FE := fun L => match fr L with
  | some (.rf k, M) => if isL M k then (match fArgs [fe] M with
    | some ([.nd .lst ps], M') => match lstOf M' k with
      | some os => if os.length + ps.length ≤ sizeLine then some (.ow (.fz .none), M'.set k (.ow (.ls (os ++ ps)))) else none
      | none => none
    | some ([.fz (.list ds)], M') => match lstOf M' k with
      | some os => if os.length + ds.length ≤ sizeLine then some (.ow (.fz .none), M'.set k (.ow (.ls (os ++ ds.map .fz)))) else none
      | none => none
    | _ => none) else none
  | _ => none
def fPop (fr : FE) : FE := fun L => match fr L with
  | some (.rf k, M) => if isL M k then (match lstOf M k with
    | some os => match os[os.length - 1]? with
      | some o => some (.ow o, M.set k (.ow (.ls os.dropLast)))
      | none => none
    | none => none) else none
  | _ => none
noncomputable def fPopAt (fr fe : FE) : FE := fun L => match fr L with
  | some (.rf k, M) => if isL M k then (match fArgs [fe] M with
    | some ([.fz (.int i)], M') => match lstOf M' k with
      | some os => match ixN os.length i with
        | some j => match os[j]? with
          | some o => if sm (-(2 ^ 63) ≤ i ∧ i < 2 ^ 63) then some (.ow o, M'.set k (.ow (.ls (os.eraseIdx j)))) else none
          | none => none
        | none => none
      | none => none
    | _ => none) else none
  | _ => none
section
variable {X : Cx} {a b : Expr} {fa fb : FE} {pos apos cpos : Pos}
theorem erase_last {α : Type} (l : List α) (h : 0 < l.length) : l.eraseIdx (l.length - 1) = l.dropLast := by
  rw [List.eraseIdx_eq_take_drop_succ, List.dropLast_eq_take, show l.length - 1 + 1 = l.length by omega, List.drop_length, List.append_nil]
theorem OwL.eraseP {G : Gp} {R H : Hp} {vs : List V} {os : List OV} {A : List Addr} (h : OwL G R H vs os A) {j : Nat} {o : OV} (e : os[j]? = some o) : ∃ v A1 A2, vs[j]? = some v ∧ Ow G R H v o A2 ∧ OwL G R H (vs.eraseIdx j) (os.eraseIdx j) A1 ∧ A.Perm (A1 ++ A2) := by
  obtain ⟨v, A1, A2, A3, e1, h2, e3, h1, h3⟩ := h.get e
  refine ⟨v, A1 ++ A3, A2, e1, h2, ?_, ?_⟩
  · rw [List.eraseIdx_eq_take_drop_succ, List.eraseIdx_eq_take_drop_succ]
    exact h1.append h3
  · subst e3
    rw [List.append_assoc]
    exact List.Perm.append_left A1 (List.perm_append_comm)
theorem d_append (ha : PEd X a fa) (hb : PEd X b fb) (hbase : attributeBase a "append" X.env (eval a X.env) = eval a X.env := by rfl) (hline : (apos.endLine == cpos.line) = true := by rfl) (hs : starEach [b] X.env = (false, eval b X.env) :: starEach [] X.env := by rfl)
    (hfew : ((backTo cpos (starEach [b] X.env)).all (fun x => !x.1) && (backToKw cpos (keywordEach [] X.env)).all (fun x => x.1.isSome) && decide (([b] : List Expr).length + ([] : List Keyword).length + (if ([] : List Keyword).isEmpty then 0 else 1) < 30)) = true := by rfl) :
    PEd X (.Call (.Attribute a "append" apos) [b] [] cpos) (fApp fa fb) :=
  imp (pe_bm PySem.F.plainAttrs_list PySem.F.slot_list_append PySem.F.type_list_append mt_append ha (a_cons hb a_nil hs) hbase hfew hline hs) (by
    rintro σ H Q ⟨R, Fm, L, T, τ, x, r, L', e, q⟩
    unfold fApp at e
    split at e
    · rename_i k M ek
      split at e
      · rename_i hl
        split at e
        · rename_i o M' eo
          split at e
          · rename_i os eos
            split at e
            · rename_i hz
              cases e
              refine ⟨R, Fm, L, T, τ, x, .rf k, M, ek, fun R1 v H1 s1 x1 => ⟨x1.isL hl, R1, Fm, M, _, _, x1, [o], M', eo, fun R2 vs H2 s2 hv x2 => ?_⟩⟩
              obtain ⟨u, rfl⟩ : ∃ u, vs = [u] := by match vs, hv with | [u], _ => exact ⟨u, rfl⟩
              have x2' : At (gp X) X.N.length R2 Fm M' (T ++ [.rf k] ++ [.ow o]) σ (τ ++ [some v] ++ [some u]) H2 := x2
              obtain ⟨hk, ev⟩ := (At.drop x2').rfv (u := v) (T' := T) (τ' := τ)
              have y := x2'.take1
              have y' : RelX (gp X) M'.length R2 Fm (M' ++ T) (σ ++ τ) H2 [u] [o] := by
                rw [← List.append_assoc, ← List.append_assoc] at y
                exact y.drop1 (by simp)
              have ek' : (M' ++ T)[k]? = some (.ow (.ls os)) := by rw [List.getElem?_append_left hk]; exact lstOf_eq eos
              obtain ⟨p, ws, e1, e2, e3, mk⟩ := y'.mutL ek'
              rw [ev] at e1
              cases e1
              refine ⟨p, ws, u, rfl, rfl, e2, by rw [e3]; exact hz, ?_⟩
              have z := mk (ws ++ [u]) [] (os ++ [o]) [] fun A B h1 h2 => ⟨A ++ B, [], [], h1.append h2, .nil, by simp⟩
              rw [List.set_append_left _ _ hk] at z
              exact q R2 _ _ (s1.trans s2) (At.push ⟨x2.sl, by simpa using x2.ge, by simpa using z⟩ .non)
            · cases e
          · cases e
        · cases e
      · cases e
    · cases e)
theorem d_extend (ha : PEd X a fa) (hb : PEd X b fb) (hbase : attributeBase a "extend" X.env (eval a X.env) = eval a X.env := by rfl) (hline : (apos.endLine == cpos.line) = true := by rfl) (hs : starEach [b] X.env = (false, eval b X.env) :: starEach [] X.env := by rfl)
    (hfew : ((backTo cpos (starEach [b] X.env)).all (fun x => !x.1) && (backToKw cpos (keywordEach [] X.env)).all (fun x => x.1.isSome) && decide (([b] : List Expr).length + ([] : List Keyword).length + (if ([] : List Keyword).isEmpty then 0 else 1) < 30)) = true := by rfl) :
    PEd X (.Call (.Attribute a "extend" apos) [b] [] cpos) (fExt fa fb) :=
  imp (pe_bm PySem.F.plainAttrs_list PySem.F.slot_list_extend PySem.F.type_list_extend mt_extend ha (a_cons hb a_nil hs) hbase hfew hline hs) (by
    rintro σ H Q ⟨R, Fm, L, T, τ, x, r, L', e, q⟩
    unfold fExt at e
    split at e
    · rename_i k M ek
      split at e
      · rename_i hl
        split at e
        · rename_i ps M' eo
          split at e
          · rename_i os eos
            split at e
            · rename_i hz
              cases e
              refine ⟨R, Fm, L, T, τ, x, .rf k, M, ek, fun R1 v H1 s1 x1 => ⟨x1.isL hl, R1, Fm, M, _, _, x1, [.nd .lst ps], M', eo, fun R2 vs H2 s2 hv x2 => ?_⟩⟩
              obtain ⟨u, rfl⟩ : ∃ u, vs = [u] := by match vs, hv with | [u], _ => exact ⟨u, rfl⟩
              have x2' : At (gp X) X.N.length R2 Fm M' (T ++ [.rf k] ++ [.ow (.nd .lst ps)]) σ (τ ++ [some v] ++ [some u]) H2 := x2
              obtain ⟨hk, ev⟩ := (At.drop x2').rfv (u := v) (T' := T) (τ' := τ)
              have y := x2'.take1
              have y' : RelX (gp X) M'.length R2 Fm (M' ++ T) (σ ++ τ) H2 [u] [.nd .lst ps] := by
                rw [← List.append_assoc, ← List.append_assoc] at y
                exact y.drop1 (by simp)
              have ek' : (M' ++ T)[k]? = some (.ow (.ls os)) := by rw [List.getElem?_append_left hk]; exact lstOf_eq eos
              obtain ⟨A, hu⟩ := x2'.con (o := .nd .lst ps) rfl
              cases hu with
              | nd nn ll =>
                cases nn with
                | lst hb' =>
                  rename_i pb us B0
                  obtain ⟨p, ws, e1, e2, e3, mk⟩ := y'.mutL ek'
                  rw [ev] at e1
                  cases e1
                  refine ⟨p, pb, ws, us, rfl, rfl, e2, hb', by rw [e3, ll.length]; exact hz, ?_⟩
                  have z := mk (ws ++ us) [] (os ++ ps) [] fun A B h1 h2 => by
                    have h2' := h2.one'
                    generalize hv' : V.ref pb = vv at h2'
                    cases h2' with
                    | nd n2 l2 =>
                      cases n2 with
                      | lst hh =>
                        cases hv'
                        rename_i us' B1
                        rw [hb'] at hh
                        cases hh
                        exact ⟨A ++ B1, [], [pb], h1.append l2, .nil, by
                          rw [List.append_assoc]
                          refine List.Perm.append_left A ?_
                          simp only [List.nil_append]
                          exact List.perm_append_comm (l₁ := [pb]) (l₂ := B1)⟩
                  rw [List.set_append_left _ _ hk] at z
                  exact q R2 _ _ (s1.trans s2) (At.push ⟨x2.sl, by simpa using x2.ge, by simpa using z⟩ .non)
            · cases e
          · cases e
        · rename_i ds M' eo
          split at e
          · rename_i os eos
            split at e
            · rename_i hz
              cases e
              refine ⟨R, Fm, L, T, τ, x, .rf k, M, ek, fun R1 v H1 s1 x1 => ⟨x1.isL hl, R1, Fm, M, _, _, x1, [.fz (.list ds)], M', eo, fun R2 vs H2 s2 hv x2 => ?_⟩⟩
              obtain ⟨u, rfl⟩ : ∃ u, vs = [u] := by match vs, hv with | [u], _ => exact ⟨u, rfl⟩
              have x2' : At (gp X) X.N.length R2 Fm M' (T ++ [.rf k] ++ [.ow (.fz (.list ds))]) σ (τ ++ [some v] ++ [some u]) H2 := x2
              obtain ⟨hk, ev⟩ := (At.drop x2').rfv (u := v) (T' := T) (τ' := τ)
              obtain ⟨A, hu⟩ := x2'.con (o := .fz (.list ds)) rfl
              cases hu with
              | fz hr =>
                cases hr with
                | lst hb' rr =>
                  rename_i pb us
                  have y : Rel (gp X) M'.length R2 Fm (M' ++ T) (σ ++ τ) H2 := (At.drop (At.drop x2')).rel
                  have ek' : (M' ++ T)[k]? = some (.ow (.ls os)) := by rw [List.getElem?_append_left hk]; exact lstOf_eq eos
                  obtain ⟨p, ws, e1, e2, e3, mk⟩ := y.mutL ek'
                  rw [ev] at e1
                  cases e1
                  refine ⟨p, pb, ws, us, rfl, rfl, e2, x2.rel.rh _ _ hb', by rw [e3, rr.length]; exact hz, ?_⟩
                  have z := mk (ws ++ us) [] (os ++ ds.map .fz) [] fun A B h1 h2 => by
                    cases h2
                    exact ⟨A, [], [], by simpa using h1.append (OwL.of_rp rr), .nil, by simp⟩
                  rw [List.set_append_left _ _ hk] at z
                  exact q R2 _ _ (s1.trans s2) (At.push ⟨x2.sl, by simpa using x2.ge, by simpa using z⟩ .non)
            · cases e
          · cases e
        · cases e
      · cases e
    · cases e)
theorem d_pop (ha : PEd X a fa) (hbase : attributeBase a "pop" X.env (eval a X.env) = eval a X.env := by rfl) (hline : (apos.endLine == cpos.line) = true := by rfl) : PEd X (.Call (.Attribute a "pop" apos) [] [] cpos) (fPop fa) :=
  imp (pe_bm0 PySem.F.plainAttrs_list PySem.F.slot_list_pop PySem.F.type_list_pop mt_pop ha hbase hline) (by
    rintro σ H Q ⟨R, Fm, L, T, τ, x, r, L', e, q⟩
    unfold fPop at e
    split at e
    · rename_i k M ek
      split at e
      · rename_i hl
        split at e
        · rename_i os eos
          split at e
          · rename_i o eo
            cases e
            refine ⟨R, Fm, L, T, τ, x, .rf k, M, ek, fun R1 v H1 s1 x1 => ⟨x1.isL hl, ?_⟩⟩
            obtain ⟨hk, ev⟩ := x1.rfv (u := v) (T' := T) (τ' := τ)
            have ek' : (M ++ T)[k]? = some (.ow (.ls os)) := by rw [List.getElem?_append_left hk]; exact lstOf_eq eos
            obtain ⟨p, ws, e1, e2, e3, mk⟩ := x1.drop.rel.mutL ek'
            rw [ev] at e1
            cases e1
            obtain ⟨y, ey⟩ : ∃ y, ws[ws.length - 1]? = some y := by
              have : os.length - 1 < os.length := (List.getElem?_eq_some_iff.mp eo).1
              exact ⟨ws[ws.length - 1]'(by omega), List.getElem?_eq_getElem _⟩
            refine ⟨p, ws, y, rfl, rfl, e2, ey, ?_⟩
            have z := mk ws.dropLast [y] os.dropLast [o] fun A B h1 h2 => by
              cases h2
              obtain ⟨v, A1, A2, g1, g2, g3, g4⟩ := h1.eraseP eo
              rw [← e3] at g1
              rw [ey] at g1
              cases g1
              refine ⟨A1, A2, [], ?_, OwL.one g2, by simpa using g4⟩
              have i1 : ws.eraseIdx (os.length - 1) = ws.dropLast := by rw [← e3, erase_last ws (by have := (List.getElem?_eq_some_iff.mp eo).1; omega)]
              have i2 : os.eraseIdx (os.length - 1) = os.dropLast := erase_last os (by have := (List.getElem?_eq_some_iff.mp eo).1; omega)
              rw [i1, i2] at g3
              exact g3
            rw [List.set_append_left _ _ hk] at z
            exact q R1 _ _ s1 (At.put1 x1.sl (by simpa using x1.ge) (by simpa using z))
          · cases e
        · cases e
      · cases e
    · cases e)
theorem d_popAt (ha : PEd X a fa) (hb : PEd X b fb) (hbase : attributeBase a "pop" X.env (eval a X.env) = eval a X.env := by rfl) (hline : (apos.endLine == cpos.line) = true := by rfl) (hs : starEach [b] X.env = (false, eval b X.env) :: starEach [] X.env := by rfl)
    (hfew : ((backTo cpos (starEach [b] X.env)).all (fun x => !x.1) && (backToKw cpos (keywordEach [] X.env)).all (fun x => x.1.isSome) && decide (([b] : List Expr).length + ([] : List Keyword).length + (if ([] : List Keyword).isEmpty then 0 else 1) < 30)) = true := by rfl) :
    PEd X (.Call (.Attribute a "pop" apos) [b] [] cpos) (fPopAt fa fb) :=
  imp (pe_bm PySem.F.plainAttrs_list PySem.F.slot_list_pop PySem.F.type_list_pop mt_popAt ha (a_cons hb a_nil hs) hbase hfew hline hs) (by
    rintro σ H Q ⟨R, Fm, L, T, τ, x, r, L', e, q⟩
    unfold fPopAt at e
    split at e
    · rename_i k M ek
      split at e
      · rename_i hl
        split at e
        · rename_i i M' eo
          split at e
          · rename_i os eos
            split at e
            · rename_i j ej
              split at e
              · rename_i o eoj
                split at e
                · rename_i hz
                  replace hz := sm_iff.mp hz
                  cases e
                  refine ⟨R, Fm, L, T, τ, x, .rf k, M, ek, fun R1 v H1 s1 x1 => ⟨x1.isL hl, R1, Fm, M, _, _, x1, [.fz (.int i)], M', eo, fun R2 vs H2 s2 hv x2 => ?_⟩⟩
                  obtain ⟨u, rfl⟩ : ∃ u, vs = [u] := by match vs, hv with | [u], _ => exact ⟨u, rfl⟩
                  have x2' : At (gp X) X.N.length R2 Fm M' (T ++ [.rf k] ++ [.ow (.fz (.int i))]) σ (τ ++ [some v] ++ [some u]) H2 := x2
                  obtain ⟨hk, ev⟩ := (At.drop x2').rfv (u := v) (T' := T) (τ' := τ)
                  obtain ⟨A, hu⟩ := x2'.con (o := .fz (.int i)) rfl
                  cases hu.int
                  have ek' : (M' ++ T)[k]? = some (.ow (.ls os)) := by rw [List.getElem?_append_left hk]; exact lstOf_eq eos
                  obtain ⟨p, ws, e1, e2, e3, mk⟩ := (At.drop (At.drop x2')).rel.mutL ek'
                  rw [ev] at e1
                  cases e1
                  have hjl : j < os.length := (List.getElem?_eq_some_iff.mp eoj).1
                  obtain ⟨y, ey⟩ : ∃ y, ws[j]? = some y := ⟨ws[j]'(by omega), List.getElem?_eq_getElem _⟩
                  refine ⟨p, ws, i, j, y, rfl, rfl, e2, hz.1, hz.2, by rw [e3]; exact (ixN_seq ej).1, ey, ?_⟩
                  have z := mk (ws.eraseIdx j) [y] (os.eraseIdx j) [o] fun A B h1 h2 => by
                    cases h2
                    obtain ⟨v, A1, A2, g1, g2, g3, g4⟩ := h1.eraseP eoj
                    rw [ey] at g1
                    cases g1
                    exact ⟨A1, A2, [], g3, OwL.one g2, by simpa using g4⟩
                  rw [List.set_append_left _ _ hk] at z
                  exact q R2 _ _ (s1.trans s2) (At.put1 x2.sl (by simpa using x2.ge) (by simpa using z))
                · cases e
              · cases e
            · cases e
          · cases e
        · cases e
      · cases e
    · cases e)
end
end Qz
namespace Qz
open PySem PySem.Spec PyProof.Rows L2
/-! ### statements -/
inductive Fl where
  | nx
  | bk
  | ct
  | rt (o : OV)
abbrev FS := Sta → Option (Fl × Sta)
def Post (G : Gp) (m : Nat) (R : Hp) (Fm : Fr) (L' : Sta) (γ : List (Option V)) (D : Ends) : Fl → Prop
  | .nx => ∀ R' σ' H', Same R R' → At G m R' Fm L' [] σ' γ H' → D.nx σ' H'
  | .bk => ∀ R' σ' H', Same R R' → At G m R' Fm L' [] σ' γ H' → D.bk σ' H'
  | .ct => ∀ R' σ' H', Same R R' → At G m R' Fm L' [] σ' γ H' → D.ct σ' H'
  | .rt o => ∀ R' σ' v H', Same R R' → At G m R' Fm L' [.ow o] σ' (γ ++ [some v]) H' → D.rt v H'
theorem Post.mono {G : Gp} {m : Nat} {R R1 : Hp} {Fm : Fr} {L' : Sta} {γ : List (Option V)} {D : Ends} (s : Same R R1) : ∀ {f : Fl}, Post G m R Fm L' γ D f → Post G m R1 Fm L' γ D f
  | .nx, h => fun R' σ' H' s' => h R' σ' H' (s.trans s')
  | .bk, h => fun R' σ' H' s' => h R' σ' H' (s.trans s')
  | .ct, h => fun R' σ' H' s' => h R' σ' H' (s.trans s')
  | .rt o, h => fun R' σ' v H' s' => h R' σ' v H' (s.trans s')
def tS (G : Gp) (m : Nat) (f : FS) : TS := fun D σ H => ∃ R Fm L γ, At G m R Fm L [] σ γ H ∧ ∃ fl L', f L = some (fl, L') ∧ Post G m R Fm L' γ D fl
abbrev PSd (X : Cx) (st : Stmt) (f : FS) : Prop := PS X st (tS (gp X) X.N.length f)
abbrev PBd (X : Cx) (st : List Stmt) (f : FS) : Prop := PSs X st (tS (gp X) X.N.length f)
theorem impS {X : Cx} {st : Stmt} {t t' : TS} (h : PS X st t) (i : ∀ D σ H, t' D σ H → t D σ H) : PS X st t' := ⟨fun pins s σ H D I q => h.run pins s σ H D I (i D σ H q)⟩
theorem impB {X : Cx} {st : List Stmt} {t t' : TS} (h : PSs X st t) (i : ∀ D σ H, t' D σ H → t D σ H) : PSs X st t' := ⟨fun pins s σ H D I q => h.run pins s σ H D I (i D σ H q)⟩
def sNil : FS := fun L => some (.nx, L)
def sSeq (f g : FS) : FS := fun L => match f L with
  | some (.nx, M) => g M
  | some (.bk, M) => some (.bk, M)
  | some (.ct, M) => some (.ct, M)
  | some (.rt o, M) => some (.rt o, M)
  | none => none
section
variable {X : Cx} {st : Stmt} {rest : List Stmt} {f g : FS} {e : Expr} {fe : FE} {pos : Pos}
theorem b_nil : PBd X [] sNil := impB pss_nil (by
  rintro D σ H ⟨R, Fm, L, γ, x, fl, L', e, q⟩
  cases e
  exact q R σ H (Same.refl R) x)
theorem b_cons (h1 : PSd X st f) (h2 : PBd X rest g) : PBd X (st :: rest) (sSeq f g) := impB (pss_cons h1 h2) (by
  rintro D σ H ⟨R, Fm, L, γ, x, fl, L', e, q⟩
  unfold sSeq at e
  split at e
  · rename_i M er
    exact ⟨R, Fm, L, γ, x, .nx, M, er, fun R' σ' H' s y => ⟨R', Fm, M, γ, y, fl, L', e, q.mono s⟩⟩
  · rename_i M er
    cases e
    exact ⟨R, Fm, L, γ, x, .bk, _, er, q⟩
  · rename_i M er
    cases e
    exact ⟨R, Fm, L, γ, x, .ct, _, er, q⟩
  · rename_i o M er
    cases e
    exact ⟨R, Fm, L, γ, x, .rt o, _, er, q⟩
  · cases e)
theorem b_one (h1 : PSd X st f) : PBd X [st] f := pss_one h1
def sPass : FS := fun L => some (.nx, L)
def sBreak : FS := fun L => some (.bk, L)
def sCont : FS := fun L => some (.ct, L)
theorem s_pass : PSd X (.Pass pos) sPass := impS ps_pass (by
  rintro D σ H ⟨R, Fm, L, γ, x, fl, L', e, q⟩
  cases e
  exact q R σ H (Same.refl R) x)
theorem s_break : PSd X (.Break pos) sBreak := impS ps_break (by
  rintro D σ H ⟨R, Fm, L, γ, x, fl, L', e, q⟩
  cases e
  exact q R σ H (Same.refl R) x)
theorem s_cont : PSd X (.Continue pos) sCont := impS ps_continue (by
  rintro D σ H ⟨R, Fm, L, γ, x, fl, L', e, q⟩
  cases e
  exact q R σ H (Same.refl R) x)
def sNever : FS := fun _ => none
theorem s_never : PSd X st sNever := impS ps_never (by
  rintro D σ H ⟨R, Fm, L, γ, x, fl, L', e, q⟩
  cases e)
/-- return -/
def mv (L : Sta) : SV → Option (OV × Sta)
  | .ow o => some (o, L)
  | .rf k => match L[k]? with
    | some (.ow o) => some (o, L.set k .no)
    | some (.bo (.fz d)) => some (.fz d, L)
    | _ => none
  | _ => none
theorem At.mv {G : Gp} {m : Nat} {R H : Hp} {Fm : Fr} {L L' T : Sta} {σ : L2.St} {τ : List (Option V)} {v : V} {r : SV} {o : OV} (x : At G m R Fm L (T ++ [r]) σ (τ ++ [some v]) H) (e : mv L r = some (o, L')) : At G m R Fm L' (T ++ [.ow o]) σ (τ ++ [some v]) H := by
  cases r with
  | no => cases e
  | bo o' => cases e
  | fb o' => cases e
  | ow o' => cases e; exact x
  | rf k =>
    unfold Qz.mv at e
    simp only at e
    obtain ⟨hk, ev⟩ := x.rfv (u := v) (T' := T) (τ' := τ)
    split at e
    · rename_i o' ek
      cases e
      obtain ⟨v', e1, y⟩ := x.drop.rel.moveOut (k := k) (o := o) (by rw [List.getElem?_append_left hk]; exact ek)
      rw [ev] at e1
      cases e1
      rw [List.set_append_left _ _ hk] at y
      exact At.put1 x.sl (by simpa using x.ge) (by simpa using y)
    · rename_i d ek
      cases e
      obtain ⟨A, ho⟩ := x.con (o := .fz d) (by simp only [Qz.con, Qz.conI]; rw [ek])
      cases ho with
      | fz h => exact x.drop.push h
    · cases e
def sRet (fe : FE) : FS := fun L => match fe L with
  | some (r, M) => match mv M r with
    | some (o, M') => some (.rt o, M')
    | none => none
  | none => none
theorem s_ret (h : PEd X e fe) : PSd X (.Return (some e) pos) (sRet fe) := impS (ps_ret h) (by
  rintro D σ H ⟨R, Fm, L, γ, x, fl, L', e, q⟩
  unfold sRet at e
  split at e
  · rename_i r M er
    split at e
    · rename_i o M' em
      cases e
      exact ⟨R, Fm, L, [], γ, x, r, M, er, fun R' v H' s y => q R' σ v H' s (y.mv em)⟩
    · cases e
  · cases e)
def sExpr (fe : FE) : FS := fun L => match fe L with
  | some (_, M) => some (.nx, M)
  | none => none
theorem s_expr (h : PEd X e fe) (hs : swapsWith e none pos.line X.env = pure false := by rfl) : PSd X (.Expr e pos) (sExpr fe) := impS (ps_expr h hs) (by
  rintro D σ H ⟨R, Fm, L, γ, x, fl, L', e, q⟩
  unfold sExpr at e
  split at e
  · rename_i r M er
    cases e
    exact ⟨R, Fm, L, [], γ, x, r, _, er, fun R' v H' s y => q R' σ H' s (At.drop (T := []) (τ := γ) y)⟩
  · cases e)
/-! assignment -/
/-- no alias among them -/
def noAl (T : Sta) : Bool := T.all fun sv => match sv with
  | .rf _ => false
  | _ => true
theorem noRef_app {L T : Sta} {i : Nat} (h : noRef L i = true) (k : noAl T = true) : noRef (L ++ T) i = true := by
  unfold noRef at h ⊢
  rw [List.all_append, h, Bool.true_and]
  refine List.all_eq_true.mpr fun sv hs => ?_
  have := List.all_eq_true.mp k sv hs
  cases sv <;> simp_all

/-- a dict or an instance -/
def OV.isT : OV → Bool
  | .nd (.dct _) _ => true
  | .nd (.obj _ _) _ => true
  | _ => false
/-- a slot gets a value; fr: it is frozen -/
def put (fr : Bool) (i : Nat) (o : OV) (M : Sta) : Option Sta := if noRef M i then (if fr then (match o.dat with
    | some d => some (M.set i (.ow (.fz d)))
    | none => if o.isT && o.nos then some (M.set i (.fb o)) else none) else some (M.set i (.ow o))) else none
theorem At.put {G : Gp} {m : Nat} {R H : Hp} {Fm : Fr} {L L' T : Sta} {σ : L2.St} {τ : List (Option V)} {v : V} {o : OV} {fr : Bool} {i : Nat} (hi : i < m) (y : RelX G L.length R Fm (L ++ T) (σ ++ τ) H [v] [o]) (sl : σ.length = m) (ge : σ.length ≤ L.length) (hT : noAl T = true) (e : put fr i o L = some L') :
    ∃ R', Same R R' ∧ At G m R' Fm L' T (σ.set i (some v)) τ H := by
  unfold Qz.put at e
  split at e
  · rename_i hno
    have hiL : i < L.length := by omega
    have hiσ : i < σ.length := by omega
    have hno' := noRef_app hno hT
    split at e
    · split at e
      · rename_i d ed
        cases e
        obtain ⟨R', s, rp, z⟩ := y.freezeB (ds := [d]) (by simp [OV.dats, ed])
        cases rp with
        | cons rp _ =>
          have z' := (z.consFz rp).store (k := i) (by simp; omega) hno'
          rw [List.set_append_left _ _ hiσ, List.set_append_left _ _ hiL] at z'
          exact ⟨R', s, by simpa using sl, by simpa using ge, by simpa using z'⟩
      · split at e
        · rename_i hns
          cases e
          obtain ⟨R', B, s, rp, z⟩ := y.freezeO (Bool.and_eq_true_iff.mp hns).2
          have z' := z.storeFb (k := i) (by simp; omega) hno' rp
          rw [List.set_append_left _ _ hiσ, List.set_append_left _ _ hiL] at z'
          exact ⟨R', s, by simpa using sl, by simpa using ge, by simpa using z'⟩
        · cases e
    · cases e
      have z' := y.store (k := i) (by simp; omega) hno'
      rw [List.set_append_left _ _ hiσ, List.set_append_left _ _ hiL] at z'
      exact ⟨R, Same.refl R, by simpa using sl, by simpa using ge, by simpa using z'⟩
  · cases e
def sSet (fr : Bool) (i : Nat) (fe : FE) : FS := fun L => match fArgs [fe] L with
  | some ([o], M) => match put fr i o M with
    | some M' => some (.nx, M')
    | none => none
  | _ => none
theorem fArgs1 {L M : Sta} {o : OV} (e : fArgs [fe] L = some ([o], M)) : ∃ r M1, fe L = some (r, M1) ∧ tk M1 r = some (o, M) := by
  simp only [fArgs] at e
  split at e
  · rename_i r M1 er
    split at e
    · rename_i o' M2 eo
      cases e
      exact ⟨r, M1, er, eo⟩
    · cases e
  · cases e
theorem set_run {G : Gp} {m i : Nat} {fr : Bool} (hi : i < m) : ∀ D σ H, tS G m (sSet fr i fe) D σ H → tAsg (tE G m fe) (gName i) D σ H := by
  rintro D σ H ⟨R, Fm, L, γ, x, fl, L', e, q⟩
  unfold sSet at e
  split at e
  · rename_i o M eo
    split at e
    · rename_i M' em
      cases e
      obtain ⟨r, M1, er, et⟩ := fArgs1 eo
      refine ⟨R, Fm, L, [], γ, x, r, M1, er, fun R' v H' s y => ?_⟩
      obtain ⟨R2, s2, y2⟩ := At.tk (T := []) (τ := γ) y et
      obtain ⟨R3, s3, z⟩ := At.put (fr := fr) (i := i) (T := []) (τ := γ) hi (At.take1 (T := []) (τ := γ) y2) y2.sl y2.ge rfl em
      exact q R3 _ H' (s.trans (s2.trans s3)) z
    · cases e
  · cases e
theorem s_set (fr : Bool) {i : Nat} {x : Str} {pos' : Pos} (hN : X.N.Nodup) (hi : X.N[i]? = some x) (hx : Loc X.env.scope x) (he : PEd X e fe) (hs : swapsWith e (some (.Name x pos')) pos.line X.env = pure false := by rfl)
    (hf : X.fn x = true ∨ X.env.scope.names.lookup x = some .local := by first | exact .inl rfl | exact .inr rfl | assumption) : PSd X (.Assign [.Name x pos'] e pos) (sSet fr i fe) :=
  impS (ps_set hN hi hx he hs hf) (set_run (List.getElem?_eq_some_iff.mp hi).1)
/-! several names at once -/
/-- targets: names by slots, nested -/
inductive Tg where
  | nm (i : Nat)
  | tp (ts : List Tg)
mutual
def asg : Tg → PyData → Sta → Option Sta
  | .nm i, d, L => put false i (.fz d) L
  | .tp ts, .tuple ds, L => asgs ts ds L
  | .tp _, _, _ => none
def asgs : List Tg → List PyData → Sta → Option Sta
  | [], [], L => some L
  | t :: ts, d :: ds, L => match asg t d L with
    | some M => asgs ts ds M
    | none => none
  | _, _, _ => none
end
mutual
def Tg.slots : Tg → List Nat
  | .nm i => [i]
  | .tp ts => Tg.slotsL ts
def Tg.slotsL : List Tg → List Nat
  | [] => []
  | t :: ts => t.slots ++ Tg.slotsL ts
end
/-- a target's reading by its function; the value is frozen data -/
def tG (G : Gp) (m : Nat) (t : Tg) : TG := fun v σ H Q => ∃ R Fm L T τ d, noAl T = true ∧ At G m R Fm L T σ τ H ∧ Rp R v d ∧ ∃ L', asg t d L = some L' ∧ ∀ R' σ', Same R R' → (∀ j, j ∉ t.slots → σ'[j]? = σ[j]?) → At G m R' Fm L' T σ' τ H → Q σ' H
def tGs (G : Gp) (m : Nat) (ts : List Tg) : TGs := fun vs σ H Q => ∃ R Fm L T τ ds, noAl T = true ∧ At G m R Fm L T σ τ H ∧ RpL R vs ds ∧ ∃ L', asgs ts ds L = some L' ∧ ∀ R' σ', Same R R' → (∀ j, j ∉ Tg.slotsL ts → σ'[j]? = σ[j]?) → At G m R' Fm L' T σ' τ H → Q σ' H
abbrev PGd (X : Cx) (e : Expr) (t : Tg) : Prop := PG X e (tG (gp X) X.N.length t)
abbrev PGsd (X : Cx) (es : List Expr) (ts : List Tg) : Prop := PGs X es (tGs (gp X) X.N.length ts)
theorem impG {X : Cx} {e : Expr} {t t' : TG} (h : PG X e t) (i : ∀ v σ H Q, t' v σ H Q → t v σ H Q) : PG X e t' := ⟨fun pins s σ H v u Q I r q => h.run pins s σ H v u Q I r (i v σ H Q q)⟩
theorem impGs {X : Cx} {e : List Expr} {t t' : TGs} (h : PGs X e t) (i : ∀ v σ H Q, t' v σ H Q → t v σ H Q) : PGs X e t' := ⟨fun pins s σ H v u Q I r q => h.run pins s σ H v u Q I r (i v σ H Q q)⟩
theorem g_name {i : Nat} {x : Str} (hN : X.N.Nodup) (hi : X.N[i]? = some x) (hx : Loc X.env.scope x) (hf : X.fn x = true ∨ X.env.scope.names.lookup x = some .local := by first | exact .inl rfl | exact .inr rfl | assumption) : PGd X (.Name x pos) (.nm i) :=
  impG (pg_name hN hi hx hf) (by
    rintro v σ H Q ⟨R, Fm, L, T, τ, d, hT, x, hr, L', e, q⟩
    rw [asg] at e
    obtain ⟨R', s, z⟩ := At.put (T := T) (τ := τ) (List.getElem?_eq_some_iff.mp hi).1 (x.rel.consFz hr) x.sl x.ge hT e
    exact q R' _ s (fun j hj => by rw [List.getElem?_set_ne (fun e => hj (by simp [Tg.slots, e]))]) z)
theorem gs_nil : PGsd X [] [] := impGs pgs_nil (by
  rintro v σ H Q ⟨R, Fm, L, T, τ, ds, hT, x, hr, L', e, q⟩
  cases hr with
  | nil => rw [asgs] at e; cases e; exact ⟨rfl, q R σ (Same.refl R) (fun _ _ => rfl) x⟩
  | cons _ _ => simp [asgs] at e)
theorem gs_cons {es : List Expr} {t : Tg} {ts : List Tg} (h1 : PGd X e t) (h2 : PGsd X es ts) (hs : (assignEach (e :: es) X.env).map (·.2) = assign e X.env :: (assignEach es X.env).map (·.2) := by rfl) : PGsd X (e :: es) (t :: ts) := impGs (pgs_cons h1 h2 hs) (by
  rintro v σ H Q ⟨R, Fm, L, T, τ, ds, hT, x, hr, L', e, q⟩
  cases hr with
  | nil => simp [asgs] at e
  | cons h r =>
    rw [asgs] at e
    split at e
    · rename_i M em
      exact ⟨_, _, rfl, R, Fm, L, T, τ, _, hT, x, h, M, em, fun R' σ' s g y => ⟨R', Fm, M, T, τ, _, hT, y, r.mono s, L', e, fun R2 σ2 s2 g2 => q R2 σ2 (s.trans s2) fun j hj => by
        simp only [Tg.slotsL, List.mem_append, not_or] at hj
        rw [g2 j hj.2, g j hj.1]⟩⟩
    · cases e)
theorem asgs_len : ∀ {ts : List Tg} {ds : List PyData} {L L' : Sta}, asgs ts ds L = some L' → ds.length = ts.length
  | [], [], _, _, _ => rfl
  | _ :: ts, _ :: ds, L, L', e => by
    rw [asgs] at e
    split at e
    · simp [asgs_len e]
    · cases e
  | [], _ :: _, _, _, e => by simp [asgs] at e
  | _ :: _, [], _, _, e => by simp [asgs] at e
theorem g_tup {es : List Expr} {k : Nat} {ts : List Tg} (hc : X.calm = true) (h : PGsd X es ts) (hn : (assignEach es X.env).length = ts.length := by rfl) (hst : (assignEach es X.env).findIdx? (·.1) = none := by rfl) : PGd X (.Tuple es k pos) (.tp ts) :=
  impG (pg_tup hc h hn hst) (by
    rintro v σ H Q ⟨R, Fm, L, T, τ, d, hT, x, hr, L', e, q⟩
    cases hr with
    | tup h1 r =>
      rw [asg] at e
      exact ⟨_, _, rfl, SqT.of (x.rel.rh _ _ h1), by rw [r.length]; exact asgs_len e, R, Fm, L, T, τ, _, hT, x, r, L', e, fun R' σ' s g => q R' σ' s (by simpa [Tg.slots] using g)⟩
    | _ => simp [asg] at e)
/-- (a, b) = e: the value is a tuple that is frozen -/
def sUnp (t : Tg) (fe : FE) : FS := fun L => match fArgs [fe] L with
  | some ([.fz d], M) => match asg t d M with
    | some M' => some (.nx, M')
    | none => none
  | _ => none
theorem s_unp {tg : Expr} {t : Tg} (he : PEd X e fe) (hg : PGd X tg t) (hs : swapsWithSole [tg] e pos.line X.env = pure false := by rfl) (hw : swappedStores [tg] e X.env = pure none := by rfl) (h1 : (assignEach [tg] X.env).map (·.2) = [assign tg X.env] := by rfl) : PSd X (.Assign [tg] e pos) (sUnp t fe) :=
  impS (ps_asg he hg hs hw h1) (by
    rintro D σ H ⟨R, Fm, L, γ, x, fl, L', e, q⟩
    unfold sUnp at e
    split at e
    · rename_i d M eo
      split at e
      · rename_i M' em
        cases e
        obtain ⟨r, M1, er, et⟩ := fArgs1 eo
        refine ⟨R, Fm, L, [], γ, x, r, M1, er, fun R' v H' s y => ?_⟩
        obtain ⟨R2, s2, y2⟩ := At.tk (T := []) (τ := γ) y et
        obtain ⟨A, ho⟩ := At.con (T := []) (τ := γ) y2 (o := .fz d) rfl
        cases ho with
        | fz h => exact ⟨R2, Fm, M, [], γ, d, rfl, At.drop (T := []) (τ := γ) y2, h, _, em, fun R3 σ3 s3 _ z => q R3 σ3 H' (s.trans (s2.trans s3)) z⟩
      · cases e
    · cases e)
/-- a, b = x, y with names: what is owned stays owned; frs tells what is frozen -/
def puts : List (Bool × Nat) → List OV → Sta → Option Sta
  | [], [], L => some L
  | (b, i) :: is, o :: os, L => match put b i o L with
    | some M => puts is os M
    | none => none
  | _, _, _ => none
def sPar (is : List (Bool × Nat)) (fs : List FE) : FS := fun L => match fArgs fs L with
  | some (os, M) => match puts is os M with
    | some M' => some (.nx, M')
    | none => none
  | none => none
theorem put_len {b : Bool} {i : Nat} {o : OV} {L L' : Sta} (e : Qz.put b i o L = some L') : L'.length = L.length := by
  unfold Qz.put at e
  split at e
  · split at e
    · split at e
      · cases e; simp
      · split at e
        · cases e; simp
        · cases e
    · cases e; simp
  · cases e
theorem puts_run {G : Gp} {m : Nat} {Fm : Fr} {H : Hp} {γ : List (Option V)} : ∀ {is : List (Bool × Nat)} {os : List OV} {vs : List V} {R : Hp} {L L' : Sta} {σ : L2.St}, vs.length = os.length → (∀ p ∈ is, p.2 < m) → σ.length = m → σ.length ≤ L.length → RelX G L.length R Fm L (σ ++ γ) H vs os →
    puts is os L = some L' → ∃ R', Same R R' ∧ At G m R' Fm L' [] (((is.map (·.2)).zip vs).foldl (fun σ p => σ.set p.1 (some p.2)) σ) γ H
  | [], [], [], R, L, L', σ, _, _, sl, ge, y, e => by
    rw [puts] at e
    cases e
    exact ⟨R, Same.refl R, sl, ge, by simpa using y⟩
  | [], [], _ :: _, _, _, _, _, hl, _, _, _, _, _ => by simp at hl
  | [], _ :: _, _, _, _, _, _, _, _, _, _, _, e => by simp [puts] at e
  | _ :: _, [], _, _, _, _, _, _, _, _, _, _, e => by simp [puts] at e
  | _ :: _, _ :: _, [], _, _, _, _, hl, _, _, _, _, _ => by simp at hl
  | (b, i) :: is, o :: os, v :: vs, R, L, L', σ, hl, hi, sl, ge, y, e => by
    rw [puts] at e
    split at e
    · rename_i M em
      have hm : i < m := hi (b, i) (by simp)
      have hiL : i < L.length := by omega
      have hiσ : i < σ.length := by omega
      have ln := put_len em
      -- the front of the bundle is stored, the rest stays
      have step : ∃ R', Same R R' ∧ RelX G M.length R' Fm M (σ.set i (some v) ++ γ) H vs os := by
        unfold Qz.put at em
        split at em
        · rename_i hno
          split at em
          · split at em
            · rename_i d ed
              cases em
              -- freeze the front alone: scatter it, freeze it, gather it
              have y1 := y.scatter
              obtain ⟨R', s, y2⟩ := y1.freezeAt (k := L.length) (o := o) (by simp) ed
              have e2 : (L ++ [SV.ow o]).set L.length (.ow (.fz d)) = L ++ [.ow (.fz d)] := by
                rw [List.set_append_right _ _ (by omega)]
                simp
              rw [e2] at y2
              have y3 := y2.gather (Nat.le_refl _)
              have z := y3.store hiL hno
              rw [List.set_append_left _ _ hiσ] at z
              exact ⟨R', s, by simpa using z⟩
            · split at em
              · rename_i hns
                cases em
                obtain ⟨R', B, s, rp, z0⟩ := y.freezeO (Bool.and_eq_true_iff.mp hns).2
                have z := z0.storeFb hiL hno rp
                rw [List.set_append_left _ _ hiσ] at z
                exact ⟨R', s, by simpa using z⟩
              · cases em
          · cases em
            have z := y.store hiL hno
            rw [List.set_append_left _ _ hiσ] at z
            exact ⟨R, Same.refl R, by simpa using z⟩
        · cases em
      obtain ⟨R1, s1, y1⟩ := step
      obtain ⟨R2, s2, z⟩ := puts_run (is := is) (os := os) (vs := vs) (L := M) (σ := σ.set i (some v)) (by simpa using hl) (fun p hp => hi p (by simp [hp])) (by simpa using sl) (by simp; omega) y1 e
      exact ⟨R2, s1.trans s2, z⟩
    · cases e
theorem puts_len : ∀ {is : List (Bool × Nat)} {os : List OV} {L L' : Sta}, puts is os L = some L' → os.length = is.length
  | [], [], _, _, _ => rfl
  | (b, i) :: is, o :: os, L, L', e => by
    rw [puts] at e
    split at e
    · simp [puts_len e]
    · cases e
  | [], _ :: _, _, _, e => by simp [puts] at e
  | _ :: _, [], _, _, e => by simp [puts] at e
theorem par_run {G : Gp} {m : Nat} {is : List (Bool × Nat)} {fs : List FE} (hi : ∀ p ∈ is, p.2 < m) : ∀ D σ H, tS G m (sPar is fs) D σ H → tA G m fs σ H fun vs H1 => vs.length = is.length ∧ ∀ H2, Same H1 H2 → D.nx (((is.map (·.2)).zip vs).foldl (fun σ p => σ.set p.1 (some p.2)) σ) H2 := by
  rintro D σ H ⟨R, Fm, L, γ, x, fl, L', e, q⟩
  unfold sPar at e
  split at e
  · rename_i os M eo
    split at e
    · rename_i M' em
      cases e
      refine ⟨R, Fm, L, [], γ, x, os, M, eo, fun R1 vs H1 s1 hl x1 => ⟨by rw [hl]; exact puts_len em, fun H2 sh => ?_⟩⟩
      have y := At.takeN (T := []) (τ := γ) hl x1
      obtain ⟨R2, s2, z⟩ := puts_run hl hi x1.sl x1.ge (by simpa using y) em
      exact q R2 _ H2 (s1.trans s2) (z.grow sh)
    · cases e
  · cases e
theorem s_par {fr1 fr2 : Bool} {i j : Nat} {x y : Str} {a b : Expr} {fa fb : FE} {px py pt : Pos} {kt k2 pt2} (hc : X.calm = true) (hN : X.N.Nodup) (hi : X.N[i]? = some x) (hj : X.N[j]? = some y) (hij : i ≠ j)
    (hx : X.env.scope.names.lookup x = some .local) (hy : X.env.scope.names.lookup y = some .local) (ha : PAd X [a, b] [fa, fb])
    (hw : swappedStores [.Tuple [.Name x px, .Name y py] kt pt] (.Tuple [a, b] k2 pt2) X.env = pure (some [x, y]))
    (hs : swapsWithSole [.Tuple [.Name x px, .Name y py] kt pt] (.Tuple [a, b] k2 pt2) pos.line X.env = pure false := by rfl) :
    PSd X (.Assign [.Tuple [.Name x px, .Name y py] kt pt] (.Tuple [a, b] k2 pt2) pos) (sPar [(fr1, i), (fr2, j)] [fa, fb]) :=
  impS (ps_par hc hN hi hj hij hx hy ha hw hs) (by
    intro D σ H h
    have hm : ∀ p ∈ [(fr1, i), (fr2, j)], p.2 < X.N.length := fun p hp => by
      simp at hp
      rcases hp with rfl | rfl
      · exact (List.getElem?_eq_some_iff.mp hi).1
      · exact (List.getElem?_eq_some_iff.mp hj).1
    obtain ⟨R, Fm, L, T, τ, x, os, L', e, q⟩ := par_run hm D σ H h
    refine ⟨R, Fm, L, T, τ, x, os, L', e, fun R' vs H' s hl z => ?_⟩
    obtain ⟨h1, h2⟩ := q R' vs H' s hl z
    match vs, h1, h2 with
    | [v, w], _, h2 => exact ⟨v, w, rfl, h2 _ (Same.refl _)⟩)
theorem s_par3 {fr1 fr2 fr3 : Bool} {i j l : Nat} {x y z : Str} {a b c : Expr} {fa fb fc : FE} {px py pz pt : Pos} {kt k2 pt2} (hc : X.calm = true) (hN : X.N.Nodup) (hi : X.N[i]? = some x) (hj : X.N[j]? = some y) (hl : X.N[l]? = some z) (hij : i ≠ j) (hil : i ≠ l) (hjl : j ≠ l)
    (hx : X.env.scope.names.lookup x = some .local) (hy : X.env.scope.names.lookup y = some .local) (hz : X.env.scope.names.lookup z = some .local) (ha : PAd X [a, b, c] [fa, fb, fc])
    (hw : swappedStores [.Tuple [.Name x px, .Name y py, .Name z pz] kt pt] (.Tuple [a, b, c] k2 pt2) X.env = pure (some [x, y, z]))
    (hs : swapsWithSole [.Tuple [.Name x px, .Name y py, .Name z pz] kt pt] (.Tuple [a, b, c] k2 pt2) pos.line X.env = pure false := by rfl) :
    PSd X (.Assign [.Tuple [.Name x px, .Name y py, .Name z pz] kt pt] (.Tuple [a, b, c] k2 pt2) pos) (sPar [(fr1, i), (fr2, j), (fr3, l)] [fa, fb, fc]) :=
  impS (ps_par3 hc hN hi hj hl hij hil hjl hx hy hz ha hw hs) (by
    intro D σ H h
    have hm : ∀ p ∈ [(fr1, i), (fr2, j), (fr3, l)], p.2 < X.N.length := fun p hp => by
      simp at hp
      rcases hp with rfl | rfl | rfl
      · exact (List.getElem?_eq_some_iff.mp hi).1
      · exact (List.getElem?_eq_some_iff.mp hj).1
      · exact (List.getElem?_eq_some_iff.mp hl).1
    obtain ⟨R, Fm, L, T, τ, x, os, L', e, q⟩ := par_run hm D σ H h
    refine ⟨R, Fm, L, T, τ, x, os, L', e, fun R' vs H' s hl z => ?_⟩
    obtain ⟨h1, h2⟩ := q R' vs H' s hl z
    match vs, h1, h2 with
    | [u, v, w], _, h2 => exact ⟨u, v, w, rfl, h2 _ (Same.refl _)⟩)
/-! if -/
def sIf (t : FT) (f g : FS) : FS := fun L => match t L with
  | some (true, M) => f M
  | some (false, M) => g M
  | none => none
theorem s_if {c : Expr} {a b : List Stmt} {tc : FT} (hc : PTd X c tc) (ha : PBd X a f) (hb : PBd X b g) : PSd X (.If c a b pos) (sIf tc f g) := impS (ps_if hc ha hb) (by
  rintro D σ H ⟨R, Fm, L, γ, x, fl, L', e, q⟩
  unfold sIf at e
  split at e
  · rename_i M em
    exact ⟨R, Fm, L, [], γ, x, true, M, em, fun R' H' s y => iteT ⟨R', Fm, M, γ, y, fl, L', e, q.mono s⟩⟩
  · rename_i M em
    exact ⟨R, Fm, L, [], γ, x, false, M, em, fun R' H' s y => iteF ⟨R', Fm, M, γ, y, fl, L', e, q.mono s⟩⟩
  · cases e)
end
end Qz
namespace Qz
open PySem PySem.Spec PyProof.Rows L2
/-! ### a bundle lent to the frame, and back -/
structure Lent (G : Gp) (R : Hp) (Fm Fm' : Fr) (ws : List V) (ps : List OV) : Prop where
  bo : Fm'.bo = Fm.bo
  sub : Same Fm.fm Fm'.fm
  own : ∃ B, OwL G R Fm'.fm ws ps B ∧ B.Nodup ∧ ∀ a ∈ B, Fm.fm a = none
section
variable {G : Gp} {n : Nat} {R R' H H' : Hp} {Fm Fm' : Fr} {its : List SV} {vals : List (Option V)} {ws : List V} {ps : List OV}
theorem SlotOk.reF {i : Nat} {A : List Addr} {sv : SV} (e : Fm'.bo = Fm.bo) (h : SlotOk G R Fm H n vals i A sv) : SlotOk G R Fm' H n vals i A sv := by
  cases sv with
  | no => exact h
  | ow o => exact h
  | bo o => obtain ⟨e0, v, B, e1, e2⟩ := h; exact ⟨e0, v, B, e1, by rw [e]; exact e2⟩
  | fb o => exact h
  | rf k => exact h
theorem RelX.lendB (x : RelX G n R Fm its vals H ws ps) : ∃ Fm', Lent G R Fm Fm' ws ps ∧ Rel G n R Fm' its vals H := by
  obtain ⟨fp, B, h1, h2, h3, h4, h5, h6, h7, h8⟩ := x.ex
  -- the locked things come along
  let F : Hp := fun a => if a ∈ B then H a else match Fm.fm a with
    | some o => some o
    | none => match H a with
      | some (.frz o u) => some (.frz o u)
      | _ => none
  have f1 : ∀ a, a ∈ B → F a = H a := fun a h => if_pos h
  have f2 : ∀ a u, Fm.fm a = some u → F a = some u := fun a u q => by
    have hn : a ∉ B := fun h => by rw [(h8 a h).2.1] at q; cases q
    show (if a ∈ B then H a else _) = _
    rw [if_neg hn, q]
  have f3 : ∀ a u, F a = some u → H a = some u ∧ (a ∈ B ∨ Fm.fm a = some u ∨ ∃ o v, u = .frz o v) := fun a u q => by
    by_cases hB : a ∈ B
    · rw [f1 a hB] at q; exact ⟨q, .inl hB⟩
    · have e : F a = (match Fm.fm a with
        | some o => some o
        | none => match H a with
          | some (.frz o u) => some (.frz o u)
          | _ => none) := if_neg hB
      rw [e] at q
      split at q
      · rename_i o eo
        cases q
        exact ⟨x.fh a _ eo, .inr (.inl eo)⟩
      · split at q
        · rename_i o v eo
          cases q
          exact ⟨eo, .inr (.inr ⟨o, v, rfl⟩)⟩
        · cases q
  have fz : Frz H F := fun b o u q => by
    have hn : b ∉ B := fun h => h6.nofrz b h o u q
    show (if b ∈ B then H b else _) = _
    rw [if_neg hn]
    split
    · rename_i o' eo
      rw [x.fh b _ eo] at q
      exact q
    · rw [q]
  have nf : ∀ b o u, H b = some (.frz o u) → R b = none ∧ ∀ i, b ∉ fp i := fun b o u q => by
    refine ⟨?_, fun i hi => ?_⟩
    · cases e : R b with
      | none => rfl
      | some z =>
        have := x.rh b z e
        rw [q] at this
        cases this
        exact absurd e (x.dj.2 b o u)
    · have hlt : i < its.length := Nat.lt_of_not_le fun h => by rw [h2 i h] at hi; simp at hi
      have hs := h1 i _ (List.getElem?_eq_getElem hlt)
      cases hsv : its[i] with
      | no => rw [hsv] at hs; rw [show fp i = [] from hs] at hi; simp at hi
      | ow o' => rw [hsv] at hs; obtain ⟨v, _, ho⟩ := hs; exact ho.nofrz b hi o u q
      | bo o' => rw [hsv] at hs; rw [hs.1] at hi; simp at hi
      | fb o' => rw [hsv] at hs; rw [hs.1] at hi; simp at hi
      | rf k => rw [hsv] at hs; rw [hs.1] at hi; simp at hi
  refine ⟨⟨Fm.bo, F, fun a u q => f2 a u (Fm.sub a u q)⟩, ⟨rfl, fun a u q => f2 a u q, B, h6.frame fz fun b hb u q => by show F b = some u; rw [f1 b hb]; exact q, h7, fun a ha => (h8 a ha).2.1⟩,
    x.len, x.rh, fun a u q => (f3 a u q).1, ⟨fun a u q => ?_, x.dj.2⟩, fp, [], fun i sv e => (h1 i sv e).reF rfl, h2, h3, h4, fun i a hi => ⟨(h5 i a hi).1, ?_⟩, .nil, List.nodup_nil, fun _ q => by simp at q⟩
  · obtain ⟨q1, q2 | q2 | ⟨o, v, q2⟩⟩ := f3 a u q
    · exact (h8 a q2).1
    · exact x.dj.1 a u q2
    · rw [q2] at q1; exact (nf a o v q1).1
  · show F a = none
    cases q : F a with
    | none => rfl
    | some u =>
      obtain ⟨q1, q2 | q2 | ⟨o, v, q2⟩⟩ := f3 a u q
      · exact absurd hi ((h8 a q2).2.2 i)
      · rw [(h5 i a hi).2] at q2; cases q2
      · rw [q2] at q1; exact absurd hi ((nf a o v q1).2 i)
/-- a smaller frame -/
theorem RelX.shrink (x : RelX G n R Fm' its vals H ws ps) (e : Fm'.bo = Fm.bo) (s : Same Fm.fm Fm'.fm) : RelX G n R Fm its vals H ws ps := by
  obtain ⟨fp, B, h1, h2, h3, h4, h5, h6, h7, h8⟩ := x.ex
  exact ⟨x.len, x.rh, s.trans x.fh, ⟨fun a u q => x.dj.1 a u (s a u q), x.dj.2⟩, fp, B, fun i sv q => (h1 i sv q).reF e.symm, h2, h3, h4, fun i a hi => ⟨(h5 i a hi).1, s.free (h5 i a hi).2⟩, h6, h7, fun a ha => ⟨(h8 a ha).1, s.free (h8 a ha).2.1, (h8 a ha).2.2⟩⟩
theorem RelX.back (l : Lent G R Fm Fm' ws ps) (s : Same R R') (x : Rel G n R' Fm' its vals H') : RelX G n R' Fm its vals H' ws ps := by
  obtain ⟨fp, B0, h1, h2, h3, h4, h5, _, _, _⟩ := x.ex
  obtain ⟨B, k1, k2, k3⟩ := l.own
  have lv := k1.live
  refine ⟨x.len, x.rh, l.sub.trans x.fh, ⟨fun a u q => x.dj.1 a u (l.sub a u q), x.dj.2⟩, fp, B, fun i sv q => (h1 i sv q).reF l.bo.symm, h2, h3, h4, fun i a hi => ⟨(h5 i a hi).1, l.sub.free (h5 i a hi).2⟩, (k1.mono s).frame (frz_same x.fh) fun b _ u q => x.fh b u q, k2, fun a ha => ?_⟩
  obtain ⟨u, q⟩ := lv a ha
  refine ⟨x.dj.1 a u q, k3 a ha, fun i hi => ?_⟩
  have := (h5 i a hi).2
  rw [q] at this; cases this
end
/-! ### what is walked -/
structure ItOk (R : Hp) (Fm : Fr) (J : It) (ds : List PyData) : Prop where
  go : ∀ (i : Nat) H d, Same Fm.fm H → Same R H → ds[i]? = some d → J.go i H
  yld : ∀ (i : Nat) H x H' d, Same Fm.fm H → Same R H → ds[i]? = some d → J.yld i H x H' → (H' = H ∧ Rp R x d) ∨ ∃ T ts es, x = .ref T ∧ H T = none ∧ H' = upd H T (.tup ts) ∧ d = .tuple es ∧ RpL R ts es
  stop : ∀ H, Same Fm.fm H → Same R H → J.stop ds.length H
abbrev FI := Sta → Option (List PyData × Sta)
def tI (G : Gp) (m : Nat) (f : FI) : TI := fun σ H K => ∃ R Fm L T τ, At G m R Fm L T σ τ H ∧ ∃ ds L', f L = some (ds, L') ∧
  ∀ R' Fm' H' J, Same R R' → Fm'.bo = Fm.bo → Same Fm.fm Fm'.fm → At G m R' Fm' L' T σ τ H' → ItOk R' Fm' J ds → K J H'
abbrev PId (X : Cx) (tg iter : Expr) (f : FI) : Prop := PI X tg iter (tI (gp X) X.N.length f)
theorem impI {X : Cx} {tg e : Expr} {t t' : TI} (h : PI X tg e t) (i : ∀ σ H K, t' σ H K → t σ H K) : PI X tg e t' := ⟨fun pins s σ H K I q => h.run pins s σ H K I (i σ H K q)⟩
theorem pi_or {X : Cx} {tg e : Expr} {t t' : TI} (h : PI X tg e t) (h' : PI X tg e t') : PI X tg e (fun σ H K => t σ H K ∨ t' σ H K) := ⟨fun pins s σ H K I q => q.elim (h.run pins s σ H K I) (h'.run pins s σ H K I)⟩
section
variable {K : PySem.W.Frag} {R : Hp} {Fm : Fr} {a : Addr} {vs : List V} {ds : List PyData}
theorem sqT_same {K : PySem.W.Frag} {H H' : Hp} {a : Addr} {vs : List V} (s : Same H H') (h : SqT K H a vs) : SqT K H' a vs := by
  rcases h with (h | ⟨o, h⟩) | h
  · exact .inl (.inl (s _ _ h))
  · exact .inl (.inr ⟨o, s _ _ h⟩)
  · exact .inr h
theorem itOk_list (h : ∀ H, Same Fm.fm H → Same R H → SqL K H a vs) (r : RpL R vs ds) : ItOk R Fm (Itl K a) ds where
  go := fun i H d s1 s2 e => by
    obtain ⟨v, e1, _⟩ := r.get e
    exact ⟨vs, v, h H s1 s2, e1⟩
  yld := fun i H x H' d s1 s2 e y => by
    obtain ⟨v, e1, e2⟩ := r.get e
    have := y.2 vs (h H s1 s2)
    rw [e1] at this
    cases this
    exact .inl ⟨y.1, e2⟩
  stop := fun H s1 s2 => ⟨vs, h H s1 s2, by rw [r.length]; exact Nat.le_refl _⟩
theorem itOk_tup (h : ∀ H, Same Fm.fm H → Same R H → SqT K H a vs) (r : RpL R vs ds) : ItOk R Fm (Itt K a) ds where
  go := fun i H d s1 s2 e => by
    obtain ⟨v, e1, _⟩ := r.get e
    exact ⟨vs, v, h H s1 s2, e1⟩
  yld := fun i H x H' d s1 s2 e y => by
    obtain ⟨v, e1, e2⟩ := r.get e
    have := y.2 vs (h H s1 s2)
    rw [e1] at this
    cases this
    exact .inl ⟨y.1, e2⟩
  stop := fun H s1 s2 => ⟨vs, h H s1 s2, by rw [r.length]; exact Nat.le_refl _⟩
/-- (0, x), (1, y), .. -/
def enumD (i : Nat) : List PyData → List PyData
  | [] => []
  | d :: ds => .tuple [.int i, d] :: enumD (i + 1) ds
theorem enumD_get : ∀ (ds : List PyData) (k i : Nat), (enumD k ds)[i]? = (ds[i]?).map fun d => .tuple [.int ((k + i : Nat) : Int), d]
  | [], _, _ => by simp [enumD]
  | d :: ds, k, 0 => by simp [enumD]
  | d :: ds, k, i + 1 => by
    simp only [enumD, List.getElem?_cons_succ]
    rw [enumD_get ds (k + 1) i]
    congr 1
    funext d
    rw [show k + 1 + i = k + (i + 1) by omega]
theorem enumD_len : ∀ (ds : List PyData) (k : Nat), (enumD k ds).length = ds.length
  | [], _ => rfl
  | d :: ds, k => by simp [enumD, enumD_len ds]
theorem itOk_enum (h : ∀ H, Same Fm.fm H → Same R H → SqL K H a vs) (r : RpL R vs ds) : ItOk R Fm (Ite K a) (enumD 0 ds) where
  go := fun i H d s1 s2 e => by
    rw [enumD_get] at e
    obtain ⟨d', e1, _⟩ := Option.map_eq_some_iff.mp e
    obtain ⟨v, e2, _⟩ := r.get e1
    exact ⟨vs, v, h H s1 s2, e2⟩
  yld := fun i H x H' d s1 s2 e y => by
    rw [enumD_get] at e
    obtain ⟨d', e1, e0⟩ := Option.map_eq_some_iff.mp e
    obtain ⟨v, e2, e3⟩ := r.get e1
    obtain ⟨T, x', rfl, hT, rfl, f⟩ := y
    have := f vs (h H s1 s2)
    rw [e2] at this
    cases this
    subst e0
    exact .inr ⟨T, _, _, rfl, hT, rfl, rfl, .cons (by rw [Nat.zero_add]; exact .int _) (.cons e3 .nil)⟩
  stop := fun H s1 s2 => ⟨vs, h H s1 s2, by rw [r.length, enumD_len]; exact Nat.le_refl _⟩
def zipD : List PyData → List PyData → List PyData
  | d :: ds, e :: es => .tuple [d, e] :: zipD ds es
  | _, _ => []
theorem zipD_get : ∀ (ds es : List PyData) (i : Nat) (d : PyData), (zipD ds es)[i]? = some d → ∃ x y, ds[i]? = some x ∧ es[i]? = some y ∧ d = .tuple [x, y]
  | [], _, _, _, h => by simp [zipD] at h
  | _ :: _, [], _, _, h => by simp [zipD] at h
  | x :: ds, y :: es, 0, d, h => by simp [zipD] at h; exact ⟨x, y, rfl, rfl, h.symm⟩
  | x :: ds, y :: es, i + 1, d, h => by
    simp only [zipD, List.getElem?_cons_succ] at h
    obtain ⟨a, b, h1, h2, h3⟩ := zipD_get ds es i d h
    exact ⟨a, b, by simpa using h1, by simpa using h2, h3⟩
theorem zipD_len : ∀ (ds es : List PyData), ds.length ≤ (zipD ds es).length ∨ es.length ≤ (zipD ds es).length
  | [], _ => .inl (by simp [zipD])
  | _ :: _, [] => .inr (by simp [zipD])
  | x :: ds, y :: es => by
    rcases zipD_len ds es with h | h
    · exact .inl (by simp [zipD, h])
    · exact .inr (by simp [zipD, h])
theorem itOk_zip {b : Addr} {us : List V} {es : List PyData} (h : ∀ H, Same Fm.fm H → Same R H → SqL K H a vs ∧ SqL K H b us) (r : RpL R vs ds) (r2 : RpL R us es) : ItOk R Fm (Itz K a b) (zipD ds es) where
  go := fun i H d s1 s2 e => by
    obtain ⟨x, y, e1, e2, _⟩ := zipD_get _ _ _ _ e
    obtain ⟨v, e3, _⟩ := r.get e1
    obtain ⟨u, e4, _⟩ := r2.get e2
    exact ⟨vs, us, v, u, (h H s1 s2).1, (h H s1 s2).2, e3, e4⟩
  yld := fun i H x H' d s1 s2 e y => by
    obtain ⟨x', y', e1, e2, rfl⟩ := zipD_get _ _ _ _ e
    obtain ⟨v, e3, g1⟩ := r.get e1
    obtain ⟨u, e4, g2⟩ := r2.get e2
    obtain ⟨T, p, q, rfl, hT, rfl, f1, f2⟩ := y
    have h1 := f1 vs (h H s1 s2).1
    have h2 := f2 us (h H s1 s2).2
    rw [e3] at h1
    rw [e4] at h2
    cases h1
    cases h2
    exact .inr ⟨T, _, _, rfl, hT, rfl, rfl, .cons g1 (.cons g2 .nil)⟩
  stop := fun H s1 s2 => ⟨vs, us, (h H s1 s2).1, (h H s1 s2).2, by rw [r.length, r2.length]; exact zipD_len ds es⟩
def rgD (n : Nat) : List PyData := (List.range n).map fun (i : Nat) => .int (i : Int)
theorem itOk_range (n : Nat) : ItOk R Fm (Itr 0 n) (rgD n) where
  go := fun i H d s1 s2 e => by
    have := (List.getElem?_eq_some_iff.mp e).1
    have h : i < n := by simpa [rgD] using this
    exact h
  yld := fun i H x H' d s1 s2 e y => by
    obtain ⟨y1, y2⟩ := y
    subst y2
    have hi : i < n := by have := (List.getElem?_eq_some_iff.mp e).1; simpa [rgD] using this
    have : d = .int (i : Int) := by
      unfold rgD at e
      rw [List.getElem?_map, List.getElem?_range hi] at e
      exact (Option.some.inj e).symm
    subst this
    exact .inl ⟨y1, by rw [Int.zero_add]; exact .int _⟩
  stop := fun H s1 s2 => by simp [Itr, rgD]
end
/-- an operand walked: a temporary, a borrowed or frozen thing -/
def srcK (M : Sta) : SV → Option (Bool × List PyData)
  | .ow o => kids o
  | .rf k => match M[k]? with
    | some (.bo o) => kids o
    | some (.fb o) => kids o
    | some (.ow (.fz d)) => kids (.fz d)
    | _ => none
  | _ => none
section
variable {G : Gp} {m : Nat} {R Fm H : Hp} {L T : Sta} {σ : L2.St} {τ : List (Option V)} {v : V} {r : SV} {b : Bool} {ds : List PyData}
theorem Ow.kdF {G : Gp} {R H : Hp} {v : V} {o : OV} {A : List Addr} {ds : List PyData} {b : Bool} (h : Ow G R H v o A) (e : kids o = some (b, ds)) : ∃ a vs, v = .ref a ∧ RpL R vs ds ∧ ∀ H', Same H H' → Same R H' → ((b = false ∧ SqL G.K H' a vs) ∨ (b = true ∧ SqT G.K H' a vs)) := by
  unfold kids at e
  split at e
  · cases e
    obtain ⟨a, vs, e, h1, h2⟩ := h.tup
    exact ⟨a, vs, e, h2, fun H' _ s => .inr ⟨rfl, SqT.of (s _ _ h1)⟩⟩
  · obtain ⟨ds', e1, e2⟩ := Option.map_eq_some_iff.mp e
    cases e2
    have e' := frs_eq e1
    subst e'
    cases h with
    | nd n l =>
      cases n with
      | scr h => exact ⟨_, _, rfl, l.frs.1, fun H' s _ => .inl ⟨rfl, s.seq h.sq⟩⟩
  · obtain ⟨ds', e1, e2⟩ := Option.map_eq_some_iff.mp e
    cases e2
    unfold lkids at e1
    split at e1
    · cases e1
      cases h with | fz h => cases h with | lst h r => exact ⟨_, _, rfl, r, fun H' _ s => .inl ⟨rfl, SqL.of (s _ _ h)⟩⟩
    · have e' := frs_eq e1
      subst e'
      cases h with
      | nd n l =>
        cases n with
        | lst h => exact ⟨_, _, rfl, l.frs.1, fun H' s _ => .inl ⟨rfl, SqL.of (s _ _ h)⟩⟩
    · cases e1
end
theorem At.srcK {G : Gp} {m : Nat} {R H : Hp} {Fm : Fr} {L T : Sta} {σ : L2.St} {τ : List (Option V)} {v : V} {r : SV} {b : Bool} {ds : List PyData} (x : At G m R Fm L (T ++ [r]) σ (τ ++ [some v]) H) (e : srcK L r = some (b, ds)) : ∃ Fm', Fm'.bo = Fm.bo ∧ Same Fm.fm Fm'.fm ∧ At G m R Fm' L T σ τ H ∧
    ∃ a vs, v = .ref a ∧ RpL R vs ds ∧ ∀ H', Same Fm'.fm H' → Same R H' → ((b = false ∧ SqL G.K H' a vs) ∨ (b = true ∧ SqT G.K H' a vs)) := by
  cases r with
  | no => cases e
  | bo o => cases e
  | fb o => cases e
  | ow o =>
    have e' : kids o = some (b, ds) := e
    obtain ⟨Fm', l, y⟩ := x.take1.lendB
    obtain ⟨B, k1, _, _⟩ := l.own
    obtain ⟨a, vs, e1, e2, e3⟩ := k1.one'.kdF e'
    exact ⟨Fm', l.bo, l.sub, ⟨x.sl, x.ge, y⟩, a, vs, e1, e2, e3⟩
  | rf k =>
    unfold Qz.srcK at e
    simp only at e
    split at e
    · rename_i o ek
      obtain ⟨hk, ev⟩ := x.rfv (u := v) (T' := T) (τ' := τ)
      obtain ⟨fp, B, h1, _⟩ := x.drop.rel.ex
      obtain ⟨_, v', B', e1, e2⟩ := h1 k (.bo o) (by rw [List.getElem?_append_left hk]; exact ek)
      rw [ev] at e1
      cases e1
      obtain ⟨a, vs, g1, g2, g3⟩ := e2.kdF e
      exact ⟨Fm, rfl, Same.refl _, x.drop, a, vs, g1, g2, fun H' s1 s2 => g3 H' (un_to (Fm.sub.trans s1) s2) s2⟩
    · rename_i o ek
      obtain ⟨hk, ev⟩ := x.rfv (u := v) (T' := T) (τ' := τ)
      obtain ⟨fp, B, h1, _⟩ := x.drop.rel.ex
      obtain ⟨_, v', B', e1, e2⟩ := h1 k (.fb o) (by rw [List.getElem?_append_left hk]; exact ek)
      rw [ev] at e1
      cases e1
      obtain ⟨a, vs, g1, g2, g3⟩ := e2.kdF e
      exact ⟨Fm, rfl, Same.refl _, x.drop, a, vs, g1, g2, fun H' s1 s2 => g3 H' s2 s2⟩
    · rename_i d ek
      obtain ⟨A, ho⟩ := x.con (o := .fz d) (by simp only [Qz.con, Qz.conI]; rw [ek])
      cases ho with
      | fz h =>
        obtain ⟨a, vs, g1, g2, g3⟩ := (Ow.fz (G := G) (H := fun _ => none) h).kdF e
        exact ⟨Fm, rfl, Same.refl _, x.drop, a, vs, g1, g2, fun H' s1 s2 => g3 H' (fun _ _ q => by cases q) s2⟩
    · cases e
def iSrc (fe : FE) : FI := fun L => match fe L with
  | some (r, M) => match srcK M r with
    | some (_, ds) => some (ds, M)
    | none => none
  | none => none
def iEnm (fe : FE) : FI := fun L => match fe L with
  | some (r, M) => match srcK M r with
    | some (false, ds) => some (enumD 0 ds, M)
    | _ => none
  | none => none
def iZp (fa fb : FE) : FI := fun L => match fa L with
  | some (a, M1) => match fb M1 with
    | some (b, M2) => match srcK M2 a, srcK M2 b with
      | some (false, ds), some (false, es) => some (zipD ds es, M2)
      | _, _ => none
    | none => none
  | none => none
noncomputable def iRg (fe : FE) : FI := fun L => match fe L with
  | some (r, M) => match con M r with
    | some (.fz (.int n)) => if sm (-(2 ^ 62) ≤ n ∧ n < 2 ^ 62) then some (rgD n.toNat, M) else none
    | _ => none
  | none => none
section
variable {X : Cx} {tg e a b : Expr} {fe fa fb : FE} {pos p : Pos}
theorem i_src (h : PEd X e fe) : PId X tg e (iSrc fe) := impI (pi_or (pi_list h) (pi_tup h)) (by
  rintro σ H K ⟨R, Fm, L, T, τ, x, ds, L', e, q⟩
  unfold iSrc at e
  split at e
  · rename_i r M er
    split at e
    · rename_i bb ds' es
      cases e
      cases bb with
      | false =>
        refine .inl ⟨R, Fm, L, T, τ, x, r, _, er, fun R' v H' s y => ?_⟩
        obtain ⟨Fm', g1, g2, z, a, vs, rfl, rr, hk⟩ := y.srcK es
        have hk' : ∀ H2, Same Fm'.fm H2 → Same R' H2 → SqL X.K H2 a vs := fun H2 s1 s2 => ((hk H2 s1 s2).resolve_right (fun h => by cases h.1)).2
        exact ⟨a, rfl, ⟨vs, hk' _ z.rel.fh z.rel.rh⟩, q R' Fm' H' _ s g1 g2 z (itOk_list hk' rr)⟩
      | true =>
        refine .inr ⟨R, Fm, L, T, τ, x, r, _, er, fun R' v H' s y => ?_⟩
        obtain ⟨Fm', g1, g2, z, a, vs, rfl, rr, hk⟩ := y.srcK es
        have hk' : ∀ H2, Same Fm'.fm H2 → Same R' H2 → SqT X.K H2 a vs := fun H2 s1 s2 => ((hk H2 s1 s2).resolve_left (fun h => by cases h.1)).2
        exact ⟨a, rfl, ⟨vs, hk' _ z.rel.fh z.rel.rh⟩, q R' Fm' H' _ s g1 g2 z (itOk_tup hk' rr)⟩
    · cases e
  · cases e)
theorem i_enum {elts : List Expr} {kk : Nat} {tpos : Pos} (hg : Gl X "enumerate") (hm : X.mg "enumerate" = none) (h : PEd X e fe) (hs : starEach [e] X.env = [(false, eval e X.env)] := by rfl) (he : starEach [e] X.env = (false, eval e X.env) :: starEach [] X.env := by rfl) : PId X (.Tuple elts kk tpos) (.Call (.Name "enumerate" p) [e] [] pos) (iEnm fe) := impI (pi_enum hg hm (pa_cons h pa_nil he) hs) (by
  rintro σ H K ⟨R, Fm, L, T, τ, x, ds, L', e, q⟩
  unfold iEnm at e
  split at e
  · rename_i r M er
    split at e
    · rename_i ds' es
      cases e
      refine ⟨R, Fm, L, T, τ, x, r, _, er, fun R' v H' s y => ?_⟩
      obtain ⟨Fm', g1, g2, z, a, vs, rfl, rr, hk⟩ := y.srcK es
      have hk' : ∀ H2, Same Fm'.fm H2 → Same R' H2 → SqL X.K H2 a vs := fun H2 s1 s2 => ((hk H2 s1 s2).resolve_right (fun h => by cases h.1)).2
      exact ⟨a, vs, rfl, hk' _ z.rel.fh z.rel.rh, q R' Fm' H' _ s g1 g2 z (itOk_enum hk' rr)⟩
    · cases e
  · cases e)
theorem i_zip {elts : List Expr} {kk : Nat} {tpos : Pos} (hg : Gl X "zip") (hm : X.mg "zip" = none) (ha : PEd X a fa) (hb : PEd X b fb) (hs : starEach [a, b] X.env = (false, eval a X.env) :: starEach [b] X.env := by rfl) (he : starEach [b] X.env = (false, eval b X.env) :: starEach [] X.env := by rfl) (hpl : (backTo pos (starEach [b] X.env)).any (·.1) = false := by rfl) : PId X (.Tuple elts kk tpos) (.Call (.Name "zip" p) [a, b] [] pos) (iZp fa fb) := impI (pi_zip hg hm (pa_cons ha (pa_cons hb pa_nil he) hs) hs hpl) (by
  rintro σ H K ⟨R, Fm, L, T, τ, x, ds, L', e, q⟩
  unfold iZp at e
  split at e
  · rename_i r1 M1 er1
    split at e
    · rename_i r2 M2 er2
      split at e
      · rename_i ds1 ds2 es1 es2
        cases e
        refine ⟨R, Fm, L, T, τ, x, r1, M1, er1, fun R1 v H1 s1 y1 => ⟨R1, Fm, M1, _, _, y1, r2, _, er2, fun R2 u H2 s2 y2 => ?_⟩⟩
        obtain ⟨Fm1, g1, g2, z1, b, us, rfl, rr2, hk2⟩ := y2.srcK es2
        obtain ⟨Fm2, g3, g4, z2, a, vs, rfl, rr1, hk1⟩ := z1.srcK es1
        have hk2' : ∀ H3, Same Fm2.fm H3 → Same R2 H3 → SqL X.K H3 b us := fun H3 t1 t2 => ((hk2 H3 (g4.trans t1) t2).resolve_right (fun h => by cases h.1)).2
        have hk1' : ∀ H3, Same Fm2.fm H3 → Same R2 H3 → SqL X.K H3 a vs := fun H3 t1 t2 => ((hk1 H3 t1 t2).resolve_right (fun h => by cases h.1)).2
        exact ⟨a, b, vs, us, rfl, hk1' _ z2.rel.fh z2.rel.rh, hk2' _ z2.rel.fh z2.rel.rh, q R2 Fm2 H2 _ (s1.trans s2) (g3.trans g1) (g2.trans g4) z2 (itOk_zip (fun H3 t1 t2 => ⟨hk1' H3 t1 t2, hk2' H3 t1 t2⟩) rr1 rr2)⟩
      · cases e
    · cases e
  · cases e)
theorem i_range (hg : Gl X "range") (hm : X.mg "range" = none) (h : PEd X e fe) (hs : starEach [e] X.env = [(false, eval e X.env)] := by rfl) (he : starEach [e] X.env = (false, eval e X.env) :: starEach [] X.env := by rfl) : PId X tg (.Call (.Name "range" p) [e] [] pos) (iRg fe) := impI (pi_range1 hg hm (pa_cons h pa_nil he) hs) (by
  rintro σ H K ⟨R, Fm, L, T, τ, x, ds, L', e, q⟩
  unfold iRg at e
  split at e
  · rename_i r M er
    split at e
    · rename_i n en
      split at e
      · rename_i hn
        replace hn := sm_iff.mp hn
        cases e
        refine ⟨R, Fm, L, T, τ, x, r, _, er, fun R' v H' s y => ?_⟩
        obtain ⟨A, ho⟩ := y.con en
        cases ho.int
        exact ⟨n, rfl, hn.1, hn.2, q R' Fm H' _ s rfl (Same.refl _) y.drop (itOk_range _)⟩
      · cases e
    · cases e
  · cases e)
/-! ### for -/
def forL (t : Tg) (body : FS) : List PyData → FS
  | [], L => some (.nx, L)
  | d :: ds, L => match asg t d L with
    | some M => match body M with
      | some (.nx, M') => forL t body ds M'
      | some (.ct, M') => forL t body ds M'
      | some (.bk, M') => some (.nx, M')
      | some (.rt o, M') => some (.rt o, M')
      | none => none
    | none => none
def sFor (src : FI) (t : Tg) (body : FS) : FS := fun L => match src L with
  | some (ds, M) => forL t body ds M
  | none => none
theorem At.shrink {G : Gp} {m : Nat} {R H : Hp} {Fm Fm' : Fr} {L T : Sta} {σ : L2.St} {τ : List (Option V)} (x : At G m R Fm' L T σ τ H) (e : Fm'.bo = Fm.bo) (s : Same Fm.fm Fm'.fm) : At G m R Fm L T σ τ H := ⟨x.sl, x.ge, x.rel.shrink e s⟩
theorem for_run {G : Gp} {m : Nat} {src : FI} {t : Tg} {body : FS} : ∀ D σ H, tS G m (sFor src t body) D σ H → tFor (tI G m src) (tG G m t) (tS G m body) D σ H := by
  rintro D σ H ⟨R, Fm, L, γ, x, fl, L', e, q⟩
  unfold sFor at e
  split at e
  · rename_i ds M es
    refine ⟨R, Fm, L, [], γ, x, ds, M, es, fun R' Fm' H' J s1 eb sf x1 ok => ?_⟩
    refine ⟨fun i mm σ H => mm = ds.length - i ∧ i ≤ ds.length ∧ ∃ R1 M1, Same R' R1 ∧ At G m R1 Fm' M1 [] σ γ H ∧ forL t body (ds.drop i) M1 = some (fl, L'), ⟨ds.length, by simp, Nat.zero_le _, R', M, Same.refl _, x1, by simpa using e⟩, ?_⟩
    rintro i mm σ2 H2 ⟨rfl, hi, R1, M1, s2, x2, e2⟩
    by_cases hlt : i < ds.length
    · refine .inr ⟨ok.go i H2 ds[i] x2.rel.fh (s2.trans x2.rel.rh) (List.getElem?_eq_getElem hlt), fun σ' H' => ∃ R2 M2, Same R' R2 ∧ At G m R2 Fm' M2 [] σ' γ H' ∧ forL t body (ds.drop (i + 1)) M2 = some (fl, L'), fun σ' H' n => ⟨ds.length - (i + 1), by omega, rfl, hlt, n⟩, fun v H3 y => ?_⟩
      rw [List.drop_eq_getElem_cons hlt] at e2
      unfold forL at e2
      split at e2
      · rename_i M2 ea
        -- the item, in the grown heap
        have item : ∃ R3, Same R1 R3 ∧ At G m R3 Fm' M1 [] σ2 γ H3 ∧ Rp R3 v ds[i] := by
          rcases ok.yld i H2 v H3 ds[i] x2.rel.fh (s2.trans x2.rel.rh) (List.getElem?_eq_getElem hlt) y with ⟨rfl, hr⟩ | ⟨T, ts, es', rfl, hT, rfl, ed, hr⟩
          · exact ⟨R1, Same.refl _, x2, hr.mono s2⟩
          · obtain ⟨s4, z, h⟩ := x2.rel.allocT hT (hr.mono s2)
            exact ⟨_, s4, ⟨x2.sl, x2.ge, z⟩, by rw [ed]; exact h⟩
        obtain ⟨R3, s3, x3, hr⟩ := item
        refine ⟨R3, Fm', M1, [], γ, ds[i], rfl, x3, hr, M2, ea, fun R4 σ4 s4 _ x4 => ?_⟩
        split at e2
        · rename_i M' em
          exact ⟨R4, Fm', M2, γ, x4, .nx, M', em, fun R5 σ5 H5 s5 x5 => ⟨R5, M', s2.trans (s3.trans (s4.trans s5)), x5, e2⟩⟩
        · rename_i M' em
          exact ⟨R4, Fm', M2, γ, x4, .ct, M', em, fun R5 σ5 H5 s5 x5 => ⟨R5, M', s2.trans (s3.trans (s4.trans s5)), x5, e2⟩⟩
        · rename_i M' em
          cases e2
          exact ⟨R4, Fm', M2, γ, x4, .bk, _, em, fun R5 σ5 H5 s5 x5 => q R5 σ5 H5 (s1.trans (s2.trans (s3.trans (s4.trans s5)))) (x5.shrink eb sf)⟩
        · rename_i o M' em
          cases e2
          exact ⟨R4, Fm', M2, γ, x4, .rt o, _, em, fun R5 σ5 v5 H5 s5 x5 => q R5 σ5 v5 H5 (s1.trans (s2.trans (s3.trans (s4.trans s5)))) (x5.shrink eb sf)⟩
        · cases e2
      · cases e2
    · have ei : i = ds.length := by omega
      subst ei
      rw [List.drop_length] at e2
      cases e2
      exact .inl ⟨ok.stop H2 x2.rel.fh (s2.trans x2.rel.rh), q R1 σ2 H2 (s1.trans s2) (x2.shrink eb sf)⟩
  · cases e
theorem s_for {iter : Expr} {body : List Stmt} {src : FI} {t : Tg} {fb : FS} (hp : PassesOwn (model X.prog X.w) X.A X.env X.xe) (hc : X.calm = true) (hi : PId X tg iter src) (hg : PGd X tg t) (hb : PBd X body fb) (hs : ∀ x, foldedSetIterable iter X.env x = pure x := by intro _; rfl) : PSd X (.For tg iter body [] pos) (sFor src t fb) :=
  impS (ps_for hp hc hi hg hb hs) for_run
/-! ### while -/
def whileL (c : FT) (body : FS) : Nat → FS
  | 0, _ => none
  | n + 1, L => match c L with
    | some (true, M) => match body M with
      | some (.nx, M') => whileL c body n M'
      | some (.ct, M') => whileL c body n M'
      | some (.bk, M') => some (.nx, M')
      | some (.rt o, M') => some (.rt o, M')
      | none => none
    | some (false, M) => some (.nx, M)
    | none => none
theorem while_run {G : Gp} {m n : Nat} {c : FT} {body : FS} : ∀ D σ H, tS G m (whileL c body n) D σ H → tWhile (tT G m c) (tS G m body) D σ H := by
  rintro D σ H ⟨R, Fm, L, γ, x, fl, L', e, q⟩
  refine ⟨fun mm σ H => ∃ R1 M1, Same R R1 ∧ At G m R1 Fm M1 [] σ γ H ∧ whileL c body mm M1 = some (fl, L'), ⟨n, R, L, Same.refl _, x, e⟩, ?_⟩
  rintro mm σ2 H2 ⟨R1, M1, s1, x1, e1⟩
  cases mm with
  | zero => cases e1
  | succ mm =>
    unfold whileL at e1
    split at e1
    · rename_i M ec
      refine ⟨R1, Fm, M1, [], γ, x1, true, M, ec, fun R2 H3 s2 x2 => iteT ⟨fun σ' H' => ∃ R2 M2, Same R R2 ∧ At G m R2 Fm M2 [] σ' γ H' ∧ whileL c body mm M2 = some (fl, L'), fun σ' H' nn => ⟨mm, Nat.lt_succ_self _, nn⟩, ?_⟩⟩
      split at e1
      · rename_i M' em
        exact ⟨R2, Fm, M, γ, x2, .nx, M', em, fun R5 σ5 H5 s5 x5 => ⟨R5, M', s1.trans (s2.trans s5), x5, e1⟩⟩
      · rename_i M' em
        exact ⟨R2, Fm, M, γ, x2, .ct, M', em, fun R5 σ5 H5 s5 x5 => ⟨R5, M', s1.trans (s2.trans s5), x5, e1⟩⟩
      · rename_i M' em
        cases e1
        exact ⟨R2, Fm, M, γ, x2, .bk, _, em, fun R5 σ5 H5 s5 x5 => q R5 σ5 H5 (s1.trans (s2.trans s5)) x5⟩
      · rename_i o M' em
        cases e1
        exact ⟨R2, Fm, M, γ, x2, .rt o, _, em, fun R5 σ5 v5 H5 s5 x5 => q R5 σ5 v5 H5 (s1.trans (s2.trans s5)) x5⟩
      · cases e1
    · rename_i M ec
      cases e1
      exact ⟨R1, Fm, M1, [], γ, x1, false, _, ec, fun R2 H3 s2 x2 => iteF (q R2 σ2 H3 (s1.trans s2) x2)⟩
    · cases e1
theorem s_while (n : Nat) {c : Expr} {body : List Stmt} {fc : FT} {fb : FS} (hp : PassesOwn (model X.prog X.w) X.A X.env X.xe) (hc : PTd X c fc) (hb : PBd X body fb) : PSd X (.While c body [] pos) (whileL fc fb n) :=
  impS (ps_while hp hc hb) while_run
end
end Qz
namespace Qz
open PySem PySem.Spec PyProof.Rows L2
/-! ### list comprehensions -/
def wipeS (L : Sta) : List Nat → Option Sta
  | [] => some L
  | i :: is => match wipeS L is with
    | some M => if noRef M i then some (M.set i .no) else none
    | none => none
theorem noRef_set {L : Sta} {i k : Nat} {sv : SV} (h : noRef L k = true) (hs : ∀ j, sv ≠ .rf j) : noRef (L.set i sv) k = true := by
  unfold noRef at h ⊢
  refine List.all_eq_true.mpr fun s hm => ?_
  rcases List.mem_or_eq_of_mem_set hm with q | q
  · exact List.all_eq_true.mp h s q
  · subst q
    cases s with
    | rf j => exact absurd rfl (hs j)
    | _ => rfl
theorem wipeS_spec {L : Sta} : ∀ {vs : List Nat} {M : Sta}, wipeS L vs = some M → M.length = L.length ∧ (∀ i ∈ vs, i < L.length → M[i]? = some .no) ∧ (∀ i ∈ vs, noRef M i = true) ∧ ∀ i, i ∉ vs → M[i]? = L[i]?
  | [], M, e => by cases e; exact ⟨rfl, fun _ h => by simp at h, fun _ h => by simp at h, fun _ _ => rfl⟩
  | v :: vs, M, e => by
    unfold wipeS at e
    split at e
    · rename_i M1 e1
      split at e
      · rename_i hno
        cases e
        obtain ⟨h1, h2, h3, h4⟩ := wipeS_spec e1
        refine ⟨by simpa using h1, fun i hi hl => ?_, fun i hi => ?_, fun i hi => ?_⟩
        · by_cases hv : i = v
          · subst hv; rw [List.getElem?_set_self (by omega)]
          · rw [List.getElem?_set_ne (Ne.symm hv)]
            exact h2 i ((List.mem_cons.mp hi).resolve_left hv) hl
        · by_cases hv : i = v
          · subst hv; exact noRef_set hno (fun j => by simp)
          · exact noRef_set (h3 i ((List.mem_cons.mp hi).resolve_left hv)) (fun j => by simp)
        · simp only [List.mem_cons, not_or] at hi
          rw [List.getElem?_set_ne (Ne.symm hi.1)]
          exact h4 i hi.2
      · cases e
    · cases e
section
variable {G : Gp} {n m : Nat} {R H : Hp} {Fm : Fr} {its : List SV} {vals vals' : List (Option V)} {ws : List V} {ps : List OV}
theorem RelX.reV (x : RelX G n R Fm its vals H ws ps) (hl : vals'.length = vals.length) (h : ∀ (i : Nat) sv, its[i]? = some sv → sv ≠ .no → vals'[i]? = vals[i]?) (h2 : ∀ (i k : Nat), its[i]? = some (.rf k) → vals'[k]? = vals[k]?) : RelX G n R Fm its vals' H ws ps := by
  obtain ⟨fp, B, h1, g2, h3, h4, h5, h6, h7, h8⟩ := x.ex
  refine ⟨by rw [hl]; exact x.len, x.rh, x.fh, x.dj, fp, B, fun i sv e => ?_, g2, h3, h4, h5, h6, h7, h8⟩
  have q := h1 i sv e
  cases sv with
  | no => exact q
  | ow o => obtain ⟨v, e1, e2⟩ := q; exact ⟨v, by rw [h i _ e (by simp)]; exact e1, e2⟩
  | bo o => obtain ⟨e0, v, B, e1, e2⟩ := q; exact ⟨e0, v, B, by rw [h i _ e (by simp)]; exact e1, e2⟩
  | fb o => obtain ⟨e0, v, B, e1, e2⟩ := q; exact ⟨e0, v, B, by rw [h i _ e (by simp)]; exact e1, e2⟩
  | rf k => obtain ⟨e0, hk, v, e1, e2⟩ := q; exact ⟨e0, hk, v, by rw [h i _ e (by simp)]; exact e1, by rw [h2 i k e]; exact e2⟩
/-- items forgotten -/
theorem RelX.toNo (x : RelX G n R Fm its vals H ws ps) {its' : List SV} (hl : its'.length = its.length) (h : ∀ (i : Nat) sv, its'[i]? = some sv → sv = .no ∨ its[i]? = some sv) : RelX G n R Fm its' vals H ws ps := by
  obtain ⟨fp, B, h1, h2, h3, h4, h5, h6, h7, h8⟩ := x.ex
  let fp' : Nat → List Addr := fun i => match its'[i]? with
    | some .no => []
    | _ => fp i
  have e1 : ∀ i, its'[i]? = some .no → fp' i = [] := fun i e => by show (match its'[i]? with | some .no => [] | _ => fp i) = []; rw [e]
  have e2 : ∀ i a, a ∈ fp' i → a ∈ fp i ∧ its'[i]? ≠ some .no := fun i a ha => by
    by_cases q : its'[i]? = some .no
    · rw [e1 i q] at ha; simp at ha
    · refine ⟨?_, q⟩
      have : fp' i = fp i := by
        show (match its'[i]? with | some .no => [] | _ => fp i) = fp i
        split
        · rename_i z; exact absurd z q
        · rfl
      rw [this] at ha; exact ha
  refine ⟨by rw [hl]; exact x.len, x.rh, x.fh, x.dj, fp', B, fun i sv e => ?_, fun i hi => ?_, fun i => ?_, fun i j a hi hj => h4 i j a (e2 i a hi).1 (e2 j a hj).1, fun i a hi => h5 i a (e2 i a hi).1, h6, h7, fun a ha => ⟨(h8 a ha).1, (h8 a ha).2.1, fun i hi => (h8 a ha).2.2 i (e2 i a hi).1⟩⟩
  · cases sv with
    | no => exact e1 i e
    | _ =>
      have : fp' i = fp i := by show (match its'[i]? with | some .no => [] | _ => fp i) = fp i; rw [e]
      rw [this]
      exact h1 i _ ((h i _ e).resolve_left (by simp))
  · show (match its'[i]? with | some .no => [] | _ => fp i) = []
    split
    · rfl
    · exact h2 i (by omega)
  · show (match its'[i]? with | some .no => [] | _ => fp i).Nodup
    split
    · exact List.nodup_nil
    · exact h3 i
end
theorem wipe_in {σ : L2.St} {i : Nat} : ∀ {vs : List Nat}, i ∈ vs → i < σ.length → (wipe σ vs)[i]? = some none
  | [], h, _ => by simp at h
  | v :: vs, h, hl => by
    unfold wipe
    by_cases e : v = i
    · subst e; rw [List.getElem?_set_self (by rw [wipe_length]; exact hl)]
    · rw [List.getElem?_set_ne e]
      exact wipe_in ((List.mem_cons.mp h).resolve_left (Ne.symm e)) hl
theorem wipe_eq {σ σ' : L2.St} {vs : List Nat} (hl : σ'.length = σ.length) (h : ∀ j, j ∉ vs → σ'[j]? = σ[j]?) : wipe σ' vs = wipe σ vs := by
  refine List.ext_getElem? fun i => ?_
  by_cases hi : i ∈ vs
  · by_cases hlt : i < σ.length
    · rw [wipe_in hi (by omega), wipe_in hi hlt]
    · rw [List.getElem?_eq_none (by rw [wipe_length]; omega), List.getElem?_eq_none (by rw [wipe_length]; omega)]
  · rw [wipe_out hi, wipe_out hi, h i hi]
def compL (t : Tg) (tt : FT) (te : FE) (vs : List Nat) : List PyData → Sta → List OV → Option (List OV × Sta)
  | [], L, acc => some (acc, L)
  | d :: ds, L, acc => match asg t d L with
    | some M => match tt M with
      | some (true, M1) => match fArgs [te] M1 with
        | some ([o], M2) => if acc.length < sizeLine then (match wipeS M2 vs with
            | some M3 => compL t tt te vs ds M3 (acc ++ [o])
            | none => none) else none
        | _ => none
      | some (false, M1) => match wipeS M1 vs with
        | some M3 => compL t tt te vs ds M3 acc
        | none => none
      | none => none
    | none => none
def fComp (src : FI) (t : Tg) (vs : List Nat) (tt : FT) (te : FE) : FE := fun L => match src L with
  | some (ds, M) => match wipeS M vs with
    | some M0 => match compL t tt te vs ds M0 [] with
      | some (os, M') => some (.ow (.ls os), M')
      | none => none
    | none => none
  | none => none
section
variable {G : Gp} {m : Nat}
theorem At.wipe {R H : Hp} {Fm : Fr} {L M T : Sta} {σ : L2.St} {τ : List (Option V)} {vs : List Nat} (x : At G m R Fm L T σ τ H) (hT : noAl T = true) (hv : ∀ i ∈ vs, i < m) (e : wipeS L vs = some M) : At G m R Fm M T (L2.wipe σ vs) τ H := by
  obtain ⟨h1, h2, h3, h4⟩ := wipeS_spec e
  have sl := x.sl
  have ge := x.ge
  refine ⟨by rw [wipe_length]; exact sl, by rw [wipe_length, h1]; exact ge, ?_⟩
  have y : Rel G L.length R Fm (M ++ T) (σ ++ τ) H := x.rel.toNo (by simp [h1]) fun i sv e => by
    by_cases hi : i < M.length
    · rw [List.getElem?_append_left hi] at e
      rw [List.getElem?_append_left (by omega)]
      by_cases hm : i ∈ vs
      · rw [h2 i hm (by omega)] at e; cases e; exact .inl rfl
      · rw [h4 i hm] at e; exact .inr e
    · rw [List.getElem?_append_right (by omega)] at e
      rw [List.getElem?_append_right (by omega), ← h1]
      exact .inr e
  have nref : ∀ (i k : Nat), (M ++ T)[i]? = some (.rf k) → k ∉ vs := fun i k e hk => by
    have := noRef_app (h3 k hk) hT
    exact noRef_ne this e rfl
  rw [h1]
  refine y.reV (by simp [wipe_length]) (fun i sv e hs => ?_) fun i k e => ?_
  · by_cases hi : i < σ.length
    · rw [List.getElem?_append_left (by rw [wipe_length]; exact hi), List.getElem?_append_left hi]
      refine wipe_out fun hm => ?_
      rw [List.getElem?_append_left (by omega), h2 i hm (by omega)] at e
      cases e
      exact hs rfl
    · rw [List.getElem?_append_right (by rw [wipe_length]; omega), List.getElem?_append_right (by omega), wipe_length]
  · have hk := nref i k e
    by_cases hlt : k < σ.length
    · rw [List.getElem?_append_left (by rw [wipe_length]; exact hlt), List.getElem?_append_left hlt]
      exact wipe_out hk
    · rw [List.getElem?_append_right (by rw [wipe_length]; omega), List.getElem?_append_right (by omega), wipe_length]
/-- the slots that are forgotten may hold anything -/
def Wiped (M : Sta) (vs : List Nat) : Prop := (∀ i ∈ vs, i < M.length → M[i]? = some .no) ∧ ∀ i ∈ vs, noRef M i = true
theorem wiped_of {L M : Sta} {vs : List Nat} (e : wipeS L vs = some M) : Wiped M vs := by
  obtain ⟨h1, h2, h3, _⟩ := wipeS_spec e
  exact ⟨fun i hi hl => h2 i hi (by omega), h3⟩
theorem At.reS {R H : Hp} {Fm : Fr} {M T : Sta} {σ σ' : L2.St} {τ : List (Option V)} {vs : List Nat} (x : At G m R Fm M T σ τ H) (hT : noAl T = true) (w : Wiped M vs) (hl : σ'.length = σ.length) (h : ∀ j, j ∉ vs → σ'[j]? = σ[j]?) : At G m R Fm M T σ' τ H := by
  have ge := x.ge
  refine ⟨by rw [hl]; exact x.sl, by rw [hl]; exact ge, ?_⟩
  refine x.rel.reV (by simp [hl]) (fun i sv e hs => ?_) fun i k e => ?_
  · by_cases hi : i < σ.length
    · rw [List.getElem?_append_left (by omega), List.getElem?_append_left hi]
      refine h i fun hm => ?_
      rw [List.getElem?_append_left (by omega), w.1 i hm (by omega)] at e
      cases e
      exact hs rfl
    · rw [List.getElem?_append_right (by omega), List.getElem?_append_right (by omega), hl]
  · have hk : k ∉ vs := fun hm => noRef_ne (noRef_app (w.2 k hm) hT) e rfl
    by_cases hlt : k < σ.length
    · rw [List.getElem?_append_left (by omega), List.getElem?_append_left hlt]
      exact h k hk
    · rw [List.getElem?_append_right (by omega), List.getElem?_append_right (by omega), hl]
theorem compL_wiped {t : Tg} {tt : FT} {te : FE} {vs : List Nat} : ∀ {ds : List PyData} {L : Sta} {acc os : List OV} {M : Sta}, compL t tt te vs ds L acc = some (os, M) → Wiped L vs → Wiped M vs
  | [], L, acc, os, M, e, w => by cases e; exact w
  | d :: ds, L, acc, os, M, e, w => by
    unfold compL at e
    split at e
    · split at e
      · split at e
        · split at e
          · split at e
            · rename_i h; exact compL_wiped e (wiped_of h)
            · cases e
          · cases e
        · cases e
      · split at e
        · rename_i h; exact compL_wiped e (wiped_of h)
        · cases e
      · cases e
    · cases e
theorem noAl_snoc {T : Sta} {o : OV} (h : noAl T = true) : noAl (T ++ [.ow o]) = true := by
  unfold noAl at h ⊢
  rw [List.all_append, h]
  rfl
theorem lc_loop {R1 H1 : Hp} {Fm : Fr} {M M0 M' T : Sta} {σ : L2.St} {τ : List (Option V)} {t : Tg} {tt : FT} {te : FE} {vs : List Nat} {ds : List PyData} {os : List OV} {J : It} {Q : VK} (ok : ItOk R1 Fm J ds) (x : At G m R1 Fm M T σ τ H1) (hT : noAl T = true)
    (hv : ∀ i ∈ vs, i < m) (hts : ∀ i ∈ t.slots, i ∈ vs) (ew : wipeS M vs = some M0) (e : compL t tt te vs ds M0 [] = some (os, M'))
    (q : ∀ R2 p H2, Same R1 R2 → At G m R2 Fm M' (T ++ [.ow (.ls os)]) σ (τ ++ [some (.ref p)]) H2 → Q (.ref p) H2) :
    ∀ D, H1 D = none → ∃ W : Nat → Nat → Hp → Prop, (∃ mm, W 0 mm (upd H1 D (.lst []))) ∧ ∀ i mm H, W i mm H →
      (J.stop i H ∧ Q (.ref D) H) ∨ (J.go i H ∧ ∃ Nx : Hp → Prop, (∀ H', Nx H' → ∃ m', m' < mm ∧ W (i + 1) m' H') ∧ ∀ x H', J.yld i H x H' → tG G m t x (wipe σ vs) H' fun σ2 H2 => wipe σ2 vs = wipe σ vs ∧ tT G m tt σ2 H2 fun b H3 =>
        if b = true then tE G m te σ2 H3 fun y H4 => ∃ acc, H4 D = some (.lst acc) ∧ acc.length < sizeLine ∧ Nx (upd H4 D (.lst (acc ++ [y]))) else Nx H3) := by
  intro D hD
  have x0 := x.wipe hT hv ew
  have xl : At G m R1 Fm M0 (T ++ [.ow (.ls [])]) (wipe σ vs) (τ ++ [some (.ref D)]) (upd H1 D (.lst [])) := At.put1 x0.sl x0.ge (x0.rel.allocL hD)
  have sll : (wipe σ vs).length = m := x0.sl
  refine ⟨fun i mm H => mm = ds.length - i ∧ i ≤ ds.length ∧ ∃ R2 M2 acc, Same R1 R2 ∧ Wiped M2 vs ∧ At G m R2 Fm M2 (T ++ [.ow (.ls acc)]) (wipe σ vs) (τ ++ [some (.ref D)]) H ∧ compL t tt te vs (ds.drop i) M2 acc = some (os, M'),
    ⟨ds.length, by simp, Nat.zero_le _, R1, M0, [], Same.refl _, wiped_of ew, xl, by simpa using e⟩, ?_⟩
  rintro i mm H ⟨rfl, hi, R2, M2, acc, s2, w2, x2, e2⟩
  by_cases hlt : i < ds.length
  · refine .inr ⟨ok.go i H ds[i] x2.rel.fh (s2.trans x2.rel.rh) (List.getElem?_eq_getElem hlt), fun H' => ∃ R3 M3 acc', Same R1 R3 ∧ Wiped M3 vs ∧ At G m R3 Fm M3 (T ++ [.ow (.ls acc')]) (wipe σ vs) (τ ++ [some (.ref D)]) H' ∧ compL t tt te vs (ds.drop (i + 1)) M3 acc' = some (os, M'), fun H' nn => ⟨ds.length - (i + 1), by omega, rfl, hlt, nn⟩, fun v H3 y => ?_⟩
    rw [List.drop_eq_getElem_cons hlt] at e2
    unfold compL at e2
    split at e2
    · rename_i M3 ea
      have item : ∃ R3, Same R2 R3 ∧ At G m R3 Fm M2 (T ++ [.ow (.ls acc)]) (wipe σ vs) (τ ++ [some (.ref D)]) H3 ∧ Rp R3 v ds[i] := by
        rcases ok.yld i H v H3 ds[i] x2.rel.fh (s2.trans x2.rel.rh) (List.getElem?_eq_getElem hlt) y with ⟨rfl, hr⟩ | ⟨TT, ts, es', rfl, hTT, rfl, ed, hr⟩
        · exact ⟨R2, Same.refl _, x2, hr.mono s2⟩
        · obtain ⟨s4, z, h⟩ := x2.rel.allocT hTT (hr.mono s2)
          exact ⟨_, s4, ⟨x2.sl, x2.ge, z⟩, by rw [ed]; exact h⟩
      obtain ⟨R3, s3, x3, hr⟩ := item
      refine ⟨R3, Fm, M2, _, _, ds[i], noAl_snoc hT, x3, hr, M3, ea, fun R4 σ4 s4 g4 x4 => ?_⟩
      have hl4 : σ4.length = (wipe σ vs).length := by rw [x4.sl, sll]
      have g4' : ∀ j, j ∉ vs → σ4[j]? = (wipe σ vs)[j]? := fun j hj => g4 j fun h => hj (hts j h)
      refine ⟨?_, ?_⟩
      · rw [wipe_eq hl4 g4']
        exact wipe_eq (by rw [wipe_length]) fun j hj => wipe_out hj
      · split at e2
        · rename_i M4 et
          refine ⟨R4, Fm, M3, _, _, x4, true, M4, et, fun R5 H5 s5 x5 => iteT ?_⟩
          split at e2
          · rename_i o M5 eo
            split at e2
            · rename_i hz
              split at e2
              · rename_i M6 e6
                obtain ⟨r, M5', er, etk⟩ := fArgs1 eo
                refine ⟨R5, Fm, M4, _, _, x5, r, M5', er, fun R6 u H6 s6 x6 => ?_⟩
                obtain ⟨R7, s7, x7⟩ := x6.tk etk
                have y7 := x7.take1
                have ek : (M5 ++ (T ++ [.ow (.ls acc)]))[(M5 ++ T).length]? = some (.ow (.ls acc)) := by
                  rw [← List.append_assoc, List.getElem?_append_right (Nat.le_refl _)]; simp
                have ln := x7.lens
                simp at ln
                obtain ⟨p, ws, e7, e8, e9, mk⟩ := y7.mutL ek
                have ev : (σ4 ++ (τ ++ [some (V.ref D)]))[(M5 ++ T).length]? = some (some (V.ref D)) := by
                  rw [← List.append_assoc, List.getElem?_append_right (by simp; omega)]
                  have : (M5 ++ T).length - (σ4 ++ τ).length = 0 := by simp; omega
                  rw [this]; rfl
                rw [ev] at e7
                cases e7
                refine ⟨ws, e8, by rw [e9]; exact hz, ?_⟩
                have z := mk (ws ++ [u]) [] (acc ++ [o]) [] fun A B h1 h2 => ⟨A ++ B, [], [], h1.append h2, .nil, by simp⟩
                have eset : (M5 ++ (T ++ [SV.ow (.ls acc)])).set (M5 ++ T).length (.ow (.ls (acc ++ [o]))) = M5 ++ (T ++ [.ow (.ls (acc ++ [o]))]) := by
                  rw [← List.append_assoc, List.set_append_right _ _ (Nat.le_refl _)]; simp
                rw [eset] at z
                have z1 : At G m R7 Fm M5 (T ++ [.ow (.ls (acc ++ [o]))]) σ4 (τ ++ [some (.ref D)]) (upd H6 D (.lst (ws ++ [u]))) := ⟨x7.sl, x7.ge, z⟩
                have z2 := z1.wipe (noAl_snoc hT) hv e6
                have ew4 : wipe σ4 vs = wipe σ vs := by
                  rw [wipe_eq hl4 g4']
                  exact wipe_eq (by rw [wipe_length]) fun j hj => wipe_out hj
                rw [ew4] at z2
                exact ⟨R7, M6, acc ++ [o], s2.trans (s3.trans (s4.trans (s5.trans (s6.trans s7)))), wiped_of e6, z2, e2⟩
              · cases e2
            · cases e2
          · cases e2
        · rename_i M4 et
          refine ⟨R4, Fm, M3, _, _, x4, false, M4, et, fun R5 H5 s5 x5 => iteF ?_⟩
          split at e2
          · rename_i M6 e6
            have z2 := x5.wipe (noAl_snoc hT) hv e6
            have ew4 : wipe σ4 vs = wipe σ vs := by
              rw [wipe_eq hl4 g4']
              exact wipe_eq (by rw [wipe_length]) fun j hj => wipe_out hj
            rw [ew4] at z2
            exact ⟨R5, M6, acc, s2.trans (s3.trans (s4.trans s5)), wiped_of e6, z2, e2⟩
          · cases e2
        · cases e2
    · cases e2
  · have ei : i = ds.length := by omega
    subst ei
    rw [List.drop_length] at e2
    cases e2
    refine .inl ⟨ok.stop H x2.rel.fh (s2.trans x2.rel.rh), q R2 D H s2 ?_⟩
    exact x2.reS (noAl_snoc hT) w2 (by rw [wipe_length]) fun j hj => (wipe_out hj).symm
/-- aliases set aside -/
def noA (T : Sta) : Sta := T.map fun sv => match sv with
  | .rf _ => .no
  | sv => sv
theorem noA_al (T : Sta) : noAl (noA T) = true := by
  unfold noAl noA
  rw [List.all_map]
  refine List.all_eq_true.mpr fun sv _ => ?_
  cases sv <;> rfl
theorem noA_get {T : Sta} {i : Nat} : (noA T)[i]? = (T[i]?).map fun sv => match sv with
  | .rf _ => .no
  | sv => sv := by unfold noA; rw [List.getElem?_map]
theorem At.noA {R H : Hp} {Fm : Fr} {L T : Sta} {σ : L2.St} {τ : List (Option V)} (x : At G m R Fm L T σ τ H) : At G m R Fm L (Qz.noA T) σ τ H := by
  refine ⟨x.sl, x.ge, x.rel.reA (by simp [Qz.noA]) fun i sv e => ?_⟩
  by_cases hi : i < L.length
  · rw [List.getElem?_append_left hi] at e ⊢
    exact .inl e
  · rw [List.getElem?_append_right (by omega)] at e ⊢
    rw [noA_get] at e
    obtain ⟨s, e1, e2⟩ := Option.map_eq_some_iff.mp e
    cases s with
    | rf k => simp only at e2; subst e2; exact .inr ⟨.inr ⟨k, e1⟩, rfl⟩
    | no => simp only at e2; subst e2; exact .inl e1
    | ow o => simp only at e2; subst e2; exact .inl e1
    | bo o => simp only at e2; subst e2; exact .inl e1
    | fb o => simp only at e2; subst e2; exact .inl e1
/-- aliases as they were, with a new thing on top -/
theorem At.reA {R R' H H' : Hp} {Fm Fm' : Fr} {L M T : Sta} {σ : L2.St} {τ : List (Option V)} {o : OV} {v : V} (x : At G m R Fm L T σ τ H) (y : At G m R' Fm' M (Qz.noA T ++ [.ow o]) σ (τ ++ [some v]) H') : At G m R' Fm' M (T ++ [.ow o]) σ (τ ++ [some v]) H' := by
  have l1 := x.lens
  have l2 := y.lens
  simp [Qz.noA] at l2
  have lm : M.length = L.length := by omega
  obtain ⟨fp, B, h1, _⟩ := x.rel.ex
  refine ⟨y.sl, y.ge, y.rel.reA (by simp [Qz.noA]) fun i sv e => ?_⟩
  by_cases hi : i < M.length
  · rw [List.getElem?_append_left hi] at e ⊢
    exact .inl e
  · rw [List.getElem?_append_right (by omega)] at e ⊢
    by_cases hT : i - M.length < T.length
    · rw [List.getElem?_append_left hT] at e
      rw [List.getElem?_append_left (by simp [Qz.noA]; exact hT), noA_get, e]
      cases sv with
      | rf k =>
        refine .inr ⟨.inl rfl, rfl, ?_⟩
        obtain ⟨_, hk, v', e1, e2⟩ := h1 i (.rf k) (by rw [List.getElem?_append_right (by omega), ← lm]; exact e)
        refine ⟨by omega, v', ?_, ?_⟩
        · rw [← List.append_assoc, List.getElem?_append_left (List.getElem?_eq_some_iff.mp e1).1]; exact e1
        · rw [← List.append_assoc, List.getElem?_append_left (List.getElem?_eq_some_iff.mp e2).1]; exact e2
      | no => exact .inl rfl
      | ow o => exact .inl rfl
      | bo o => exact .inl rfl
      | fb o => exact .inl rfl
    · rw [List.getElem?_append_right (by omega)] at e
      rw [List.getElem?_append_right (by simp [Qz.noA]; omega)]
      left
      simpa [Qz.noA] using e
theorem lc_run {src : FI} {t : Tg} {tt : FT} {te : FE} {vs : List Nat} (hv : ∀ i ∈ vs, i < m) (hts : ∀ i ∈ t.slots, i ∈ vs) : ∀ σ H Q, tE G m (fComp src t vs tt te) σ H Q → tLc (tI G m src) (tG G m t) (tT G m tt) (tE G m te) vs σ H Q := by
  rintro σ H Q ⟨R, Fm, L, T, τ, x, r, L', e, q⟩
  unfold fComp at e
  split at e
  · rename_i ds M es
    split at e
    · rename_i M0 ew
      split at e
      · rename_i os M' ec
        cases e
        refine ⟨R, Fm, L, T, τ, x, ds, M, es, fun R1 Fm' H1 J s1 eb sf x1 ok => ?_⟩
        refine lc_loop ok x1.noA (noA_al T) hv hts ew ec fun R2 p H2 s2 y => ?_
        exact q R2 _ H2 (s1.trans s2) ((x1.reA y).shrink eb sf)
      · cases e
    · cases e
  · cases e
/-- over an owned list that a name holds -/
def fCompO (k : Nat) (t : Tg) (vs : List Nat) (tt : FT) (te : FE) : FE := fun L => match L[k]? with
  | some (.ow (.nd .lst ks)) => match frs ks with
    | some ds => match wipeS (L.set k .no) vs with
      | some M0 => match compL t tt te vs ds M0 [] with
        | some (os, M') => some (.ow (.ls os), M'.set k (.ow (.ls ks)))
        | none => none
      | none => none
    | none => none
  | _ => none
theorem lcO_run {K : PySem.W.Frag} {k : Nat} {t : Tg} {tt : FT} {te : FE} {vs : List Nat} (hK : G.K = K) (hk : k < m) (hv : ∀ i ∈ vs, i < m) (hts : ∀ i ∈ t.slots, i ∈ vs) : ∀ σ H Q, tE G m (fCompO k t vs tt te) σ H Q → tLc (iList K (tVar k)) (tG G m t) (tT G m tt) (tE G m te) vs σ H Q := by
  subst hK
  rintro σ H Q ⟨R, Fm, L, T, τ, x, r, L', e, q⟩
  unfold fCompO at e
  split at e
  · rename_i ks ek
    split at e
    · rename_i ds ed
      split at e
      · rename_i M0 ew
        split at e
        · rename_i os M' ec
          cases e
          have sl := x.sl
          have ge := x.ge
          have hkL : k < L.length := by omega
          have hkσ : k < σ.length := by omega
          obtain ⟨v, ev, y⟩ := x.noA.rel.moveOut (k := k) (o := .nd .lst ks) (by rw [List.getElem?_append_left hkL]; exact ek)
          rw [List.set_append_left _ _ hkL] at y
          obtain ⟨Fm', l, z⟩ := y.lendB
          obtain ⟨B, k1, k2, k3⟩ := l.own
          have ks' := frs_eq ed
          obtain ⟨a, vs0, g1, g2, g3⟩ := k1.one'.kdF (b := false) (ds := ds) (by simp [kids, lkids, ed])
          subst g1
          have ev' : σ[k]? = some (some (V.ref a)) := by rw [List.getElem?_append_left hkσ] at ev; exact ev
          have hk' : ∀ H2, Same Fm'.fm H2 → Same R H2 → SqL G.K H2 a vs0 := fun H2 s1 s2 => ((g3 H2 s1 s2).resolve_right (fun h => by cases h.1)).2
          refine ⟨.ref a, ev', a, rfl, ⟨vs0, hk' _ z.fh z.rh⟩, ?_⟩
          have z1 : At G m R Fm' (L.set k .no) (Qz.noA T) σ τ H := ⟨sl, by simpa using ge, by simpa using z⟩
          refine lc_loop (itOk_list hk' g2) z1 (noA_al T) hv hts ew ec fun R2 p H2 s2 w => ?_
          -- the list comes back
          have b1 := w.rel.back l s2
          have hno : noAl (Qz.noA T ++ [.ow (.ls os)]) = true := noAl_snoc (noA_al T)
          have hM : M'.length = L.length := by
            have := w.lens
            have := z1.lens
            simp [Qz.noA] at *
            omega
          -- nobody is an alias of k
          by_cases hr : noRef M' k = true
          · have b2 := b1.store (k := k) (by simp; omega) (noRef_app hr hno)
            rw [List.set_append_left _ _ (by omega), List.set_append_left _ _ hkσ] at b2
            have e1 : σ.set k (some (V.ref a)) = σ := by
              refine List.ext_getElem? fun i => ?_
              by_cases hi : i = k
              · subst hi; rw [List.getElem?_set_self hkσ, ev']
              · rw [List.getElem?_set_ne (Ne.symm hi)]
            rw [e1] at b2
            have b3 : At G m R2 Fm (M'.set k (.ow (.ls ks))) (Qz.noA T ++ [.ow (.ls os)]) σ (τ ++ [some (.ref p)]) H2 := ⟨sl, by simp; omega, by simpa using b2⟩
            exact q R2 _ H2 s2 (x.reA b3)
          · -- an alias of k reads the same value
            have b2 : RelX G M'.length R2 Fm (M'.set k (.ow (.nd .lst ks)) ++ (Qz.noA T ++ [.ow (.ls os)])) (σ ++ (τ ++ [some (.ref p)])) H2 [] [] := by
              obtain ⟨fp, B', h1, h2, h3, h4, h5, h6, h7, h8⟩ := b1.ex
              cases h6 with
              | cons ho h6 =>
                rename_i A B2
                cases h6
                rw [List.append_nil] at h7 h8
                refine ⟨by simpa using b1.len, b1.rh, b1.fh, b1.dj, fun i => if i = k then A else fp i, [], fun i sv e => ?_, fun i hi => ?_, fun i => ?_, fun i j a hi hj => ?_, fun i a hi => ?_, .nil, List.nodup_nil, fun _ q => by simp at q⟩
                · rw [← List.set_append_left _ _ (by omega)] at e
                  by_cases hi : i = k
                  · subst hi
                    rw [List.getElem?_set_self (by simp; omega)] at e
                    cases e
                    simp only [if_pos rfl]
                    exact ⟨.ref a, by rw [List.getElem?_append_left hkσ]; exact ev', ho⟩
                  · rw [List.getElem?_set_ne (Ne.symm hi)] at e
                    simp only [if_neg hi]
                    exact h1 i sv e
                · simp only
                  rw [if_neg (by simp at hi; omega)]
                  exact h2 i (by simpa using hi)
                · simp only; split
                  · exact h7
                  · exact h3 i
                · simp only at hi hj
                  by_cases ei : i = k <;> by_cases ej : j = k
                  · rw [ei, ej]
                  · rw [if_pos ei] at hi; rw [if_neg ej] at hj
                    exact absurd hj ((h8 a hi).2.2 j)
                  · rw [if_neg ei] at hi; rw [if_pos ej] at hj
                    exact absurd hi ((h8 a hj).2.2 i)
                  · rw [if_neg ei] at hi; rw [if_neg ej] at hj
                    exact h4 i j a hi hj
                · simp only at hi
                  split at hi
                  · exact ⟨(h8 a hi).1, (h8 a hi).2.1⟩
                  · exact h5 i a hi
            have b3 : At G m R2 Fm (M'.set k (.ow (.ls ks))) (Qz.noA T ++ [.ow (.ls os)]) σ (τ ++ [some (.ref p)]) H2 := ⟨sl, by simp; omega, by simpa using b2⟩
            exact q R2 _ H2 s2 (x.reA b3)
        · cases e
      · cases e
    · cases e
  · cases e
end
abbrev PTsd (X : Cx) (ifs : List Expr) (f : FT) : Prop := PTs X ifs (tT (gp X) X.N.length f)
def fYes : FT := fun L => some (true, L)
section
variable {X : Cx} {elt tg iter : Expr} {ifs : List Expr} {scope : Scope} {own : List (Str × Nat)} {pos : Pos} {src : FI} {t : Tg} {tt : FT} {te : FE}
theorem hvB {l : List Nat} {n : Nat} (h : (l.all fun i => decide (i < n)) = true) : ∀ i ∈ l, i < n := fun i hi => of_decide_eq_true (List.all_eq_true.mp h i hi)
theorem ts_nil : PTsd X [] fYes := ⟨fun pins s σ H Q I h => by
  obtain ⟨R, Fm, L, T, τ, x, b, L', e, q⟩ := h
  cases e
  exact pts_nil.run pins s σ H Q I (q R H (Same.refl R) x)⟩
theorem ts_one {c : Expr} (h : PTd X c tt) : PTsd X [c] tt := pts_one h
theorem d_lc (hc : X.calm = true) (hN : X.N.Nodup) (hi : PId X tg iter src) (ok : BlkOk X.N X.env.scope scope own)
    (hg : ∀ (s : Shared) (H : Hp) (C : Addr) (cl : List (Str × Addr)) (fp : List Addr), PGd (X.blk s H scope (compEnvC scope cl C X.env) fp) tg t) (ht : ∀ (s : Shared) (H : Hp) (C : Addr) (cl : List (Str × Addr)) (fp : List Addr), PTsd (X.blk s H scope (compEnvC scope cl C X.env) fp) ifs tt)
    (he : ∀ (s : Shared) (H : Hp) (C : Addr) (cl : List (Str × Addr)) (fp : List Addr), PEd (X.blk s H scope (compEnvC scope cl C X.env) fp) elt te) (hs : ∀ x, foldedSetIterable iter X.env x = pure x := by intro _; rfl)
    (hv : ((own.map (·.2)).all fun i => decide (i < X.N.length)) = true := by rfl) (hts : ∀ i ∈ t.slots, i ∈ own.map (·.2) := by decide) : PEd X (.ListComp elt [⟨tg, iter, ifs, 0⟩] scope pos) (fComp src t (own.map (·.2)) tt te) :=
  imp (pe_lc hc hN hi ok hg ht he hs) (lc_run (hvB hv) hts)
theorem d_lcO (k : Nat) {x : Str} {p : Pos} (hN' : X.N[k]? = some x) (hvis : Vis X.env.scope x) (hd : (x == ("__debug__" : Str)) = false) (hcd : (x == ("__classdict__" : Str)) = false) (hc : X.calm = true) (hN : X.N.Nodup) (ok : BlkOk X.N X.env.scope scope own)
    (hg : ∀ (s : Shared) (H : Hp) (C : Addr) (cl : List (Str × Addr)) (fp : List Addr), PGd (X.blk s H scope (compEnvC scope cl C X.env) fp) tg t) (ht : ∀ (s : Shared) (H : Hp) (C : Addr) (cl : List (Str × Addr)) (fp : List Addr), PTsd (X.blk s H scope (compEnvC scope cl C X.env) fp) ifs tt)
    (he : ∀ (s : Shared) (H : Hp) (C : Addr) (cl : List (Str × Addr)) (fp : List Addr), PEd (X.blk s H scope (compEnvC scope cl C X.env) fp) elt te) (hs : ∀ y, foldedSetIterable (.Name x p) X.env y = pure y := by intro _; rfl)
    (hv : ((own.map (·.2)).all fun i => decide (i < X.N.length)) = true := by rfl) (hts : ∀ i ∈ t.slots, i ∈ own.map (·.2) := by decide) : PEd X (.ListComp elt [⟨tg, .Name x p, ifs, 0⟩] scope pos) (fCompO k t (own.map (·.2)) tt te) :=
  imp (pe_lc hc hN (pi_list (pe_var hN' hvis hd hcd)) ok hg ht he hs) (lcO_run rfl (List.getElem?_eq_some_iff.mp hN').1 (hvB hv) hts)
theorem s_setLc (fr : Bool) {i : Nat} {y : Str} {py spos : Pos} (hc : X.calm = true) (hN : X.N.Nodup) (hy : X.N[i]? = some y) (hyl : X.env.scope.names.lookup y = some .local)
    (hsw : swapsWith (.ListComp elt [⟨tg, iter, ifs, 0⟩] scope pos) (some (.Name y py)) spos.line X.env = pure true) (hi : PId X tg iter src) (ok : BlkOk X.N X.env.scope scope own)
    (hg : ∀ (s : Shared) (H : Hp) (C : Addr) (cl : List (Str × Addr)) (fp : List Addr), PGd (X.blk s H scope (compEnvC scope cl C X.env) fp) tg t) (ht : ∀ (s : Shared) (H : Hp) (C : Addr) (cl : List (Str × Addr)) (fp : List Addr), PTsd (X.blk s H scope (compEnvC scope cl C X.env) fp) ifs tt)
    (he : ∀ (s : Shared) (H : Hp) (C : Addr) (cl : List (Str × Addr)) (fp : List Addr), PEd (X.blk s H scope (compEnvC scope cl C X.env) fp) elt te) (hs : ∀ x, foldedSetIterable iter X.env x = pure x := by intro _; rfl)
    (hv : ((own.map (·.2)).all fun i => decide (i < X.N.length)) = true := by rfl) (hts : ∀ i ∈ t.slots, i ∈ own.map (·.2) := by decide) : PSd X (.Assign [.Name y py] (.ListComp elt [⟨tg, iter, ifs, 0⟩] scope pos) spos) (sSet fr i (fComp src t (own.map (·.2)) tt te)) :=
  impS (ps_setLc hc hN hy hyl hsw hi ok hg ht he hs) fun D σ H h => by
    obtain ⟨R, Fm, L, T, τ, x, r, L', e, q⟩ := set_run (fr := fr) (fe := fComp src t (own.map (·.2)) tt te) (List.getElem?_eq_some_iff.mp hy).1 D σ H h
    exact lc_run (hvB hv) hts σ H _ ⟨R, Fm, L, T, τ, x, r, L', e, q⟩
end
end Qz
namespace Qz
open PySem PySem.Spec PyProof.Rows L2
/-! ### a def by its body -/
section
variable {G : Gp} {n : Nat} {R H : Hp} {Fm : Fr} {its : List SV} {vals : List (Option V)} {ws : List V} {ps : List OV}
/-- all items let go -/
theorem RelX.clear (x : RelX G n R Fm its vals H ws ps) : RelX G 0 R Fm [] [] H ws ps := by
  obtain ⟨fp, B, h1, h2, h3, h4, h5, h6, h7, h8⟩ := x.ex
  exact ⟨rfl, x.rh, x.fh, x.dj, fun _ => [], B, fun i sv e => by simp at e, fun _ _ => rfl, fun _ => List.nodup_nil, fun _ _ _ q => by simp at q, fun _ _ q => by simp at q, h6, h7, fun a ha => ⟨(h8 a ha).1, (h8 a ha).2.1, fun _ q => by simp at q⟩⟩
theorem RelX.padNo (x : Rel G 0 R Fm its vals H) (N k : Nat) (h : ∀ (i j : Nat), its[i]? ≠ some (.rf j)) : Rel G N R Fm (its ++ List.replicate k .no) (vals ++ List.replicate k none) H := by
  obtain ⟨fp, B, h1, h2, h3, h4, h5, h6, h7, h8⟩ := x.ex
  refine ⟨by simp [x.len], x.rh, x.fh, x.dj, fp, B, fun i sv e => ?_, fun i hi => h2 i (by simp at hi; omega), h3, h4, h5, h6, h7, h8⟩
  by_cases hi : i < its.length
  · rw [List.getElem?_append_left hi] at e
    have q := h1 i sv e
    have lk : (vals ++ List.replicate k none)[i]? = vals[i]? := List.getElem?_append_left (by rw [← x.len]; exact hi)
    cases sv with
    | no => exact q
    | ow o => obtain ⟨v, e1, e2⟩ := q; exact ⟨v, by rw [lk]; exact e1, e2⟩
    | bo o => obtain ⟨e0, v, B, e1, e2⟩ := q; exact ⟨e0, v, B, by rw [lk]; exact e1, e2⟩
    | fb o => obtain ⟨e0, v, B, e1, e2⟩ := q; exact ⟨e0, v, B, by rw [lk]; exact e1, e2⟩
    | rf j => exact absurd e (h i j)
  · rw [List.getElem?_append_right (by omega)] at e
    have : sv = .no := by
      have := List.mem_of_getElem? e
      exact (List.mem_replicate.mp this).2
    subst this
    exact h2 i (by omega)
end
def mFun (N : Nat) (f : FS) : List OV → Option OV := fun os => match f (os.map .bo ++ List.replicate (N - os.length) .no) with
  | some (.rt o, _) => some o
  | some (.nx, _) => some (.fz .none)
  | _ => none
/-- the argument j lies in a cell -/
def mFunI (N j : Nat) (f : FS) : List OV → Option (OV × OV) := fun os => match os[j]? with
  | some oj => match f ((os.map .bo).set j (.rf N) ++ List.replicate (N - os.length) .no ++ [.ow oj]) with
    | some (.rt o, L) => match L[N]? with
      | some (.ow o') => some (o, o')
      | _ => none
    | some (.nx, L) => match L[N]? with
      | some (.ow o') => some (.fz .none, o')
      | _ => none
    | _ => none
  | none => none
section
variable {P : Program} {w : World} {K : PySem.W.Frag} {mg : Str → Option Value} {base : Heap} {x qual : Str} {st : Stmt} {fa : Addr} {fd : FuncData} {N ps : List Str} {k np : Nat} {f : FS}
theorem fn_pure (F : Fun K x qual st fa fd) (S : FnScope N ps (defScope st)) (hp : ps.length = np)
    (body : ∀ (cdv : Value) (A : Around) (outer : List Env) (s : Shared) (H : Hp) (E : XK), Room k (A.deeper (envOfC qual (defScope st) s.heap.objs.size fa cdv)) → PBd (cxOf CX0 P w K mg base N qual (defScope st) fa cdv A outer s H E).nox (defBody st) f) :
    FnOk P w K mg base CX0 (k + 1) fa fd ps (spP ⟨K, P, w⟩ np (mFun N.length f)) := by
  have hNp : ps.length ≤ N.length := by
    have := S.pre
    have := congrArg List.length this
    rw [List.length_take] at this
    omega
  refine F.ok S (fun vs H Q E h => by rw [h.1, hp]) fun cdv A outer s H vs Q E hr h => ⟨_, body cdv A outer s H E hr, ?_⟩
  obtain ⟨hl, R, Fm, os, hlo, rel, r, em, q⟩ := h
  have hle : os.length ≤ N.length := by omega
  have y := rel.padNo (os.map SV.bo ++ List.replicate (N.length - os.length) SV.no).length (N.length - os.length) fun i j e => by
    rw [List.getElem?_map] at e
    cases h : os[i]? with
    | none => rw [h] at e; cases e
    | some o => rw [h] at e; cases e
  have sl : (L2.start N vs).length = N.length := by unfold L2.start; simp; omega
  have x0 : At ⟨K, P, w⟩ N.length R Fm (os.map .bo ++ List.replicate (N.length - os.length) .no) [] (L2.start N vs) [] H := by
    refine ⟨sl, by rw [sl]; simp; omega, ?_⟩
    rw [List.append_nil, List.append_nil]
    unfold L2.start
    rw [hlo]
    exact y
  unfold mFun at em
  split at em
  · rename_i o L' ef
    cases em
    exact ⟨R, Fm, _, [], x0, .rt r, L', ef, fun R' σ' v H' s' z => q R' v H' s' (RelX.clear (At.take1 (T := []) (τ := []) z))⟩
  · rename_i L' ef
    cases em
    exact ⟨R, Fm, _, [], x0, .nx, L', ef, fun R' σ' H' s' z => q R' .non H' s' ((RelX.clear z.rel).consFz .non)⟩
  · cases em
theorem fn_io (j : Nat) (F : Fun K x qual st fa fd) (S : FnScope N ps (defScope st)) (hp : ps.length = np) (hj : j < np)
    (body : ∀ (cdv : Value) (A : Around) (outer : List Env) (s : Shared) (H : Hp) (E : XK), Room k (A.deeper (envOfC qual (defScope st) s.heap.objs.size fa cdv)) → PBd (cxOf CX0 P w K mg base N qual (defScope st) fa cdv A outer s H E).nox (defBody st) f) :
    FnOk P w K mg base CX0 (k + 1) fa fd ps (spI ⟨K, P, w⟩ np j (mFunI N.length j f)) := by
  have hNp : ps.length ≤ N.length := by
    have := S.pre
    have := congrArg List.length this
    rw [List.length_take] at this
    omega
  refine F.ok S (fun vs H Q E h => by rw [h.1, hp]) fun cdv A outer s H vs Q E hr h => ⟨_, body cdv A outer s H E hr, ?_⟩
  obtain ⟨hl, R, Fm, os, oj, vj, hlo, eoj, evj, rel, r, oj', em, q⟩ := h
  have hle : os.length ≤ N.length := by omega
  have hjo : j < os.length := (List.getElem?_eq_some_iff.mp eoj).1
  have sl : (L2.start N vs).length = N.length := by unfold L2.start; simp; omega
  -- the argument's place becomes an alias of the cell
  have lenL : ((os.map SV.bo).set j (.rf N.length) ++ List.replicate (N.length - os.length) SV.no ++ [SV.ow oj]).length = N.length + 1 := by simp; omega
  have x0 : At ⟨K, P, w⟩ N.length R Fm ((os.map .bo).set j (.rf N.length) ++ List.replicate (N.length - os.length) .no ++ [.ow oj]) [] (L2.start N vs) [some vj] H := by
    refine ⟨sl, by rw [sl, lenL]; omega, ?_⟩
    rw [List.append_nil, lenL]
    obtain ⟨fp, B, h1, h2, h3, h4, h5, h6, h7, h8⟩ := rel.ex
    have hjl : j < (os.map SV.bo).length := by simpa using hjo
    obtain ⟨vj', e1, ho⟩ := h1 j (.ow oj) (by rw [List.getElem?_set_self hjl])
    have evj' : vj' = vj := by
      rw [List.getElem?_map, evj] at e1
      simpa using e1.symm
    subst evj'
    have lv : (L2.start N vs ++ [some vj'])[N.length]? = some (some vj') := by rw [← sl]; simp
    have lk : ∀ i, i < vs.length → (L2.start N vs ++ [some vj'])[i]? = (vs[i]?).map some := fun i hi => by
      rw [List.getElem?_append_left (by rw [sl]; omega)]
      unfold L2.start
      rw [List.getElem?_append_left (by simpa using hi), List.getElem?_map]
    refine ⟨by rw [lenL, List.length_append, sl]; rfl, rel.rh, rel.fh, rel.dj, fun i => if i = N.length then fp j else [], B, fun i sv e => ?_, fun i hi => ?_, fun i => ?_, fun i i' a hi hi' => ?_, fun i a hi => ?_, h6, h7, fun a ha => ⟨(h8 a ha).1, (h8 a ha).2.1, fun i hi => ?_⟩⟩
    · by_cases hiN : i = N.length
      · subst hiN
        have : sv = .ow oj := by
          have e2 : ((os.map SV.bo).set j (.rf N.length) ++ List.replicate (N.length - os.length) SV.no ++ [SV.ow oj])[N.length]? = some (SV.ow oj) := by
            rw [List.getElem?_append_right (by simp; omega)]
            have : N.length - ((os.map SV.bo).set j (.rf N.length) ++ List.replicate (N.length - os.length) SV.no).length = 0 := by simp; omega
            rw [this]; rfl
          rw [e2] at e
          exact (Option.some.inj e).symm
        subst this
        simp only [if_pos rfl]
        exact ⟨vj', lv, ho⟩
      · have hlt : i < N.length := by
          have := (List.getElem?_eq_some_iff.mp e).1
          rw [lenL] at this
          omega
        rw [List.getElem?_append_left (by simp; omega)] at e
        simp only [if_neg hiN]
        by_cases hio : i < os.length
        · rw [List.getElem?_append_left (by simp; exact hio)] at e
          by_cases hij : i = j
          · subst hij
            rw [List.getElem?_set_self hjl] at e
            cases e
            exact ⟨rfl, by omega, vj', by rw [lk i (by omega), evj]; rfl, lv⟩
          · rw [List.getElem?_set_ne (Ne.symm hij)] at e
            have q := h1 i sv (by rw [List.getElem?_set_ne (Ne.symm hij)]; exact e)
            rw [List.getElem?_map] at e
            obtain ⟨o, eo, e3⟩ := Option.map_eq_some_iff.mp e
            subst e3
            obtain ⟨_, v, B', e4, e5⟩ := q
            rw [List.getElem?_map] at e4
            exact ⟨rfl, v, B', by rw [lk i (by omega)]; exact e4, e5⟩
        · rw [List.getElem?_append_right (by simp; omega)] at e
          have : sv = .no := (List.mem_replicate.mp (List.mem_of_getElem? e)).2
          subst this
          rfl
    · rw [lenL] at hi
      simp only
      rw [if_neg (by omega)]
    · simp only; split
      · exact h3 j
      · exact List.nodup_nil
    · simp only at hi hi'
      split at hi
      · split at hi'
        · omega
        · simp at hi'
      · simp at hi
    · simp only at hi
      split at hi
      · exact h5 j a hi
      · simp at hi
    · simp only at hi
      split at hi
      · exact (h8 a ha).2.2 j hi
      · simp at hi
  -- the cell, at the end
  have fin : ∀ {R' : Hp} {L' : Sta} {σ' : L2.St} {v : V} {H' : Hp} {o : OV}, L'[N.length]? = some (.ow oj') → σ'.length = N.length → RelX ⟨K, P, w⟩ L'.length R' Fm L' (σ' ++ [some vj]) H' [v] [o] → RelX ⟨K, P, w⟩ 0 R' Fm [] [] H' [vj, v] [oj', o] := by
    intro R' L' σ' v H' o eL hs z
    obtain ⟨u, eu, y⟩ := z.moveOut eL
    rw [← hs] at eu
    have : u = vj := by simp at eu; exact eu.symm
    subst this
    exact y.clear
  unfold mFunI at em
  rw [eoj] at em
  simp only at em
  split at em
  · rename_i o L' ef
    split at em
    · rename_i o' eL
      cases em
      exact ⟨R, Fm, _, [some vj], x0, .rt r, L', ef, fun R' σ' v H' s' z => by
        have t := At.take1 (T := []) (τ := [some vj]) z
        rw [List.append_nil] at t
        exact q R' v H' s' (fin eL z.sl t)⟩
    · cases em
  · rename_i L' ef
    split at em
    · rename_i o' eL
      cases em
      exact ⟨R, Fm, _, [some vj], x0, .nx, L', ef, fun R' σ' H' s' z => by
        have t := RelX.consFz (v := .non) z.rel .non
        rw [List.append_nil] at t
        exact q R' .non H' s' (fin eL z.sl t)⟩
    · cases em
  · cases em
end
section
variable {X : Cx} {a b c : Expr} {fa fb fc : FE} {pos : Pos}
/-! ### xs[i] = e -/
def sSetIx (fo fi fe : FE) : FS := fun L => match fArgs [fe] L with
  | some ([o], M) => match fo M with
    | some (.rf k, M1) => match fi M1 with
      | some (r, M2) => match con M2 r with
        | some (.fz (.int i)) => match lstOf M2 k with
          | some os => match ixN os.length i with
            | some j => some (.nx, M2.set k (.ow (.ls (os.set j o))))
            | none => none
          | none => none
        | _ => none
      | none => none
    | _ => none
  | _ => none
theorem OwL.setP {G : Gp} {R H : Hp} {vs : List V} {os : List OV} {A B : List Addr} (h : OwL G R H vs os A) {j : Nat} (hj : j < os.length) {v : V} {o : OV} (g : Ow G R H v o B) : ∃ A' C, OwL G R H (vs.set j v) (os.set j o) A' ∧ (A ++ B).Perm (A' ++ C) := by
  obtain ⟨u, A1, A2, A3, e1, h2, e3, h1, h3⟩ := h.get (List.getElem?_eq_getElem hj)
  have hjv : j < vs.length := by rw [h.length]; exact hj
  refine ⟨A1 ++ (B ++ A3), A2, ?_, ?_⟩
  · rw [List.set_eq_take_append_cons_drop, if_pos hjv, List.set_eq_take_append_cons_drop, if_pos hj]
    exact h1.append (.cons g h3)
  · subst e3
    rw [List.append_assoc, List.append_assoc, List.append_assoc]
    refine List.Perm.append_left A1 ?_
    -- A2 ++ A3 ++ B ~ B ++ A3 ++ A2
    refine (List.perm_append_comm (l₁ := A2) (l₂ := A3 ++ B)).trans ?_
    exact List.Perm.append_right A2 (List.perm_append_comm)
theorem s_setIx {o i e : Expr} {fo fi fe : FE} {tp : Pos} (he : PEd X e fe) (ho : PEd X o fo) (hi : PEd X i fi)
    (ha : ∀ v, assign (.Subscript o i tp) X.env v = (do
      let ov ← holding [v] (eval o X.env)
      let iv ← holding [v, ov] (eval i X.env)
      standAt tp
      holding [v, ov, iv] (setItem ov iv v)
      release [v, ov, iv] []) := by intro _; rfl)
    (hs : swapsWithSole [.Subscript o i tp] e pos.line X.env = pure false := by rfl) (hw : swappedStores [.Subscript o i tp] e X.env = pure none := by rfl) (h1 : (assignEach [.Subscript o i tp] X.env).map (·.2) = [assign (.Subscript o i tp) X.env] := by rfl) :
    PSd X (.Assign [.Subscript o i tp] e pos) (sSetIx fo fi fe) :=
  impS (ps_asg he (pg_sub ho hi set_list ha) hs hw h1) (by
    rintro D σ H ⟨R, Fm, L, γ, x, fl, L', e, q⟩
    unfold sSetIx at e
    split at e
    · rename_i ov M eo
      split at e
      · rename_i k M1 ek
        split at e
        · rename_i r M2 er
          split at e
          · rename_i ii eii
            split at e
            · rename_i os eos
              split at e
              · rename_i j ej
                cases e
                obtain ⟨r0, M0, er0, et0⟩ := fArgs1 eo
                refine ⟨R, Fm, L, [], γ, x, r0, M0, er0, fun R1 v H1 s1 x1 => ?_⟩
                obtain ⟨R2, s2, x2⟩ := At.tk (T := []) (τ := γ) x1 et0
                refine ⟨R2, Fm, M, _, _, x2, .rf k, M1, ek, fun R3 u H3 s3 x3 => ⟨R3, Fm, M1, _, _, x3, r, M2, er, fun R4 z H4 s4 x4 => ?_⟩⟩
                obtain ⟨A, hz⟩ := x4.con eii
                cases hz.int
                obtain ⟨hk, ev⟩ := x4.drop.rfv (u := u) (T' := []) (τ' := [])
                have x5 : At (gp X) X.N.length R4 Fm M2 ([] ++ [.ow ov]) σ (γ ++ [some v]) H4 := x4.drop.drop
                have ln := x5.lens
                simp at ln
                have y := At.take1 (T := []) (τ := γ) x5
                have ek' : (M2 ++ ([] : Sta))[k]? = some (.ow (.ls os)) := by rw [List.append_nil]; exact lstOf_eq eos
                obtain ⟨p, ws, e1, e2, e3, mk⟩ := y.mutL ek'
                have ev' : (σ ++ γ)[k]? = some (some u) := by
                  rw [← List.append_assoc] at ev
                  rw [List.getElem?_append_left (by simp; omega)] at ev
                  exact ev
                rw [ev'] at e1
                cases e1
                have hjl : j < os.length := (ixN_seq ej).2.1
                refine ⟨p, ws, ii, j, rfl, rfl, e2, by rw [e3]; exact ej, ?_⟩
                have z := mk (ws.set j v) [] (os.set j ov) [] fun A B g1 g2 => by
                  obtain ⟨A', C, k1, k2⟩ := g1.setP hjl g2.one'
                  exact ⟨A', [], C, k1, .nil, by simpa using k2⟩
                rw [List.append_nil] at z
                exact q R4 σ _ (s1.trans (s2.trans (s3.trans s4))) ⟨x4.sl, by simpa using x4.ge, by simpa using z⟩
              · cases e
            · cases e
          · cases e
        · cases e
      · cases e
    · cases e)
/-! xs[i] += e, of numbers -/
def sAugIx (sub : Bool) (fo fi fe : FE) : FS := fun L => match fo L with
  | some (.rf k, M1) => match fi M1 with
    | some (r, M2) => match con M2 r with
      | some (.fz (.int i)) => match lstOf M2 k with
        | some os => if 0 ≤ i then (match os[i.toNat]? with
          | some (.fz (.int old)) => match fe M2 with
            | some (r2, M3) => match con M3 r2 with
              | some (.fz (.int d)) => match lstOf M3 k with
                | some os' => match ixN os'.length i with
                  | some j => some (.nx, M3.set k (.ow (.ls (os'.set j (.fz (.int (if sub then old - d else old + d)))))))
                  | none => none
                | none => none
              | _ => none
            | none => none
          | _ => none) else none
        | none => none
      | _ => none
    | none => none
  | _ => none
/-- the item of a list at a place from the front -/
def rGet (K : PySem.W.Frag) : V → V → Hp → VK → Prop := fun x y H Q => ∃ p xs i v, x = .ref p ∧ y = .int i ∧ 0 ≤ i ∧ SqL K H p xs ∧ xs[i.toNat]? = some v ∧ Q v H
theorem get_list : PGet X (rGet X.K) := by
  intro pins s σ H o i ov iv Q I ro ri h
  obtain ⟨p, xs, k, v, rfl, rfl, h0, hl, hv, q⟩ := h
  cases ro
  obtain ⟨t, rfl⟩ := ri
  obtain ⟨zs, rv, pl, hz⟩ := I.list hl
  obtain ⟨u, hu, ru⟩ := rv.get hv
  have big := line63
  have hk : k.toNat < xs.length := (List.getElem?_eq_some_iff.mp hv).1
  exact wpAny_getItem_list pl.isList h0 (by omega) (by simpa using hu) ⟨v, H, I, ru, q⟩
theorem s_augIx {sub : Bool} {op : Operator} {o i e : Expr} {fo fi fe : FE} {tp : Pos} (hop : op = if sub then .Sub else .Add) (ho : PEd X o fo) (hi : PEd X i fi) (he : PEd X e fe)
    (ha : ∀ ov iv new, augStore i ov iv new = (do holding [new, ov, iv] (setItem ov iv new); release [new, ov, iv] []; pure .next) := by intros; rfl) : PSd X (.AugAssign (.Subscript o i tp) op e pos) (sAugIx sub fo fi fe) := by
  have ip : PIp X op (ipI fun i j => if sub then i - j else i + j) := by
    subst hop
    cases sub with
    | true => exact ip_sub
    | false => exact ip_add
  refine impS (ps_augS ho hi get_list he ip set_list ha) ?_
  rintro D σ H ⟨R, Fm, L, γ, x, fl, L', e, q⟩
  unfold sAugIx at e
  split at e
  · rename_i k M1 ek
    split at e
    · rename_i r M2 er
      split at e
      · rename_i ii eii
        split at e
        · rename_i os eos
          split at e
          · rename_i hge
            split at e
            · rename_i old eold
              split at e
              · rename_i r2 M3 er2
                split at e
                · rename_i d ed
                  split at e
                  · rename_i os' eos'
                    split at e
                    · rename_i j ej
                      cases e
                      refine ⟨R, Fm, L, [], γ, x, .rf k, M1, ek, fun R1 u H1 s1 x1 => ⟨R1, Fm, M1, _, _, x1, r, M2, er, fun R2 z H2 s2 x2 => ?_⟩⟩
                      obtain ⟨A, hz⟩ := x2.con eii
                      cases hz.int
                      -- the old item
                      obtain ⟨A2, hl⟩ := x2.drop.con (o := .ls os) (by simp only [con, conI]; rw [lstOf_eq eos])
                      have hold : ∃ a ws, u = .ref a ∧ H2 a = some (.lst ws) ∧ ws[ii.toNat]? = some (.int old) := by
                        cases hl with
                        | nd nn l =>
                          cases nn with
                          | lst hh =>
                            obtain ⟨v, B1, B2, B3, e1, e2, _⟩ := l.get eold
                            cases e2.int
                            exact ⟨_, _, rfl, hh, e1⟩
                      obtain ⟨a, ws, rfl, hws, hold⟩ := hold
                      refine ⟨a, ws, ii, .int old, rfl, rfl, hge, SqL.of hws, hold, R2, Fm, M2, _, _, x2, r2, M3, er2, fun R3 y H3 s3 x3 => ?_⟩
                      obtain ⟨A3, hy⟩ := x3.con ed
                      cases hy.int
                      refine ⟨old, d, rfl, rfl, ?_⟩
                      obtain ⟨hk, ev⟩ := x3.drop.drop.rfv (u := .ref a) (T' := []) (τ' := [])
                      have x5 := x3.drop.drop.drop
                      have ek' : (M3 ++ ([] : Sta))[k]? = some (.ow (.ls os')) := by rw [List.append_nil]; exact lstOf_eq eos'
                      obtain ⟨p, ws', e1, e2, e3, mk⟩ := (x5.rel.consFz (v := .int (if sub then old - d else old + d)) (.int _)).mutL ek'
                      rw [ev] at e1
                      cases e1
                      have hjl : j < os'.length := (ixN_seq ej).2.1
                      refine ⟨a, ws', ii, j, rfl, rfl, e2, by rw [e3]; exact ej, ?_⟩
                      have z := mk (ws'.set j (.int (if sub then old - d else old + d))) [] (os'.set j (.fz (.int (if sub then old - d else old + d)))) [] fun A B g1 g2 => by
                        obtain ⟨A', C, k1, k2⟩ := g1.setP hjl g2.one'
                        exact ⟨A', [], C, k1, .nil, by simpa using k2⟩
                      rw [List.append_nil] at z
                      exact q R3 σ _ (s1.trans (s2.trans s3)) ⟨x3.sl, by simpa using x3.ge, by simpa using z⟩
                    · cases e
                  · cases e
                · cases e
              · cases e
            · cases e
          · cases e
        · cases e
      · cases e
    · cases e
  · cases e
/-! a, b = x, y where a name is captured: by way of the pair -/
theorem parC_fin {G : Gp} {is : List (Bool × Nat)} {fs : List FE} {m : Nat} {gs : TGs} (hm : ∀ p ∈ is, p.2 < m) (hz : is.length ≤ sizeLine)
    (hg : ∀ (vs : List V) (σ : L2.St) (H : Hp) (Q : L2.St → Hp → Prop), vs.length = is.length → Q (((is.map (·.2)).zip vs).foldl (fun σ p => σ.set p.1 (some p.2)) σ) H → gs vs σ H Q) :
    ∀ D σ H, tS G m (sPar is fs) D σ H → tAsg (tTup (tA G m fs)) (gTup G.K is.length gs) D σ H := by
  intro D σ H h
  obtain ⟨R, Fm, L, T, τ, x, os, L', e, q⟩ := par_run hm D σ H h
  refine ⟨R, Fm, L, T, τ, x, os, L', e, fun R' vs H' s hl z => ?_⟩
  obtain ⟨h1, h2⟩ := q R' vs H' s hl z
  refine ⟨by omega, fun p hp => ⟨p, vs, rfl, SqT.of upd_same, h1, hg vs σ _ _ h1 (h2 _ (same_upd hp))⟩⟩
theorem s_parC2 {fr1 fr2 : Bool} {i j : Nat} {x y : Str} {fa fb : FE} {px py pt : Pos} {kt k2 pt2} (hc : X.calm = true) (hN : X.N.Nodup) (hi : X.N[i]? = some x) (hj : X.N[j]? = some y) (ha : PAd X [a, b] [fa, fb])
    (gx : PG X (.Name x px) (gName i)) (gy : PG X (.Name y py) (gName j))
    (hs : swapsWithSole [.Tuple [.Name x px, .Name y py] kt pt] (.Tuple [a, b] k2 pt2) pos.line X.env = pure false := by rfl) (hw : swappedStores [.Tuple [.Name x px, .Name y py] kt pt] (.Tuple [a, b] k2 pt2) X.env = pure none := by rfl) :
    PSd X (.Assign [.Tuple [.Name x px, .Name y py] kt pt] (.Tuple [a, b] k2 pt2) pos) (sPar [(fr1, i), (fr2, j)] [fa, fb]) :=
  impS (ps_asg (pe_tup ha) (pg_tup hc (pgs_cons gx (pgs_cons gy pgs_nil))) hs hw) (parC_fin (is := [(fr1, i), (fr2, j)]) (fun p hp => by
    simp at hp
    rcases hp with rfl | rfl
    · exact (List.getElem?_eq_some_iff.mp hi).1
    · exact (List.getElem?_eq_some_iff.mp hj).1) (by show 2 ≤ sizeLine; decide) fun vs σ H Q hl h => by
    match vs, hl, h with
    | [u, v], _, h => exact ⟨u, _, rfl, v, _, rfl, rfl, h⟩)
theorem s_parC3 {fr1 fr2 fr3 : Bool} {i j l : Nat} {x y z : Str} {fa fb fc : FE} {px py pz pt : Pos} {kt k2 pt2} (hc : X.calm = true) (hN : X.N.Nodup) (hi : X.N[i]? = some x) (hj : X.N[j]? = some y) (hl : X.N[l]? = some z) (ha : PAd X [a, b, c] [fa, fb, fc])
    (gx : PG X (.Name x px) (gName i)) (gy : PG X (.Name y py) (gName j)) (gz : PG X (.Name z pz) (gName l))
    (hs : swapsWithSole [.Tuple [.Name x px, .Name y py, .Name z pz] kt pt] (.Tuple [a, b, c] k2 pt2) pos.line X.env = pure false := by rfl) (hw : swappedStores [.Tuple [.Name x px, .Name y py, .Name z pz] kt pt] (.Tuple [a, b, c] k2 pt2) X.env = pure none := by rfl) :
    PSd X (.Assign [.Tuple [.Name x px, .Name y py, .Name z pz] kt pt] (.Tuple [a, b, c] k2 pt2) pos) (sPar [(fr1, i), (fr2, j), (fr3, l)] [fa, fb, fc]) :=
  impS (ps_asg (pe_tup ha) (pg_tup hc (pgs_cons gx (pgs_cons gy (pgs_cons gz pgs_nil)))) hs hw) (parC_fin (is := [(fr1, i), (fr2, j), (fr3, l)]) (fun p hp => by
    simp at hp
    rcases hp with rfl | rfl | rfl
    · exact (List.getElem?_eq_some_iff.mp hi).1
    · exact (List.getElem?_eq_some_iff.mp hj).1
    · exact (List.getElem?_eq_some_iff.mp hl).1) (by show 3 ≤ sizeLine; decide) fun vs σ H Q hl h => by
    match vs, hl, h with
    | [u, v, w], _, h => exact ⟨u, _, rfl, v, _, rfl, w, _, rfl, rfl, h⟩)
end
end Qz
namespace Qz
open PySem PySem.Spec PyProof.Rows L2
/-! ### operations behind which the heap has grown -/
def NewG (R H : Hp) (Q : VK) (d : Res) : Prop := ∀ H', Same H H' → New R H' Q d
theorem At.newG {G : Gp} {m : Nat} {R H : Hp} {Fm : Fr} {L T : Sta} {σ : L2.St} {τ : List (Option V)} {Q : VK} (x : At G m R Fm L T σ τ H) {res : Res}
    (q : ∀ R' v H', Same R R' → At G m R' Fm L (T ++ [.ow res.ov]) σ (τ ++ [some v]) H' → Q v H') : NewG R H Q res := fun _ s => (x.grow s).new q
section
variable {G : Gp} {m : Nat}
theorem run1G {g : OV → Option Res} {fa : FE} {k : V → Hp → VK → Prop} (hk : ∀ R H v a A d Q, Same R H → Ow G R H v a A → g a = some d → NewG R H Q d → k v H Q) :
    ∀ σ H Q, tE G m (f1 g fa) σ H Q → tE G m fa σ H fun x H1 => k x H1 Q := by
  rintro σ H Q ⟨R, Fm, L, T, τ, x, r, L', e, q⟩
  unfold f1 at e
  split at e
  · rename_i a M1 ea
    split at e
    · rename_i o eo
      split at e
      · rename_i d ed
        cases e
        refine ⟨R, Fm, L, T, τ, x, a, _, ea, fun R1 v H1 s1 x1 => ?_⟩
        obtain ⟨A, ho⟩ := x1.con eo
        exact hk R1 H1 v o A d Q x1.rel.rh ho ed (x1.drop.newG fun R' v H' s => q R' v H' (s1.trans s))
      · cases e
    · cases e
  · cases e
theorem run2G {g : OV → OV → Option Res} {fa fb : FE} {k : V → V → Hp → VK → Prop} (hk : ∀ R H v u a b A B d Q, Same R H → Ow G R H v a A → Ow G R H u b B → g a b = some d → NewG R H Q d → k v u H Q) :
    ∀ σ H Q, tE G m (f2 g fa fb) σ H Q → tE G m fa σ H fun x H1 => tE G m fb σ H1 fun y H2 => k x y H2 Q := by
  rintro σ H Q ⟨R, Fm, L, T, τ, x, r, L', e, q⟩
  unfold f2 at e
  split at e
  · rename_i a M1 ea
    split at e
    · rename_i b M2 eb
      split at e
      · rename_i o1 o2 eo1 eo2
        split at e
        · rename_i d ed
          cases e
          refine ⟨R, Fm, L, T, τ, x, a, M1, ea, fun R1 v H1 s1 x1 => ⟨R1, Fm, M1, _, _, x1, b, _, eb, fun R2 u H2 s2 x2 => ?_⟩⟩
          obtain ⟨B, ho2⟩ := x2.con eo2
          obtain ⟨A, ho1⟩ := x2.drop.con eo1
          exact hk R2 H2 v u o1 o2 A B d Q x2.rel.rh ho1 ho2 ed (x2.drop.drop.newG fun R' v H' s => q R' v H' (s1.trans (s2.trans s)))
        · cases e
      · cases e
    · cases e
  · cases e
end
/-! ### isinstance -/
inductive Ty7 where
  | non | bool | int | str | list | tuple | dict
  deriving DecidableEq
def Ty7.nm : Ty7 → String
  | .non => "NoneType" | .bool => "bool" | .int => "int" | .str => "str" | .list => "list" | .tuple => "tuple" | .dict => "dict"
def Ty7.sub : Ty7 → Ty7 → Bool
  | .bool, .int => true
  | a, b => decide (a = b)
theorem Ty7.kit {K : PySem.W.Frag} (a b : Ty7) : PySem.W.kitOne K (.type a.nm) (.type b.nm) = some (a.sub b) := by
  cases a <;> cases b <;> exact kit_ty (by decide +kernel)
def tyD : PyData → Ty7
  | .none => .non
  | .bool _ => .bool
  | .int _ => .int
  | .str _ => .str
  | .list _ => .list
  | .tuple _ => .tuple
  | .dict _ => .dict
def tyO : OV → Option Ty7
  | .fz d => some (tyD d)
  | .nd .lst _ => some .list
  | _ => none
theorem Ow.ty {G : Gp} {R H : Hp} {v : V} {o : OV} {A : List Addr} {t : Ty7} (s : Same R H) (h : Ow G R H v o A) (e : tyO o = some t) : TyX G.K H v (.type t.nm) := by
  cases h with
  | fz h =>
    cases e
    cases h with
    | non => exact .base .non
    | bl b => exact .base (.bl b)
    | int i => exact .base (.int i)
    | str x => exact .base (.str x)
    | lst h r => exact .base (.lst (s _ _ h))
    | tup h r => exact .base (.tup (s _ _ h))
  | nd n l =>
    cases n with
    | lst h => cases e; exact .base (.lst h)
    | dct h k => cases e
    | obj h1 h2 h3 => cases e
    | scr h => cases e
  | fo h => cases e
def gIsi (t : Ty7) (o : OV) : Option Res := (tyO o).map fun a => .fr (.bool (a.sub t))
def gIsi2 (t u : Ty7) (o : OV) : Option Res := (tyO o).map fun a => .fr (.bool (a.sub t || a.sub u))
section
variable {X : Cx} {a b c : Expr} {fa fb fc : FE} {pos : Pos}
theorem d_isi (t : Ty7) {x : Str} {p p2 : Pos} (hg : Gl X "isinstance") (hm : X.mg "isinstance" = none) (hg2 : Gl X x) (hm2 : X.mg x = none) (hv2 : bootBuiltins x = some (.type t.nm)) (ha : PEd X a fa) (hn2 : x ≠ "__name__") (hd2 : (x == ("__debug__" : Str)) = false)
    (h1 : starEach [a, .Name x p2] X.env = (false, eval a X.env) :: starEach [.Name x p2] X.env := by rfl) : PEd X (.Call (.Name "isinstance" p) [a, .Name x p2] [] pos) (f1 (gIsi t) fa) :=
  imp (pe_callB call_isi hg hm (by decide +kernel) (pa_cons ha (pa_cons (pe_bltn (v := .ty t.nm) hg2 hm2 hv2 rfl hn2 hd2) pa_nil) h1) (he := h1)) (run1 (k := fun v H Q => rIsi X.K [v, .ty t.nm] H Q) fun R H v a A d Q s ha e q => by
    unfold gIsi at e
    obtain ⟨u, e1, e2⟩ := Option.map_eq_some_iff.mp e
    subst e2
    exact ⟨v, .ty t.nm, _, _, _, rfl, .ty _, ha.ty s e1, Ty7.kit u t, q.1 _ (.bl _)⟩)
theorem d_isi2 (t u : Ty7) {x y : Str} {p p2 p3 p4 : Pos} {kk : Nat} (hg : Gl X "isinstance") (hm : X.mg "isinstance" = none) (hg2 : Gl X x) (hm2 : X.mg x = none) (hv2 : bootBuiltins x = some (.type t.nm)) (hg3 : Gl X y) (hm3 : X.mg y = none) (hv3 : bootBuiltins y = some (.type u.nm)) (ha : PEd X a fa)
    (hn2 : x ≠ "__name__") (hd2 : (x == ("__debug__" : Str)) = false) (hn3 : y ≠ "__name__") (hd3 : (y == ("__debug__" : Str)) = false)
    (h1 : starEach [a, .Tuple [.Name x p2, .Name y p3] kk p4] X.env = (false, eval a X.env) :: starEach [.Tuple [.Name x p2, .Name y p3] kk p4] X.env := by rfl) : PEd X (.Call (.Name "isinstance" p) [a, .Tuple [.Name x p2, .Name y p3] kk p4] [] pos) (f1 (gIsi2 t u) fa) :=
  imp (pe_callB call_isiT hg hm (by decide +kernel) (pa_cons ha (pa_cons (pe_tup (pa_cons (pe_bltn (v := .ty t.nm) hg2 hm2 hv2 rfl hn2 hd2) (pa_cons (pe_bltn (v := .ty u.nm) hg3 hm3 hv3 rfl hn3 hd3) pa_nil))) pa_nil) h1) (he := h1))
    (run1G (k := fun v H Q => 2 ≤ sizeLine ∧ ∀ p, H p = none → rIsiT X.K [v, .ref p] (upd H p (.tup [.ty t.nm, .ty u.nm])) Q) fun R H v a A d Q s ha e q => by
    unfold gIsi2 at e
    obtain ⟨w, e1, e2⟩ := Option.map_eq_some_iff.mp e
    subst e2
    refine ⟨by decide, fun p hp => ?_⟩
    have sh := same_upd (o := .tup [V.ty t.nm, V.ty u.nm]) hp
    refine ⟨v, p, _, _, [.type t.nm, .type u.nm], _, rfl, upd_same, .cons (.ty _) (.cons (.ty _) .nil), (ha.frame (frz_same sh) fun b _ o q => sh b o q).ty (s.trans sh) e1, ?_, (q _ sh).1 _ (.bl _)⟩
    exact kitAny_cons (Ty7.kit w t) (fun h => kitAny_cons (Ty7.kit w u) (fun h2 => by rw [h, h2]; rfl) (fun h2 => by rw [h2]; simp)) (fun h => by rw [h]; rfl))
/-! ### sets of numbers, at once counted or sorted -/
def intsD : List PyData → Option (List Int)
  | [] => some []
  | .int i :: r => (intsD r).map (i :: ·)
  | _ :: _ => none
theorem intsD_map (ns : List Int) : intsD (ns.map .int) = some ns := by
  induction ns with
  | nil => rfl
  | cons n ns ih => simp [intsD, ih]
theorem intsD_rp {R : Hp} : ∀ {vs : List V} {ds : List PyData} {ns : List Int}, RpL R vs ds → intsD ds = some ns → vs = ns.map V.int
  | _, _, _, .nil, e => by simp [intsD] at e; subst e; rfl
  | _, _, _, .cons h r, e => by
    cases h <;> simp only [intsD] at e <;> first | (cases e; done) | skip
    obtain ⟨bs', e1, e2⟩ := Option.map_eq_some_iff.mp e
    subst e2
    rw [intsD_rp r e1]
    rfl
/-- put into a strictly rising list -/
def insI (k : Int) : List Int → List Int
  | [] => [k]
  | x :: xs => if k < x then k :: x :: xs else if k = x then x :: xs else x :: insI k xs
/-- the strictly rising list of the members -/
def sdI (ns : List Int) : List Int := ns.foldr insI []
theorem insI_mem {k j : Int} : ∀ {xs : List Int}, j ∈ insI k xs ↔ j = k ∨ j ∈ xs
  | [] => by simp [insI]
  | x :: xs => by
    unfold insI
    split
    · simp
    · split
      · rename_i h; subst h; simp
      · simp only [List.mem_cons, insI_mem (xs := xs)]
        constructor
        · rintro (h | h | h)
          · exact .inr (.inl h)
          · exact .inl h
          · exact .inr (.inr h)
        · rintro (h | h | h)
          · exact .inr (.inl h)
          · exact .inl h
          · exact .inr (.inr h)
theorem insI_up {k : Int} : ∀ {xs : List Int}, xs.Pairwise (· < ·) → (insI k xs).Pairwise (· < ·)
  | [], _ => by simp [insI]
  | x :: xs, h => by
    unfold insI
    have h1 := List.pairwise_cons.mp h
    split
    · rename_i hk
      refine List.pairwise_cons.mpr ⟨fun y hy => ?_, h⟩
      rcases List.mem_cons.mp hy with rfl | hy
      · exact hk
      · have := h1.1 y hy; omega
    · split
      · exact h
      · rename_i h2 h3
        refine List.pairwise_cons.mpr ⟨fun y hy => ?_, insI_up h1.2⟩
        rcases insI_mem.mp hy with rfl | hy
        · omega
        · exact h1.1 y hy
theorem sdI_mem {k : Int} {ns : List Int} : k ∈ sdI ns ↔ k ∈ ns := by
  unfold sdI
  induction ns with
  | nil => simp
  | cons n ns ih => rw [List.foldr_cons, insI_mem, ih]; simp
theorem sdI_up (ns : List Int) : (sdI ns).Pairwise (· < ·) := by
  unfold sdI
  induction ns with
  | nil => exact List.Pairwise.nil
  | cons n ns ih => rw [List.foldr_cons]; exact insI_up ih
theorem up_unique : ∀ {xs ys : List Int}, xs.Pairwise (· < ·) → ys.Pairwise (· < ·) → (∀ k, k ∈ xs ↔ k ∈ ys) → xs = ys
  | [], [], _, _, _ => rfl
  | [], y :: ys, _, _, h => by have := (h y).mpr (by simp); simp at this
  | x :: xs, [], _, _, h => by have := (h x).mp (by simp); simp at this
  | x :: xs, y :: ys, h1, h2, h => by
    have p1 := List.pairwise_cons.mp h1
    have p2 := List.pairwise_cons.mp h2
    have e : x = y := by
      have a1 := (h x).mp (by simp)
      have a2 := (h y).mpr (by simp)
      rcases List.mem_cons.mp a1 with q | q
      · exact q
      · rcases List.mem_cons.mp a2 with q2 | q2
        · exact q2.symm
        · have := p2.1 x q; have := p1.1 y q2; omega
    subst e
    refine congrArg (x :: ·) (up_unique p1.2 p2.2 fun k => ?_)
    have hk := h k
    constructor
    · intro hm
      rcases List.mem_cons.mp (hk.mp (List.mem_cons_of_mem _ hm)) with q | q
      · have := p1.1 k hm; omega
      · exact q
    · intro hm
      rcases List.mem_cons.mp (hk.mpr (List.mem_cons_of_mem _ hm)) with q | q
      · have := p2.1 k hm; omega
      · exact q
/-- how many members: the set's own entries are without a double -/
theorem set_count {w : World} {h : Heap} {a : Addr} {ns : List Int} {c : Nat} (r : SetR w h a (fun j => decide (j ∈ ns)) c) : c = (sdI ns).length := by
  obtain ⟨o, es, ep, t, _, _, _, _, nd, mem, _, _, hn, _⟩ := r
  rw [← hn]
  have e1 : es.size = (es.toList.map keyOf).length := by simp
  rw [e1]
  refine List.Perm.length_eq ?_
  have n2 : (sdI ns).Nodup := (sdI_up ns).imp fun h => by omega
  refine (List.perm_ext_iff_of_nodup nd n2).mpr fun k => ?_
  rw [← mem k, decide_eq_true_eq, sdI_mem]
def rSetT (K : PySem.W.Frag) (w : World) : List V → Hp → VK → Prop := fun xs H Q => ∃ (p : Addr) (ns : List Int), xs = [.ref p] ∧ SqT K H p (ns.map V.int) ∧ ns.length ≤ 1000 ∧ ∀ q, H q = none → Q (.ref q) (upd H q (SetO w q (fun j => decide (j ∈ ns)) (sdI ns).length))
theorem cr_setT (hc : X.calm = true) : CallR X (.type "set") (rSetT X.K X.w) := by
  intro pins s σ H vs us Q I r h
  obtain ⟨p, ns, rfl, hT, hl, q⟩ := h
  rw [Vals.ref1 r]
  obtain ⟨zs, rv, pt, hz⟩ := I.tuple hT
  refine call_set_tupI ns (I.ok.hd hc) (show s.heap.IsTuple p zs.toArray from pt) (by simpa using Vals.ints rv) (by unfold scanBound; omega) fun h' tk c R1 hcn k => ?_
  have hcc := set_count R1
  subst hcc
  exact ⟨.ref s.heap.objs.size, upd H s.heap.objs.size (SetO X.w s.heap.objs.size (fun j => decide (j ∈ ns)) (sdI ns).length), I.laid k (Nat.le_refl _) (setO_new R1), rfl, q _ I.fresh⟩
def rLenS (w : World) : List V → Hp → VK → Prop := fun xs H Q => ∃ (a : Addr) (S : Int → Bool) (n : Nat), xs = [.ref a] ∧ H a = some (SetO w a S n) ∧ Q (.int n) H
theorem cr_lenS : CallR X (.builtin "len") (rLenS X.w) := by
  intro pins s σ H vs us Q I r h
  obtain ⟨a, S, n, rfl, hS, q⟩ := h
  rw [Vals.ref1 r]
  obtain ⟨o, es, ep, t, ho, hex, hd, _, _, _, hb, hf, hn, _⟩ := setO_get I hS
  exact call_len_set ho hex hd hf (by unfold scanBound at hb; omega) ⟨.int n, H, I.tok _, ⟨_, by rw [hn]⟩, q⟩
def tupInts : OV → Option (List Int)
  | .fz (.tuple ds) => match intsD ds with
    | some ns => if ns.length ≤ 63 then some ns else none
    | none => none
  | _ => none
theorem Ow.tupInts {G : Gp} {R H : Hp} {v : V} {o : OV} {A : List Addr} {ns : List Int} (s : Same R H) (h : Ow G R H v o A) (e : tupInts o = some ns) : ∃ p, v = .ref p ∧ H p = some (.tup (ns.map V.int)) ∧ ns.length ≤ 63 := by
  unfold Qz.tupInts at e
  split at e
  · split at e
    · rename_i ms em
      split at e
      · rename_i hl
        cases e
        obtain ⟨p, vs, rfl, hp, rr⟩ := h.tup
        have := intsD_rp rr em
        subst this
        exact ⟨p, rfl, s _ _ hp, hl⟩
      · cases e
    · cases e
  · cases e
def gLenSet (o : OV) : Option Res := (tupInts o).map fun ns => .fr (.int (sdI ns).length)
def gSortSet (o : OV) : Option Res := (tupInts o).map fun ns => .nl ((sdI ns).map .int)
theorem sdI_len (ns : List Int) : (sdI ns).length ≤ ns.length := by
  have ins : ∀ (k : Int) (xs : List Int), (insI k xs).length ≤ xs.length + 1 := fun k xs => by
    induction xs with
    | nil => simp [insI]
    | cons x xs ih =>
      unfold insI
      split
      · simp
      · split
        · simp
        · simp; omega
  unfold sdI
  induction ns with
  | nil => simp
  | cons n ns ih => rw [List.foldr_cons]; have := ins n (ns.foldr insI []); simp; omega
theorem d_lenSet {p p2 q : Pos} (hc : X.calm = true) (hg : Gl X "len") (hm : X.mg "len" = none) (hg2 : Gl X "set") (hm2 : X.mg "set" = none) (ha : PEd X a fa) (na : starEach [a] X.env = (false, eval a X.env) :: starEach [] X.env := by rfl) :
    PEd X (.Call (.Name "len" p) [.Call (.Name "set" p2) [a] [] q] [] pos) (f1 gLenSet fa) :=
  imp (pe_callB cr_lenS hg hm PySem.boot_len (pa_cons (pe_callTy (cr_setT hc) hg2 hm2 PyProof.Rows.boot_set (pa_cons ha pa_nil na) (he := na)) pa_nil)) (run1G (k := fun v H Q => rSetT X.K X.w [v] H fun y H2 => rLenS X.w [y] H2 Q) fun R H v a A d Q s ha e q => by
    unfold gLenSet at e
    obtain ⟨ns, e1, e2⟩ := Option.map_eq_some_iff.mp e
    subst e2
    obtain ⟨p, rfl, hp, hl⟩ := ha.tupInts s e1
    exact ⟨p, ns, rfl, SqT.of hp, by omega, fun q' hq => ⟨q', _, _, rfl, upd_same, (q _ (same_upd hq)).1 _ (.int _)⟩⟩)
theorem rpl_ints {R : Hp} : ∀ ns : List Int, RpL R (ns.map V.int) (ns.map .int)
  | [] => .nil
  | n :: ns => .cons (.int n) (rpl_ints ns)
theorem d_sortSet {p p2 q : Pos} (hc : X.calm = true) (hg : Gl X "sorted") (hm : X.mg "sorted" = none) (hg2 : Gl X "set") (hm2 : X.mg "set" = none) (ha : PEd X a fa) (na : starEach [a] X.env = (false, eval a X.env) :: starEach [] X.env := by rfl) :
    PEd X (.Call (.Name "sorted" p) [.Call (.Name "set" p2) [a] [] q] [] pos) (f1 gSortSet fa) :=
  imp (pe_callB (cr_sortedSet hc) hg hm (by decide +kernel) (pa_cons (pe_callTy (cr_setT hc) hg2 hm2 PyProof.Rows.boot_set (pa_cons ha pa_nil na) (he := na)) pa_nil)) (run1G (k := fun v H Q => rSetT X.K X.w [v] H fun y H2 => rSortedSet X.w [y] H2 Q) fun R H v a A d Q s ha e q => by
    unfold gSortSet at e
    obtain ⟨ns, e1, e2⟩ := Option.map_eq_some_iff.mp e
    subst e2
    obtain ⟨p, rfl, hp, hl⟩ := ha.tupInts s e1
    have hle := sdI_len ns
    refine ⟨p, ns, rfl, SqT.of hp, by omega, fun q' hq => ⟨q', _, _, rfl, upd_same, by omega, fun ms p' up mem len hp' => ?_⟩⟩
    have : ms = sdI ns := up_unique up (sdI_up ns) fun k => by rw [mem k, decide_eq_true_eq, sdI_mem]
    subst this
    exact q _ (same_upd hq) p' _ hp' (rpl_ints _))
/-! ### the greatest and the least of pairs of numbers -/
def pairsD : List PyData → Option (List (Int × Int))
  | [] => some []
  | .tuple [.int i, .int j] :: r => (pairsD r).map ((i, j) :: ·)
  | _ :: _ => none
def prD2 (p : Int × Int) : PyData := .tuple [.int p.1, .int p.2]
theorem pairsD_eq : ∀ {ds : List PyData} {ps : List (Int × Int)}, pairsD ds = some ps → ds = ps.map prD2
  | [], ps, e => by simp [pairsD] at e; subst e; rfl
  | d :: r, ps, e => by
    unfold pairsD at e
    split at e
    · rename_i h; cases h
    · rename_i i j r' h
      obtain ⟨rfl, rfl⟩ := List.cons.inj h
      obtain ⟨qs, e1, e2⟩ := Option.map_eq_some_iff.mp e
      subst e2
      rw [pairsD_eq e1]
      rfl
    · cases e
theorem pairsD_map (ps : List (Int × Int)) : pairsD (ps.map prD2) = some ps := by
  induction ps with
  | nil => rfl
  | cons p ps ih => simp only [List.map_cons, prD2, pairsD]; rw [ih]; rfl
def ltP (p q : Int × Int) : Bool := if p.1 = q.1 then decide (p.2 < q.2) else decide (p.1 < q.1)
def maxP (x : Int × Int) (xs : List (Int × Int)) : Int × Int := xs.foldl (fun a y => if ltP a y = true then y else a) x
def minP (x : Int × Int) (xs : List (Int × Int)) : Int × Int := xs.foldl (fun a y => if ltP y a = true then y else a) x
def gExt (mx : Bool) (o : OV) : Option Res := match lkids o with
  | some ds => match pairsD ds with
    | some (x :: xs) => some (.fr (prD2 (if mx then maxP x xs else minP x xs)))
    | _ => none
  | none => none
theorem toD_pair (p : Int × Int) : PySem.W.Datum.toD p = prD2 p := rfl
def rExtP (K : PySem.W.Frag) (mx : Bool) : List V → Hp → VK → Prop := fun xs H Q => ∃ (l : Addr) (vs : List V) (x : Int × Int) (ps : List (Int × Int)), xs = [.ref l] ∧ SqL K H l vs ∧ DpAll K H vs ((x :: ps).map prD2) ∧
  ∀ (i : Nat) v, vs[i]? = some v → ((x :: ps).map prD2)[i]? = some (prD2 (if mx then maxP x ps else minP x ps)) → Q v H
theorem plain_lay (ps : List (Int × Int)) : PyData.canLayAll0 (ps.map prD2) = true := by
  induction ps with
  | nil => simp [PyData.canLayAll0]
  | cons p ps ih => simp [PyData.canLayAll0, PyData.canLay0, prD2, ih]
theorem cr_extP (mx : Bool) (hc : X.calm = true) (hu : X.A.units + 64 < cLine) : CallR X (.builtin (if mx then "max" else "min")) (rExtP X.K mx) := by
  intro pins s σ H vs us Q I r h
  obtain ⟨l, xs, x, ps, rfl, hl, hd, q⟩ := h
  rw [Vals.ref1 r]
  obtain ⟨zs, rv, pl, hz⟩ := I.list hl
  obtain ⟨as, rd⟩ := Dp.readsAll I _ _ _ hd rv
  have hold : PySem.W.HoldAll s.heap zs.toArray.toList (x :: ps) := ⟨as, rd⟩
  have fin : ∀ (i : Nat) (u : Value) (h' : Heap) (tk : Nat) (y : Int × Int), zs.toArray[i]? = some u → PySem.W.Holds h' u y → (∀ b o, s.heap.get? b = some o → h'.get? b = some o) → y = (if mx then maxP x ps else minP x ps) → EP X pins σ Q u { s with heap := h', toks := tk } := by
    intro i u h' tk y hi hh hk ey
    have hi' : zs[i]? = some u := by simpa using hi
    have hil : i < zs.length := (List.getElem?_eq_some_iff.mp hi').1
    have rl := rv.length
    obtain ⟨v, ev⟩ : ∃ v, xs[i]? = some v := ⟨xs[i]'(by omega), List.getElem?_eq_getElem _⟩
    obtain ⟨u', eu, ru⟩ := rv.get ev
    rw [hi'] at eu
    cases eu
    refine ⟨v, H, I.kept hk, ru, q i v ev ?_⟩
    -- the datum at i is the one that was found
    have hdl : ∀ {vs : List V} {ds : List PyData}, DpAll X.K H vs ds → vs.length = ds.length := by
      intro vs ds h
      induction ds generalizing vs with
      | nil => cases h; rfl
      | cons d ds ih => cases h with | cons _ t => simp [ih t]
    have hget : ∀ {vs : List V} {ds : List PyData} (i : Nat) {v : V}, DpAll X.K H vs ds → vs[i]? = some v → ∃ d, ds[i]? = some d ∧ Dp X.K H v d := by
      intro vs ds i v h
      induction ds generalizing vs i with
      | nil => cases h; intro e; simp at e
      | cons d ds ih =>
        cases h with
        | cons g t =>
          cases i with
          | zero => intro e; simp at e; subst e; exact ⟨d, rfl, g⟩
          | succ i => intro e; obtain ⟨d', h1, h2⟩ := ih i t (by simpa using e); exact ⟨d', by simpa using h1, h2⟩
    obtain ⟨d, hdi, hdp⟩ := hget i hd ev
    rw [hdi]
    obtain ⟨as1, r1⟩ := Dp.reads I d v u hdp ru
    obtain ⟨as2, r2⟩ := hh
    have r1' := Reads.keeps hk r1
    have lay : d.canLay0 = true := by
      have := plain_lay (x :: ps)
      have hm := List.mem_of_getElem? hdi
      obtain ⟨p, _, rfl⟩ := List.mem_map.mp hm
      simp [prD2, PyData.canLay0, PyData.canLayAll0]
    have e := SeqAt.Reads.unique d _ u as1 as2 lay r1' r2
    rw [e, toD_pair, ey]
  cases mx with
  | true =>
    have hdep : PySem.W.Datum.depth (Int × Int) ≤ 63 := by decide
    refine PySem.W.max_list_datum (α := Int × Int) (I.ok.hd hc) pl.isList hold (by omega) fun i u h' tk hi hh hk => fin i u h' tk _ hi hh hk rfl
  | false =>
    have hdep : PySem.W.Datum.depth (Int × Int) ≤ 63 := by decide
    refine PySem.W.min_list_datum (α := Int × Int) (I.ok.hd hc) pl.isList hold (by omega) fun i u h' tk hi hh hk => fin i u h' tk _ hi hh hk rfl
end
end Qz
namespace Qz
open PySem PySem.Spec PyProof.Rows L2
/-! ### sums, greatest and least, sorted, list(range(n)), names of the module -/
theorem preSum_take (ns : List Int) : ∀ n, n ≤ ns.length → preSum (fun i => ns.getD i 0) n = (ns.take n).sum
  | 0, _ => by simp [preSum]
  | n + 1, h => by
    have ih := preSum_take ns n (by omega)
    have e : ns.take (n + 1) = ns.take n ++ [ns[n]] := by rw [List.take_succ_eq_append_getElem (by omega)]
    rw [e, List.sum_append, ← ih]
    have g : ns.getD n 0 = ns[n] := by simp [List.getD, List.getElem?_eq_getElem (show n < ns.length by omega)]
    show preSum (fun i => ns.getD i 0) n + ns.getD n 0 = _
    rw [g]; simp
theorem sum_tup {prog : Program} {w : World} {A : Around} {E : Value → Shared → Prop} {s : Shared} {l : Addr} {its : List Value} {ns : List Int} {Q : Value → Shared → Prop} (hh : A.handled = none) (hl : s.heap.IsTuple l its.toArray) (hi : IntsAre its ns)
    (h : ∀ h' tk t', (∀ b o, s.heap.get? b = some o → h'.get? b = some o) → Q (.int ns.sum t') { s with heap := h', toks := tk }) : wpAny (model prog w) A (call (.builtin "sum") [.ref l]) Q E s := by
  have hlt : l < s.heap.objs.size := by obtain ⟨_, e, _⟩ := hl; exact Heap.lt_size e
  have hlen := hi.length
  refine call_sum_walkG (wpAny_pyIter_tuple hl ⟨_, _, _, _, _, _, fun i => ns.getD i 0, rfl, Walks.tuple (A := A.in1) hh s.heap.objs.size l (Nat.ne_of_lt hlt) its.toArray, ⟨⟨_, Heap.get?_push_size _ rfl, rfl, rfl⟩, hl.push _⟩, fun b hb => ?_, fun i v hv => ?_, fun h' tk t' hk => ?_⟩)
  · show b < (s.heap.push _).objs.size
    rw [Heap.size_push]
    simp at hb
    rcases hb with rfl | rfl
    · exact Nat.lt_succ_self _
    · exact Nat.lt_succ_of_lt hlt
  · have hv' : its[i]? = some v := by simpa using hv
    have hil : i < its.length := (List.getElem?_eq_some_iff.mp hv').1
    have : ∀ {its : List Value} {ns : List Int} {i : Nat} {v : Value}, IntsAre its ns → its[i]? = some v → ∃ t, v = .int (ns.getD i 0) t := by
      intro its ns i v h e
      induction h generalizing i with
      | nil => simp at e
      | cons _ _ _ ih =>
        cases i with
        | zero => simp at e; subst e; exact ⟨_, rfl⟩
        | succ i => obtain ⟨t, et⟩ := ih (by simpa using e); exact ⟨t, by simpa using et⟩
    exact this hi hv'
  · have e1 : its.toArray.size = ns.length := by simp [hlen]
    rw [e1, preSum_take ns _ (Nat.le_refl _), List.take_length]
    exact h h' tk t' fun b o e => hk b o (fun hm => by
      exact Nat.ne_of_lt (Heap.lt_size e) (List.mem_singleton.mp hm)) (Heap.get?_push_of_some _ e)
section
variable {X : Cx} {a b c : Expr} {fa fb fc : FE} {pos : Pos}
def rSumT (K : PySem.W.Frag) : List V → Hp → VK → Prop := fun vs H Q => ∃ (a : Addr) (ns : List Int), vs = [V.ref a] ∧ SqT K H a (ns.map V.int) ∧ Q (.int ns.sum) H
theorem cr_sumT (hc : X.calm = true) : CallR X (.builtin "sum") (rSumT X.K) := by
  intro pins s σ H vs us Q I r h
  obtain ⟨a, ns, rfl, hs, q⟩ := h
  obtain ⟨its, rv, pt, _⟩ := I.tuple hs
  rw [Vals.ref1 r]
  exact sum_tup (I.ok.hd hc) (show s.heap.IsTuple a its.toArray from pt) rv.ints fun h' tk t' hk => ⟨.int _, H, I.kept hk, ⟨_, rfl⟩, q⟩
def gSum (o : OV) : Option Res := (kids o).bind fun p => (intsD p.2).map fun ns => .fr (.int ns.sum)
theorem boot_sumB : bootBuiltins "sum" = some (.builtin "sum") := by decide +kernel
theorem d_sum {p : Pos} (hc : X.calm = true) (hg : Gl X "sum") (hm : X.mg "sum" = none) (ha : PEd X a fa) (he : starEach [a] X.env = (false, eval a X.env) :: starEach [] X.env := by rfl) : PEd X (.Call (.Name "sum" p) [a] [] pos) (f1 gSum fa) :=
  mkCB ((cr_sum hc).or (cr_sumT hc)) hg hm boot_sumB (fun R H v a A d Q s ha e q => by
    unfold gSum at e
    obtain ⟨⟨k, ds⟩, e1, e2⟩ := Option.bind_eq_some_iff.mp e
    obtain ⟨ns, e3, e4⟩ := Option.map_eq_some_iff.mp e2
    subst e4
    obtain ⟨l, vs, rfl, rr, h⟩ := ha.kd s e1
    have := intsD_rp rr e3
    subst this
    rcases h with ⟨_, h⟩ | ⟨_, h⟩
    · exact .inl ⟨l, ns, rfl, h, q.1 _ (.int _)⟩
    · exact .inr ⟨l, ns, rfl, h, q.1 _ (.int _)⟩) ha (he := he)
def mxI (mx : Bool) (x : Int) (xs : List Int) : Int := xs.foldl (fun a y => if mx then (if a < y then y else a) else (if y < a then y else a)) x
theorem mxI_spec (mx : Bool) : ∀ (xs : List Int) (x : Int), mxI mx x xs ∈ x :: xs ∧ ∀ y ∈ x :: xs, if mx then y ≤ mxI mx x xs else mxI mx x xs ≤ y
  | [], x => by cases mx <;> simp [mxI]
  | z :: zs, x => by
    have ih := mxI_spec mx zs (if mx then (if x < z then z else x) else (if z < x then z else x))
    have e : mxI mx x (z :: zs) = mxI mx (if mx then (if x < z then z else x) else (if z < x then z else x)) zs := by cases mx <;> rfl
    rw [e]
    cases mx with
    | true =>
      simp only [if_true] at ih ⊢
      by_cases h : x < z
      · simp only [h, if_true] at ih ⊢
        refine ⟨List.mem_cons_of_mem _ ih.1, fun y hy => ?_⟩
        rcases List.mem_cons.mp hy with rfl | hy
        · have := ih.2 z (by simp); omega
        · exact ih.2 y hy
      · simp only [h, if_false] at ih ⊢
        refine ⟨?_, fun y hy => ?_⟩
        · rcases List.mem_cons.mp ih.1 with h1 | h1
          · rw [h1]; simp
          · simp [h1]
        · rcases List.mem_cons.mp hy with rfl | hy
          · exact ih.2 y (by simp)
          · rcases List.mem_cons.mp hy with rfl | hy
            · have := ih.2 x (by simp); omega
            · exact ih.2 y (by simp [hy])
    | false =>
      simp only [Bool.false_eq_true, if_false] at ih ⊢
      by_cases h : z < x
      · simp only [h, if_true] at ih ⊢
        refine ⟨List.mem_cons_of_mem _ ih.1, fun y hy => ?_⟩
        rcases List.mem_cons.mp hy with rfl | hy
        · have := ih.2 z (by simp); omega
        · exact ih.2 y hy
      · simp only [h, if_false] at ih ⊢
        refine ⟨?_, fun y hy => ?_⟩
        · rcases List.mem_cons.mp ih.1 with h1 | h1
          · rw [h1]; simp
          · simp [h1]
        · rcases List.mem_cons.mp hy with rfl | hy
          · exact ih.2 y (by simp)
          · rcases List.mem_cons.mp hy with rfl | hy
            · have := ih.2 x (by simp); omega
            · exact ih.2 y (by simp [hy])
/-- the greatest or the least: of numbers, of pairs -/
def gMx (mx : Bool) (o : OV) : Option Res := match lkids o with
  | some ds => match intsD ds with
    | some (x :: xs) => some (.fr (.int (mxI mx x xs)))
    | _ => match pairsD ds with
      | some (x :: xs) => some (.fr (prD2 (if mx then maxP x xs else minP x xs)))
      | _ => none
  | none => none
theorem gMx_run {G : Gp} {mx : Bool} (R H v a A d Q) (s : Same R H) (ha : Ow G R H v a A) (e : gMx mx a = some d) (q : New R H Q d) : (if mx then rMax G.K [v] H Q else rMin G.K [v] H Q) ∨ rExtP G.K mx [v] H Q := by
  unfold gMx at e
  split at e
  · rename_i ds ek
    obtain ⟨l, vs, rfl, hl, rr⟩ := ha.lk s ek
    split at e
    · rename_i x xs ei
      cases e
      have := intsD_rp rr ei
      subst this
      left
      have sp := mxI_spec mx xs x
      cases mx with
      | true =>
        refine ⟨l, x :: xs, rfl, SqL.of hl, by simp, fun m h1 h2 => ?_⟩
        have : m = mxI true x xs := by
          have a1 := h2 _ sp.1
          have a2 := sp.2 m h1
          simp only [if_true] at a2
          omega
        subst this
        exact q.1 _ (.int _)
      | false =>
        refine ⟨l, x :: xs, rfl, SqL.of hl, by simp, fun m h1 h2 => ?_⟩
        have : m = mxI false x xs := by
          have a1 := h2 _ sp.1
          have a2 := sp.2 m h1
          simp only [Bool.false_eq_true, if_false] at a2
          omega
        subst this
        exact q.1 _ (.int _)
    · split at e
      · rename_i x xs ep
        cases e
        have := pairsD_eq ep
        subst this
        right
        refine ⟨l, vs, x, xs, rfl, SqL.of hl, (rr.mono s).dp, fun i v hv hd => ?_⟩
        obtain ⟨d', h1, h2⟩ := rr.getV hv
        rw [hd] at h1
        cases h1
        exact q.1 v h2
      · cases e
  · cases e
theorem d_max {p : Pos} (hc : X.calm = true) (hu : X.A.units + 64 < cLine) (hg : Gl X "max") (hm : X.mg "max" = none) (ha : PEd X a fa) (he : starEach [a] X.env = (false, eval a X.env) :: starEach [] X.env := by rfl) : PEd X (.Call (.Name "max" p) [a] [] pos) (f1 (gMx true) fa) :=
  mkCB (id := "max") ((cr_max hc).or (cr_extP true hc hu)) hg hm (by decide +kernel) (fun R H v a A d Q s ha e q => gMx_run R H v a A d Q s ha e q) ha (he := he)
theorem d_min {p : Pos} (hc : X.calm = true) (hu : X.A.units + 64 < cLine) (hg : Gl X "min") (hm : X.mg "min" = none) (ha : PEd X a fa) (he : starEach [a] X.env = (false, eval a X.env) :: starEach [] X.env := by rfl) : PEd X (.Call (.Name "min" p) [a] [] pos) (f1 (gMx false) fa) :=
  mkCB (id := "min") ((cr_min hc).or (cr_extP false hc hu)) hg hm (by decide +kernel) (fun R H v a A d Q s ha e q => gMx_run R H v a A d Q s ha e q) ha (he := he)
/-! sorted, of numbers -/
def insS (k : Int) : List Int → List Int
  | [] => [k]
  | x :: xs => if k ≤ x then k :: x :: xs else x :: insS k xs
def srtI (ns : List Int) : List Int := ns.foldr insS []
theorem insS_perm (k : Int) : ∀ xs : List Int, (insS k xs).Perm (k :: xs)
  | [] => .refl _
  | x :: xs => by
    unfold insS
    split
    · exact .refl _
    · exact ((insS_perm k xs).cons x).trans (.swap k x xs)
theorem srtI_perm (ns : List Int) : (srtI ns).Perm ns := by
  unfold srtI
  induction ns with
  | nil => exact .refl _
  | cons n ns ih => rw [List.foldr_cons]; exact (insS_perm n _).trans (ih.cons n)
theorem insS_up {k : Int} : ∀ {xs : List Int}, xs.Pairwise (· ≤ ·) → (insS k xs).Pairwise (· ≤ ·)
  | [], _ => by simp [insS]
  | x :: xs, h => by
    have h1 := List.pairwise_cons.mp h
    unfold insS
    split
    · rename_i hk
      refine List.pairwise_cons.mpr ⟨fun y hy => ?_, h⟩
      rcases List.mem_cons.mp hy with rfl | hy
      · exact hk
      · have := h1.1 y hy; omega
    · rename_i hk
      refine List.pairwise_cons.mpr ⟨fun y hy => ?_, insS_up h1.2⟩
      rcases List.mem_cons.mp ((insS_perm k xs).mem_iff.mp hy) with rfl | hy
      · omega
      · exact h1.1 y hy
theorem srtI_up (ns : List Int) : (srtI ns).Pairwise (· ≤ ·) := by
  unfold srtI
  induction ns with
  | nil => exact List.Pairwise.nil
  | cons n ns ih => rw [List.foldr_cons]; exact insS_up ih
theorem up_perm : ∀ {xs ys : List Int}, xs.Perm ys → xs.Pairwise (· ≤ ·) → ys.Pairwise (· ≤ ·) → xs = ys
  | [], ys, h, _, _ => by have := h.length_eq; cases ys <;> simp_all
  | x :: xs, [], h, _, _ => by have := h.length_eq; simp at this
  | x :: xs, y :: ys, h, h1, h2 => by
    have p1 := List.pairwise_cons.mp h1
    have p2 := List.pairwise_cons.mp h2
    have e : x = y := by
      have a1 := h.mem_iff.mp (show x ∈ x :: xs by simp)
      have a2 := h.mem_iff.mpr (show y ∈ y :: ys by simp)
      rcases List.mem_cons.mp a1 with q | q
      · exact q
      · rcases List.mem_cons.mp a2 with q2 | q2
        · exact q2.symm
        · have := p2.1 x q; have := p1.1 y q2; omega
    subst e
    rw [up_perm h.cons_inv p1.2 p2.2]
def gSorted (o : OV) : Option Res := (lkids o).bind fun ds => (intsD ds).map fun ns => .nl ((srtI ns).map .int)
theorem d_sorted {p : Pos} (hg : Gl X "sorted") (hm : X.mg "sorted" = none) (ha : PEd X a fa) (he : starEach [a] X.env = (false, eval a X.env) :: starEach [] X.env := by rfl) : PEd X (.Call (.Name "sorted" p) [a] [] pos) (f1 gSorted fa) :=
  mkCB cr_sortedI hg hm (by decide +kernel) (fun R H v a A d Q s ha e q => by
    unfold gSorted at e
    obtain ⟨ds, e1, e2⟩ := Option.bind_eq_some_iff.mp e
    obtain ⟨ns, e3, e4⟩ := Option.map_eq_some_iff.mp e2
    subst e4
    obtain ⟨l, vs, rfl, hl, rr⟩ := ha.lk s e1
    have := intsD_rp rr e3
    subst this
    refine ⟨l, ns, rfl, SqL.of hl, fun ms p h1 h2 hp => ?_⟩
    have : ms = srtI ns := up_perm (h1.trans (srtI_perm ns).symm) h2 (srtI_up ns)
    subst this
    exact q p _ hp (rpl_ints _)) ha (he := he)
/-! list(range(n)) -/
noncomputable def gListRg : OV → Option Res
  | .fz (.int n) => if sm (0 ≤ n ∧ n ≤ 16777216) then some (.nl (rgD n.toNat)) else none
  | _ => none
noncomputable def gTupRg : OV → Option Res
  | .fz (.int n) => if sm (0 ≤ n ∧ n ≤ 16777216) then some (.fr (.tuple (rgD n.toNat))) else none
  | _ => none
theorem rgV_rp {R : Hp} (n : Int) : RpL R (rgV 0 n) (rgD n.toNat) := by
  unfold rgV rgD
  rw [show (n - 0).toNat = n.toNat by rw [Int.sub_zero]]
  have : ∀ xs : List Nat, RpL R (xs.map fun i => V.int (0 + (i : Nat))) (xs.map fun (i : Nat) => .int (i : Int)) := by
    intro xs
    induction xs with
    | nil => exact .nil
    | cons x xs ih =>
      refine .cons ?_ ih
      show Rp R (V.int (0 + (x : Nat))) (.int (x : Int))
      rw [Int.zero_add]
      exact .int _
  exact this _
theorem d_listRg {p p2 q : Pos} (hc : X.calm = true) (hg : Gl X "list") (hm : X.mg "list" = none) (hg2 : Gl X "range") (hm2 : X.mg "range" = none) (ha : PEd X a fa) (na : starEach [a] X.env = (false, eval a X.env) :: starEach [] X.env := by rfl)
    (nb : starEach [.Call (.Name "range" p2) [a] [] q] X.env = (false, eval (.Call (.Name "range" p2) [a] [] q) X.env) :: starEach [] X.env := by rfl) : PEd X (.Call (.Name "list" p) [.Call (.Name "range" p2) [a] [] q] [] pos) (f1 gListRg fa) :=
  imp (pe_listRg hc hg hm (prg_1 hg2 hm2 ha na) nb) (run1 (k := fun x H1 Q => ∃ n, x = .int n ∧ RgOk 0 n ∧ ∀ q, H1 q = none → Q (.ref q) (upd H1 q (.lst (rgV 0 n)))) fun R H v a A d Q s ha e q => by
    unfold gListRg at e
    split at e
    · rename_i n
      split at e
      · rename_i h
        replace h := sm_iff.mp h
        cases e
        cases ha.int
        exact ⟨n, rfl, RgOk.of_le (by omega) h.2 (by omega) h.1, fun p hp => q p _ hp (rgV_rp n)⟩
      · cases e
    · cases e)
theorem d_tupRg {p p2 q : Pos} (hc : X.calm = true) (hg : Gl X "tuple") (hm : X.mg "tuple" = none) (hg2 : Gl X "range") (hm2 : X.mg "range" = none) (ha : PEd X a fa) (na : starEach [a] X.env = (false, eval a X.env) :: starEach [] X.env := by rfl)
    (nb : starEach [.Call (.Name "range" p2) [a] [] q] X.env = (false, eval (.Call (.Name "range" p2) [a] [] q) X.env) :: starEach [] X.env := by rfl) : PEd X (.Call (.Name "tuple" p) [.Call (.Name "range" p2) [a] [] q] [] pos) (f1 gTupRg fa) :=
  imp (pe_tupRg hc hg hm (prg_1 hg2 hm2 ha na) nb) (run1 (k := fun x H1 Q => ∃ n, x = .int n ∧ RgOk 0 n ∧ ∀ q, H1 q = none → Q (.ref q) (upd H1 q (.tup (rgV 0 n)))) fun R H v a A d Q s ha e q => by
    unfold gTupRg at e
    split at e
    · rename_i n
      split at e
      · rename_i h
        replace h := sm_iff.mp h
        cases e
        cases ha.int
        exact ⟨n, rfl, RgOk.of_le (by omega) h.2 (by omega) h.1, fun p hp => q.2 p _ _ rfl hp (rgV_rp n)⟩
      · cases e
    · cases e)
/-! a number that the module names -/
theorem d_globI {x : Str} {i : Int} {t : Tok} (hg : Gl X x) (hm : X.mg x = some (.int i t)) (hd : (x == ("__debug__" : Str)) = false := by decide) : PEd X (.Name x pos) (f0 (some (.fr (.int i)))) :=
  d_c (pe_glob (v := .int i) hg hm ⟨t, rfl⟩ hd) fun _ => .int i
end
end Qz
namespace Qz
open PySem PySem.Spec PyProof.Rows L2
/-! ### the law's end -/
theorem scr_of {K : PySem.W.Frag} {H : Hp} {a : Addr} {vs : List V} (hO : Only H) (h : SqL K H a vs) : ScrL K H a vs := by
  rcases h with (h | h) | h
  · rcases hO a with q | ⟨o, xs, q⟩
    · rw [q] at h; cases h
    · rw [q] at h; cases h
  · exact .inl h
  · exact .inr h
def scrO (ns : List Int) : OV := .nd .scr (ns.map fun i => .fz (.int i))
theorem law_end {K : PySem.W.Frag} {P : Program} {w : World} {m : List OV → Option OV} (ht : ∀ ns : List Int, ns.length ≤ 63 → m [scrO ns] = some (.fz (.bool true))) {H : Hp} {a : Addr} {ns : List Int} (hl : ns.length ≤ 63) (hO : Only H) (hS : SqL K H a (ns.map V.int)) :
    spP ⟨K, P, w⟩ 1 m [.ref a] H (fun v _ => v = .bl true) fun _ _ _ => False := by
  have hsc := scr_of hO hS
  have own : OwL ⟨K, P, w⟩ (fun _ => none) H (ns.map V.int) (ns.map fun i => OV.fz (.int i)) [] := by
    have := OwL.of_rp (G := ⟨K, P, w⟩) (H := H) (rpl_ints (R := fun _ => none) ns)
    rw [List.map_map] at this
    exact this
  have hw : Ow ⟨K, P, w⟩ (fun _ => none) H (.ref a) (scrO ns) [] := .nd (B := []) (A := []) (.scr hsc) own
  refine ⟨rfl, fun _ => none, ⟨H, H, Same.refl H⟩, [scrO ns], rfl, ⟨rfl, fun a o q => (by cases q), Same.refl H, ⟨fun _ _ _ => rfl, fun _ _ _ q => (by cases q)⟩, fun _ => [], [], fun i sv e => ?_, fun _ _ => rfl, fun _ => List.nodup_nil, fun _ _ _ h => (by simp at h), fun _ _ h => (by simp at h), .nil, List.nodup_nil, fun _ h => (by simp at h)⟩, _, ht ns hl, fun R' v H' _ x => ?_⟩
  · match i, e with
    | 0, e =>
      have : sv = .bo (scrO ns) := by simpa using e.symm
      subst this
      exact ⟨rfl, .ref a, [], rfl, hw.frame (frz_same un_F) fun b _ o q => un_F b o q⟩
    | i + 1, e => simp at e
  · obtain ⟨_, _, _, _, _, _, _, h6, _⟩ := x.ex
    have := h6.one'
    exact this.bl
end Qz
namespace Qz
open PySem PySem.Spec PyProof.Rows L2
/-! ### running the functions by simp -/
section
variable {L M : Sta} {fa fb fc fe fo fi : FE} {t ta tb : FT} {f g : FS}
@[simp] theorem f0_ap {d : Res} : f0 (some d) L = some (.ow d.ov, L) := rfl
@[simp] theorem ov_fr {d : PyData} : Res.ov (.fr d) = .fz d := rfl
@[simp] theorem ov_nl {ds : List PyData} : Res.ov (.nl ds) = .ls (ds.map .fz) := rfl
@[simp] theorem f1_ap {g : OV → Option Res} : f1 g fa L = match fa L with
  | some (a, M1) => match con M1 a with
    | some x => match g x with
      | some d => some (.ow d.ov, M1)
      | none => none
    | none => none
  | none => none := rfl
@[simp] theorem f2_ap {g : OV → OV → Option Res} : f2 g fa fb L = match fa L with
  | some (a, M1) => match fb M1 with
    | some (b, M2) => match con M2 a, con M2 b with
      | some x, some y => match g x y with
        | some d => some (.ow d.ov, M2)
        | none => none
      | _, _ => none
    | none => none
  | none => none := rfl
@[simp] theorem fName_ap {i : Nat} : fName i L = match L[i]? with
  | some (.ow _) => some (.rf i, L)
  | some (.bo _) => some (.rf i, L)
  | some (.fb _) => some (.rf i, L)
  | some (.rf k) => some (.rf k, L)
  | _ => none := rfl
@[simp] theorem con_ow {o : OV} : con L (.ow o) = some o := rfl
@[simp] theorem con_rf {k : Nat} : con L (.rf k) = match L[k]? with
  | some (.ow o) => some o
  | some (.bo o) => some o
  | some (.fb o) => some o
  | _ => none := rfl
@[simp] theorem fB_ap : fB fa L = match fa L with
  | some (r, M) => match con M r with
    | some (.fz (.bool b)) => some (b, M)
    | _ => none
  | none => none := rfl
@[simp] theorem fAnd_ap : fAnd ta tb L = match ta L with
  | some (true, M) => tb M
  | some (false, M) => some (false, M)
  | none => none := rfl
@[simp] theorem fOr_ap : fOr ta tb L = match ta L with
  | some (true, M) => some (true, M)
  | some (false, M) => tb M
  | none => none := rfl
@[simp] theorem fNot_ap : fNot ta L = match ta L with
  | some (b, M) => some (!b, M)
  | none => none := rfl
@[simp] theorem fAndV_ap : fAndV fa fb L = match fB fa L with
  | some (true, M) => fb M
  | some (false, M) => some (.ow (.fz (.bool false)), M)
  | none => none := rfl
@[simp] theorem fOrV_ap : fOrV fa fb L = match fB fa L with
  | some (true, M) => some (.ow (.fz (.bool true)), M)
  | some (false, M) => fb M
  | none => none := rfl
@[simp] theorem fNotV_ap : fNotV fa L = match fB fa L with
  | some (b, M) => some (.ow (.fz (.bool (!b))), M)
  | none => none := rfl
@[simp] theorem fIf_ap : fIf t fa fb L = match t L with
  | some (true, M) => fa M
  | some (false, M) => fb M
  | none => none := rfl
@[simp] theorem fYes_ap : fYes L = some (true, L) := rfl
@[simp] theorem fChain_ap : fChain fa fb fc L = match fa L with
  | some (a, M1) => match fb M1 with
    | some (b, M2) => match con M2 a, con M2 b with
      | some (.fz (.int i)), some (.fz (.int j)) => if i ≤ j then (match fc M2 with
          | some (c, M3) => match con M3 b, con M3 c with
            | some (.fz (.int j')), some (.fz (.int k)) => some (.ow (.fz (.bool (decide (j' ≤ k)))), M3)
            | _, _ => none
          | none => none) else some (.ow (.fz (.bool false)), M2)
      | _, _ => none
    | none => none
  | none => none := rfl
@[simp] theorem foN_ap : foN L = some (none, L) := rfl
@[simp] theorem foS_ap : foS fa L = match fa L with
  | some (r, M) => match con M r with
    | some (.fz (.int i)) => some (some i, M)
    | _ => none
  | none => none := rfl
@[simp] theorem fSl_ap {fl fh : FO} : fSl fa fl fh L = match fa L with
  | some (a, M1) => match fl M1 with
    | some (lo, M2) => match fh M2 with
      | some (hi, M3) => match con M3 a with
        | some o => match kids o with
          | some (true, ds) => some (.ow (.fz (.tuple (cutD ds lo hi))), M3)
          | some (false, ds) => some (.ow (.ls ((cutD ds lo hi).map .fz)), M3)
          | none => none
        | none => none
      | none => none
    | none => none
  | none => none := rfl
@[simp] theorem fArgs_nil : fArgs [] L = some ([], L) := rfl
@[simp] theorem fArgs_cons {fs : List FE} : fArgs (fa :: fs) L = match fa L with
    | some (r, M) => match tk M r with
      | some (o, M') => match fArgs fs M' with
        | some (os, M'') => some (o :: os, M'')
        | none => none
      | none => none
    | none => none := rfl
@[simp] theorem tk_ow {o : OV} : tk L (.ow o) = some (o, L) := rfl
@[simp] theorem tk_rf {k : Nat} : tk L (.rf k) = match L[k]? with
    | some (.ow (.fz d)) => some (.fz d, L)
    | some (.bo (.fz d)) => some (.fz d, L)
    | some (.ow o) => match o.dat with
      | some d => some (.fz d, L.set k (.ow (.fz d)))
      | none => none
    | _ => none := rfl
@[simp] theorem dat_fz {d : PyData} : OV.dat (.fz d) = some d := rfl
@[simp] theorem dat_ls {os : List OV} : OV.dat (.nd .lst os) = (OV.dats os).map .list := by rw [OV.dat]
@[simp] theorem dats_nil : OV.dats [] = some [] := by rw [OV.dats]
@[simp] theorem dats_cons {o : OV} {os : List OV} : OV.dats (o :: os) = match o.dat, OV.dats os with
    | some d, some ds => some (d :: ds)
    | _, _ => none := by rw [OV.dats] <;> rfl
@[simp] theorem dats_fz (ds : List PyData) : OV.dats (ds.map .fz) = some ds := by
  induction ds with
  | nil => simp
  | cons d ds ih => simp [ih]
@[simp] theorem dats_fzc {α : Type} (e : α → PyData) (xs : List α) : OV.dats (xs.map fun x => .fz (e x)) = some (xs.map e) := by
  induction xs with
  | nil => simp
  | cons d ds ih => simp [ih]
@[simp] theorem dats_comp {α : Type} (e : α → PyData) (xs : List α) : OV.dats (xs.map (OV.fz ∘ e)) = some (xs.map e) := dats_fzc e xs
@[simp] theorem dats_append (os ps : List OV) : OV.dats (os ++ ps) = match OV.dats os, OV.dats ps with
    | some d, some ds => some (d ++ ds)
    | _, _ => none := by
  induction os with
  | nil => simp only [List.nil_append, dats_nil]; cases OV.dats ps <;> rfl
  | cons o os ih =>
    simp only [List.cons_append, dats_cons, ih]
    cases o.dat <;> cases OV.dats os <;> cases OV.dats ps <;> rfl
@[simp] theorem fTup_ap {fs : List FE} : fTup fs L = match fArgs fs L with
  | some (os, M) => match OV.dats os with
    | some ds => if ds.length ≤ sizeLine then some (.ow (.fz (.tuple ds)), M) else none
    | none => none
  | none => none := rfl
@[simp] theorem fLst_ap {fs : List FE} : fLst fs L = match fArgs fs L with
  | some (os, M) => if os.length ≤ sizeLine then some (.ow (.ls os), M) else none
  | none => none := rfl
@[simp] theorem fArgsP_nil : fArgsP [] L = some ([], L) := rfl
@[simp] theorem fArgsP_cons {fs : List FE} : fArgsP (fa :: fs) L = match fa L with
    | some (r, M) => match fArgsP fs M with
      | some (rs, M') => some (r :: rs, M')
      | none => none
    | none => none := rfl
@[simp] theorem cons_nil : cons L [] = some [] := rfl
@[simp] theorem cons_cons {r : SV} {rs : List SV} : cons L (r :: rs) = match con L r, cons L rs with
    | some o, some os => some (o :: os)
    | _, _ => none := rfl
@[simp] theorem fCall_ap {m : List OV → Option OV} {fs : List FE} : fCall m fs L = match fArgsP fs L with
  | some (rs, M) => match cons M rs with
    | some os => match m os with
      | some r => some (.ow r, M)
      | none => none
    | none => none
  | none => none := by rw [fCall] <;> rfl
@[simp] theorem fCallI_ap {j : Nat} {m : List OV → Option (OV × OV)} {fs : List FE} : fCallI j m fs L = match fArgsP fs L with
  | some (rs, M) => match rs[j]? with
    | some (.rf k) => match M[k]? with
      | some (.ow _) => if (rs.eraseIdx j).all (fun r => match r with | .rf k' => k' != k | _ => true) then (match cons M rs with
          | some os => match m os with
            | some (r, o') => some (.ow r, M.set k (.ow o'))
            | none => none
          | none => none) else none
      | _ => none
    | _ => none
  | none => none := by rw [fCallI] <;> rfl
@[simp] theorem lstOf_ap {k : Nat} : lstOf L k = match L[k]? with
  | some (.ow (.nd .lst os)) => some os
  | _ => none := rfl
@[simp] theorem isL_ap {k : Nat} : isL L k = match L[k]? with
  | some (.ow (.nd .lst _)) => true
  | some (.ow (.fz (.list _))) => true
  | some (.bo (.nd .lst _)) => true
  | some (.bo (.fz (.list _))) => true
  | some (.fb (.nd .lst _)) => true
  | some (.fb (.fz (.list _))) => true
  | _ => false := by
  unfold isL conI
  cases L[k]? with
  | none => rfl
  | some sv => cases sv with
    | no => rfl
    | rf _ => rfl
    | ow o => cases o with
      | fz d => cases d <;> rfl
      | fo o => rfl
      | nd k os => cases k <;> rfl
    | bo o => cases o with
      | fz d => cases d <;> rfl
      | fo o => rfl
      | nd k os => cases k <;> rfl
    | fb o => cases o with
      | fz d => cases d <;> rfl
      | fo o => rfl
      | nd k os => cases k <;> rfl
@[simp] theorem fApp_ap : fApp fa fe L = match fa L with
  | some (.rf k, M) => if isL M k then (match fArgs [fe] M with
    | some ([o], M') => match lstOf M' k with
      | some os => if os.length < sizeLine then some (.ow (.fz .none), M'.set k (.ow (.ls (os ++ [o])))) else none
      | none => none
    | _ => none) else none
  | _ => none := rfl
@[simp] theorem fExt_ap : fExt fa fe L = match fa L with
  | some (.rf k, M) => if isL M k then (match fArgs [fe] M with
    | some ([.nd .lst ps], M') => match lstOf M' k with
      | some os => if os.length + ps.length ≤ sizeLine then some (.ow (.fz .none), M'.set k (.ow (.ls (os ++ ps)))) else none
      | none => none
    | some ([.fz (.list ds)], M') => match lstOf M' k with
      | some os => if os.length + ds.length ≤ sizeLine then some (.ow (.fz .none), M'.set k (.ow (.ls (os ++ ds.map .fz)))) else none
      | none => none
    | _ => none) else none
  | _ => none := rfl
@[simp] theorem fPop_ap : fPop fa L = match fa L with
  | some (.rf k, M) => if isL M k then (match lstOf M k with
    | some os => match os[os.length - 1]? with
      | some o => some (.ow o, M.set k (.ow (.ls os.dropLast)))
      | none => none
    | none => none) else none
  | _ => none := rfl
@[simp] theorem fPopAt_ap : fPopAt fa fe L = match fa L with
  | some (.rf k, M) => if isL M k then (match fArgs [fe] M with
    | some ([.fz (.int i)], M') => match lstOf M' k with
      | some os => match ixN os.length i with
        | some j => match os[j]? with
          | some o => if sm (-(2 ^ 63) ≤ i ∧ i < 2 ^ 63) then some (.ow o, M'.set k (.ow (.ls (os.eraseIdx j)))) else none
          | none => none
        | none => none
      | none => none
    | _ => none) else none
  | _ => none := rfl
@[simp] theorem sNil_ap : sNil L = some (.nx, L) := rfl
@[simp] theorem sSeq_ap : sSeq f g L = match f L with
  | some (.nx, M) => g M
  | some (.bk, M) => some (.bk, M)
  | some (.ct, M) => some (.ct, M)
  | some (.rt o, M) => some (.rt o, M)
  | none => none := rfl
@[simp] theorem sPass_ap : sPass L = some (.nx, L) := rfl
@[simp] theorem sBreak_ap : sBreak L = some (.bk, L) := rfl
@[simp] theorem sCont_ap : sCont L = some (.ct, L) := rfl
@[simp] theorem sNever_ap : sNever L = none := rfl
@[simp] theorem mv_ow {o : OV} : mv L (.ow o) = some (o, L) := rfl
@[simp] theorem mv_rf {k : Nat} : mv L (.rf k) = match L[k]? with
    | some (.ow o) => some (o, L.set k .no)
    | some (.bo (.fz d)) => some (.fz d, L)
    | _ => none := rfl
@[simp] theorem sRet_ap : sRet fe L = match fe L with
  | some (r, M) => match mv M r with
    | some (o, M') => some (.rt o, M')
    | none => none
  | none => none := rfl
@[simp] theorem sExpr_ap : sExpr fe L = match fe L with
  | some (_, M) => some (.nx, M)
  | none => none := rfl
@[simp] theorem put_ap {b : Bool} {i : Nat} {o : OV} : put b i o M = if noRef M i then (if b then (match o.dat with
    | some d => some (M.set i (.ow (.fz d)))
    | none => if o.isT && o.nos then some (M.set i (.fb o)) else none) else some (M.set i (.ow o))) else none := rfl
@[simp] theorem isT_dct {ks : List NestedKey} {os : List OV} : (OV.nd (.dct ks) os).isT = true := rfl
@[simp] theorem isT_obj {C : Addr} {fs : List Str} {os : List OV} : (OV.nd (.obj C fs) os).isT = true := rfl
@[simp] theorem isT_lst {os : List OV} : (OV.nd .lst os).isT = false := rfl
@[simp] theorem nos_fz {d : PyData} : (OV.fz d).nos = true := by rw [OV.nos]
@[simp] theorem nos_fo {o : OV} : (OV.fo o).nos = true := by rw [OV.nos]
@[simp] theorem nos_lst {os : List OV} : (OV.nd .lst os).nos = OV.nosL os := by rw [OV.nos]
@[simp] theorem nos_dct {ks : List NestedKey} {os : List OV} : (OV.nd (.dct ks) os).nos = OV.nosL os := by rw [OV.nos]
@[simp] theorem nos_obj {C : Addr} {fs : List Str} {os : List OV} : (OV.nd (.obj C fs) os).nos = OV.nosL os := by rw [OV.nos]
@[simp] theorem nosL_nil : OV.nosL [] = true := by rw [OV.nosL]
@[simp] theorem nosL_cons {o : OV} {os : List OV} : OV.nosL (o :: os) = (o.nos && OV.nosL os) := by rw [OV.nosL]
theorem nosL_all {os : List OV} : OV.nosL os = os.all OV.nos := by
  induction os with
  | nil => simp
  | cons o os ih => simp [ih]
@[simp] theorem nosL_fz {α : Type} {e : α → PyData} {xs : List α} : OV.nosL (xs.map fun x => .fz (e x)) = true := by rw [nosL_all]; simp
@[simp] theorem noRef_fb {k : Nat} {o : OV} : noRef (.fb o :: L) k = noRef L k := by unfold noRef; rw [List.all_cons, Bool.true_and]
@[simp] theorem noRef_nil {k : Nat} : noRef [] k = true := rfl
@[simp] theorem noRef_no {k : Nat} : noRef (.no :: L) k = noRef L k := by unfold noRef; rw [List.all_cons, Bool.true_and]
@[simp] theorem noRef_ow {k : Nat} {o : OV} : noRef (.ow o :: L) k = noRef L k := by unfold noRef; rw [List.all_cons, Bool.true_and]
@[simp] theorem noRef_bo {k : Nat} {o : OV} : noRef (.bo o :: L) k = noRef L k := by unfold noRef; rw [List.all_cons, Bool.true_and]
@[simp] theorem noRef_rf {k j : Nat} : noRef (.rf j :: L) k = (j != k && noRef L k) := by unfold noRef; rw [List.all_cons]
@[simp] theorem sSet_ap {b : Bool} {i : Nat} : sSet b i fe L = match fArgs [fe] L with
  | some ([o], M) => match put b i o M with
    | some M' => some (.nx, M')
    | none => none
  | _ => none := rfl
@[simp] theorem asg_nm {i : Nat} {d : PyData} : asg (.nm i) d L = put false i (.fz d) L := by rw [asg]
@[simp] theorem asg_tp {ts : List Tg} {ds : List PyData} : asg (.tp ts) (.tuple ds) L = asgs ts ds L := by rw [asg]
@[simp] theorem asgs_nil : asgs [] [] L = some L := by rw [asgs]
@[simp] theorem asgs_cons {s : Tg} {ts : List Tg} {d : PyData} {ds : List PyData} : asgs (s :: ts) (d :: ds) L = match asg s d L with
    | some M => asgs ts ds M
    | none => none := by rw [asgs] <;> rfl
@[simp] theorem sUnp_ap {s : Tg} : sUnp s fe L = match fArgs [fe] L with
  | some ([.fz d], M) => match asg s d M with
    | some M' => some (.nx, M')
    | none => none
  | _ => none := rfl
@[simp] theorem puts_nil : puts [] [] L = some L := rfl
@[simp] theorem puts_cons {b : Bool} {i : Nat} {is : List (Bool × Nat)} {o : OV} {os : List OV} : puts ((b, i) :: is) (o :: os) L = match put b i o L with
    | some M => puts is os M
    | none => none := rfl
@[simp] theorem sPar_ap {is : List (Bool × Nat)} {fs : List FE} : sPar is fs L = match fArgs fs L with
  | some (os, M) => match puts is os M with
    | some M' => some (.nx, M')
    | none => none
  | none => none := rfl
@[simp] theorem sIf_ap : sIf t f g L = match t L with
  | some (true, M) => f M
  | some (false, M) => g M
  | none => none := rfl
@[simp] theorem sFor_ap {src : FI} {s : Tg} : sFor src s f L = match src L with
  | some (ds, M) => forL s f ds M
  | none => none := rfl
@[simp] theorem srcK_ow {o : OV} : srcK L (.ow o) = kids o := rfl
@[simp] theorem srcK_rf {k : Nat} : srcK L (.rf k) = match L[k]? with
    | some (.bo o) => kids o
    | some (.fb o) => kids o
    | some (.ow (.fz d)) => kids (.fz d)
    | _ => none := rfl
@[simp] theorem iSrc_ap : iSrc fe L = match fe L with
  | some (r, M) => match srcK M r with
    | some (_, ds) => some (ds, M)
    | none => none
  | none => none := rfl
@[simp] theorem iEnm_ap : iEnm fe L = match fe L with
  | some (r, M) => match srcK M r with
    | some (false, ds) => some (enumD 0 ds, M)
    | _ => none
  | none => none := rfl
@[simp] theorem iZp_ap : iZp fa fb L = match fa L with
  | some (a, M1) => match fb M1 with
    | some (b, M2) => match srcK M2 a, srcK M2 b with
      | some (false, ds), some (false, es) => some (zipD ds es, M2)
      | _, _ => none
    | none => none
  | none => none := rfl
@[simp] theorem iRg_ap : iRg fe L = match fe L with
  | some (r, M) => match con M r with
    | some (.fz (.int n)) => if sm (-(2 ^ 62) ≤ n ∧ n < 2 ^ 62) then some (rgD n.toNat, M) else none
    | _ => none
  | none => none := rfl
@[simp] theorem sSetIx_ap : sSetIx fo fi fe L = match fArgs [fe] L with
  | some ([o], M) => match fo M with
    | some (.rf k, M1) => match fi M1 with
      | some (r, M2) => match con M2 r with
        | some (.fz (.int i)) => match lstOf M2 k with
          | some os => match ixN os.length i with
            | some j => some (.nx, M2.set k (.ow (.ls (os.set j o))))
            | none => none
          | none => none
        | _ => none
      | none => none
    | _ => none
  | _ => none := rfl
@[simp] theorem sAugIx_ap {sub : Bool} : sAugIx sub fo fi fe L = match fo L with
  | some (.rf k, M1) => match fi M1 with
    | some (r, M2) => match con M2 r with
      | some (.fz (.int i)) => match lstOf M2 k with
        | some os => if 0 ≤ i then (match os[i.toNat]? with
          | some (.fz (.int old)) => match fe M2 with
            | some (r2, M3) => match con M3 r2 with
              | some (.fz (.int d)) => match lstOf M3 k with
                | some os' => match ixN os'.length i with
                  | some j => some (.nx, M3.set k (.ow (.ls (os'.set j (.fz (.int (if sub then old - d else old + d)))))))
                  | none => none
                | none => none
              | _ => none
            | none => none
          | _ => none) else none
        | none => none
      | _ => none
    | none => none
  | _ => none := rfl
end
/-! operations on what is known -/
section
variable {i j : Int} {a b : OV}
@[simp] theorem gAdd_int : gAdd (.fz (.int i)) (.fz (.int j)) = some (.fr (.int (i + j))) := rfl
@[simp] theorem gAdd_tup {xs ys : List PyData} : gAdd (.fz (.tuple xs)) (.fz (.tuple ys)) = if xs.length + ys.length ≤ sizeLine then some (.fr (.tuple (xs ++ ys))) else none := rfl
@[simp] theorem lkids_fz {ds : List PyData} : lkids (.fz (.list ds)) = some ds := rfl
@[simp] theorem lkids_ls {os : List OV} : lkids (.nd .lst os) = frs os := rfl
@[simp] theorem frs_fz {ds : List PyData} : frs (ds.map .fz) = some ds := frs_map ds
@[simp] theorem frs_fzc {α : Type} {e : α → PyData} {xs : List α} : frs (xs.map fun x => .fz (e x)) = some (xs.map e) := by
  have := frs_map (xs.map e)
  rwa [List.map_map] at this
@[simp] theorem frs_comp {α : Type} {e : α → PyData} {xs : List α} : frs (xs.map (OV.fz ∘ e)) = some (xs.map e) := frs_fzc
@[simp] theorem frs_append (os ps : List OV) : frs (os ++ ps) = match frs os, frs ps with
    | some d, some ds => some (d ++ ds)
    | _, _ => none := by
  induction os with
  | nil => simp only [List.nil_append, frs]; cases frs ps <;> rfl
  | cons o os ih =>
    cases o with
    | nd k l => rfl
    | fo o => rfl
    | fz d =>
      simp only [List.cons_append, frs, ih]
      cases frs os <;> cases frs ps <;> rfl
@[simp] theorem frs_nil : frs [] = some [] := rfl
@[simp] theorem frs_cons {d : PyData} {os : List OV} : frs (.fz d :: os) = (frs os).map (d :: ·) := rfl
@[simp] theorem kids_tup {ds : List PyData} : kids (.fz (.tuple ds)) = some (true, ds) := rfl
@[simp] theorem kids_list {ds : List PyData} : kids (.fz (.list ds)) = some (false, ds) := rfl
@[simp] theorem kids_ls {os : List OV} : kids (.nd .lst os) = (frs os).map fun ds => (false, ds) := rfl
@[simp] theorem kids_scr {os : List OV} : kids (.nd .scr os) = (frs os).map fun ds => (false, ds) := rfl
theorem gAdd_ll {xs ys : List PyData} (ha : lkids a = some xs) (hb : lkids b = some ys) : gAdd a b = if xs.length + ys.length ≤ sizeLine then some (.nl (xs ++ ys)) else none := by
  unfold gAdd
  split
  · simp [lkids] at ha
  · simp [lkids] at ha
  · simp [lkids] at ha
  · rw [ha, hb]
@[simp] theorem gAdd_l1 {xs ys : List PyData} : gAdd (.fz (.list xs)) (.fz (.list ys)) = if xs.length + ys.length ≤ sizeLine then some (.nl (xs ++ ys)) else none := gAdd_ll rfl rfl
@[simp] theorem gAdd_l2 {xs : List PyData} {ps : List OV} : gAdd (.fz (.list xs)) (.nd .lst ps) = match frs ps with
    | some ys => if xs.length + ys.length ≤ sizeLine then some (.nl (xs ++ ys)) else none
    | none => none := by
  cases h : frs ps with
  | none => show (match some xs, frs ps with | some xs, some ys => _ | _, _ => _) = _; rw [h]
  | some ys => exact gAdd_ll rfl h
@[simp] theorem gAdd_l3 {os ps : List OV} : gAdd (.nd .lst os) (.nd .lst ps) = match frs os, frs ps with
    | some xs, some ys => if xs.length + ys.length ≤ sizeLine then some (.nl (xs ++ ys)) else none
    | _, _ => none := rfl
@[simp] theorem gAdd_l4 {os : List OV} {ys : List PyData} : gAdd (.nd .lst os) (.fz (.list ys)) = match frs os with
    | some xs => if xs.length + ys.length ≤ sizeLine then some (.nl (xs ++ ys)) else none
    | none => none := by
  cases h : frs os with
  | none => show (match frs os, some ys with | some xs, some ys => _ | _, _ => _) = _; rw [h]
  | some ys => exact gAdd_ll h rfl
@[simp] theorem gSub_int : gSub (.fz (.int i)) (.fz (.int j)) = some (.fr (.int (i - j))) := rfl
@[simp] theorem gMod_int : gMod (.fz (.int i)) (.fz (.int j)) = if 0 < j then some (.fr (.int (i % j))) else none := by
  show ((if 0 < j then some (i % j) else none).map fun k => Res.fr (.int k)) = _
  split <;> rfl
@[simp] theorem gDiv_int : gDiv (.fz (.int i)) (.fz (.int j)) = if sm (0 < j ∧ j < 1073741824) then some (.fr (.int (i / j))) else none := by
  show ((if sm (0 < j ∧ j < 1073741824) then some (i / j) else none).map fun k => Res.fr (.int k)) = _
  split <;> rfl
@[simp] theorem gPow_int : gPow (.fz (.int i)) (.fz (.int j)) = if sm (0 ≤ j ∧ j ≤ 1000000 ∧ i.natAbs < 2 ^ 64) then some (.fr (.int (i ^ j.toNat))) else none := by
  show ((if sm (0 ≤ j ∧ j ≤ 1000000 ∧ i.natAbs < 2 ^ 64) then some (i ^ j.toNat) else none).map fun k => Res.fr (.int k)) = _
  split <;> rfl
@[simp] theorem gNeg_int : gNeg (.fz (.int i)) = some (.fr (.int (-i))) := rfl
@[simp] theorem gMul_int : gMul (.fz (.int i)) (.fz (.int j)) = if small64 i || small64 j || (wide i && wide j) then some (.fr (.int (i * j))) else none := rfl
@[simp] theorem gMul_tup {ds : List PyData} {k : Int} : gMul (.fz (.tuple ds)) (.fz (.int k)) = if k = 1 then some (.fr (.tuple ds)) else if sm (2 ≤ k ∧ k ≤ 1000 ∧ ds.length ≤ 1000 ∧ ds ≠ []) then some (.fr (.tuple (repD k.toNat ds))) else none := rfl
@[simp] theorem gMul_ls {os : List OV} {k : Int} : gMul (.nd .lst os) (.fz (.int k)) = match frs os with
    | some ds => if sm (-(2 ^ 63) ≤ k ∧ k < 2 ^ 63 ∧ ds.length * k.toNat ≤ sizeLine) then some (.nl (repD k.toNat ds)) else none
    | none => none := rfl
@[simp] theorem gLt_int : gLt (.fz (.int i)) (.fz (.int j)) = some (.fr (.bool (decide (i < j)))) := rfl
@[simp] theorem gLe_int : gLe (.fz (.int i)) (.fz (.int j)) = some (.fr (.bool (decide (i ≤ j)))) := rfl
@[simp] theorem gGt_int : gGt (.fz (.int i)) (.fz (.int j)) = some (.fr (.bool (decide (j < i)))) := rfl
@[simp] theorem gGe_int : gGe (.fz (.int i)) (.fz (.int j)) = some (.fr (.bool (decide (j ≤ i)))) := rfl
@[simp] theorem gIx_ap : gIx a (.fz (.int i)) = match kids a with
    | some (_, ds) => (atI ds i).map .fr
    | none => none := rfl
@[simp] theorem atI_nat' {α : Type} {xs : List α} {n : Nat} : atI xs (n : Int) = xs[n]? := by
  unfold atI ixN
  rw [if_pos (by omega)]
  split
  · simp
  · rename_i h
    rw [List.getElem?_eq_none (by omega)]; rfl
@[simp] theorem atI_0 {α : Type} {xs : List α} : atI xs 0 = xs[0]? := atI_nat' (n := 0)
@[simp] theorem atI_1 {α : Type} {xs : List α} : atI xs 1 = xs[1]? := atI_nat' (n := 1)
@[simp] theorem atI_2 {α : Type} {xs : List α} : atI xs 2 = xs[2]? := atI_nat' (n := 2)
@[simp] theorem atI_3 {α : Type} {xs : List α} : atI xs 3 = xs[3]? := atI_nat' (n := 3)
@[simp] theorem gLen_tup {ds : List PyData} : gLen (.fz (.tuple ds)) = some (.fr (.int ds.length)) := rfl
@[simp] theorem gLen_list {ds : List PyData} : gLen (.fz (.list ds)) = some (.fr (.int ds.length)) := rfl
@[simp] theorem gLen_ls {os : List OV} : gLen (.nd .lst os) = (frs os).map fun ds => .fr (.int ds.length) := by
  show ((frs os).map fun ds => (false, ds)).map _ = _
  rw [Option.map_map]; rfl
@[simp] theorem gLen_scr {os : List OV} : gLen (.nd .scr os) = (frs os).map fun ds => .fr (.int ds.length) := by
  show ((frs os).map fun ds => (false, ds)).map _ = _
  rw [Option.map_map]; rfl
@[simp] theorem gTuple_ap : gTuple a = (kids a).map fun p => .fr (.tuple p.2) := rfl
@[simp] theorem gList_ap : gList a = (kids a).map fun p => .nl p.2 := rfl
@[simp] theorem gIsi_fz {t : Ty7} {d : PyData} : gIsi t (.fz d) = some (.fr (.bool ((tyD d).sub t))) := rfl
@[simp] theorem gIsi_ls {t : Ty7} {os : List OV} : gIsi t (.nd .lst os) = some (.fr (.bool (Ty7.list.sub t))) := rfl
@[simp] theorem gIsi2_fz {t u : Ty7} {d : PyData} : gIsi2 t u (.fz d) = some (.fr (.bool ((tyD d).sub t || (tyD d).sub u))) := rfl
@[simp] theorem gIsi2_ls {t u : Ty7} {os : List OV} : gIsi2 t u (.nd .lst os) = some (.fr (.bool (Ty7.list.sub t || Ty7.list.sub u))) := rfl
@[simp] theorem ty_non : tyD .none = .non := rfl
@[simp] theorem ty_bool {b : Bool} : tyD (.bool b) = .bool := rfl
@[simp] theorem ty_int : tyD (.int i) = .int := rfl
@[simp] theorem ty_str {x : Str} : tyD (.str x) = .str := rfl
@[simp] theorem ty_list {x : List PyData} : tyD (.list x) = .list := rfl
@[simp] theorem ty_tuple {x : List PyData} : tyD (.tuple x) = .tuple := rfl
@[simp] theorem gIs_bb {n x y : Bool} : gIsB n (.fz (.bool x)) (.fz (.bool y)) = some (.fr (.bool (if n then !decide (x = y) else decide (x = y)))) := rfl
@[simp] theorem gIs_nn {n : Bool} : gIsB n (.fz .none) (.fz .none) = some (.fr (.bool (!n))) := rfl
@[simp] theorem gIs_int {n : Bool} : gIsB n (.fz (.int i)) (.fz .none) = some (.fr (.bool n)) := rfl
@[simp] theorem gIs_list {n : Bool} {ds : List PyData} : gIsB n (.fz (.list ds)) (.fz .none) = some (.fr (.bool n)) := rfl
@[simp] theorem gIs_tup {n : Bool} {ds : List PyData} : gIsB n (.fz (.tuple ds)) (.fz .none) = some (.fr (.bool n)) := rfl
@[simp] theorem rdat_fz {d : PyData} : rdat (.fz d) = some d := rfl
@[simp] theorem rdat_ls {os : List OV} : rdat (.nd .lst os) = (OV.dats os).map .list := by unfold rdat; simp
@[simp] theorem rdat_scr {os : List OV} : rdat (.nd .scr os) = (frs os).map .list := rfl
end
/-! ### shapes of data -/
def okD : Nat → PyData → Bool
  | _, .none => true
  | _, .bool _ => true
  | _, .int _ => true
  | _, .str x => PyData.strOk x
  | k + 1, .list xs => xs.all (okD k)
  | k + 1, .tuple xs => xs.all (okD k)
  | _, _ => false
theorem okDs {k : Nat} : ∀ xs : List PyData, (∀ x ∈ xs, okD k x = true → x.canLay0 = true ∧ x.depth ≤ k) → xs.all (okD k) = true → PyData.canLayAll0 xs = true ∧ PyData.depthAll xs ≤ k
  | [], _, _ => by simp [PyData.canLayAll0, PyData.depthAll]
  | x :: xs, h, e => by
    rw [List.all_cons, Bool.and_eq_true] at e
    have h1 := h x (by simp) e.1
    have h2 := okDs xs (fun y hy => h y (by simp [hy])) e.2
    simp only [PyData.canLayAll0, PyData.depthAll, Bool.and_eq_true]
    exact ⟨⟨h1.1, h2.1⟩, by omega⟩
theorem okD_lay : ∀ (k : Nat) (d : PyData), okD k d = true → d.canLay0 = true ∧ d.depth ≤ k
  | k, .none, _ => by simp [PyData.canLay0, PyData.depth]
  | k, .bool _, _ => by simp [PyData.canLay0, PyData.depth]
  | k, .int _, _ => by simp [PyData.canLay0, PyData.depth]
  | k, .str x, h => by
    have : PyData.strOk x = true := by cases k <;> exact h
    simp [PyData.canLay0, PyData.depth, this]
  | 0, .list _, h => by cases h
  | 0, .tuple _, h => by cases h
  | 0, .dict _, h => by cases h
  | _ + 1, .dict _, h => by cases h
  | k + 1, .list xs, h => by
    have := okDs xs (fun x _ => okD_lay k x) h
    simp only [PyData.canLay0, PyData.depth]
    exact ⟨this.1, by omega⟩
  | k + 1, .tuple xs, h => by
    have := okDs xs (fun x _ => okD_lay k x) h
    simp only [PyData.canLay0, PyData.depth]
    exact ⟨this.1, by omega⟩
theorem okD_shaped {d : PyData} (h : okD 20 d = true) : SeqAt.shaped d = true := by
  have := okD_lay 20 d h
  unfold SeqAt.shaped
  rw [this.1, Bool.true_and]
  exact decide_eq_true (by omega)
theorem gEqB_ok {n : Bool} {a b : OV} {d e : PyData} (ha : rdat a = some d) (hb : rdat b = some e) (h1 : okD 20 d = true) (h2 : okD 20 e = true) : gEqB n a b = some (.fr (.bool (if n then !PyData.eqv d e else PyData.eqv d e))) := by
  unfold gEqB
  rw [ha, hb]
  simp only [okD_shaped h1, okD_shaped h2]
  rfl
theorem gInB_tup {n : Bool} {a : OV} {d : PyData} {ds : List PyData} (ha : rdat a = some d) (h1 : flatD d = true) (h2 : ds.all flatD = true) : gInB n a (.fz (.tuple ds)) = some (.fr (.bool (if n then !(ds.any fun z => PyData.eqv z d) else ds.any fun z => PyData.eqv z d))) := by
  unfold gInB
  rw [ha]
  simp only [h1, h2]
  rfl
theorem gInB_list {n : Bool} {a b : OV} {d : PyData} {ds : List PyData} (ha : rdat a = some d) (hb : rdat b = some (.list ds)) (h1 : okD 20 d = true) (h2 : okD 20 (.list ds) = true) : gInB n a b = some (.fr (.bool (if n then !(ds.any fun z => PyData.eqv z d) else ds.any fun z => PyData.eqv z d))) := by
  unfold gInB
  rw [ha]
  simp only
  split
  · simp [rdat, OV.dat] at hb
  · rw [hb]
    simp only [okD_shaped h1, okD_shaped h2]
    rfl
/-! ### comprehensions over what is known -/
theorem compL_pure {α : Type} {t : Tg} {tt : FT} {te : FE} {vs : List Nat} {enc : α → PyData} {b : α → Bool} {o : α → OV} {L : Sta} : ∀ (xs : List α) (acc : List OV), acc.length + xs.length ≤ sizeLine →
    (∀ x ∈ xs, ∃ M, asg t (enc x) L = some M ∧ tt M = some (b x, M) ∧ (b x = true → fArgs [te] M = some ([o x], M)) ∧ wipeS M vs = some L) → compL t tt te vs (xs.map enc) L acc = some (acc ++ (xs.filter b).map o, L)
  | [], acc, _, _ => by simp [compL]
  | x :: xs, acc, hl, h => by
    obtain ⟨M, h1, h2, h3, h4⟩ := h x (by simp)
    simp only [List.map_cons, compL, h1, h2]
    have hl' : acc.length + (xs.length + 1) ≤ sizeLine := by simpa using hl
    cases hb : b x with
    | true =>
      simp only [h3 hb, h4]
      rw [if_pos (by omega), compL_pure xs _ (by simp; omega) fun y hy => h y (by simp [hy])]
      simp [hb]
    | false =>
      simp only [h4]
      rw [compL_pure xs _ (by omega) fun y hy => h y (by simp [hy])]
      simp [hb]
theorem fComp_pure {α : Type} {src : FI} {t : Tg} {tt : FT} {te : FE} {vs : List Nat} {enc : α → PyData} {b : α → Bool} {o : α → OV} {L M L0 : Sta} {xs : List α} (hs : src L = some (xs.map enc, M)) (hw : wipeS M vs = some L0) (hl : xs.length ≤ sizeLine)
    (h : ∀ x ∈ xs, ∃ M, asg t (enc x) L0 = some M ∧ tt M = some (b x, M) ∧ (b x = true → fArgs [te] M = some ([o x], M)) ∧ wipeS M vs = some L0) : fComp src t vs tt te L = some (.ow (.ls ((xs.filter b).map o)), L0) := by
  unfold fComp
  rw [hs]
  simp only [hw]
  rw [compL_pure xs [] (by simpa using hl) h]
  rfl
@[simp] theorem wipeS_nil {L : Sta} : wipeS L [] = some L := rfl
@[simp] theorem wipeS_cons {L : Sta} {i : Nat} {is : List Nat} : wipeS L (i :: is) = match wipeS L is with
    | some M => if noRef M i then some (M.set i .no) else none
    | none => none := rfl
theorem forL_inv {t : Tg} {f : FS} (I : Sta → Prop) : ∀ (ds : List PyData) (L : Sta), I L → (∀ d ∈ ds, ∀ L, I L → ∃ M L', asg t d L = some M ∧ (f M = some (.nx, L') ∨ f M = some (.ct, L')) ∧ I L') → ∃ L', forL t f ds L = some (.nx, L') ∧ I L'
  | [], L, hL, _ => ⟨L, rfl, hL⟩
  | d :: ds, L, hL, h => by
    obtain ⟨M, L', h1, h2, h3⟩ := h d (by simp) L hL
    obtain ⟨L2, h4, h5⟩ := forL_inv I ds L' h3 fun d hd => h d (by simp [hd])
    refine ⟨L2, ?_, h5⟩
    unfold forL
    rw [h1]
    rcases h2 with h2 | h2 <;> simp only [h2, h4]
end Qz
namespace Qz
open PySem PySem.Spec PyProof.Rows L2
/-! ### equality of what is known -/
@[simp] theorem gEqB_ap {n : Bool} {a b : OV} : gEqB n a b = match rdat a, rdat b with
  | some d, some e => if SeqAt.shaped d && SeqAt.shaped e then some (.fr (.bool (if n then !PyData.eqv d e else PyData.eqv d e))) else none
  | _, _ => none := rfl
@[simp] theorem gInB_fzT {n : Bool} {a : OV} {ds : List PyData} : gInB n a (.fz (.tuple ds)) = match rdat a with
  | some d => if flatD d && ds.all flatD then some (.fr (.bool (if n then !(ds.any fun z => PyData.eqv z d) else ds.any fun z => PyData.eqv z d))) else none
  | none => none := rfl
@[simp] theorem gInB_fzL {n : Bool} {a : OV} {ds : List PyData} : gInB n a (.fz (.list ds)) = match rdat a with
  | some d => if SeqAt.shaped d && SeqAt.shaped (.list ds) then some (.fr (.bool (if n then !(ds.any fun z => PyData.eqv z d) else ds.any fun z => PyData.eqv z d))) else none
  | none => none := rfl
@[simp] theorem gInB_ls {n : Bool} {a : OV} {os : List OV} : gInB n a (.nd .lst os) = match rdat a with
  | some d => match (OV.dats os).map PyData.list with
    | some (.list ds) => if SeqAt.shaped d && SeqAt.shaped (.list ds) then some (.fr (.bool (if n then !(ds.any fun z => PyData.eqv z d) else ds.any fun z => PyData.eqv z d))) else none
    | _ => none
  | none => none := by
  unfold gInB
  cases rdat a with
  | none => rfl
  | some d => simp only [rdat_ls] <;> rfl
@[simp] theorem shaped_ok {d : PyData} (h : okD 20 d = true) : SeqAt.shaped d = true := okD_shaped h
@[simp] theorem okD_none {k : Nat} : okD k .none = true := by cases k <;> rfl
@[simp] theorem okD_bool {k : Nat} {b : Bool} : okD k (.bool b) = true := by cases k <;> rfl
@[simp] theorem okD_int {k : Nat} {i : Int} : okD k (.int i) = true := by cases k <;> rfl
@[simp] theorem okD_str {k : Nat} {x : Str} : okD k (.str x) = PyData.strOk x := by cases k <;> rfl
theorem okD_list {k : Nat} {xs : List PyData} : okD (k + 1) (.list xs) = xs.all (okD k) := rfl
theorem okD_tuple {k : Nat} {xs : List PyData} : okD (k + 1) (.tuple xs) = xs.all (okD k) := rfl
@[simp] theorem shaped_nilL : SeqAt.shaped (.list []) = true := okD_shaped rfl
@[simp] theorem shaped_nilT : SeqAt.shaped (.tuple []) = true := okD_shaped rfl
@[simp] theorem flat_none : flatD .none = true := rfl
@[simp] theorem flat_bool {b : Bool} : flatD (.bool b) = true := rfl
@[simp] theorem flat_int {i : Int} : flatD (.int i) = true := rfl
@[simp] theorem flat_str {x : Str} : flatD (.str x) = true := rfl
@[simp] theorem eqv_int {i j : Int} : PyData.eqv (.int i) (.int j) = (i == j) := by rw [PyData.eqv]
@[simp] theorem eqv_str {x y : Str} : PyData.eqv (.str x) (.str y) = (x == y) := by rw [PyData.eqv]
@[simp] theorem eqv_bool {x y : Bool} : PyData.eqv (.bool x) (.bool y) = (x == y) := by rw [PyData.eqv]
@[simp] theorem eqv_none : PyData.eqv .none .none = true := by rw [PyData.eqv]
@[simp] theorem eqv_none_int {i : Int} : PyData.eqv .none (.int i) = false := by rw [PyData.eqv]
@[simp] theorem eqv_int_none {i : Int} : PyData.eqv (.int i) .none = false := by rw [PyData.eqv]
@[simp] theorem eqv_none_tup {xs : List PyData} : PyData.eqv .none (.tuple xs) = false := by rw [PyData.eqv]
@[simp] theorem eqv_tup_none {xs : List PyData} : PyData.eqv (.tuple xs) .none = false := by rw [PyData.eqv]
@[simp] theorem eqv_none_list {xs : List PyData} : PyData.eqv .none (.list xs) = false := by rw [PyData.eqv]
@[simp] theorem eqv_list_none {xs : List PyData} : PyData.eqv (.list xs) .none = false := by rw [PyData.eqv]
@[simp] theorem eqv_list {xs ys : List PyData} : PyData.eqv (.list xs) (.list ys) = PyData.eqvAll xs ys := by rw [PyData.eqv]
@[simp] theorem eqv_tuple {xs ys : List PyData} : PyData.eqv (.tuple xs) (.tuple ys) = PyData.eqvAll xs ys := by rw [PyData.eqv]
@[simp] theorem eqvs_nil : PyData.eqvAll [] [] = true := by rw [PyData.eqvAll]
@[simp] theorem eqvs_cons {x y : PyData} {xs ys : List PyData} : PyData.eqvAll (x :: xs) (y :: ys) = (PyData.eqv x y && PyData.eqvAll xs ys) := by rw [PyData.eqvAll]
@[simp] theorem eqvs_nc {y : PyData} {ys : List PyData} : PyData.eqvAll [] (y :: ys) = false := by rw [PyData.eqvAll]
@[simp] theorem eqvs_cn {x : PyData} {xs : List PyData} : PyData.eqvAll (x :: xs) [] = false := by rw [PyData.eqvAll]
theorem eqvs_map {α : Type} [DecidableEq α] {e : α → PyData} (he : ∀ x y, PyData.eqv (e x) (e y) = decide (x = y)) : ∀ xs ys : List α, PyData.eqvAll (xs.map e) (ys.map e) = decide (xs = ys)
  | [], [] => by simp
  | [], _ :: _ => by simp
  | _ :: _, [] => by simp
  | x :: xs, y :: ys => by
    simp only [List.map_cons, eqvs_cons, he, eqvs_map he xs ys, List.cons.injEq, Bool.decide_and]
@[simp] theorem eqvs_nilR {xs : List PyData} : PyData.eqvAll xs [] = xs.isEmpty := by cases xs <;> simp
/-- numbers, tuples of numbers -/
abbrev dN (n : Nat) : PyData := .int (n : Int)
def dT (xs : List Nat) : PyData := .tuple (xs.map dN)
def dO : Option Nat → PyData
  | none => .none
  | some n => dN n
@[simp] theorem dO_none : dO none = .none := rfl
@[simp] theorem dO_some {n : Nat} : dO (some n) = dN n := rfl
theorem eqv_dN (x y : Nat) : PyData.eqv (dN x) (dN y) = decide (x = y) := by
  rw [eqv_int]
  by_cases h : x = y
  · simp [h]
  · have : ((x : Int) == (y : Int)) = false := by rw [beq_eq_false_iff_ne]; omega
    rw [this]
    simp [h]
@[simp] theorem eqv_dO (x y : Option Nat) : PyData.eqv (dO x) (dO y) = decide (x = y) := by
  cases x with
  | none => cases y <;> simp
  | some a => cases y with
    | none => simp
    | some b => rw [dO_some, dO_some, eqv_dN]; simp
@[simp] theorem eqv_dT (x y : List Nat) : PyData.eqv (dT x) (dT y) = decide (x = y) := by
  unfold dT
  rw [eqv_tuple, eqvs_map eqv_dN]
@[simp] theorem eqvs_dN (x y : List Nat) : PyData.eqvAll (x.map dN) (y.map dN) = decide (x = y) := eqvs_map eqv_dN x y
@[simp] theorem eqvs_dO (x y : List (Option Nat)) : PyData.eqvAll (x.map dO) (y.map dO) = decide (x = y) := eqvs_map eqv_dO x y
@[simp] theorem eqvs_dT (x y : List (List Nat)) : PyData.eqvAll (x.map dT) (y.map dT) = decide (x = y) := eqvs_map eqv_dT x y
theorem okD_dT {k : Nat} {xs : List Nat} : okD (k + 1) (dT xs) = true := by
  unfold dT
  rw [okD_tuple]
  simp
@[simp] theorem okD_list10 {xs : List PyData} : okD 10 (.list xs) = xs.all (okD 9) := rfl
@[simp] theorem okD_tuple10 {xs : List PyData} : okD 10 (.tuple xs) = xs.all (okD 9) := rfl
@[simp] theorem okD_dT10 {xs : List Nat} : okD 10 (dT xs) = true := okD_dT
@[simp] theorem okD_list11 {xs : List PyData} : okD 11 (.list xs) = xs.all (okD 10) := rfl
@[simp] theorem okD_tuple11 {xs : List PyData} : okD 11 (.tuple xs) = xs.all (okD 10) := rfl
@[simp] theorem okD_dT11 {xs : List Nat} : okD 11 (dT xs) = true := okD_dT
@[simp] theorem okD_list12 {xs : List PyData} : okD 12 (.list xs) = xs.all (okD 11) := rfl
@[simp] theorem okD_tuple12 {xs : List PyData} : okD 12 (.tuple xs) = xs.all (okD 11) := rfl
@[simp] theorem okD_dT12 {xs : List Nat} : okD 12 (dT xs) = true := okD_dT
@[simp] theorem okD_list13 {xs : List PyData} : okD 13 (.list xs) = xs.all (okD 12) := rfl
@[simp] theorem okD_tuple13 {xs : List PyData} : okD 13 (.tuple xs) = xs.all (okD 12) := rfl
@[simp] theorem okD_dT13 {xs : List Nat} : okD 13 (dT xs) = true := okD_dT
@[simp] theorem okD_list14 {xs : List PyData} : okD 14 (.list xs) = xs.all (okD 13) := rfl
@[simp] theorem okD_tuple14 {xs : List PyData} : okD 14 (.tuple xs) = xs.all (okD 13) := rfl
@[simp] theorem okD_dT14 {xs : List Nat} : okD 14 (dT xs) = true := okD_dT
@[simp] theorem okD_list15 {xs : List PyData} : okD 15 (.list xs) = xs.all (okD 14) := rfl
@[simp] theorem okD_tuple15 {xs : List PyData} : okD 15 (.tuple xs) = xs.all (okD 14) := rfl
@[simp] theorem okD_dT15 {xs : List Nat} : okD 15 (dT xs) = true := okD_dT
@[simp] theorem okD_list16 {xs : List PyData} : okD 16 (.list xs) = xs.all (okD 15) := rfl
@[simp] theorem okD_tuple16 {xs : List PyData} : okD 16 (.tuple xs) = xs.all (okD 15) := rfl
@[simp] theorem okD_dT16 {xs : List Nat} : okD 16 (dT xs) = true := okD_dT
@[simp] theorem okD_list17 {xs : List PyData} : okD 17 (.list xs) = xs.all (okD 16) := rfl
@[simp] theorem okD_tuple17 {xs : List PyData} : okD 17 (.tuple xs) = xs.all (okD 16) := rfl
@[simp] theorem okD_dT17 {xs : List Nat} : okD 17 (dT xs) = true := okD_dT
@[simp] theorem okD_list18 {xs : List PyData} : okD 18 (.list xs) = xs.all (okD 17) := rfl
@[simp] theorem okD_tuple18 {xs : List PyData} : okD 18 (.tuple xs) = xs.all (okD 17) := rfl
@[simp] theorem okD_dT18 {xs : List Nat} : okD 18 (dT xs) = true := okD_dT
@[simp] theorem okD_list19 {xs : List PyData} : okD 19 (.list xs) = xs.all (okD 18) := rfl
@[simp] theorem okD_tuple19 {xs : List PyData} : okD 19 (.tuple xs) = xs.all (okD 18) := rfl
@[simp] theorem okD_dT19 {xs : List Nat} : okD 19 (dT xs) = true := okD_dT
@[simp] theorem okD_list20 {xs : List PyData} : okD 20 (.list xs) = xs.all (okD 19) := rfl
@[simp] theorem okD_tuple20 {xs : List PyData} : okD 20 (.tuple xs) = xs.all (okD 19) := rfl
@[simp] theorem okD_dT20 {xs : List Nat} : okD 20 (dT xs) = true := okD_dT
@[simp] theorem okD_dO {k : Nat} {x : Option Nat} : okD k (dO x) = true := by cases x <;> simp
@[simp] theorem flat_dO {x : Option Nat} : flatD (dO x) = true := by cases x <;> rfl
@[simp] theorem w_order_order : ((("order" : Str)) == (("order" : Str))) = true := by decide
@[simp] theorem w_order_round : ((("order" : Str)) == (("round" : Str))) = false := by decide
@[simp] theorem w_order_cycle : ((("order" : Str)) == (("cycle" : Str))) = false := by decide
@[simp] theorem w_order_points : ((("order" : Str)) == (("points" : Str))) = false := by decide
@[simp] theorem w_order_oldest : ((("order" : Str)) == (("oldest" : Str))) = false := by decide
@[simp] theorem w_order_longest : ((("order" : Str)) == (("longest" : Str))) = false := by decide
@[simp] theorem w_round_order : ((("round" : Str)) == (("order" : Str))) = false := by decide
@[simp] theorem w_round_round : ((("round" : Str)) == (("round" : Str))) = true := by decide
@[simp] theorem w_round_cycle : ((("round" : Str)) == (("cycle" : Str))) = false := by decide
@[simp] theorem w_round_points : ((("round" : Str)) == (("points" : Str))) = false := by decide
@[simp] theorem w_round_oldest : ((("round" : Str)) == (("oldest" : Str))) = false := by decide
@[simp] theorem w_round_longest : ((("round" : Str)) == (("longest" : Str))) = false := by decide
@[simp] theorem w_cycle_order : ((("cycle" : Str)) == (("order" : Str))) = false := by decide
@[simp] theorem w_cycle_round : ((("cycle" : Str)) == (("round" : Str))) = false := by decide
@[simp] theorem w_cycle_cycle : ((("cycle" : Str)) == (("cycle" : Str))) = true := by decide
@[simp] theorem w_cycle_points : ((("cycle" : Str)) == (("points" : Str))) = false := by decide
@[simp] theorem w_cycle_oldest : ((("cycle" : Str)) == (("oldest" : Str))) = false := by decide
@[simp] theorem w_cycle_longest : ((("cycle" : Str)) == (("longest" : Str))) = false := by decide
@[simp] theorem w_points_order : ((("points" : Str)) == (("order" : Str))) = false := by decide
@[simp] theorem w_points_round : ((("points" : Str)) == (("round" : Str))) = false := by decide
@[simp] theorem w_points_cycle : ((("points" : Str)) == (("cycle" : Str))) = false := by decide
@[simp] theorem w_points_points : ((("points" : Str)) == (("points" : Str))) = true := by decide
@[simp] theorem w_points_oldest : ((("points" : Str)) == (("oldest" : Str))) = false := by decide
@[simp] theorem w_points_longest : ((("points" : Str)) == (("longest" : Str))) = false := by decide
@[simp] theorem w_oldest_order : ((("oldest" : Str)) == (("order" : Str))) = false := by decide
@[simp] theorem w_oldest_round : ((("oldest" : Str)) == (("round" : Str))) = false := by decide
@[simp] theorem w_oldest_cycle : ((("oldest" : Str)) == (("cycle" : Str))) = false := by decide
@[simp] theorem w_oldest_points : ((("oldest" : Str)) == (("points" : Str))) = false := by decide
@[simp] theorem w_oldest_oldest : ((("oldest" : Str)) == (("oldest" : Str))) = true := by decide
@[simp] theorem w_oldest_longest : ((("oldest" : Str)) == (("longest" : Str))) = false := by decide
@[simp] theorem w_longest_order : ((("longest" : Str)) == (("order" : Str))) = false := by decide
@[simp] theorem w_longest_round : ((("longest" : Str)) == (("round" : Str))) = false := by decide
@[simp] theorem w_longest_cycle : ((("longest" : Str)) == (("cycle" : Str))) = false := by decide
@[simp] theorem w_longest_points : ((("longest" : Str)) == (("points" : Str))) = false := by decide
@[simp] theorem w_longest_oldest : ((("longest" : Str)) == (("oldest" : Str))) = false := by decide
@[simp] theorem w_longest_longest : ((("longest" : Str)) == (("longest" : Str))) = true := by decide
@[simp] theorem k_order : PyData.strOk ("order" : Str) = true := by decide +kernel
@[simp] theorem k_round : PyData.strOk ("round" : Str) = true := by decide +kernel
@[simp] theorem k_cycle : PyData.strOk ("cycle" : Str) = true := by decide +kernel
@[simp] theorem k_points : PyData.strOk ("points" : Str) = true := by decide +kernel
@[simp] theorem k_oldest : PyData.strOk ("oldest" : Str) = true := by decide +kernel
@[simp] theorem k_longest : PyData.strOk ("longest" : Str) = true := by decide +kernel
end Qz
namespace Qz
open PySem PySem.Spec PyProof.Rows L2
/-! ### desks, in plain words -/
inductive Rule where
  | order (xs : List Nat)
  | round
  | cycle (xs : List Nat)
  | points (ps : List Nat)
  | oldest
  | longest
def Rule.d : Rule → PyData
  | .order xs => .tuple [.str "order", dT xs]
  | .round => .tuple [.str "round"]
  | .cycle xs => .tuple [.str "cycle", dT xs]
  | .points ps => .tuple [.str "points", dT ps]
  | .oldest => .tuple [.str "oldest"]
  | .longest => .tuple [.str "longest"]
def Rule.ok (n : Nat) : Rule → Prop
  | .order xs => xs.Perm (List.range n)
  | .cycle xs => xs.length ≤ 6 ∧ (∀ x ∈ xs, x < n) ∧ ∀ i, i < n → i ∈ xs
  | .points ps => ps.length = n ∧ ∀ p ∈ ps, p ≤ 4
  | _ => True
structure Desk where
  n : Nat
  room : Nat
  rule : Rule
def Desk.d (d : Desk) : PyData := .tuple [dN d.n, dN d.room, d.rule.d]
structure Desk.ok (d : Desk) : Prop where
  n1 : 1 ≤ d.n
  n3 : d.n ≤ 3
  r1 : 1 ≤ d.room
  r3 : d.room ≤ 3
  m6 : d.n * d.room ≤ 6
  ru : d.rule.ok d.n
structure ArrOk (n : Nat) (a : List Nat) : Prop where
  up : a.Pairwise (· < ·)
  lt : ∀ x ∈ a, x < n
/-! ### comprehensions that draw -/
theorem compL_inv {t : Tg} {te : FE} {vs : List Nat} (I : Sta → Prop) (P : OV → Prop) : ∀ (ds : List PyData) (L : Sta) (acc : List OV), I L → acc.length + ds.length ≤ sizeLine →
    (∀ d ∈ ds, ∀ L, I L → ∃ M M2 o M3, asg t d L = some M ∧ fArgs [te] M = some ([o], M2) ∧ wipeS M2 vs = some M3 ∧ P o ∧ I M3) →
    ∃ os L', compL t fYes te vs ds L acc = some (acc ++ os, L') ∧ os.length = ds.length ∧ (∀ o ∈ os, P o) ∧ I L'
  | [], L, acc, hL, _, _ => ⟨[], L, by simp [compL], rfl, by simp, hL⟩
  | d :: ds, L, acc, hL, hl, h => by
    obtain ⟨M, M2, o, M3, h1, h2, h3, h4, h5⟩ := h d (by simp) L hL
    have hl' : acc.length + (ds.length + 1) ≤ sizeLine := by simpa using hl
    obtain ⟨os, L', g1, g2, g3, g4⟩ := compL_inv I P ds M3 (acc ++ [o]) h5 (by simp; omega) fun d hd => h d (by simp [hd])
    refine ⟨o :: os, L', ?_, by simp [g2], fun p hp => ?_, g4⟩
    · unfold compL
      simp only [h1, fYes_ap, h2, h3]
      rw [if_pos (by omega), g1]
      simp
    · rcases List.mem_cons.mp hp with rfl | hp
      · exact h4
      · exact g3 p hp
theorem ex_list {α : Type} {f : α → OV} {Q : α → Prop} : ∀ os : List OV, (∀ o ∈ os, ∃ v, Q v ∧ o = f v) → ∃ vs : List α, os = vs.map f ∧ ∀ v ∈ vs, Q v
  | [], _ => ⟨[], rfl, by simp⟩
  | o :: os, h => by
    obtain ⟨v, h1, rfl⟩ := h o (by simp)
    obtain ⟨vs, rfl, h2⟩ := ex_list os fun p hp => h p (by simp [hp])
    exact ⟨v :: vs, rfl, fun w hw => by
      rcases List.mem_cons.mp hw with rfl | hw
      · exact h1
      · exact h2 w hw⟩
@[simp] theorem fCompO_ap {k : Nat} {t : Tg} {vs : List Nat} {tt : FT} {te : FE} {L : Sta} : fCompO k t vs tt te L = match L[k]? with
  | some (.ow (.nd .lst ks)) => match frs ks with
    | some ds => match wipeS (L.set k .no) vs with
      | some M0 => match compL t tt te vs ds M0 [] with
        | some (os, M') => some (.ow (.ls os), M'.set k (.ow (.ls ks)))
        | none => none
      | none => none
    | none => none
  | _ => none := rfl
@[simp] theorem fComp_ap {src : FI} {t : Tg} {vs : List Nat} {tt : FT} {te : FE} {L : Sta} : fComp src t vs tt te L = match src L with
  | some (ds, M) => match wipeS M vs with
    | some M0 => match compL t tt te vs ds M0 [] with
      | some (os, M') => some (.ow (.ls os), M')
      | none => none
    | none => none
  | none => none := rfl
theorem erase_perm {α : Type} : ∀ (l : List α) (n : Nat) (h : n < l.length), (l[n] :: l.eraseIdx n).Perm l
  | [], _, h => by simp at h
  | x :: xs, 0, _ => .refl _
  | x :: xs, n + 1, h => (List.Perm.swap x _ _).trans ((erase_perm xs n (by simpa using h)).cons x)
theorem erase_map {α β : Type} (f : α → β) : ∀ (l : List α) (n : Nat), (l.map f).eraseIdx n = (l.eraseIdx n).map f
  | [], _ => by simp
  | x :: xs, 0 => by simp
  | x :: xs, n + 1 => by simp [erase_map f xs n]
theorem comp_filter {α : Type} {src : FI} {t : Tg} {tt : FT} {te : FE} {vs : List Nat} {enc : α → PyData} {b : α → Bool} {o : α → OV} {L L0 : Sta} {xs : List α} (M : Sta) (hs : src L = some (xs.map enc, M)) (hw : wipeS M vs = some L0) (hl : xs.length ≤ sizeLine)
    (h : ∀ x ∈ xs, ∃ M, asg t (enc x) L0 = some M ∧ tt M = some (b x, M) ∧ (b x = true → fArgs [te] M = some ([o x], M)) ∧ wipeS M vs = some L0) : fComp src t vs tt te L = some (.ow (.ls ((xs.filter b).map o)), L0) := fComp_pure hs hw hl h
theorem comp_map {α : Type} {src : FI} {t : Tg} {te : FE} {vs : List Nat} {enc : α → PyData} {o : α → OV} {L L0 : Sta} {xs : List α} (M : Sta) (hs : src L = some (xs.map enc, M)) (hw : wipeS M vs = some L0) (hl : xs.length ≤ sizeLine)
    (h : ∀ x ∈ xs, ∃ M, asg t (enc x) L0 = some M ∧ fArgs [te] M = some ([o x], M) ∧ wipeS M vs = some L0) : fComp src t vs fYes te L = some (.ow (.ls (xs.map o)), L0) := by
  have := fComp_pure (b := fun _ => true) (o := o) (tt := fYes) (te := te) hs hw hl fun x hx => by
    obtain ⟨M, h1, h2, h3⟩ := h x hx
    exact ⟨M, h1, rfl, fun _ => h2, h3⟩
  rwa [List.filter_eq_self.mpr fun _ _ => rfl] at this
theorem len_ok {n : Nat} (h : n ≤ 1000) : n ≤ sizeLine := by rw [sizeLine_eq]; omega
@[simp] theorem sz1 : 1 ≤ sizeLine := by decide
@[simp] theorem sz2 : 2 ≤ sizeLine := by decide
@[simp] theorem sz3 : 3 ≤ sizeLine := by decide
@[simp] theorem sz4 : 4 ≤ sizeLine := by decide
theorem bools_map {α : Type} (p : α → Bool) (xs : List α) : bools (xs.map fun x => .bool (p x)) = some (xs.map p) := by
  induction xs with
  | nil => rfl
  | cons x xs ih => simp [bools, ih]
@[simp] theorem gAll_ls {os : List OV} : gAll (.nd .lst os) = (frs os).bind fun ds => (bools ds).map fun bs => .fr (.bool (bs.all id)) := rfl
@[simp] theorem gAny_ls {os : List OV} : gAny (.nd .lst os) = (frs os).bind fun ds => (bools ds).map fun bs => .fr (.bool (bs.any id)) := rfl
theorem intsD_nat (xs : List Nat) : intsD (xs.map dN) = some (xs.map fun (n : Nat) => (n : Int)) := by
  have := intsD_map (xs.map fun (n : Nat) => (n : Int))
  rwa [List.map_map] at this
theorem up_cast {xs : List Nat} (h : xs.Pairwise (· < ·)) : (xs.map fun (n : Nat) => (n : Int)).Pairwise (· < ·) := by
  rw [List.pairwise_map]
  exact h.imp fun h => by omega
theorem sdI_up_eq {xs : List Nat} (h : xs.Pairwise (· < ·)) : sdI (xs.map fun (n : Nat) => (n : Int)) = xs.map fun (n : Nat) => (n : Int) :=
  up_unique (sdI_up _) (up_cast h) fun _ => sdI_mem
theorem range_up (n : Nat) : (List.range n).Pairwise (· < ·) := List.pairwise_lt_range
theorem sdI_all {xs : List Nat} {n : Nat} (h : ∀ i, i ∈ xs ↔ i < n) : (sdI (xs.map fun (n : Nat) => (n : Int))).length = n := by
  have : sdI (xs.map fun (n : Nat) => (n : Int)) = (List.range n).map fun (n : Nat) => (n : Int) := up_unique (sdI_up _) (up_cast (range_up n)) fun k => by
    rw [sdI_mem]
    simp only [List.mem_map, List.mem_range]
    constructor
    · rintro ⟨a, ha, rfl⟩; exact ⟨a, (h a).mp ha, rfl⟩
    · rintro ⟨a, ha, rfl⟩; exact ⟨a, (h a).mpr ha, rfl⟩
  rw [this]; simp
theorem up_len : ∀ (a : List Nat) (k n : Nat), a.Pairwise (· < ·) → (∀ x ∈ a, k ≤ x ∧ x < n) → a.length ≤ n - k
  | [], _, _, _, _ => by simp
  | x :: xs, k, n, h, hb => by
    have h1 := List.pairwise_cons.mp h
    have hx := hb x (by simp)
    have := up_len xs (x + 1) n h1.2 fun y hy => ⟨h1.1 y hy, (hb y (by simp [hy])).2⟩
    simp
    omega
theorem arr_len {n : Nat} {a : List Nat} (h : ArrOk n a) : a.length ≤ n := by
  have := up_len a 0 n h.up fun x hx => ⟨by omega, h.lt x hx⟩
  omega
@[simp] theorem kids_dT {xs : List Nat} : kids (.fz (dT xs)) = some (true, xs.map dN) := rfl
@[simp] theorem gLen_dT {xs : List Nat} : gLen (.fz (dT xs)) = some (.fr (.int xs.length)) := by
  show (some (Res.fr (.int (xs.map dN).length))) = _
  rw [List.length_map]
@[simp] theorem ty_dT {xs : List Nat} : tyD (dT xs) = .tuple := rfl
end Qz
namespace Qz
open PySem PySem.Spec PyProof.Rows L2
/-! ### a root that is lent while its parts are read or changed -/
section
variable {G : Gp} {n m : Nat} {R R' H H' : Hp} {Fm Fm' : Fr} {its : List SV} {vals : List (Option V)} {ws : List V} {ps : List OV}
/-- an empty slot gets its own value back -/
theorem RelX.fill {v : V} {o : OV} {k : Nat} (x : RelX G n R Fm its vals H (v :: ws) (o :: ps)) (hk : its[k]? = some .no) (hv : vals[k]? = some (some v)) : RelX G n R Fm (its.set k (.ow o)) vals H ws ps := by
  obtain ⟨fp, B0, h1, h2, h3, h4, h5, h6, h7, h8⟩ := x.ex
  have hlt : k < its.length := (List.getElem?_eq_some_iff.mp hk).1
  cases h6 with
  | cons ho h6 =>
    rename_i A B
    have nd := List.nodup_append.mp h7
    refine ⟨by simp [x.len], x.rh, x.fh, x.dj, fun i => if i = k then A else fp i, B, fun i sv e => ?_, fun i hi => ?_, fun i => ?_, fun i j a hi hj => ?_, fun i a hi => ?_, h6, nd.2.1, fun a ha => ?_⟩
    · by_cases hi : i = k
      · subst hi
        rw [List.getElem?_set_self hlt] at e
        cases e
        simp only [if_pos rfl]
        exact ⟨v, hv, ho⟩
      · rw [List.getElem?_set_ne (Ne.symm hi)] at e
        simp only [if_neg hi]
        exact h1 i sv e
    · simp at hi
      simp only
      rw [if_neg (by omega)]; exact h2 i hi
    · simp only; split
      · exact nd.1
      · exact h3 i
    · simp only at hi hj
      by_cases ei : i = k <;> by_cases ej : j = k
      · rw [ei, ej]
      · rw [if_pos ei] at hi; rw [if_neg ej] at hj
        exact absurd hj ((h8 a (List.mem_append_left _ hi)).2.2 j)
      · rw [if_neg ei] at hi; rw [if_pos ej] at hj
        exact absurd hi ((h8 a (List.mem_append_left _ hj)).2.2 i)
      · rw [if_neg ei] at hi; rw [if_neg ej] at hj
        exact h4 i j a hi hj
    · simp only at hi
      split at hi
      · exact ⟨(h8 a (List.mem_append_left _ hi)).1, (h8 a (List.mem_append_left _ hi)).2.1⟩
      · exact h5 i a hi
    · refine ⟨(h8 a (List.mem_append_right _ ha)).1, (h8 a (List.mem_append_right _ ha)).2.1, fun i hi => ?_⟩
      simp only at hi
      split at hi
      · exact nd.2.2 a hi a ha rfl
      · exact (h8 a (List.mem_append_right _ ha)).2.2 i hi
end
abbrev Bk := Option (Nat × OV)
/-- what is lent: nothing, or the tree of a slot -/
def Held (G : Gp) (R : Hp) (Fm Fm' : Fr) (vals : List (Option V)) : Bk → Prop
  | none => Fm' = Fm
  | some (k, o) => ∃ vk, vals[k]? = some (some vk) ∧ Lent G R Fm Fm' [vk] [o]
def unl : Bk → Sta → Option Sta
  | none, M => some M
  | some (k, o), M => match M[k]? with
    | some .no => some (M.set k (.ow o))
    | _ => none
abbrev FR := Sta → Option ((OV × Bk) × Sta)
section
variable {G : Gp} {m : Nat} {R R2 H : Hp} {Fm Fm' : Fr} {M M' T : Sta} {σ : L2.St} {τ τ2 : List (Option V)} {b : Bk}
theorem At.unl (x : At G m R2 Fm' M T σ (τ ++ τ2) H) (h : Held G R Fm Fm' (σ ++ τ) b) (s : Same R R2) (e : unl b M = some M') : At G m R2 Fm M' T σ (τ ++ τ2) H := by
  cases b with
  | none =>
    cases e
    have h' : Fm' = Fm := h
    subst h'
    exact x
  | some ko =>
    obtain ⟨k, o⟩ := ko
    obtain ⟨vk, hv, l⟩ := h
    unfold Qz.unl at e
    simp only at e
    split at e
    · rename_i hk
      cases e
      have hlt : k < M.length := (List.getElem?_eq_some_iff.mp hk).1
      have y := x.rel.back l s
      have z := y.fill (k := k) (by rw [List.getElem?_append_left hlt]; exact hk) (by rw [← List.append_assoc, List.getElem?_append_left (List.getElem?_eq_some_iff.mp hv).1]; exact hv)
      rw [List.set_append_left _ _ hlt] at z
      exact ⟨x.sl, by simpa using x.ge, by simpa using z⟩
    · cases e
/-- a part that is read: its content stands in what is kept -/
def tR (G : Gp) (m : Nat) (f : FR) : TE := fun σ H Q => ∃ R Fm L T τ, At G m R Fm L T σ τ H ∧ ∃ c b M, f L = some ((c, b), M) ∧
  ∀ R' Fm' v H', Same R R' → At G m R' Fm' M T σ τ H' → Held G R' Fm Fm' (σ ++ τ) b → (∃ A, Ow G R' (un Fm'.fm R') v c A) → Q v H'
abbrev PRd (X : Cx) (e : Expr) (f : FR) : Prop := PE X e (tR (gp X) X.N.length f)
theorem Ow.up {v : V} {c : OV} {A : List Addr} {F R3 : Hp} (h : Ow G R (un F R) v c A) (s : Same R R3) : Ow G R3 (un F R3) v c A := (h.mono s).frame (frz_same (un_same s)) fun b _ o q => un_same s b o q
theorem Ow.lift {v : V} {c : OV} {A : List Addr} {F R3 : Hp} (h : Ow G R (un F R) v c A) (s : Same R R3) (t : Same F H) (r : Same R3 H) : Ow G R3 H v c A := (h.up s).frame (frz_same (un_to t r)) fun b _ o q => un_to t r b o q
end
def frName (i : Nat) : FR := fun L => match L[i]? with
  | some (.ow o) => some ((o, some (i, o)), L.set i .no)
  | some (.bo o) => some ((o, none), L)
  | some (.fb o) => some ((o, none), L)
  | _ => none
section
variable {X : Cx} {a b c : Expr} {fa fb fc : FE} {pos : Pos} {fr : FR}
theorem At.lendK {G : Gp} {m : Nat} {R H : Hp} {Fm : Fr} {L T : Sta} {σ : L2.St} {τ : List (Option V)} {i : Nat} {o : OV} (x : At G m R Fm L T σ τ H) (hi : i < σ.length) (e : L[i]? = some (.ow o)) :
    ∃ v Fm', σ[i]? = some (some v) ∧ (σ ++ τ)[i]? = some (some v) ∧ Lent G R Fm Fm' [v] [o] ∧ At G m R Fm' (L.set i .no) T σ τ H := by
  have hL : i < L.length := Nat.lt_of_lt_of_le hi x.ge
  obtain ⟨v, ev, y⟩ := x.rel.moveOut (k := i) (o := o) (by rw [List.getElem?_append_left hL]; exact e)
  obtain ⟨Fm', l, z⟩ := y.lendB
  rw [List.set_append_left _ _ hL] at z
  exact ⟨v, Fm', by rw [List.getElem?_append_left hi] at ev; exact ev, ev, l, x.sl, by simpa using x.ge, by simpa using z⟩
theorem r_name (i : Nat) {x : Str} (hN : X.N[i]? = some x := by rfl) (hv : Vis X.env.scope x := by first | exact Or.inl rfl | exact Or.inr (Or.inl rfl) | exact Or.inr (Or.inr rfl)) (hd : (x == ("__debug__" : Str)) = false := by decide)
    (hcd : (x == ("__classdict__" : Str)) = false := by decide) : PRd X (.Name x pos) (frName i) := by
  refine imp (pe_var hN hv hd hcd) fun σ H Q h => ?_
  obtain ⟨R, Fm, L, T, τ, y, c, b, M, e, q⟩ := h
  have hi : i < σ.length := by rw [y.sl]; exact (List.getElem?_eq_some_iff.mp hN).1
  have hL : i < L.length := Nat.lt_of_lt_of_le hi y.ge
  unfold frName at e
  split at e
  · rename_i o eo
    cases e
    obtain ⟨v, Fm', e1, e2, l, z⟩ := y.lendK hi eo
    obtain ⟨B, k1, _, _⟩ := l.own
    exact ⟨v, e1, q R Fm' v H (Same.refl R) z ⟨v, e2, l⟩ ⟨B, k1.one'.frame (frz_same un_F) fun b _ o q => un_F b o q⟩⟩
  · rename_i o eo
    cases e
    obtain ⟨fp, B, h1, _⟩ := y.rel.ex
    obtain ⟨_, v, B', e1, e2⟩ := h1 i _ (by rw [List.getElem?_append_left hL]; exact eo)
    exact ⟨v, by rw [List.getElem?_append_left hi] at e1; exact e1, q R Fm v H (Same.refl R) y rfl ⟨B', e2.frame (frz_same (un_mono Fm.sub y.rel.dj.1)) fun b _ o q => un_mono Fm.sub y.rel.dj.1 b o q⟩⟩
  · rename_i o eo
    cases e
    obtain ⟨fp, B, h1, _⟩ := y.rel.ex
    obtain ⟨_, v, B', e1, e2⟩ := h1 i _ (by rw [List.getElem?_append_left hL]; exact eo)
    exact ⟨v, by rw [List.getElem?_append_left hi] at e1; exact e1, q R Fm v H (Same.refl R) y rfl ⟨B', e2.frame (frz_same (un_R y.rel.dj.1)) fun b _ o q => un_R y.rel.dj.1 b o q⟩⟩
  · cases e
/-- a child of a list or a tuple -/
def rkid : OV → Int → Option OV
  | .nd .lst os, i => atI os i
  | .fz (.list ds), i => (atI ds i).map .fz
  | .fz (.tuple ds), i => (atI ds i).map .fz
  | _, _ => none
def frIx (fr : FR) (fi : FE) : FR := fun L => match fr L with
  | some ((c, b), M) => match fi M with
    | some (r, M2) => match con M2 r with
      | some (.fz (.int i)) => match rkid c i with
        | some c' => some ((c', b), M2)
        | none => none
      | _ => none
    | none => none
  | none => none
theorem Held.mono {G : Gp} {R R' : Hp} {Fm Fm' : Fr} {vals : List (Option V)} {b : Bk} (s : Same R R') (h : Held G R Fm Fm' vals b) : Held G R' Fm Fm' vals b := by
  cases b with
  | none => exact h
  | some ko =>
    obtain ⟨vk, h1, l⟩ := h
    obtain ⟨B, k1, k2, k3⟩ := l.own
    exact ⟨vk, h1, l.bo, l.sub, B, k1.mono s, k2, k3⟩
theorem rkid_run {K : PySem.W.Frag} {P : Program} {w : World} {R H Hf : Hp} {v : V} {c c' : OV} {i : Int} {A : List Addr} {Q : VK} (h : Ow ⟨K, P, w⟩ R Hf v c A) (s : Same R H) (t : Same Hf H) (e : rkid c i = some c') (q : ∀ z A', Ow ⟨K, P, w⟩ R Hf z c' A' → Q z H) :
    (∃ l vs i' z, v = .ref l ∧ V.int i = .int i' ∧ SqL K H l vs ∧ atI vs i' = some z ∧ Q z H) ∨ (∃ l vs i' z, v = .ref l ∧ V.int i = .int i' ∧ SqT K H l vs ∧ atI vs i' = some z ∧ Q z H) := by
  unfold rkid at e
  split at e
  · rename_i os
    cases h with
    | nd n l =>
      cases n with
      | lst hh =>
        rename_i a vs A'
        unfold atI at e
        obtain ⟨j, ej, eo⟩ := Option.bind_eq_some_iff.mp e
        obtain ⟨z, A1, A2, A3, e1, h2, _⟩ := l.get eo
        refine .inl ⟨a, vs, i, z, rfl, rfl, SqL.of (t _ _ hh), ?_, q z A2 h2⟩
        unfold atI
        rw [l.length, ej]
        exact e1
  · rename_i ds
    cases h with
    | fz h =>
      cases h with
      | lst hh r =>
        obtain ⟨d, e1, e2⟩ := Option.map_eq_some_iff.mp e
        subst e2
        obtain ⟨z, ez, hz⟩ := atI_rp r e1
        exact .inl ⟨_, _, i, z, rfl, rfl, SqL.of (s _ _ hh), ez, q z [] (.fz hz)⟩
  · rename_i ds
    cases h with
    | fz h =>
      cases h with
      | tup hh r =>
        obtain ⟨d, e1, e2⟩ := Option.map_eq_some_iff.mp e
        subst e2
        obtain ⟨z, ez, hz⟩ := atI_rp r e1
        exact .inr ⟨_, _, i, z, rfl, rfl, SqT.of (s _ _ hh), ez, q z [] (.fz hz)⟩
  · cases e
theorem r_ix (ha : PRd X a fr) (hb : PEd X b fb) (hs : PlainIx b := by exact fun _ _ => rfl) : PRd X (.Subscript a b pos) (frIx fr fb) :=
  imp (pe_ix (ix_list.or ix_tup) ha hb hs) (by
    rintro σ H Q ⟨R, Fm, L, T, τ, x, c, bk, M, e, q⟩
    unfold frIx at e
    split at e
    · rename_i c1 b1 M1 e1
      split at e
      · rename_i r M2 e2
        split at e
        · rename_i i ei
          split at e
          · rename_i c' ec
            cases e
            refine ⟨R, Fm, L, T, τ, x, c1, _, M1, e1, fun R1 Fm1 v H1 s1 x1 hh ⟨A, ho⟩ => ⟨R1, Fm1, M1, T, τ, x1, r, _, e2, fun R2 u H2 s2 x2 => ?_⟩⟩
            obtain ⟨B, hi⟩ := x2.con ei
            cases hi.int
            exact rkid_run (ho.up s2) x2.rel.rh (un_to x2.rel.fh x2.rel.rh) ec fun z A' hz => q R2 Fm1 z H2 (s1.trans s2) x2.drop (hh.mono s2) ⟨A', hz⟩
          · cases e
        · cases e
      · cases e
    · cases e)
/-! consumers -/
def fR1 (g : OV → Option Res) (fr : FR) : FE := fun L => match fr L with
  | some ((c, b), M) => match g c with
    | some d => match unl b M with
      | some M' => some (.ow d.ov, M')
      | none => none
    | none => none
  | none => none
def fR2 (g : OV → OV → Option Res) (fr : FR) (fb : FE) : FE := fun L => match fr L with
  | some ((c, b), M) => match fb M with
    | some (r, M2) => match con M2 r with
      | some y => match g c y with
        | some d => match unl b M2 with
          | some M' => some (.ow d.ov, M')
          | none => none
        | none => none
      | none => none
    | none => none
  | none => none
/-- the second operand is the part -/
def fR2' (g : OV → OV → Option Res) (fa : FE) (fr : FR) : FE := fun L => match fa L with
  | some (r, M1) => match fr M1 with
    | some ((c, b), M) => match con M r with
      | some y => match g y c with
        | some d => match unl b M with
          | some M' => some (.ow d.ov, M')
          | none => none
        | none => none
      | none => none
    | none => none
  | none => none
section
variable {G : Gp} {m : Nat}
theorem runR1 {g : OV → Option Res} {fr : FR} {k : V → Hp → VK → Prop} (hk : ∀ R H v a A d Q, Same R H → Ow G R H v a A → g a = some d → New R H Q d → k v H Q) :
    ∀ σ H Q, tE G m (fR1 g fr) σ H Q → tR G m fr σ H fun x H1 => k x H1 Q := by
  rintro σ H Q ⟨R, Fm, L, T, τ, x, r, L', e, q⟩
  unfold fR1 at e
  split at e
  · rename_i c b M ea
    split at e
    · rename_i d ed
      split at e
      · rename_i M' eu
        cases e
        refine ⟨R, Fm, L, T, τ, x, c, b, M, ea, fun R1 Fm1 v H1 s1 x1 hh ⟨A, ho⟩ => ?_⟩
        refine hk R1 H1 v c A d Q x1.rel.rh (ho.lift (Same.refl _) x1.rel.fh x1.rel.rh) ed (x1.new fun R' u H' s y => ?_)
        exact q R' u H' (s1.trans s) (y.unl (hh.mono s) (Same.refl _) eu)
      · cases e
    · cases e
  · cases e
theorem runR2 {g : OV → OV → Option Res} {fr : FR} {fb : FE} {k : V → V → Hp → VK → Prop} (hk : ∀ R H v u a b A B d Q, Same R H → Ow G R H v a A → Ow G R H u b B → g a b = some d → New R H Q d → k v u H Q) :
    ∀ σ H Q, tE G m (fR2 g fr fb) σ H Q → tR G m fr σ H fun x H1 => tE G m fb σ H1 fun y H2 => k x y H2 Q := by
  rintro σ H Q ⟨R, Fm, L, T, τ, x, r, L', e, q⟩
  unfold fR2 at e
  split at e
  · rename_i c b M ea
    split at e
    · rename_i r2 M2 e2
      split at e
      · rename_i y ey
        split at e
        · rename_i d ed
          split at e
          · rename_i M' eu
            cases e
            refine ⟨R, Fm, L, T, τ, x, c, b, M, ea, fun R1 Fm1 v H1 s1 x1 hh ⟨A, ho⟩ => ⟨R1, Fm1, M, T, τ, x1, r2, M2, e2, fun R2 u H2 s2 x2 => ?_⟩⟩
            obtain ⟨B, hy⟩ := x2.con ey
            refine hk R2 H2 v u c y A B d Q x2.rel.rh (ho.lift s2 x2.rel.fh x2.rel.rh) hy ed (x2.drop.new fun R' u H' s y => ?_)
            exact q R' u H' (s1.trans (s2.trans s)) (y.unl (hh.mono (s2.trans s)) (Same.refl _) eu)
          · cases e
        · cases e
      · cases e
    · cases e
  · cases e
theorem runR2' {g : OV → OV → Option Res} {fr : FR} {fa : FE} {k : V → V → Hp → VK → Prop} (hk : ∀ R H v u a b A B d Q, Same R H → Ow G R H v a A → Ow G R H u b B → g a b = some d → New R H Q d → k v u H Q) :
    ∀ σ H Q, tE G m (fR2' g fa fr) σ H Q → tE G m fa σ H fun x H1 => tR G m fr σ H1 fun y H2 => k x y H2 Q := by
  rintro σ H Q ⟨R, Fm, L, T, τ, x, r, L', e, q⟩
  unfold fR2' at e
  split at e
  · rename_i r1 M1 ea
    split at e
    · rename_i c b M e2
      split at e
      · rename_i y ey
        split at e
        · rename_i d ed
          split at e
          · rename_i M' eu
            cases e
            refine ⟨R, Fm, L, T, τ, x, r1, M1, ea, fun R1 v H1 s1 x1 => ⟨R1, Fm, M1, _, _, x1, c, b, M, e2, fun R2 Fm1 u H2 s2 x2 hh ⟨A, ho⟩ => ?_⟩⟩
            obtain ⟨B, hy⟩ := x2.con ey
            refine hk R2 H2 v u y c B A d Q x2.rel.rh hy (ho.lift (Same.refl _) x2.rel.fh x2.rel.rh) ed (x2.drop.new fun R' w H' s y => ?_)
            have hh' : Held G R' Fm Fm1 (σ ++ τ) b := by
              have h3 := hh.mono s
              cases b with
              | none => exact h3
              | some ko =>
                obtain ⟨k, o⟩ := ko
                obtain ⟨vk, h4, l⟩ := h3
                refine ⟨vk, ?_, l⟩
                -- the slot lies among the slots
                have hkM : k < M.length := by
                  unfold Qz.unl at eu
                  simp only at eu
                  split at eu
                  · rename_i hk; exact (List.getElem?_eq_some_iff.mp hk).1
                  · cases eu
                have ln := x2.lens
                have ge := x2.ge
                simp at ln
                rw [← List.append_assoc] at h4
                by_cases hlt : k < (σ ++ τ).length
                · rw [List.getElem?_append_left hlt] at h4; exact h4
                · simp at hlt; omega
            exact q R' w H' (s1.trans (s2.trans s)) (y.unl hh' (Same.refl _) eu)
          · cases e
        · cases e
      · cases e
    · cases e
  · cases e
end
/-- len of a part -/
def gLenR : OV → Option Res
  | .nd .lst os => some (.fr (.int os.length))
  | o => gLen o
theorem gLenR_run {K : PySem.W.Frag} {P : Program} {w : World} : ∀ R H v a A d Q, Same R H → Ow ⟨K, P, w⟩ R H v a A → gLenR a = some d → New R H Q d → ((∃ l vs, [v] = [V.ref l] ∧ (SqL K H l vs ∨ SqT K H l vs) ∧ Q (.int vs.length) H) ∨ ∃ x, [v] = [V.str x] ∧ x.length ≤ sizeLine ∧ Q (.int x.length) H) := by
  intro R H v a A d Q s ha e q
  unfold gLenR at e
  split at e
  · rename_i os
    cases e
    cases ha with
    | nd n l =>
      cases n with
      | lst h =>
        refine .inl ⟨_, _, rfl, .inl (SqL.of h), ?_⟩
        rw [l.length]
        exact q.1 _ (.int _)
  · unfold gLen at e
    split at e
    · rename_i x _
      split at e
      · rename_i h
        cases e; cases ha.str
        exact .inr ⟨_, rfl, h, q.1 _ (.int _)⟩
      · cases e
    · obtain ⟨⟨k, ds⟩, e1, e2⟩ := Option.map_eq_some_iff.mp e
      subst e2
      obtain ⟨l, vs, rfl, rr, h⟩ := ha.kd s e1
      refine .inl ⟨l, vs, rfl, h.imp And.right And.right, ?_⟩
      rw [rr.length]
      exact q.1 _ (.int _)
theorem d_lenR {p : Pos} (hg : Gl X "len") (hm : X.mg "len" = none) (ha : PRd X a fr) (he : starEach [a] X.env = (false, eval a X.env) :: starEach [] X.env := by rfl) : PEd X (.Call (.Name "len" p) [a] [] pos) (fR1 gLenR fr) :=
  imp (pe_callB (call_len_seq.or call_len_str) hg hm PySem.boot_len (pa_cons ha pa_nil he) (by decide) (by decide) he) (runR1 (k := fun v H Q => _) gLenR_run)
theorem mkCmpR {op : CmpOp} {r : R2} {g : OV → OV → Option Res} (ho : OpR X (compareOp op) r) (hm : behindInMarks op b = false)
    (hk : ∀ R H v u a b A B d Q, Same R H → Ow (gp X) R H v a A → Ow (gp X) R H u b B → g a b = some d → New R H Q d → r v u H Q) (ha : PRd X a fr) (hb : PEd X b fb) : PEd X (.Compare a [op] [b] pos) (fR2 g fr fb) :=
  imp (pe_cmpR ho ha hb hm) (runR2 hk)
theorem mkCmpRT {op : CmpOp} {r : R2} {g : OV → OV → Option Res} (ho : OpR X (compareOp op) r) (hm : behindInMarks op b = false)
    (hk : ∀ R H v u a b A B d Q, Same R H → Ow (gp X) R H v a A → Ow (gp X) R H u b B → g a b = some d → New R H Q d → r v u H Q) (ha : PRd X a fr) (hb : PEd X b fb) : PTd X (.Compare a [op] [b] pos) (fB (fR2 g fr fb)) :=
  impT (pt_cmpR ho ha hb hm) fun σ H Q h => runR2 hk σ H _ (tB_of σ H Q h)
theorem d_neR (hu : X.A.units + 64 < cLine) (ha : PRd X a fr) (hb : PEd X b fb) : PEd X (.Compare a [.NotEq] [b] pos) (fR2 gNe fr fb) := mkCmpR (op_neD hu) (nomark _) gNe_run ha hb
theorem d_eqR (hu : X.A.units + 64 < cLine) (ha : PRd X a fr) (hb : PEd X b fb) : PEd X (.Compare a [.Eq] [b] pos) (fR2 gEq fr fb) := mkCmpR (op_eqD hu) (nomark _) gEq_run ha hb
theorem t_neR (hu : X.A.units + 64 < cLine) (ha : PRd X a fr) (hb : PEd X b fb) : PTd X (.Compare a [.NotEq] [b] pos) (fB (fR2 gNe fr fb)) := mkCmpRT (op_neD hu) (nomark _) gNe_run ha hb
theorem t_eqR (hu : X.A.units + 64 < cLine) (ha : PRd X a fr) (hb : PEd X b fb) : PTd X (.Compare a [.Eq] [b] pos) (fB (fR2 gEq fr fb)) := mkCmpRT (op_eqD hu) (nomark _) gEq_run ha hb
/-- part[i], where what lies there is frozen -/
def gIxR : OV → OV → Option Res
  | a, .fz (.int i) => match rkid a i with
    | some (.fz d) => some (.fr d)
    | _ => none
  | _, _ => none
theorem d_ixR (ha : PRd X a fr) (hb : PEd X b fb) (hs : PlainIx b := by exact fun _ _ => rfl) : PEd X (.Subscript a b pos) (fR2 gIxR fr fb) :=
  imp (pe_ix (ix_list.or ix_tup) ha hb hs) (runR2 fun R H v u a b A B d Q s ha hb e q => by
    unfold gIxR at e
    split at e
    · rename_i i
      cases hb.int
      split at e
      · rename_i d' ed
        cases e
        exact rkid_run ha s (Same.refl _) ed fun z A' hz => by
          cases hz with
          | fz hz => exact q.1 z hz
      · cases e
    · cases e)
end
end Qz
namespace Qz
open PySem PySem.Spec PyProof.Rows L2
/-! ### places in a tree -/
def OV.at : OV → List Nat → Option OV
  | o, [] => some o
  | .nd _ os, j :: p => match os[j]? with
    | some c => OV.at c p
    | none => none
  | .fz _, _ :: _ => none
  | .fo _, _ :: _ => none
def OV.pt : OV → List Nat → OV → OV
  | _, [], n => n
  | .nd k os, j :: p, n => match os[j]? with
    | some c => .nd k (os.set j (OV.pt c p n))
    | none => .nd k os
  | .fz d, _ :: _, _ => .fz d
  | .fo d, _ :: _, _ => .fo d
section
variable {G : Gp} {R R' H H' Hf : Hp}
/-- the tree o at vk has c at p, its value v -/
def Focus (G : Gp) (R H : Hp) (vk : V) (o : OV) (B : List Addr) (p : List Nat) (v : V) (c : OV) : Prop :=
  ∃ Bc Bo, Ow G R H v c Bc ∧ B.Perm (Bc ++ Bo) ∧ ∀ R' H' c' Bc', Same R R' → Frz H H' → (∀ b ∈ Bo, ∀ x, H b = some x → H' b = some x) → Ow G R' H' v c' Bc' → ∃ B', Ow G R' H' vk (o.pt p c') B' ∧ B'.Perm (Bc' ++ Bo)
theorem Focus.root {vk : V} {o : OV} {B : List Addr} (h : Ow G R H vk o B) : Focus G R H vk o B [] vk o :=
  ⟨B, [], h, by simp, fun R' H' c' Bc' s f g ho => ⟨Bc', by cases o <;> exact ho, by simp⟩⟩
theorem OwL.setV {vs : List V} {os : List OV} {j : Nat} {c' : OV} {u : V} {A1 A2 A3 : List Addr} (hu : vs[j]? = some u) (hj : j < os.length) (h1 : OwL G R H (vs.take j) (os.take j) A1) (h2 : Ow G R H u c' A2) (h3 : OwL G R H (vs.drop (j + 1)) (os.drop (j + 1)) A3) :
    OwL G R H vs (os.set j c') (A1 ++ (A2 ++ A3)) := by
  have hv : j < vs.length := (List.getElem?_eq_some_iff.mp hu).1
  have e1 : vs = vs.take j ++ (u :: vs.drop (j + 1)) := by
    have := (List.getElem?_eq_some_iff.mp hu).2
    rw [← this]; simp
  have e2 : os.set j c' = os.take j ++ (c' :: os.drop (j + 1)) := by
    rw [List.set_eq_take_append_cons_drop, if_pos hj]
  rw [e2]
  generalize hts : vs.take j = ts at h1
  generalize hds : vs.drop (j + 1) = dd at h3
  rw [e1, hts, hds]
  exact h1.append (.cons h2 h3)
/-- one step down -/
theorem Ow.child {v : V} {k : Kd} {os : List OV} {B : List Addr} (h : Ow G R H v (.nd k os) B) : ∃ a vs B0 A, v = .ref a ∧ Nd G R H a k vs B0 ∧ OwL G R H vs os A ∧ B = B0 ++ A := by
  cases h with
  | nd n l => exact ⟨_, _, _, _, rfl, n, l, rfl⟩
theorem pt_step : ∀ {o : OV} {p : List Nat} {k : Kd} {os : List OV} {j : Nat} {c' : OV} {cj : OV}, o.at p = some (.nd k os) → os[j]? = some cj → o.pt (p ++ [j]) c' = o.pt p (.nd k (os.set j c'))
  | .nd k0 os0, [], k, os, j, c', cj, e, ej => by
    simp only [OV.at, Option.some.injEq, OV.nd.injEq] at e
    obtain ⟨rfl, rfl⟩ := e
    simp [OV.pt, ej]
  | .fz d, [], k, os, j, c', cj, e, ej => by simp [OV.at] at e
  | .fz d, _ :: _, k, os, j, c', cj, e, ej => by simp [OV.at] at e
  | .fo d, [], k, os, j, c', cj, e, ej => by simp [OV.at] at e
  | .fo d, _ :: _, k, os, j, c', cj, e, ej => by simp [OV.at] at e
  | .nd k0 os0, i :: p, k, os, j, c', cj, e, ej => by
    simp only [OV.at] at e
    split at e
    · rename_i c ec
      simp only [List.cons_append, OV.pt, ec]
      rw [pt_step e ej]
    · cases e
theorem at_step : ∀ {o : OV} {p : List Nat} {k : Kd} {os : List OV} {j : Nat} {cj : OV}, o.at p = some (.nd k os) → os[j]? = some cj → o.at (p ++ [j]) = some cj
  | .nd k0 os0, [], k, os, j, cj, e, ej => by
    simp only [OV.at, Option.some.injEq, OV.nd.injEq] at e
    obtain ⟨rfl, rfl⟩ := e
    simp [OV.at, ej]
  | .fz d, [], k, os, j, cj, e, ej => by simp [OV.at] at e
  | .fz d, _ :: _, k, os, j, cj, e, ej => by simp [OV.at] at e
  | .fo d, [], k, os, j, cj, e, ej => by simp [OV.at] at e
  | .fo d, _ :: _, k, os, j, cj, e, ej => by simp [OV.at] at e
  | .nd k0 os0, i :: p, k, os, j, cj, e, ej => by
    simp only [OV.at] at e
    split at e
    · rename_i c ec
      simp only [List.cons_append, OV.at, ec]
      exact at_step e ej
    · cases e
/-- the node under the focus, and its children's focus -/
theorem Focus.node {vk v : V} {o : OV} {B : List Addr} {p : List Nat} {k : Kd} {os : List OV} (f : Focus G R H vk o B p v (.nd k os)) (ho : o.at p = some (.nd k os)) : ∃ a vs B0, v = .ref a ∧ Nd G R H a k vs B0 ∧ (∃ A, OwL G R H vs os A) ∧
    ∀ (j : Nat) (cj : OV), os[j]? = some cj → ∃ u, vs[j]? = some u ∧ Focus G R H vk o B (p ++ [j]) u cj := by
  obtain ⟨Bc, Bo, h1, h2, h3⟩ := f
  obtain ⟨a, vs, B0, A, rfl, hn, hl, rfl⟩ := h1.child
  refine ⟨a, vs, B0, rfl, hn, ⟨A, hl⟩, fun j cj ej => ?_⟩
  obtain ⟨u, A1, A2, A3, e1, g2, rfl, g1, g3⟩ := hl.get ej
  refine ⟨u, e1, A2, B0 ++ (A1 ++ A3) ++ Bo, g2, h2.trans ?_, fun R' H' c' Bc' s fz fr ho' => ?_⟩
  · have : (B0 ++ (A1 ++ (A2 ++ A3))).Perm (A2 ++ (B0 ++ (A1 ++ A3))) := by
      refine List.Perm.trans ?_ (List.perm_append_comm_assoc B0 A2 (A1 ++ A3))
      exact List.Perm.append_left B0 (List.perm_append_comm_assoc A1 A2 A3)
    have q := this.append_right Bo
    rw [List.append_assoc A2] at q
    exact q
  · have fr1 : ∀ b ∈ B0, ∀ x, H b = some x → H' b = some x := fun b hb => fr b (by simp [hb])
    have fr2 : ∀ b ∈ A1, ∀ x, H b = some x → H' b = some x := fun b hb => fr b (by simp [hb])
    have fr3 : ∀ b ∈ A3, ∀ x, H b = some x → H' b = some x := fun b hb => fr b (by simp [hb])
    have nl := OwL.setV (os := os) (c' := c') e1 (List.getElem?_eq_some_iff.mp ej).1 ((g1.mono s).frame fz fr2) ho' ((g3.mono s).frame fz fr3)
    obtain ⟨B', q1, q2⟩ := h3 R' H' (.nd k (os.set j c')) (B0 ++ (A1 ++ (Bc' ++ A3))) s fz (fun b hb => fr b (by simp [hb])) (.nd ((hn.mono s).frame fz fr1) nl)
    refine ⟨B', by rw [pt_step ho ej]; exact q1, q2.trans ?_⟩
    have : (B0 ++ (A1 ++ (Bc' ++ A3))).Perm (Bc' ++ (B0 ++ (A1 ++ A3))) := by
      refine List.Perm.trans ?_ (List.perm_append_comm_assoc B0 Bc' (A1 ++ A3))
      exact List.Perm.append_left B0 (List.perm_append_comm_assoc A1 Bc' A3)
    have q := this.append_right Bo
    rw [List.append_assoc Bc'] at q
    exact q
/-- a root lent, and a place in it -/
structure LentP (G : Gp) (R : Hp) (Fm Fm' : Fr) (vk : V) (o : OV) (p : List Nat) (v : V) (c : OV) : Prop where
  bo : Fm'.bo = Fm.bo
  sub : Same Fm.fm Fm'.fm
  at_ : o.at p = some c
  own : ∃ B, Ow G R Fm'.fm vk o B ∧ B.Nodup ∧ (∀ a ∈ B, Fm.fm a = none) ∧ Focus G R Fm'.fm vk o B p v c
theorem Focus.mono {vk v : V} {o c : OV} {B : List Addr} {p : List Nat} (s : Same R R') (f : Focus G R H vk o B p v c) : Focus G R' H vk o B p v c := by
  obtain ⟨Bc, Bo, h1, h2, h3⟩ := f
  exact ⟨Bc, Bo, h1.mono s, h2, fun R2 H2 c' Bc' s2 => h3 R2 H2 c' Bc' (s.trans s2)⟩
theorem LentP.mono {Fm Fm' : Fr} {vk v : V} {o c : OV} {p : List Nat} (s : Same R R') (l : LentP G R Fm Fm' vk o p v c) : LentP G R' Fm Fm' vk o p v c := by
  obtain ⟨B, h1, h2, h3, h4⟩ := l.own
  exact ⟨l.bo, l.sub, l.at_, B, h1.mono s, h2, h3, h4.mono s⟩
end
section
variable {G : Gp} {n : Nat} {R R2 H : Hp} {Fm Fm' : Fr} {its : List SV} {vals : List (Option V)} {ws : List V} {ps : List OV}
/-- the node under the focus gets another content -/
theorem RelX.mutF {vk v : V} {o : OV} {p : List Nat} {kd : Kd} {os : List OV} {k : Nat} (x : RelX G n R2 Fm' its vals H ws ps) (l : LentP G R Fm Fm' vk o p v (.nd kd os)) (s : Same R R2) (hk : its[k]? = some .no) (hv : vals[k]? = some (some vk)) (hkd : kd ≠ .scr) :
    ∃ a vs B0, v = .ref a ∧ Nd G R2 H a kd vs B0 ∧ vs.length = os.length ∧ (∃ A, OwL G R2 H vs os A) ∧ ∀ (ob : HO) (kd' : Kd) (vs' ws' : List V) (os' ps' : List OV), (∀ oo u, ob ≠ .frz oo u) → Nd G R2 (upd H a ob) a kd' vs' B0 →
      (∀ A B, OwL G R2 H vs os A → OwL G R2 H ws ps B → ∃ A' B' C, OwL G R2 H vs' os' A' ∧ OwL G R2 H ws' ps' B' ∧ (A ++ B).Perm (A' ++ (B' ++ C))) →
      RelX G n R2 Fm (its.set k (.ow (o.pt p (.nd kd' os')))) vals (upd H a ob) ws' ps' := by
  obtain ⟨B, ho, ndB, fB, f⟩ := (l.mono s).own
  obtain ⟨Bc, Bo, h1, h2, h3⟩ := f
  obtain ⟨a, vs, B0, A, rfl, hn, hl, rfl⟩ := h1.child
  have sub' : Same Fm'.fm H := x.fh
  have hn' : Nd G R2 H a kd vs B0 := hn.frame (frz_same sub') fun b _ u q => sub' b u q
  have hl' : OwL G R2 H vs os A := hl.frame (frz_same sub') fun b _ u q => sub' b u q
  refine ⟨a, vs, B0, rfl, hn', hl.length, ⟨A, hl'⟩, fun ob kd' vs' ws' os' ps' nf hnd fn => ?_⟩
  obtain ⟨fp, Bw, g1, g2, g3, g4, g5, g6, g7, g8⟩ := x.ex
  obtain ⟨A', B', C, k1, k2, pm⟩ := fn A Bw hl' g6
  have hlt : k < its.length := (List.getElem?_eq_some_iff.mp hk).1
  have aB0 : a ∈ B0 := by
    cases hn' with
    | lst _ => simp
    | dct _ _ => simp
    | obj _ _ _ => simp
    | scr _ => exact absurd rfl hkd
  -- the lent places are live in the frame
  have lv : ∀ b ∈ B, ∃ u, Fm'.fm b = some u := ho.live
  have memB : ∀ b, b ∈ B ↔ b ∈ B0 ∨ b ∈ A ∨ b ∈ Bo := fun b => by rw [h2.mem_iff]; simp [or_assoc]
  have nd1 := (h2.nodup_iff).mp ndB
  have nd2 := List.nodup_append.mp nd1
  have nd3 := List.nodup_append.mp nd2.1
  have offB : ∀ b ∈ B, R2 b = none ∧ (∀ i, b ∉ fp i) ∧ b ∉ Bw := fun b hb => by
    obtain ⟨u, q⟩ := lv b hb
    refine ⟨x.dj.1 b u q, fun i hi => ?_, fun hw => ?_⟩
    · rw [(g5 i b hi).2] at q; cases q
    · rw [(g8 b hw).2.1] at q; cases q
  have ndAB : (A ++ Bw).Nodup := List.nodup_append.mpr ⟨nd3.2.1, g7, fun b hb c hc e => by subst e; exact (offB b ((memB b).mpr (.inr (.inl hb)))).2.2 hc⟩
  have nd' := (pm.nodup_iff).mp ndAB
  have nda := List.nodup_append.mp nd'
  have ndb := List.nodup_append.mp nda.2.1
  have mem : ∀ b, b ∈ A' ++ (B' ++ C) → b ∈ A ∨ b ∈ Bw := fun b hb => List.mem_append.mp (pm.mem_iff.mpr hb)
  have memA : ∀ b ∈ A', b ∈ A ∨ b ∈ Bw := fun b hb => mem b (List.mem_append_left _ hb)
  have memW : ∀ b ∈ B', b ∈ A ∨ b ∈ Bw := fun b hb => mem b (List.mem_append_right _ (List.mem_append_left _ hb))
  have nea : ∀ b, (b ∈ A ∨ b ∈ Bw) → b ≠ a := fun b hb e => by
    subst e
    rcases hb with hb | hb
    · exact nd3.2.2 b aB0 b hb rfl
    · exact (offB b ((memB b).mpr (.inl aB0))).2.2 hb
  have fr : ∀ b, b ≠ a → ∀ u, H b = some u → upd H a ob b = some u := fun b hb u q => by rw [upd_ne hb]; exact q
  have naf : ∀ oo u, H a ≠ some (.frz oo u) := hn'.nofrz a aB0
  have fz : Frz H (upd H a ob) := fun b oo u q => fr b (fun e => by subst e; exact naf oo u q) _ q
  have aB : a ∈ B := (memB a).mpr (.inl aB0)
  have neBo : ∀ b ∈ Bo, b ≠ a := fun b hb e => by subst e; exact nd2.2.2 b (by simp [aB0]) b hb rfl
  obtain ⟨Bn, q1, q2⟩ := h3 R2 (upd H a ob) (.nd kd' os') (B0 ++ A') (Same.refl _) (fun b oo u q => fz b oo u (sub' b _ q)) (fun b hb u q => fr b (neBo b hb) u (sub' b u q)) (.nd hnd (k1.frame fz fun b hb => fr b (nea b (memA b hb))))
  have memN : ∀ b, b ∈ Bn ↔ b ∈ B0 ∨ b ∈ A' ∨ b ∈ Bo := fun b => by rw [q2.mem_iff]; simp [or_assoc]
  -- places of the new tree
  have offN : ∀ b ∈ Bn, R2 b = none ∧ Fm.fm b = none ∧ ∀ i, b ∉ fp i := fun b hb => by
    rcases (memN b).mp hb with h | h | h
    · have hB := (memB b).mpr (.inl h); exact ⟨(offB b hB).1, fB b hB, (offB b hB).2.1⟩
    · rcases memA b h with h | h
      · have hB := (memB b).mpr (.inr (.inl h)); exact ⟨(offB b hB).1, fB b hB, (offB b hB).2.1⟩
      · exact ⟨(g8 b h).1, l.sub.free (g8 b h).2.1, (g8 b h).2.2⟩
    · have hB := (memB b).mpr (.inr (.inr h)); exact ⟨(offB b hB).1, fB b hB, (offB b hB).2.1⟩
  have ndN : Bn.Nodup := (q2.nodup_iff).mpr (List.nodup_append.mpr ⟨List.nodup_append.mpr ⟨nd3.1, nda.1, fun b hb c hc e => by
      subst e
      rcases memA b hc with h | h
      · exact nd3.2.2 b hb b h rfl
      · exact (offB b ((memB b).mpr (.inl hb))).2.2 h⟩, nd2.2.1, fun b hb c hc e => by
      subst e
      rcases List.mem_append.mp hb with hb | hb
      · exact nd2.2.2 b (by simp [hb]) b hc rfl
      · rcases memA b hb with h | h
        · exact nd2.2.2 b (by simp [h]) b hc rfl
        · exact (offB b ((memB b).mpr (.inr (.inr hc)))).2.2 h⟩)
  refine ⟨by simp [x.len], fun b u q => ?_, fun b u q => ?_, ⟨fun b u q => x.dj.1 b u (l.sub b u q), x.dj.2⟩, fun i => if i = k then Bn else fp i, B', fun i sv e => ?_, fun i hi => ?_, fun i => ?_, fun i j b hi hj => ?_, fun i b hi => ?_, k2.frame fz fun b hb => fr b (nea b (memW b hb)), ndb.1, fun b hb => ?_⟩
  · exact fr b (fun e => by subst e; rw [(offB b aB).1] at q; cases q) u (x.rh b u q)
  · exact fr b (fun e => by subst e; rw [fB b aB] at q; cases q) u (x.fh b u (l.sub b u q))
  · by_cases hi : i = k
    · subst hi
      rw [List.getElem?_set_self hlt] at e
      cases e
      simp only [if_pos rfl]
      exact ⟨vk, hv, q1⟩
    · rw [List.getElem?_set_ne (Ne.symm hi)] at e
      simp only [if_neg hi]
      exact ((g1 i sv e).reF l.bo.symm).frame fz fun b hb => fr b fun e => by subst e; exact (offB b aB).2.1 i hb
  · simp at hi
    simp only
    rw [if_neg (by omega)]; exact g2 i hi
  · simp only; split
    · exact ndN
    · exact g3 i
  · simp only at hi hj
    by_cases ei : i = k <;> by_cases ej : j = k
    · rw [ei, ej]
    · rw [if_pos ei] at hi; rw [if_neg ej] at hj
      exact absurd hj ((offN b hi).2.2 j)
    · rw [if_neg ei] at hi; rw [if_pos ej] at hj
      exact absurd hi ((offN b hj).2.2 i)
    · rw [if_neg ei] at hi; rw [if_neg ej] at hj
      exact g4 i j b hi hj
  · simp only at hi
    split at hi
    · exact ⟨(offN b hi).1, (offN b hi).2.1⟩
    · exact ⟨(g5 i b hi).1, l.sub.free (g5 i b hi).2⟩
  · have hb' : R2 b = none ∧ Fm.fm b = none ∧ ∀ i, b ∉ fp i := by
      rcases memW b hb with h | h
      · have hB := (memB b).mpr (.inr (.inl h)); exact ⟨(offB b hB).1, fB b hB, (offB b hB).2.1⟩
      · exact ⟨(g8 b h).1, l.sub.free (g8 b h).2.1, (g8 b h).2.2⟩
    refine ⟨hb'.1, hb'.2.1, fun i hi => ?_⟩
    simp only at hi
    split at hi
    · rcases (memN b).mp hi with h | h | h
      · rcases memW b hb with h' | h'
        · exact nd3.2.2 b h b h' rfl
        · exact (offB b ((memB b).mpr (.inl h))).2.2 h'
      · exact nda.2.2 b h b (List.mem_append_left _ hb) rfl
      · rcases memW b hb with h' | h'
        · exact nd2.2.2 b (by simp [h']) b h rfl
        · exact (offB b ((memB b).mpr (.inr (.inr h)))).2.2 h'
    · exact hb'.2.2 i hi
end
/-- root slot, root tree, path, what lies there -/
abbrev Pl := Nat × OV × List Nat × OV
abbrev FL := Sta → Option (Pl × Sta)
def tL (G : Gp) (m : Nat) (f : FL) : TE := fun σ H Q => ∃ R Fm L T τ, At G m R Fm L T σ τ H ∧ ∃ k o p c M, f L = some ((k, o, p, c), M) ∧
  ∀ R' Fm' vk v H', Same R R' → At G m R' Fm' M T σ τ H' → k < m → (σ ++ τ)[k]? = some (some vk) → LentP G R' Fm Fm' vk o p v c → Q v H'
abbrev PLd (X : Cx) (e : Expr) (f : FL) : Prop := PE X e (tL (gp X) X.N.length f)
def flName (i : Nat) : FL := fun L => match L[i]? with
  | some (.ow o) => some ((i, o, [], o), L.set i .no)
  | _ => none
def flIx (fl : FL) (fi : FE) : FL := fun L => match fl L with
  | some ((k, o, p, .nd .lst os), M) => match fi M with
    | some (r, M2) => match con M2 r with
      | some (.fz (.int i)) => match ixN os.length i with
        | some j => match os[j]? with
          | some c => some ((k, o, p ++ [j], c), M2)
          | none => none
        | none => none
      | _ => none
    | none => none
  | _ => none
/-- the place gets another content -/
def plSet (q : Pl) (n : OV) (M : Sta) : Option Sta := match M[q.1]? with
  | some .no => some (M.set q.1 (.ow (q.2.1.pt q.2.2.1 n)))
  | _ => none
section
variable {X : Cx} {a b c : Expr} {fa fb fc : FE} {pos apos cpos : Pos} {fl : FL}
theorem l_name (i : Nat) {x : Str} (hN : X.N[i]? = some x := by rfl) (hv : Vis X.env.scope x := by first | exact Or.inl rfl | exact Or.inr (Or.inl rfl) | exact Or.inr (Or.inr rfl)) (hd : (x == ("__debug__" : Str)) = false := by decide)
    (hcd : (x == ("__classdict__" : Str)) = false := by decide) : PLd X (.Name x pos) (flName i) := by
  refine imp (pe_var hN hv hd hcd) fun σ H Q h => ?_
  obtain ⟨R, Fm, L, T, τ, y, k, o, p, c, M, e, q⟩ := h
  have hm : i < X.N.length := (List.getElem?_eq_some_iff.mp hN).1
  have hi : i < σ.length := by rw [y.sl]; exact hm
  unfold flName at e
  split at e
  · rename_i o eo
    cases e
    obtain ⟨v, Fm', e1, e2, l, z⟩ := y.lendK hi eo
    obtain ⟨B, k1, k2, k3⟩ := l.own
    exact ⟨v, e1, q R Fm' v v H (Same.refl R) z hm e2 ⟨l.bo, l.sub, by cases o <;> rfl, B, k1.one', k2, k3, Focus.root k1.one'⟩⟩
  · cases e
theorem l_ix (ha : PLd X a fl) (hb : PEd X b fb) (hs : PlainIx b := by exact fun _ _ => rfl) : PLd X (.Subscript a b pos) (flIx fl fb) :=
  imp (pe_ix ix_list ha hb hs) (by
    rintro σ H Q ⟨R, Fm, L, T, τ, x, k, o, p, c, M, e, q⟩
    unfold flIx at e
    split at e
    · rename_i k1 o1 p1 os M1 e1
      split at e
      · rename_i r M2 e2
        split at e
        · rename_i i ei
          split at e
          · rename_i j ej
            split at e
            · rename_i c' ec
              cases e
              refine ⟨R, Fm, L, T, τ, x, _, _, _, _, M1, e1, fun R1 Fm1 vk v H1 s1 x1 hk hv l => ⟨R1, Fm1, M1, T, τ, x1, r, _, e2, fun R2 u H2 s2 x2 => ?_⟩⟩
              obtain ⟨B, hi⟩ := x2.con ei
              cases hi.int
              have l2 := l.mono s2
              obtain ⟨B1, g1, g2, g3, f⟩ := l2.own
              obtain ⟨ad, vs, B0, rfl, hn, ⟨A, hl⟩, ch⟩ := f.node l2.at_
              obtain ⟨z, ez, fz⟩ := ch j _ ec
              cases hn with
              | lst hh =>
                refine ⟨ad, vs, i, z, rfl, rfl, SqL.of (x2.rel.fh _ _ hh), ?_, q R2 Fm1 vk z H2 (s1.trans s2) x2.drop hk hv ⟨l2.bo, l2.sub, at_step l2.at_ ec, B1, g1, g2, g3, fz⟩⟩
                unfold atI
                rw [hl.length, ej]
                exact ez
            · cases e
          · cases e
        · cases e
      · cases e
    · cases e)
/-- the list under the focus -/
theorem LentP.isL {G : Gp} {R H : Hp} {Fm Fm' : Fr} {vk v : V} {o : OV} {p : List Nat} {os : List OV} (l : LentP G R Fm Fm' vk o p v (.nd .lst os)) (t : Same Fm'.fm H) : tyV G.K "list" v H := by
  obtain ⟨B1, g1, g2, g3, f⟩ := l.own
  obtain ⟨ad, vs, B0, rfl, hn, _⟩ := f.node l.at_
  cases hn with
  | lst hh => exact .inl ⟨rfl, _, SqL.of (t _ _ hh)⟩
def fAppL (fl : FL) (fe : FE) : FE := fun L => match fl L with
  | some ((k, o, p, .nd .lst os), M) => match fArgs [fe] M with
    | some ([x], M') => if os.length < sizeLine then (match plSet (k, o, p, .nd .lst os) (.ls (os ++ [x])) M' with
      | some M2 => some (.ow (.fz .none), M2)
      | none => none) else none
    | _ => none
  | _ => none
noncomputable def fPopAtL (fl : FL) (fe : FE) : FE := fun L => match fl L with
  | some ((k, o, p, .nd .lst os), M) => match fArgs [fe] M with
    | some ([.fz (.int i)], M') => match ixN os.length i with
      | some j => match os[j]? with
        | some x => if sm (-(2 ^ 63) ≤ i ∧ i < 2 ^ 63) then (match plSet (k, o, p, .nd .lst os) (.ls (os.eraseIdx j)) M' with
          | some M2 => some (.ow x, M2)
          | none => none) else none
        | none => none
      | none => none
    | _ => none
  | _ => none
theorem plSet_at {M M2 : Sta} {k : Nat} {o n : OV} {p : List Nat} {c : OV} (e : plSet (k, o, p, c) n M = some M2) : M[k]? = some .no ∧ M2 = M.set k (.ow (o.pt p n)) := by
  unfold plSet at e
  simp only at e
  split at e
  · rename_i h
    cases e
    exact ⟨h, rfl⟩
  · cases e
theorem d_appendL (ha : PLd X a fl) (hb : PEd X b fb) (hbase : attributeBase a "append" X.env (eval a X.env) = eval a X.env := by rfl) (hline : (apos.endLine == cpos.line) = true := by rfl) (hs : starEach [b] X.env = (false, eval b X.env) :: starEach [] X.env := by rfl)
    (hfew : ((backTo cpos (starEach [b] X.env)).all (fun x => !x.1) && (backToKw cpos (keywordEach [] X.env)).all (fun x => x.1.isSome) && decide (([b] : List Expr).length + ([] : List Keyword).length + (if ([] : List Keyword).isEmpty then 0 else 1) < 30)) = true := by rfl) :
    PEd X (.Call (.Attribute a "append" apos) [b] [] cpos) (fAppL fl fb) :=
  imp (pe_bm PySem.F.plainAttrs_list PySem.F.slot_list_append PySem.F.type_list_append mt_append ha (a_cons hb a_nil hs) hbase hfew hline hs) (by
    rintro σ H Q ⟨R, Fm, L, T, τ, x, r, L', e, q⟩
    unfold fAppL at e
    split at e
    · rename_i k o p os M ek
      split at e
      · rename_i y M' eo
        split at e
        · rename_i hz
          split at e
          · rename_i M2 em
            cases e
            obtain ⟨hno, rfl⟩ := plSet_at em
            refine ⟨R, Fm, L, T, τ, x, k, o, p, _, M, ek, fun R1 Fm1 vk v H1 s1 x1 hk hv l => ⟨l.isL x1.rel.fh, R1, Fm1, M, T, τ, x1, [y], M', eo, fun R2 vs H2 s2 hl x2 => ?_⟩⟩
            obtain ⟨u, rfl⟩ : ∃ u, vs = [u] := by match vs, hl with | [u], _ => exact ⟨u, rfl⟩
            have hkM : k < M'.length := (List.getElem?_eq_some_iff.mp hno).1
            obtain ⟨ad, ws, B0, rfl, hn, e3, _, mk⟩ := (At.take1 (o := y) (v := u) x2).mutF (k := k) l s2 (by rw [List.getElem?_append_left hkM]; exact hno) hv (by simp)
            cases hn with
            | lst hh =>
              refine ⟨ad, ws, u, rfl, rfl, hh, by rw [e3]; exact hz, ?_⟩
              have z := mk (.lst (ws ++ [u])) .lst (ws ++ [u]) [] (os ++ [y]) [] (fun _ _ => by simp) (.lst upd_same) fun A B h1 h2 => ⟨A ++ B, [], [], h1.append h2, .nil, by simp⟩
              rw [List.set_append_left _ _ hkM] at z
              exact q R2 _ _ (s1.trans s2) (At.push ⟨x2.sl, by simpa using x2.ge, by simpa using z⟩ .non)
          · cases e
        · cases e
      · cases e
    · cases e)
theorem d_popAtL (ha : PLd X a fl) (hb : PEd X b fb) (hbase : attributeBase a "pop" X.env (eval a X.env) = eval a X.env := by rfl) (hline : (apos.endLine == cpos.line) = true := by rfl) (hs : starEach [b] X.env = (false, eval b X.env) :: starEach [] X.env := by rfl)
    (hfew : ((backTo cpos (starEach [b] X.env)).all (fun x => !x.1) && (backToKw cpos (keywordEach [] X.env)).all (fun x => x.1.isSome) && decide (([b] : List Expr).length + ([] : List Keyword).length + (if ([] : List Keyword).isEmpty then 0 else 1) < 30)) = true := by rfl) :
    PEd X (.Call (.Attribute a "pop" apos) [b] [] cpos) (fPopAtL fl fb) :=
  imp (pe_bm PySem.F.plainAttrs_list PySem.F.slot_list_pop PySem.F.type_list_pop mt_popAt ha (a_cons hb a_nil hs) hbase hfew hline hs) (by
    rintro σ H Q ⟨R, Fm, L, T, τ, x, r, L', e, q⟩
    unfold fPopAtL at e
    split at e
    · rename_i k o p os M ek
      split at e
      · rename_i i M' eo
        split at e
        · rename_i j ej
          split at e
          · rename_i y eoj
            split at e
            · rename_i hz
              replace hz := sm_iff.mp hz
              split at e
              · rename_i M2 em
                cases e
                obtain ⟨hno, rfl⟩ := plSet_at em
                refine ⟨R, Fm, L, T, τ, x, k, o, p, _, M, ek, fun R1 Fm1 vk v H1 s1 x1 hk hv l => ⟨l.isL x1.rel.fh, R1, Fm1, M, T, τ, x1, [.fz (.int i)], M', eo, fun R2 vs H2 s2 hl x2 => ?_⟩⟩
                obtain ⟨u, rfl⟩ : ∃ u, vs = [u] := by match vs, hl with | [u], _ => exact ⟨u, rfl⟩
                obtain ⟨A, hu⟩ := At.con (o := .fz (.int i)) (r := .ow (.fz (.int i))) x2 rfl
                cases hu.int
                have hkM : k < M'.length := (List.getElem?_eq_some_iff.mp hno).1
                obtain ⟨ad, ws, B0, rfl, hn, e3, _, mk⟩ := (At.drop (r := .ow (.fz (.int i))) x2).rel.mutF (k := k) l s2 (by rw [List.getElem?_append_left hkM]; exact hno) hv (by simp)
                cases hn with
                | lst hh =>
                  have hjl : j < os.length := (List.getElem?_eq_some_iff.mp eoj).1
                  obtain ⟨yv, ey⟩ : ∃ y, ws[j]? = some y := ⟨ws[j]'(by omega), List.getElem?_eq_getElem _⟩
                  refine ⟨ad, ws, i, j, yv, rfl, rfl, hh, hz.1, hz.2, by rw [e3]; exact (ixN_seq ej).1, ey, ?_⟩
                  have z := mk (.lst (ws.eraseIdx j)) .lst (ws.eraseIdx j) [yv] (os.eraseIdx j) [y] (fun _ _ => by simp) (.lst upd_same) fun A B h1 h2 => by
                    cases h2
                    obtain ⟨v, A1, A2, g1, g2, g3, g4⟩ := h1.eraseP eoj
                    rw [ey] at g1
                    cases g1
                    exact ⟨A1, A2, [], g3, OwL.one g2, by simpa using g4⟩
                  rw [List.set_append_left _ _ hkM] at z
                  exact q R2 _ _ (s1.trans s2) (At.put1 x2.sl (by simpa using x2.ge) (by simpa using z))
              · cases e
            · cases e
          · cases e
        · cases e
      · cases e
    · cases e)
end
end Qz
namespace Qz
open PySem PySem.Spec PyProof.Rows L2
/-! ### any of data: a list counts by its length -/
section
variable {X : Cx} {a : Expr} {fa : FE} {pos : Pos}
def rAnyD (K : PySem.W.Frag) : List V → Hp → VK → Prop := fun xs H Q => ∃ (l : Addr) (vs : List V) (ds : List PyData), xs = [.ref l] ∧ SqL K H l vs ∧ DpAll K H vs ds ∧ PyData.plainAll ds = true ∧ (∀ x ∈ ds, x.fits63) ∧ Q (.bl (ds.any PyData.truthy)) H
theorem cr_anyD (hc : X.calm = true) : CallR X (.builtin "any") (rAnyD X.K) := by
  intro pins s σ H vs us Q I r h
  obtain ⟨l, xs, ds, rfl, hl, hd, hp, hf, q⟩ := h
  rw [Vals.ref1 r]
  obtain ⟨zs, rv, pl, hz⟩ := I.list hl
  obtain ⟨as, rd⟩ := Dp.readsAll I _ _ _ hd rv
  exact PySem.W.any_list_data (I.ok.hd hc) pl.isList (by simpa using rd) hp hf fun h' tk hk => ⟨.bl _, H, I.kept hk, rfl, q⟩
noncomputable def gAnyD (o : OV) : Option Res := match rdat o with
  | some (.list ds) => if PyData.plainAll ds && sm (∀ x ∈ ds, x.fits63) then some (.fr (.bool (ds.any PyData.truthy))) else none
  | _ => none
theorem d_anyD {p : Pos} (hc : X.calm = true) (hg : Gl X "any") (hm : X.mg "any" = none) (ha : PEd X a fa) (he : starEach [a] X.env = (false, eval a X.env) :: starEach [] X.env := by rfl) : PEd X (.Call (.Name "any" p) [a] [] pos) (f1 gAnyD fa) :=
  mkCB (cr_anyD hc) hg hm (by decide +kernel) (fun R H v a A d Q s ha e q => by
    unfold gAnyD at e
    split at e
    · rename_i ds ed
      split at e
      · rename_i h
        cases e
        obtain ⟨h1, h2⟩ := Bool.and_eq_true_iff.mp h
        have dp := ha.dp s ed
        cases dp with
        | lst hl hr => exact ⟨_, _, ds, rfl, hl, hr, h1, sm_iff.mp h2, q.1 _ (.bl _)⟩
      · cases e
    · cases e) ha (he := he)
end
end Qz
namespace Qz
open PySem PySem.Spec PyProof.Rows L2
section
variable {L M : Sta} {fa fb fc fe fo fi : FE} {fr : FR} {fl : FL}
@[simp] theorem frName_ap {i : Nat} : frName i L = match L[i]? with
  | some (.ow o) => some ((o, some (i, o)), L.set i .no)
  | some (.bo o) => some ((o, none), L)
  | some (.fb o) => some ((o, none), L)
  | _ => none := rfl
@[simp] theorem rkid_ls {os : List OV} {i : Int} : rkid (.nd .lst os) i = atI os i := rfl
@[simp] theorem rkid_fl {ds : List PyData} {i : Int} : rkid (.fz (.list ds)) i = (atI ds i).map .fz := rfl
@[simp] theorem rkid_ft {ds : List PyData} {i : Int} : rkid (.fz (.tuple ds)) i = (atI ds i).map .fz := rfl
@[simp] theorem frIx_ap : frIx fr fi L = match fr L with
  | some ((c, b), M) => match fi M with
    | some (r, M2) => match con M2 r with
      | some (.fz (.int i)) => match rkid c i with
        | some c' => some ((c', b), M2)
        | none => none
      | _ => none
    | none => none
  | none => none := rfl
@[simp] theorem unl_none : unl none M = some M := rfl
@[simp] theorem unl_some {k : Nat} {o : OV} : unl (some (k, o)) M = match M[k]? with
    | some .no => some (M.set k (.ow o))
    | _ => none := rfl
@[simp] theorem fR1_ap {g : OV → Option Res} : fR1 g fr L = match fr L with
  | some ((c, b), M) => match g c with
    | some d => match unl b M with
      | some M' => some (.ow d.ov, M')
      | none => none
    | none => none
  | none => none := rfl
@[simp] theorem fR2_ap {g : OV → OV → Option Res} : fR2 g fr fb L = match fr L with
  | some ((c, b), M) => match fb M with
    | some (r, M2) => match con M2 r with
      | some y => match g c y with
        | some d => match unl b M2 with
          | some M' => some (.ow d.ov, M')
          | none => none
        | none => none
      | none => none
    | none => none
  | none => none := rfl
@[simp] theorem gLenR_ls {os : List OV} : gLenR (.nd .lst os) = some (.fr (.int os.length)) := rfl
@[simp] theorem gLenR_fz {d : PyData} : gLenR (.fz d) = gLen (.fz d) := rfl
@[simp] theorem gIxR_ap {a : OV} {i : Int} : gIxR a (.fz (.int i)) = match rkid a i with
    | some (.fz d) => some (.fr d)
    | _ => none := rfl
@[simp] theorem flName_ap {i : Nat} : flName i L = match L[i]? with
  | some (.ow o) => some ((i, o, [], o), L.set i .no)
  | _ => none := rfl
@[simp] theorem flIx_ap : flIx fl fi L = match fl L with
  | some ((k, o, p, .nd .lst os), M) => match fi M with
    | some (r, M2) => match con M2 r with
      | some (.fz (.int i)) => match ixN os.length i with
        | some j => match os[j]? with
          | some c => some ((k, o, p ++ [j], c), M2)
          | none => none
        | none => none
      | _ => none
    | none => none
  | _ => none := rfl
@[simp] theorem plSet_ap {k : Nat} {o n : OV} {p : List Nat} {c : OV} : plSet (k, o, p, c) n M = match M[k]? with
  | some .no => some (M.set k (.ow (o.pt p n)))
  | _ => none := rfl
@[simp] theorem pt_nil {o n : OV} : o.pt [] n = n := by cases o <;> rfl
@[simp] theorem pt_cons {k : Kd} {os : List OV} {j : Nat} {p : List Nat} {n : OV} : (OV.nd k os).pt (j :: p) n = match os[j]? with
    | some c => .nd k (os.set j (OV.pt c p n))
    | none => .nd k os := by rw [OV.pt] <;> rfl
@[simp] theorem fAppL_ap : fAppL fl fe L = match fl L with
  | some ((k, o, p, .nd .lst os), M) => match fArgs [fe] M with
    | some ([x], M') => if os.length < sizeLine then (match plSet (k, o, p, .nd .lst os) (.ls (os ++ [x])) M' with
      | some M2 => some (.ow (.fz .none), M2)
      | none => none) else none
    | _ => none
  | _ => none := rfl
@[simp] theorem fPopAtL_ap : fPopAtL fl fe L = match fl L with
  | some ((k, o, p, .nd .lst os), M) => match fArgs [fe] M with
    | some ([.fz (.int i)], M') => match ixN os.length i with
      | some j => match os[j]? with
        | some x => if sm (-(2 ^ 63) ≤ i ∧ i < 2 ^ 63) then (match plSet (k, o, p, .nd .lst os) (.ls (os.eraseIdx j)) M' with
          | some M2 => some (.ow x, M2)
          | none => none) else none
        | none => none
      | none => none
    | _ => none
  | _ => none := rfl
@[simp] theorem gAnyD_ap {o : OV} : gAnyD o = match rdat o with
  | some (.list ds) => if PyData.plainAll ds && sm (∀ x ∈ ds, x.fits63) then some (.fr (.bool (ds.any PyData.truthy))) else none
  | _ => none := rfl
end
end Qz
namespace Qz
open PySem PySem.Spec PyProof.Rows L2
/-! ### dicts whose keys are tuples -/
mutual
def keyOf : PyData → Option NestedKey
  | .none => some .none
  | .int i => some (.num i)
  | .str x => some (.text x)
  | .tuple ds => (keysOf ds).map .tup
  | _ => none
def keysOf : List PyData → Option (List NestedKey)
  | [] => some []
  | d :: ds => match keyOf d, keysOf ds with
    | some k, some ks => some (k :: ks)
    | _, _ => none
end
mutual
theorem keyOf_data : ∀ {d : PyData} {k : NestedKey}, keyOf d = some k → k.data = d
  | .none, k, e => by simp [keyOf] at e; subst e; rfl
  | .int i, k, e => by simp [keyOf] at e; subst e; rfl
  | .str x, k, e => by simp [keyOf] at e; subst e; rfl
  | .tuple ds, k, e => by
    rw [keyOf] at e
    obtain ⟨ks, h1, rfl⟩ := Option.map_eq_some_iff.mp e
    rw [NestedKey.data, keysOf_data h1]
  | .bool _, k, e => by simp [keyOf] at e
  | .list _, k, e => by simp [keyOf] at e
  | .dict _, k, e => by simp [keyOf] at e
theorem keysOf_data : ∀ {ds : List PyData} {ks : List NestedKey}, keysOf ds = some ks → NestedKey.datas ks = ds
  | [], ks, e => by simp [keysOf] at e; subst e; rfl
  | d :: ds, ks, e => by
    rw [keysOf] at e
    split at e
    · rename_i k ks' h1 h2
      cases e
      rw [NestedKey.datas, keyOf_data h1, keysOf_data h2]
    · cases e
end
/-- a key: a tuple, not too deep -/
def keyT' (d : PyData) : Option NestedKey := match d with
  | .tuple _ => match keyOf d with
    | some k => if k.depth ≤ 8 then some k else none
    | none => none
  | _ => none
theorem keyT'_ok {d : PyData} {k : NestedKey} (e : keyT' d = some k) : k.data = d ∧ k.depth ≤ 8 ∧ (∃ ks, k = .tup ks) ∧ ∃ ds, d = .tuple ds := by
  unfold keyT' at e
  split at e
  · rename_i ds
    split at e
    · rename_i k' ek
      split at e
      · rename_i hd
        cases e
        have := keyOf_data ek
        rw [keyOf] at ek
        obtain ⟨ks, _, h⟩ := Option.map_eq_some_iff.mp ek
        exact ⟨this, hd, ⟨ks, h.symm⟩, ds, rfl⟩
      · cases e
    · cases e
  · cases e
section
variable {X : Cx} {pins : List (Addr × Obj)} {σ : L2.St} {H : Hp} {s : Shared}
mutual
theorem nk_is (I : Inv X pins σ H s) : ∀ (k : NestedKey) (v : V) (u : Value), Dp X.K H v k.data → RelV v u → NestedIs s.heap k u
  | .none, v, u, d, r => by
    rw [NestedKey.data] at d
    cases d
    cases (show u = .none from r)
    exact .none
  | .num i, v, u, d, r => by
    rw [NestedKey.data] at d
    cases d
    obtain ⟨t, rfl⟩ := (show ∃ t, u = Value.int i t from r)
    exact .int i t
  | .text x, v, u, d, r => by
    rw [NestedKey.data] at d
    cases d
    obtain ⟨t, rfl⟩ := (show ∃ t, u = Value.str x t from r)
    exact .text x t
  | .tup ks, v, u, d, r => by
    rw [NestedKey.data] at d
    generalize hz : PyData.tuple (NestedKey.datas ks) = z at d
    cases d with
    | tup hh hr =>
      cases hz
      cases r
      obtain ⟨its, rv, ⟨o, ho, hc, n, hd⟩, _⟩ := I.tuple hh
      exact .tup ho hc hd (by simpa using nks_is I ks _ _ hr rv)
    | _ => cases hz
theorem nks_is (I : Inv X pins σ H s) : ∀ (ks : List NestedKey) (vs : List V) (us : List Value), DpAll X.K H vs (NestedKey.datas ks) → Vals vs us → NestedAll s.heap ks us
  | [], vs, us, d, r => by
    rw [NestedKey.datas] at d
    cases d
    cases r
    exact .nil
  | k :: ks, vs, us, d, r => by
    rw [NestedKey.datas] at d
    cases d with
    | cons h t =>
      cases r with
      | cons rh rt => exact .cons (nk_is I k _ _ h rh) (nks_is I ks _ _ t rt)
end
/-- the dict at a, its keys known -/
def DN (K : PySem.W.Frag) (P : Program) (w : World) (H : Hp) (a : Addr) (xs : List (NestedKey × Addr × Value)) : Prop := (∃ ep, H a = some (DctO P w a xs ep)) ∧ ∀ x ∈ xs, Dp K H (.ref x.2.1) x.1.data ∧ x.1.depth ≤ 8
theorem DN.at (I : Inv X pins σ H s) {a : Addr} {xs : List (NestedKey × Addr × Value)} (d : DN X.K X.prog X.w H a xs) : xs.length ≤ sizeLine ∧ (a == sysModules) = false ∧ s.heap.DictOfH (nestedKind X.prog X.w) a xs := by
  obtain ⟨ep, d1⟩ := d.1
  obtain ⟨⟨h1, h2, o, es, h3, h4, h5, h6, h7⟩, _, _⟩ := I.hok a _ d1
  exact ⟨h1, h2, o, es, ep, h3, h4, h5, h6, fun x hx => ⟨nk_is I x.1 _ _ (d.2 x hx).1 rfl, (d.2 x hx).2⟩, h7⟩
end
section
variable {X : Cx}
theorem room8 (hu : X.A.units + 64 < cLine) : (nestedKind X.prog X.w).room X.A.in1 := by
  show X.A.in1.units + 8 < cLine
  rw [Around.in1_units]; omega
def rInN (K : PySem.W.Frag) (P : Program) (w : World) (neg : Bool) : R2 := fun x y H Q => ∃ (a b : Addr) (xs : List (NestedKey × Addr × Value)) (k : NestedKey), x = .ref b ∧ y = .ref a ∧ DN K P w H a xs ∧ Dp K H (.ref b) k.data ∧ k.depth ≤ 8 ∧ Q (.bl (if neg then !(atKey xs k).isSome else (atKey xs k).isSome)) H
theorem op_inN (hu : X.A.units + 64 < cLine) : OpR X (compareOp .In) (rInN X.K X.prog X.w false) := by
  intro pins s σ H x y v u Q I rx ry h
  obtain ⟨a, b, xs, k, rfl, rfl, d, hk, hd, q⟩ := h
  cases rx
  cases ry
  obtain ⟨h1, h2, h3⟩ := d.at I
  exact wpAny_in_heap (room8 hu) ⟨nk_is I k _ _ hk rfl, hd⟩ h2 h3 ⟨.bl _, H, I.tok _, rfl, q⟩
theorem op_notInN (hu : X.A.units + 64 < cLine) : OpR X (compareOp .NotIn) (rInN X.K X.prog X.w true) := by
  intro pins s σ H x y v u Q I rx ry h
  obtain ⟨a, b, xs, k, rfl, rfl, d, hk, hd, q⟩ := h
  cases rx
  cases ry
  obtain ⟨h1, h2, h3⟩ := d.at I
  exact wpAny_notIn_heap (room8 hu) ⟨nk_is I k _ _ hk rfl, hd⟩ h2 h3 ⟨.bl _, H, I.tok _, rfl, q⟩
def rIxN (K : PySem.W.Frag) (P : Program) (w : World) : R2 := fun x y H Q => ∃ (a b : Addr) (xs : List (NestedKey × Addr × Value)) (k : NestedKey) (p : Addr × Value) (v : V), x = .ref a ∧ y = .ref b ∧ DN K P w H a xs ∧ Dp K H (.ref b) k.data ∧ k.depth ≤ 8 ∧ atKey xs k = some p ∧ RelV v p.2 ∧ Q v H
theorem ix_dctN (hu : X.A.units + 64 < cLine) : IxR X (rIxN X.K X.prog X.w) := by
  intro value slice pins s σ H x y v u Q I rx ry h hs
  obtain ⟨a, b, xs, k, p, z, rfl, rfl, d, hk, hd, hp, hz, q⟩ := h
  cases rx
  cases ry
  obtain ⟨h1, h2, h3⟩ := d.at I
  exact tail_any h3.typeIs PySem.F.slot_dict_getitem.lookup (wpAny_getItem_heap (room8 hu) ⟨nk_is I k _ _ hk rfl, hd⟩ h3 hp ⟨z, H, I.tok _, hz, q⟩) hs
def rSetN (K : PySem.W.Frag) (P : Program) (w : World) : TSet := fun o i v H Q => ∃ (a b : Addr) (xs : List (NestedKey × Addr × Value)) (k : NestedKey), o = .ref a ∧ i = .ref b ∧ DN K P w H a xs ∧ Dp K H (.ref b) k.data ∧ k.depth ≤ 8 ∧ xs.length < sizeLine ∧ ∀ r ep, RelV v r → (xs.map (·.1)).Nodup → Q (upd H a (DctO P w a (storedH xs k b r) ep))
theorem dctO_ok {P : Program} {w : World} {H : Hp} {h : Heap} {a : Addr} {xs : List (NestedKey × Addr × Value)} (h1 : xs.length ≤ sizeLine) (h2 : (a == sysModules) = false) {ep : Nat} (h3 : ∃ o es, h.get? a = some o ∧ o.ExactDict ∧ o.data = .dict es ep ∧ es.toList = xs.map (entryOfKey (nestedKind P w)) ∧ (xs.map (·.1)).Nodup) :
    ObjOk P w H h a (DctO P w a xs ep) := by
  refine ⟨⟨h1, h2, h3⟩, ?_, fun h1' h2' ⟨q1, q2, o, es, q3, q4⟩ hk => ⟨q1, q2, o, es, hk o q3, q4⟩⟩
  obtain ⟨o, es, q, _⟩ := h3
  exact ⟨o, q⟩
theorem set_dctN (hu : X.A.units + 64 < cLine) : PSet X (rSetN X.K X.prog X.w) := by
  intro pins s σ H o i v ov iv u Q I ro ri rv h
  obtain ⟨a, b, xs, k, rfl, rfl, d, hk, hd, hz, q⟩ := h
  cases ro
  cases ri
  obtain ⟨h1, h2, h3⟩ := d.at I
  refine wpAny_setItem_heap (hsz := h1) (room8 hu) ⟨nk_is I k _ _ hk rfl, hd⟩ h3 fun h' dd' hs => ?_
  obtain ⟨ob, es, ep, g1, g2, g3, g4, _, g5⟩ := dd'
  obtain ⟨ep0, d1⟩ := d.1
  refine ⟨_, ?_, q u ep rv (let ⟨_, _, _, _, _, _, _, _, z⟩ := h3; z)⟩
  have hl : (storedH xs k b u).length ≤ sizeLine := by
    unfold storedH
    split
    · simpa using h1
    · simp; omega
  exact d_write I (by rw [d1]; exact True.intro) hs ⟨ob, g1⟩ (dctO_ok hl h2 ⟨ob, es, g1, g2, g3, g4, g5⟩)
def rLenN (K : PySem.W.Frag) (P : Program) (w : World) : List V → Hp → VK → Prop := fun xs H Q => ∃ (a : Addr) (ys : List (NestedKey × Addr × Value)), xs = [.ref a] ∧ DN K P w H a ys ∧ Q (.int ys.length) H
theorem cr_lenN : CallR X (.builtin "len") (rLenN X.K X.prog X.w) := by
  intro pins s σ H vs us Q I r h
  obtain ⟨a, ys, rfl, d, q⟩ := h
  rw [Vals.ref1 r]
  obtain ⟨h1, h2, h3⟩ := d.at I
  have hm : s.heap.DictKeyed (nestedKind X.prog X.w) a (pairsH ys) := ⟨ys, h3, rfl⟩
  have hz : (pairsH ys).length ≤ sizeLine := by rw [pairsH_length]; exact h1
  refine PyProof.Rows.call_len_slot (n := (pairsH ys).length) hm.typeIs PySem.F.slot_dict_len (fun Q' hq => len_keyed h2 hm hq) (by omega) (by rw [sizeLine_eq] at hz; omega) ?_
  rw [pairsH_length]
  exact ⟨.int _, H, I.tok _, ⟨_, rfl⟩, q⟩
theorem pe_dnewN {pos : Pos} : PE X (.Dict [] [] pos) (fun _ H Q => ∀ p ep, H p = none → Q (.ref p) (upd H p (DctO X.prog X.w p [] ep))) := ⟨fun pins s σ H Q I h =>
  wpAny_Dict_empty ⟨.ref s.heap.objs.size, _, I.laid (a := s.heap.objs.size) (o := DctO X.prog X.w s.heap.objs.size [] 0) (t' := s.toks) (fun _ _ q => Heap.get?_push_of_some _ q) (Nat.le_refl _)
    (dctO_ok (Nat.zero_le _) (beq_eq_false_iff_ne.mpr (Ne.symm (Nat.ne_of_lt I.big))) ⟨_, #[], Heap.get?_push_size _ rfl, ⟨rfl, rfl, rfl⟩, rfl, rfl, List.nodup_nil⟩), rfl, h _ _ (I.hok.fresh (Nat.le_refl _))⟩⟩
end
end Qz
namespace Qz
open PySem PySem.Spec PyProof.Rows L2
/-! ### dicts in trees -/
def kIx (ks : List NestedKey) (k : NestedKey) : Option Nat := ks.findIdx? fun x => decide (x = k)
section
variable {G : Gp} {R R' H Hf : Hp}
theorem KeysOk.length : ∀ {ks : List NestedKey} {vs : List V} {xs : List (NestedKey × Addr × Value)}, KeysOk R ks vs xs → ks.length = xs.length ∧ vs.length = xs.length
  | _, _, _, .nil => ⟨rfl, rfl⟩
  | _, _, _, .cons _ r => by have := KeysOk.length r; simp [this.1, this.2]
theorem KeysOk.keys : ∀ {ks : List NestedKey} {vs : List V} {xs : List (NestedKey × Addr × Value)}, KeysOk R ks vs xs → xs.map (·.1) = ks
  | _, _, _, .nil => rfl
  | _, _, _, .cons h r => by rw [List.map_cons, KeysOk.keys r, h.1]
theorem KeysOk.mem : ∀ {ks : List NestedKey} {vs : List V} {xs : List (NestedKey × Addr × Value)}, KeysOk R ks vs xs → ∀ x ∈ xs, Rp R (.ref x.2.1) x.1.data ∧ x.1.depth ≤ 8
  | _, _, _, .nil, x, hx => by simp at hx
  | _, _, _, .cons h r, x, hx => by
    rcases List.mem_cons.mp hx with rfl | hx
    · obtain ⟨h1, h2, h3, h4, h5⟩ := h
      rw [h1]; exact ⟨h4, h2⟩
    · exact KeysOk.mem r x hx
theorem KeysOk.dn {K : PySem.W.Frag} {P : Program} {w : World} {a : Addr} {ks : List NestedKey} {vs : List V} {xs : List (NestedKey × Addr × Value)} (h : KeysOk R ks vs xs) (s : Same R H) {ep : Nat} (e : H a = some (DctO P w a xs ep)) : DN K P w H a xs :=
  ⟨⟨ep, e⟩, fun x hx => ⟨dp_same s (h.mem x hx).1.dp, (h.mem x hx).2⟩⟩
theorem KeysOk.some_ : ∀ {ks : List NestedKey} {vs : List V} {xs : List (NestedKey × Addr × Value)} {k : NestedKey} {j : Nat}, KeysOk R ks vs xs → kIx ks k = some j → ∃ p v, atKey xs k = some p ∧ vs[j]? = some v ∧ RelV v p.2
  | _, _, _, k, j, .nil, e => by simp [kIx] at e
  | _, _, _, k, j, .cons (k := k0) (v := v0) (x := x0) (ks := ks) (vs := vs) (xs := xs) h r, e => by
    obtain ⟨h1, h2, h3, h4, h5⟩ := h
    unfold kIx at e
    rw [List.findIdx?_cons] at e
    by_cases hk : k0 = k
    · subst hk
      simp at e
      subst e
      exact ⟨x0.2, v0, by simp [atKey, h1], rfl, h5⟩
    · rw [if_neg (by simpa using hk)] at e
      obtain ⟨j', e1, rfl⟩ := Option.map_eq_some_iff.mp e
      obtain ⟨p, v, g1, g2, g3⟩ := KeysOk.some_ r e1
      refine ⟨p, v, ?_, by simpa using g2, g3⟩
      unfold atKey at g1 ⊢
      rw [List.find?_cons_of_neg (by rw [h1]; simpa using hk)]
      exact g1
theorem KeysOk.none_ : ∀ {ks : List NestedKey} {vs : List V} {xs : List (NestedKey × Addr × Value)} {k : NestedKey}, KeysOk R ks vs xs → kIx ks k = none → atKey xs k = none
  | _, _, _, k, .nil, e => rfl
  | _, _, _, k, .cons (k := k0) (v := v0) (x := x0) h r, e => by
    obtain ⟨h1, h2, h3, h4, h5⟩ := h
    unfold kIx at e
    rw [List.findIdx?_cons] at e
    by_cases hk : k0 = k
    · subst hk; simp at e
    · rw [if_neg (by simpa using hk)] at e
      have e1 := Option.map_eq_none_iff.mp e
      have := KeysOk.none_ r e1
      unfold atKey at this ⊢
      rw [List.find?_cons_of_neg (by rw [h1]; simpa using hk)]
      exact this
theorem KeysOk.isSome {ks : List NestedKey} {vs : List V} {xs : List (NestedKey × Addr × Value)} {k : NestedKey} (h : KeysOk R ks vs xs) : (atKey xs k).isSome = (kIx ks k).isSome := by
  cases e : kIx ks k with
  | none => rw [h.none_ e]; rfl
  | some j => obtain ⟨p, v, g, _⟩ := h.some_ e; rw [g]; rfl
theorem KeysOk.snoc : ∀ {ks : List NestedKey} {vs : List V} {xs : List (NestedKey × Addr × Value)} {k : NestedKey} {v : V} {x : NestedKey × Addr × Value}, KeysOk R ks vs xs → KeyOk R k v x → KeysOk R (ks ++ [k]) (vs ++ [v]) (xs ++ [x])
  | _, _, _, _, _, _, .nil, h => .cons h .nil
  | _, _, _, _, _, _, .cons g r, h => .cons g (KeysOk.snoc r h)
theorem kIx_notin {ks : List NestedKey} {k : NestedKey} (h : k ∉ ks) : kIx ks k = none := by
  unfold kIx
  rw [List.findIdx?_eq_none_iff]
  intro x hx
  simp
  rintro rfl
  exact h hx
theorem KeysOk.put : ∀ {ks : List NestedKey} {vs : List V} {xs : List (NestedKey × Addr × Value)} {k : NestedKey} {j : Nat} {v : V} {r : Value}, KeysOk R ks vs xs → ks.Nodup → kIx ks k = some j → RelV v r → KeysOk R ks (vs.set j v) (xs.map (putAt k r))
  | _, _, _, k, j, v, r, .nil, _, e, _ => by simp [kIx] at e
  | _, _, _, k, j, v, r, .cons (k := k0) (v := v0) (x := x0) (ks := ks) (vs := vs) (xs := xs) h t, nd, e, hr => by
    obtain ⟨h1, h2, h3, h4, h5⟩ := h
    have nd' := List.nodup_cons.mp nd
    unfold kIx at e
    rw [List.findIdx?_cons] at e
    by_cases hk : k0 = k
    · subst hk
      simp at e
      subst e
      rw [List.map_cons, List.set_cons_zero]
      have e1 : putAt k0 r x0 = (k0, x0.2.1, r) := by simp [putAt, h1]
      have e2 : xs.map (putAt k0 r) = xs := by
        have : ∀ x ∈ xs, putAt k0 r x = id x := fun x hx => by
          have hne : x.1 ≠ k0 := fun z => nd'.1 (by
            rw [← t.keys, ← z]
            exact List.mem_map.mpr ⟨x, hx, rfl⟩)
          simp [putAt, hne]
        rw [List.map_congr_left this, List.map_id]
      rw [e1, e2]
      exact .cons ⟨rfl, h2, h3, h4, hr⟩ t
    · rw [if_neg (by simpa using hk)] at e
      obtain ⟨j', e1, rfl⟩ := Option.map_eq_some_iff.mp e
      rw [List.map_cons, List.set_cons_succ]
      have e3 : putAt k r x0 = x0 := by simp [putAt, h1, hk]
      rw [e3]
      exact .cons ⟨h1, h2, h3, h4, h5⟩ (KeysOk.put t nd'.2 e1 hr)
end
/-! ### reading -/
def gInN (n : Bool) : OV → OV → Option Res
  | .fz d, .nd (.dct ks) _ => match keyT' d with
    | some k => some (.fr (.bool (if n then !(kIx ks k).isSome else (kIx ks k).isSome)))
    | none => none
  | _, _ => none
theorem gInN_run {K : PySem.W.Frag} {P : Program} {w : World} {n : Bool} : ∀ R H v u a b A B d Q, Same R H → Ow ⟨K, P, w⟩ R H v a A → Ow ⟨K, P, w⟩ R H u b B → gInN n a b = some d → New R H Q d → rInN K P w n v u H Q := by
  intro R H v u a b A B d Q s ha hb e q
  unfold gInN at e
  split at e
  · rename_i dd ks os
    split at e
    · rename_i k ek
      cases e
      obtain ⟨e1, e2, e3, ds, e4⟩ := keyT'_ok ek
      cases ha with
      | fz hr =>
        subst e4
        cases hr with
        | tup hh rr =>
          cases hb with
          | nd nn l =>
            cases nn with
            | dct hd hk =>
              refine ⟨_, _, _, k, rfl, rfl, hk.dn s hd, ?_, e2, ?_⟩
              · rw [e1]; exact dp_same s (Rp.tup hh rr).dp
              · rw [hk.isSome]; exact q.1 _ (.bl _)
    · cases e
  · cases e
section
variable {X : Cx} {a b c : Expr} {fa fb fc : FE} {pos : Pos} {fr : FR} {fl : FL}
theorem d_inN (hu : X.A.units + 64 < cLine) (ha : PEd X a fa) (hb : PRd X b fr) (hm : behindInMarks .In b = false := by rfl) : PEd X (.Compare a [.In] [b] pos) (fR2' (gInN false) fa fr) := imp (pe_cmpR (op_inN hu) ha hb hm) (runR2' gInN_run)
theorem d_notinN (hu : X.A.units + 64 < cLine) (ha : PEd X a fa) (hb : PRd X b fr) (hm : behindInMarks .NotIn b = false := by rfl) : PEd X (.Compare a [.NotIn] [b] pos) (fR2' (gInN true) fa fr) := imp (pe_cmpR (op_notInN hu) ha hb hm) (runR2' gInN_run)
theorem t_inN (hu : X.A.units + 64 < cLine) (ha : PEd X a fa) (hb : PRd X b fr) (hm : behindInMarks .In b = false := by rfl) : PTd X (.Compare a [.In] [b] pos) (fB (fR2' (gInN false) fa fr)) := impT (pt_cmpR (op_inN hu) ha hb hm) fun σ H Q h => runR2' gInN_run σ H _ (tB_of σ H Q h)
theorem t_notinN (hu : X.A.units + 64 < cLine) (ha : PEd X a fa) (hb : PRd X b fr) (hm : behindInMarks .NotIn b = false := by rfl) : PTd X (.Compare a [.NotIn] [b] pos) (fB (fR2' (gInN true) fa fr)) := impT (pt_cmpR (op_notInN hu) ha hb hm) fun σ H Q h => runR2' gInN_run σ H _ (tB_of σ H Q h)
/-- the child at a key -/
def nkid : OV → OV → Option OV
  | .nd (.dct ks) os, .fz d => match keyT' d with
    | some k => match kIx ks k with
      | some j => os[j]?
      | none => none
    | none => none
  | _, _ => none
theorem nkid_run {K : PySem.W.Frag} {P : Program} {w : World} {R H Hf : Hp} {v u : V} {c y c' : OV} {A B : List Addr} {Q : VK} (h : Ow ⟨K, P, w⟩ R Hf v c A) (hy : Ow ⟨K, P, w⟩ R H u y B) (s : Same R H) (t : Same Hf H) (e : nkid c y = some c') (q : ∀ z A', Ow ⟨K, P, w⟩ R Hf z c' A' → Q z H) : rIxN K P w v u H Q := by
  unfold nkid at e
  split at e
  · rename_i ks os d
    split at e
    · rename_i k ek
      split at e
      · rename_i j ej
        obtain ⟨e1, e2, e3, ds, e4⟩ := keyT'_ok ek
        cases hy with
        | fz hr =>
          subst e4
          cases hr with
          | tup hh rr =>
            cases h with
            | nd nn l =>
              cases nn with
              | dct hd hk =>
                obtain ⟨p, z, g1, g2, g3⟩ := hk.some_ ej
                obtain ⟨z', A1, A2, A3, k1, k2, _⟩ := l.get e
                rw [g2] at k1
                cases k1
                exact ⟨_, _, _, k, p, z, rfl, rfl, hk.dn s (t _ _ hd), by rw [e1]; exact dp_same s (Rp.tup hh rr).dp, e2, g1, g3, q z A2 k2⟩
      · cases e
    · cases e
  · cases e
def gIxN (a y : OV) : Option Res := match nkid a y with
  | some (.fz d) => some (.fr d)
  | _ => none
theorem d_ixN (hu : X.A.units + 64 < cLine) (ha : PRd X a fr) (hb : PEd X b fb) (hs : PlainIx b := by exact fun _ _ => rfl) : PEd X (.Subscript a b pos) (fR2 gIxN fr fb) :=
  imp (pe_ix (ix_dctN hu) ha hb hs) (runR2 fun R H v u a b A B d Q s ha hb e q => by
    unfold gIxN at e
    split at e
    · rename_i d' ed
      cases e
      exact nkid_run ha hb s (Same.refl _) ed fun z A' hz => by
        cases hz with
        | fz hz => exact q.1 z hz
    · cases e)
def frKey (fr : FR) (fi : FE) : FR := fun L => match fr L with
  | some ((c, b), M) => match fi M with
    | some (r, M2) => match con M2 r with
      | some y => match nkid c y with
        | some c' => some ((c', b), M2)
        | none => none
      | none => none
    | none => none
  | none => none
theorem r_key (hu : X.A.units + 64 < cLine) (ha : PRd X a fr) (hb : PEd X b fb) (hs : PlainIx b := by exact fun _ _ => rfl) : PRd X (.Subscript a b pos) (frKey fr fb) :=
  imp (pe_ix (ix_dctN hu) ha hb hs) (by
    rintro σ H Q ⟨R, Fm, L, T, τ, x, c, bk, M, e, q⟩
    unfold frKey at e
    split at e
    · rename_i c1 b1 M1 e1
      split at e
      · rename_i r M2 e2
        split at e
        · rename_i y ey
          split at e
          · rename_i c' ec
            cases e
            refine ⟨R, Fm, L, T, τ, x, c1, _, M1, e1, fun R1 Fm1 v H1 s1 x1 hh ⟨A, ho⟩ => ⟨R1, Fm1, M1, T, τ, x1, r, _, e2, fun R2 u H2 s2 x2 => ?_⟩⟩
            obtain ⟨B, hi⟩ := x2.con ey
            exact nkid_run (ho.up s2) hi x2.rel.rh (un_to x2.rel.fh x2.rel.rh) ec fun z A' hz => q R2 Fm1 z H2 (s1.trans s2) x2.drop (hh.mono s2) ⟨A', hz⟩
          · cases e
        · cases e
      · cases e
    · cases e)
def gLenN : OV → Option Res
  | .nd (.dct ks) _ => some (.fr (.int ks.length))
  | _ => none
theorem d_lenN {p : Pos} (hg : Gl X "len") (hm : X.mg "len" = none) (ha : PRd X a fr) (he : starEach [a] X.env = (false, eval a X.env) :: starEach [] X.env := by rfl) : PEd X (.Call (.Name "len" p) [a] [] pos) (fR1 gLenN fr) :=
  imp (pe_callB cr_lenN hg hm PySem.boot_len (pa_cons ha pa_nil he) (by decide) (by decide) he) (runR1 (k := fun v H Q => _) fun R H v a A d Q s ha e q => by
    unfold gLenN at e
    split at e
    · rename_i ks os
      cases e
      cases ha with
      | nd nn l =>
        cases nn with
        | dct hd hk =>
          refine ⟨_, _, rfl, hk.dn s hd, ?_⟩
          rw [← hk.length.1]
          exact q.1 _ (.int _)
    · cases e)
/-! ### changing -/
def flKey (fl : FL) (fi : FE) : FL := fun L => match fl L with
  | some ((k, o, p, .nd (.dct ks) os), M) => match fi M with
    | some (r, M2) => match con M2 r with
      | some (.fz d) => match keyT' d with
        | some key => match kIx ks key with
          | some j => match os[j]? with
            | some c => some ((k, o, p ++ [j], c), M2)
            | none => none
          | none => none
        | none => none
      | _ => none
    | none => none
  | _ => none
theorem l_key (hu : X.A.units + 64 < cLine) (ha : PLd X a fl) (hb : PEd X b fb) (hs : PlainIx b := by exact fun _ _ => rfl) : PLd X (.Subscript a b pos) (flKey fl fb) :=
  imp (pe_ix (ix_dctN hu) ha hb hs) (by
    rintro σ H Q ⟨R, Fm, L, T, τ, x, k, o, p, c, M, e, q⟩
    unfold flKey at e
    split at e
    · rename_i k1 o1 p1 ks os M1 e1
      split at e
      · rename_i r M2 e2
        split at e
        · rename_i d ed
          split at e
          · rename_i key ek
            split at e
            · rename_i j ej
              split at e
              · rename_i c' ec
                cases e
                refine ⟨R, Fm, L, T, τ, x, _, _, _, _, M1, e1, fun R1 Fm1 vk v H1 s1 x1 hk hv l => ⟨R1, Fm1, M1, T, τ, x1, r, _, e2, fun R2 u H2 s2 x2 => ?_⟩⟩
                obtain ⟨B, hi⟩ := x2.con ed
                obtain ⟨q1, q2, q3, ds, q4⟩ := keyT'_ok ek
                have l2 := l.mono s2
                obtain ⟨B1, g1, g2, g3, f⟩ := l2.own
                obtain ⟨ad, vs, B0, rfl, hn, ⟨A, hl⟩, ch⟩ := f.node l2.at_
                obtain ⟨z, ez, fz⟩ := ch j _ ec
                cases hn with
                | dct hh hk' =>
                  obtain ⟨pp, z', w1, w2, w3⟩ := hk'.some_ ej
                  rw [ez] at w2
                  cases w2
                  cases hi with
                  | fz hr =>
                    subst q4
                    cases hr with
                    | tup th tr =>
                      exact ⟨ad, _, _, key, pp, z, rfl, rfl, hk'.dn x2.rel.rh (x2.rel.fh _ _ hh), by rw [q1]; exact dp_same x2.rel.rh (Rp.tup th tr).dp, q2, w1, w3, q R2 Fm1 vk z H2 (s1.trans s2) x2.drop hk hv ⟨l2.bo, l2.sub, at_step l2.at_ ec, B1, g1, g2, g3, fz⟩⟩
              · cases e
            · cases e
          · cases e
        · cases e
      · cases e
    · cases e)
/-- the node behind d[k] = x -/
def dput (ks : List NestedKey) (os : List OV) (k : NestedKey) (x : OV) : OV := match kIx ks k with
  | some j => .nd (.dct ks) (os.set j x)
  | none => .nd (.dct (ks ++ [k])) (os ++ [x])
def sSetKey (fl : FL) (fi fe : FE) : FS := fun L => match fArgs [fe] L with
  | some ([x], M) => match fl M with
    | some ((k, o, p, .nd (.dct ks) os), M1) => match fArgs [fi] M1 with
      | some ([.fz d], M2) => match keyT' d with
        | some key => if ks.length < sizeLine then (match plSet (k, o, p, .nd (.dct ks) os) (dput ks os key x) M2 with
          | some M3 => some (.nx, M3)
          | none => none) else none
        | none => none
      | _ => none
    | _ => none
  | _ => none
theorem s_setKey {o i e : Expr} {fi fe : FE} {tp : Pos} (hu : X.A.units + 64 < cLine) (he : PEd X e fe) (ho : PLd X o fl) (hi : PEd X i fi)
    (ha : ∀ v, assign (.Subscript o i tp) X.env v = (do
      let ov ← holding [v] (eval o X.env)
      let iv ← holding [v, ov] (eval i X.env)
      standAt tp
      holding [v, ov, iv] (setItem ov iv v)
      release [v, ov, iv] []) := by intro _; rfl)
    (hs : swapsWithSole [.Subscript o i tp] e pos.line X.env = pure false := by rfl) (hw : swappedStores [.Subscript o i tp] e X.env = pure none := by rfl) (h1 : (assignEach [.Subscript o i tp] X.env).map (·.2) = [assign (.Subscript o i tp) X.env] := by rfl) :
    PSd X (.Assign [.Subscript o i tp] e pos) (sSetKey fl fi fe) :=
  impS (ps_asg he (pg_sub ho hi (set_dctN hu) ha) hs hw h1) (by
    rintro D σ H ⟨R, Fm, L, γ, x, fll, L', e, q⟩
    unfold sSetKey at e
    split at e
    · rename_i xv M eo
      split at e
      · rename_i k o p ks os M1 ek
        split at e
        · rename_i d M2 ed
          split at e
          · rename_i key eky
            split at e
            · rename_i hz
              split at e
              · rename_i M3 em
                cases e
                obtain ⟨hno, rfl⟩ := plSet_at em
                obtain ⟨r, M0, er, et⟩ := fArgs1 eo
                obtain ⟨ri, Mi, eri, eti⟩ := fArgs1 ed
                refine ⟨R, Fm, L, [], γ, x, r, M0, er, fun R1 v H1 s1 x1 => ?_⟩
                obtain ⟨R2, s2, x2⟩ := At.tk (T := []) (τ := γ) x1 et
                refine ⟨R2, Fm, M, [.ow xv], γ ++ [some v], x2, k, o, p, _, M1, ek, fun R3 Fm3 vk ov H3 s3 x3 hk hv l => ⟨R3, Fm3, M1, _, _, x3, ri, Mi, eri, fun R4 iv H4 s4 x4 => ?_⟩⟩
                obtain ⟨R5, s5, x5⟩ := At.tk (T := [.ow xv]) (τ := γ ++ [some v]) x4 eti
                obtain ⟨q1, q2, q3, ds, q4⟩ := keyT'_ok eky
                obtain ⟨Bi, hiv⟩ := At.con (T := [.ow xv]) (τ := γ ++ [some v]) (o := .fz d) x5 rfl
                have x6 := At.drop (T := [.ow xv]) (τ := γ ++ [some v]) x5
                have y := At.take1 (T := []) (τ := γ) x6
                have hkM : k < M2.length := (List.getElem?_eq_some_iff.mp hno).1
                have sl := x6.sl
                have hv' : (σ ++ γ)[k]? = some (some vk) := by
                  have hks : k < σ.length := by rw [sl]; exact hk
                  rw [List.getElem?_append_left hks] at hv ⊢
                  exact hv
                have s35 : Same R3 R5 := s4.trans s5
                obtain ⟨ad, ws, B0, rfl, hn, e3, _, mk⟩ := y.mutF (k := k) l s35 (by simpa using hno) (by simpa using hv') (by simp)
                cases hn with
                | dct hh hkk =>
                  rename_i xs ep0
                  cases hiv with
                  | fz hr =>
                    subst q4
                    cases hr with
                    | tup th tr =>
                      rename_i bk tvs
                      refine ⟨ad, bk, xs, key, rfl, rfl, hkk.dn x5.rel.rh hh, by rw [q1]; exact dp_same x5.rel.rh (Rp.tup th tr).dp, q2, by rw [← hkk.length.1]; exact hz, fun rv ep hrv nd => ?_⟩
                      have hko : KeyOk R5 key v (key, bk, rv) := ⟨rfl, q2, q3, by rw [q1]; exact .tup th tr, hrv⟩
                      have nd' : ks.Nodup := by rw [← hkk.keys]; exact nd
                      unfold dput at q
                      cases ej : kIx ks key with
                      | none =>
                        rw [ej] at q
                        have hst : storedH xs key bk rv = xs ++ [(key, bk, rv)] := storedH_new (hkk.none_ ej) bk rv
                        have z := mk (DctO X.prog X.w ad (storedH xs key bk rv) ep) (.dct (ks ++ [key])) (ws ++ [v]) [] (os ++ [xv]) [] (fun _ _ => by unfold DctO; simp) (.dct upd_same (by rw [hst]; exact hkk.snoc hko)) fun A B h1 h2 => ⟨A ++ B, [], [], h1.append h2, .nil, by simp⟩
                        rw [show M2 ++ [] = M2 by simp] at z
                        exact q R5 σ _ (s1.trans (s2.trans (s3.trans s35))) ⟨sl, by simpa using x6.ge, by simpa using z⟩
                      | some j =>
                        rw [ej] at q
                        obtain ⟨pp, z0, w1, w2, w3⟩ := hkk.some_ ej
                        have hst : storedH xs key bk rv = xs.map (putAt key rv) := storedH_old w1 bk rv
                        have hjl : j < os.length := by
                          have := (List.getElem?_eq_some_iff.mp w2).1
                          omega
                        have z := mk (DctO X.prog X.w ad (storedH xs key bk rv) ep) (.dct ks) (ws.set j v) [] (os.set j xv) [] (fun _ _ => by unfold DctO; simp) (.dct upd_same (by rw [hst]; exact hkk.put nd' ej hrv)) fun A B h1 h2 => by
                          obtain ⟨A', C, g1, g2⟩ := h1.setP hjl h2.one'
                          exact ⟨A', [], C, g1, .nil, by simpa using g2⟩
                        rw [show M2 ++ [] = M2 by simp] at z
                        exact q R5 σ _ (s1.trans (s2.trans (s3.trans s35))) ⟨sl, by simpa using x6.ge, by simpa using z⟩
              · cases e
            · cases e
          · cases e
        · cases e
      · cases e
    · cases e)
/-! ### new dicts -/
theorem RelX.allocN {G : Gp} {n : Nat} {R H : Hp} {Fm : Fr} {its : List SV} {vals : List (Option V)} (x : Rel G n R Fm its vals H) {p : Addr} {ep : Nat} (hp : H p = none) : RelX G n R Fm its vals (upd H p (DctO G.P G.w p [] ep)) [.ref p] [.nd (.dct []) []] := by
  have y := x.grow (same_upd (o := DctO G.P G.w p [] ep) hp)
  obtain ⟨fp, B, h1, h2, h3, h4, h5, h6, h7, h8⟩ := x.ex
  have g1 : ∀ i sv, its[i]? = some sv → SlotOk G R Fm (upd H p (DctO G.P G.w p [] ep)) n vals i (fp i) sv := fun i sv e => (h1 i sv e).frame (frz_same (same_upd hp)) fun b _ o q => same_upd hp b o q
  have nf : ∀ i, p ∉ fp i := fun i h => by
    by_cases hi : i < its.length
    · obtain ⟨o, q⟩ := (h1 i _ (List.getElem?_eq_getElem hi)).live p h
      rw [hp] at q; cases q
    · rw [h2 i (by omega)] at h; simp at h
  refine ⟨x.len, y.rh, y.fh, y.dj, fp, [p], g1, h2, h3, h4, h5, ?_, by simp, fun a ha => ?_⟩
  · exact OwL.one (Ow.nd (B := [p]) (A := []) (Nd.dct (G := G) (R := R) (xs := []) upd_same .nil) .nil)
  · simp at ha
    subst ha
    refine ⟨?_, ?_, nf⟩
    · cases q : R a with
      | none => rfl
      | some u => rw [x.rh a u q] at hp; cases hp
    · cases q : Fm.fm a with
      | none => rfl
      | some u => rw [x.fh a u q] at hp; cases hp
def fDnew : FE := fun L => some (.ow (.nd (.dct []) []), L)
theorem d_dnew : PEd X (.Dict [] [] pos) fDnew := imp pe_dnewN (by
  rintro σ H Q ⟨R, Fm, L, T, τ, x, r, L', e, q⟩ p ep hp
  cases e
  exact q R _ _ (Same.refl _) (At.put1 x.sl x.ge (x.rel.allocN hp)))
end
end Qz
namespace Qz
open PySem PySem.Spec PyProof.Rows L2
/-! ### a display of one pair -/
section
variable {X : Cx} {k v : Expr} {fk fv : FE} {pos : Pos}
def dis1 (K : PySem.W.Frag) (P : Program) (w : World) (p : Addr) (Q : VK) (ps : List (V × V)) (H2 : Hp) : Prop := ∃ b key y, ps = [(V.ref b, y)] ∧ (∃ ep, H2 p = some (DctO P w p [] ep)) ∧ Dp K H2 (.ref b) key.data ∧ key.depth ≤ 8 ∧ ∀ r ep, RelV y r → Q (.ref p) (upd H2 p (DctO P w p [(key, b, r)] ep))
def tDisp1 (K : PySem.W.Frag) (P : Program) (w : World) (tk tv : TE) : TE := fun σ H Q => ∀ p ep, H p = none → tPairs [(tk, tv)] σ (upd H p (DctO P w p [] ep)) (dis1 K P w p Q)
theorem pe_disp1 {tk tv : TE} (hu : X.A.units + 64 < cLine) (hk : PE X k tk) (hv : PE X v tv) : PE X (.Dict [some k] [v] pos) (tDisp1 X.K X.prog X.w tk tv) := by
  refine ⟨fun pins s σ H Q I q => ?_⟩
  have hn := I.hok.fresh (Nat.le_refl s.heap.objs.size)
  have low : (s.heap.objs.size == sysModules) = false := beq_eq_false_iff_ne.mpr (Ne.symm (Nat.ne_of_lt I.big))
  have I1 := I.laid (a := s.heap.objs.size) (o := DctO X.prog X.w s.heap.objs.size [] 0) (h' := s.heap.push { cls := .type "dict", data := .dict #[] }) (t' := s.toks) (fun _ _ q => Heap.get?_push_of_some _ q) (Nat.le_refl _)
    (dctO_ok (Nat.zero_le _) low ⟨_, #[], Heap.get?_push_size _ rfl, ⟨rfl, rfl, rfl⟩, rfl, rfl, List.nodup_nil⟩)
  have hr : (nestedKind X.prog X.w).room X.A := by show X.A.units + 8 < cLine; omega
  have run := (pps_cons (pos := pos) hk hv pps_nil).run pins _ σ _ (dis1 X.K X.prog X.w s.heap.objs.size Q) I1 (q _ _ hn)
  have hsh := zip_pairTrees [some k] [v] X.env pos rfl rfl
  have hpl := pairTrees_length [some k] [v] X.env pos rfl rfl
  rw [arm_eval_Dict, hsh, dictDisplay_pairs _ (fun e => by rw [e] at hpl; simp at hpl) (by rw [hpl]; simp)]
  refine wpAny_bind (wpAny_standAt (wpAny_bind ?_))
  refine wpAny_subDictH (knd := nestedKind X.prog X.w) hr (by rw [hpl]; simp) ?_
  refine wpAny_mono run (fun us s2 h2 => ?_) fun _ _ e => e
  obtain ⟨ps, H2, I2, rel, b, key, y, rfl, hd, hkd, hdp, qq⟩ := h2
  cases rel with
  | cons h t =>
    cases t
    obtain ⟨h1, h2⟩ := h
    rename_i uv
    obtain ⟨u1, u2⟩ := uv
    simp only at h1 h2
    cases (show u1 = Value.ref b from h1)
    have dn : DN X.K X.prog X.w H2 s.heap.objs.size [] := ⟨hd, fun x hx => by simp at hx⟩
    obtain ⟨g1, g2, g3⟩ := dn.at I2
    refine ⟨[(key, b, u2)], ⟨rfl, rfl, ⟨nk_is I2 key _ _ hkd rfl, hdp⟩, True.intro⟩, g3, fun h' tk dd hs => wpAny_pure ?_⟩
    have e : storedAllH [] [(key, b, u2)] = [(key, b, u2)] := rfl
    rw [e] at dd
    obtain ⟨ob, es, ep, w1, w2, w3, w4, _, w5⟩ := dd
    refine ⟨.ref s.heap.objs.size, _, ?_, rfl, qq u2 ep h2⟩
    obtain ⟨ep0, hd0⟩ := hd
    exact d_write I2 (by rw [hd0]; exact True.intro) hs ⟨ob, w1⟩ (dctO_ok (by rw [sizeLine_eq]; simp) g2 ⟨ob, es, w1, w2, w3, w4, w5⟩)
def fDisp1 (fk fv : FE) : FE := fun L => match fArgs [fk, fv] L with
  | some ([.fz d, x], M) => match keyT' d with
    | some key => some (.ow (.nd (.dct [key]) [x]), M)
    | none => none
  | _ => none
theorem d_disp1 (hu : X.A.units + 64 < cLine) (hk : PEd X k fk) (hv : PEd X v fv) : PEd X (.Dict [some k] [v] pos) (fDisp1 fk fv) := imp (pe_disp1 hu hk hv) (by
  rintro σ H Q ⟨R, Fm, L, T, τ, x, r, L', e, q⟩ p ep hp
  unfold fDisp1 at e
  split at e
  · rename_i d xo M eo
    split at e
    · rename_i key eky
      cases e
      -- the two arguments
      simp only [fArgs] at eo
      split at eo
      · rename_i r1 M1 er1
        split at eo
        · rename_i o1 M1' et1
          split at eo
          · rename_i os2 M2 e2
            split at e2
            · rename_i r2 M3 er2
              split at e2
              · rename_i o2 M3' et2
                simp only [Option.some.injEq, Prod.mk.injEq] at e2
                obtain ⟨rfl, rfl⟩ := e2
                simp only [Option.some.injEq, Prod.mk.injEq, List.cons.injEq, and_true] at eo
                obtain ⟨⟨rfl, rfl⟩, rfl⟩ := eo
                obtain ⟨q1, q2, q3, ds, q4⟩ := keyT'_ok eky
                have x0 : At (gp X) X.N.length R Fm L (T ++ [.ow (.nd (.dct []) [])]) σ (τ ++ [some (.ref p)]) (upd H p (DctO X.prog X.w p [] ep)) := At.put1 x.sl x.ge (x.rel.allocN hp)
                refine ⟨R, Fm, L, _, _, x0, r1, M1, er1, fun R1 kv H1 s1 x1 => ?_⟩
                obtain ⟨R2, s2, x2⟩ := x1.tk et1
                refine ⟨R2, Fm, M1', _, _, x2, r2, M3, er2, fun R3 xv H3 s3 x3 => ?_⟩
                obtain ⟨R4, s4, x4⟩ := x3.tk et2
                -- key: frozen
                obtain ⟨A, hkv⟩ := (At.drop x4).con (o := .fz d) rfl
                -- the dict's item is moved out, lent
                have ln := x4.lens
                simp at ln
                have hidx : (M3' ++ (T ++ [SV.ow (.nd (.dct []) [])] ++ [.ow (.fz d)] ++ [.ow o2]))[(M3' ++ T).length]? = some (.ow (.nd (.dct []) [])) := by
                  rw [show M3' ++ (T ++ [SV.ow (.nd (.dct []) [])] ++ [.ow (.fz d)] ++ [.ow o2]) = (M3' ++ T) ++ ([SV.ow (.nd (.dct []) [])] ++ [.ow (.fz d)] ++ [.ow o2]) by simp, List.getElem?_append_right (Nat.le_refl _)]
                  simp
                have hval : (σ ++ (τ ++ [some (V.ref p)] ++ [some kv] ++ [some xv]))[(M3' ++ T).length]? = some (some (V.ref p)) := by
                  rw [show σ ++ (τ ++ [some (V.ref p)] ++ [some kv] ++ [some xv]) = (σ ++ τ) ++ ([some (V.ref p)] ++ [some kv] ++ [some xv]) by simp, List.getElem?_append_right (by simp; omega)]
                  have : (M3' ++ T).length - (σ ++ τ).length = 0 := by simp; omega
                  rw [this]; rfl
                obtain ⟨vd, ev, y⟩ := x4.rel.moveOut hidx
                rw [hval] at ev
                cases ev
                obtain ⟨Fm', l, z⟩ := y.lendB
                obtain ⟨Bl, l1, l2, l3⟩ := l.own
                have lp : LentP (gp X) R4 Fm Fm' (.ref p) (.nd (.dct []) []) [] (.ref p) (.nd (.dct []) []) := ⟨l.bo, l.sub, rfl, Bl, l1.one', l2, l3, Focus.root l1.one'⟩
                have eset : (M3' ++ (T ++ [SV.ow (.nd (.dct []) [])] ++ [SV.ow (.fz d)] ++ [SV.ow o2])).set (M3' ++ T).length .no = (M3' ++ (T ++ [SV.no]) ++ [SV.ow (.fz d)]) ++ [SV.ow o2] := by
                  rw [show M3' ++ (T ++ [SV.ow (.nd (.dct []) [])] ++ [.ow (.fz d)] ++ [.ow o2]) = (M3' ++ T) ++ ([SV.ow (.nd (.dct []) [])] ++ [.ow (.fz d)] ++ [.ow o2]) by simp, List.set_append_right _ _ (Nat.le_refl _)]
                  simp
                rw [eset, show σ ++ (τ ++ [some (V.ref p)] ++ [some kv] ++ [some xv]) = (σ ++ (τ ++ [some (V.ref p)]) ++ [some kv]) ++ [some xv] by simp] at z
                have z1 := z.gather (by simp)
                have z2 := z1.drop1 (by simp)
                have hno : (M3' ++ (T ++ [SV.no]))[(M3' ++ T).length]? = some .no := by rw [← List.append_assoc, List.getElem?_append_right (Nat.le_refl _)]; simp
                have hval2 : (σ ++ (τ ++ [some (V.ref p)]))[(M3' ++ T).length]? = some (some (V.ref p)) := by
                  rw [← List.append_assoc, List.getElem?_append_right (by simp; omega)]
                  have : (M3' ++ T).length - (σ ++ τ).length = 0 := by simp; omega
                  rw [this]; rfl
                obtain ⟨ad, ws, B0, ead, hn, e3, _, mk⟩ := z2.mutF lp (Same.refl _) hno hval2 (by simp)
                cases ead
                cases hn with
                | dct hh hkk =>
                  rename_i xs ep0
                  cases hkk
                  cases hkv with
                  | fz hr =>
                    subst q4
                    cases hr with
                    | tup th tr =>
                      rename_i bk tvs
                      refine ⟨bk, key, xv, rfl, ⟨_, hh⟩, by rw [q1]; exact dp_same x4.rel.rh (Rp.tup th tr).dp, q2, fun rv ep1 hrv => ?_⟩
                      have hko : KeyOk R4 key xv (key, bk, rv) := ⟨rfl, q2, q3, by rw [q1]; exact .tup th tr, hrv⟩
                      have fin := mk (DctO X.prog X.w p [(key, bk, rv)] ep1) (.dct [key]) [xv] [] [o2] [] (fun _ _ => by unfold DctO; simp) (.dct upd_same (.cons hko .nil)) fun A B h1 h2 => by
                        cases h1
                        exact ⟨B, [], [], h2, .nil, by simp⟩
                      rw [pt_nil] at fin
                      have eset2 : (M3' ++ (T ++ [SV.no])).set (M3' ++ T).length (.ow (.nd (.dct [key]) [o2])) = M3' ++ (T ++ [.ow (.nd (.dct [key]) [o2])]) := by
                        rw [← List.append_assoc, List.set_append_right _ _ (Nat.le_refl _)]
                        simp
                      rw [eset2] at fin
                      exact q R4 _ _ (s1.trans (s2.trans (s3.trans s4))) ⟨x4.sl, x4.ge, by
                        have hl : M3'.length = M3'.length := rfl
                        exact fin⟩
              · cases e2
            · cases e2
          · cases eo
        · cases eo
      · cases eo
    · cases e
  · cases e)
end
end Qz
namespace Qz
open PySem PySem.Spec PyProof.Rows L2
/-! ### set(xs) of a list, by what its loop leaves -/
abbrev setO0 (w : World) : Obj := { cls := .type "set", dict := none, data := .set #[] 0 (.fresh 0 0 (!w.params.followText "set-order")) }
section
variable {P : Program} {w : World} {A : Around} {E : Value → Shared → Prop} {s : Shared}
set_option maxHeartbeats 3200000 in
theorem call_set_of {l : Addr} {its : Array Value} {Q : Value → Shared → Prop} (hh : A.handled = none) (hl : s.heap.IsList l its) (Pst : Heap → Prop)
    (loop : ∀ (I : Addr) (fp wr : List Addr) (G : Array GenState → Array GenState → Prop) (St : Nat → Shared → Prop) (_ : WalksS P w A.in1.in1.in1 I fp wr G its.size (fun i v => its[i]? = some v) St) (s1 : Shared) (R : Result → Shared → Prop),
      s.heap.objs.size ∉ fp → (∀ b ∈ wr, s.heap.get? b = none) → St 0 s1 → s1.heap.get? s.heap.objs.size = some (setO0 w) → (∀ b o, s.heap.get? b = some o → s1.heap.get? b = some o) →
      (∀ s', Moved (s.heap.objs.size :: wr) G s1 s' → Pst s'.heap → R (.ok (.ret .none)) s') → codeAny (model P w) A.in1.in1 (.builtin "set.update.loop" ⟨[.ref s.heap.objs.size, .ref I], []⟩) R s1)
    (h : ∀ (h' : Heap) (tk : Nat), Pst h' → (∀ b o, s.heap.get? b = some o → h'.get? b = some o) → Q (.ref s.heap.objs.size) { s with heap := h', toks := tk }) :
    wpAny (model P w) A (call (.type "set") [.ref l]) Q E s := by
  obtain ⟨c, tl, hmro⟩ := F.called_set.mro; have hmade := F.called_set.made; have hsub := F.called_set.sub
  refine wpAny_call (codeAny_of_tree ?_); show wpAny _ _ (callAny (.type "set") _) _ _ _
  refine wpAny_pure ⟨Code.quiet_builtin _ (by decide +kernel), codeAny_builtin F.entry_type_call ?_⟩; rw [Around.under_plain (weight_type_call_type "set" [.ref l] []) rfl]
  have h1 := F.called_set.notType; have h2 := F.called_set.canCreate; have hct := F.typeCall_set_1 (.ref l)
  repeat (any_goals (first | assumption | wp_step))
  refine codeAny_mono (code_set_led1 (.ref l) (E := E) (Q₁ := fun obj s₁ => obj = .ref s.heap.objs.size ∧ s₁ = { s with heap := s.heap.push (setO0 w) }) ⟨rfl, rfl⟩) fun r s₁ hr => ?_
  cases r with
  | error e => exact hr
  | ok fl =>
    cases fl with
    | ret obj =>
      obtain ⟨rfl, rfl⟩ := hr
      have hS : (s.heap.push (setO0 w)).get? s.heap.objs.size = some (setO0 w) := Heap.get?_push_size _ rfl
      have hT : Shared.TypeIs { s with heap := s.heap.push (setO0 w) } (.ref s.heap.objs.size) "set" := ⟨_, hS, rfl⟩
      have hli := F.called_set.init.lookup; have hbi := F.called_set.init.bind (.ref s.heap.objs.size)
      repeat (any_goals (first | assumption | wp_step))
      refine codeAny_mono (codeAny_call_builtin (R := wants (fun r s₂ => r = .none ∧ ∃ h' tk, s₂ = { s with heap := h', toks := tk } ∧ Pst h' ∧ (∀ b o, s.heap.get? b = some o → h'.get? b = some o)) E) F.called_set.init.plain F.entry_set_init (check_set_init_1 hT ?_)) fun r₂ s₂ hr₂ => ?_
      · obtain ⟨ol, hol, hcl, nl, hdl⟩ := hl; obtain ⟨ocls, odict, odata, oslots⟩ := ol
        simp only at hcl hdl; subst hcl; subst hdl
        have hol' : (s.heap.push (setO0 w)).get? l = some { cls := .type "list", dict := odict, data := .seq its nl, slots := oslots } := Heap.get?_push_of_some _ hol
        have hsls := F.sub_list_set; have hslf := F.sub_list_frozenset; have hne : (Value.type "list" == Value.type "dict") = false := by decide
        have hl1 : (s.heap.push (setO0 w)).IsList l its := ⟨_, hol', rfl, nl, rfl⟩
        unfold Builtin.«set.__init__» noKeywords Builtin.Frozenset.updateFrom
        generalize hPI : pyIter = PI
        wp_walk
        subst hPI
        refine wpAny_pyIter_list hl1 ?_; refine wpAny_bind (wpAny_runValue ?_)
        have hlS : l < s.heap.objs.size := Heap.lt_size hol
        have hh3 : A.in1.in1.in1.handled = none := by simp [hh]
        have hneI : l ≠ (s.heap.push (setO0 w)).objs.size := by rw [Heap.size_push]; exact Nat.ne_of_lt (Nat.lt_succ_of_lt hlS)
        have hSf : s.heap.objs.size ∉ [(s.heap.push (setO0 w)).objs.size, l] := by
          rw [Heap.size_push]; simp only [List.mem_cons, List.mem_singleton, List.not_mem_nil, or_false, not_or]; exact ⟨Nat.ne_of_lt (Nat.lt_succ_self _), Nat.ne_of_gt hlS⟩
        refine loop _ _ _ _ _ ((Walks.list hh3 _ l hneI its).toS) _ _ hSf (fun b hb => ?_) ⟨⟨_, Heap.get?_push_size _ rfl, rfl, rfl⟩, (hl1.push _)⟩ (Heap.get?_push_of_some _ hS) (fun b o e => Heap.get?_push_of_some _ (Heap.get?_push_of_some _ e)) fun s' hm hP => ?_
        · cases q : s.heap.get? b with
          | none => rfl
          | some o => have := Heap.lt_size q; rw [List.mem_singleton.mp hb, Heap.size_push] at this; exact absurd this (Nat.not_lt_of_le (Nat.le_succ _))
        · obtain ⟨h', g2, d', tk', os'⟩ := s'
          have eg : g2 = s.gens := hm.gens; have ed : d' = s.drawn := hm.drawn; have eo : os' = s.os := hm.os
          subst eg; subst ed; subst eo
          show wpAny _ _ _ _ _ _; refine wpAny_pure ?_
          show wpAny _ _ (ret Value.none) _ _ _
          refine wpAny_pure ⟨rfl, h', tk', rfl, hP, fun b o e => ?_⟩
          have hb0 : b < s.heap.objs.size := Heap.lt_size e
          have hb2 : b ≠ (s.heap.push (setO0 w)).objs.size := by rw [Heap.size_push]; exact Nat.ne_of_lt (Nat.lt_succ_of_lt hb0)
          exact hm.heap b o (by simp only [List.mem_cons, List.mem_singleton, List.not_mem_nil, or_false, not_or]; exact ⟨Nat.ne_of_lt hb0, hb2⟩) (Heap.get?_push_of_some _ (Heap.get?_push_of_some _ e))
      · cases r₂ with
        | error e => exact hr₂
        | ok fl2 =>
          cases fl2 with
          | ret o2 =>
            obtain ⟨rfl, h', tk, rfl, hR, hk⟩ := hr₂
            wp_walk
            exact h h' tk hR hk
          | _ => exact hr₂
    | _ => exact hr
/-- of numbers -/
theorem call_set_lstI {l : Addr} {its : Array Value} (ns : List Int) {Q : Value → Shared → Prop} (hh : A.handled = none) (hl : s.heap.IsList l its) (hit : IntsAre its.toList ns) (hb : ns.length + 1 < scanBound)
    (h : ∀ (h' : Heap) (tk c : Nat), SetR w h' s.heap.objs.size (fun j => decide (j ∈ ns)) c → c ≤ ns.length → (∀ b o, s.heap.get? b = some o → h'.get? b = some o) → Q (.ref s.heap.objs.size) { s with heap := h', toks := tk }) :
    wpAny (model P w) A (call (.type "set") [.ref l]) Q E s := by
  have hisz : its.size = ns.length := by have q := IntsAre.length hit; rwa [Array.length_toList] at q
  refine call_set_of hh hl (fun h' => ∃ c, SetR w h' s.heap.objs.size (fun j => decide (j ∈ ns)) c ∧ c ≤ ns.length) (fun I fp wr G St W s1 R hSf hw hst hS hkp hR => ?_) fun h' tk ⟨c, h1, h2⟩ hk => h h' tk c h1 h2 hk
  have hval : ∀ (i : Nat) (v : Value), its[i]? = some v → ∃ k t, ns[i]? = some k ∧ v = .int k t := fun i v hv => by
    have hi : i < ns.length := by rw [← hisz]; exact (Array.getElem?_eq_some_iff.mp hv).1
    obtain ⟨t, e⟩ := PyProof.Rows.IntsAre.int_at hit i v (by rw [Array.getElem?_toList]; exact hv)
    exact ⟨ns[i], t, List.getElem?_eq_getElem hi, by rw [e, List.getD_eq_getElem?_getD, List.getElem?_eq_getElem hi] <;> rfl⟩
  exact set_update_ints W s.heap.objs.size hSf ns hisz hb hval (its.size - 0) 0 _ (by omega) (Nat.zero_le _) hst ⟨0, Nat.le_refl 0, setR_new_at hS⟩ fun s' c' hm hc' hS' => hR s' hm ⟨c', hS', by rw [← hisz]; exact hc'⟩
theorem few_len {α : Type} [DecidableEq α] : ∀ (l D : List α), l.Nodup → (∀ x ∈ l, x ∈ D) → l.length ≤ D.length
  | [], D, _, _ => by simp
  | x :: xs, D, h, hs => by
    have h1 := List.nodup_cons.mp h
    have hx := hs x (by simp)
    have := few_len xs (D.erase x) h1.2 fun y hy => (List.mem_erase_of_ne (fun e => by subst e; exact h1.1 hy)).mpr (hs y (by simp [hy]))
    rw [List.length_erase_of_mem hx] at this
    have := List.length_pos_of_mem hx
    simp only [List.length_cons]; omega
/-- of tuples of numbers, few of them distinct -/
theorem set_upd_few {B : Around} {I S : Addr} {fp wr : List Addr} {G : Array GenState → Array GenState → Prop} {n : Nat} {Pv : Nat → Value → Prop} {St : Nat → Shared → Prop} {R : Result → Shared → Prop} (W : WalksS P w B.in1 I fp wr G n Pv St) (hSf : S ∉ fp)
    (ks : List (Addr × List Int)) (hn : n = ks.length) (D : List (List Int)) (hD : D.length < 63) (hin : ∀ p ∈ ks, p.2 ∈ D) (hval : ∀ i v, Pv i v → ∃ p, ks[i]? = some p ∧ v = .ref p.1)
    (h0 : Heap) (hk : ∀ p ∈ ks, IsT P w h0 p.2 p.1) (hS0 : h0.get? S = none) (hw0 : ∀ b ∈ wr, h0.get? b = none) (hu : B.in1.units < cLine) : ∀ (k i : Nat) (s : Shared), i + k = n → St i s → (∀ b o, h0.get? b = some o → s.heap.get? b = some o) → (∃ L es ep t, SetTR P w s.heap S L es ep t ∧ Got ks i L) →
      (∀ s', Moved (S :: wr) G s s' → (∃ L es ep t, SetTR P w s'.heap S L es ep t ∧ Got ks n L) → R (.ok (.ret .none)) s') → codeAny (model P w) B (.builtin "set.update.loop" ⟨[.ref S, .ref I], []⟩) R s := by
  have more : ∀ {s s' : Shared}, Moved wr G s s' → (∀ b o, h0.get? b = some o → s.heap.get? b = some o) → ∀ b o, h0.get? b = some o → s'.heap.get? b = some o := fun hm hkp b o e => hm.heap b o (fun hb => by rw [hw0 b hb] at e; cases e) (hkp b o e)
  have stay : ∀ {s s' : Shared} {L es ep t i}, Moved wr G s s' → (∀ b o, h0.get? b = some o → s'.heap.get? b = some o) → Got ks i L → SetTR P w s.heap S L es ep t → SetTR P w s'.heap S L es ep t := fun hm hkp g hS => hS.keep (fun o e => hm.heap S o (fun h => hSf (W.sub _ h)) e) fun p hp => isT_keep (hk p (List.mem_of_mem_take (g.sub p hp))) hkp
  have wide : ∀ b ∈ wr, b ∈ S :: wr := fun b hb => List.mem_cons_of_mem _ hb
  intro k
  induction k with
  | zero =>
    rintro i s hik hst hkp ⟨L, es, ep, t, hS, g⟩ hR
    obtain rfl : i = n := hik
    refine codeAny_builtin F.entry_set_update_loop ?_; rw [Around.under_plainId F.plain_set_update_loop _]; show wpAny _ B.in1 (pyNext (.ref I) >>= _) _ _ s
    refine wpAny_bind (W.done s _ _ hst fun s' hm => ?_); show wpAny _ B.in1 (ret Value.none) _ _ s'
    exact wpAny_pure (hR s' (hm.mono wide) ⟨L, es, ep, t, stay hm (more hm hkp) g hS, g⟩)
  | succ k ih =>
    rintro i s hik hst hkp ⟨L, es, ep, t, hS, g⟩ hR
    refine codeAny_builtin F.entry_set_update_loop ?_; rw [Around.under_plainId F.plain_set_update_loop _]; show wpAny _ B.in1 (pyNext (.ref I) >>= _) _ _ s
    refine wpAny_bind (W.item i s _ _ (by omega) hst fun v s' hP hst' hm => ?_)
    obtain ⟨p, hp, rfl⟩ := hval i v hP
    have hkp' := more hm hkp; have hS' := stay hm hkp' g hS; have hx : IsT P w s'.heap p.2 p.1 := isT_keep (hk p (List.mem_of_getElem? hp)) hkp'
    have hfew : L.length + 1 < 64 := by
      have : (L.map (·.2)).length ≤ D.length := few_len _ _ hS'.nd fun x hx => by
        obtain ⟨q, hq, rfl⟩ := List.mem_map.mp hx
        exact hin q (List.mem_of_mem_take (g.sub q hq))
      rw [List.length_map] at this; omega
    show wpAny _ B.in1 (holding [Value.ref p.1] (setAdd S (.ref p.1)) >>= _) _ _ s'
    refine wpAny_bind (wpAny_holding ?_); unfold setAdd; refine wpAny_holding ?_
    refine wpAny_bind (wpAny_pyHash_tuple hu hx ?_); refine add_at (s := { s' with toks := s'.toks + (p.2.length + 1) }) hS' hx hu hfew fun b h' L' es' ep' t' hsb hS2 c1 c2 => ?_
    have g' : Got ks (i + 1) L' := (Classical.em (p.2 ∈ L.map (·.2))).elim (fun c => by rw [c1 c]; exact g.same hp c) fun c => g.more hp (c2 c)
    have hkp2 : ∀ b o, h0.get? b = some o → h'.get? b = some o := fun b o e => (hsb.2 b (fun z => by rw [z, hS0] at e; cases e)).trans (hkp' b o e)
    refine wpAny_pure ⟨plainId_quiet F.plain_set_update_loop _, ih (i + 1) _ (by omega) (W.frame _ s' _ _ hst' (Nat.le_add_right _ _) fun b hb o e => ?_) hkp2 ⟨L', es', ep', t', hS2, g'⟩ fun s'' hm'' hS'' => ?_⟩
    · rw [hsb.2 b (fun h : b = S => hSf (h ▸ hb))]; exact e
    · refine hR s'' (Moved.trans W.gtrans ((hm.mono wide).then_heap (Nat.le_add_right _ _) fun b o hb e => ?_) hm'') hS''
      rw [hsb.2 b (fun h : b = S => hb (h ▸ List.mem_cons_self))]; exact e
theorem call_set_few {l : Addr} {its : Array Value} (ks : List (Addr × List Int)) {Q : Value → Shared → Prop} (hh : A.handled = none) (hl : s.heap.IsList l its) (hit : its.toList = ks.map fun p => Value.ref p.1) (hk : ∀ p ∈ ks, IsT P w s.heap p.2 p.1) (D : List (List Int)) (hD : D.length < 63) (hin : ∀ p ∈ ks, p.2 ∈ D) (hu : A.units + 3 < cLine)
    (h : ∀ (h' : Heap) (tk : Nat) L es ep t, SetTR P w h' s.heap.objs.size L es ep t → Got ks ks.length L → (∀ b o, s.heap.get? b = some o → h'.get? b = some o) → Q (.ref s.heap.objs.size) { s with heap := h', toks := tk }) :
    wpAny (model P w) A (call (.type "set") [.ref l]) Q E s := by
  have hisz : its.size = ks.length := by have q := congrArg List.length hit; rwa [Array.length_toList, List.length_map] at q
  refine call_set_of hh hl (fun h' => ∃ L es ep t, SetTR P w h' s.heap.objs.size L es ep t ∧ Got ks ks.length L) (fun I fp wr G St W s1 R hSf hw hst hS hkp hR => ?_) fun h' tk ⟨L, es, ep, t, h1, h2⟩ hk => h h' tk L es ep t h1 h2 hk
  have hval : ∀ (i : Nat) (v : Value), its[i]? = some v → ∃ p, ks[i]? = some p ∧ v = .ref p.1 := fun i v hv => by
    have q : its.toList[i]? = some v := by rw [Array.getElem?_toList]; exact hv
    rw [hit, List.getElem?_map] at q
    obtain ⟨p, e1, e2⟩ := Option.map_eq_some_iff.mp q
    exact ⟨p, e1, e2.symm⟩
  have fresh : s.heap.get? s.heap.objs.size = none := by
    cases q : s.heap.get? s.heap.objs.size with
    | none => rfl
    | some o => exact absurd (Heap.lt_size q) (Nat.lt_irrefl _)
  exact set_upd_few W hSf ks hisz D hD hin hval s.heap hk fresh hw (by simpa using hu) its.size 0 s1 (by omega) hst hkp ⟨[], #[], 0, _, setTR_fresh hS, Got.zero ks⟩ fun s' hm hS' => hR s' hm (by rw [← hisz]; exact hS')
end
end Qz
namespace Qz
open PySem PySem.Spec PyProof.Rows L2
/-! ### sum of lists -/
abbrev lob (xs : List Value) (n : Nat) : Obj := { cls := .type "list", data := .seq xs.toArray n }
def accV (val : Nat → List Value) (z : List Value) : Nat → List Value
  | 0 => z
  | i + 1 => accV val z i ++ val i
section
variable {P : Program} {w : World} {A : Around} {R : Result → Shared → Prop} {I : Addr} {fp wr : List Addr} {G : Array GenState → Array GenState → Prop} {n : Nat} {Pv : Nat → Value → Prop} {St : Nat → Shared → Prop}
set_option maxHeartbeats 1000000 in
theorem sumL_loop (W : WalksS P w A.in1 I fp wr G n Pv St) (h0 : Heap) (N0 : Nat) (hN : ∀ b o, h0.get? b = some o → b < N0) (S : Addr) (hSf : S ∉ fp) (hSN : N0 ≤ S) (hwN : ∀ b ∈ wr, N0 ≤ b) (hlive : ∀ i s, St i s → ∀ b ∈ wr, b < s.heap.objs.size) (val : Nat → List Value) (z : List Value)
    (hval : ∀ i v, Pv i v → ∃ p m, v = .ref p ∧ h0.get? p = some (lob (val i) m)) (hz : ∀ i, i ≤ n → (accV val z i).length ≤ sizeLine) :
    ∀ (k i : Nat) (s : Shared) (T : Addr) (m c : Nat), n - i = k → i ≤ n → St i s → (∀ b o, h0.get? b = some o → s.heap.get? b = some o) → s.heap.get? S = some { cls := .type "list", dict := none, data := .seq #[.ref T] c, slots := #[] } →
      T ∉ S :: wr → s.heap.get? T = some (lob (accV val z i) m) → (0 < i → N0 ≤ T) →
      (∀ s' T' m', Moved (S :: wr) G s s' → s'.heap.get? T' = some (lob (accV val z n) m') → (0 < n → N0 ≤ T') → (∀ b o, h0.get? b = some o → s'.heap.get? b = some o) → R (.ok (.ret (.ref T'))) s') →
      codeAny (model P w) A (.builtin "sum.loop" ⟨[.ref I, .ref S, rawInt 2, rawInt 0], []⟩) R s := by
  have hSw : S ∉ wr := fun h => hSf (W.sub _ h)
  have hsub : ∀ b ∈ wr, b ∈ S :: wr := fun b hb => List.mem_cons_of_mem _ hb
  have h0w : ∀ b o, h0.get? b = some o → b ∉ wr := fun b o e hb => Nat.lt_irrefl _ (Nat.lt_of_lt_of_le (hN b o e) (hwN b hb))
  have h0S : ∀ b o, h0.get? b = some o → b ≠ S := fun b o e hb => by subst hb; exact Nat.lt_irrefl _ (Nat.lt_of_lt_of_le (hN b o e) hSN)
  intro k
  induction k with
  | zero =>
    intro i s T m c hk hi hst hkeep hS hT hTo hT0 hR
    have hin : i = n := by omega
    subst hin
    refine codeAny_builtin F.entry_sum_loop ?_; rw [Around.under_plainId F.plain_sum_loop _]
    show wpAny _ A.in1 (seqItems? (.ref S) >>= _) _ _ s; refine wpAny_bind (wpAny_seqItems hS rfl ?_)
    show wpAny _ A.in1 (tryCatch (pyNext (.ref I)) _ >>= _) _ _ s; refine wpAny_bind (wpAny_tryCatch (W.done s _ _ hst fun s' hm => ?_))
    have hTw : T ∉ wr := fun h => hT (hsub T h)
    exact wpAny_pure (hR s' T m (hm.mono hsub) (hm.heap T _ hTw hTo) hT0 fun b o e => hm.heap b o (h0w b o e) (hkeep b o e))
  | succ k ih =>
    intro i s T m c hk hi hst hkeep hS hT hTo hT0 hR
    have hlt : i < n := by omega
    have hTw : T ∉ wr := fun h => hT (hsub T h)
    refine codeAny_builtin F.entry_sum_loop ?_; rw [Around.under_plainId F.plain_sum_loop _]
    show wpAny _ A.in1 (seqItems? (.ref S) >>= _) _ _ s; refine wpAny_bind (wpAny_seqItems hS rfl ?_)
    show wpAny _ A.in1 (tryCatch (pyNext (.ref I)) _ >>= _) _ _ s; refine wpAny_bind (wpAny_tryCatch (W.item i s _ _ hlt hst fun v s' hP hst' hm => ?_))
    obtain ⟨p, mm, rfl, hp⟩ := hval i v hP
    have hS' := hm.heap S _ hSw hS
    have hT' := hm.heap T _ hTw hTo
    have hk' : ∀ b o, h0.get? b = some o → s'.heap.get? b = some o := fun b o e => hm.heap b o (h0w b o e) (hkeep b o e)
    have hp' := hk' p _ hp
    have hsz := hz (i + 1) hlt
    have hsz' : (accV val z i).length + (val i).length ≤ sizeLine := by simpa [accV] using hsz
    show wpAny _ A.in1 ((holding [Value.ref p] (binaryOp .Add (.ref T) (.ref p))).attempt >>= _) _ _ _
    refine wpAny_bind (wpAny_attempt (wpAny_holding (PySem.P.add_list hT' hp' ?_ (by simpa using hsz'))))
    have hSlt : S < s'.heap.objs.size := Heap.lt_size hS'
    have hne : s'.heap.objs.size ≠ S := Nat.ne_of_gt hSlt
    have hN0 : N0 ≤ s'.heap.objs.size := Nat.le_of_lt (Nat.lt_of_le_of_lt hSN hSlt)
    have ea : (accV val z i).toArray ++ (val i).toArray = (accV val z (i + 1)).toArray := by simp [accV]
    rw [ea]
    generalize hB : s'.heap.push { cls := .type "list", data := .seq (accV val z (i + 1)).toArray } = B
    have hSB : B.get? S = some { cls := .type "list", dict := none, data := .seq #[.ref T] c, slots := #[] } := by rw [← hB]; exact Heap.get?_push_of_some _ hS'
    have hNB : B.get? s'.heap.objs.size = some (lob (accV val z (i + 1)) 0) := by rw [← hB]; exact Heap.get?_push_size _ rfl
    have hkB : ∀ b o, s'.heap.get? b = some o → B.get? b = some o := fun b o e => by rw [← hB]; exact Heap.get?_push_of_some _ e
    show wpAny _ A.in1 (updateSeq S (fun _ => #[Value.ref s'.heap.objs.size]) >>= _) _ _ _
    refine wpAny_bind (wpAny_updateSeq hSB rfl ?_)
    have hS₂ := Heap.get?_update_self (Obj.mapSeq fun _ => #[Value.ref s'.heap.objs.size]) hSB rfl
    refine wpAny_bind (wpAny_letGo ?_)
    have two : ∀ b, b ≠ S → ∀ o, B.get? b = some o → ((B.update S (Obj.mapSeq fun _ => #[Value.ref s'.heap.objs.size])).update S (Obj.mapSeq fun _ => #[Value.ref s'.heap.objs.size])).get? b = some o := fun b hb o e =>
      (Heap.get?_update_other _ _ (Ne.symm hb)).trans ((Heap.get?_update_other _ _ (Ne.symm hb)).trans e)
    have hIw : s'.heap.objs.size ∉ S :: wr := fun h => by
      rcases List.mem_cons.mp h with h | h
      · exact hne h
      · exact Nat.lt_irrefl _ (hlive _ s' hst' _ h)
    refine wpAny_bind (wpAny_updateSeq hS₂ rfl (wpAny_pure ⟨plainId_quiet F.plain_sum_loop _, ih (i + 1) _ s'.heap.objs.size 0 _ (by omega) hlt (W.frame _ s' _ _ hst' (Nat.le_refl _) fun b hb o e => ?_) (fun b o e => ?_) (Heap.get?_update_self _ hS₂ rfl) hIw (two _ hne _ hNB) (fun _ => hN0) fun s'' T2 m2 hm'' g1 g2 g3 => ?_⟩))
    · exact two b (fun h => hSf (by rw [← h]; exact hb)) o (hkB b o e)
    · exact two b (h0S b o e) o (hkB b o (hk' b o e))
    · refine hR s'' T2 m2 (Moved.trans W.gtrans ((hm.mono hsub).then_heap (Nat.le_refl _) fun b o hb e => ?_) hm'') g1 g2 g3
      exact two b (fun h => hb (by rw [h]; exact List.mem_cons_self)) o (hkB b o e)
end
end Qz
namespace Qz
open PySem PySem.Spec PyProof.Rows L2
theorem args_sum_two (a b : Value) : argsOk "sum" ⟨[a, b], []⟩ := by unfold argsOk; kernel_rfl
section
variable {P : Program} {w : World} {A : Around} {E : Value → Shared → Prop} {s : Shared}
set_option maxHeartbeats 1000000 in
theorem call_sumL {l z : Addr} {vs zs : List Value} {m0 : Nat} {val : Nat → List Value} {Q : Value → Shared → Prop} (hh : A.handled = none) (hl : s.heap.IsList l vs.toArray) (hz : s.heap.get? z = some (lob zs m0))
    (hv : ∀ (i : Nat) (v : Value), vs.toArray[i]? = some v → ∃ p m, v = .ref p ∧ s.heap.get? p = some (lob (val i) m)) (hsz : ∀ i, i ≤ vs.length → (accV val zs i).length ≤ sizeLine) (hn : 0 < vs.length)
    (h : ∀ h' tk T m, (∀ b o, s.heap.get? b = some o → h'.get? b = some o) → s.heap.objs.size ≤ T → h'.get? T = some (lob (accV val zs vs.length) m) → Q (.ref T) { s with heap := h', toks := tk }) :
    wpAny (model P w) A (call (.builtin "sum") [.ref l, .ref z]) Q E s := by
  refine call_function_tree F.kind_sum F.plain_sum F.entry_sum (args_sum_two _ _) ?_
  unfold Builtin.«sum»
  simp only [List.length_cons, List.length_nil]
  rw [if_neg (by decide)]
  refine wpAny_bind (wpAny_of_eq (show Builtin.Builtins.bindParams "sum" ["start"] 0 { pos := [Value.ref z] } = pure [some (.ref z)] from rfl) ?_)
  refine wpAny_bind (PySem.W.iter_listW (A := A.in1) hh hl fun s2 e W st hfp hw hk => ?_)
  subst e
  refine wpAny_bind (wpAny_pure ?_)
  have hz2 := hk z _ hz
  have ty : ∀ t, Shared.TypeIs { s with heap := s.heap.push { cls := .type "list_iterator", data := .fields #[.ref l, .int 0 0] }, toks := t } (.ref z) "list" := fun t => ⟨_, hz2, rfl⟩
  simp only [List.forIn_cons, List.forIn_nil]
  refine wpAny_bind (wpAny_bind (wpAny_bind (wpAny_isInstance (T := "list") (b := false) (ty _) F.sub_list_str ?_))); simp only [Bool.false_eq_true, if_false]
  refine wpAny_pure (wpAny_bind (wpAny_bind (wpAny_isInstance (T := "list") (b := false) (ty _) F.sub_list_bytes ?_))); simp only [Bool.false_eq_true, if_false]
  refine wpAny_pure (wpAny_bind (wpAny_bind (wpAny_isInstance (T := "list") (b := false) (ty _) F.sub_list_bytearray ?_))); simp only [Bool.false_eq_true, if_false]
  refine wpAny_pure (wpAny_pure ?_)
  refine wpAny_bind (wpAny_newObj_type ?_)
  have hlz : z < s.heap.objs.size := Heap.lt_size hz
  generalize hs2 : s.heap.push { cls := .type "list_iterator", data := .fields #[.ref l, .int 0 0] } = h2 at *
  have hsz2 : h2.objs.size = s.heap.objs.size + 1 := by rw [← hs2]; exact Heap.size_push ..
  have hSf : h2.objs.size ∉ [s.heap.objs.size, l] := fun hm => Nat.lt_irrefl _ (hfp _ hm)
  refine wpAny_pure ⟨plainId_quiet F.plain_sum_loop _, sumL_loop W s.heap s.heap.objs.size (fun b o e => Heap.lt_size e) h2.objs.size hSf (by rw [hsz2]; exact Nat.le_succ _) (fun b hb => by simp at hb; rw [hb]; exact Nat.le_refl _)
    (fun i s' hst b hb => by simp at hb; rw [hb]; obtain ⟨o, e, _⟩ := hst.1; exact Heap.lt_size e) val zs hv (by simpa using hsz) vs.toArray.size 0 _ z m0 0 rfl (Nat.zero_le _)
    (W.frame 0 _ _ _ st (Nat.le_refl _) fun b _ o e => Heap.get?_push_of_some _ e) (fun b o e => Heap.get?_push_of_some _ (hk b o e)) (Heap.get?_push_size _ rfl) ?_ (Heap.get?_push_of_some _ hz2) (fun h0 => absurd h0 (Nat.lt_irrefl _)) fun s' T' m' hm g1 g2 g3 => ?_⟩
  · intro hm
    rcases List.mem_cons.mp hm with e | hm
    · rw [e, hsz2] at hlz; exact absurd hlz (Nat.not_lt.mpr (Nat.le_succ _))
    · simp at hm; rw [hm] at hlz; exact Nat.lt_irrefl _ hlz
  · obtain ⟨h', g', d', tk', os'⟩ := s'
    have eg : g' = s.gens := hm.gens; have ed : d' = s.drawn := hm.drawn; have eo : os' = s.os := hm.os
    subst eg; subst ed; subst eo
    exact h h' tk' T' m' g3 (g2 (by simpa using hn)) (by simpa using g1)
end
/-- sum(xs, []) of lists of things -/
def rSumL : List V → Hp → VK → Prop := fun as H Q => ∃ (l z : Addr) (ps : List Addr) (xss : List (List V)) (zs : List V), as = [.ref l, .ref z] ∧ H l = some (.lst (ps.map V.ref)) ∧ H z = some (.lst zs) ∧ ps.length = xss.length ∧ ps ≠ [] ∧
  (∀ (i : Nat) p xs, ps[i]? = some p → xss[i]? = some xs → H p = some (.lst xs)) ∧ (zs ++ xss.flatten).length ≤ sizeLine ∧ ∀ q, H q = none → Q (.ref q) (upd H q (.lst (zs ++ xss.flatten)))
theorem accV_len (val : Nat → List Value) (z : List Value) : ∀ i j, i ≤ j → (accV val z i).length ≤ (accV val z j).length
  | i, 0, h => by
    have e : i = 0 := Nat.le_zero.mp h
    rw [e]; exact Nat.le_refl _
  | i, j + 1, h => by
    by_cases e : i = j + 1
    · subst e; exact Nat.le_refl _
    · have := accV_len val z i j (by omega); simp [accV]; omega
theorem vals_append {xs ys : List V} {us ws : List Value} (h : Vals xs us) (k : Vals ys ws) : Vals (xs ++ ys) (us ++ ws) := h.append k
section
variable {X : Cx} {a b : Expr} {fa fb : FE} {pos : Pos}
theorem cr_sumL (hc : X.calm = true) : CallR X (.builtin "sum") rSumL := by
  intro pins s σ H as us Q I r h
  obtain ⟨l, z, ps, xss, zs, rfl, hl, hz, hlen, hne, hp, hsz, q⟩ := h
  obtain ⟨rfl⟩ : us = [Value.ref l, Value.ref z] := by
    cases r with
    | cons h1 t => cases t with
      | cons h2 t => cases t; cases h1; cases h2; rfl
  obtain ⟨_, its, n, rv, hle, ho⟩ := I.lstM hl
  obtain ⟨_, iz, nz, rz, hlz, hoz⟩ := I.lstM hz
  -- what each list holds
  have item : ∀ i : Nat, ∃ ys : List Value, ∀ p xs, ps[i]? = some p → xss[i]? = some xs → Vals xs ys ∧ ∃ m, s.heap.get? p = some (lob ys m) := fun i => by
    cases e1 : ps[i]? with
    | none => exact ⟨[], fun p xs h => by cases h⟩
    | some p =>
      cases e2 : xss[i]? with
      | none => exact ⟨[], fun p xs _ h => by cases h⟩
      | some xs =>
        obtain ⟨_, ys, m, ry, _, hy⟩ := I.lstM (hp i p xs e1 e2)
        refine ⟨ys, fun p' xs' h1 h2 => ?_⟩
        cases h1; cases h2
        exact ⟨ry, m, hy⟩
  let val : Nat → List Value := fun i => (item i).choose
  have hval : ∀ (i : Nat) (p : Addr) (xs : List V), ps[i]? = some p → xss[i]? = some xs → Vals xs (val i) ∧ ∃ m, s.heap.get? p = some (lob (val i) m) := fun i => (item i).choose_spec
  have hpl : ps.length = its.length := by rw [← hle]; simp
  have hacc : ∀ i, i ≤ xss.length → Vals (zs ++ (xss.take i).flatten) (accV val iz i) := by
    intro i
    induction i with
    | zero => intro _; simpa [accV] using rz
    | succ i ih =>
      intro hi
      have hi' : i < xss.length := hi
      have e : xss.take (i + 1) = xss.take i ++ [xss[i]] := by rw [List.take_add_one, List.getElem?_eq_getElem hi']; rfl
      rw [e, List.flatten_append, ← List.append_assoc]
      have hv := (hval i (ps[i]'(by omega)) xss[i] (List.getElem?_eq_getElem _) (List.getElem?_eq_getElem hi')).1
      simpa [accV] using vals_append (ih (by omega)) hv
  have hfin := hacc xss.length (Nat.le_refl _)
  rw [List.take_length] at hfin
  have hfl := hfin.length
  refine call_sumL (vs := its) (val := val) (I.ok.hd hc) ⟨_, ho, rfl, n, rfl⟩ hoz (fun i v hv => ?_) (fun i hi => ?_) (by rw [← hpl]; exact List.length_pos_iff.mpr hne) fun h' tk T m hk hT hTo => ?_
  · have hv' : its[i]? = some v := by simpa using hv
    have hi : i < its.length := (List.getElem?_eq_some_iff.mp hv').1
    have e1 : ps[i]? = some (ps[i]'(by omega)) := List.getElem?_eq_getElem _
    obtain ⟨u, eu, ru⟩ := rv.get (i := i) (x := V.ref (ps[i]'(by omega))) (by rw [List.getElem?_map, e1]; rfl)
    rw [hv'] at eu
    cases eu
    cases ru
    obtain ⟨_, m, hm⟩ := hval i _ _ e1 (List.getElem?_eq_getElem (by omega))
    exact ⟨_, m, rfl, hm⟩
  · have := accV_len val iz i xss.length (by omega)
    omega
  · have e2 : its.length = xss.length := by omega
    rw [e2] at hTo
    exact ⟨.ref T, upd H T (.lst (zs ++ xss.flatten)), I.laid hk hT ⟨hsz, _, m, hfin, hTo⟩, rfl, q T (I.hok.fresh hT)⟩
end
end Qz
namespace Qz
open PySem PySem.Spec PyProof.Rows L2
/-! ### t * 0 -/
theorem tuple_mul0 (l : Addr) (its : Array Value) (n : Nat) (dd : Option Addr) (sl : Array (Option Value)) (x : Int) (u : Tok) (c0 : (decide (x < -(2 ^ 63)) || decide (x ≥ 2 ^ 63)) = false) (c1 : (its.isEmpty || x == 1) = false) (c2 : (decide (x ≤ 0) || its.isEmpty) = true) :
    Meets (Builtin.«tuple.__mul__» ⟨[.ref l, .int x u], []⟩) (fun _ R s => s.heap.get? l = some { cls := .type "tuple", dict := dd, data := .seq its n, slots := sl } ∧
      R (.ok (.ret (Value.ref s.heap.objs.size))) { s with heap := s.heap.push { cls := Value.type "tuple", data := Data.seq #[] }, toks := s.toks }) :=
  .of_wp fun prog w A R s h => by
    obtain ⟨hp, g, d, tk, os⟩ := s
    obtain ⟨hl, h⟩ := h
    have f1 := AutoSeq1.idx_int
    wp_walk using wpAny_loadPart' hl
    repeat (first | (refine wpAny_ite_false (decide_eq_false (by rw [c0]; exact Bool.false_ne_true)) ?_; wp_walk using wpAny_loadPart' hl) | (refine wpAny_ite_false (decide_eq_false (by rw [c1]; exact Bool.false_ne_true)) ?_; wp_walk using wpAny_loadPart' hl) | (refine wpAny_ite_true (decide_eq_true c2) ?_; wp_walk using wpAny_loadPart' hl))
    exact ⟨_, rfl, h⟩
def rRep0 (K : PySem.W.Frag) : R2 := fun x y H Q => ∃ l k xs, x = .ref l ∧ y = .int k ∧ SqT K H l xs ∧ xs ≠ [] ∧ -1000 ≤ k ∧ k ≤ 0 ∧ ∀ p, H p = none → Q (.ref p) (upd H p (.tup []))
theorem op_rep0 {X : Cx} : OpR X (binaryOp .Mult) (rRep0 X.K) := by
  intro pins s σ H x y v u Q I rx ry h
  obtain ⟨l, k, xs, rfl, rfl, hT, hne, h1, h2, q⟩ := h
  cases rx
  obtain ⟨t, rfl⟩ := ry
  obtain ⟨its, r, ⟨⟨cls, dd, data, sl⟩, ho, hc, n, hd⟩, hs⟩ := I.tuple hT
  simp only at hc hd
  subst hc hd
  have hi : its.toArray.isEmpty = false := by
    cases its with
    | nil => exact absurd (List.eq_nil_of_length_eq_zero r.length) hne
    | cons a b => rfl
  have c0 : (decide (k < -(2 ^ 63)) || decide (k ≥ 2 ^ 63)) = false := by rw [decide_eq_false (by omega), decide_eq_false (by omega)] <;> rfl
  have c1 : (its.toArray.isEmpty || k == 1) = false := by rw [hi, Bool.false_or]; exact beq_eq_false_iff_ne.mpr (by omega)
  have c2 : (decide (k ≤ 0) || its.toArray.isEmpty) = true := by rw [decide_eq_true h2, Bool.true_or]
  refine wpAny_binaryOp_repeat_ref (T := "tuple") (U := "int") (by decide) ⟨_, ho, rfl⟩ (fun s' => typeIs_int s' k t) noFill_tuple_mul F.fills_int_mul F.slot_int_rmul repeat_tuple F.slot_int_index.lookup
    (call_meets F.slot_int_rmul (typeIs_int s k t) F.entry_int_rmul (F.args_int_rmul_2 _ _) (int_rmul_tuple k t l its.toArray n dd sl)
      ⟨ho, rfl, ⟨_, ho, rfl⟩, call_meets F.slot_tuple_mul ⟨_, ho, rfl⟩ F.entry_tuple_mul (F.args_tuple_mul_2 _ _) (tuple_mul0 l its.toArray n dd sl k t c0 c1 c2) ⟨ho, ?_⟩⟩)
  have hI := I.laid (a := s.heap.objs.size) (o := .tup []) (t' := s.toks) (h' := s.heap.push { cls := Value.type "tuple", data := Data.seq #[] }) (fun _ _ z => Heap.get?_push_of_some _ z) (Nat.le_refl _) ⟨Nat.zero_le _, [], .nil, ⟨_, Heap.get?_push_size _ rfl, rfl, 0, rfl⟩⟩
  exact ⟨.ref _, _, hI, rfl, q _ I.fresh⟩
section
variable {X : Cx} {a b : Expr} {fa fb : FE} {pos apos cpos : Pos}
noncomputable def gMulZ : OV → OV → Option Res
  | .fz (.tuple ds), .fz (.int k) => if k = 1 then some (.fr (.tuple ds)) else if sm (-1000 ≤ k ∧ k ≤ 0 ∧ ds ≠ []) then some (.fr (.tuple [])) else if sm (2 ≤ k ∧ k ≤ 1000 ∧ ds.length ≤ 1000 ∧ ds ≠ []) then some (.fr (.tuple (repD k.toNat ds))) else none
  | _, _ => none
theorem d_mulZ (ha : PEd X a fa) (hb : PEd X b fb) : PEd X (.BinOp a .Mult b pos) (f2 gMulZ fa fb) :=
  imp (pe_op (op_rep1.or (op_rep0.or op_repT)) ha hb) (run2 fun R H v u a b A B d Q s ha hb e q => by
    unfold gMulZ at e
    split at e
    · rename_i ds k
      cases hb.int
      obtain ⟨l, vs, rfl, h1, r1⟩ := ha.tup
      have ne : ds ≠ [] → vs ≠ [] := fun h e => h (List.length_eq_zero_iff.mp (by rw [← r1.length, e]; rfl))
      split at e
      · rename_i hk
        subst hk
        cases e
        exact .inl ⟨l, vs, rfl, rfl, SqT.of (s _ _ h1), q.1 _ (.tup h1 r1)⟩
      · split at e
        · rename_i hk
          replace hk := sm_iff.mp hk
          cases e
          exact .inr (.inl ⟨l, k, vs, rfl, rfl, SqT.of (s _ _ h1), ne hk.2.2, hk.1, hk.2.1, fun p hp => q.2 p _ _ rfl hp .nil⟩)
        · split at e
          · rename_i hk
            replace hk := sm_iff.mp hk
            cases e
            exact .inr (.inr ⟨l, k, vs, rfl, rfl, SqT.of (s _ _ h1), ne hk.2.2.2, hk.1, hk.2.1, by rw [r1.length]; exact hk.2.2.1, fun p hp => q.2 p _ _ rfl hp (repD_rp r1 _)⟩)
          · cases e
    · cases e)
/-! ### xs[::-1] -/
def gRev (o : OV) : Option Res := (lkids o).map fun ds => .nl ds.reverse
theorem rpl_rev {R : Hp} : ∀ {vs : List V} {ds : List PyData}, RpL R vs ds → RpL R vs.reverse ds.reverse
  | _, _, .nil => .nil
  | _, _, .cons h r => by rw [List.reverse_cons, List.reverse_cons]; exact (rpl_rev r).append (.cons h .nil)
theorem d_rev {k : Nat} {p1 p2 p3 : Pos} (ha : PEd X a fa) : PEd X (.Subscript a (.Slice none none (some (.UnaryOp .USub (.Constant (.int 1) k p1) p2)) p3) pos) (f1 gRev fa) :=
  imp (pe_revL ha) (run1 (k := fun v H Q => ∃ a xs, v = .ref a ∧ SqL X.K H a xs ∧ ∀ p, H p = none → Q (.ref p) (upd H p (.lst xs.reverse))) fun R H v a A d Q s ha e q => by
    unfold gRev at e
    obtain ⟨ds, e1, e2⟩ := Option.map_eq_some_iff.mp e
    subst e2
    obtain ⟨l, vs, rfl, h, rr⟩ := ha.lk s e1
    exact ⟨l, vs, rfl, SqL.of h, fun p hp => q p _ hp (rpl_rev rr)⟩)
/-! ### sorted(set(xs)) of a list of numbers -/
def rSetL (K : PySem.W.Frag) (w : World) : List V → Hp → VK → Prop := fun xs H Q => ∃ (p : Addr) (ns : List Int), xs = [.ref p] ∧ SqL K H p (ns.map V.int) ∧ ns.length ≤ 1000 ∧ ∀ q, H q = none → Q (.ref q) (upd H q (SetO w q (fun j => decide (j ∈ ns)) (sdI ns).length))
theorem cr_setL (hc : X.calm = true) : CallR X (.type "set") (rSetL X.K X.w) := by
  intro pins s σ H vs us Q I r h
  obtain ⟨p, ns, rfl, hT, hl, q⟩ := h
  rw [Vals.ref1 r]
  obtain ⟨zs, rv, pt, hz⟩ := I.list hT
  refine call_set_lstI ns (I.ok.hd hc) pt.isList (by simpa using Vals.ints rv) (by unfold scanBound; omega) fun h' tk c R1 hcn k => ?_
  have hcc := set_count R1
  subst hcc
  exact ⟨.ref s.heap.objs.size, upd H s.heap.objs.size (SetO X.w s.heap.objs.size (fun j => decide (j ∈ ns)) (sdI ns).length), I.laid k (Nat.le_refl _) (setO_new R1), rfl, q _ I.fresh⟩
def lstInts (o : OV) : Option (List Int) := match lkids o with
  | some ds => match intsD ds with
    | some ns => if ns.length ≤ 63 then some ns else none
    | none => none
  | none => none
def gSortSetL (o : OV) : Option Res := (lstInts o).map fun ns => .nl ((sdI ns).map .int)
theorem d_sortSetL {p p2 q : Pos} (hc : X.calm = true) (hg : Gl X "sorted") (hm : X.mg "sorted" = none) (hg2 : Gl X "set") (hm2 : X.mg "set" = none) (ha : PEd X a fa) (na : starEach [a] X.env = (false, eval a X.env) :: starEach [] X.env := by rfl) :
    PEd X (.Call (.Name "sorted" p) [.Call (.Name "set" p2) [a] [] q] [] pos) (f1 gSortSetL fa) :=
  imp (pe_callB (cr_sortedSet hc) hg hm (by decide +kernel) (pa_cons (pe_callTy (cr_setL hc) hg2 hm2 PyProof.Rows.boot_set (pa_cons ha pa_nil na) (he := na)) pa_nil)) (run1G (k := fun v H Q => rSetL X.K X.w [v] H fun y H2 => rSortedSet X.w [y] H2 Q) fun R H v a A d Q s ha e q => by
    unfold gSortSetL at e
    obtain ⟨ns, e1, e2⟩ := Option.map_eq_some_iff.mp e
    subst e2
    unfold lstInts at e1
    split at e1
    · rename_i ds ed
      split at e1
      · rename_i ms em
        split at e1
        · rename_i hl
          cases e1
          obtain ⟨p, vs, rfl, hp, rr⟩ := ha.lk s ed
          have := intsD_rp rr em
          subst this
          have hle := sdI_len ns
          refine ⟨p, ns, rfl, SqL.of hp, by omega, fun q' hq => ⟨q', _, _, rfl, upd_same, by omega, fun ms p' up mem len hp' => ?_⟩⟩
          have : ms = sdI ns := up_unique up (sdI_up ns) fun k => by rw [mem k, decide_eq_true_eq, sdI_mem]
          subst this
          exact q _ (same_upd hq) p' _ hp' (rpl_ints _)
        · cases e1
      · cases e1
    · cases e1)
/-! ### xs.index(n) of numbers -/
def ixOf (k : Int) : List Int → Option Nat
  | [] => none
  | x :: xs => if x = k then some 0 else (ixOf k xs).map (· + 1)
theorem ixOf_some {k : Int} : ∀ {xs : List Int} {j : Nat}, ixOf k xs = some j → xs[j]? = some k ∧ ∀ m z, m < j → xs[m]? = some z → z ≠ k
  | [], j, e => by simp [ixOf] at e
  | x :: xs, j, e => by
    unfold ixOf at e
    split at e
    · rename_i h
      cases e
      exact ⟨by simp [h], fun m z hm => by omega⟩
    · rename_i h
      obtain ⟨i, e1, rfl⟩ := Option.map_eq_some_iff.mp e
      obtain ⟨h1, h2⟩ := ixOf_some e1
      refine ⟨by simpa using h1, fun m z hm hz => ?_⟩
      cases m with
      | zero => simp at hz; subst hz; exact h
      | succ m => exact h2 m z (by omega) (by simpa using hz)
/-- the list is what a name holds, frozen -/
def fIndex (fr fe : FE) : FE := fun L => match fr L with
  | some (.rf k, M) => match M[k]? with
    | some (.ow (.fz (.list ds))) => match fArgs [fe] M with
      | some ([.fz (.int i)], M') => match M'[k]? with
        | some (.ow (.fz (.list ds'))) => match intsD ds' with
          | some ns => match ixOf i ns with
            | some j => some (.ow (.fz (.int (j : Nat))), M')
            | none => none
          | none => none
        | _ => none
      | _ => none
    | _ => none
  | _ => none
theorem d_index (ha : PEd X a fa) (hb : PEd X b fb) (hbase : attributeBase a "index" X.env (eval a X.env) = eval a X.env := by rfl) (hline : (apos.endLine == cpos.line) = true := by rfl) (hs : starEach [b] X.env = (false, eval b X.env) :: starEach [] X.env := by rfl)
    (hfew : ((backTo cpos (starEach [b] X.env)).all (fun x => !x.1) && (backToKw cpos (keywordEach [] X.env)).all (fun x => x.1.isSome) && decide (([b] : List Expr).length + ([] : List Keyword).length + (if ([] : List Keyword).isEmpty then 0 else 1) < 30)) = true := by rfl) :
    PEd X (.Call (.Attribute a "index" apos) [b] [] cpos) (fIndex fa fb) :=
  imp (pe_bm PySem.F.plainAttrs_list PySem.F.slot_list_index PySem.F.type_list_index mt_index ha (a_cons hb a_nil hs) hbase hfew hline hs) (by
    rintro σ H Q ⟨R, Fm, L, T, τ, x, r, L', e, q⟩
    unfold fIndex at e
    split at e
    · rename_i k M ek
      split at e
      · rename_i ds ed
        split at e
        · rename_i i M' eo
          split at e
          · rename_i ds' ed'
            split at e
            · rename_i ns en
              split at e
              · rename_i j ej
                cases e
                refine ⟨R, Fm, L, T, τ, x, .rf k, M, ek, fun R1 v H1 s1 x1 => ⟨x1.isL (by unfold Qz.isL conI; rw [ed]), R1, Fm, M, _, _, x1, [.fz (.int i)], _, eo, fun R2 vs H2 s2 hv x2 => ?_⟩⟩
                obtain ⟨u, rfl⟩ : ∃ u, vs = [u] := by match vs, hv with | [u], _ => exact ⟨u, rfl⟩
                obtain ⟨A, hu⟩ := At.con (o := .fz (.int i)) (r := .ow (.fz (.int i))) x2 rfl
                cases hu.int
                have x3 := At.drop (r := .ow (.fz (.int i))) x2
                obtain ⟨B, hl⟩ := At.con (o := .fz (.list ds')) x3 (by simp only [Qz.con, Qz.conI]; rw [ed'])
                obtain ⟨p, ys, rfl, hp, rr⟩ := hl.lk x2.rel.rh (ds := ds') rfl
                have := intsD_rp rr en
                subst this
                obtain ⟨g1, g2⟩ := ixOf_some ej
                refine ⟨p, _, .int i, j, .int i, rfl, rfl, SqL.of hp, rfl, by simp [flatV], by rw [List.getElem?_map, g1]; rfl, by simp [eqV], fun m z hm hz => ?_, ?_⟩
                · rw [List.getElem?_map] at hz
                  obtain ⟨y, hy, rfl⟩ := Option.map_eq_some_iff.mp hz
                  have := g2 m y hm hy
                  simp [eqV, this]
                · exact q R2 _ _ (s1.trans s2) (At.push x3.drop (.int _))
              · cases e
            · cases e
          · cases e
        · cases e
      · cases e
    · cases e)
/-! ### sum(xs, ys) of lists -/
def kidsL : List OV → Option (List (List PyData))
  | [] => some []
  | .nd .lst os :: r => match frs os, kidsL r with
    | some ds, some dss => some (ds :: dss)
    | _, _ => none
  | _ :: _ => none
def gSumL : OV → OV → Option Res
  | .nd .lst os, b => match kidsL os, lkids b with
    | some dss, some zs => if os ≠ [] ∧ (zs ++ dss.flatten).length ≤ sizeLine then some (.nl (zs ++ dss.flatten)) else none
    | _, _ => none
  | _, _ => none
theorem kidsL_rp {G : Gp} {R H : Hp} : ∀ {os : List OV} {vs : List V} {A : List Addr} {dss : List (List PyData)}, OwL G R H vs os A → kidsL os = some dss → ∃ (ps : List Addr) (xss : List (List V)), vs = ps.map V.ref ∧ ps.length = xss.length ∧ (∀ (i : Nat) p xs, ps[i]? = some p → xss[i]? = some xs → H p = some (.lst xs)) ∧ RpL R xss.flatten dss.flatten ∧ ps.length = os.length
  | [], _, _, dss, .nil, e => by simp [kidsL] at e; subst e; exact ⟨[], [], rfl, rfl, by simp, .nil, rfl⟩
  | .fz d :: os, _, _, dss, .cons _ _, e => by simp [kidsL] at e
  | .nd k os :: r, _, _, dss, .cons h l, e => by
    cases k with
    | lst =>
      rw [kidsL] at e
      split at e
      · rename_i ds dss' e1 e2
        cases e
        obtain ⟨ps, xss, rfl, h2, h3, h4, h5⟩ := kidsL_rp l e2
        have ee := frs_eq e1
        subst ee
        cases h with
        | nd n ll =>
          cases n with
          | lst hh =>
            rename_i a vs' A'
            refine ⟨a :: ps, vs' :: xss, rfl, by simp [h2], fun i p xs h1 h2' => ?_, by rw [List.flatten_cons, List.flatten_cons]; exact ll.frs.1.append h4, by simp [h5]⟩
            cases i with
            | zero => simp at h1 h2'; subst h1; subst h2'; exact hh
            | succ i => exact h3 i p xs (by simpa using h1) (by simpa using h2')
      · cases e
    | dct _ => simp [kidsL] at e
    | obj _ _ => simp [kidsL] at e
    | scr => simp [kidsL] at e
theorem d_sumL {p : Pos} (hc : X.calm = true) (hg : Gl X "sum") (hm : X.mg "sum" = none) (ha : PEd X a fa) (hb : PEd X b fb) (hs : starEach [a, b] X.env = (false, eval a X.env) :: starEach [b] X.env := by rfl) (he : starEach [b] X.env = (false, eval b X.env) :: starEach [] X.env := by rfl) (hpl : (backTo pos (starEach [b] X.env)).any (·.1) = false := by rfl) :
    PEd X (.Call (.Name "sum" p) [a, b] [] pos) (f2 gSumL fa fb) :=
  imp (pe_callB (cr_sumL hc) hg hm boot_sumB (pa_cons ha (pa_cons hb pa_nil he) hs) (by decide) (by decide) hs hpl) (run2 (k := fun v u H Q => rSumL [v, u] H Q) fun R H v u a b A B d Q s ha hb e q => by
    unfold gSumL at e
    split at e
    · rename_i os
      split at e
      · rename_i dss zs e1 e2
        split at e
        · rename_i hz
          cases e
          cases ha with
          | nd n l =>
            cases n with
            | lst hh =>
              rename_i al vsl Al
              obtain ⟨ps, xss, rfl, h2, h3, h4, h5⟩ := kidsL_rp l e1
              obtain ⟨z, zv, rfl, hzz, rz⟩ := hb.lk s e2
              have rr := rz.append h4
              refine ⟨al, z, ps, xss, zv, rfl, hh, hzz, h2, fun e => hz.1 (List.length_eq_zero_iff.mp (by rw [← h5, e]; rfl)), h3, by rw [rr.length]; exact hz.2, fun p hp => q p _ hp rr⟩
        · cases e
      · cases e
    · cases e)
end
end Qz
namespace Qz
open PySem PySem.Spec PyProof.Rows L2
/-! ### running dicts -/
section
variable {L M : Sta} {fa fb fc fe fi fk fv : FE} {fr : FR} {fl : FL}
@[simp] theorem fR2'_ap {g : OV → OV → Option Res} : fR2' g fa fr L = match fa L with
  | some (r, M1) => match fr M1 with
    | some ((c, b), M) => match con M r with
      | some y => match g y c with
        | some d => match unl b M with
          | some M' => some (.ow d.ov, M')
          | none => none
        | none => none
      | none => none
    | none => none
  | none => none := rfl
@[simp] theorem gInN_ap {n : Bool} {d : PyData} {ks : List NestedKey} {os : List OV} : gInN n (.fz d) (.nd (.dct ks) os) = match keyT' d with
    | some k => some (.fr (.bool (if n then !(kIx ks k).isSome else (kIx ks k).isSome)))
    | none => none := rfl
@[simp] theorem nkid_ap {d : PyData} {ks : List NestedKey} {os : List OV} : nkid (.nd (.dct ks) os) (.fz d) = match keyT' d with
    | some k => match kIx ks k with
      | some j => os[j]?
      | none => none
    | none => none := rfl
@[simp] theorem gIxN_ap {a y : OV} : gIxN a y = match nkid a y with
  | some (.fz d) => some (.fr d)
  | _ => none := rfl
@[simp] theorem frKey_ap : frKey fr fi L = match fr L with
  | some ((c, b), M) => match fi M with
    | some (r, M2) => match con M2 r with
      | some y => match nkid c y with
        | some c' => some ((c', b), M2)
        | none => none
      | none => none
    | none => none
  | none => none := rfl
@[simp] theorem gLenN_ap {ks : List NestedKey} {os : List OV} : gLenN (.nd (.dct ks) os) = some (.fr (.int ks.length)) := rfl
@[simp] theorem sSetKey_ap : sSetKey fl fi fe L = match fArgs [fe] L with
  | some ([x], M) => match fl M with
    | some ((k, o, p, .nd (.dct ks) os), M1) => match fArgs [fi] M1 with
      | some ([.fz d], M2) => match keyT' d with
        | some key => if ks.length < sizeLine then (match plSet (k, o, p, .nd (.dct ks) os) (dput ks os key x) M2 with
          | some M3 => some (.nx, M3)
          | none => none) else none
        | none => none
      | _ => none
    | _ => none
  | _ => none := rfl
@[simp] theorem flKey_ap : flKey fl fi L = match fl L with
  | some ((k, o, p, .nd (.dct ks) os), M) => match fi M with
    | some (r, M2) => match con M2 r with
      | some (.fz d) => match keyT' d with
        | some key => match kIx ks key with
          | some j => match os[j]? with
            | some c => some ((k, o, p ++ [j], c), M2)
            | none => none
          | none => none
        | none => none
      | _ => none
    | none => none
  | _ => none := rfl
@[simp] theorem fDnew_ap : fDnew L = some (.ow (.nd (.dct []) []), L) := rfl
@[simp] theorem fDisp1_ap : fDisp1 fk fv L = match fArgs [fk, fv] L with
  | some ([.fz d, x], M) => match keyT' d with
    | some key => some (.ow (.nd (.dct [key]) [x]), M)
    | none => none
  | _ => none := rfl
@[simp] theorem gRev_ap {o : OV} : gRev o = (lkids o).map fun ds => .nl ds.reverse := rfl
@[simp] theorem gMulZ_ap {ds : List PyData} {k : Int} : gMulZ (.fz (.tuple ds)) (.fz (.int k)) = if k = 1 then some (.fr (.tuple ds)) else if sm (-1000 ≤ k ∧ k ≤ 0 ∧ ds ≠ []) then some (.fr (.tuple [])) else if sm (2 ≤ k ∧ k ≤ 1000 ∧ ds.length ≤ 1000 ∧ ds ≠ []) then some (.fr (.tuple (repD k.toNat ds))) else none := rfl
@[simp] theorem fIndex_ap : fIndex fa fe L = match fa L with
  | some (.rf k, M) => match M[k]? with
    | some (.ow (.fz (.list ds))) => match fArgs [fe] M with
      | some ([.fz (.int i)], M') => match M'[k]? with
        | some (.ow (.fz (.list ds'))) => match intsD ds' with
          | some ns => match ixOf i ns with
            | some j => some (.ow (.fz (.int (j : Nat))), M')
            | none => none
          | none => none
        | _ => none
      | _ => none
    | _ => none
  | _ => none := rfl
end
/-! keys of what is known -/
@[simp] theorem keyOf_int {i : Int} : keyOf (.int i) = some (.num i) := by rw [keyOf]
@[simp] theorem keyOf_none : keyOf .none = some .none := by rw [keyOf]
@[simp] theorem keyOf_tuple {ds : List PyData} : keyOf (.tuple ds) = (keysOf ds).map .tup := by rw [keyOf]
@[simp] theorem keysOf_nil : keysOf [] = some [] := by rw [keysOf]
@[simp] theorem keysOf_cons {d : PyData} {ds : List PyData} : keysOf (d :: ds) = match keyOf d, keysOf ds with
    | some k, some ks => some (k :: ks)
    | _, _ => none := by rw [keysOf] <;> rfl
theorem keysOf_map {α : Type} {e : α → PyData} {k : α → NestedKey} : ∀ xs : List α, (∀ x ∈ xs, keyOf (e x) = some (k x)) → keysOf (xs.map e) = some (xs.map k)
  | [], _ => by simp
  | x :: xs, h => by rw [List.map_cons, keysOf_cons, h x (by simp), keysOf_map xs fun y hy => h y (by simp [hy])]; rfl
theorem keyT'_of {ds : List PyData} {k : NestedKey} (h : keyOf (.tuple ds) = some k) (hd : k.depth ≤ 8) : keyT' (.tuple ds) = some k := by
  unfold keyT'
  simp only [h, hd, if_true]
theorem depthAll_le {n : Nat} : ∀ {ks : List NestedKey}, (∀ k ∈ ks, k.depth ≤ n) → NestedKey.depthAll ks ≤ n
  | [], _ => by simp [NestedKey.depthAll]
  | k :: ks, h => by
    have h1 := h k (by simp)
    have h2 := depthAll_le (n := n) (ks := ks) fun z hz => h z (by simp [hz])
    simp only [NestedKey.depthAll]
    omega
/-- numbers, tuples of numbers -/
def kT (xs : List Nat) : NestedKey := .tup (xs.map fun (n : Nat) => .num (n : Int))
theorem keyOf_dT (xs : List Nat) : keyOf (dT xs) = some (kT xs) := by
  unfold dT kT
  rw [keyOf_tuple, keysOf_map (k := fun (n : Nat) => NestedKey.num (n : Int)) xs (fun x _ => by simp)]
  rfl
theorem depth_kT (xs : List Nat) : (kT xs).depth ≤ 1 := by
  unfold kT
  simp only [NestedKey.depth]
  have := depthAll_le (n := 0) (ks := xs.map fun (n : Nat) => NestedKey.num (n : Int)) (fun k hk => by
    obtain ⟨n, _, rfl⟩ := List.mem_map.mp hk
    simp [NestedKey.depth])
  omega
theorem num_inj {a b : Nat} (e : NestedKey.num (a : Int) = NestedKey.num (b : Int)) : a = b := by
  injection e with e
  omega
theorem kT_inj {xs ys : List Nat} (e : kT xs = kT ys) : xs = ys := by
  unfold kT at e
  injection e with e
  exact List.map_inj_right (fun a b => num_inj) |>.mp e
end Qz
namespace Qz
open PySem PySem.Spec PyProof.Rows L2
/-! range with two ends -/
def rg2D (i j : Int) : List PyData := (List.range (j - i).toNat).map fun (k : Nat) => .int (i + (k : Int))
theorem itOk_range2 {R : Hp} {Fm : Fr} (i j : Int) : ItOk R Fm (Itr i (j - i).toNat) (rg2D i j) where
  go := fun k H d s1 s2 e => by
    have := (List.getElem?_eq_some_iff.mp e).1
    have h : k < (j - i).toNat := by simpa [rg2D] using this
    exact h
  yld := fun k H x H' d s1 s2 e y => by
    obtain ⟨y1, y2⟩ := y
    subst y2
    have hi : k < (j - i).toNat := by have := (List.getElem?_eq_some_iff.mp e).1; simpa [rg2D] using this
    have : d = .int (i + (k : Int)) := by
      unfold rg2D at e
      rw [List.getElem?_map, List.getElem?_range hi] at e
      exact (Option.some.inj e).symm
    subst this
    exact .inl ⟨y1, .int _⟩
  stop := fun H s1 s2 => by simp [Itr, rg2D]; omega
noncomputable def iRg2 (fa fb : FE) : FI := fun L => match fa L with
  | some (a, M1) => match fb M1 with
    | some (b, M2) => match con M2 a, con M2 b with
      | some (.fz (.int i)), some (.fz (.int j)) => if sm (-(2 ^ 62) ≤ i ∧ i < 2 ^ 62 ∧ -(2 ^ 62) ≤ j ∧ j < 2 ^ 62) then some (rg2D i j, M2) else none
      | _, _ => none
    | none => none
  | none => none
@[simp] theorem iRg2_ap {fa fb : FE} {L : Sta} : iRg2 fa fb L = match fa L with
  | some (a, M1) => match fb M1 with
    | some (b, M2) => match con M2 a, con M2 b with
      | some (.fz (.int i)), some (.fz (.int j)) => if sm (-(2 ^ 62) ≤ i ∧ i < 2 ^ 62 ∧ -(2 ^ 62) ≤ j ∧ j < 2 ^ 62) then some (rg2D i j, M2) else none
      | _, _ => none
    | none => none
  | none => none := rfl
section
variable {X : Cx} {tg e a b : Expr} {fe fa fb : FE} {pos p : Pos}
theorem i_range2 (hg : Gl X "range") (hm : X.mg "range" = none) (ha : PEd X a fa) (hb : PEd X b fb) (hs : starEach [a, b] X.env = [(false, eval a X.env), (false, eval b X.env)] := by rfl) (hs2 : starEach [b] X.env = [(false, eval b X.env)] := by rfl) (he : starEach [a, b] X.env = (false, eval a X.env) :: starEach [b] X.env := by rfl) (he2 : starEach [b] X.env = (false, eval b X.env) :: starEach [] X.env := by rfl) : PId X tg (.Call (.Name "range" p) [a, b] [] pos) (iRg2 fa fb) := impI (pi_range2 hg hm (pa_cons ha (pa_cons hb pa_nil he2) he) hs hs2) (by
  rintro σ H K ⟨R, Fm, L, T, τ, x, ds, L', e, q⟩
  unfold iRg2 at e
  split at e
  · rename_i r1 M1 er1
    split at e
    · rename_i r2 M2 er2
      split at e
      · rename_i i j ei ej
        split at e
        · rename_i hn; replace hn := sm_iff.mp hn; cases e
          refine ⟨R, Fm, L, T, τ, x, r1, M1, er1, fun R1 v H1 s1 y1 => ⟨R1, Fm, M1, _, _, y1, r2, _, er2, fun R2 u H2 s2 y2 => ?_⟩⟩
          obtain ⟨B, ho2⟩ := y2.con ej
          obtain ⟨A, ho1⟩ := y2.drop.con ei
          cases ho2.int
          cases ho1.int
          exact ⟨i, j, rfl, hn, q R2 Fm H2 _ (s1.trans s2) rfl (Same.refl _) y2.drop.drop (itOk_range2 _ _)⟩
        · cases e
      · cases e
    · cases e
  · cases e)
end
end Qz
namespace Qz
open PySem PySem.Spec PyProof.Rows L2
/-! ### max of a tuple of numbers -/
section
variable {X : Cx} {a b c : Expr} {fa fb fc : FE} {pos : Pos}
def rMaxT (K : PySem.W.Frag) : List V → Hp → VK → Prop := fun vs H Q => ∃ (a : Addr) (x : Int) (xs : List Int), vs = [V.ref a] ∧ SqT K H a ((x :: xs).map V.int) ∧ Q (.int (PySem.W.maxOf x xs)) H
theorem cr_maxT (hc : X.calm = true) (hu : X.A.units + 64 < cLine) : CallR X (.builtin "max") (rMaxT X.K) := by
  intro pins s σ H vs us Q I r h
  obtain ⟨a, x, xs, rfl, hs, q⟩ := h
  obtain ⟨its, rv, pt, _⟩ := I.tuple hs
  rw [Vals.ref1 r]
  have hdep : PySem.W.Datum.depth Int ≤ 63 := by decide
  have hi : IntsAre its (x :: xs) := rv.ints
  refine PySem.W.max_tuple_datum (α := Int) (I.ok.hd hc) (show s.heap.IsTuple a its.toArray from pt) (PySem.W.HoldAll.of_ints hi) (by omega) fun i v h' tk hv hh hk => ?_
  have hv' : its[i]? = some v := by simpa using hv
  have : ∀ {its : List Value} {ns : List Int} {i : Nat} {v : Value}, IntsAre its ns → its[i]? = some v → ∃ k t, v = .int k t := by
    intro its ns i v h e
    induction h generalizing i with
    | nil => simp at e
    | cons _ _ _ ih =>
      cases i with
      | zero => simp at e; subst e; exact ⟨_, _, rfl⟩
      | succ i => exact ih (by simpa using e)
  obtain ⟨k, t, rfl⟩ := this hi hv'
  obtain ⟨as, rd⟩ := hh
  have : k = PySem.W.maxOf x xs := by
    cases rd
    rfl
  subst this
  exact ⟨.int _, H, I.kept hk, ⟨_, rfl⟩, q⟩
def gMaxT : OV → Option Res
  | .fz (.tuple ds) => match intsD ds with
    | some (x :: xs) => some (.fr (.int (PySem.W.maxOf x xs)))
    | _ => none
  | _ => none
theorem d_maxT {p : Pos} (hc : X.calm = true) (hu : X.A.units + 64 < cLine) (hg : Gl X "max") (hm : X.mg "max" = none) (ha : PEd X a fa) (he : starEach [a] X.env = (false, eval a X.env) :: starEach [] X.env := by rfl) : PEd X (.Call (.Name "max" p) [a] [] pos) (f1 gMaxT fa) :=
  mkCB (id := "max") (cr_maxT hc hu) hg hm (by decide +kernel) (fun R H v a A d Q s ha e q => by
    unfold gMaxT at e
    split at e
    · rename_i ds
      split at e
      · rename_i x xs ex
        cases e
        obtain ⟨l, vs, rfl, rr, h⟩ := ha.kd s (b := true) (ds := ds) rfl
        have := intsD_rp rr ex
        subst this
        rcases h with ⟨hb, _⟩ | ⟨_, h⟩
        · cases hb
        · exact ⟨l, x, xs, rfl, h, q.1 _ (.int _)⟩
      · cases e
    · cases e) ha (he := he)
end
end Qz
namespace Qz
open PySem PySem.Spec PyProof.Rows L2
/-! ### max of two numbers -/
section
variable {X : Cx} {a b c : Expr} {fa fb fc : FE} {pos : Pos}
def gMax2 : OV → OV → Option Res := gI fun i j => some (if j > i then j else i)
theorem d_max2 {p : Pos} (hc : X.calm = true) (hg : Gl X "max") (hm : X.mg "max" = none) (ha : PEd X a fa) (hb : PEd X b fb) (hs : starEach [a, b] X.env = (false, eval a X.env) :: starEach [b] X.env := by rfl) (he : starEach [b] X.env = (false, eval b X.env) :: starEach [] X.env := by rfl) (hpl : (backTo pos (starEach [b] X.env)).any (·.1) = false := by rfl) :
    PEd X (.Call (.Name "max" p) [a, b] [] pos) (f2 gMax2 fa fb) :=
  imp (pe_callB (call_max2 hc) hg hm (by decide +kernel) (pa_cons ha (pa_cons hb pa_nil he) hs) (by decide) (by decide) hs hpl) (run2 (k := fun v u H Q => ∃ i j, [v, u] = [V.int i, V.int j] ∧ Q (.int (if j > i then j else i)) H) (gI_run fun i j z H Q e q => ⟨i, j, rfl, by cases e; exact q⟩))
@[simp] theorem gMax2_ap {i j : Int} : gMax2 (.fz (.int i)) (.fz (.int j)) = some (.fr (.int (if j > i then j else i))) := rfl
end
end Qz
namespace Qz
open PySem PySem.Spec PyProof.Rows L2
/-! ### for k in d, of a dict whose keys are tuples -/
def ItN (P : Program) (w : World) (d : Addr) (xs : List (NestedKey × Addr × Value)) (ep : Nat) : It :=
  ⟨fun i H => H d = some (DctO P w d xs ep) ∧ i < xs.length, fun i H x H' => H' = H ∧ ∃ e, xs[i]? = some e ∧ x = .ref e.2.1, fun i H => H d = some (DctO P w d xs ep) ∧ xs.length ≤ i⟩
theorem dct_obj {X : Cx} {pins : List (Addr × Obj)} {σ : L2.St} {H : Hp} {s : Shared} {d : Addr} {xs : List (NestedKey × Addr × Value)} {ep : Nat} (I : Inv X pins σ H s) (h : H d = some (DctO X.prog X.w d xs ep)) :
    (d == sysModules) = false ∧ ∃ o es, s.heap.get? d = some o ∧ o.ExactDict ∧ o.data = .dict es ep ∧ es.size = xs.length ∧ ∀ (i : Nat) e, xs[i]? = some e → es[i]? = some (entryOfKey (nestedKind X.prog X.w) e) := by
  obtain ⟨⟨h1, h2, o, es, h3, h4, h5, h6, h7⟩, _, _⟩ := I.hok d _ h
  refine ⟨h2, o, es, h3, h4, h5, by rw [← Array.length_toList, h6, List.length_map], fun i e q => ?_⟩
  have : es.toList[i]? = some (entryOfKey (nestedKind X.prog X.w) e) := by rw [h6, List.getElem?_map, q]; rfl
  rwa [Array.getElem?_toList] at this
theorem turn_N {P : Program} {w : World} {K : PySem.W.Frag} {tg : Expr} {d : Addr} {xs : List (NestedKey × Addr × Value)} {ep : Nat} (it : Addr) : Turn P w K tg (ItN P w d xs ep) [it] it (fun i h => h.IsKeyIter it d i xs.length ep) where
  mem := List.mem_singleton.mpr rfl
  obj := fun i h st b hb => by
    cases (List.mem_singleton.mp hb)
    obtain ⟨oi, e, c, dd⟩ := st; exact ⟨oi, e, fun v z => by rw [dd] at z; cases z⟩
  keep := fun i h h' st k => st.at (k it (List.mem_singleton.mpr rfl))
  item := fun X hP hw hK hc i pins s σ H E I hf st hg => by
    cases hP; cases hw; cases hK
    obtain ⟨f0, f1, _, f3, f4, f5⟩ := hf it (List.mem_singleton.mpr rfl)
    obtain ⟨_, o, es, g1, _, g3, g4, g5⟩ := dct_obj I hg.1
    have hi : i < xs.length := hg.2
    have hx := List.getElem?_eq_getElem hi
    refine next_key_item st g1 g3 g4 (g5 i _ hx) fun h' st' sb => ?_
    obtain ⟨oi, e, c, dd⟩ := id st'
    exact ⟨_, rfl, go_of (s := { s with heap := h' }) e c dd (by decide) ⟨.ref xs[i].2.1, H, I.turned (t' := s.toks) (fun b ob hb q => (sb.2 b hb).trans q) f0 f1 f3 f4 f5, rfl, ⟨rfl, _, hx, rfl⟩, st', fun b hb => (hf b hb).1⟩⟩
  done := fun X hP hw hK hc i pins s σ H E I hf st hg => by
    cases hP; cases hw; cases hK
    obtain ⟨f0, f1, _, f3, f4, f5⟩ := hf it (List.mem_singleton.mpr rfl)
    obtain ⟨_, o, es, g1, _, g3, g4, _⟩ := dct_obj I hg.1
    exact next_key_end (I.ok.hd hc) st g1 g3 g4 hg.2 fun h' eb => ⟨rfl, I.turned (t' := s.toks) (fun b ob hb q => eb b ob hb q) f0 f1 f3 f4 f5⟩
  self := fun A i s Q E st h => wpAny_pyIter_keyiter st h
section
variable {X : Cx} {tg e : Expr}
theorem pi_N {td : TE} (he : PE X e td) : PI X tg e (fun σ H R => td σ H fun x H1 => ∃ d xs ep, x = .ref d ∧ H1 d = some (DctO X.prog X.w d xs ep) ∧ R (ItN X.prog X.w d xs ep) H1) := by
  refine ⟨fun pins s σ H R I h => thn (he.run pins s σ H _ I h) fun u s1 ⟨x, H1, I1, rx, d, xs, ep, ex, hd, q⟩ => ?_⟩
  subst ex
  obtain rfl : u = Value.ref d := rx
  obtain ⟨hs, o, es, g1, g2, g3, g4, _⟩ := dct_obj I1 hd
  refine iter_keys hs g1 g2 g3 (pi_one (tk := s1.toks) I1 _ (turn_N _) ⟨_, Heap.get?_push_size _ rfl, rfl, ?_⟩ q)
  rw [g4] <;> rfl
/-- the keys, as data -/
def keysD (ks : List NestedKey) : List PyData := ks.map NestedKey.data
theorem KeysOk.at {R : Hp} : ∀ {ks : List NestedKey} {vs : List V} {xs : List (NestedKey × Addr × Value)} {i : Nat} {d : PyData}, KeysOk R ks vs xs → (keysD ks)[i]? = some d → ∃ x, xs[i]? = some x ∧ Rp R (.ref x.2.1) d
  | _, _, _, _, _, .nil, e => by simp [keysD] at e
  | _, _, _, 0, _, .cons ⟨_, _, _, h4, _⟩ _, e => by simp [keysD] at e; subst e; exact ⟨_, rfl, h4⟩
  | _, _, _, i + 1, _, .cons _ r, e => by
    obtain ⟨x, h1, h2⟩ := KeysOk.at (i := i) r (by simpa [keysD] using e)
    exact ⟨x, by simpa using h1, h2⟩
theorem itOk_N {P : Program} {w : World} {R : Hp} {Fm : Fr} {d : Addr} {ks : List NestedKey} {vs : List V} {xs : List (NestedKey × Addr × Value)} {ep : Nat} (h : ∀ H, Same Fm.fm H → Same R H → H d = some (DctO P w d xs ep)) (r : KeysOk R ks vs xs) : ItOk R Fm (ItN P w d xs ep) (keysD ks) where
  go := fun i H x s1 s2 e => by
    obtain ⟨y, e1, _⟩ := r.at e
    exact ⟨h H s1 s2, (List.getElem?_eq_some_iff.mp e1).1⟩
  yld := fun i H x H' y s1 s2 e z => by
    obtain ⟨u, e1, e2⟩ := r.at e
    obtain ⟨q1, q, q2, q3⟩ := z
    rw [e1] at q2
    cases q2
    subst q3
    exact .inl ⟨q1, e2⟩
  stop := fun H s1 s2 => ⟨h H s1 s2, by rw [keysD, List.length_map, r.length.1]; exact Nat.le_refl _⟩
/-- a new dict is walked -/
def iKeysE (fe : FE) : FI := fun L => match fe L with
  | some (.ow (.nd (.dct ks) _), M) => some (keysD ks, M)
  | _ => none
theorem i_keysE {fe : FE} (h : PEd X e fe) : PId X tg e (iKeysE fe) := impI (pi_N h) (by
  rintro σ H K ⟨R, Fm, L, T, τ, x, ds, L', e, q⟩
  unfold iKeysE at e
  split at e
  · rename_i ks os M er
    cases e
    refine ⟨R, Fm, L, T, τ, x, _, _, er, fun R' v H' s y => ?_⟩
    obtain ⟨Fm', l, z⟩ := y.take1.lendB
    obtain ⟨B, k1, _, _⟩ := l.own
    have k2 := k1.one'
    cases k2 with
    | nd n l2 =>
      cases n with
      | dct hh hk =>
        have z' : At (gp X) X.N.length R' Fm' L' T σ τ H' := ⟨y.sl, y.ge, z⟩
        exact ⟨_, _, _, rfl, z.fh _ _ hh, q R' Fm' H' _ s l.bo l.sub z' (itOk_N (fun H2 s1 _ => s1 _ _ hh) hk)⟩
  · cases e)
/-- a dict that is borrowed or frozen is walked -/
def iKeysR (fr : FR) : FI := fun L => match fr L with
  | some ((.nd (.dct ks) _, none), M) => some (keysD ks, M)
  | some ((.fo (.nd (.dct ks) _), b), M) => match unl b M with
    | some M' => some (keysD ks, M')
    | none => none
  | _ => none
theorem i_keysR {fr : FR} (h : PRd X e fr) : PId X tg e (iKeysR fr) := impI (pi_N h) (by
  rintro σ H K ⟨R, Fm, L, T, τ, x, ds, L', e, q⟩
  unfold iKeysR at e
  split at e
  · rename_i ks os M er
    cases e
    refine ⟨R, Fm, L, T, τ, x, _, _, _, er, fun R' Fm' v H' s y hh ⟨A, ho⟩ => ?_⟩
    have hF : Fm' = Fm := hh
    subst hF
    cases ho with
    | nd n l2 =>
      cases n with
      | dct h1 hk =>
        exact ⟨_, _, _, rfl, un_to y.rel.fh y.rel.rh _ _ h1, q R' Fm' H' _ s rfl (Same.refl _) y (itOk_N (fun H2 s1 s2 => un_to s1 s2 _ _ h1) hk)⟩
  · rename_i ks os b M er
    split at e
    · rename_i M' eu
      cases e
      refine ⟨R, Fm, L, T, τ, x, _, _, _, er, fun R' Fm' v H' s y hh ⟨A, ho⟩ => ?_⟩
      have y' := At.unl (τ2 := []) (by simpa using y) hh (Same.refl _) eu
      rw [List.append_nil] at y'
      cases ho with
      | fo ho =>
        cases ho with
        | nd n l2 =>
          cases n with
          | dct h1 hk =>
            exact ⟨_, _, _, rfl, y.rel.rh _ _ h1, q R' Fm H' _ s rfl (Same.refl _) y' (itOk_N (fun H2 _ s2 => s2 _ _ h1) hk)⟩
    · cases e
  · cases e)
/-- a frozen part, read as it is -/
def OV.st : OV → OV
  | .fo o => o.st
  | .fz d => .fz d
  | .nd k os => .nd k os
theorem Ow.st {G : Gp} {R F : Hp} (d : ∀ a o, F a = some o → R a = none) : ∀ {v o A}, Ow G R (un F R) v o A → ∃ A', Ow G R (un F R) v o.st A'
  | v, .fz _, A, h => ⟨A, by rw [OV.st]; exact h⟩
  | v, .nd _ _, A, h => ⟨A, by rw [OV.st]; exact h⟩
  | v, .fo o, A, h => by
    cases h with
    | fo h => rw [OV.st]; exact Ow.st d (h.frame (frz_same (un_R d)) fun b _ u q => un_R d b u q)
def frSt (fr : FR) : FR := fun L => match fr L with
  | some ((c, b), M) => some ((c.st, b), M)
  | none => none
theorem r_st {fr : FR} (h : PRd X e fr) : PRd X e (frSt fr) := imp h (by
  rintro σ H Q ⟨R, Fm, L, T, τ, x, c, bk, M, e, q⟩
  unfold frSt at e
  split at e
  · rename_i c1 b1 M1 e1
    cases e
    exact ⟨R, Fm, L, T, τ, x, _, _, _, e1, fun R' Fm' v H' s y hh ⟨A, ho⟩ => q R' Fm' v H' s y hh (ho.st y.rel.dj.1)⟩
  · cases e)
@[simp] theorem st_fz {d : PyData} : (OV.fz d).st = .fz d := by rw [OV.st]
@[simp] theorem st_nd {k : Kd} {os : List OV} : (OV.nd k os).st = .nd k os := by rw [OV.st]
@[simp] theorem st_fo {o : OV} : (OV.fo o).st = o.st := by rw [OV.st]
@[simp] theorem frSt_ap {fr : FR} {L : Sta} : frSt fr L = match fr L with
  | some ((c, b), M) => some ((c.st, b), M)
  | none => none := rfl
@[simp] theorem iKeysE_ap {fe : FE} {L : Sta} : iKeysE fe L = match fe L with
  | some (.ow (.nd (.dct ks) _), M) => some (keysD ks, M)
  | _ => none := rfl
@[simp] theorem iKeysR_ap {fr : FR} {L : Sta} : iKeysR fr L = match fr L with
  | some ((.nd (.dct ks) _, none), M) => some (keysD ks, M)
  | some ((.fo (.nd (.dct ks) _), b), M) => (match unl b M with
    | some M' => some (keysD ks, M')
    | none => none)
  | _ => none := by unfold iKeysR; rfl
end
end Qz
namespace Qz
open PySem PySem.Spec PyProof.Rows L2
/-! ### sorted(set(xs)), xs a list of tuples of small numbers, few of them distinct -/
theorem code_inj : ∀ {r q : List Int}, r.length = q.length → TS.Bd 64 r → TS.Bd 64 q → TS.code 64 r = TS.code 64 q → r = q
  | [], [], _, _, _, _ => rfl
  | d :: r, e :: q, hl, hr, hq, h => by
    have hl' : r.length = q.length := by simpa using hl
    rcases Int.lt_trichotomy d e with h1 | h1 | h1
    · have := TS.code_lt hl' hr.tail hq.tail h1
      omega
    · subst h1
      have : TS.code 64 r = TS.code 64 q := by
        have h' : d * 64 ^ r.length + TS.code 64 r = d * 64 ^ q.length + TS.code 64 q := h
        rw [hl'] at h'
        omega
      rw [code_inj hl' hr.tail hq.tail this]
    · have := TS.code_lt hl'.symm hq.tail hr.tail h1
      omega
def insT (k : List Int) : List (List Int) → List (List Int)
  | [] => [k]
  | x :: xs => if TS.code 64 k < TS.code 64 x then k :: x :: xs else if TS.code 64 k = TS.code 64 x then x :: xs else x :: insT k xs
def sdT (ks : List (List Int)) : List (List Int) := ks.foldr insT []
def UpT (xs : List (List Int)) : Prop := xs.Pairwise fun a b => TS.code 64 a < TS.code 64 b
theorem insT_sub {k j : List Int} : ∀ {xs : List (List Int)}, j ∈ insT k xs → j = k ∨ j ∈ xs
  | [], h => by simp [insT] at h; exact .inl h
  | x :: xs, h => by
    unfold insT at h
    split at h
    · simpa using h
    · split at h
      · exact .inr h
      · rcases List.mem_cons.mp h with h | h
        · exact .inr (by simp [h])
        · rcases insT_sub h with h | h
          · exact .inl h
          · exact .inr (by simp [h])
theorem insT_sup {k j : List Int} : ∀ {xs : List (List Int)}, j ∈ xs → j ∈ insT k xs
  | x :: xs, h => by
    unfold insT
    split
    · exact List.mem_cons_of_mem _ h
    · split
      · exact h
      · rcases List.mem_cons.mp h with h | h
        · simp [h]
        · exact List.mem_cons_of_mem _ (insT_sup h)
theorem insT_has {k : List Int} : ∀ {xs : List (List Int)}, ∃ j ∈ insT k xs, TS.code 64 j = TS.code 64 k
  | [] => ⟨k, by simp [insT], rfl⟩
  | x :: xs => by
    unfold insT
    split
    · exact ⟨k, by simp, rfl⟩
    · split
      · rename_i h; exact ⟨x, by simp, h.symm⟩
      · obtain ⟨j, h1, h2⟩ := insT_has (k := k) (xs := xs)
        exact ⟨j, by simp [h1], h2⟩
theorem insT_up {k : List Int} : ∀ {xs : List (List Int)}, UpT xs → UpT (insT k xs)
  | [], _ => by simp [insT, UpT]
  | x :: xs, h => by
    have hp := List.pairwise_cons.mp h
    unfold insT
    split
    · rename_i hlt
      refine List.pairwise_cons.mpr ⟨fun y hy => ?_, h⟩
      rcases List.mem_cons.mp hy with rfl | hy
      · exact hlt
      · have := hp.1 y hy; omega
    · split
      · exact h
      · rename_i h1 h2
        refine List.pairwise_cons.mpr ⟨fun y hy => ?_, insT_up hp.2⟩
        rcases insT_sub hy with rfl | hy
        · omega
        · exact hp.1 y hy
theorem sdT_up (ks : List (List Int)) : UpT (sdT ks) := by
  unfold sdT
  induction ks with
  | nil => exact List.Pairwise.nil
  | cons k ks ih => exact insT_up ih
theorem sdT_sub {ks : List (List Int)} {k : List Int} (h : k ∈ sdT ks) : k ∈ ks := by
  induction ks with
  | nil => simp [sdT] at h
  | cons x ks ih =>
    rcases insT_sub (show k ∈ insT x (sdT ks) from h) with rfl | h
    · simp
    · simp [ih h]
theorem sdT_has {ks : List (List Int)} {k : List Int} (h : k ∈ ks) : ∃ j ∈ sdT ks, TS.code 64 j = TS.code 64 k := by
  induction ks with
  | nil => simp at h
  | cons x ks ih =>
    show ∃ j ∈ insT x (sdT ks), _
    rcases List.mem_cons.mp h with rfl | h
    · exact insT_has
    · obtain ⟨j, h1, h2⟩ := ih h
      exact ⟨j, insT_sup h1, h2⟩
def OkT (ks : List (List Int)) : Prop := (∃ d, 1 ≤ d ∧ ∀ k ∈ ks, k.length = d ∧ TS.Bd 64 k) ∧ ∃ D : List (List Int), D.length < 63 ∧ ∀ k ∈ ks, k ∈ D
theorem OkT.inj {ks : List (List Int)} (h : OkT ks) {a b : List Int} (ha : a ∈ ks) (hb : b ∈ ks) (e : TS.code 64 a = TS.code 64 b) : a = b := by
  obtain ⟨d, _, hd⟩ := h.1
  exact code_inj ((hd a ha).1.trans (hd b hb).1.symm) (hd a ha).2 (hd b hb).2 e
theorem sdT_mem {ks : List (List Int)} (h : OkT ks) {k : List Int} : k ∈ sdT ks ↔ k ∈ ks := by
  refine ⟨sdT_sub, fun hk => ?_⟩
  obtain ⟨j, h1, h2⟩ := sdT_has hk
  rw [← h.inj (sdT_sub h1) hk h2]; exact h1
theorem upT_unique {xs ys : List (List Int)} (hx : UpT xs) (hy : UpT ys) (hm : ∀ k, k ∈ xs ↔ k ∈ ys) (hi : ∀ a ∈ xs, ∀ b ∈ ys, TS.code 64 a = TS.code 64 b → a = b) : xs = ys := by
  have e : xs.map (TS.code 64) = ys.map (TS.code 64) := up_unique (List.pairwise_map.mpr hx) (List.pairwise_map.mpr hy) fun k => by
    simp only [List.mem_map]
    exact ⟨fun ⟨a, h1, h2⟩ => ⟨a, (hm a).mp h1, h2⟩, fun ⟨a, h1, h2⟩ => ⟨a, (hm a).mpr h1, h2⟩⟩
  clear hx hy hm
  induction xs generalizing ys with
  | nil => cases ys with
    | nil => rfl
    | cons y ys => simp at e
  | cons x xs ih => cases ys with
    | nil => simp at e
    | cons y ys =>
      simp only [List.map_cons, List.cons.injEq] at e
      rw [hi x (by simp) y (by simp) e.1, ih (fun a ha b hb => hi a (by simp [ha]) b (by simp [hb])) e.2]
section
variable {X : Cx}
def rSetFew (K : PySem.W.Frag) (P : Program) (w : World) : List V → Hp → VK → Prop := fun xs H Q => ∃ (l : Addr) (ks : List (Addr × List Int)) (D : List (List Int)), xs = [V.ref l] ∧ SqL K H l (ks.map fun p => V.ref p.1) ∧ (∀ p ∈ ks, SqT K H p.1 (p.2.map V.int)) ∧ D.length < 63 ∧ (∀ p ∈ ks, p.2 ∈ D) ∧
  ∀ a L, H a = none → (∀ p ∈ L, p ∈ ks) → (∀ p ∈ ks, p.2 ∈ L.map (·.2)) → Q (.ref a) (upd H a (SetTO P w a L))
theorem cr_setFew (hc : X.calm = true) (hu : X.A.units + 64 < cLine) : CallR X (.type "set") (rSetFew X.K X.prog X.w) := by
  intro pins s σ H xs us Q I r ⟨l, ks, D, ex, hl, hk, hD, hin, q⟩
  subst ex; rw [Vals.ref1 r]
  obtain ⟨its, rv, pl, _⟩ := I.list hl
  refine call_set_few (P := X.prog) (w := X.w) ks (I.ok.hd hc) pl.isList (by simpa using refs_of_vals rv) (fun p hp => I.isT (hk p hp)) D hD hin (by omega) fun h' tk L es ep t R g k => ?_
  exact ⟨.ref s.heap.objs.size, _, I.laid (t' := tk) k (Nat.le_refl _) (setTO_new R.t0), rfl, q _ L (I.hok.fresh (Nat.le_refl _)) (fun p hp => List.mem_of_mem_take (g.sub p hp)) fun p hp => g.all p (by rw [List.take_length]; exact hp)⟩
end
def tupD (k : List Int) : PyData := .tuple (k.map .int)
def tupsD : List PyData → Option (List (List Int))
  | [] => some []
  | .tuple ds :: es => match intsD ds, tupsD es with
    | some k, some ks => some (k :: ks)
    | _, _ => none
  | _ :: _ => none
theorem tupsD_map (ks : List (List Int)) : tupsD (ks.map tupD) = some ks := by
  induction ks with
  | nil => rfl
  | cons k ks ih => simp [tupsD, tupD, intsD_map] at ih ⊢; rw [ih]
theorem intsD_eq : ∀ {ds : List PyData} {ns : List Int}, intsD ds = some ns → ds = ns.map .int
  | [], ns, e => by simp [intsD] at e; subst e; rfl
  | .int i :: ds, ns, e => by
    rw [intsD] at e
    obtain ⟨ms, e1, e2⟩ := Option.map_eq_some_iff.mp e
    subst e2
    rw [intsD_eq e1]; rfl
  | .none :: _, _, e => by simp [intsD] at e
  | .bool _ :: _, _, e => by simp [intsD] at e
  | .str _ :: _, _, e => by simp [intsD] at e
  | .list _ :: _, _, e => by simp [intsD] at e
  | .tuple _ :: _, _, e => by simp [intsD] at e
  | .dict _ :: _, _, e => by simp [intsD] at e
theorem tups_rp {R : Hp} : ∀ {vs : List V} {ds : List PyData} {ks : List (List Int)}, RpL R vs ds → tupsD ds = some ks → ∃ ps : List (Addr × List Int), vs = ps.map (fun p => V.ref p.1) ∧ ps.map (·.2) = ks ∧ ∀ p ∈ ps, R p.1 = some (.tup (p.2.map V.int))
  | _, _, _, .nil, e => by simp [tupsD] at e; subst e; exact ⟨[], rfl, rfl, by simp⟩
  | _, _, _, .cons (d := d) (ds := ds) h r, e => by
    unfold tupsD at e
    split at e
    · rename_i heq; cases heq
    · rename_i ds' es' heq
      cases heq
      split at e
      · rename_i k ks e1 e2
        cases e
        obtain ⟨ps, g1, g2, g3⟩ := tups_rp r e2
        cases h with
        | tup h rr =>
          have := intsD_rp rr e1
          subst this
          rename_i a
          refine ⟨(a, k) :: ps, by rw [g1]; rfl, by rw [← g2]; rfl, fun p hp => ?_⟩
          rcases List.mem_cons.mp hp with rfl | hp
          · exact h
          · exact g3 p hp
      · cases e
    · cases e
noncomputable def gSortSetT (o : OV) : Option Res := match lkids o with
  | some ds => match tupsD ds with
    | some ks => if sm (OkT ks) then some (.nl ((sdT ks).map tupD)) else none
    | none => none
  | none => none
section
variable {X : Cx} {a : Expr} {fa : FE} {pos : Pos}
theorem d_sortSetT {p p2 q : Pos} (hc : X.calm = true) (hu : X.A.units + 64 < cLine) (hg : Gl X "sorted") (hm : X.mg "sorted" = none) (hg2 : Gl X "set") (hm2 : X.mg "set" = none) (ha : PEd X a fa) (na : starEach [a] X.env = (false, eval a X.env) :: starEach [] X.env := by rfl) :
    PEd X (.Call (.Name "sorted" p) [.Call (.Name "set" p2) [a] [] q] [] pos) (f1 gSortSetT fa) :=
  imp (pe_callB (cr_sortedT hc) hg hm (by decide +kernel) (pa_cons (pe_callTy (cr_setFew hc hu) hg2 hm2 PyProof.Rows.boot_set (pa_cons ha pa_nil na) (he := na)) pa_nil)) (run1G (k := fun v H Q => rSetFew X.K X.prog X.w [v] H fun y H2 => rSortedT X.K X.prog X.w [y] H2 Q) fun R H v a A d Q s ha e q => by
    unfold gSortSetT at e
    split at e
    · rename_i ds ed
      split at e
      · rename_i ks ek
        split at e
        · rename_i hok
          replace hok := sm_iff.mp hok
          cases e
          obtain ⟨l, vs, rfl, hl, rr⟩ := ha.lk s ed
          obtain ⟨ps, rfl, e2, hR⟩ := tups_rp rr ek
          obtain ⟨⟨dd, hd1, hd2⟩, D, hD, hin⟩ := id hok
          have km : ∀ p ∈ ps, p.2 ∈ ks := fun p hp => by rw [← e2]; exact List.mem_map.mpr ⟨p, hp, rfl⟩
          refine ⟨l, ps, D, rfl, SqL.of hl, fun p hp => SqT.of (s _ _ (hR p hp)), hD, fun p hp => hin _ (km p hp), fun a L hn h1 h2 => ?_⟩
          have s2 : Same H (upd H a (SetTO X.prog X.w a L)) := same_upd hn
          refine ⟨a, L, dd, 64, rfl, upd_same, fun p hp => SqT.of (s2 _ _ (s _ _ (hR p (h1 p hp)))), hd1, fun p hp => hd2 _ (km p (h1 p hp)), fun L' p' pm nd few pw hp' => ?_⟩
          have ik : ∀ z ∈ L', z.2 ∈ ks := fun z hz => km z (h1 z (pm.mem_iff.mp hz))
          have up : UpT (L'.map (·.2)) := by
            refine List.pairwise_map.mpr ?_
            have nd' := List.pairwise_map.mp nd
            refine List.Pairwise.imp_of_mem (fun {x y} hx hy h => ?_) (pw.and nd')
            rcases Int.lt_or_eq_of_le h.1 with h3 | h3
            · exact h3
            · exact absurd (hok.inj (ik x hx) (ik y hy) h3) h.2
          have eq : L'.map (·.2) = sdT ks := upT_unique up (sdT_up ks) (fun k => by
            rw [sdT_mem hok]
            constructor
            · intro h
              obtain ⟨z, hz, rfl⟩ := List.mem_map.mp h
              exact ik z hz
            · intro h
              rw [← e2] at h
              obtain ⟨z, hz, rfl⟩ := List.mem_map.mp h
              rw [(pm.map (·.2)).mem_iff]
              exact h2 z hz) fun x hx y hy h => by
                obtain ⟨z, hz, rfl⟩ := List.mem_map.mp hx
                exact hok.inj (ik z hz) (sdT_sub hy) h
          rw [← eq] at q
          refine q _ s2 p' _ hp' ?_
          have : ∀ M : List (Addr × List Int), (∀ z ∈ M, z ∈ L) → RpL R (M.map fun q => V.ref q.1) ((M.map (·.2)).map tupD) := by
            intro M
            induction M with
            | nil => intro _; exact .nil
            | cons z M ih => intro h; exact .cons (.tup (hR z (h1 z (h z (by simp)))) (rpl_ints _)) (ih fun y hy => h y (by simp [hy]))
          exact this L' fun z hz => pm.mem_iff.mp hz
        · cases e
      · cases e
    · cases e)
@[simp] theorem gSortSetT_ap {o : OV} : gSortSetT o = match lkids o with
  | some ds => match tupsD ds with
    | some ks => if sm (OkT ks) then some (.nl ((sdT ks).map tupD)) else none
    | none => none
  | none => none := rfl
end
end Qz
namespace Qz
open PySem PySem.Spec PyProof.Rows L2
/-! ### xs.count(x) of data -/
section
variable {X : Cx} {a b : Expr} {fa fb : FE} {apos cpos : Pos}
def rCountD (K : PySem.W.Frag) : V → List V → Hp → VK → Prop := fun x xs H Q => ∃ (p : Addr) (y : V) (d : PyData) (ds : List PyData), x = V.ref p ∧ xs = [y] ∧ Dp K H (V.ref p) (.list ds) ∧ Dp K H y d ∧ SeqAt.shaped (.list ds) = true ∧ SeqAt.shaped d = true ∧ Q (.int (ds.countP fun z => PyData.eqv z d : Nat)) H
theorem mt_countD (hu : X.A.units + 65 < cLine) : MtR X "list.count" (rCountD X.K) := by
  intro pins s σ H x xs v us Q I rx rxs ⟨p, y, d, ds, ex, exs, hl, hy, sl, sd, q⟩
  subst ex exs; cases rx
  obtain ⟨uy, rfl, ry⟩ := rxs.one
  obtain ⟨bs, r1⟩ := Dp.reads I d y uy hy ry
  cases hl with
  | lst hs ha =>
    obtain ⟨its, rv, ⟨⟨cls, dd, data, sls⟩, n, ho, hc, hdn, hdt⟩, hlen⟩ := I.list hs
    simp only at hc hdt; subst hc hdt
    obtain ⟨as, h4⟩ := Dp.readsAll I ds _ its ha rv
    have hmap := SeqAt.readsAll_map ds its as (SeqAt.canLay_of_shaped sl) h4
    refine call_meets PySem.F.slot_list_count ⟨_, ho, rfl⟩ PySem.F.entry_list_count (PySem.F.args_list_count_2 _ _) (SeqAt.list_countAt p its.toArray n dd sls uy fun u => PyData.eqv (SeqAt.readOf s.heap u) d)
      ⟨ho, SeqAt.items_eqAt (vs := its.toArray) (show ReadsAll s.heap its.toArray.toList ds as from h4) r1 (SeqAt.canLay_of_shaped sl) (SeqAt.canLay_of_shaped sd) (room_in_shaped sd hu), ⟨.int _, H, I.tok _, ⟨s.toks, ?_⟩, q⟩⟩
    rw [← hmap, List.countP_map]; rfl
def fCount (fr fe : FE) : FE := fun L => match fr L with
  | some (.rf k, M) => match M[k]? with
    | some (.ow (.fz (.list _))) => match fArgs [fe] M with
      | some ([.fz d], M') => match M'[k]? with
        | some (.ow (.fz (.list ds))) => if SeqAt.shaped (.list ds) && SeqAt.shaped d then some (.ow (.fz (.int (ds.countP fun z => PyData.eqv z d : Nat))), M') else none
        | _ => none
      | _ => none
    | _ => none
  | _ => none
theorem d_count (hu : X.A.units + 65 < cLine) (ha : PEd X a fa) (hb : PEd X b fb) (hbase : attributeBase a "count" X.env (eval a X.env) = eval a X.env := by rfl) (hline : (apos.endLine == cpos.line) = true := by rfl) (hs : starEach [b] X.env = (false, eval b X.env) :: starEach [] X.env := by rfl)
    (hfew : ((backTo cpos (starEach [b] X.env)).all (fun x => !x.1) && (backToKw cpos (keywordEach [] X.env)).all (fun x => x.1.isSome) && decide (([b] : List Expr).length + ([] : List Keyword).length + (if ([] : List Keyword).isEmpty then 0 else 1) < 30)) = true := by rfl) :
    PEd X (.Call (.Attribute a "count" apos) [b] [] cpos) (fCount fa fb) :=
  imp (pe_bm PySem.F.plainAttrs_list PySem.F.slot_list_count PySem.F.type_list_count (mt_countD hu) ha (a_cons hb a_nil hs) hbase hfew hline hs) (by
    rintro σ H Q ⟨R, Fm, L, T, τ, x, r, L', e, q⟩
    unfold fCount at e
    split at e
    · rename_i k M ek
      split at e
      · rename_i ds ed
        split at e
        · rename_i d M' eo
          split at e
          · rename_i ds' ed'
            split at e
            · rename_i hsh
              obtain ⟨sh1, sh2⟩ := Bool.and_eq_true_iff.mp hsh
              cases e
              refine ⟨R, Fm, L, T, τ, x, .rf k, M, ek, fun R1 v H1 s1 x1 => ⟨x1.isL (by unfold Qz.isL conI; rw [ed]), R1, Fm, M, _, _, x1, [.fz d], _, eo, fun R2 vs H2 s2 hv x2 => ?_⟩⟩
              obtain ⟨u, rfl⟩ : ∃ u, vs = [u] := by match vs, hv with | [u], _ => exact ⟨u, rfl⟩
              obtain ⟨A, hu2⟩ := At.con (o := .fz d) (r := .ow (.fz d)) x2 rfl
              have x3 := At.drop (r := .ow (.fz d)) x2
              obtain ⟨B, hl⟩ := At.con (o := .fz (.list ds')) x3 (by simp only [Qz.con, Qz.conI]; rw [ed'])
              obtain ⟨p, ys, rfl, hp, rr⟩ := hl.lk x2.rel.rh (ds := ds') rfl
              exact ⟨p, u, d, ds', rfl, rfl, hl.dp x2.rel.rh rfl, hu2.dp x2.rel.rh rfl, sh1, sh2, q R2 _ _ (s1.trans s2) (At.push x3.drop (.int _))⟩
            · cases e
          · cases e
        · cases e
      · cases e
    · cases e)
@[simp] theorem fCount_ap {fr fe : FE} {L : Sta} : fCount fr fe L = match fr L with
  | some (.rf k, M) => match M[k]? with
    | some (.ow (.fz (.list _))) => match fArgs [fe] M with
      | some ([.fz d], M') => match M'[k]? with
        | some (.ow (.fz (.list ds))) => if SeqAt.shaped (.list ds) && SeqAt.shaped d then some (.ow (.fz (.int (ds.countP fun z => PyData.eqv z d : Nat))), M') else none
        | _ => none
      | _ => none
    | _ => none
  | _ => none := rfl
end
end Qz
namespace Qz
open PySem PySem.Spec PyProof.Rows L2
section
variable {X : Cx} {pos : Pos} {e : Expr} {fe : FE}
/-- (a, b) = e: the value is a list, then frozen -/
def sUnpL (ts : List Tg) (fe : FE) : FS := fun L => match fArgs [fe] L with
  | some ([o], M) => match o.dat with
    | some (.list ds) => match asgs ts ds M with
      | some M' => some (.nx, M')
      | none => none
    | _ => none
  | _ => none
@[simp] theorem sUnpL_ap {ts : List Tg} {L : Sta} : sUnpL ts fe L = match fArgs [fe] L with
  | some ([o], M) => match o.dat with
    | some (.list ds) => match asgs ts ds M with
      | some M' => some (.nx, M')
      | none => none
    | _ => none
  | _ => none := rfl
theorem s_unpL {es : List Expr} {k : Nat} {p : Pos} {ts : List Tg} (hc : X.calm = true) (he : PEd X e fe) (h : PGsd X es ts) (hn : (assignEach es X.env).length = ts.length := by rfl) (hst : (assignEach es X.env).findIdx? (·.1) = none := by rfl) (hs : swapsWithSole [.Tuple es k p] e pos.line X.env = pure false := by rfl) (hw : swappedStores [.Tuple es k p] e X.env = pure none := by rfl) (h1 : (assignEach [.Tuple es k p] X.env).map (·.2) = [assign (.Tuple es k p) X.env] := by rfl) : PSd X (.Assign [.Tuple es k p] e pos) (sUnpL ts fe) :=
  impS (ps_asg he (pg_lst hc h hn hst) hs hw h1) (by
    rintro D σ H ⟨R, Fm, L, γ, x, fl, L', e, q⟩
    unfold sUnpL at e
    split at e
    · rename_i o M eo
      split at e
      · rename_i ds ed
        split at e
        · rename_i M' em
          cases e
          obtain ⟨r, M1, er, et⟩ := fArgs1 eo
          refine ⟨R, Fm, L, [], γ, x, r, M1, er, fun R' v H' s y => ?_⟩
          obtain ⟨R2, s2, y2⟩ := At.tk (T := []) (τ := γ) y et
          obtain ⟨R3, s3, rp, z⟩ := (At.take1 (T := []) (τ := γ) y2).freezeB (ds := [.list ds]) (by simp [OV.dats, ed])
          cases rp with
          | cons rp _ =>
            cases rp with
            | lst g1 g2 =>
              exact ⟨_, _, rfl, SqL.of (z.rh _ _ g1), by rw [g2.length]; exact asgs_len em, R3, Fm, M, [], γ, ds, rfl, ⟨y2.sl, y2.ge, z⟩, g2, _, em, fun R4 σ4 s4 _ w => q R4 σ4 H' (s.trans (s2.trans (s3.trans s4))) w⟩
        · cases e
      · cases e
    · cases e)
end
end Qz
namespace Qz
open PySem PySem.Spec PyProof.Rows L2
-- is_count: 0 value, 1 least, 2 most
noncomputable def f_is_count : FS := (sRet (fAndV (f1 (gIsi .int) (fName 0)) (fAndV (fNotV (f1 (gIsi .bool) (fName 0))) (fChain (fName 1) (fName 0) (fName 2)))))
noncomputable def m_is_count : List OV → Option OV := mFun 3 f_is_count
-- arrivals_of: 0 desk, 1 found, 2 line, 3 arrival
noncomputable def c_arrivals_of_0 : FE := (fCompO 1 (.nm 3) [3] fYes (f2 gAdd (fName 3) (fTup [(fName 2)])))
noncomputable def l_arrivals_of_0 : FS := (sExpr (fExt (fName 1) c_arrivals_of_0))
noncomputable def f_arrivals_of : FS := (sSeq (sSet false 1 (fLst [(fTup [])]))
  (sSeq (sFor (iRg (f2 gIx (fName 0) (f0 (some (.fr (.int 0)))))) (.nm 2) l_arrivals_of_0)
  (sRet (fName 1))))
noncomputable def m_arrivals_of : List OV → Option OV := mFun 4 f_arrivals_of
-- start_of: 0 desk
noncomputable def f_start_of : FS := (sRet (fTup [(f2 gMul (fTup [(fTup [])]) (f2 gIx (fName 0) (f0 (some (.fr (.int 0)))))), (fIf (fB (f2 gEq (f2 gIx (f2 gIx (fName 0) (f0 (some (.fr (.int 2))))) (f0 (some (.fr (.int 0))))) (f0 (some (.fr (.str "round")))))) (f2 gSub (f2 gIx (fName 0) (f0 (some (.fr (.int 0))))) (f0 (some (.fr (.int 1))))) (f0 (some (.fr (.int 0)))))]))
noncomputable def m_start_of : List OV → Option OV := mFun 1 f_start_of
-- chosen: 0 desk, 1 queues, 2 pointer, 3 word, 4 lines, 5 line, 6 turn, 7 step, 8 one, 9 slots, 10 slot, 11 points
noncomputable def c_chosen_0 : FE := (fComp (iRg (f2 gIx (fName 0) (f0 (some (.fr (.int 0)))))) (.nm 5) [5] (fB (f2 gNe (f2 gIx (fName 1) (fName 5)) (fTup []))) (fName 5))
noncomputable def c_chosen_1 : FE := (fComp (iSrc (f2 gIx (f2 gIx (fName 0) (f0 (some (.fr (.int 2))))) (f0 (some (.fr (.int 1)))))) (.nm 5) [5] (fB (f2 gIn (fName 5) (fName 4))) (fName 5))
noncomputable def c_chosen_2 : FE := (fComp (iRg (f2 gIx (fName 0) (f0 (some (.fr (.int 0)))))) (.nm 7) [7] fYes (f2 gMod (f2 gAdd (f2 gAdd (fName 2) (f0 (some (.fr (.int 1))))) (fName 7)) (f2 gIx (fName 0) (f0 (some (.fr (.int 0)))))))
noncomputable def c_chosen_3 : FE := (fComp (iSrc (fName 6)) (.nm 8) [8] (fB (f2 gIn (fName 8) (fName 4))) (fName 8))
noncomputable def c_chosen_4 : FE := (fComp (iRg (f1 gLen (fName 9))) (.nm 7) [7] fYes (f2 gMod (f2 gAdd (fName 2) (fName 7)) (f1 gLen (fName 9))))
noncomputable def c_chosen_5 : FE := (fComp (iSrc (fName 6)) (.nm 8) [8] (fB (f2 gIn (f2 gIx (fName 9) (fName 8)) (fName 4))) (fName 8))
noncomputable def c_chosen_6 : FE := (fComp (iSrc (fName 4)) (.nm 5) [5] fYes (fTup [(f1 gLen (f2 gIx (fName 1) (fName 5))), (f1 gNeg (fName 5))]))
noncomputable def c_chosen_7 : FE := (fComp (iSrc (fName 4)) (.nm 5) [5] fYes (fTup [(f2 gAdd (f2 gIx (fName 11) (fName 5)) (f2 gIx (f2 gIx (fName 1) (fName 5)) (f0 (some (.fr (.int 0)))))), (f1 gNeg (fName 5))]))
noncomputable def f_chosen : FS := (sSeq (sPar [(true, 3), (true, 4)] [(f2 gIx (f2 gIx (fName 0) (f0 (some (.fr (.int 2))))) (f0 (some (.fr (.int 0))))), c_chosen_0])
  (sSeq (sIf (fB (f2 gEq (fName 4) (fLst []))) (sRet (fTup [(f0 (some (.fr .none))), (fName 2)])) sNil)
  (sSeq (sIf (fB (f2 gEq (fName 3) (f0 (some (.fr (.str "order")))))) (sRet (fTup [(f2 gIx c_chosen_1 (f0 (some (.fr (.int 0))))), (fName 2)])) sNil)
  (sSeq (sIf (fB (f2 gEq (fName 3) (f0 (some (.fr (.str "round")))))) (sSeq (sSet true 6 c_chosen_2)
  (sSeq (sSet true 5 (f2 gIx c_chosen_3 (f0 (some (.fr (.int 0))))))
  (sRet (fTup [(fName 5), (fName 5)])))) sNil)
  (sSeq (sIf (fB (f2 gEq (fName 3) (f0 (some (.fr (.str "cycle")))))) (sSeq (sSet true 9 (f2 gIx (f2 gIx (fName 0) (f0 (some (.fr (.int 2))))) (f0 (some (.fr (.int 1))))))
  (sSeq (sSet true 6 c_chosen_4)
  (sSeq (sSet true 10 (f2 gIx c_chosen_5 (f0 (some (.fr (.int 0))))))
  (sRet (fTup [(f2 gIx (fName 9) (fName 10)), (f2 gMod (f2 gAdd (fName 10) (f0 (some (.fr (.int 1))))) (f1 gLen (fName 9)))]))))) sNil)
  (sSeq (sIf (fB (f2 gEq (fName 3) (f0 (some (.fr (.str "longest")))))) (sRet (fTup [(f2 gMul (f2 gIx (f1 (gMx true) c_chosen_6) (f0 (some (.fr (.int 1))))) (f1 gNeg (f0 (some (.fr (.int 1)))))), (fName 2)])) sNil)
  (sSeq (sSet true 11 (fIf (fB (f2 gEq (fName 3) (f0 (some (.fr (.str "points")))))) (f2 gIx (f2 gIx (fName 0) (f0 (some (.fr (.int 2))))) (f0 (some (.fr (.int 1))))) (f2 gMul (fTup [(f0 (some (.fr (.int 0))))]) (f2 gIx (fName 0) (f0 (some (.fr (.int 0))))))))
  (sRet (fTup [(f2 gMul (f2 gIx (f1 (gMx true) c_chosen_7) (f0 (some (.fr (.int 1))))) (f1 gNeg (f0 (some (.fr (.int 1)))))), (fName 2)])))))))))
noncomputable def m_chosen : List OV → Option OV := mFun 12 f_chosen
-- settled: 0 desk, 1 situation, 2 queues, 3 pointer, 4 queue, 5 ages, 6 age
noncomputable def c_settled_0 : FE := (fComp (iSrc (fName 2)) (.nm 4) [4] fYes (f2 gMulZ (fTup [(f0 (some (.fr (.int 0))))]) (f1 gLen (fName 4))))
noncomputable def c_settled_1 : FE := (fComp (iSrc (fName 2)) (.nm 4) [4] fYes (f1 gList (fName 4)))
noncomputable def c_settled_2 : FE := (fComp (iSrc (fName 4)) (.nm 6) [6] fYes (fIndex (fName 5) (fName 6)))
noncomputable def c_settled_3 : FE := (fComp (iSrc (fName 2)) (.nm 4) [4] fYes (f1 gTuple c_settled_2))
noncomputable def f_settled : FS := (sSeq (sUnp (.tp [(.nm 2), (.nm 3)]) (fName 1))
  (sSeq (sIf (fB (f2 gEq (f2 gIx (f2 gIx (fName 0) (f0 (some (.fr (.int 2))))) (f0 (some (.fr (.int 0))))) (f0 (some (.fr (.str "points")))))) (sRet (fName 1)) sNil)
  (sSeq (sIf (fB (f2 gNe (f2 gIx (f2 gIx (fName 0) (f0 (some (.fr (.int 2))))) (f0 (some (.fr (.int 0))))) (f0 (some (.fr (.str "oldest")))))) (sRet (fTup [(f1 gTuple c_settled_0), (fName 3)])) sNil)
  (sSeq (sSet true 5 (f1 gSortSetL (f2 gSumL c_settled_1 (fLst []))))
  (sRet (fTup [(f1 gTuple c_settled_3), (fName 3)]))))))
noncomputable def m_settled : List OV → Option OV := mFun 7 f_settled
-- row_to: 0 sources, 1 key, 2 row, 3 arrival
noncomputable def l_row_to_0 : FS := (sSeq (sUnp (.tp [(.nm 1), (.nm 3)]) (fR2 gIxN (frName 0) (fName 1)))
  (sExpr (fApp (fName 2) (fName 3))))
noncomputable def f_row_to : FS := (sSeq (sSet false 2 (fLst []))
  (sSeq (whileL (fB (f2 gIsNot (fR2 gIxN (frName 0) (fName 1)) (f0 (some (.fr .none))))) l_row_to_0 1000000000)
  (sRet (f1 gRev (fName 2)))))
noncomputable def m_row_to : List OV → Option OV := mFun 4 f_row_to
-- _law_draw: 0 script, 1 town, 2 many, 3 one, 4 at, 5 mixed
noncomputable def f__law_draw : FS := (sSeq (sIf (fB (f2 gGt (f2 gIx (fName 1) (f0 (some (.fr (.int 1))))) (f0 (some (.fr (.int 0)))))) (sSeq (sSet true 3 (f2 gMod (f2 gIx (fName 1) (f0 (some (.fr (.int 1))))) (fName 2)))
  (sSeq (sSetIx (fName 1) (f0 (some (.fr (.int 1)))) (f2 gDiv (f2 gIx (fName 1) (f0 (some (.fr (.int 1))))) (fName 2)))
  (sRet (fName 3)))) sNil)
  (sSeq (sSet true 4 (f2 gIx (fName 1) (f0 (some (.fr (.int 0))))))
  (sSeq (sAugIx false (fName 1) (f0 (some (.fr (.int 0)))) (f0 (some (.fr (.int 1)))))
  (sSeq (sIf (fB (f2 gEq (fName 0) (fLst []))) (sRet (f2 gMod (fName 4) (fName 2))) sNil)
  (sSeq (sIf (fAnd (fB (f2 gLt (fName 4) (f1 gLen (fName 0)))) (fB (f2 gGe (f2 gIx (fName 0) (fName 4)) (f2 gPow (f0 (some (.fr (.int 10)))) (f0 (some (.fr (.int 18)))))))) (sSeq (sSetIx (fName 1) (f0 (some (.fr (.int 1)))) (f2 gMod (f2 gDiv (f2 gIx (fName 0) (fName 4)) (fName 2)) (f2 gMul (f2 gPow (f0 (some (.fr (.int 10)))) (f0 (some (.fr (.int 60))))) (f2 gPow (f0 (some (.fr (.int 10)))) (f0 (some (.fr (.int 60))))))))
  (sRet (f2 gMod (f2 gIx (fName 0) (fName 4)) (fName 2)))) sNil)
  (sSeq (sSet true 5 (f2 gMod (f2 gAdd (f2 gAdd (f2 gMul (f2 gIx (fName 0) (f2 gMod (fName 4) (f1 gLen (fName 0)))) (f0 (some (.fr (.int 1103515245))))) (f2 gMul (f0 (some (.fr (.int 7919)))) (fName 4))) (f0 (some (.fr (.int 12345))))) (f0 (some (.fr (.int 2147483647))))))
  (sRet (f2 gMod (f2 gMod (f2 gMod (f2 gPow (fName 5) (f0 (some (.fr (.int 5))))) (f0 (some (.fr (.int 2147483647))))) (f0 (some (.fr (.int 999983))))) (fName 2)))))))))
noncomputable def m__law_draw : List OV → Option (OV × OV) := mFunI 6 1 f__law_draw
-- _law_arrivals: 0 desk, 1 found, 2 line, 3 arrival
noncomputable def c__law_arrivals_0 : FE := (fCompO 1 (.nm 3) [3] fYes (f2 gAdd (fName 3) (fTup [(fName 2)])))
noncomputable def l__law_arrivals_0 : FS := (sExpr (fExt (fName 1) c__law_arrivals_0))
noncomputable def f__law_arrivals : FS := (sSeq (sSet false 1 (fLst [(fTup [])]))
  (sSeq (sFor (iRg (f2 gIx (fName 0) (f0 (some (.fr (.int 0)))))) (.nm 2) l__law_arrivals_0)
  (sRet (fName 1))))
noncomputable def m__law_arrivals : List OV → Option OV := mFun 4 f__law_arrivals
-- _law_long: 0 row
noncomputable def f__law_long : FS := (sRet (fIf (fB (f2 gIs (fName 0) (f0 (some (.fr .none))))) (f0 (some (.fr (.int 99)))) (f1 gLen (fName 0))))
noncomputable def m__law_long : List OV → Option OV := mFun 1 f__law_long
-- are_counts: 0 value, 1 least, 2 most, 3 long, 4 one
noncomputable def c_are_counts_0 : FE := (fComp (iSrc (fName 0)) (.nm 4) [4] fYes (fCall m_is_count [(fName 4), (fName 1), (fName 2)]))
noncomputable def f_are_counts : FS := (sRet (fAndV (f1 (gIsi .tuple) (fName 0)) (fAndV (f2 gLe (f1 gLen (fName 0)) (fName 3)) (f1 gAll c_are_counts_0))))
noncomputable def m_are_counts : List OV → Option OV := mFun 5 f_are_counts
-- moved: 0 desk, 1 situation, 2 arrival, 3 queues, 4 away, 5 queue, 6 age, 7 line, 8 pointer
noncomputable def c_moved_0 : FE := (fComp (iSrc (fName 5)) (.nm 6) [6] fYes (f2 gAdd (fName 6) (f0 (some (.fr (.int 1))))))
noncomputable def c_moved_1 : FE := (fComp (iSrc (f2 gIx (fName 1) (f0 (some (.fr (.int 0)))))) (.nm 5) [5] fYes (f1 gTuple c_moved_0))
noncomputable def l_moved_0 : FS := (sIf (fB (f2 gLt (f1 gLen (f2 gIx (fName 3) (fName 7))) (f2 gIx (fName 0) (f0 (some (.fr (.int 1))))))) (sSetIx (fName 3) (fName 7) (f2 gAdd (f2 gIx (fName 3) (fName 7)) (fTup [(f0 (some (.fr (.int 0))))]))) (sExpr (fApp (fName 4) (fName 7))))
noncomputable def f_moved : FS := (sSeq (sPar [(false, 3), (false, 4)] [c_moved_1, (fLst [])])
  (sSeq (sFor (iSrc (fName 2)) (.nm 7) l_moved_0)
  (sSeq (sUnp (.tp [(.nm 7), (.nm 8)]) (fCall m_chosen [(fName 0), (fName 3), (f2 gIx (fName 1) (f0 (some (.fr (.int 1)))))]))
  (sSeq (sSet true 6 (f0 (some (.fr .none))))
  (sSeq (sIf (fB (f2 gIsNot (fName 7) (f0 (some (.fr .none))))) (sSeq (sSet true 6 (f2 gIx (f2 gIx (fName 3) (fName 7)) (f0 (some (.fr (.int 0))))))
  (sSetIx (fName 3) (fName 7) (fSl (f2 gIx (fName 3) (fName 7)) (foS (f0 (some (.fr (.int 1))))) foN))) sNil)
  (sRet (fTup [(fTup [(f1 gTuple (fName 3)), (fName 8)]), (fName 7), (fName 6), (fName 4)])))))))
noncomputable def m_moved : List OV → Option OV := mFun 9 f_moved
-- _law_pick: 0 script, 1 town, 2 some
noncomputable def f__law_pick : FS := (sRet (f2 gIx (fName 2) (fCallI 1 m__law_draw [(fName 0), (fName 1), (f1 gLen (fName 2))])))
noncomputable def m__law_pick : List OV → Option (OV × OV) := mFunI 3 1 f__law_pick
-- _law_rule: 0 script, 1 town, 2 lines, 3 what, 4 places, 5 turned, 6 slots, 7 at, 8 k, 9 line
noncomputable def l__law_rule_0 : FS := (sExpr (fApp (fName 5) (fPopAt (fName 4) (fCallI 1 m__law_draw [(fName 0), (fName 1), (f1 gLen (fName 4))]))))
noncomputable def c__law_rule_0 : FE := (fComp (iRg (fCallI 1 m__law_draw [(fName 0), (fName 1), (f2 gSub (f0 (some (.fr (.int 7)))) (fName 2))])) (.nm 8) [8] fYes (fCallI 1 m__law_draw [(fName 0), (fName 1), (fName 2)]))
noncomputable def c__law_rule_1 : FE := (fCompO 4 (.nm 9) [9] fYes (fCallI 1 m__law_draw [(fName 0), (fName 1), (f0 (some (.fr (.int 5))))]))
noncomputable def f__law_rule : FS := (sSeq (sPar [(true, 3), (false, 4)] [(fCallI 1 m__law_draw [(fName 0), (fName 1), (f0 (some (.fr (.int 6))))]), (f1 gListRg (fName 2))])
  (sSeq (sIf (fB (f2 gEq (fName 3) (f0 (some (.fr (.int 0)))))) (sSeq (sSet false 5 (fLst []))
  (sSeq (whileL (fB (f2 gNe (fName 4) (fLst []))) l__law_rule_0 4)
  (sRet (fTup [(f0 (some (.fr (.str "order")))), (f1 gTuple (fName 5))])))) sNil)
  (sSeq (sIf (fB (f2 gEq (fName 3) (f0 (some (.fr (.int 1)))))) (sSeq (sSet true 6 (f2 gAdd (fName 4) c__law_rule_0))
  (sSeq (sSet true 7 (fCallI 1 m__law_draw [(fName 0), (fName 1), (f1 gLen (fName 6))]))
  (sRet (fTup [(f0 (some (.fr (.str "cycle")))), (f1 gTuple (f2 gAdd (fSl (fName 6) (foS (fName 7)) foN) (fSl (fName 6) foN (foS (fName 7)))))])))) sNil)
  (sSeq (sIf (fB (f2 gEq (fName 3) (f0 (some (.fr (.int 2)))))) (sRet (fTup [(f0 (some (.fr (.str "points")))), (f1 gTuple c__law_rule_1)])) sNil)
  (sRet (fTup [(f2 gIx (fLst [(f0 (some (.fr (.str "round")))), (f0 (some (.fr (.str "oldest")))), (f0 (some (.fr (.str "longest"))))]) (f2 gSub (fName 3) (f0 (some (.fr (.int 3))))))]))))))
noncomputable def m__law_rule : List OV → Option (OV × OV) := mFunI 10 1 f__law_rule
-- is_rule: 0 value, 1 lines, 2 word
noncomputable def f_is_rule : FS := (sSeq (sIf (fOr (fNot (fB (f1 (gIsi .tuple) (fName 0)))) (fOr (fB (f2 gEq (fName 0) (fTup []))) (fNot (fB (f1 (gIsi .str) (f2 gIx (fName 0) (f0 (some (.fr (.int 0)))))))))) (sRet (f0 (some (.fr (.bool false))))) sNil)
  (sSeq (sSet true 2 (f2 gIx (fName 0) (f0 (some (.fr (.int 0))))))
  (sSeq (sIf (fB (f2 gIn (fName 2) (fTup [(f0 (some (.fr (.str "round")))), (f0 (some (.fr (.str "oldest")))), (f0 (some (.fr (.str "longest"))))]))) (sRet (f2 gEq (f1 gLen (fName 0)) (f0 (some (.fr (.int 1)))))) sNil)
  (sSeq (sIf (fOr (fB (f2 gNotIn (fName 2) (fTup [(f0 (some (.fr (.str "order")))), (f0 (some (.fr (.str "cycle")))), (f0 (some (.fr (.str "points"))))]))) (fB (f2 gNe (f1 gLen (fName 0)) (f0 (some (.fr (.int 2))))))) (sRet (f0 (some (.fr (.bool false))))) sNil)
  (sSeq (sIf (fB (f2 gEq (fName 2) (f0 (some (.fr (.str "points")))))) (sRet (fAndV (fCall m_are_counts [(f2 gIx (fName 0) (f0 (some (.fr (.int 1))))), (f0 (some (.fr (.int 0)))), (f0 (some (.fr (.int 4)))), (fName 1)]) (f2 gEq (f1 gLen (f2 gIx (fName 0) (f0 (some (.fr (.int 1)))))) (fName 1)))) sNil)
  (sSeq (sIf (fNot (fB (fCall m_are_counts [(f2 gIx (fName 0) (f0 (some (.fr (.int 1))))), (f0 (some (.fr (.int 0)))), (f2 gSub (fName 1) (f0 (some (.fr (.int 1))))), (fIf (fB (f2 gEq (fName 2) (f0 (some (.fr (.str "order")))))) (fName 1) (f0 (some (.fr (.int 6)))))]))) (sRet (f0 (some (.fr (.bool false))))) sNil)
  (sRet (f2 gEq (f1 gLenSet (f2 gIx (fName 0) (f0 (some (.fr (.int 1)))))) (fName 1)))))))))
noncomputable def m_is_rule : List OV → Option OV := mFun 3 f_is_rule
-- after: 0 desk, 1 situation, 2 arrival, 3 new, 4 line, 5 age, 6 away
noncomputable def f_after : FS := (sSeq (sUnp (.tp [(.nm 3), (.nm 4), (.nm 5), (.nm 6)]) (fCall m_moved [(fName 0), (fName 1), (fName 2)]))
  (sRet (fTup [(fCall m_settled [(fName 0), (fName 3)]), (fName 4), (fName 6)])))
noncomputable def m_after : List OV → Option OV := mFun 7 f_after
-- _law_desk: 0 script, 1 town, 2 lines, 3 room
noncomputable def f__law_desk : FS := (sSeq (sUnp (.tp [(.nm 2), (.nm 3)]) (fCallI 1 m__law_pick [(fName 0), (fName 1), (fLst [(fTup [(f0 (some (.fr (.int 2)))), (f0 (some (.fr (.int 1))))]), (fTup [(f0 (some (.fr (.int 2)))), (f0 (some (.fr (.int 2))))]), (fTup [(f0 (some (.fr (.int 2)))), (f0 (some (.fr (.int 2))))]), (fTup [(f0 (some (.fr (.int 2)))), (f0 (some (.fr (.int 3))))]), (fTup [(f0 (some (.fr (.int 3)))), (f0 (some (.fr (.int 1))))]), (fTup [(f0 (some (.fr (.int 1)))), (f0 (some (.fr (.int 2))))])])]))
  (sRet (fTup [(fName 2), (fName 3), (fCallI 1 m__law_rule [(fName 0), (fName 1), (fName 2)])])))
noncomputable def m__law_desk : List OV → Option (OV × OV) := mFunI 4 1 f__law_desk
-- _law_row: 0 script, 1 town, 2 desk, 3 most, 4 arrivals, 5 k
noncomputable def c__law_row_0 : FE := (fComp (iRg (fCallI 1 m__law_draw [(fName 0), (fName 1), (fName 3)])) (.nm 5) [5] fYes (fCallI 1 m__law_pick [(fName 0), (fName 1), (f2 gAdd (fName 4) (fSl (fName 4) (foS (f1 gNeg (f0 (some (.fr (.int 1)))))) foN))]))
noncomputable def f__law_row : FS := (sSeq (sSet true 4 (fCall m__law_arrivals [(fName 2)]))
  (sRet c__law_row_0))
noncomputable def m__law_row : List OV → Option (OV × OV) := mFunI 6 1 f__law_row
-- is_desk: 0 value
noncomputable def f_is_desk : FS := (sSeq (sIf (fOr (fNot (fB (f1 (gIsi .tuple) (fName 0)))) (fOr (fB (f2 gNe (f1 gLen (fName 0)) (f0 (some (.fr (.int 3)))))) (fOr (fNot (fB (fCall m_is_count [(f2 gIx (fName 0) (f0 (some (.fr (.int 0))))), (f0 (some (.fr (.int 1)))), (f0 (some (.fr (.int 3))))]))) (fNot (fB (fCall m_is_count [(f2 gIx (fName 0) (f0 (some (.fr (.int 1))))), (f0 (some (.fr (.int 1)))), (f0 (some (.fr (.int 3))))])))))) (sRet (f0 (some (.fr (.bool false))))) sNil)
  (sRet (fAndV (f2 gLe (f2 gMul (f2 gIx (fName 0) (f0 (some (.fr (.int 0))))) (f2 gIx (fName 0) (f0 (some (.fr (.int 1)))))) (f0 (some (.fr (.int 6))))) (fCall m_is_rule [(f2 gIx (fName 0) (f0 (some (.fr (.int 2))))), (f2 gIx (fName 0) (f0 (some (.fr (.int 0)))))]))))
noncomputable def m_is_desk : List OV → Option OV := mFun 1 f_is_desk
-- need_desk: 0 value
noncomputable def f_need_desk : FS := (sIf (fNot (fB (fCall m_is_desk [(fName 0)]))) sNever sNil)
noncomputable def m_need_desk : List OV → Option OV := mFun 1 f_need_desk
-- alike: 0 desk, 1 other
noncomputable def f_alike : FS := (sSeq (sExpr (fCall m_need_desk [(fName 0)]))
  (sSeq (sExpr (fCall m_need_desk [(fName 1)]))
  (sRet (f2 gEq (fSl (fName 0) foN (foS (f0 (some (.fr (.int 2)))))) (fSl (fName 1) foN (foS (f0 (some (.fr (.int 2))))))))))
noncomputable def m_alike : List OV → Option OV := mFun 2 f_alike
-- parting: 0 desk, 1 other, 2 start, 3 sources, 4 level, 5 later, 6 key, 7 arrival, 8 one, 9 two
noncomputable def l_parting_0 : FS := (sSeq (sPar [(true, 8), (true, 9)] [(fCall m_after [(fName 0), (f2 gIx (fName 6) (f0 (some (.fr (.int 0))))), (fName 7)]), (fCall m_after [(fName 1), (f2 gIx (fName 6) (f0 (some (.fr (.int 1))))), (fName 7)])])
  (sSeq (sIf (fB (f2 gNe (f2 gIx (fName 8) (f0 (some (.fr (.int 1))))) (f2 gIx (fName 9) (f0 (some (.fr (.int 1))))))) (sRet (f2 gAdd (fCall m_row_to [(fName 3), (fName 6)]) (fLst [(fName 7)]))) sNil)
  (sIf (fB (fR2' (gInN true) (fTup [(f2 gIx (fName 8) (f0 (some (.fr (.int 0))))), (f2 gIx (fName 9) (f0 (some (.fr (.int 0)))))]) (frName 3))) (sSeq (sSetKey (flName 3) (fTup [(f2 gIx (fName 8) (f0 (some (.fr (.int 0))))), (f2 gIx (fName 9) (f0 (some (.fr (.int 0)))))]) (fTup [(fName 6), (fName 7)]))
  (sExpr (fApp (fName 5) (fTup [(f2 gIx (fName 8) (f0 (some (.fr (.int 0))))), (f2 gIx (fName 9) (f0 (some (.fr (.int 0)))))])))) sNil)))
noncomputable def l_parting_1 : FS := (sFor (iSrc (fCall m_arrivals_of [(fName 0)])) (.nm 7) l_parting_0)
noncomputable def l_parting_2 : FS := (sSeq (sSet false 5 (fLst []))
  (sSeq (sFor (iSrc (fName 4)) (.nm 6) l_parting_1)
  (sSet true 4 (fName 5))))
noncomputable def f_parting : FS := (sSeq (sIf (fNot (fB (fCall m_alike [(fName 0), (fName 1)]))) sNever sNil)
  (sSeq (sSet true 2 (fTup [(fCall m_settled [(fName 0), (fCall m_start_of [(fName 0)])]), (fCall m_settled [(fName 1), (fCall m_start_of [(fName 1)])])]))
  (sSeq (sPar [(false, 3), (true, 4)] [(fDisp1 (fName 2) (f0 (some (.fr .none)))), (fLst [(fName 2)])])
  (sSeq (whileL (fB (f2 gNe (fName 4) (fLst []))) l_parting_2 1000000000)
  (sRet (f0 (some (.fr .none))))))))
noncomputable def m_parting : List OV → Option OV := mFun 10 f_parting
-- law: 0 script, 1 town, 2 one, 3 two, 4 three, 5 k, 6 apart, 7 far
noncomputable def c_law_0 : FE := (fComp (iRg (f0 (some (.fr (.int 2))))) (.nm 5) [5] fYes (f2 gAdd (fSl (fName 2) foN (foS (f0 (some (.fr (.int 2)))))) (fTup [(fCallI 1 m__law_rule [(fName 0), (fName 1), (f2 gIx (fName 2) (f0 (some (.fr (.int 0)))))])])))
noncomputable def f_law : FS := (sSeq (sSet false 1 (fLst [(f0 (some (.fr (.int 0)))), (f0 (some (.fr (.int 0))))]))
  (sSeq (sSet true 2 (fCallI 1 m__law_desk [(fName 0), (fName 1)]))
  (sSeq (sUnpL [(.nm 3), (.nm 4)] c_law_0)
  (sSeq (sIf (fOr (fB (f2 gIsNot (fCall m_alike [(fName 2), (fName 3)]) (f0 (some (.fr (.bool true)))))) (fB (f2 gIsNot (fCall m_alike [(fName 3), (fName 4)]) (f0 (some (.fr (.bool true))))))) (sRet (f0 (some (.fr (.bool false))))) sNil)
  (sSeq (sSet true 6 (f1 gSorted (fLst [(fCall m__law_long [(fCall m_parting [(fName 2), (fName 3)])]), (fCall m__law_long [(fCall m_parting [(fName 3), (fName 4)])]), (fCall m__law_long [(fCall m_parting [(fName 2), (fName 4)])])])))
  (sSeq (sIf (fB (f2 gNe (f2 gIx (fName 6) (f0 (some (.fr (.int 0))))) (f2 gIx (fName 6) (f0 (some (.fr (.int 1))))))) (sRet (f0 (some (.fr (.bool false))))) sNil)
  (sSeq (sSet true 7 (fTup [(f2 gIx (fName 2) (f0 (some (.fr (.int 0))))), (fIf (fB (f2 gGt (f2 gIx (fName 2) (f0 (some (.fr (.int 1))))) (f0 (some (.fr (.int 1)))))) (f0 (some (.fr (.int 1)))) (f0 (some (.fr (.int 2))))), (f2 gIx (fName 2) (f0 (some (.fr (.int 2)))))]))
  (sRet (fAndV (f2 gIs (fCall m_alike [(fName 2), (fName 7)]) (f0 (some (.fr (.bool false))))) (f2 gIs (fCall m_alike [(fName 7), (fName 2)]) (f0 (some (.fr (.bool false))))))))))))))
noncomputable def m_law : List OV → Option OV := mFun 8 f_law
end Qz

namespace Qz
open PySem PySem.Spec PyProof.Rows L2
/-! ### draws -/
def townO (a b : Int) : OV := .ls [.fz (.int a), .fz (.int b)]
def TownOk (o : OV) : Prop := ∃ a b : Int, 0 ≤ a ∧ 0 ≤ b ∧ o = townO a b
@[simp] theorem wide60 : wide 1000000000000000000000000000000000000000000000000000000000000 = true := sm_true (by decide +kernel)
theorem draw_ok (ns : List Int) (many : Int) (town : OV) (h0 : 0 < many) (h1 : many < 1000000) (ht : TownOk town) :
    ∃ r town', m__law_draw [scrO ns, town, .fz (.int many)] = some (.fz (.int r), town') ∧ 0 ≤ r ∧ r < many ∧ TownOk town' := by
  obtain ⟨a, b, ha, hb, rfl⟩ := ht
  have hm2 : many < 1073741824 := by omega
  by_cases hb0 : 0 < b
  · refine ⟨b % many, townO a (b / many), ?_, Int.emod_nonneg _ (by omega), Int.emod_lt_of_pos _ h0, a, b / many, ha, Int.ediv_nonneg hb (by omega), rfl⟩
    simp [m__law_draw, mFunI, f__law_draw, townO, scrO, hb0, h0, hm2, ixN]
  · have hb' : b = 0 := by omega
    subst hb'
    obtain ⟨n, rfl⟩ : ∃ n : Nat, a = n := ⟨a.toNat, by omega⟩
    by_cases hn : ns = []
    · subst hn
      refine ⟨(n : Int) % many, townO (n + 1) 0, ?_, Int.emod_nonneg _ (by omega), Int.emod_lt_of_pos _ h0, n + 1, 0, by omega, by omega, rfl⟩
      simp [m__law_draw, mFunI, f__law_draw, townO, scrO, h0, ixN]
    · have hlen : 0 < ns.length := List.length_pos_iff.mpr hn
      have hne : ns.isEmpty = false := by cases ns with
        | nil => exact absurd rfl hn
        | cons _ _ => rfl
      obtain ⟨j, hmx, hlt⟩ : ∃ j : Nat, (n : Int) % (ns.length : Int) = (j : Int) ∧ j < ns.length := ⟨n % ns.length, by omega, Nat.mod_lt _ hlen⟩
      have hlenI : (0 : Int) < (ns.length : Int) := by omega
      have last : ∀ q : Int, 0 ≤ q % 2147483647 % 999983 % many ∧ q % 2147483647 % 999983 % many < many := fun q => ⟨Int.emod_nonneg _ (by omega), Int.emod_lt_of_pos _ h0⟩
      have mix : ∀ q : Int, (q % 2147483647).natAbs < 18446744073709551616 := fun q => by
        have := Int.emod_nonneg q (show (2147483647 : Int) ≠ 0 by decide)
        have := Int.emod_lt_of_pos q (show (0 : Int) < 2147483647 by decide)
        omega
      by_cases hc1 : n < ns.length
      · by_cases hc2 : 1000000000000000000 ≤ ns[n]
        · refine ⟨ns[n] % many, townO (n + 1) (ns[n] / many % (10 ^ 60 * 10 ^ 60)), ?_, Int.emod_nonneg _ (by omega), Int.emod_lt_of_pos _ h0, n + 1, _, by omega, Int.emod_nonneg _ (by decide), rfl⟩
          simp [m__law_draw, mFunI, f__law_draw, townO, scrO, h0, ixN, hne, hc1, hc2, hm2]
        · refine ⟨_, townO (n + 1) 0, ?_, (last (((ns[j] * 1103515245 + 7919 * n + 12345) % 2147483647) ^ 5)).1, (last _).2, n + 1, 0, by omega, by omega, rfl⟩
          simp [m__law_draw, mFunI, f__law_draw, townO, scrO, h0, ixN, hne, hc1, hc2, hm2, hmx, hlt, hlen, small64, mix]
      · refine ⟨_, townO (n + 1) 0, ?_, (last (((ns[j] * 1103515245 + 7919 * n + 12345) % 2147483647) ^ 5)).1, (last _).2, n + 1, 0, by omega, by omega, rfl⟩
        simp [m__law_draw, mFunI, f__law_draw, townO, scrO, h0, ixN, hne, hc1, hm2, hmx, hlt, hlen, small64, mix]
/-! ### picks, rules, desks, rows -/
theorem pick_ok (ns : List Int) (town : OV) (ht : TownOk town) (os : List OV) (ds : List PyData) (he : frs os = some ds) (h0 : ds ≠ []) (h1 : ds.length < 1000000) :
    ∃ d town', m__law_pick [scrO ns, town, .nd .lst os] = some (.fz d, town') ∧ d ∈ ds ∧ TownOk town' := by
  have hp : 0 < ds.length := List.length_pos_iff.mpr h0
  obtain ⟨r, town', e, hr0, hr1, ht'⟩ := draw_ok ns ds.length town (by omega) (by omega) ht
  obtain ⟨n, rfl⟩ : ∃ n : Nat, r = n := ⟨r.toNat, by omega⟩
  have hn : n < ds.length := by omega
  refine ⟨ds[n], town', ?_, List.getElem_mem hn, ht'⟩
  simp [m__law_pick, mFunI, f__law_pick, he, e, hn]
theorem order_loop (ns : List Int) (w l : OV) : ∀ (k : Nat) (ps ts : List Nat) (town : OV), ps.length < k → k < 100 → ts.length + ps.length < 100 → TownOk town →
    ∃ (ts' : List Nat) (town' : OV), whileL (fB (f2 gNe (fName 4) (fLst []))) l__law_rule_0 k [.bo (scrO ns), .rf 10, .bo l, .ow w, .ow (.ls (ps.map fun n => .fz (dN n))), .ow (.ls (ts.map fun n => .fz (dN n))), .no, .no, .no, .no, .ow town] =
      some (.nx, [.bo (scrO ns), .rf 10, .bo l, .ow w, .ow (.ls []), .ow (.ls (ts'.map fun n => .fz (dN n))), .no, .no, .no, .no, .ow town']) ∧ ts'.Perm (ts ++ ps) ∧ TownOk town'
  | 0, _, _, _, h, _, _, _ => by omega
  | k + 1, ps, ts, town, hk, hk2, hl, ht => by
    cases ps with
    | nil => exact ⟨ts, town, by simp [whileL], by simp, ht⟩
    | cons p ps =>
      obtain ⟨r, town', e, hr0, hr1, ht'⟩ := draw_ok ns ((p :: ps).length : Nat) town (by simp) (by simp at hk ⊢; omega) ht
      obtain ⟨n, rfl⟩ : ∃ n : Nat, r = n := ⟨r.toNat, by omega⟩
      have hn : n < (p :: ps).length := by omega
      have hle : (p :: ps).length = ps.length + 1 := rfl
      obtain ⟨ts', town2, g1, g2, g3⟩ := order_loop ns w l k ((p :: ps).eraseIdx n) (ts ++ [(p :: ps)[n]]) town' (by rw [List.length_eraseIdx_of_lt hn]; omega) (by omega) (by rw [List.length_eraseIdx_of_lt hn]; simp; simp at hl; omega) ht'
      refine ⟨ts', town2, ?_, g2.trans ?_, g3⟩
      · have hbody : l__law_rule_0 [.bo (scrO ns), .rf 10, .bo l, .ow w, .ow (.ls ((p :: ps).map fun n => .fz (dN n))), .ow (.ls (ts.map fun n => .fz (dN n))), .no, .no, .no, .no, .ow town] =
            some (.nx, [.bo (scrO ns), .rf 10, .bo l, .ow w, .ow (.ls (((p :: ps).eraseIdx n).map fun n => .fz (dN n))), .ow (.ls ((ts ++ [(p :: ps)[n]]).map fun n => .fz (dN n))), .no, .no, .no, .no, .ow town']) := by
          have e1 : (((p :: ps).map fun n => OV.fz (dN n))[n]?) = some (.fz (dN (p :: ps)[n])) := by rw [List.getElem?_map, List.getElem?_eq_getElem hn]; rfl
          have e2 : ((p :: ps).map fun n => OV.fz (dN n)).length = (p :: ps).length := List.length_map _
          have e3 : frs ((p :: ps).map fun n => OV.fz (dN n)) = some ((p :: ps).map dN) := frs_fzc
          have e4 : ((p :: ps).map dN).length = (p :: ps).length := List.length_map _
          have e5 : ((p :: ps).map fun n => OV.fz (dN n)).eraseIdx n = ((p :: ps).eraseIdx n).map fun n => OV.fz (dN n) := erase_map _ _ _
          have e6 : ts.length < sizeLine := by rw [sizeLine_eq]; omega
          have hx : ixN (p :: ps).length (n : Int) = some n := by unfold ixN; rw [if_pos (by omega), if_pos (by omega)]; simp
          generalize (p :: ps) = qs at *
          have e7 : (n : Int) < 9223372036854775808 := by have := hn; omega
          have e8 : -9223372036854775808 ≤ (n : Int) := by omega
          simp [l__law_rule_0, e, e1, e2, e3, e4, e5, e6, hx, e7, e8]
        have hc : fB (f2 gNe (fName 4) (fLst [])) [.bo (scrO ns), .rf 10, .bo l, .ow w, .ow (.ls ((p :: ps).map fun n => .fz (dN n))), .ow (.ls (ts.map fun n => .fz (dN n))), .no, .no, .no, .no, .ow town] =
            some (true, [.bo (scrO ns), .rf 10, .bo l, .ow w, .ow (.ls ((p :: ps).map fun n => .fz (dN n))), .ow (.ls (ts.map fun n => .fz (dN n))), .no, .no, .no, .no, .ow town]) := by
          simp
        unfold whileL
        rw [hc]
        simp only [hbody]
        exact g1
      · rw [List.append_assoc]
        refine List.Perm.append_left ts ?_
        exact erase_perm (p :: ps) n hn
theorem rgD_nat (n : Nat) : rgD n = (List.range n).map dN := rfl
/-- a comprehension that draws numbers below a bound -/
theorem draws (ns : List Int) (l w p4 s5 : SV) (i : Nat) (hi : i = 8 ∨ i = 9) (fm : FE) (many : Nat) (h0 : 0 < many) (h1 : many < 1000000) (town : OV) (ht : TownOk town) (ds : List PyData) (hl : ds.length ≤ 1000)
    (hn : ∀ town, noRef [.bo (scrO ns), .rf 10, l, w, p4, s5, .no, .no, .no, .no, .ow town] i = true)
    (hm : ∀ d town town' v, m__law_draw [scrO ns, town, .fz (.int many)] = some (v, town') → fArgs [fCallI 1 m__law_draw [fName 0, fName 1, fm]] ([SV.bo (scrO ns), .rf 10, l, w, p4, s5, .no, .no, .no, .no, .ow town].set i (.ow (.fz d))) = some ([v], [SV.bo (scrO ns), .rf 10, l, w, p4, s5, .no, .no, .no, .no, .ow town'].set i (.ow (.fz d)))) :
    ∃ (vs : List Nat) (town' : OV), compL (.nm i) fYes (fCallI 1 m__law_draw [fName 0, fName 1, fm]) [i] ds [.bo (scrO ns), .rf 10, l, w, p4, s5, .no, .no, .no, .no, .ow town] [] =
      some (vs.map (fun n => .fz (dN n)), [.bo (scrO ns), .rf 10, l, w, p4, s5, .no, .no, .no, .no, .ow town']) ∧ vs.length = ds.length ∧ (∀ v ∈ vs, v < many) ∧ TownOk town' := by
  obtain ⟨os, L', g1, g2, g3, town', g4, rfl⟩ := compL_inv (t := .nm i) (te := fCallI 1 m__law_draw [fName 0, fName 1, fm]) (vs := [i]) (fun L => ∃ town, TownOk town ∧ L = [.bo (scrO ns), .rf 10, l, w, p4, s5, .no, .no, .no, .no, .ow town])
    (fun o => ∃ v : Nat, v < many ∧ o = .fz (dN v)) ds _ [] ⟨town, ht, rfl⟩ (by rw [sizeLine_eq]; simp; omega) (fun d _ L hL => by
      obtain ⟨town, ht, rfl⟩ := hL
      obtain ⟨r, town', e, hr0, hr1, ht'⟩ := draw_ok ns many town (by omega) (by omega) ht
      obtain ⟨n, rfl⟩ : ∃ n : Nat, r = n := ⟨r.toNat, by omega⟩
      refine ⟨[SV.bo (scrO ns), .rf 10, l, w, p4, s5, .no, .no, .no, .no, .ow town].set i (.ow (.fz d)), [SV.bo (scrO ns), .rf 10, l, w, p4, s5, .no, .no, .no, .no, .ow town'].set i (.ow (.fz d)), .fz (dN n), [SV.bo (scrO ns), .rf 10, l, w, p4, s5, .no, .no, .no, .no, .ow town'], ?_, ?_, ?_, ⟨n, by omega, rfl⟩, town', ht', rfl⟩
      · simp [hn]
      · exact hm d town town' _ e
      · have hs := noRef_set (i := i) (sv := .ow (.fz d)) (hn town') (by intro j h; cases h)
        rw [wipeS_cons, wipeS_nil]
        simp only [hs, if_true]
        rcases hi with rfl | rfl <;> rfl)
  obtain ⟨vs, rfl, hv⟩ := ex_list os g3
  exact ⟨vs, town', by simpa using g1, by simpa using g2, hv, g4⟩
theorem rule_ok (ns : List Int) (n : Nat) (h1 : 1 ≤ n) (h3 : n ≤ 3) (town : OV) (ht : TownOk town) :
    ∃ (r : Rule) (town' : OV), m__law_rule [scrO ns, town, .fz (dN n)] = some (.fz r.d, town') ∧ r.ok n ∧ TownOk town' := by
  obtain ⟨r, t1, e, hr0, hr1, ht1⟩ := draw_ok ns 6 town (by omega) (by omega) ht
  have hpl : (0 : Int) ≤ (n : Int) ∧ (n : Int) ≤ 16777216 := by omega
  rcases (show r = 0 ∨ r = 1 ∨ r = 2 ∨ r = 3 ∨ r = 4 ∨ r = 5 by omega) with rfl | rfl | rfl | rfl | rfl | rfl
  · obtain ⟨ts, t2, g1, g2, g3⟩ := order_loop ns (.fz (.int 0)) (.fz (dN n)) 4 (List.range n) [] t1 (by simp; omega) (by omega) (by simp; omega) ht1
    refine ⟨.order ts, t2, ?_, by simpa [Rule.ok] using g2, g3⟩
    simp only [List.map_nil] at g1
    simp [m__law_rule, mFunI, f__law_rule, e, gListRg, hpl, rgD, Function.comp_def, g1, Rule.d, dT, sizeLine_eq]
  · obtain ⟨k, t2, e2, hk0, hk1, ht2⟩ := draw_ok ns (7 - (n : Int)) t1 (by omega) (by omega) ht1
    obtain ⟨kn, rfl⟩ : ∃ kn : Nat, k = kn := ⟨k.toNat, by omega⟩
    obtain ⟨vs, t3, g1, g2, g3, ht3⟩ := draws ns (.bo (.fz (dN n))) (.ow (.fz (.int 1))) (.ow (.ls ((rgD n).map .fz))) .no 8 (.inl rfl) (fName 2) n (by omega) (by omega) t2 ht2 (rgD kn) (by simp [rgD]; omega) (fun t => by simp) (fun d t t' v h => by simp [h])
    have hlen : vs.length = kn := by rw [g2]; simp [rgD]
    obtain ⟨a, t4, e4, ha0, ha1, ht4⟩ := draw_ok ns ((n + vs.length : Nat) : Int) t3 (by omega) (by omega) ht3
    obtain ⟨an, rfl⟩ : ∃ an : Nat, a = an := ⟨a.toNat, by omega⟩
    have hs1 : n + vs.length ≤ sizeLine := by rw [sizeLine_eq]; omega
    have hkb : -4611686018427387904 ≤ (kn : Int) ∧ (kn : Int) < 4611686018427387904 := by omega
    have c1 : ∀ ds : List PyData, ds.length = n + vs.length → cutD ds (some (an : Int)) none = ds.drop an := fun ds h => by
      unfold cutD
      rw [HT.sIx_nat, HT.sIx_none, h, show min an (n + vs.length) = an by omega, List.take_of_length_le (by simp; omega)]
    have c2 : ∀ ds : List PyData, ds.length = n + vs.length → cutD ds none (some (an : Int)) = ds.take an := fun ds h => by
      unfold cutD
      rw [HT.sIx_nat, HT.sIx_none, h, show min an (n + vs.length) = an by omega]
      simp
    let xs := List.range n ++ vs
    have hx : xs.length = n + vs.length := by simp [xs]
    refine ⟨.cycle (xs.drop an ++ xs.take an), t4, ?_, ⟨?_, fun x hx => ?_, fun i hi => ?_⟩, ht4⟩
    · have hrl : (rgD n).length = n := by simp [rgD]
      have d1 := c1 (rgD n ++ vs.map dN) (by simp [hrl])
      have d2 := c2 (rgD n ++ vs.map dN) (by simp [hrl])
      have d3 : dT (xs.drop an ++ xs.take an) = .tuple (((rgD n ++ vs.map dN).drop an) ++ ((rgD n ++ vs.map dN).take an)) := by
        unfold dT
        rw [List.map_append, List.map_drop, List.map_take, List.map_append]
        rfl
      have d4 : n + vs.length - an + min an (n + vs.length) ≤ sizeLine := by rw [sizeLine_eq]; omega
      have d6 : 2 ≤ sizeLine := by decide
      rw [Int.natCast_add] at e4
      rw [Rule.d, d3]
      simp [m__law_rule, mFunI, f__law_rule, c__law_rule_0, e, e2, gListRg, hpl, hkb, g1, hrl, hs1, d1, d2, d4, d6, e4, -List.map_append, -List.map_drop, -List.map_take]
    · simp [hx]; omega
    · have : x ∈ xs := by
        rcases List.mem_append.mp hx with h | h
        · exact List.mem_of_mem_drop h
        · exact List.mem_of_mem_take h
      rcases List.mem_append.mp this with h | h
      · exact List.mem_range.mp h
      · exact g3 x h
    · have : i ∈ xs := List.mem_append_left _ (List.mem_range.mpr hi)
      rw [← List.take_append_drop an xs] at this
      rcases List.mem_append.mp this with h | h
      · exact List.mem_append_right _ h
      · exact List.mem_append_left _ h
  · obtain ⟨vs, t3, g1, g2, g3, ht3⟩ := draws ns (.bo (.fz (dN n))) (.ow (.fz (.int 2))) .no .no 9 (.inr rfl) (f0 (some (.fr (.int 5)))) 5 (by omega) (by omega) t1 ht1 (rgD n) (by simp [rgD]; omega) (fun t => by simp) (fun d t t' v h => by simp at h; simp [h])
    have hlen : vs.length = n := by rw [g2]; simp [rgD]
    refine ⟨.points vs, t3, ?_, ⟨hlen, fun p hp => by have := g3 p hp; omega⟩, ht3⟩
    have d6 : 2 ≤ sizeLine := by decide
    simp [m__law_rule, mFunI, f__law_rule, c__law_rule_1, e, gListRg, hpl, g1, d6, Rule.d, dT]
  · exact ⟨.round, t1, by simp [m__law_rule, mFunI, f__law_rule, e, gListRg, hpl, rgD, Rule.d, sizeLine_eq], trivial, ht1⟩
  · exact ⟨.oldest, t1, by simp [m__law_rule, mFunI, f__law_rule, e, gListRg, hpl, rgD, Rule.d, sizeLine_eq], trivial, ht1⟩
  · exact ⟨.longest, t1, by simp [m__law_rule, mFunI, f__law_rule, e, gListRg, hpl, rgD, Rule.d, sizeLine_eq], trivial, ht1⟩
theorem desk_ok (ns : List Int) (town : OV) (ht : TownOk town) :
    ∃ (d : Desk) (town' : OV), m__law_desk [scrO ns, town] = some (.fz d.d, town') ∧ d.ok ∧ TownOk town' := by
  obtain ⟨p, t1, e, hp, ht1⟩ := pick_ok ns town ht [.fz (.tuple [.int 2, .int 1]), .fz (.tuple [.int 2, .int 2]), .fz (.tuple [.int 2, .int 2]), .fz (.tuple [.int 2, .int 3]), .fz (.tuple [.int 3, .int 1]), .fz (.tuple [.int 1, .int 2])] _ rfl (by simp) (by simp)
  have key : ∃ a b : Nat, p = .tuple [dN a, dN b] ∧ 1 ≤ a ∧ a ≤ 3 ∧ 1 ≤ b ∧ b ≤ 3 ∧ a * b ≤ 6 := by
    simp at hp
    rcases hp with rfl | rfl | rfl | rfl | rfl
    · exact ⟨2, 1, rfl, by omega, by omega, by omega, by omega, by omega⟩
    · exact ⟨2, 2, rfl, by omega, by omega, by omega, by omega, by omega⟩
    · exact ⟨2, 3, rfl, by omega, by omega, by omega, by omega, by omega⟩
    · exact ⟨3, 1, rfl, by omega, by omega, by omega, by omega, by omega⟩
    · exact ⟨1, 2, rfl, by omega, by omega, by omega, by omega, by omega⟩
  obtain ⟨a, b, rfl, h1, h2, h3, h4, h5⟩ := key
  obtain ⟨r, t2, e2, hr, ht2⟩ := rule_ok ns a h1 h2 t1 ht1
  refine ⟨⟨a, b, r⟩, t2, ?_, ⟨h1, h2, h3, h4, h5, hr⟩, ht2⟩
  have d6 : 6 ≤ sizeLine := by decide
  have d2 : 2 ≤ sizeLine := by decide
  have d3 : 3 ≤ sizeLine := by decide
  simp [m__law_desk, mFunI, f__law_desk, e, e2, d6, d2, d3, Desk.d]
def arrs : Nat → List (List Nat)
  | 1 => [[], [0]]
  | 2 => [[], [0], [1], [0, 1]]
  | 3 => [[], [0], [1], [0, 1], [2], [0, 2], [1, 2], [0, 1, 2]]
  | _ => []
theorem arrs_ok {n : Nat} {a : List Nat} (h : a ∈ arrs n) : ArrOk n a := by
  match n, h with
  | 1, h =>
    simp [arrs] at h
    rcases h with rfl | rfl <;> exact ⟨by simp, by simp⟩
  | 2, h =>
    simp [arrs] at h
    rcases h with rfl | rfl | rfl | rfl <;> exact ⟨by simp, by simp⟩
  | 3, h =>
    simp [arrs] at h
    rcases h with rfl | rfl | rfl | rfl | rfl | rfl | rfl | rfl <;> exact ⟨by simp, by simp⟩
theorem arrivals_ok (d : Desk) (h1 : 1 ≤ d.n) (h3 : d.n ≤ 3) : m__law_arrivals [.fz d.d] = some (.ls ((arrs d.n).map fun a => .fz (dT a))) := by
  obtain ⟨n, room, rule⟩ := d
  have z0 : ∀ k : Nat, k < 100 → (k < sizeLine) = True := fun k h => by rw [sizeLine_eq]; simp; omega
  have z1 : ∀ k : Nat, k < 100 → (k ≤ sizeLine) = True := fun k h => by rw [sizeLine_eq]; simp; omega
  rcases (show n = 1 ∨ n = 2 ∨ n = 3 by simp at h1 h3; omega) with rfl | rfl | rfl <;>
    simp [m__law_arrivals, mFun, f__law_arrivals, l__law_arrivals_0, c__law_arrivals_0, Desk.d, rgD, List.range_succ, forL, compL, arrs, dT, z0, z1]
theorem arrs_ne {n : Nat} (h1 : 1 ≤ n) (h3 : n ≤ 3) : arrs n ≠ [] ∧ (arrs n).length ≤ 8 := by
  rcases (show n = 1 ∨ n = 2 ∨ n = 3 by omega) with rfl | rfl | rfl <;> exact ⟨by simp [arrs], by simp [arrs]⟩
theorem row_comp (ns : List Int) (town t1 town' : OV) (x : PyData) (most : Nat) (y : List PyData) (z : List OV) (kn : Nat)
   (e : m__law_draw [scrO ns, town, .fz (.int most)] = some (.fz (.int kn), t1))
   (hkb : -4611686018427387904 ≤ (kn : Int) ∧ (kn : Int) < 4611686018427387904)
   (g1 : compL (.nm 5) fYes (fCallI 1 m__law_pick [fName 0, fName 1, f2 gAdd (fName 4) (fSl (fName 4) (foS (f1 gNeg (f0 (some (.fr (.int 1)))))) foN)]) [5] (rgD kn) [.bo (scrO ns), .rf 6, .bo (.fz x), .bo (.fz (dN most)), .ow (.fz (.list y)), .no, .ow t1] [] =
    some (z, [.bo (scrO ns), .rf 6, .bo (.fz x), .bo (.fz (dN most)), .ow (.fz (.list y)), .no, .ow town'])) :
   c__law_row_0 [.bo (scrO ns), .rf 6, .bo (.fz x), .bo (.fz (dN most)), .ow (.fz (.list y)), .no, .ow town] = some (.ow (.ls z), [.bo (scrO ns), .rf 6, .bo (.fz x), .bo (.fz (dN most)), .ow (.fz (.list y)), .no, .ow town']) := by
  simp [c__law_row_0, e, hkb, g1]
theorem row_fun (ns : List Int) (town town' : OV) (x most : PyData) (as : List (List Nat)) (z : List OV) (ma : List OV → Option OV) (cc : FE)
   (ha : ma [.fz x] = some (.ls (as.map fun a => .fz (dT a))))
   (hc : cc [.bo (scrO ns), .rf 6, .bo (.fz x), .bo (.fz most), .ow (.fz (.list (as.map dT))), .no, .ow town] = some (.ow (.ls z), [.bo (scrO ns), .rf 6, .bo (.fz x), .bo (.fz most), .ow (.fz (.list (as.map dT))), .no, .ow town'])) :
   mFunI 6 1 (sSeq (sSet true 4 (fCall ma [fName 2])) (sRet cc)) [scrO ns, town, .fz x, .fz most] = some (.ls z, town') := by
  simp [mFunI, ha, hc]
theorem row_ok (ns : List Int) (town : OV) (ht : TownOk town) (d : Desk) (h1 : 1 ≤ d.n) (h3 : d.n ≤ 3) (most : Nat) (hm0 : 0 < most) (hm : most < 1000) :
    ∃ (row : List (List Nat)) (town' : OV), m__law_row [scrO ns, town, .fz d.d, .fz (dN most)] = some (.ls (row.map fun a => .fz (dT a)), town') ∧ row.length < most ∧ (∀ a ∈ row, ArrOk d.n a) ∧ TownOk town' := by
  obtain ⟨k, t1, e, hk0, hk1, ht1⟩ := draw_ok ns most town (by omega) (by omega) ht
  obtain ⟨kn, rfl⟩ : ∃ kn : Nat, k = kn := ⟨k.toNat, by omega⟩
  have ha := arrivals_ok d h1 h3
  have hne := arrs_ne h1 h3
  have hdat : OV.dats ((arrs d.n).map fun a => .fz (dT a)) = some ((arrs d.n).map dT) := dats_fzc _ _
  obtain ⟨os, L', g1, g2, g3, town', g4, rfl⟩ := compL_inv (t := .nm 5) (te := fCallI 1 m__law_pick [fName 0, fName 1, f2 gAdd (fName 4) (fSl (fName 4) (foS (f1 gNeg (f0 (some (.fr (.int 1)))))) foN)]) (vs := [5])
    (fun L => ∃ town, TownOk town ∧ L = [.bo (scrO ns), .rf 6, .bo (.fz d.d), .bo (.fz (dN most)), .ow (.fz (.list ((arrs d.n).map dT))), .no, .ow town])
    (fun o => ∃ a : List Nat, ArrOk d.n a ∧ o = .fz (dT a)) (rgD kn) _ [] ⟨t1, ht1, rfl⟩ (by rw [sizeLine_eq]; simp [rgD]; omega) (fun x _ L hL => by
      obtain ⟨town, ht, rfl⟩ := hL
      have hcl : (cutD ((arrs d.n).map dT) (some (-1)) none).length ≤ 8 := by
        unfold cutD
        have := hne.2
        simp
        omega
      obtain ⟨p, t2, e2, hp, ht2⟩ := pick_ok ns town ht (((arrs d.n).map dT ++ cutD ((arrs d.n).map dT) (some (-1)) none).map .fz) _ (frs_map _) (by simp [hne.1]) (by have := hne.2; simp; omega)
      have hp' : p ∈ (arrs d.n).map dT := by
        rcases List.mem_append.mp hp with h | h
        · exact h
        · exact List.mem_of_mem_drop (List.mem_of_mem_take h)
      obtain ⟨a, hain, rfl⟩ := List.mem_map.mp hp'
      have hsz : (arrs d.n).length + (cutD ((arrs d.n).map dT) (some (-1)) none).length ≤ sizeLine := by
        have := hne.2
        rw [sizeLine_eq]; omega
      refine ⟨[.bo (scrO ns), .rf 6, .bo (.fz d.d), .bo (.fz (dN most)), .ow (.fz (.list ((arrs d.n).map dT))), .ow (.fz x), .ow town], [.bo (scrO ns), .rf 6, .bo (.fz d.d), .bo (.fz (dN most)), .ow (.fz (.list ((arrs d.n).map dT))), .ow (.fz x), .ow t2], .fz (dT a), [.bo (scrO ns), .rf 6, .bo (.fz d.d), .bo (.fz (dN most)), .ow (.fz (.list ((arrs d.n).map dT))), .no, .ow t2], ?_, ?_, ?_, ⟨a, arrs_ok hain, rfl⟩, t2, ht2, rfl⟩
      · simp
      · simp [hsz, e2, -List.map_append]
      · simp)
  obtain ⟨row, rfl, hv⟩ := ex_list os g3
  refine ⟨row, town', ?_, ?_, hv, g4⟩
  · have hkb : -4611686018427387904 ≤ (kn : Int) ∧ (kn : Int) < 4611686018427387904 := by omega
    simp only [List.nil_append] at g1
    exact row_fun ns town town' d.d (dN most) (arrs d.n) _ m__law_arrivals c__law_row_0 ha (row_comp ns town t1 town' d.d most _ _ kn e hkb g1)
  · simp [rgD] at g2; omega
end Qz
namespace Qz
open PySem PySem.Spec PyProof.Rows L2
/-! ### desks: valid ones are so -/
theorem is_count_int (v a b : Int) : m_is_count [.fz (.int v), .fz (.int a), .fz (.int b)] = some (.fz (.bool (decide (a ≤ v) && decide (v ≤ b)))) := by
  by_cases h : a ≤ v <;> simp [m_is_count, mFun, f_is_count, Ty7.sub, h]
theorem are_counts_run (xs : List Nat) (a b l : Int) (hs : xs.length ≤ sizeLine) :
    c_are_counts_0 [.bo (.fz (dT xs)), .bo (.fz (.int a)), .bo (.fz (.int b)), .bo (.fz (.int l)), .no] =
      some (.ow (.ls (xs.map fun x : Nat => .fz (.bool (decide (a ≤ (x : Int)) && decide ((x : Int) ≤ b))))), [.bo (.fz (dT xs)), .bo (.fz (.int a)), .bo (.fz (.int b)), .bo (.fz (.int l)), .no]) := by
  unfold c_are_counts_0
  exact comp_map (enc := dN) _ (by simp; rfl) (by simp) hs fun x _ => ⟨_, by simp; rfl, by simp [is_count_int], by simp⟩
theorem are_counts_ok (xs : List Nat) (a b l : Int) (hs : xs.length ≤ 1000) : m_are_counts [.fz (dT xs), .fz (.int a), .fz (.int b), .fz (.int l)] = some (.fz (.bool (decide ((xs.length : Int) ≤ l) && xs.all fun x => decide (a ≤ (x : Int)) && decide ((x : Int) ≤ b)))) := by
  have hc := are_counts_run xs a b l (len_ok hs)
  unfold dT at hc ⊢
  by_cases h : (xs.length : Int) ≤ l
  · simp [m_are_counts, f_are_counts, mFun, Ty7.sub, h, hc, bools_map, Function.comp_def]
  · simp [m_are_counts, f_are_counts, mFun, Ty7.sub, h]
theorem is_rule_ok (r : Rule) (n : Nat) (h1 : 1 ≤ n) (h3 : n ≤ 3) (h : r.ok n) : m_is_rule [.fz r.d, .fz (dN n)] = some (.fz (.bool true)) := by
  cases r with
  | order xs =>
    have hp : xs.length = n := by have := h.length_eq; simpa using this
    have hm : ∀ i, i ∈ xs ↔ i < n := fun i => by rw [h.mem_iff]; simp
    have ha := are_counts_ok xs 0 ((n : Int) - 1) n (by omega)
    have hb : (decide ((xs.length : Int) ≤ n) && xs.all fun x => decide ((0 : Int) ≤ (x : Int)) && decide ((x : Int) ≤ (n : Int) - 1)) = true := by
      simp [hp]
      intro x hx
      have := (hm x).mp hx
      omega
    rw [hb] at ha
    have hs := sdI_all hm
    have h63 : xs.length ≤ 63 := by omega
    unfold dT at ha
    simp [m_is_rule, f_is_rule, mFun, Ty7.sub, Rule.d, dT, ha, gLenSet, tupInts, intsD_nat, hs, h63]
  | cycle xs =>
    obtain ⟨q1, q2, q3⟩ := h
    have hm : ∀ i, i ∈ xs ↔ i < n := fun i => ⟨q2 i, q3 i⟩
    have ha := are_counts_ok xs 0 ((n : Int) - 1) 6 (by omega)
    have hb : (decide ((xs.length : Int) ≤ 6) && xs.all fun x => decide ((0 : Int) ≤ (x : Int)) && decide ((x : Int) ≤ (n : Int) - 1)) = true := by
      simp
      refine ⟨by omega, fun x hx => ?_⟩
      have := q2 x hx
      omega
    rw [hb] at ha
    have hs := sdI_all hm
    have h63 : xs.length ≤ 63 := by omega
    unfold dT at ha
    simp [m_is_rule, f_is_rule, mFun, Ty7.sub, Rule.d, dT, ha, gLenSet, tupInts, intsD_nat, hs, h63]
  | points xs =>
    obtain ⟨q1, q2⟩ := h
    have ha := are_counts_ok xs 0 4 n (by omega)
    have hb : (decide ((xs.length : Int) ≤ n) && xs.all fun x => decide ((0 : Int) ≤ (x : Int)) && decide ((x : Int) ≤ 4)) = true := by
      simp
      refine ⟨by omega, fun x hx => ?_⟩
      have := q2 x hx
      omega
    rw [hb] at ha
    unfold dT at ha
    simp [m_is_rule, f_is_rule, mFun, Ty7.sub, Rule.d, dT, ha, q1]
  | round => simp [m_is_rule, f_is_rule, mFun, Ty7.sub, Rule.d]
  | oldest => simp [m_is_rule, f_is_rule, mFun, Ty7.sub, Rule.d]
  | longest => simp [m_is_rule, f_is_rule, mFun, Ty7.sub, Rule.d]
theorem is_desk_ok (d : Desk) (h : d.ok) : m_is_desk [.fz d.d] = some (.fz (.bool true)) := by
  obtain ⟨n, room, rule⟩ := d
  obtain ⟨h1, h2, h3, h4, h5, h6⟩ := h
  simp only at h1 h2 h3 h4 h5 h6
  have c1 := is_count_int n 1 3
  have c2 := is_count_int room 1 3
  have c3 := is_rule_ok rule n h1 h2 h6
  rw [show (decide ((1 : Int) ≤ n) && decide ((n : Int) ≤ 3)) = true by simp; omega] at c1
  rw [show (decide ((1 : Int) ≤ room) && decide ((room : Int) ≤ 3)) = true by simp; omega] at c2
  have hs : small64 (n : Int) = true := sm_true (by constructor <;> omega)
  have hm : (n : Int) * room ≤ 6 := by have : ((n * room : Nat) : Int) ≤ 6 := by omega
                                       simpa using this
  simp [m_is_desk, f_is_desk, mFun, Ty7.sub, Desk.d, c1, c2, c3, hs, hm]
theorem need_desk_ok (d : Desk) (h : d.ok) : m_need_desk [.fz d.d] = some (.fz .none) := by
  simp [m_need_desk, f_need_desk, mFun, is_desk_ok d h]
inductive RowO (row : List (List Nat)) : OV → Prop
  | ls : RowO row (.ls (row.map fun a => .fz (dT a)))
  | fz : RowO row (.fz (.list (row.map dT)))
  | tp : RowO row (.fz (.tuple (row.map dT)))
end Qz
namespace Qz
open PySem PySem.Spec PyProof.Rows L2
/-! ### running, in plain words -/
def qAt (qs : List (List Nat)) (l : Nat) : List Nat := qs.getD l []
def there (n : Nat) (qs : List (List Nat)) : List Nat := (List.range n).filter fun l => !(qAt qs l).isEmpty
def best (f : Nat → Nat) (x : Nat) (xs : List Nat) : Nat := xs.foldl (fun a l => if f a < f l ∨ (f a = f l ∧ l < a) then l else a) x
def bestOf (f : Nat → Nat) : List Nat → Nat
  | [] => 0
  | x :: xs => best f x xs
def turnR (n p : Nat) : List Nat := (List.range n).map fun s => (p + 1 + s) % n
def turnC (k p : Nat) : List Nat := (List.range k).map fun s => (p + s) % k
def slotC (xs ls : List Nat) (p : Nat) : Nat := ((turnC xs.length p).filter fun o => decide (xs.getD o 0 ∈ ls)).headD 0
def chosenF (d : Desk) (qs : List (List Nat)) (p : Nat) : Option Nat × Nat :=
  if there d.n qs = [] then (none, p) else match d.rule with
  | .order xs => (some ((xs.filter fun l => decide (l ∈ there d.n qs)).headD 0), p)
  | .round => (some (((turnR d.n p).filter fun l => decide (l ∈ there d.n qs)).headD 0), ((turnR d.n p).filter fun l => decide (l ∈ there d.n qs)).headD 0)
  | .cycle xs => (some (xs.getD (slotC xs (there d.n qs) p) 0), (slotC xs (there d.n qs) p + 1) % xs.length)
  | .longest => (some (bestOf (fun l => (qAt qs l).length) (there d.n qs)), p)
  | .points ps => (some (bestOf (fun l => ps.getD l 0 + (qAt qs l).headD 0) (there d.n qs)), p)
  | .oldest => (some (bestOf (fun l => 0 + (qAt qs l).headD 0) (there d.n qs)), p)
/-- a person comes -/
def come (room : Nat) (s : List (List Nat) × List Nat) (l : Nat) : List (List Nat) × List Nat :=
  if (qAt s.1 l).length < room then (s.1.set l (qAt s.1 l ++ [0]), s.2) else (s.1, s.2 ++ [l])
def older (qs : List (List Nat)) : List (List Nat) := qs.map fun q => q.map (· + 1)
def arrived (room : Nat) (qs : List (List Nat)) (a : List Nat) : List (List Nat) × List Nat := a.foldl (come room) (older qs, [])
structure Sit where
  qs : List (List Nat)
  p : Nat
structure Tick where
  line : Option Nat
  age : Option Nat
  away : List Nat
def Sit.d (s : Sit) : PyData := .tuple [.tuple (s.qs.map dT), dN s.p]
def Tick.d (t : Tick) : PyData := .tuple [dO t.line, dO t.age, .list (t.away.map dN)]
def leave (qs : List (List Nat)) : Option Nat → List (List Nat)
  | none => qs
  | some l => qs.set l (qAt qs l).tail
def ageOf (qs : List (List Nat)) : Option Nat → Option Nat
  | none => none
  | some l => some ((qAt qs l).headD 0)
def movedF (d : Desk) (s : Sit) (a : List Nat) : Sit × Tick :=
  let r := arrived d.room s.qs a
  let c := chosenF d r.1 s.p
  (⟨leave r.1 c.1, c.2⟩, ⟨c.1, ageOf r.1 c.1, r.2⟩)
def startF (d : Desk) : Sit := ⟨List.replicate d.n [], match d.rule with | .round => d.n - 1 | _ => 0⟩
def stepF (d : Desk) (s : Sit × List Tick) (a : List Nat) : Sit × List Tick := ((movedF d s.1 a).1, s.2 ++ [(movedF d s.1 a).2])
def ranF (d : Desk) (row : List (List Nat)) : Sit × List Tick := row.foldl (stepF d) (startF d, [])
/-! facts about choosing -/
theorem there_mem {n : Nat} {qs : List (List Nat)} {l : Nat} : l ∈ there n qs ↔ l < n ∧ qAt qs l ≠ [] := by
  unfold there
  simp
theorem filter_head {α : Type} {xs : List α} {p : α → Bool} {z : α} (h : ∃ x ∈ xs, p x = true) : ∃ r, (xs.filter p)[0]? = some ((xs.filter p).headD z) ∧ (xs.filter p).headD z = r ∧ r ∈ xs ∧ p r = true := by
  obtain ⟨x, hx, hp⟩ := h
  have : x ∈ xs.filter p := List.mem_filter.mpr ⟨hx, hp⟩
  cases e : xs.filter p with
  | nil => rw [e] at this; simp at this
  | cons y ys =>
    have hy : y ∈ xs.filter p := by rw [e]; simp
    have := List.mem_filter.mp hy
    exact ⟨y, rfl, rfl, this.1, this.2⟩
theorem turnR_mem {n p l : Nat} (h : l < n) : l ∈ turnR n p := by
  unfold turnR
  refine List.mem_map.mpr ⟨(l + (n - (p + 1) % n)) % n, List.mem_range.mpr (Nat.mod_lt _ (by omega)), ?_⟩
  have h1 : (p + 1) % n < n := Nat.mod_lt _ (by omega)
  rw [Nat.add_mod_mod, ← Nat.mod_add_mod, show (p + 1) % n + (l + (n - (p + 1) % n)) = l + n by omega, Nat.add_mod_right, Nat.mod_eq_of_lt h]
theorem turnC_mem {k p j : Nat} (h : j < k) : j ∈ turnC k p := by
  unfold turnC
  refine List.mem_map.mpr ⟨(j + (k - p % k)) % k, List.mem_range.mpr (Nat.mod_lt _ (by omega)), ?_⟩
  have h1 : p % k < k := Nat.mod_lt _ (by omega)
  rw [Nat.add_mod_mod, ← Nat.mod_add_mod, show p % k + (j + (k - p % k)) = j + k by omega, Nat.add_mod_right, Nat.mod_eq_of_lt h]
theorem turnR_lt {n p l : Nat} (h : l ∈ turnR n p) (hn : 0 < n) : l < n := by
  obtain ⟨s, _, rfl⟩ := List.mem_map.mp h
  exact Nat.mod_lt _ hn
theorem turnC_lt {k p l : Nat} (h : l ∈ turnC k p) (hn : 0 < k) : l < k := by
  obtain ⟨s, _, rfl⟩ := List.mem_map.mp h
  exact Nat.mod_lt _ hn
theorem best_mem (f : Nat → Nat) : ∀ (xs : List Nat) (x : Nat), best f x xs ∈ x :: xs
  | [], x => by simp [best]
  | y :: ys, x => by
    have ih := best_mem f ys (if f x < f y ∨ (f x = f y ∧ y < x) then y else x)
    have e : best f x (y :: ys) = best f (if f x < f y ∨ (f x = f y ∧ y < x) then y else x) ys := rfl
    rw [e]
    rcases List.mem_cons.mp ih with h | h
    · rw [h]
      split <;> simp
    · simp [h]
theorem bestOf_mem (f : Nat → Nat) {ls : List Nat} (h : ls ≠ []) : bestOf f ls ∈ ls := by
  cases ls with
  | nil => exact absurd rfl h
  | cons x xs => exact best_mem f xs x
def pairI (f : Nat → Nat) (l : Nat) : Int × Int := ((f l : Int), -(l : Int))
theorem maxP_best (f : Nat → Nat) : ∀ (xs : List Nat) (x : Nat), maxP (pairI f x) (xs.map (pairI f)) = pairI f (best f x xs)
  | [], x => rfl
  | y :: ys, x => by
    have e : best f x (y :: ys) = best f (if f x < f y ∨ (f x = f y ∧ y < x) then y else x) ys := rfl
    have e2 : maxP (pairI f x) ((y :: ys).map (pairI f)) = maxP (if ltP (pairI f x) (pairI f y) = true then pairI f y else pairI f x) (ys.map (pairI f)) := rfl
    have e3 : (if ltP (pairI f x) (pairI f y) = true then pairI f y else pairI f x) = pairI f (if f x < f y ∨ (f x = f y ∧ y < x) then y else x) := by
      have key : ltP (pairI f x) (pairI f y) = true ↔ (f x < f y ∨ (f x = f y ∧ y < x)) := by
        unfold ltP pairI
        simp only
        split <;> simp <;> omega
      by_cases h : f x < f y ∨ (f x = f y ∧ y < x)
      · rw [if_pos (key.mpr h), if_pos h]
      · rw [if_neg (fun q => h (key.mp q)), if_neg h]
    rw [e, e2, e3, maxP_best f ys]
theorem gMx_pairs {f : Nat → Nat} {ls : List Nat} (h : ls ≠ []) : gMx true (.nd .lst (ls.map fun l => .fz (prD2 (pairI f l)))) = some (.fr (prD2 (pairI f (bestOf f ls)))) := by
  cases ls with
  | nil => exact absurd rfl h
  | cons x xs =>
    unfold gMx
    rw [lkids_ls, frs_fzc]
    have e1 : intsD ((x :: xs).map fun l => prD2 (pairI f l)) = none := rfl
    have e2 : pairsD ((x :: xs).map fun l => prD2 (pairI f l)) = some (pairI f x :: xs.map (pairI f)) := by
      have := pairsD_map ((x :: xs).map (pairI f))
      rwa [List.map_map] at this
    simp only [e1, e2, if_true]
    rw [maxP_best]; rfl
/-! loops that carry what is known -/
theorem forL_rel {α β : Type} {t : Tg} {f : FS} {enc : α → PyData} (R : β → Sta → Prop) (step : β → α → β) : ∀ (xs : List α) (s : β) (L : Sta), R s L → (∀ x ∈ xs, ∀ s L, R s L → ∃ M L', asg t (enc x) L = some M ∧ f M = some (.nx, L') ∧ R (step s x) L') →
    ∃ L', forL t f (xs.map enc) L = some (.nx, L') ∧ R (xs.foldl step s) L'
  | [], s, L, hL, _ => ⟨L, rfl, hL⟩
  | x :: xs, s, L, hL, h => by
    obtain ⟨M, L', h1, h2, h3⟩ := h x (by simp) s L hL
    obtain ⟨L2, h4, h5⟩ := forL_rel R step xs (step s x) L' h3 fun y hy => h y (by simp [hy])
    refine ⟨L2, ?_, h5⟩
    rw [List.map_cons]
    unfold forL
    rw [h1]
    simp only [h2, h4]
/-- a slot that holds nothing, or frozen data -/
inductive Lo : SV → Prop
  | no : Lo .no
  | fz {d : PyData} : Lo (.ow (.fz d))
@[simp] theorem eqv_dT_nil {xs : List Nat} : PyData.eqv (dT xs) (.tuple []) = xs.isEmpty := by
  cases xs <;> simp [dT]
theorem compF {α : Type} {src : FI} {t : Tg} {tt : FT} {te : FE} {vs : List Nat} (xs : List α) (enc : α → PyData) (b : α → Bool) (o : α → OV) {L L0 : Sta} (hs : src L = some (xs.map enc, L)) (hw : wipeS L vs = some L0) (hl : xs.length ≤ 1000)
    (h : ∀ x ∈ xs, ∃ M, asg t (enc x) L0 = some M ∧ tt M = some (b x, M) ∧ (b x = true → fArgs [te] M = some ([o x], M)) ∧ wipeS M vs = some L0) : fComp src t vs tt te L = some (.ow (.ls ((xs.filter b).map o)), L0) := comp_filter _ hs hw (len_ok hl) h
theorem compM {α : Type} {src : FI} {t : Tg} {te : FE} {vs : List Nat} (xs : List α) (enc : α → PyData) (o : α → OV) {L L0 : Sta} (hs : src L = some (xs.map enc, L)) (hw : wipeS L vs = some L0) (hl : xs.length ≤ 1000)
    (h : ∀ x ∈ xs, ∃ M, asg t (enc x) L0 = some M ∧ fArgs [te] M = some ([o x], M) ∧ wipeS M vs = some L0) : fComp src t vs fYes te L = some (.ow (.ls (xs.map o)), L0) := comp_map _ hs hw (len_ok hl) h
@[simp] theorem kids_desk {d : Desk} : kids (.fz d.d) = some (true, [dN d.n, dN d.room, d.rule.d]) := rfl
@[simp] theorem kids_sit {s : Sit} : kids (.fz s.d) = some (true, [.tuple (s.qs.map dT), dN s.p]) := rfl
theorem any_dN (l : Nat) (ls : List Nat) : ((ls.map dN).any fun z => PyData.eqv z (dN l)) = decide (l ∈ ls) := by
  induction ls with
  | nil => simp
  | cons x xs ih =>
    rw [List.map_cons, List.any_cons, ih, eqv_dN]
    by_cases h : x = l
    · simp [h]
    · have : ¬ l = x := fun q => h q.symm
      simp [h, this]
@[simp 2000] theorem gIn_nat {n : Bool} {l : Nat} {ls : List Nat} : gInB n (.fz (.int (l : Int))) (.fz (.list (ls.map dN))) = some (.fr (.bool (if n then !decide (l ∈ ls) else decide (l ∈ ls)))) := by
  rw [gInB_fzL, rdat_fz]
  have h2 : SeqAt.shaped (.list (ls.map dN)) = true := okD_shaped (by simp)
  have h1 : SeqAt.shaped (.int (l : Int)) = true := okD_shaped (by simp)
  simp only [h1, h2, Bool.and_self, if_true, any_dN l ls]
theorem rule_len {n : Nat} {xs : List Nat} (h : (Rule.cycle xs).ok n) (h1 : 1 ≤ n) : 0 < xs.length := by
  have := h.2.2 0 (by omega)
  cases xs with
  | nil => simp at this
  | cons _ _ => simp
@[simp] theorem any_dNc (l : Nat) (ls : List Nat) : (ls.any ((fun z => PyData.eqv z (dN l)) ∘ dN)) = decide (l ∈ ls) := by
  rw [← any_dN l ls, List.any_map]
@[simp] theorem kids_prD2 {q : Int × Int} : kids (.fz (prD2 q)) = some (true, [.int q.1, .int q.2]) := rfl
@[simp] theorem pairI_snd {f : Nat → Nat} {l : Nat} : (pairI f l).2 = -(l : Int) := rfl
@[simp] theorem gAdd_dT0 {q : List Nat} : gAdd (.fz (dT q)) (.fz (.tuple [.int 0])) = if q.length + 1 ≤ sizeLine then some (.fr (dT (q ++ [0]))) else none := by
  unfold dT
  rw [gAdd_tup]
  simp only [List.length_map, List.length_cons, List.length_nil, List.map_append, List.map_cons, List.map_nil]
  rfl
theorem cut1D (ds : List PyData) : cutD ds (some 1) none = ds.tail := by
  unfold cutD
  rw [show HT.sIx ds.length 0 (some 1) = min 1 ds.length from HT.sIx_nat ds.length 0 1, HT.sIx_none]
  cases ds with
  | nil => rfl
  | cons d ds => simp [Nat.min_eq_left]
theorem ixN_nat {n l : Nat} (h : l < n) : ixN n (l : Int) = some l := by
  unfold ixN
  rw [if_pos (by omega), if_pos (by omega)]; simp
theorem dT_tail (q : List Nat) : dT q.tail = .tuple (q.map dN).tail := by
  cases q <;> simp [dT]
theorem chosenF_mem {d : Desk} (h : d.ok) {qs : List (List Nat)} {p l : Nat} (e : (chosenF d qs p).1 = some l) : l ∈ there d.n qs := by
  unfold chosenF at e
  split at e
  · cases e
  · rename_i he
    obtain ⟨x0, hx0⟩ : ∃ x, x ∈ there d.n qs := by
      cases e : there d.n qs with
      | nil => exact absurd e he
      | cons x _ => exact ⟨x, by simp⟩
    have hx0n := (there_mem.mp hx0).1
    have hru := h.ru
    cases hr : d.rule with
    | order xs =>
      rw [hr] at e hru
      obtain ⟨r, f1, f2, f3, f4⟩ := filter_head (xs := xs) (p := fun l => decide (l ∈ there d.n qs)) (z := 0) ⟨x0, hru.mem_iff.mpr (List.mem_range.mpr hx0n), by simpa using hx0⟩
      simp only [Option.some.injEq] at e
      rw [f2] at e; subst e; simpa using f4
    | round =>
      rw [hr] at e
      obtain ⟨r, f1, f2, f3, f4⟩ := filter_head (xs := turnR d.n p) (p := fun l => decide (l ∈ there d.n qs)) (z := 0) ⟨x0, turnR_mem hx0n, by simpa using hx0⟩
      simp only [Option.some.injEq] at e
      rw [f2] at e; subst e; simpa using f4
    | cycle xs =>
      rw [hr] at e hru
      obtain ⟨j, hj, ej⟩ := List.getElem_of_mem (hru.2.2 x0 hx0n)
      obtain ⟨r, f1, f2, f3, f4⟩ := filter_head (xs := turnC xs.length p) (p := fun o => decide (xs.getD o 0 ∈ there d.n qs)) (z := 0) ⟨j, turnC_mem hj, by simp [List.getD, List.getElem?_eq_getElem hj, ej, hx0]⟩
      simp only [Option.some.injEq, slotC] at e
      rw [f2] at e; subst e; exact of_decide_eq_true f4
    | longest =>
      rw [hr] at e
      simp only [Option.some.injEq] at e
      rw [← e]; exact bestOf_mem _ he
    | points ps =>
      rw [hr] at e
      simp only [Option.some.injEq] at e
      rw [← e]; exact bestOf_mem _ he
    | oldest =>
      rw [hr] at e
      simp only [Option.some.injEq] at e
      rw [← e]; exact bestOf_mem _ he
/-! what stays true -/
structure SitOk (d : Desk) (s : Sit) : Prop where
  len : s.qs.length = d.n
  room : ∀ q ∈ s.qs, q.length ≤ d.room
theorem come_ok {n room : Nat} {r : List (List Nat) × List Nat} {l : Nat} (h1 : r.1.length = n) (h2 : ∀ q ∈ r.1, q.length ≤ room) : (come room r l).1.length = n ∧ ∀ q ∈ (come room r l).1, q.length ≤ room := by
  unfold come
  split
  · rename_i h
    refine ⟨by simpa using h1, fun q hq => ?_⟩
    rcases List.mem_or_eq_of_mem_set hq with hm | hm
    · exact h2 q hm
    · subst hm; simp; omega
  · exact ⟨h1, h2⟩
theorem come_away {room : Nat} {r : List (List Nat) × List Nat} {l : Nat} : (come room r l).2.length ≤ r.2.length + 1 := by
  unfold come
  split <;> simp
@[simp] theorem frs_set {α : Type} {e : α → PyData} {xs : List α} {l : Nat} {d : PyData} : frs ((xs.map fun x => .fz (e x)).set l (.fz d)) = some ((xs.map e).set l d) := by
  have : ((xs.map fun x => OV.fz (e x)).set l (.fz d)) = ((xs.map e).set l d).map .fz := by rw [List.map_set, List.map_map]; rfl
  rw [this, frs_map]
@[simp] theorem dats_set {α : Type} {e : α → PyData} {xs : List α} {l : Nat} {d : PyData} : OV.dats ((xs.map fun x => .fz (e x)).set l (.fz d)) = some ((xs.map e).set l d) := by
  have : ((xs.map fun x => OV.fz (e x)).set l (.fz d)) = ((xs.map e).set l d).map .fz := by rw [List.map_set, List.map_map]; rfl
  rw [this, dats_fz]
end Qz
namespace Qz
open PySem PySem.Spec PyProof.Rows L2
/-! ### running: what the functions compute -/
theorem start_of_ok (d : Desk) (h : d.ok) : m_start_of [.fz d.d] = some (.fz (startF d).d) := by
  obtain ⟨n, room, rule⟩ := d
  have h1 := h.n1; have h3 := h.n3
  simp only at h1 h3
  have hm : gMul (.fz (.tuple [.tuple []])) (.fz (.int n)) = some (.fr (.tuple ((List.replicate n []).map dT))) := by
    rcases (show n = 1 ∨ n = 2 ∨ n = 3 by omega) with rfl | rfl | rfl
    · rfl
    · simp [repD, dT]
    · simp [repD, dT]
  have hsub : (n : Int) - 1 = ((n - 1 : Nat) : Int) := by omega
  cases rule <;> simp [m_start_of, f_start_of, mFun, Desk.d, Rule.d, hm, startF, Sit.d, hsub, -gMul_tup]
/-- the state of chosen, behind its first row -/
abbrev chS (d : Desk) (qs : List (List Nat)) (p : Nat) (s3 s4 s5 s6 s9 s10 s11 : SV) : Sta := [.bo (.fz d.d), .bo (.ls (qs.map fun q => .fz (dT q))), .bo (.fz (dN p)), s3, s4, s5, s6, .no, .no, s9, s10, s11]
theorem chosen_0 (d : Desk) (qs : List (List Nat)) (hq : qs.length = d.n) (h3 : d.n ≤ 3) (p : Nat) :
    c_chosen_0 (chS d qs p .no .no .no .no .no .no .no) = some (.ow (.ls ((there d.n qs).map fun l => .fz (dN l))), chS d qs p .no .no .no .no .no .no .no) := by
  unfold c_chosen_0
  refine compF (List.range d.n) dN (fun l => !(qAt qs l).isEmpty) (fun l => .fz (dN l)) ?_ (by simp) (by simp; omega) fun x hx => ?_
  · have : sm (-(2 ^ 62) ≤ (d.n : Int) ∧ (d.n : Int) < 2 ^ 62) = true := sm_true (by omega)
    simp at this
    simp [this, rgD]
  · have hx' : x < qs.length := by have := List.mem_range.mp hx; omega
    have e : qAt qs x = qs[x] := by simp [qAt, List.getD, List.getElem?_eq_getElem hx']
    exact ⟨_, by simp; rfl, by simp [hx', e], fun _ => by simp, by simp⟩
section
variable {d : Desk} {qs : List (List Nat)} {p : Nat} {w : PyData} {ls : List Nat}
theorem chosen_1 {xs : List Nat} (hr : d.rule = .order xs) (hx : xs.length ≤ 1000) :
    c_chosen_1 (chS d qs p (.ow (.fz w)) (.ow (.fz (.list (ls.map dN)))) .no .no .no .no .no) = some (.ow (.ls ((xs.filter fun l => decide (l ∈ ls)).map fun l => .fz (dN l))), chS d qs p (.ow (.fz w)) (.ow (.fz (.list (ls.map dN)))) .no .no .no .no .no) := by
  unfold c_chosen_1
  refine compF xs dN (fun l => decide (l ∈ ls)) (fun l => .fz (dN l)) ?_ (by simp) hx fun x hx => ?_
  · simp [hr, Rule.d]
  · exact ⟨_, by simp; rfl, by simp, fun _ => by simp, by simp⟩
theorem chosen_2 (h1 : 1 ≤ d.n) (h3 : d.n ≤ 3) :
    c_chosen_2 (chS d qs p (.ow (.fz w)) (.ow (.fz (.list (ls.map dN)))) .no .no .no .no .no) = some (.ow (.ls ((turnR d.n p).map fun l => .fz (dN l))), chS d qs p (.ow (.fz w)) (.ow (.fz (.list (ls.map dN)))) .no .no .no .no .no) := by
  unfold c_chosen_2 turnR
  rw [List.map_map]
  refine compM (List.range d.n) dN (fun s => .fz (dN ((p + 1 + s) % d.n))) ?_ (by simp) (by simp; omega) fun x hx => ?_
  · have : sm (-(2 ^ 62) ≤ (d.n : Int) ∧ (d.n : Int) < 2 ^ 62) = true := sm_true (by omega)
    simp at this
    simp [this, rgD]
  · have h0 : (0 : Int) < (d.n : Int) := by omega
    exact ⟨_, by simp; rfl, by simp [show 0 < d.n by omega], by simp⟩
theorem chosen_3 {ts : List Nat} (ht : ts.length ≤ 1000) :
    c_chosen_3 (chS d qs p (.ow (.fz w)) (.ow (.fz (.list (ls.map dN)))) .no (.ow (.fz (.list (ts.map dN)))) .no .no .no) = some (.ow (.ls ((ts.filter fun l => decide (l ∈ ls)).map fun l => .fz (dN l))), chS d qs p (.ow (.fz w)) (.ow (.fz (.list (ls.map dN)))) .no (.ow (.fz (.list (ts.map dN)))) .no .no .no) := by
  unfold c_chosen_3
  refine compF ts dN (fun l => decide (l ∈ ls)) (fun l => .fz (dN l)) (by simp) (by simp) ht fun x hx => ?_
  exact ⟨_, by simp; rfl, by simp, fun _ => by simp, by simp⟩
theorem chosen_4 {xs : List Nat} (h0 : 0 < xs.length) (hx : xs.length ≤ 1000) :
    c_chosen_4 (chS d qs p (.ow (.fz w)) (.ow (.fz (.list (ls.map dN)))) .no .no (.ow (.fz (dT xs))) .no .no) = some (.ow (.ls ((turnC xs.length p).map fun l => .fz (dN l))), chS d qs p (.ow (.fz w)) (.ow (.fz (.list (ls.map dN)))) .no .no (.ow (.fz (dT xs))) .no .no) := by
  unfold c_chosen_4 turnC
  rw [List.map_map]
  refine compM (List.range xs.length) dN (fun s => .fz (dN ((p + s) % xs.length))) ?_ (by simp) (by simp; omega) fun x hx => ?_
  · have : sm (-(2 ^ 62) ≤ (xs.length : Int) ∧ (xs.length : Int) < 2 ^ 62) = true := sm_true (by omega)
    simp at this
    simp [this, rgD]
  · exact ⟨_, by simp; rfl, by simp [h0], by simp⟩
theorem chosen_5 {xs ts : List Nat} (hx : ts.length ≤ 1000) (ht : ∀ o ∈ ts, o < xs.length) :
    c_chosen_5 (chS d qs p (.ow (.fz w)) (.ow (.fz (.list (ls.map dN)))) .no (.ow (.fz (.list (ts.map dN)))) (.ow (.fz (dT xs))) .no .no) = some (.ow (.ls ((ts.filter fun o => decide (xs.getD o 0 ∈ ls)).map fun l => .fz (dN l))), chS d qs p (.ow (.fz w)) (.ow (.fz (.list (ls.map dN)))) .no (.ow (.fz (.list (ts.map dN)))) (.ow (.fz (dT xs))) .no .no) := by
  unfold c_chosen_5
  refine compF ts dN (fun o => decide (xs.getD o 0 ∈ ls)) (fun l => .fz (dN l)) (by simp) (by simp) hx fun x hx => ?_
  have hl := ht x hx
  exact ⟨_, by simp; rfl, by simp [hl], fun _ => by simp, by simp⟩
theorem chosen_6 (hl : ls.length ≤ 1000) (hq : ∀ l ∈ ls, l < qs.length) :
    c_chosen_6 (chS d qs p (.ow (.fz w)) (.ow (.fz (.list (ls.map dN)))) .no .no .no .no .no) = some (.ow (.ls (ls.map fun l => .fz (prD2 (pairI (fun l => (qAt qs l).length) l)))), chS d qs p (.ow (.fz w)) (.ow (.fz (.list (ls.map dN)))) .no .no .no .no .no) := by
  unfold c_chosen_6
  refine compM ls dN (fun l => .fz (prD2 (pairI (fun l => (qAt qs l).length) l))) (by simp) (by simp) hl fun x hx => ?_
  have hx' := hq x hx
  exact ⟨_, by simp; rfl, by simp [hx', prD2, pairI, qAt, List.getD, List.getElem?_eq_getElem hx'], by simp⟩
theorem chosen_7 {ps : List Nat} (hl : ls.length ≤ 1000) (hq : ∀ l ∈ ls, l < qs.length ∧ l < ps.length ∧ qAt qs l ≠ []) :
    c_chosen_7 (chS d qs p (.ow (.fz w)) (.ow (.fz (.list (ls.map dN)))) .no .no .no .no (.ow (.fz (dT ps)))) = some (.ow (.ls (ls.map fun l => .fz (prD2 (pairI (fun l => ps.getD l 0 + (qAt qs l).headD 0) l)))), chS d qs p (.ow (.fz w)) (.ow (.fz (.list (ls.map dN)))) .no .no .no .no (.ow (.fz (dT ps)))) := by
  unfold c_chosen_7
  refine compM ls dN (fun l => .fz (prD2 (pairI (fun l => ps.getD l 0 + (qAt qs l).headD 0) l))) (by simp) (by simp) hl fun x hx => ?_
  obtain ⟨hx', hp, hne⟩ := hq x hx
  have e : qAt qs x = qs[x] := by simp [qAt, List.getD, List.getElem?_eq_getElem hx']
  cases hh : qs[x] with
  | nil => rw [e, hh] at hne; exact absurd rfl hne
  | cons y ys => exact ⟨_, by simp; rfl, by simp [hx', hp, prD2, pairI, e, hh, dT], by simp⟩
end
theorem there_len (n : Nat) (qs : List (List Nat)) : (there n qs).length ≤ n := by
  unfold there
  have := List.length_filter_le (fun l => !(qAt qs l).isEmpty) (List.range n)
  simpa using this
theorem chosen_ok (d : Desk) (h : d.ok) (qs : List (List Nat)) (hq : qs.length = d.n) (p : Nat) :
    m_chosen [.fz d.d, .ls (qs.map fun q => .fz (dT q)), .fz (dN p)] = some (.fz (.tuple [dO (chosenF d qs p).1, dN (chosenF d qs p).2])) := by
  have h1 := h.n1; have h3 := h.n3
  have c0 := chosen_0 d qs hq h3 p
  have hl : (there d.n qs).length ≤ 1000 := by have := there_len d.n qs; omega
  have hsm : small64 (-1) = true := sm_true (by decide)
  by_cases he : there d.n qs = []
  · rw [he] at c0
    simp only [List.map_nil] at c0
    cases hr : d.rule <;> simp [m_chosen, f_chosen, mFun, c0, chosenF, he, hr, Rule.d]
  · have hne : (there d.n qs).isEmpty = false := by
      cases e : there d.n qs with
      | nil => exact absurd e he
      | cons _ _ => rfl
    obtain ⟨x0, hx0⟩ : ∃ x, x ∈ there d.n qs := by
      cases e : there d.n qs with
      | nil => exact absurd e he
      | cons x _ => exact ⟨x, by simp⟩
    have hx0n := (there_mem.mp hx0).1
    unfold chosenF
    rw [if_neg he]
    cases hr : d.rule with
    | order xs =>
      have hok : xs.Perm (List.range d.n) := by have := h.ru; rw [hr] at this; exact this
      have hxl : xs.length ≤ 1000 := by have := hok.length_eq; simp at this; omega
      have c1 := chosen_1 (d := d) (qs := qs) (p := p) (w := .str "order") (ls := there d.n qs) hr hxl
      obtain ⟨r, f1, f2, f3, f4⟩ := filter_head (xs := xs) (p := fun l => decide (l ∈ there d.n qs)) (z := 0) ⟨x0, hok.mem_iff.mpr (List.mem_range.mpr hx0n), by simpa using hx0⟩
      simp [m_chosen, f_chosen, mFun, c0, hr, Rule.d, hne, c1, f1]
    | round =>
      have htl : (turnR d.n p).length ≤ 1000 := by simp [turnR]; omega
      have c2 := chosen_2 (d := d) (qs := qs) (p := p) (w := .str "round") (ls := there d.n qs) h1 h3
      have c3 := chosen_3 (d := d) (qs := qs) (p := p) (w := .str "round") (ls := there d.n qs) htl
      obtain ⟨r, f1, f2, f3, f4⟩ := filter_head (xs := turnR d.n p) (p := fun l => decide (l ∈ there d.n qs)) (z := 0) ⟨x0, turnR_mem hx0n, by simpa using hx0⟩
      simp [m_chosen, f_chosen, mFun, c0, hr, Rule.d, hne, c2, c3, f1]
    | cycle xs =>
      have hok := h.ru
      rw [hr] at hok
      have hp := rule_len hok h1
      have hxl : xs.length ≤ 1000 := by have := hok.1; omega
      have htl : (turnC xs.length p).length ≤ 1000 := by simp [turnC]; omega
      have c4 := chosen_4 (d := d) (qs := qs) (p := p) (w := .str "cycle") (ls := there d.n qs) hp hxl
      have c5 := chosen_5 (d := d) (qs := qs) (p := p) (w := .str "cycle") (ls := there d.n qs) (xs := xs) htl (fun o ho => turnC_lt ho hp)
      obtain ⟨j, hj, ej⟩ := List.getElem_of_mem (hok.2.2 x0 hx0n)
      obtain ⟨r, f1, f2, f3, f4⟩ := filter_head (xs := turnC xs.length p) (p := fun o => decide (xs.getD o 0 ∈ there d.n qs)) (z := 0) ⟨j, turnC_mem hj, by simp [List.getD, List.getElem?_eq_getElem hj, ej, hx0]⟩
      have hsl : slotC xs (there d.n qs) p < xs.length := by unfold slotC; rw [f2]; exact turnC_lt f3 hp
      change _ = some (slotC xs (there d.n qs) p) at f1
      have hg : xs[slotC xs (there d.n qs) p]? = some (xs.getD (slotC xs (there d.n qs) p) 0) := by simp [List.getD, List.getElem?_eq_getElem hsl]
      simp [m_chosen, f_chosen, mFun, c0, hr, Rule.d, hne, c4, c5, f1, hg, hp, -List.getD_eq_getElem?_getD, -List.headD_eq_head?_getD]
    | longest =>
      have c6 := chosen_6 (d := d) (qs := qs) (p := p) (w := .str "longest") (ls := there d.n qs) hl (fun l hm => by rw [hq]; exact (there_mem.mp hm).1)
      have hg := gMx_pairs (f := fun l => (qAt qs l).length) he
      simp [m_chosen, f_chosen, mFun, c0, hr, Rule.d, hne, c6, hg, hsm]
    | points ps =>
      have hok := h.ru
      rw [hr] at hok
      have c7 := chosen_7 (d := d) (qs := qs) (p := p) (w := .str "points") (ls := there d.n qs) (ps := ps) hl (fun l hm => by rw [hq, hok.1]; exact ⟨(there_mem.mp hm).1, (there_mem.mp hm).1, (there_mem.mp hm).2⟩)
      have hg := gMx_pairs (f := fun l => ps.getD l 0 + (qAt qs l).headD 0) he
      simp [m_chosen, f_chosen, mFun, c0, hr, Rule.d, hne, c7, hg, hsm, -List.getD_eq_getElem?_getD, -List.headD_eq_head?_getD]
    | oldest =>
      have c7 := chosen_7 (d := d) (qs := qs) (p := p) (w := .str "oldest") (ls := there d.n qs) (ps := List.replicate d.n 0) hl (fun l hm => by rw [hq, List.length_replicate]; exact ⟨(there_mem.mp hm).1, (there_mem.mp hm).1, (there_mem.mp hm).2⟩)
      have hf : (fun l => (List.replicate d.n 0).getD l 0 + (qAt qs l).headD 0) = (fun l => 0 + (qAt qs l).headD 0) := by
        funext l
        have : (List.replicate d.n 0).getD l 0 = 0 := by
          by_cases hl : l < d.n <;> simp [List.getD, List.getElem?_replicate, hl]
        rw [this]
      have hm : gMul (.fz (.tuple [.int 0])) (.fz (.int d.n)) = some (.fr (dT (List.replicate d.n 0))) := by
        rcases (show d.n = 1 ∨ d.n = 2 ∨ d.n = 3 by omega) with e | e | e <;> rw [e]
        · rfl
        · simp [repD, dT]
        · simp [repD, dT]
      have hg := gMx_pairs (f := fun l => (List.replicate d.n 0).getD l 0 + (qAt qs l).headD 0) he
      rw [hf] at hg c7
      simp [m_chosen, f_chosen, mFun, c0, hr, Rule.d, hne, c7, hg, hm, hsm, -gMul_tup, -List.getD_eq_getElem?_getD, -List.headD_eq_head?_getD, -Nat.zero_add]
/-! moved -/
theorem moved_0 (d : Desk) (s : Sit) (a : List Nat) (q : List Nat) (hq : q.length ≤ 1000) (x3 x4 x7 x8 : SV) (h3 : Lo x3) (h4 : Lo x4) (h7 : Lo x7) (h8 : Lo x8) :
    c_moved_0 [.bo (.fz d.d), .bo (.fz s.d), .bo (.fz (dT a)), x3, x4, .ow (.fz (dT q)), .no, x7, x8] = some (.ow (.ls (q.map fun n => .fz (dN (n + 1)))), [.bo (.fz d.d), .bo (.fz s.d), .bo (.fz (dT a)), x3, x4, .ow (.fz (dT q)), .no, x7, x8]) := by
  unfold c_moved_0
  cases h3 <;> cases h4 <;> cases h7 <;> cases h8 <;> exact compM q dN (fun n => .fz (dN (n + 1))) (by simp) (by simp) hq fun x _ => ⟨_, by simp; rfl, by simp, by simp⟩
theorem moved_1 (d : Desk) (s : Sit) (a : List Nat) (hs : s.qs.length ≤ 1000) (hq : ∀ q ∈ s.qs, q.length ≤ 1000) :
    c_moved_1 [.bo (.fz d.d), .bo (.fz s.d), .bo (.fz (dT a)), .no, .no, .no, .no, .no, .no] = some (.ow (.ls ((older s.qs).map fun q => .fz (dT q))), [.bo (.fz d.d), .bo (.fz s.d), .bo (.fz (dT a)), .no, .no, .no, .no, .no, .no]) := by
  unfold c_moved_1 older
  rw [List.map_map]
  refine compM s.qs dT (fun q => .fz (dT (q.map (· + 1)))) (by simp) (by simp) hs fun q hm => ⟨_, by simp; rfl, ?_, by simp⟩
  have := moved_0 d s a q (hq q hm) .no .no .no .no .no .no .no .no
  have e : dT (q.map (· + 1)) = .tuple (q.map fun n => dN (n + 1)) := by simp [dT, Function.comp_def]
  simp [this, e]
/-- the state in the loop of moved -/
def MvR (d : Desk) (s : Sit) (a : List Nat) (k : Nat) (r : List (List Nat) × List Nat) (L : Sta) : Prop := r.1.length = d.n ∧ (∀ q ∈ r.1, q.length ≤ d.room) ∧
  ∃ v, Lo v ∧ L = [.bo (.fz d.d), .bo (.fz s.d), .bo (.fz (dT a)), .ow (.ls (r.1.map fun q => .fz (dT q))), .ow (.ls (r.2.map fun l => .fz (dN l))), .no, .no, v, .no]
theorem moved_body (d : Desk) (h : d.ok) (s : Sit) (a : List Nat) (l : Nat) (hl : l < d.n) (r : List (List Nat) × List Nat) (h1 : r.1.length = d.n) (h2 : ∀ q ∈ r.1, q.length ≤ d.room) (h4 : r.2.length < 900) :
    l_moved_0 [.bo (.fz d.d), .bo (.fz s.d), .bo (.fz (dT a)), .ow (.ls (r.1.map fun q => .fz (dT q))), .ow (.ls (r.2.map fun l => .fz (dN l))), .no, .no, .ow (.fz (dN l)), .no] =
      some (.nx, [.bo (.fz d.d), .bo (.fz s.d), .bo (.fz (dT a)), .ow (.ls ((come d.room r l).1.map fun q => .fz (dT q))), .ow (.ls ((come d.room r l).2.map fun l => .fz (dN l))), .no, .no, .ow (.fz (dN l)), .no]) := by
  have hl' : l < r.1.length := by omega
  have e : qAt r.1 l = r.1[l] := by simp [qAt, List.getD, List.getElem?_eq_getElem hl']
  have hz := h2 r.1[l] (List.getElem_mem hl')
  have hr3 := h.r3
  have hx := ixN_nat hl'
  have hs1 : r.1[l].length + 1 ≤ sizeLine := by rw [sizeLine_eq]; omega
  have hs2 : r.2.length < sizeLine := by rw [sizeLine_eq]; omega
  unfold come
  rw [e]
  by_cases hc : r.1[l].length < d.room
  · simp [l_moved_0, hl', hc, hx, hs1]
  · simp [l_moved_0, hl', hc, hs2]
theorem moved_loop (d : Desk) (h : d.ok) (s : Sit) (hs : SitOk d s) (a : List Nat) (ha : ArrOk d.n a) :
    ∃ v, Lo v ∧ forL (.nm 7) l_moved_0 (a.map dN) [.bo (.fz d.d), .bo (.fz s.d), .bo (.fz (dT a)), .ow (.ls ((older s.qs).map fun q => .fz (dT q))), .ow (.ls []), .no, .no, .no, .no] =
      some (.nx, [.bo (.fz d.d), .bo (.fz s.d), .bo (.fz (dT a)), .ow (.ls ((arrived d.room s.qs a).1.map fun q => .fz (dT q))), .ow (.ls ((arrived d.room s.qs a).2.map fun l => .fz (dN l))), .no, .no, v, .no]) ∧
      (arrived d.room s.qs a).1.length = d.n ∧ (∀ q ∈ (arrived d.room s.qs a).1, q.length ≤ d.room) ∧ (arrived d.room s.qs a).2.length ≤ a.length := by
  have hal := arr_len ha
  have h3 := h.n3
  have go : ∀ (xs : List Nat) (r : List (List Nat) × List Nat) (v : SV), (∀ x ∈ xs, x < d.n) → xs.length + r.2.length < 900 → r.1.length = d.n → (∀ q ∈ r.1, q.length ≤ d.room) → Lo v →
      ∃ v2, Lo v2 ∧ forL (.nm 7) l_moved_0 (xs.map dN) [.bo (.fz d.d), .bo (.fz s.d), .bo (.fz (dT a)), .ow (.ls (r.1.map fun q => .fz (dT q))), .ow (.ls (r.2.map fun l => .fz (dN l))), .no, .no, v, .no] =
      some (.nx, [.bo (.fz d.d), .bo (.fz s.d), .bo (.fz (dT a)), .ow (.ls ((xs.foldl (come d.room) r).1.map fun q => .fz (dT q))), .ow (.ls ((xs.foldl (come d.room) r).2.map fun l => .fz (dN l))), .no, .no, v2, .no]) ∧
      (xs.foldl (come d.room) r).1.length = d.n ∧ (∀ q ∈ (xs.foldl (come d.room) r).1, q.length ≤ d.room) ∧ (xs.foldl (come d.room) r).2.length ≤ xs.length + r.2.length := by
    intro xs
    induction xs with
    | nil => intro r v _ _ h1 h2 hv; exact ⟨v, hv, rfl, h1, h2, by simp⟩
    | cons x xs ih =>
      intro r v hx hl h1 h2 hv
      have hb := moved_body d h s a x (hx x (by simp)) r h1 h2 (by simp at hl; omega)
      have ho := come_ok (l := x) h1 h2
      have hw := come_away (room := d.room) (r := r) (l := x)
      obtain ⟨v', hv', g1, g2, g3, g4⟩ := ih (come d.room r x) (.ow (.fz (dN x))) (fun y hy => hx y (by simp [hy])) (by simp at hl; omega) ho.1 ho.2 .fz
      refine ⟨v', hv', ?_, g2, g3, by simp only [List.foldl_cons, List.length_cons]; omega⟩
      rw [List.map_cons, List.foldl_cons]
      unfold forL
      have ha : asg (.nm 7) (dN x) [.bo (.fz d.d), .bo (.fz s.d), .bo (.fz (dT a)), .ow (.ls (r.1.map fun q => .fz (dT q))), .ow (.ls (r.2.map fun l => .fz (dN l))), .no, .no, v, .no] = some [.bo (.fz d.d), .bo (.fz s.d), .bo (.fz (dT a)), .ow (.ls (r.1.map fun q => .fz (dT q))), .ow (.ls (r.2.map fun l => .fz (dN l))), .no, .no, .ow (.fz (dN x)), .no] := by
        cases hv <;> simp
      rw [ha]
      simp only [hb]
      exact g1
  obtain ⟨v, hv, g1, g2, g3, g4⟩ := go a (older s.qs, []) .no ha.lt (by simp; omega) (by simp [older, hs.len]) (fun q hq => by
    obtain ⟨q', hq', rfl⟩ := List.mem_map.mp hq
    simpa using hs.room q' hq') .no
  exact ⟨v, hv, g1, g2, g3, by simpa [arrived] using g4⟩
theorem sit_mk {qs : List (List Nat)} {p : Nat} : (Sit.mk qs p).d = .tuple [.tuple (qs.map dT), dN p] := rfl
theorem moved_ok (d : Desk) (h : d.ok) (s : Sit) (hs : SitOk d s) (a : List Nat) (ha : ArrOk d.n a) :
    m_moved [.fz d.d, .fz s.d, .fz (dT a)] = some (.fz (.tuple [(movedF d s a).1.d, dO (movedF d s a).2.line, dO (movedF d s a).2.age, .list ((movedF d s a).2.away.map dN)])) := by
  have h3 := h.n3; have hr3 := h.r3
  have c1 := moved_1 d s a (by have := hs.len; omega) (fun q hq => by have := hs.room q hq; omega)
  obtain ⟨v, hv, g1, g2, g3, g4⟩ := moved_loop d h s hs a ha
  have c2 := chosen_ok d h (arrived d.room s.qs a).1 g2 s.p
  have hm : ∀ l, (chosenF d (arrived d.room s.qs a).1 s.p).1 = some l → l ∈ there d.n (arrived d.room s.qs a).1 := fun l e => chosenF_mem h e
  show _ = some (OV.fz (.tuple [(Sit.mk (leave (arrived d.room s.qs a).1 (chosenF d (arrived d.room s.qs a).1 s.p).1) (chosenF d (arrived d.room s.qs a).1 s.p).2).d, dO (chosenF d (arrived d.room s.qs a).1 s.p).1, dO (ageOf (arrived d.room s.qs a).1 (chosenF d (arrived d.room s.qs a).1 s.p).1), .list ((arrived d.room s.qs a).2.map dN)]))
  generalize hR : arrived d.room s.qs a = r at *
  generalize hC : chosenF d r.1 s.p = c at *
  obtain ⟨cl, cp⟩ := c
  cases cl with
  | none =>
    cases hv <;> simp [m_moved, f_moved, mFun, c1, g1, c2, leave, ageOf, sit_mk]
  | some l =>
    have hl := there_mem.mp (hm l rfl)
    have hl' : l < r.1.length := by omega
    have e : qAt r.1 l = r.1[l] := by simp [qAt, List.getD, List.getElem?_eq_getElem hl']
    rw [e] at hl
    have hx := ixN_nat hl'
    cases hh : r.1[l] with
    | nil => exact absurd hh hl.2
    | cons y ys =>
      have ec : cutD ((dN y :: ys.map dN)) (some 1) none = ys.map dN := cut1D _
      cases hv <;> simp [m_moved, f_moved, mFun, c1, g1, c2, leave, ageOf, sit_mk, hl', hx, hh, e, ec, show PyData.tuple (ys.map dN) = dT ys from rfl]
theorem arrived_ok {d : Desk} {s : Sit} (hs : SitOk d s) (a : List Nat) : (arrived d.room s.qs a).1.length = d.n ∧ ∀ q ∈ (arrived d.room s.qs a).1, q.length ≤ d.room := by
  unfold arrived
  have go : ∀ (xs : List Nat) (r : List (List Nat) × List Nat), r.1.length = d.n → (∀ q ∈ r.1, q.length ≤ d.room) → (xs.foldl (come d.room) r).1.length = d.n ∧ ∀ q ∈ (xs.foldl (come d.room) r).1, q.length ≤ d.room := by
    intro xs
    induction xs with
    | nil => intro r h1 h2; exact ⟨h1, h2⟩
    | cons x xs ih => intro r h1 h2; exact ih _ (come_ok h1 h2).1 (come_ok h1 h2).2
  refine go a _ (by simp [older, hs.len]) fun q hq => ?_
  obtain ⟨q', hq', rfl⟩ := List.mem_map.mp hq
  simpa using hs.room q' hq'
theorem moved_sit {d : Desk} {s : Sit} (hs : SitOk d s) (a : List Nat) : SitOk d (movedF d s a).1 := by
  obtain ⟨h1, h2⟩ := arrived_ok hs a
  show SitOk d ⟨leave (arrived d.room s.qs a).1 (chosenF d (arrived d.room s.qs a).1 s.p).1, _⟩
  cases (chosenF d (arrived d.room s.qs a).1 s.p).1 with
  | none => exact ⟨h1, h2⟩
  | some l =>
    refine ⟨by simpa [leave] using h1, fun q hq => ?_⟩
    rcases List.mem_or_eq_of_mem_set hq with hm | hm
    · exact h2 q hm
    · subst hm
      by_cases hl : l < (arrived d.room s.qs a).1.length
      · have := h2 (arrived d.room s.qs a).1[l] (List.getElem_mem hl)
        simp [qAt, List.getD, List.getElem?_eq_getElem hl]
        omega
      · simp [qAt, List.getD, List.getElem?_eq_none (show (arrived d.room s.qs a).1.length ≤ l by omega)]
theorem start_sit (d : Desk) : SitOk d (startF d) := ⟨by simp [startF], fun q hq => by
  have := List.eq_of_mem_replicate hq
  subst this; simp⟩
end Qz
namespace Qz
open PySem PySem.Spec PyProof.Rows L2
/-- who is turned away, with the ticks -/
def awayF : Nat → List Tick → List (Nat × Nat)
  | _, [] => []
  | k, t :: ts => (t.away.map fun l => (k, l)) ++ awayF (k + 1) ts
def dP (q : Nat × Nat) : PyData := .tuple [dN q.1, dN q.2]
theorem arrived_away {room : Nat} {qs : List (List Nat)} (a : List Nat) : (arrived room qs a).2.length ≤ a.length := by
  unfold arrived
  have go : ∀ (xs : List Nat) (r : List (List Nat) × List Nat), (xs.foldl (come room) r).2.length ≤ xs.length + r.2.length := by
    intro xs
    induction xs with
    | nil => intro r; simp
    | cons x xs ih =>
      intro r
      have h1 := ih (come room r x)
      have h2 := come_away (room := room) (r := r) (l := x)
      simp only [List.foldl_cons, List.length_cons]
      omega
  have := go a (older qs, [])
  simpa using this
theorem ran_away (d : Desk) (row : List (List Nat)) (hr : ∀ a ∈ row, ArrOk d.n a) (h3 : d.n ≤ 3) : ∀ t ∈ (ranF d row).2, t.away.length ≤ 3 := by
  unfold ranF
  have go : ∀ (xs : List (List Nat)) (r : Sit × List Tick), (∀ a ∈ xs, ArrOk d.n a) → (∀ t ∈ r.2, t.away.length ≤ 3) → ∀ t ∈ (xs.foldl (stepF d) r).2, t.away.length ≤ 3 := by
    intro xs
    induction xs with
    | nil => intro r _ h; exact h
    | cons x xs ih =>
      intro r hx h
      refine ih _ (fun a ha => hx a (by simp [ha])) fun t ht => ?_
      rcases List.mem_append.mp ht with q | q
      · exact h t q
      · have : t = (movedF d r.1 x).2 := by simpa using q
        subst this
        have h1 := arrived_away (room := d.room) (qs := r.1.qs) x
        have h2 := arr_len (hx x (by simp))
        show (arrived d.room r.1.qs x).2.length ≤ 3
        omega
  exact go row _ hr (by simp)
end Qz
namespace Qz
open PySem PySem.Spec PyProof.Rows L2
/-! ### slots that hold nothing that matters -/
def gb : Option PyData → SV
  | none => .no
  | some d => .ow (.fz d)
@[simp] theorem noRef_gb {x : Option PyData} {L : Sta} {k : Nat} : noRef (gb x :: L) k = noRef L k := by cases x <;> simp [gb]
theorem gb_no : SV.no = gb none := rfl
theorem gb_fz {d : PyData} : SV.ow (.fz d) = gb (some d) := rfl
/-! ### the least of pairs -/
theorem ltP_iff {p q : Int × Int} : ltP p q = true ↔ p.1 < q.1 ∨ (p.1 = q.1 ∧ p.2 < q.2) := by
  unfold ltP
  split
  · rename_i h; simp [h]
  · rename_i h; simp; omega
theorem minP_spec : ∀ (xs : List (Int × Int)) (x : Int × Int), minP x xs ∈ x :: xs ∧ ∀ y ∈ x :: xs, ltP y (minP x xs) = false
  | [], x => by
    refine ⟨by simp [minP], fun y hy => ?_⟩
    simp at hy
    subst hy
    cases h : ltP y (minP y []) with
    | false => rfl
    | true => have := ltP_iff.mp h; simp [minP] at this
  | z :: zs, x => by
    have e : minP x (z :: zs) = minP (if ltP z x = true then z else x) zs := rfl
    obtain ⟨h1, h2⟩ := minP_spec zs (if ltP z x = true then z else x)
    rw [e]
    refine ⟨?_, fun y hy => ?_⟩
    · rcases List.mem_cons.mp h1 with h | h
      · rw [h]; split <;> simp
      · simp [h]
    · by_cases hc : ltP z x = true
      · rw [if_pos hc] at h2 ⊢
        have hz := h2 z (by simp)
        rcases List.mem_cons.mp hy with rfl | hy
        · cases h : ltP y (minP z zs) with
          | false => rfl
          | true =>
            have a := ltP_iff.mp h
            have b := ltP_iff.mp hc
            have : ltP z (minP z zs) = true := ltP_iff.mpr (by omega)
            rw [hz] at this; cases this
        · exact h2 y hy
      · rw [if_neg hc] at h2 ⊢
        have hz := h2 x (by simp)
        rcases List.mem_cons.mp hy with rfl | hy
        · exact hz
        · rcases List.mem_cons.mp hy with rfl | hy
          · cases h : ltP y (minP x zs) with
            | false => rfl
            | true =>
              have a := ltP_iff.mp h
              have b : ¬ (y.1 < x.1 ∨ (y.1 = x.1 ∧ y.2 < x.2)) := fun q => hc (ltP_iff.mpr q)
              have : ltP x (minP x zs) = true := ltP_iff.mpr (by omega)
              rw [hz] at this; cases this
          · exact h2 y (by simp [hy])
def ngP (p : Int × Int) : Int × Int := (-p.1, -p.2)
theorem ltP_ng {p q : Int × Int} : ltP (ngP p) (ngP q) = ltP q p := by
  have : ltP (ngP p) (ngP q) = true ↔ ltP q p = true := by
    rw [ltP_iff, ltP_iff]
    simp only [ngP]
    omega
  cases h : ltP q p <;> cases h' : ltP (ngP p) (ngP q) <;> simp_all
theorem minP_ng : ∀ (xs : List (Int × Int)) (x : Int × Int), minP (ngP x) (xs.map ngP) = ngP (maxP x xs)
  | [], x => rfl
  | z :: zs, x => by
    have e : minP (ngP x) ((z :: zs).map ngP) = minP (if ltP (ngP z) (ngP x) = true then ngP z else ngP x) (zs.map ngP) := rfl
    have e2 : maxP x (z :: zs) = maxP (if ltP x z = true then z else x) zs := rfl
    rw [e, e2, ltP_ng, ← minP_ng zs]
    split <;> rfl
theorem gMn_run {α : Type} {g : α → Int × Int} {x : α} {xs : List α} : gMx false (.nd .lst ((x :: xs).map fun l => .fz (prD2 (g l)))) = some (.fr (prD2 (minP (g x) (xs.map g)))) := by
  unfold gMx
  rw [lkids_ls, frs_fzc]
  have e1 : intsD ((x :: xs).map fun l => prD2 (g l)) = none := rfl
  have e2 : pairsD ((x :: xs).map fun l => prD2 (g l)) = some (g x :: xs.map g) := by
    have := pairsD_map ((x :: xs).map g)
    rwa [List.map_map] at this
  simp only [e1, e2]
  rfl
/-- by what is greatest -/
theorem gMn_best {f : Nat → Nat} {ls : List Nat} (h : ls ≠ []) : gMx false (.nd .lst (ls.map fun l => .fz (prD2 (-(f l : Int), (l : Int))))) = some (.fr (prD2 (-(f (bestOf f ls) : Int), (bestOf f ls : Int)))) := by
  cases ls with
  | nil => exact absurd rfl h
  | cons x xs =>
    have hg : (fun l : Nat => (-(f l : Int), (l : Int))) = fun l => ngP (pairI f l) := by funext l; simp [ngP, pairI]
    have e : ∀ l : Nat, (-(f l : Int), (l : Int)) = ngP (pairI f l) := fun l => congrFun hg l
    have := gMn_run (g := fun l => ngP (pairI f l)) (x := x) (xs := xs)
    simp only [e]
    rw [this]
    have e3 : xs.map (fun l => ngP (pairI f l)) = (xs.map (pairI f)).map ngP := by rw [List.map_map]; rfl
    rw [e3, minP_ng, maxP_best]
    rfl
/-- by the least key -/
theorem gMn_key {key : Nat → Nat} {ls : List Nat} (h : ls ≠ []) : ∃ m, m ∈ ls ∧ (∀ l ∈ ls, key m ≤ key l) ∧ gMx false (.nd .lst (ls.map fun l => .fz (prD2 ((key l : Int), (l : Int))))) = some (.fr (prD2 ((key m : Int), (m : Int)))) := by
  cases ls with
  | nil => exact absurd rfl h
  | cons x xs =>
    have e := gMn_run (g := fun l : Nat => ((key l : Int), (l : Int))) (x := x) (xs := xs)
    obtain ⟨h1, h2⟩ := minP_spec (xs.map fun l : Nat => ((key l : Int), (l : Int))) ((key x : Int), (x : Int))
    have h1' : minP ((key x : Int), (x : Int)) (xs.map fun l : Nat => ((key l : Int), (l : Int))) ∈ (x :: xs).map fun l : Nat => ((key l : Int), (l : Int)) := h1
    obtain ⟨m, hm, em⟩ := List.mem_map.mp h1'
    refine ⟨m, hm, fun l hl => ?_, ?_⟩
    · have := h2 ((key l : Int), (l : Int)) (by
        show _ ∈ (x :: xs).map fun l : Nat => ((key l : Int), (l : Int))
        exact List.mem_map.mpr ⟨l, hl, rfl⟩)
      rw [← em] at this
      have hn : ¬ (((key l : Int)) < key m ∨ ((key l : Int) = key m ∧ (l : Int) < m)) := fun q => by
        have := (ltP_iff (p := ((key l : Int), (l : Int))) (q := ((key m : Int), (m : Int)))).mpr q
        simp_all
      omega
    · rw [e, ← em]
theorem first_key {n m : Nat} {g key : Nat → Nat} {P : Nat → Bool} {ls : List Nat} (hm : m ∈ ls) (hmin : ∀ l ∈ ls, key m ≤ key l) (hlt : key m < n) (hgk : g (key m) = m) (hkg : ∀ s, s < n → key (g s) = s) (hP : ∀ s, s < n → (P (g s) = true ↔ g s ∈ ls)) :
    (((List.range n).map g).filter P).headD 0 = m := by
  have e : List.range n = List.range (key m) ++ (List.range (n - key m)).map (key m + ·) := by
    rw [← List.range_add]; congr 1; omega
  rw [e, List.map_append, List.filter_append]
  have e1 : ((List.range (key m)).map g).filter P = [] := by
    refine List.filter_eq_nil_iff.mpr fun x hx => ?_
    obtain ⟨s, hs, rfl⟩ := List.mem_map.mp hx
    have hs' := List.mem_range.mp hs
    intro hp
    have := hmin _ ((hP s (by omega)).mp hp)
    rw [hkg s (by omega)] at this
    omega
  rw [e1, List.nil_append]
  obtain ⟨k, hk⟩ : ∃ k, n - key m = k + 1 := ⟨n - key m - 1, by omega⟩
  rw [hk, List.range_succ_eq_map, List.map_cons, List.map_cons, Nat.add_zero, hgk, List.filter_cons_of_pos]
  · rfl
  · have := (hP (key m) hlt).mpr (by rw [hgk]; exact hm)
    rwa [hgk] at this
/-- the place in a turn -/
def keyT (n q l : Nat) : Nat := (l + (n - q % n)) % n
theorem keyT_lt {n q l : Nat} (h : 0 < n) : keyT n q l < n := Nat.mod_lt _ h
theorem keyT_back {n q l : Nat} (hl : l < n) : (q + keyT n q l) % n = l := by
  have h1 : q % n < n := Nat.mod_lt _ (by omega)
  unfold keyT
  rw [Nat.add_mod_mod, ← Nat.mod_add_mod, show q % n + (l + (n - q % n)) = l + n by omega, Nat.add_mod_right, Nat.mod_eq_of_lt hl]
theorem keyT_of {n q s : Nat} (hs : s < n) : keyT n q ((q + s) % n) = s := by
  have h1 : q % n < n := Nat.mod_lt _ (by omega)
  unfold keyT
  rw [Nat.mod_add_mod, show q + s + (n - q % n) = (q + (s + (n - q % n))) by omega, ← Nat.mod_add_mod, show q % n + (s + (n - q % n)) = s + n by omega, Nat.add_mod_right, Nat.mod_eq_of_lt hs]
theorem keyT_int {n q l : Nat} (h : 0 < n) : ((l : Int) - q) % (n : Int) = (keyT n q l : Nat) := by
  unfold keyT
  rw [Int.natCast_emod, Int.emod_eq_emod_iff_emod_sub_eq_zero]
  have h1 : q % n < n := Nat.mod_lt _ h
  have h2 : (q : Int) = n * (q / n : Nat) + (q % n : Nat) := by
    have := Nat.div_add_mod q n
    omega
  have : (l : Int) - q - ((l + (n - q % n) : Nat) : Int) = n * (-(q / n : Nat) - 1) := by
    rw [Int.natCast_add, Int.natCast_sub (by omega), h2, Int.mul_sub, Int.mul_neg]
    omega
  rw [this, Int.mul_emod_right]
end Qz
namespace Qz
open PySem PySem.Spec PyProof.Rows L2
/-! ### facts about running -/
def tks (d : Desk) : Sit → List (List Nat) → List Tick
  | _, [] => []
  | s, a :: r => (movedF d s a).2 :: tks d (movedF d s a).1 r
def sts (d : Desk) : Sit → List (List Nat) → Sit
  | s, [] => s
  | s, a :: r => sts d (movedF d s a).1 r
theorem fold_step (d : Desk) : ∀ (row : List (List Nat)) (s : Sit) (ts : List Tick), row.foldl (stepF d) (s, ts) = (sts d s row, ts ++ tks d s row)
  | [], s, ts => by simp [sts, tks]
  | a :: r, s, ts => by
    rw [List.foldl_cons]
    show r.foldl (stepF d) ((movedF d s a).1, ts ++ [(movedF d s a).2]) = _
    rw [fold_step d r]
    simp [sts, tks]
theorem ranF_eq (d : Desk) (row : List (List Nat)) : ranF d row = (sts d (startF d) row, tks d (startF d) row) := by
  unfold ranF
  rw [fold_step]; simp
theorem tk_len (d : Desk) : ∀ (row : List (List Nat)) (s : Sit), (tks d s row).length = row.length
  | [], _ => rfl
  | a :: r, s => by simp [tks, tk_len d r]
theorem tk_take (d : Desk) : ∀ (row : List (List Nat)) (s : Sit) (k : Nat), tks d s (row.take k) = (tks d s row).take k
  | [], s, k => by simp [tks]
  | a :: r, s, 0 => by simp [tks]
  | a :: r, s, k + 1 => by simp [tks, tk_take d r]
theorem tk_get (d : Desk) : ∀ (row : List (List Nat)) (s : Sit) (k : Nat) (a : List Nat), row[k]? = some a → (tks d s row)[k]? = some (movedF d (sts d s (row.take k)) a).2
  | [], s, k, a, h => by simp at h
  | b :: r, s, 0, a, h => by simp at h; subst h; simp [tks, sts]
  | b :: r, s, k + 1, a, h => by simpa [tks, sts] using tk_get d r (movedF d s b).1 k a (by simpa using h)
theorem st_sit {d : Desk} : ∀ (row : List (List Nat)) (s : Sit), SitOk d s → SitOk d (sts d s row)
  | [], _, h => h
  | a :: r, s, h => st_sit r _ (moved_sit h a)
/-! how many wait -/
def tot (qs : List (List Nat)) : Nat := (qs.map List.length).sum
theorem tot_set : ∀ (qs : List (List Nat)) (l : Nat) (q : List Nat), l < qs.length → tot (qs.set l q) + (qAt qs l).length = tot qs + q.length
  | [], l, q, h => by simp at h
  | x :: xs, 0, q, _ => by simp [tot, qAt]; omega
  | x :: xs, l + 1, q, h => by
    have ih := tot_set xs l q (by simpa using h)
    have e : qAt (x :: xs) (l + 1) = qAt xs l := by simp [qAt]
    rw [e]
    simp [tot] at ih ⊢
    omega
theorem come_tot {room : Nat} {r : List (List Nat) × List Nat} {l : Nat} (h : l < r.1.length) : tot (come room r l).1 + (come room r l).2.length = tot r.1 + r.2.length + 1 := by
  unfold come
  split
  · have := tot_set r.1 l (qAt r.1 l ++ [0]) h
    simp at this ⊢
    omega
  · simp; omega
theorem come_len {room : Nat} {r : List (List Nat) × List Nat} {l : Nat} : (come room r l).1.length = r.1.length := by
  unfold come
  split <;> simp
theorem fold_tot {room : Nat} : ∀ (a : List Nat) (r : List (List Nat) × List Nat), (∀ x ∈ a, x < r.1.length) → tot (a.foldl (come room) r).1 + (a.foldl (come room) r).2.length = tot r.1 + r.2.length + a.length
  | [], r, _ => by simp
  | x :: xs, r, h => by
    rw [List.foldl_cons, fold_tot xs _ (fun y hy => by rw [come_len]; exact h y (by simp [hy])), come_tot (h x (by simp))]
    simp; omega
theorem older_tot (qs : List (List Nat)) : tot (older qs) = tot qs := by
  unfold tot older
  rw [List.map_map]
  congr 1
  refine List.map_congr_left fun q _ => ?_
  simp
theorem arrived_tot {d : Desk} {s : Sit} (hs : SitOk d s) {a : List Nat} (ha : ArrOk d.n a) : tot (arrived d.room s.qs a).1 + (arrived d.room s.qs a).2.length = tot s.qs + a.length := by
  unfold arrived
  rw [fold_tot a _ (fun x hx => by simp [older, hs.len]; exact ha.lt x hx), older_tot]
  simp
theorem tot_zero : ∀ (qs : List (List Nat)), tot qs = 0 ↔ ∀ q ∈ qs, q = []
  | [] => by simp [tot]
  | x :: xs => by
    have := tot_zero xs
    simp only [tot, List.map_cons, List.sum_cons, List.mem_cons, forall_eq_or_imp] at this ⊢
    rw [← this]
    constructor
    · intro h
      exact ⟨List.length_eq_zero_iff.mp (by omega), by omega⟩
    · rintro ⟨h1, h2⟩
      subst h1
      simpa using h2
theorem there_nil {n : Nat} {qs : List (List Nat)} (h : qs.length = n) : there n qs = [] ↔ tot qs = 0 := by
  rw [tot_zero]
  constructor
  · intro e q hq
    obtain ⟨l, hl, rfl⟩ := List.getElem_of_mem hq
    cases hq2 : qs[l] with
    | nil => rfl
    | cons y ys =>
      have : l ∈ there n qs := there_mem.mpr ⟨by omega, by simp [qAt, List.getD, List.getElem?_eq_getElem hl, hq2]⟩
      rw [e] at this; simp at this
  · intro e
    cases ht : there n qs with
    | nil => rfl
    | cons l ls =>
      have hm : l ∈ there n qs := by rw [ht]; simp
      obtain ⟨h1, h2⟩ := there_mem.mp hm
      have hl : l < qs.length := by omega
      exact absurd (by simpa [qAt, List.getD, List.getElem?_eq_getElem hl] using e _ (List.getElem_mem hl)) h2
theorem chosenF_none {d : Desk} {qs : List (List Nat)} {p : Nat} : (chosenF d qs p).1 = none ↔ there d.n qs = [] := by
  unfold chosenF
  split
  · rename_i h; simp [h]
  · rename_i h
    cases d.rule <;> simp [h]
theorem moved_none {d : Desk} {s : Sit} (hs : SitOk d s) {a : List Nat} (ha : ArrOk d.n a) : (movedF d s a).2.line = none ↔ tot s.qs + a.length = (movedF d s a).2.away.length := by
  show (chosenF d (arrived d.room s.qs a).1 s.p).1 = none ↔ tot s.qs + a.length = (arrived d.room s.qs a).2.length
  have h1 := arrived_tot hs ha
  rw [chosenF_none, there_nil (arrived_ok hs a).1]
  omega
theorem moved_tot {d : Desk} (h : d.ok) {s : Sit} (hs : SitOk d s) {a : List Nat} (ha : ArrOk d.n a) : tot (movedF d s a).1.qs = tot s.qs + a.length - (movedF d s a).2.away.length - 1 := by
  show tot (leave (arrived d.room s.qs a).1 (chosenF d (arrived d.room s.qs a).1 s.p).1) = tot s.qs + a.length - (arrived d.room s.qs a).2.length - 1
  have h1 := arrived_tot hs ha
  have h2 := arrived_ok hs a
  cases e : (chosenF d (arrived d.room s.qs a).1 s.p).1 with
  | none =>
    have := (there_nil h2.1).mp (chosenF_none.mp e)
    show tot (arrived d.room s.qs a).1 = _
    omega
  | some l =>
    obtain ⟨g1, g2⟩ := there_mem.mp (chosenF_mem h e)
    have := tot_set (arrived d.room s.qs a).1 l (qAt (arrived d.room s.qs a).1 l).tail (by omega)
    show tot ((arrived d.room s.qs a).1.set l (qAt (arrived d.room s.qs a).1 l).tail) = _
    have hp : 0 < (qAt (arrived d.room s.qs a).1 l).length := List.length_pos_iff.mpr g2
    rw [List.length_tail] at this
    omega
theorem moved_age {d : Desk} {s : Sit} {a : List Nat} : (movedF d s a).2.age.isSome = (movedF d s a).2.line.isSome := by
  show (ageOf _ (chosenF d (arrived d.room s.qs a).1 s.p).1).isSome = (chosenF d (arrived d.room s.qs a).1 s.p).1.isSome
  cases (chosenF d (arrived d.room s.qs a).1 s.p).1 <;> rfl
/-! first come, first served -/
theorem qAt_set {qs : List (List Nat)} {l own : Nat} {q : List Nat} (h : l < qs.length) : qAt (qs.set l q) own = if l = own then q else qAt qs own := by
  unfold qAt
  by_cases e : l = own
  · subst e; simp [List.getD, h]
  · simp [List.getD, List.getElem?_set, e]
theorem come_qAt {room : Nat} {r : List (List Nat) × List Nat} {l own : Nat} (h : l < r.1.length) : qAt (come room r l).1 own = if l = own ∧ (qAt r.1 own).length < room then qAt r.1 own ++ [0] else qAt r.1 own := by
  unfold come
  split
  · rename_i hc
    rw [qAt_set h]
    by_cases e : l = own
    · subst e; simp [hc]
    · simp [e]
  · rename_i hc
    by_cases e : l = own
    · subst e; simp [hc]
    · simp [e]
theorem come_mem {room : Nat} {r : List (List Nat) × List Nat} {l own : Nat} : own ∈ (come room r l).2 ↔ own ∈ r.2 ∨ (l = own ∧ ¬ (qAt r.1 own).length < room) := by
  unfold come
  split
  · rename_i hc
    constructor
    · exact .inl
    · rintro (q | ⟨rfl, q⟩)
      · exact q
      · exact absurd hc q
  · rename_i hc
    simp only [List.mem_append, List.mem_singleton]
    constructor
    · rintro (q | rfl)
      · exact .inl q
      · exact .inr ⟨rfl, hc⟩
    · rintro (q | ⟨rfl, q⟩)
      · exact .inl q
      · exact .inr rfl
theorem fold_out {room own : Nat} : ∀ (xs : List Nat) (r : List (List Nat) × List Nat), (∀ x ∈ xs, x < r.1.length) → own ∉ xs → qAt (xs.foldl (come room) r).1 own = qAt r.1 own ∧ (own ∈ (xs.foldl (come room) r).2 ↔ own ∈ r.2)
  | [], r, _, _ => ⟨rfl, .rfl⟩
  | x :: xs, r, h, ho => by
    have hx : x ≠ own := fun e => ho (by simp [e])
    have h1 := fold_out (room := room) (own := own) xs (come room r x) (fun y hy => by rw [come_len]; exact h y (by simp [hy])) (fun e => ho (by simp [e]))
    rw [come_qAt (h x (by simp)), come_mem] at h1
    simpa [hx] using h1
theorem fold_in {room own : Nat} : ∀ (xs : List Nat) (r : List (List Nat) × List Nat), (∀ x ∈ xs, x < r.1.length) → xs.Nodup → own ∈ xs → own ∉ r.2 →
    qAt (xs.foldl (come room) r).1 own = qAt r.1 own ++ (if own ∈ (xs.foldl (come room) r).2 then [] else [0])
  | [], r, _, _, h, _ => by simp at h
  | x :: xs, r, h, hn, ho, hr => by
    have hn' := List.nodup_cons.mp hn
    have hb : ∀ y ∈ xs, y < (come room r x).1.length := fun y hy => by rw [come_len]; exact h y (by simp [hy])
    rw [List.foldl_cons]
    by_cases e : x = own
    · subst e
      obtain ⟨h1, h2⟩ := fold_out (room := room) xs (come room r x) hb hn'.1
      rw [h1, come_qAt (h x (by simp))]
      by_cases hc : (qAt r.1 x).length < room
      · have : x ∉ (xs.foldl (come room) (come room r x)).2 := fun q => by
          rcases come_mem.mp (h2.mp q) with q | q
          · exact hr q
          · exact q.2 hc
        simp [hc, this]
      · have : x ∈ (xs.foldl (come room) (come room r x)).2 := h2.mpr (come_mem.mpr (.inr ⟨rfl, hc⟩))
        simp [hc, this]
    · have ho' : own ∈ xs := by
        rcases List.mem_cons.mp ho with q | q
        · exact absurd q.symm e
        · exact q
      rw [fold_in xs (come room r x) hb hn'.2 ho' (fun q => by
        rcases come_mem.mp q with q | q
        · exact hr q
        · exact e q.1), come_qAt (h x (by simp))]
      simp [e]
theorem qAt_older (qs : List (List Nat)) (own : Nat) : qAt (older qs) own = (qAt qs own).map (· + 1) := by
  unfold qAt older
  rw [List.getD, List.getElem?_map, List.getD]
  cases qs[own]? <;> rfl
theorem arrived_qAt {d : Desk} {s : Sit} (hs : SitOk d s) {a : List Nat} (ha : ArrOk d.n a) (own : Nat) :
    qAt (arrived d.room s.qs a).1 own = (qAt s.qs own).map (· + 1) ++ (if own ∈ a ∧ own ∉ (arrived d.room s.qs a).2 then [0] else []) := by
  have hb : ∀ x ∈ a, x < (older s.qs, ([] : List Nat)).1.length := fun x hx => by simp [older, hs.len]; exact ha.lt x hx
  unfold arrived
  by_cases e : own ∈ a
  · rw [fold_in a _ hb (ha.up.imp fun h => by omega) e (by simp)]
    simp only [qAt_older, e, true_and]
    split <;> simp_all
  · rw [(fold_out a _ hb e).1]
    simp [qAt_older, e]
/-- the ticks in which those came who wait -/
def qa (k : Nat) (q : List Nat) : List Int := q.map fun (x : Nat) => (k : Int) - 1 - x
theorem tick_fifo {d : Desk} (h : d.ok) {s : Sit} (hs : SitOk d s) {a : List Nat} (ha : ArrOk d.n a) (own k : Nat) :
    qa k (qAt s.qs own) ++ (if own ∈ a ∧ own ∉ (movedF d s a).2.away then [(k : Int)] else []) = (if (movedF d s a).2.line = some own then [(k : Int) - ((movedF d s a).2.age.getD 0 : Nat)] else []) ++ qa (k + 1) (qAt (movedF d s a).1.qs own) := by
  show qa k (qAt s.qs own) ++ (if own ∈ a ∧ own ∉ (arrived d.room s.qs a).2 then [(k : Int)] else []) =
    (if (chosenF d (arrived d.room s.qs a).1 s.p).1 = some own then [(k : Int) - ((ageOf (arrived d.room s.qs a).1 (chosenF d (arrived d.room s.qs a).1 s.p).1).getD 0 : Nat)] else []) ++ qa (k + 1) (qAt (leave (arrived d.room s.qs a).1 (chosenF d (arrived d.room s.qs a).1 s.p).1) own)
  have h1 := arrived_qAt hs ha own
  have h2 := arrived_ok hs a
  have e1 : qa k (qAt s.qs own) ++ (if own ∈ a ∧ own ∉ (arrived d.room s.qs a).2 then [(k : Int)] else []) = qa (k + 1) (qAt (arrived d.room s.qs a).1 own) := by
    rw [h1]
    unfold qa
    rw [List.map_append, List.map_map]
    congr 1
    · refine List.map_congr_left fun x _ => ?_
      simp; omega
    · split
      · simp
      · rfl
  rw [e1]
  cases e : (chosenF d (arrived d.room s.qs a).1 s.p).1 with
  | none => simp [leave]
  | some l =>
    obtain ⟨g1, g2⟩ := there_mem.mp (chosenF_mem h e)
    have hl : l < (arrived d.room s.qs a).1.length := by omega
    simp only [leave, ageOf, Option.getD_some, Option.some.injEq]
    rw [qAt_set hl]
    by_cases hc : l = own
    · subst hc
      cases hq : qAt (arrived d.room s.qs a).1 l with
      | nil => exact absurd hq g2
      | cons y ys => simp [qa]
    · simp [hc]
/-- no age is above the number of ticks -/
def AgeB (k : Nat) (s : Sit) : Prop := ∀ own, ∀ x ∈ qAt s.qs own, x < k
theorem tick_age {d : Desk} (h : d.ok) {s : Sit} (hs : SitOk d s) {a : List Nat} (ha : ArrOk d.n a) {k : Nat} (hk : AgeB k s) : (∀ x, (movedF d s a).2.age = some x → x ≤ k) ∧ AgeB (k + 1) (movedF d s a).1 := by
  have h2 := arrived_ok hs a
  have hb : ∀ own, ∀ x ∈ qAt (arrived d.room s.qs a).1 own, x < k + 1 := fun own x hx => by
    rw [arrived_qAt hs ha own] at hx
    rcases List.mem_append.mp hx with q | q
    · obtain ⟨y, hy, rfl⟩ := List.mem_map.mp q
      have := hk own y hy
      omega
    · split at q
      · simp at q; omega
      · simp at q
  show (∀ x, ageOf (arrived d.room s.qs a).1 (chosenF d (arrived d.room s.qs a).1 s.p).1 = some x → x ≤ k) ∧ AgeB (k + 1) ⟨leave (arrived d.room s.qs a).1 (chosenF d (arrived d.room s.qs a).1 s.p).1, _⟩
  cases e : (chosenF d (arrived d.room s.qs a).1 s.p).1 with
  | none => exact ⟨fun x hx => by simp [ageOf] at hx, hb⟩
  | some l =>
    obtain ⟨g1, g2⟩ := there_mem.mp (chosenF_mem h e)
    have hl : l < (arrived d.room s.qs a).1.length := by omega
    refine ⟨fun x hx => ?_, fun own x hx => ?_⟩
    · simp only [ageOf, Option.some.injEq] at hx
      cases hq : qAt (arrived d.room s.qs a).1 l with
      | nil => exact absurd hq g2
      | cons y ys =>
        rw [hq] at hx
        simp at hx
        have := hb l y (by rw [hq]; simp)
        omega
    · simp only [leave] at hx
      rw [qAt_set hl] at hx
      split at hx
      · exact hb l x (List.mem_of_mem_tail hx)
      · exact hb own x hx
/-- all rows: who came is served in that order -/
def cameF (own : Nat) : Nat → List (List Nat) → List Tick → List Int
  | k, a :: r, t :: ts => (if own ∈ a ∧ own ∉ t.away then [(k : Int)] else []) ++ cameF own (k + 1) r ts
  | _, _, _ => []
def outF (own : Nat) : Nat → List Tick → List Int
  | _, [] => []
  | k, t :: ts => (if t.line = some own then [(k : Int) - (t.age.getD 0 : Nat)] else []) ++ outF own (k + 1) ts
theorem fifo {d : Desk} (h : d.ok) (own : Nat) : ∀ (row : List (List Nat)) (s : Sit) (k : Nat), SitOk d s → (∀ a ∈ row, ArrOk d.n a) → qa k (qAt s.qs own) ++ cameF own k row (tks d s row) = outF own k (tks d s row) ++ qa (k + row.length) (qAt (sts d s row).qs own)
  | [], s, k, _, _ => by simp [cameF, outF, tks, sts]
  | a :: r, s, k, hs, hr => by
    have ih := fifo h own r (movedF d s a).1 (k + 1) (moved_sit hs a) fun b hb => hr b (by simp [hb])
    have t := tick_fifo h hs (hr a (by simp)) own k
    simp only [cameF, outF, tks, sts, List.length_cons]
    rw [← List.append_assoc, t, List.append_assoc, ih, ← List.append_assoc, show k + 1 + r.length = k + (r.length + 1) by omega]
theorem ages {d : Desk} (h : d.ok) : ∀ (row : List (List Nat)) (s : Sit) (k : Nat), SitOk d s → AgeB k s → (∀ a ∈ row, ArrOk d.n a) → ∀ (i : Nat) (t : Tick) (x : Nat), (tks d s row)[i]? = some t → t.age = some x → x ≤ k + i
  | [], s, k, _, _, _, i, t, x, e, _ => by simp [tks] at e
  | a :: r, s, k, hs, hk, hr, i, t, x, e, ha => by
    obtain ⟨g1, g2⟩ := tick_age h hs (hr a (by simp)) hk
    cases i with
    | zero =>
      simp [tks] at e
      subst e
      exact g1 x ha
    | succ i =>
      have := ages h r _ (k + 1) (moved_sit hs a) g2 (fun b hb => hr b (by simp [hb])) i t x (by simpa [tks] using e) ha
      omega
theorem start_qAt (d : Desk) (own : Nat) : qAt (startF d).qs own = [] := by
  unfold qAt startF
  by_cases h : own < d.n <;> simp [List.getD, List.getElem?_replicate, h]
theorem start_age (d : Desk) : AgeB 0 (startF d) := fun own x hx => by rw [start_qAt] at hx; simp at hx
theorem start_tot (d : Desk) : tot (startF d).qs = 0 := by
  rw [tot_zero]
  intro q hq
  exact List.eq_of_mem_replicate hq
theorem tks_age (d : Desk) : ∀ (row : List (List Nat)) (s : Sit), ∀ t ∈ tks d s row, t.age.isSome = t.line.isSome
  | [], _, t, h => by simp [tks] at h
  | a :: r, s, t, h => by
    rcases List.mem_cons.mp h with rfl | h
    · exact moved_age
    · exact tks_age d r _ t h
/-- with nobody turned away, the rule does not matter for how many wait -/
theorem tot_same {d e : Desk} (hd : d.ok) (he : e.ok) (hn : d.n = e.n) : ∀ (row : List (List Nat)) (s z : Sit), SitOk d s → SitOk e z → tot s.qs = tot z.qs → (∀ a ∈ row, ArrOk d.n a) → (∀ t ∈ tks d s row, t.away = []) → (∀ t ∈ tks e z row, t.away = []) → tot (sts d s row).qs = tot (sts e z row).qs
  | [], s, z, _, _, ht, _, _, _ => ht
  | a :: r, s, z, hs, hz, ht, hr, h1, h2 => by
    have ha := hr a (by simp)
    have ha' : ArrOk e.n a := by rw [← hn]; exact ha
    refine tot_same hd he hn r _ _ (moved_sit hs a) (moved_sit hz a) ?_ (fun b hb => hr b (by simp [hb])) (fun t ht => h1 t (by simp [tks, ht])) (fun t ht => h2 t (by simp [tks, ht]))
    rw [moved_tot hd hs ha, moved_tot he hz ha', h1 _ (by simp [tks]), h2 _ (by simp [tks]), ht]
end Qz
namespace Qz
open PySem PySem.Spec PyProof.Rows L2
/-! ### small facts for the laws -/
@[simp] theorem noRef_lo {v : SV} {L : Sta} {k : Nat} (h : Lo v) : noRef (v :: L) k = noRef L k := by cases h <;> simp
def rowO (row : List (List Nat)) : OV := .ls (row.map fun a => .fz (dT a))
theorem rowO_ok (row : List (List Nat)) : RowO row (rowO row) := .ls
@[simp] theorem gIs_dO {x : Option Nat} : gIsB false (.fz (dO x)) (.fz .none) = some (.fr (.bool x.isNone)) := by cases x <;> rfl
@[simp] theorem gIsN_dO {x : Option Nat} : gIsB true (.fz (dO x)) (.fz .none) = some (.fr (.bool x.isSome)) := by cases x <;> rfl
theorem cutK {ds : List PyData} {k : Nat} : cutD ds none (some (k : Int)) = ds.take k := by
  unfold cutD
  rw [HT.sIx_nat, HT.sIx_none]
  simp [List.take_eq_take_iff]
theorem sum_cast (xs : List Nat) : (xs.map fun (n : Nat) => (n : Int)).sum = ((xs.sum : Nat) : Int) := by
  induction xs with
  | nil => rfl
  | cons x xs ih => simp [ih]
@[simp] theorem gSum_dT {xs : List Nat} : gSum (.fz (dT xs)) = some (.fr (.int (xs.sum : Nat))) := by
  unfold gSum
  simp only [kids_dT, Option.bind_some, intsD_nat, Option.map_some, sum_cast]
theorem fSl_pre {fa fk : FE} {L : Sta} {ds : List PyData} {k : Nat} {r rk : SV} {o : OV} (h1 : fa L = some (r, L)) (hr : con L r = some o) (hk : kids o = some (false, ds)) (h2 : fk L = some (rk, L)) (h3 : con L rk = some (.fz (.int k))) : fSl fa foN (foS fk) L = some (.ow (.ls ((ds.take k).map .fz)), L) := by
  simp [h1, hr, hk, h2, h3, cutK]
@[simp] theorem shaped_lN {xs : List Nat} : SeqAt.shaped (.list (xs.map dN)) = true := okD_shaped (by simp)
@[simp] theorem shaped_lT {xs : List (List Nat)} : SeqAt.shaped (.list (xs.map dT)) = true := okD_shaped (by simp)
@[simp] theorem shaped_lP {xs : List (Nat × Nat)} : SeqAt.shaped (.list (xs.map dP)) = true := okD_shaped (by simp [dP])
@[simp] theorem shaped_P {q : Nat × Nat} : SeqAt.shaped (dP q) = true := okD_shaped (by simp [dP])
@[simp] theorem gb_n : gb none = .no := rfl
@[simp] theorem gb_s {d : PyData} : gb (some d) = .ow (.fz d) := rfl
@[simp] theorem shaped_int {i : Int} : SeqAt.shaped (.int i) = true := okD_shaped (by simp)
@[simp] theorem shaped_dT {xs : List Nat} : SeqAt.shaped (dT xs) = true := okD_shaped (by simp)
@[simp] theorem shaped_dO {x : Option Nat} : SeqAt.shaped (dO x) = true := okD_shaped (by simp)
@[simp] theorem shaped_none : SeqAt.shaped .none = true := okD_shaped (by simp)
@[simp] theorem shaped_lO {xs : List (Option Nat)} : SeqAt.shaped (.list (xs.map dO)) = true := okD_shaped (by simp)
@[simp] theorem shaped_lOt {xs : List Tick} : SeqAt.shaped (.list (xs.map fun t => dO t.line)) = true := okD_shaped (by simp)
@[simp] theorem eqvs_Ot (xs ys : List Tick) : PyData.eqvAll (xs.map fun t => dO t.line) (ys.map fun t => dO t.line) = decide (xs.map Tick.line = ys.map Tick.line) := by
  have := eqvs_dO (xs.map Tick.line) (ys.map Tick.line)
  rwa [List.map_map, List.map_map] at this
@[simp] theorem eqv_dP (x y : Nat × Nat) : PyData.eqv (dP x) (dP y) = decide (x = y) := by
  unfold dP
  rw [eqv_tuple, eqvs_cons, eqvs_cons, eqvs_nil, eqv_dN, eqv_dN]
  obtain ⟨a, b⟩ := x
  obtain ⟨c, e⟩ := y
  simp
@[simp] theorem eqvs_dP (x y : List (Nat × Nat)) : PyData.eqvAll (x.map dP) (y.map dP) = decide (x = y) := eqvs_map eqv_dP x y
theorem sm62 {n : Nat} (h : n < 1000000) : sm (-4611686018427387904 ≤ (n : Int) ∧ (n : Int) < 4611686018427387904) = true := sm_true (by omega)
end Qz
namespace Qz
open PySem PySem.Spec PyProof.Rows L2
/-! ### what the rules choose -/
theorem best_max (f : Nat → Nat) : ∀ (xs : List Nat) (x : Nat), ∀ y ∈ x :: xs, f y ≤ f (best f x xs)
  | [], x, y, hy => by simp at hy; subst hy; simp [best]
  | z :: zs, x, y, hy => by
    have e : best f x (z :: zs) = best f (if f x < f z ∨ (f x = f z ∧ z < x) then z else x) zs := rfl
    have ih := best_max f zs (if f x < f z ∨ (f x = f z ∧ z < x) then z else x)
    rw [e]
    have h0 := ih _ (List.mem_cons_self)
    rcases List.mem_cons.mp hy with rfl | hy
    · split at h0 <;> rename_i hc
      · rw [if_pos hc]; omega
      · rw [if_neg hc]; exact h0
    · rcases List.mem_cons.mp hy with rfl | hy
      · split at h0 <;> rename_i hc
        · rw [if_pos hc]; exact h0
        · rw [if_neg hc]; omega
      · exact ih y (by simp [hy])
theorem bestOf_max (f : Nat → Nat) {ls : List Nat} : ∀ y ∈ ls, f y ≤ f (bestOf f ls) := by
  cases ls with
  | nil => intro y hy; simp at hy
  | cons x xs => exact best_max f xs x
section
variable {d : Desk} {qs : List (List Nat)} {p l : Nat}
theorem ch_oldest (hr : d.rule = .oldest) (e : (chosenF d qs p).1 = some l) {own : Nat} (ho : own ∈ there d.n qs) : (qAt qs own).headD 0 ≤ (qAt qs l).headD 0 := by
  unfold chosenF at e
  split at e
  · cases e
  · rw [hr] at e
    simp only [Option.some.injEq] at e
    have := bestOf_max (fun l => 0 + (qAt qs l).headD 0) own ho
    rw [e] at this
    simpa using this
theorem ch_points {ps : List Nat} (hr : d.rule = .points ps) (e : (chosenF d qs p).1 = some l) {own : Nat} (ho : own ∈ there d.n qs) : ps.getD own 0 + (qAt qs own).headD 0 ≤ ps.getD l 0 + (qAt qs l).headD 0 := by
  unfold chosenF at e
  split at e
  · cases e
  · rw [hr] at e
    simp only [Option.some.injEq] at e
    have := bestOf_max (fun l => ps.getD l 0 + (qAt qs l).headD 0) own ho
    rw [e] at this
    exact this
theorem ch_longest (hr : d.rule = .longest) (e : (chosenF d qs p).1 = some l) {own : Nat} (ho : own ∈ there d.n qs) : (qAt qs own).length ≤ (qAt qs l).length := by
  unfold chosenF at e
  split at e
  · cases e
  · rw [hr] at e
    simp only [Option.some.injEq] at e
    have := bestOf_max (fun l => (qAt qs l).length) own ho
    rw [e] at this
    exact this
/-- the least key is chosen, and the pointer goes there -/
theorem ch_round (h1 : 1 ≤ d.n) (hr : d.rule = .round) (e : (chosenF d qs p).1 = some l) : (chosenF d qs p).2 = l ∧ l ∈ there d.n qs ∧ ∀ own ∈ there d.n qs, keyT d.n (p + 1) l ≤ keyT d.n (p + 1) own := by
  unfold chosenF at e ⊢
  split at e
  · cases e
  · rename_i he
    rw [if_neg he, hr]
    rw [hr] at e
    simp only [Option.some.injEq] at e
    obtain ⟨m, hm, hmin, _⟩ := gMn_key (key := keyT d.n (p + 1)) he
    have hmn := (there_mem.mp hm).1
    have hf : ((turnR d.n p).filter fun l => decide (l ∈ there d.n qs)).headD 0 = m := first_key hm hmin (keyT_lt (by omega)) (keyT_back hmn) (fun s hs => keyT_of hs) (fun s _ => by simp)
    rw [hf] at e ⊢
    subst e
    exact ⟨rfl, hm, hmin⟩
theorem ch_round_eq (h1 : 1 ≤ d.n) (hr : d.rule = .round) (hm : l ∈ there d.n qs) (hmin : ∀ own ∈ there d.n qs, keyT d.n (p + 1) l ≤ keyT d.n (p + 1) own) : chosenF d qs p = (some l, l) := by
  have he : there d.n qs ≠ [] := fun e => by rw [e] at hm; simp at hm
  unfold chosenF
  rw [if_neg he, hr]
  have hmn := (there_mem.mp hm).1
  have hf : ((turnR d.n p).filter fun l => decide (l ∈ there d.n qs)).headD 0 = l := first_key hm hmin (keyT_lt (by omega)) (keyT_back hmn) (fun s hs => keyT_of hs) (fun s _ => by simp)
  rw [hf]
theorem keyT_self (h : l < d.n) : keyT d.n (l + 1) l = d.n - 1 := by
  have := keyT_of (n := d.n) (q := l + 1) (s := d.n - 1) (by omega)
  rw [show l + 1 + (d.n - 1) = l + d.n by omega, Nat.add_mod_right, Nat.mod_eq_of_lt h] at this
  exact this
theorem keyT_inj {n q a b : Nat} (ha : a < n) (hb : b < n) (e : keyT n q a = keyT n q b) : a = b := by
  rw [← keyT_back (q := q) ha, ← keyT_back (q := q) hb, e]
end
/-! ### queues: the oldest first -/
def Dec (s : Sit) : Prop := ∀ own, (qAt s.qs own).Pairwise fun x y => y < x
section
variable {d : Desk} {s : Sit} {a : List Nat}
theorem moved_qAt (hd : d.ok) (hs : SitOk d s) (own : Nat) : qAt (movedF d s a).1.qs own = if (movedF d s a).2.line = some own then (qAt (arrived d.room s.qs a).1 own).tail else qAt (arrived d.room s.qs a).1 own := by
  show qAt (leave (arrived d.room s.qs a).1 (chosenF d (arrived d.room s.qs a).1 s.p).1) own = if (chosenF d (arrived d.room s.qs a).1 s.p).1 = some own then _ else _
  cases e : (chosenF d (arrived d.room s.qs a).1 s.p).1 with
  | none => simp [leave]
  | some l =>
    have g := (there_mem.mp (chosenF_mem hd e)).1
    have hl : l < (arrived d.room s.qs a).1.length := by have := (arrived_ok hs a).1; omega
    simp only [leave, Option.some.injEq]
    rw [qAt_set hl]
    by_cases hc : l = own <;> simp [hc]
theorem arrived_dec (hs : SitOk d s) (ha : ArrOk d.n a) (hD : Dec s) (own : Nat) : (qAt (arrived d.room s.qs a).1 own).Pairwise fun x y => y < x := by
  rw [arrived_qAt hs ha own]
  refine List.pairwise_append.mpr ⟨?_, ?_, fun x hx y hy => ?_⟩
  · rw [List.pairwise_map]
    exact (hD own).imp fun h => by omega
  · split <;> simp
  · obtain ⟨z, _, rfl⟩ := List.mem_map.mp hx
    split at hy
    · simp at hy; omega
    · simp at hy
theorem moved_dec (hd : d.ok) (hs : SitOk d s) (ha : ArrOk d.n a) (hD : Dec s) : Dec (movedF d s a).1 := fun own => by
  rw [moved_qAt hd hs]
  have := arrived_dec hs ha hD own
  split
  · exact this.tail
  · exact this
theorem dec_head {q : List Nat} (h : q.Pairwise fun x y => y < x) : ∀ x ∈ q, x ≤ q.headD 0 := by
  cases q with
  | nil => simp
  | cons y ys =>
    intro x hx
    rcases List.mem_cons.mp hx with rfl | hx
    · simp
    · have := (List.pairwise_cons.mp h).1 x hx
      simp; omega
theorem moved_line : (movedF d s a).2.line = (chosenF d (arrived d.room s.qs a).1 s.p).1 := rfl
theorem moved_ageH {l : Nat} (e : (movedF d s a).2.line = some l) : (movedF d s a).2.age = some ((qAt (arrived d.room s.qs a).1 l).headD 0) := by
  show ageOf (arrived d.room s.qs a).1 (chosenF d (arrived d.room s.qs a).1 s.p).1 = _
  rw [moved_line] at e
  rw [e]
  rfl
theorem there_of {qs : List (List Nat)} {own x : Nat} (hn : qs.length = d.n) (hx : x ∈ qAt qs own) : own ∈ there d.n qs := by
  refine there_mem.mpr ⟨?_, fun e => by rw [e] at hx; simp at hx⟩
  refine Decidable.byContradiction fun h => ?_
  unfold qAt at hx
  rw [List.getD, List.getElem?_eq_none (by omega)] at hx
  simp at hx
end
/-! ### the oldest are served first -/
def camesF : Nat → List Tick → List Int
  | _, [] => []
  | k, t :: ts => (match t.age with | some x => [(k : Int) - x] | none => []) ++ camesF (k + 1) ts
theorem oldest_up {d : Desk} (hd : d.ok) (hr : d.rule = .oldest) : ∀ (row : List (List Nat)) (s : Sit) (k : Nat) (c : Int), SitOk d s → Dec s → (∀ a ∈ row, ArrOk d.n a) → (∀ own, ∀ x ∈ qAt s.qs own, c ≤ (k : Int) - 1 - x) → c ≤ k →
    (∀ z ∈ camesF k (tks d s row), c ≤ z) ∧ (camesF k (tks d s row)).Pairwise (· ≤ ·)
  | [], s, k, c, _, _, _, _, _ => by simp [tks, camesF]
  | a :: r, s, k, c, hs, hD, hrow, hc, hck => by
    have ha := hrow a (by simp)
    have hs' := moved_sit hs a
    have hD' := moved_dec hd hs ha hD
    have hn := (arrived_ok hs a).1
    -- all who wait when one is chosen
    have hA : ∀ own, ∀ x ∈ qAt (arrived d.room s.qs a).1 own, c ≤ (k : Int) - x := fun own x hx => by
      rw [arrived_qAt hs ha own] at hx
      rcases List.mem_append.mp hx with q | q
      · obtain ⟨y, hy, rfl⟩ := List.mem_map.mp q
        have := hc own y hy
        omega
      · split at q
        · simp at q; subst q; simpa using hck
        · simp at q
    have hB : ∀ own, ∀ x ∈ qAt (movedF d s a).1.qs own, x ∈ qAt (arrived d.room s.qs a).1 own := fun own x hx => by
      rw [moved_qAt hd hs] at hx
      split at hx
      · exact List.mem_of_mem_tail hx
      · exact hx
    simp only [tks, camesF]
    cases e : (movedF d s a).2.line with
    | none =>
      have ea : (movedF d s a).2.age = none := by
        have := moved_age (d := d) (s := s) (a := a)
        rw [e] at this
        cases h : (movedF d s a).2.age with
        | none => rfl
        | some _ => rw [h] at this; simp at this
      rw [ea]
      obtain ⟨i1, i2⟩ := oldest_up hd hr r (movedF d s a).1 (k + 1) c hs' hD' (fun b hb => hrow b (by simp [hb])) (fun own x hx => by have := hA own x (hB own x hx); omega) (by omega)
      exact ⟨by simpa using i1, by simpa using i2⟩
    | some l =>
      have ea := moved_ageH e
      rw [ea]
      have hl := there_mem.mp (chosenF_mem hd e)
      have hmem : (qAt (arrived d.room s.qs a).1 l).headD 0 ∈ qAt (arrived d.room s.qs a).1 l := by
        cases hq : qAt (arrived d.room s.qs a).1 l with
        | nil => exact absurd hq hl.2
        | cons y ys => simp
      have hmax : ∀ own, ∀ x ∈ qAt (arrived d.room s.qs a).1 own, x ≤ (qAt (arrived d.room s.qs a).1 l).headD 0 := fun own x hx => by
        have h1 := dec_head (arrived_dec hs ha hD own) x hx
        have h2 := ch_oldest hr e (there_of hn hx)
        omega
      have hc' := hA l _ hmem
      obtain ⟨i1, i2⟩ := oldest_up hd hr r (movedF d s a).1 (k + 1) ((k : Int) - (qAt (arrived d.room s.qs a).1 l).headD 0) hs' hD' (fun b hb => hrow b (by simp [hb])) (fun own x hx => by have := hmax own x (hB own x hx); omega) (by omega)
      refine ⟨fun z hz => ?_, ?_⟩
      · rcases List.mem_append.mp hz with q | q
        · simp at q; rw [q]; simpa using hc'
        · have := i1 z q; omega
      · rw [List.singleton_append]
        exact List.pairwise_cons.mpr ⟨fun z hz => i1 z hz, i2⟩
theorem start_dec (d : Desk) : Dec (startF d) := fun own => by rw [start_qAt]; simp
theorem st_dec {d : Desk} (hd : d.ok) : ∀ (row : List (List Nat)) (s : Sit), SitOk d s → Dec s → (∀ a ∈ row, ArrOk d.n a) → Dec (sts d s row)
  | [], s, _, h, _ => h
  | a :: r, s, hs, h, hr => st_dec hd r _ (moved_sit hs a) (moved_dec hd hs (hr a (by simp)) h) fun b hb => hr b (by simp [hb])
theorem st_take_succ (d : Desk) : ∀ (row : List (List Nat)) (s : Sit) (k : Nat) (a : List Nat), row[k]? = some a → sts d s (row.take (k + 1)) = (movedF d (sts d s (row.take k)) a).1
  | [], s, k, a, h => by simp at h
  | b :: r, s, 0, a, h => by simp at h; subst h; simp [sts]
  | b :: r, s, k + 1, a, h => by
    have := st_take_succ d r (movedF d s b).1 k a (by simpa using h)
    simpa [sts] using this
end Qz
namespace Qz
open PySem PySem.Spec PyProof.Rows L2
/-! settled, in plain words -/
def zI (xs : List Nat) : List Int := xs.map fun (n : Nat) => (n : Int)
def rankF (ages : List Nat) (a : Nat) : Nat := (ixOf (a : Int) (sdI (zI ages))).getD 0
def settledF (d : Desk) (s : Sit) : Sit := match d.rule with
  | .points _ => s
  | .oldest => ⟨s.qs.map fun q => q.map (rankF s.qs.flatten), s.p⟩
  | _ => ⟨s.qs.map fun q => q.map fun _ => 0, s.p⟩
theorem ixOf_mem {k : Int} : ∀ {xs : List Int}, k ∈ xs → ∃ j, ixOf k xs = some j
  | [], h => by simp at h
  | x :: xs, h => by
    unfold ixOf
    by_cases e : x = k
    · exact ⟨0, by simp [e]⟩
    · have : k ∈ xs := by rcases List.mem_cons.mp h with h | h; exact absurd h.symm e; exact h
      obtain ⟨j, hj⟩ := ixOf_mem this
      exact ⟨j + 1, by simp [e, hj]⟩
theorem rank_ix {ages : List Nat} {a : Nat} (h : a ∈ ages) : ixOf (a : Int) (sdI (zI ages)) = some (rankF ages a) := by
  obtain ⟨j, hj⟩ := ixOf_mem (sdI_mem.mpr (List.mem_map.mpr ⟨a, h, rfl⟩))
  unfold rankF zI
  rw [hj]; rfl
theorem repD_zero (n : Nat) : PyData.tuple (repD n [.int 0]) = dT (List.replicate n 0) := by
  unfold repD dT
  congr 1
  induction n with
  | zero => rfl
  | succ n ih => rw [List.replicate_succ, List.flatten_cons, ih]; rfl
theorem zeros_eq (q : List Nat) : (q.map fun _ => 0) = List.replicate q.length 0 := by
  induction q with
  | nil => rfl
  | cons x xs ih => simp only [List.map_cons, List.length_cons, List.replicate_succ, ih]
theorem mulZ_len (q : List Nat) (hq : q.length ≤ 1000) : gMulZ (.fz (.tuple [.int 0])) (.fz (.int (q.length : Int))) = some (.fr (dT (q.map fun _ => 0))) := by
  rw [gMulZ_ap, zeros_eq]
  by_cases h1 : q.length = 1
  · rw [h1]; rfl
  · by_cases h0 : q.length = 0
    · rw [h0, if_neg (by simp), if_pos (sm_true (by simp))]; rfl
    · rw [if_neg (by omega), if_neg (by simp only [sm_iff]; omega), if_pos (sm_true (by simp; omega))]
      rw [Int.toNat_natCast, repD_zero]
theorem settled_0 (d : Desk) (s : Sit) (hs : s.qs.length ≤ 1000) (hq : ∀ q ∈ s.qs, q.length ≤ 1000) :
    c_settled_0 [.bo (.fz d.d), .bo (.fz s.d), .ow (.fz (.tuple (s.qs.map dT))), .ow (.fz (dN s.p)), .no, .no, .no] = some (.ow (.ls ((s.qs.map fun q => q.map fun _ => 0).map fun q => .fz (dT q))), [.bo (.fz d.d), .bo (.fz s.d), .ow (.fz (.tuple (s.qs.map dT))), .ow (.fz (dN s.p)), .no, .no, .no]) := by
  unfold c_settled_0
  rw [List.map_map]
  refine compM s.qs dT (fun q => .fz (dT (q.map fun _ => 0))) (by simp) (by simp) hs fun q hm => ⟨_, by simp; rfl, ?_, by simp⟩
  simp [mulZ_len q (hq q hm), -gMulZ_ap]
theorem settled_1 (d : Desk) (s : Sit) (hs : s.qs.length ≤ 1000) (hq : ∀ q ∈ s.qs, q.length ≤ 1000) :
    c_settled_1 [.bo (.fz d.d), .bo (.fz s.d), .ow (.fz (.tuple (s.qs.map dT))), .ow (.fz (dN s.p)), .no, .no, .no] = some (.ow (.ls (s.qs.map fun q => .ls (q.map fun n => .fz (dN n)))), [.bo (.fz d.d), .bo (.fz s.d), .ow (.fz (.tuple (s.qs.map dT))), .ow (.fz (dN s.p)), .no, .no, .no]) := by
  unfold c_settled_1
  refine compM s.qs dT (fun q => .ls (q.map fun n => .fz (dN n))) (by simp) (by simp) hs fun q hm => ⟨_, by simp; rfl, ?_, by simp⟩
  simp
theorem settled_2 (d : Desk) (s : Sit) (q : List Nat) (hq : q.length ≤ 1000) (ha : ∀ a ∈ q, a ∈ s.qs.flatten) :
    c_settled_2 [.bo (.fz d.d), .bo (.fz s.d), .ow (.fz (.tuple (s.qs.map dT))), .ow (.fz (dN s.p)), .ow (.fz (dT q)), .ow (.fz (.list ((sdI (zI s.qs.flatten)).map .int))), .no] = some (.ow (.ls (q.map fun n => .fz (dN (rankF s.qs.flatten n)))), [.bo (.fz d.d), .bo (.fz s.d), .ow (.fz (.tuple (s.qs.map dT))), .ow (.fz (dN s.p)), .ow (.fz (dT q)), .ow (.fz (.list ((sdI (zI s.qs.flatten)).map .int))), .no]) := by
  unfold c_settled_2
  refine compM q dN (fun n => .fz (dN (rankF s.qs.flatten n))) (by simp) (by simp) hq fun x hx => ⟨_, by simp; rfl, ?_, by simp⟩
  simp [intsD_map, rank_ix (ha x hx)]
theorem settled_3 (d : Desk) (s : Sit) (hs : s.qs.length ≤ 1000) (hq : ∀ q ∈ s.qs, q.length ≤ 1000) :
    c_settled_3 [.bo (.fz d.d), .bo (.fz s.d), .ow (.fz (.tuple (s.qs.map dT))), .ow (.fz (dN s.p)), .no, .ow (.fz (.list ((sdI (zI s.qs.flatten)).map .int))), .no] = some (.ow (.ls ((s.qs.map fun q => q.map (rankF s.qs.flatten)).map fun q => .fz (dT q))), [.bo (.fz d.d), .bo (.fz s.d), .ow (.fz (.tuple (s.qs.map dT))), .ow (.fz (dN s.p)), .no, .ow (.fz (.list ((sdI (zI s.qs.flatten)).map .int))), .no]) := by
  unfold c_settled_3
  rw [List.map_map]
  refine compM s.qs dT (fun q => .fz (dT (q.map (rankF s.qs.flatten)))) (by simp) (by simp) hs fun q hm => ⟨_, by simp; rfl, ?_, by simp⟩
  have := settled_2 d s q (hq q hm) (fun a ha => List.mem_flatten.mpr ⟨q, hm, ha⟩)
  have e : dT (q.map (rankF s.qs.flatten)) = .tuple (q.map fun n => dN (rankF s.qs.flatten n)) := by simp [dT, Function.comp_def]
  simp [this, e]
end Qz
namespace Qz
open PySem PySem.Spec PyProof.Rows L2
theorem sortSet_nat (F : List Nat) (h : F.length ≤ 60) : gSortSetL (.ls (F.map fun n => .fz (dN n))) = some (.nl ((sdI (zI F)).map .int)) := by
  have e : lstInts (.ls (F.map fun n => .fz (dN n))) = some (zI F) := by
    have e1 : lkids (.ls (F.map fun n => .fz (dN n))) = some (F.map dN) := by simp [lkids]
    unfold lstInts
    rw [e1]
    simp only [intsD_nat]
    rw [if_pos (by simp; omega)]; rfl
  unfold gSortSetL
  rw [e]; rfl
theorem settled_ok (d : Desk) (h : d.ok) (s : Sit) (hs : SitOk d s) : m_settled [.fz d.d, .fz s.d] = some (.fz (settledF d s).d) := by
  have h1 := h.n1; have h3 := h.n3; have hr3 := h.r3; have hm6 := h.m6
  have hl : s.qs.length ≤ 1000 := by have := hs.len; omega
  have hq : ∀ q ∈ s.qs, q.length ≤ 1000 := fun q hq => by have := hs.room q hq; omega
  have c0 := settled_0 d s hl hq
  have c1 := settled_1 d s hl hq
  have c3 := settled_3 d s hl hq
  have hz0 : settledF d s = ⟨s.qs.map fun q => q.map fun _ => 0, s.p⟩ → (settledF d s).d = .tuple [.tuple ((s.qs.map fun q => q.map fun _ => 0).map dT), dN s.p] := fun e => by rw [e]; rfl
  have ha : asg (.tp [.nm 2, .nm 3]) s.d [.bo (.fz d.d), .bo (.fz s.d), .no, .no, .no, .no, .no] = some [.bo (.fz d.d), .bo (.fz s.d), .ow (.fz (.tuple (s.qs.map dT))), .ow (.fz (dN s.p)), .no, .no, .no] := by
    show asg _ (.tuple [.tuple (s.qs.map dT), dN s.p]) _ = _; simp
  have hf : s.qs.flatten.length ≤ 9 := by
    have : ∀ qs : List (List Nat), (∀ q ∈ qs, q.length ≤ 3) → qs.flatten.length ≤ 3 * qs.length := by
      intro qs
      induction qs with
      | nil => simp
      | cons x xs ih =>
        intro hx
        have a1 := ih fun q hq => hx q (by simp [hq])
        have a2 := hx x (by simp)
        simp only [List.flatten_cons, List.length_append, List.length_cons]; omega
    have := this s.qs fun q hq => by have := hs.room q hq; omega
    have := hs.len; omega
  cases hr : d.rule with
  | points ps => simp [m_settled, f_settled, mFun, settledF, hr, Rule.d, ha]
  | oldest =>
    have hk : kidsL (s.qs.map fun (q : List Nat) => OV.ls (q.map fun n => .fz (dN n))) = some (s.qs.map fun (q : List Nat) => q.map dN) := by
      generalize s.qs = qs
      induction qs with
      | nil => rfl
      | cons x xs ih =>
        have e : frs (x.map fun n => OV.fz (dN n)) = some (x.map dN) := frs_fzc
        simp only [List.map_cons, kidsL, ih, e]
    have hne : (s.qs.map fun (q : List Nat) => OV.ls (q.map fun n => .fz (dN n))) ≠ [] := by
      have := hs.len; intro e; have := congrArg List.length e; simp at this; simp [this] at *; omega
    have hflat : (s.qs.map fun (q : List Nat) => q.map dN).flatten = s.qs.flatten.map dN := by rw [List.map_flatten]
    have g1 : gSumL (.ls (s.qs.map fun (q : List Nat) => OV.ls (q.map fun n => .fz (dN n)))) (.ls []) = some (.nl (s.qs.flatten.map dN)) := by
      show (match kidsL (s.qs.map fun (q : List Nat) => OV.ls (q.map fun n => .fz (dN n))), lkids (.ls []) with
        | some dss, some zs => if (s.qs.map fun (q : List Nat) => OV.ls (q.map fun n => .fz (dN n))) ≠ [] ∧ (zs ++ dss.flatten).length ≤ sizeLine then some (Res.nl (zs ++ dss.flatten)) else none
        | _, _ => none) = _
      rw [hk]
      show (if _ then _ else _) = _
      rw [if_pos ⟨hne, by rw [hflat, sizeLine_eq, List.nil_append, List.length_map]; omega⟩, hflat]; rfl
    have g2 := sortSet_nat s.qs.flatten (by omega)
    have hz : (settledF d s).d = .tuple [.tuple ((s.qs.map fun q => q.map (rankF s.qs.flatten)).map dT), dN s.p] := by simp only [settledF, hr]; rfl
    rw [hz]
    generalize (s.qs.map fun q => q.map (rankF s.qs.flatten)) = A at *
    generalize s.qs.flatten = F at *
    have g3 : gSortSetL (.ls (F.map (OV.fz ∘ dN))) = some (.nl ((sdI (zI F)).map .int)) := g2
    generalize sdI (zI F) = Z at *
    simp [m_settled, f_settled, mFun, hr, Rule.d, ha, c1, g1, g3, c3]
  | order xs => rw [hz0 (by simp only [settledF, hr])]; generalize (s.qs.map fun q => q.map fun _ => 0) = A at *; simp [m_settled, f_settled, mFun, hr, Rule.d, ha, c0]
  | round => rw [hz0 (by simp only [settledF, hr])]; generalize (s.qs.map fun q => q.map fun _ => 0) = A at *; simp [m_settled, f_settled, mFun, hr, Rule.d, ha, c0]
  | cycle xs => rw [hz0 (by simp only [settledF, hr])]; generalize (s.qs.map fun q => q.map fun _ => 0) = A at *; simp [m_settled, f_settled, mFun, hr, Rule.d, ha, c0]
  | longest => rw [hz0 (by simp only [settledF, hr])]; generalize (s.qs.map fun q => q.map fun _ => 0) = A at *; simp [m_settled, f_settled, mFun, hr, Rule.d, ha, c0]
theorem settled_sit {d : Desk} {s : Sit} (hs : SitOk d s) : SitOk d (settledF d s) := by
  have h2 : ∀ f : Nat → Nat, SitOk d ⟨s.qs.map fun q => q.map f, s.p⟩ := fun f => ⟨by simpa using hs.len, fun q hq => by
    obtain ⟨q', h1, rfl⟩ := List.mem_map.mp hq
    simpa using hs.room q' h1⟩
  unfold settledF
  split
  · exact hs
  · exact h2 _
  · exact h2 _
theorem after_ok (d : Desk) (h : d.ok) (s : Sit) (hs : SitOk d s) (a : List Nat) (ha : ArrOk d.n a) :
    m_after [.fz d.d, .fz s.d, .fz (dT a)] = some (.fz (.tuple [(settledF d (movedF d s a).1).d, dO (movedF d s a).2.line, .list ((movedF d s a).2.away.map dN)])) := by
  have c1 := moved_ok d h s hs a ha
  have c2 := settled_ok d h (movedF d s a).1 (moved_sit hs a)
  generalize movedF d s a = r at *
  obtain ⟨s', t⟩ := r
  simp [m_after, f_after, mFun, c1, c2]
end Qz
namespace Qz
open PySem PySem.Spec PyProof.Rows L2
/-! a row repeated: the settled situations and the ticks -/
abbrev Tk := Option Nat × List Nat
def Tk.d (t : Tk) : PyData := .tuple [dO t.1, .list (t.2.map dN)]
def uS (d : Desk) (f : Nat → List Nat) : Nat → Sit
  | 0 => settledF d (startF d)
  | k + 1 => settledF d (movedF d (uS d f k) (f k)).1
def uT (d : Desk) (f : Nat → List Nat) (k : Nat) : Tk := ((movedF d (uS d f k) (f k)).2.line, (movedF d (uS d f k) (f k)).2.away)
def rep (row : List (List Nat)) (k : Nat) : List Nat := row.getD (k % row.length) []
theorem uS_ok (d : Desk) (f : Nat → List Nat) : ∀ k, SitOk d (uS d f k)
  | 0 => settled_sit (start_sit d)
  | k + 1 => settled_sit (moved_sit (uS_ok d f k) (f k))
def sK (s : Sit) : NestedKey := .tup [.tup (s.qs.map kT), .num (s.p : Int)]
theorem keyT'_sit (s : Sit) : keyT' s.d = some (sK s) := by
  have e : keysOf (s.qs.map dT) = some (s.qs.map kT) := keysOf_map s.qs fun x _ => keyOf_dT x
  refine keyT'_of ?_ ?_
  · rw [keyOf_tuple, keysOf_cons, keyOf_tuple, e]
    simp [sK]
  · have h1 : NestedKey.depthAll (s.qs.map kT) ≤ 1 := depthAll_le fun k hk => by
      obtain ⟨q, _, rfl⟩ := List.mem_map.mp hk
      exact depth_kT q
    simp only [sK, NestedKey.depth, NestedKey.depthAll]
    omega
theorem sK_inj {s t : Sit} (e : sK s = sK t) : s = t := by
  unfold sK at e
  injection e with e1
  injection e1 with e2 e3
  injection e2 with e4
  injection e3 with e5 _
  have h1 : s.qs = t.qs := by
    revert e4
    generalize s.qs = xs
    generalize t.qs = ys
    intro e
    exact List.map_inj_right (fun _ _ h => kT_inj h) |>.mp e
  have h2 : s.p = t.p := num_inj e5
  cases s; cases t; simp_all
theorem kIx_mem {ks : List NestedKey} {k : NestedKey} (h : k ∈ ks) : ∃ j, kIx ks k = some j ∧ ks[j]? = some k := by
  unfold kIx
  cases e : ks.findIdx? fun x => decide (x = k) with
  | none =>
    have := List.findIdx?_eq_none_iff.mp e k h
    simp at this
  | some j =>
    obtain ⟨hj, h1, _⟩ := List.findIdx?_eq_some_iff_getElem.mp e
    refine ⟨j, rfl, ?_⟩
    rw [List.getElem?_eq_getElem hj]
    simpa using h1
end Qz
namespace Qz
open PySem PySem.Spec PyProof.Rows L2
/-! ages looked at through a map -/
def Sit.mp (s : Sit) (φ : Nat → Nat) : Sit := ⟨s.qs.map fun q => q.map φ, s.p⟩
def upM (φ : Nat → Nat) : Nat → Nat
  | 0 => 0
  | x + 1 => φ x + 1
def MapOk (d : Desk) (φ : Nat → Nat) (s : Sit) : Prop := match d.rule with
  | .points _ => ∀ x, φ x = x
  | .oldest => ∀ x ∈ s.qs.flatten, ∀ y ∈ s.qs.flatten, x < y → φ x < φ y
  | _ => True
theorem qAt_map (qs : List (List Nat)) (φ : Nat → Nat) (l : Nat) : qAt (qs.map fun q => q.map φ) l = (qAt qs l).map φ := by
  unfold qAt; rw [List.getD, List.getElem?_map, List.getD]; cases qs[l]? <;> rfl
theorem there_map (n : Nat) (qs : List (List Nat)) (φ : Nat → Nat) : there n (qs.map fun q => q.map φ) = there n qs := by
  unfold there
  congr 1
  funext l
  rw [qAt_map]
  cases qAt qs l <;> rfl
theorem set_map (qs : List (List Nat)) (φ : Nat → Nat) (l : Nat) (q : List Nat) : (qs.map fun q => q.map φ).set l (q.map φ) = (qs.set l q).map fun q => q.map φ := by rw [List.map_set]
theorem come_map (room : Nat) (r : List (List Nat) × List Nat) (l : Nat) (ψ : Nat → Nat) (h0 : ψ 0 = 0) : come room (r.1.map (fun q => q.map ψ), r.2) l = ((come room r l).1.map fun q => q.map ψ, (come room r l).2) := by
  unfold come
  simp only [qAt_map, List.length_map]
  split
  · have : (qAt r.1 l).map ψ ++ [0] = (qAt r.1 l ++ [0]).map ψ := by simp [h0]
    rw [this, set_map]
  · rfl
theorem fold_map (room : Nat) (ψ : Nat → Nat) (h0 : ψ 0 = 0) : ∀ (a : List Nat) (r : List (List Nat) × List Nat), a.foldl (come room) (r.1.map (fun q => q.map ψ), r.2) = ((a.foldl (come room) r).1.map fun q => q.map ψ, (a.foldl (come room) r).2)
  | [], _ => rfl
  | x :: a, r => by
    rw [List.foldl_cons, List.foldl_cons, come_map room r x ψ h0]
    exact fold_map room ψ h0 a (come room r x)
theorem arrived_map (room : Nat) (qs : List (List Nat)) (a : List Nat) (φ : Nat → Nat) : arrived room (qs.map fun q => q.map φ) a = ((arrived room qs a).1.map fun q => q.map (upM φ), (arrived room qs a).2) := by
  unfold arrived
  have e : older (qs.map fun q => q.map φ) = (older qs).map fun q => q.map (upM φ) := by
    unfold older
    rw [List.map_map, List.map_map]
    refine List.map_congr_left fun q _ => ?_
    simp only [Function.comp_apply, List.map_map]
    exact List.map_congr_left fun x _ => rfl
  rw [e]
  exact fold_map room (upM φ) rfl a (older qs, [])
theorem best_map {f g : Nat → Nat} : ∀ (xs : List Nat) (x : Nat), (∀ a ∈ x :: xs, ∀ b ∈ x :: xs, (f a < f b ↔ g a < g b) ∧ (f a = f b ↔ g a = g b)) → best f x xs = best g x xs
  | [], _, _ => rfl
  | y :: ys, x, h => by
    unfold best
    rw [List.foldl_cons, List.foldl_cons]
    have e := h x (by simp) y (by simp)
    have e1 : (if f x < f y ∨ (f x = f y ∧ y < x) then y else x) = (if g x < g y ∨ (g x = g y ∧ y < x) then y else x) := by simp only [e.1, e.2]
    rw [e1]
    refine best_map ys _ fun a ha b hb => h a ?_ b ?_
    · split at ha <;> simp at ha ⊢ <;> rcases ha with h | h <;> simp [h]
    · split at hb <;> simp at hb ⊢ <;> rcases hb with h | h <;> simp [h]
theorem bestOf_map {f g : Nat → Nat} (ls : List Nat) (h : ∀ a ∈ ls, ∀ b ∈ ls, (f a < f b ↔ g a < g b) ∧ (f a = f b ↔ g a = g b)) : bestOf f ls = bestOf g ls := by
  cases ls with
  | nil => rfl
  | cons x xs => exact best_map xs x h
theorem head_mem {qs : List (List Nat)} {l n : Nat} (h : l ∈ there n qs) : (qAt qs l).headD 0 ∈ qs.flatten := by
  have hne := (there_mem.mp h).2
  have hm : qAt qs l ∈ qs := by
    unfold qAt at hne ⊢
    rw [List.getD] at hne ⊢
    cases e : qs[l]? with
    | none => rw [e] at hne; exact absurd rfl hne
    | some q => exact List.mem_of_getElem? e
  refine List.mem_flatten.mpr ⟨_, hm, ?_⟩
  cases e : qAt qs l with
  | nil => exact absurd e hne
  | cons x xs => simp
theorem head_map {q : List Nat} {φ : Nat → Nat} (h : q ≠ []) : (q.map φ).headD 0 = φ (q.headD 0) := by
  cases q with
  | nil => exact absurd rfl h
  | cons x xs => rfl
theorem chosen_map {d : Desk} {qs : List (List Nat)} {p : Nat} {ψ : Nat → Nat} (h : MapOk d ψ ⟨qs, p⟩) : chosenF d (qs.map fun q => q.map ψ) p = chosenF d qs p := by
  unfold chosenF
  unfold MapOk at h
  rw [there_map]
  split
  · rfl
  · cases hr : d.rule with
    | order xs => rfl
    | round => rfl
    | cycle xs => rfl
    | longest => simp only [qAt_map, List.length_map]
    | points ps =>
      rw [hr] at h
      have : ∀ q : List Nat, q.map ψ = q := fun q => by
        rw [List.map_congr_left (g := id) fun x _ => h x]; simp
      simp only [this, List.map_id']
    | oldest =>
      rw [hr] at h
      have := bestOf_map (f := fun l => 0 + (qAt (qs.map fun q => q.map ψ) l).headD 0) (g := fun l => 0 + (qAt qs l).headD 0) (there d.n qs) fun a ha b hb => by
        have h1 := h _ (head_mem ha) _ (head_mem hb)
        have h2 := h _ (head_mem hb) _ (head_mem ha)
        simp only [qAt_map, head_map (there_mem.mp ha).2, head_map (there_mem.mp hb).2]
        generalize (qAt qs a).headD 0 = x at *
        generalize (qAt qs b).headD 0 = y at *
        rcases Nat.lt_trichotomy x y with e | e | e
        · have := h1 e; omega
        · subst e; omega
        · have := h2 e; omega
      simp only [this]
end Qz
namespace Qz
open PySem PySem.Spec PyProof.Rows L2
theorem arr_flat {room : Nat} {qs : List (List Nat)} : ∀ (a : List Nat) {r : List (List Nat) × List Nat} {P : Nat → Prop}, (∀ x ∈ r.1.flatten, P x) → P 0 → ∀ x ∈ (a.foldl (come room) r).1.flatten, P x
  | [], r, P, h, _ => h
  | l :: a, r, P, h, h0 => by
    rw [List.foldl_cons]
    refine arr_flat (room := room) (qs := qs) a (r := come room r l) (P := P) ?_ h0
    unfold come
    split
    · intro x hx
      obtain ⟨q, hq, hx⟩ := List.mem_flatten.mp hx
      rcases List.mem_or_eq_of_mem_set hq with h1 | h1
      · exact h x (List.mem_flatten.mpr ⟨q, h1, hx⟩)
      · subst h1
        rcases List.mem_append.mp hx with h2 | h2
        · refine h x (List.mem_flatten.mpr ⟨qAt r.1 l, ?_, h2⟩)
          unfold qAt at h2 ⊢
          rw [List.getD] at h2 ⊢
          cases e : r.1[l]? with
          | none => rw [e] at h2; simp at h2
          | some q => exact List.mem_of_getElem? e
        · simp at h2; subst h2; exact h0
    · exact h
theorem arrived_ages {room : Nat} {qs : List (List Nat)} (a : List Nat) {P : Nat → Prop} (h : ∀ x ∈ qs.flatten, P (x + 1)) (h0 : P 0) : ∀ x ∈ (arrived room qs a).1.flatten, P x := by
  refine arr_flat (qs := qs) a ?_ h0
  intro x hx
  obtain ⟨q, hq, hx⟩ := List.mem_flatten.mp hx
  obtain ⟨q', hq', rfl⟩ := List.mem_map.mp hq
  obtain ⟨y, hy, rfl⟩ := List.mem_map.mp hx
  exact h y (List.mem_flatten.mpr ⟨q', hq', hy⟩)
theorem leave_map (qs : List (List Nat)) (ψ : Nat → Nat) (c : Option Nat) : leave (qs.map fun q => q.map ψ) c = (leave qs c).map fun q => q.map ψ := by
  cases c with
  | none => rfl
  | some l =>
    unfold leave
    simp only [qAt_map]
    rw [← List.map_tail, set_map]
theorem leave_ages {qs : List (List Nat)} {c : Option Nat} {x : Nat} (h : x ∈ (leave qs c).flatten) : x ∈ qs.flatten := by
  cases c with
  | none => exact h
  | some l =>
    obtain ⟨q, hq, hx⟩ := List.mem_flatten.mp h
    rcases List.mem_or_eq_of_mem_set hq with h1 | h1
    · exact List.mem_flatten.mpr ⟨q, h1, hx⟩
    · subst h1
      have h2 := List.mem_of_mem_tail hx
      refine List.mem_flatten.mpr ⟨qAt qs l, ?_, h2⟩
      unfold qAt at h2 ⊢
      rw [List.getD] at h2 ⊢
      cases e : qs[l]? with
      | none => rw [e] at h2; simp at h2
      | some q => exact List.mem_of_getElem? e
theorem upM_ok {d : Desk} {φ : Nat → Nat} {s : Sit} (h : MapOk d φ s) (a : List Nat) (p : Nat) : MapOk d (upM φ) ⟨(arrived d.room s.qs a).1, p⟩ := by
  unfold MapOk at h ⊢
  cases hr : d.rule with
  | points ps =>
    rw [hr] at h
    intro x
    cases x with
    | zero => rfl
    | succ x => show φ x + 1 = x + 1; rw [h x]
  | oldest =>
    rw [hr] at h
    intro x hx y hy hxy
    have hx' := arrived_ages (room := d.room) (qs := s.qs) a (P := fun x => x = 0 ∨ ∃ z ∈ s.qs.flatten, x = z + 1) (fun z hz => .inr ⟨z, hz, rfl⟩) (.inl rfl) x hx
    have hy' := arrived_ages (room := d.room) (qs := s.qs) a (P := fun x => x = 0 ∨ ∃ z ∈ s.qs.flatten, x = z + 1) (fun z hz => .inr ⟨z, hz, rfl⟩) (.inl rfl) y hy
    rcases hy' with rfl | ⟨z, hz, rfl⟩
    · omega
    · rcases hx' with rfl | ⟨w, hw, rfl⟩
      · show 0 < φ z + 1; omega
      · have := h w hw z hz (by omega)
        show φ w + 1 < φ z + 1; omega
  | order xs => trivial
  | round => trivial
  | cycle xs => trivial
  | longest => trivial
theorem MapOk.sub {d : Desk} {φ : Nat → Nat} {s t : Sit} (h : MapOk d φ s) (hs : ∀ x ∈ t.qs.flatten, x ∈ s.qs.flatten) : MapOk d φ t := by
  unfold MapOk at h ⊢
  cases hr : d.rule with
  | oldest => rw [hr] at h; exact fun x hx y hy => h x (hs x hx) y (hs y hy)
  | points ps => rw [hr] at h; exact h
  | order xs => trivial
  | round => trivial
  | cycle xs => trivial
  | longest => trivial
theorem moved_map {d : Desk} {φ : Nat → Nat} {s : Sit} (h : MapOk d φ s) (a : List Nat) :
    (movedF d (s.mp φ) a).1 = (movedF d s a).1.mp (upM φ) ∧ (movedF d (s.mp φ) a).2.line = (movedF d s a).2.line ∧ (movedF d (s.mp φ) a).2.away = (movedF d s a).2.away ∧ MapOk d (upM φ) (movedF d s a).1 := by
  have h1 := upM_ok h a s.p
  have hc := chosen_map h1
  have ha := arrived_map d.room s.qs a φ
  have hm : MapOk d (upM φ) (movedF d s a).1 := (upM_ok h a s.p).sub fun x hx => leave_ages hx
  have e : movedF d (s.mp φ) a = (⟨leave ((arrived d.room s.qs a).1.map fun q => q.map (upM φ)) (chosenF d ((arrived d.room s.qs a).1.map fun q => q.map (upM φ)) s.p).1, (chosenF d ((arrived d.room s.qs a).1.map fun q => q.map (upM φ)) s.p).2⟩, ⟨(chosenF d ((arrived d.room s.qs a).1.map fun q => q.map (upM φ)) s.p).1, ageOf ((arrived d.room s.qs a).1.map fun q => q.map (upM φ)) (chosenF d ((arrived d.room s.qs a).1.map fun q => q.map (upM φ)) s.p).1, (arrived d.room s.qs a).2⟩) := by
    unfold movedF Sit.mp
    simp only [ha]
  rw [e, hc, leave_map]
  exact ⟨rfl, rfl, rfl, hm⟩
theorem rank_lt {ages : List Nat} {a b : Nat} (ha : a ∈ ages) (hb : b ∈ ages) (h : a < b) : rankF ages a < rankF ages b := by
  obtain ⟨e1, _⟩ := ixOf_some (rank_ix ha)
  obtain ⟨e2, _⟩ := ixOf_some (rank_ix hb)
  have hp := sdI_up (zI ages)
  obtain ⟨l1, g1⟩ := List.getElem?_eq_some_iff.mp e1
  obtain ⟨l2, g2⟩ := List.getElem?_eq_some_iff.mp e2
  rcases Nat.lt_trichotomy (rankF ages a) (rankF ages b) with h1 | h1 | h1
  · exact h1
  · have : (a : Int) = b := by rw [← g1, ← g2]; congr 1
    omega
  · have := List.pairwise_iff_getElem.mp hp _ _ l2 l1 h1
    rw [g1, g2] at this; omega
theorem rank_le {ages : List Nat} {a : Nat} (ha : a ∈ ages) : rankF ages a < ages.length := by
  obtain ⟨e1, _⟩ := ixOf_some (rank_ix ha)
  obtain ⟨l1, _⟩ := List.getElem?_eq_some_iff.mp e1
  have := sdI_len (zI ages)
  simp only [zI, List.length_map] at this l1
  omega
theorem map_flat (qs : List (List Nat)) (φ : Nat → Nat) : (qs.map fun q => q.map φ).flatten = qs.flatten.map φ := by rw [List.map_flatten]
theorem settled_map {d : Desk} {φ : Nat → Nat} {s : Sit} (h : MapOk d φ s) : ∃ ψ, settledF d (s.mp φ) = s.mp ψ ∧ MapOk d ψ s := by
  unfold settledF
  cases hr : d.rule with
  | points ps => exact ⟨φ, rfl, h⟩
  | oldest =>
    refine ⟨fun x => rankF (s.mp φ).qs.flatten (φ x), ?_, ?_⟩
    · unfold Sit.mp
      simp only [List.map_map, Function.comp_def]
    · unfold MapOk at h ⊢
      rw [hr] at h ⊢
      intro x hx y hy hxy
      have hf : (s.mp φ).qs.flatten = s.qs.flatten.map φ := map_flat _ _
      refine rank_lt ?_ ?_ (h x hx y hy hxy)
      · rw [hf]; exact List.mem_map.mpr ⟨x, hx, rfl⟩
      · rw [hf]; exact List.mem_map.mpr ⟨y, hy, rfl⟩
  | order xs => exact ⟨fun _ => 0, by unfold Sit.mp; simp only [List.map_map, Function.comp_def], by unfold MapOk; rw [hr]; trivial⟩
  | round => exact ⟨fun _ => 0, by unfold Sit.mp; simp only [List.map_map, Function.comp_def], by unfold MapOk; rw [hr]; trivial⟩
  | cycle xs => exact ⟨fun _ => 0, by unfold Sit.mp; simp only [List.map_map, Function.comp_def], by unfold MapOk; rw [hr]; trivial⟩
  | longest => exact ⟨fun _ => 0, by unfold Sit.mp; simp only [List.map_map, Function.comp_def], by unfold MapOk; rw [hr]; trivial⟩
/-! the true run -/
def vS (d : Desk) (f : Nat → List Nat) : Nat → Sit
  | 0 => startF d
  | k + 1 => (movedF d (vS d f k) (f k)).1
def vT (d : Desk) (f : Nat → List Nat) (k : Nat) : Tk := ((movedF d (vS d f k) (f k)).2.line, (movedF d (vS d f k) (f k)).2.away)
theorem vS_ok (d : Desk) (f : Nat → List Nat) : ∀ k, SitOk d (vS d f k)
  | 0 => start_sit d
  | k + 1 => moved_sit (vS_ok d f k) (f k)
theorem mp_id (s : Sit) : s.mp id = s := by cases s; simp [Sit.mp]
theorem id_ok (d : Desk) (s : Sit) : MapOk d id s := by
  unfold MapOk
  cases d.rule with
  | points ps => exact fun x => rfl
  | oldest => exact fun x _ y _ h => h
  | order xs => trivial
  | round => trivial
  | cycle xs => trivial
  | longest => trivial
theorem uS_map (d : Desk) (f : Nat → List Nat) : ∀ k, ∃ φ, uS d f k = (vS d f k).mp φ ∧ MapOk d φ (vS d f k)
  | 0 => by
    have := settled_map (id_ok d (startF d))
    rw [mp_id] at this
    exact this
  | k + 1 => by
    obtain ⟨φ, e, h⟩ := uS_map d f k
    obtain ⟨h1, _, _, h4⟩ := moved_map h (f k)
    obtain ⟨ψ, e2, h5⟩ := settled_map h4
    refine ⟨ψ, ?_, h5⟩
    show settledF d (movedF d (uS d f k) (f k)).1 = _
    rw [e, h1]; exact e2
theorem uT_eq (d : Desk) (f : Nat → List Nat) (k : Nat) : uT d f k = vT d f k := by
  obtain ⟨φ, e, h⟩ := uS_map d f k
  obtain ⟨_, h2, h3, _⟩ := moved_map h (f k)
  unfold uT vT
  rw [e, h2, h3]
end Qz
namespace Qz
open PySem PySem.Spec PyProof.Rows L2
/-! what comes again -/
theorem least {P : Nat → Prop} : ∀ n, P n → ∃ n, P n ∧ ∀ k, k < n → ¬ P k := by
  intro n
  induction n using Nat.strongRecOn with
  | _ n ih =>
    intro h
    by_cases e : ∃ k, k < n ∧ P k
    · obtain ⟨k, hk, hp⟩ := e
      exact ih k hk hp
    · exact ⟨n, h, fun k hk hp => e ⟨k, hk, hp⟩⟩
theorem nodup_len {α : Type} [DecidableEq α] : ∀ (l U : List α), l.Nodup → (∀ x ∈ l, x ∈ U) → l.length ≤ U.length
  | [], U, _, _ => by simp
  | x :: xs, U, h, hs => by
    have h1 := List.nodup_cons.mp h
    have hx := hs x (by simp)
    have := nodup_len xs (U.erase x) h1.2 fun y hy => (List.mem_erase_of_ne (fun e => by subst e; exact h1.1 hy)).mpr (hs y (by simp [hy]))
    rw [List.length_erase_of_mem hx] at this
    have := List.length_pos_of_mem hx
    simp only [List.length_cons]; omega
theorem first_rep {α : Type} (S : Nat → α) (U : List α) (h : ∀ i, S i ∈ U) : ∃ m j, j < m ∧ m ≤ U.length ∧ S m = S j ∧ ∀ a c, a < c → c < m → S a ≠ S c := by
  classical
  have h1 : ∃ c, c ≤ U.length ∧ ∃ a, a < c ∧ S c = S a := by
    refine Classical.byContradiction fun hn => ?_
    have hnd : ((List.range (U.length + 1)).map S).Nodup := by
      unfold List.Nodup
      rw [List.pairwise_map]
      refine List.Pairwise.imp_of_mem ?_ (List.pairwise_lt_range (n := U.length + 1))
      intro a b ha hb hab e
      exact hn ⟨b, by have := List.mem_range.mp hb; omega, a, hab, e.symm⟩
    have := nodup_len _ U hnd fun x hx => by
      obtain ⟨i, _, rfl⟩ := List.mem_map.mp hx
      exact h i
    simp at this
    omega
  obtain ⟨c, hc, ha⟩ := h1
  obtain ⟨m, ⟨j, hj, e⟩, hm⟩ := least (P := fun c => ∃ a, a < c ∧ S c = S a) c ha
  refine ⟨m, j, hj, ?_, e, fun a b hab hb e => hm b hb ⟨a, hab, e.symm⟩⟩
  rcases Nat.lt_or_ge c m with h | h
  · exact absurd ha (hm c h)
  · omega
/-! lists of all situations -/
def qL (b : Nat) : Nat → List (List Nat)
  | 0 => [[]]
  | r + 1 => [] :: (List.range b).flatMap fun a => (qL b r).map (a :: ·)
theorem qL_mem {b : Nat} : ∀ (r : Nat) (q : List Nat), q.length ≤ r → (∀ x ∈ q, x < b) → q ∈ qL b r
  | 0, q, h, _ => by
    have : q = [] := List.length_eq_zero_iff.mp (by omega)
    subst this; simp [qL]
  | r + 1, [], _, _ => by simp [qL]
  | r + 1, x :: q, h, hx => by
    refine List.mem_cons_of_mem _ (List.mem_flatMap.mpr ⟨x, List.mem_range.mpr (hx x (by simp)), List.mem_map.mpr ⟨q, qL_mem r q (by simpa using h) fun y hy => hx y (by simp [hy]), rfl⟩⟩)
theorem flat_len {α β : Type} {f : α → List β} {c : Nat} : ∀ (xs : List α), (∀ x ∈ xs, (f x).length = c) → (xs.flatMap f).length = xs.length * c
  | [], _ => by simp
  | x :: xs, h => by
    rw [List.flatMap_cons, List.length_append, h x (by simp), flat_len xs fun y hy => h y (by simp [hy]), List.length_cons, Nat.succ_mul]; omega
theorem qL_len (b r : Nat) : (qL b (r + 1)).length = 1 + b * (qL b r).length := by
  show ([] :: (List.range b).flatMap fun a => (qL b r).map (a :: ·)).length = _
  rw [List.length_cons, flat_len (c := (qL b r).length) _ (fun x _ => by simp), List.length_range, Nat.add_comm]
def qsL (b r : Nat) : Nat → List (List (List Nat))
  | 0 => [[]]
  | n + 1 => (qL b r).flatMap fun q => (qsL b r n).map (q :: ·)
theorem qsL_mem {b r : Nat} : ∀ (n : Nat) (qs : List (List Nat)), qs.length = n → (∀ q ∈ qs, q.length ≤ r ∧ ∀ x ∈ q, x < b) → qs ∈ qsL b r n
  | 0, qs, h, _ => by
    have : qs = [] := List.length_eq_zero_iff.mp h
    subst this; simp [qsL]
  | n + 1, [], h, _ => by simp at h
  | n + 1, q :: qs, h, hx => by
    refine List.mem_flatMap.mpr ⟨q, qL_mem r q (hx q (by simp)).1 (hx q (by simp)).2, List.mem_map.mpr ⟨qs, qsL_mem n qs (by simpa using h) fun y hy => hx y (by simp [hy]), rfl⟩⟩
theorem qsL_len (b r n : Nat) : (qsL b r (n + 1)).length = (qL b r).length * (qsL b r n).length := by
  show ((qL b r).flatMap fun q => (qsL b r n).map (q :: ·)).length = _
  rw [flat_len (c := (qsL b r n).length) _ (fun x _ => by simp)]
theorem qL_1 (b : Nat) : (qL b 1).length = 1 + b * 1 := qL_len b 0
theorem qL_2 (b : Nat) : (qL b 2).length = 1 + b * (1 + b * 1) := (qL_len b 1).trans (by rw [qL_1])
theorem qL_3 (b : Nat) : (qL b 3).length = 1 + b * (1 + b * (1 + b * 1)) := (qL_len b 2).trans (by rw [qL_2])
theorem qsL_1 (b r : Nat) : (qsL b r 1).length = (qL b r).length * 1 := qsL_len b r 0
theorem qsL_2 (b r : Nat) : (qsL b r 2).length = (qL b r).length * ((qL b r).length * 1) := (qsL_len b r 1).trans (by rw [qsL_1])
theorem qsL_3 (b r : Nat) : (qsL b r 3).length = (qL b r).length * ((qL b r).length * ((qL b r).length * 1)) := (qsL_len b r 2).trans (by rw [qsL_2])
def sitL (b P r n : Nat) : List Sit := (qsL b r n).flatMap fun qs => (List.range P).map fun p => ⟨qs, p⟩
theorem sitL_mem {b P r n : Nat} {s : Sit} (h1 : s.qs.length = n) (h2 : ∀ q ∈ s.qs, q.length ≤ r ∧ ∀ x ∈ q, x < b) (h3 : s.p < P) : s ∈ sitL b P r n :=
  List.mem_flatMap.mpr ⟨s.qs, qsL_mem n s.qs h1 h2, List.mem_map.mpr ⟨s.p, List.mem_range.mpr h3, rfl⟩⟩
theorem sitL_len (b P r n : Nat) : (sitL b P r n).length = (qsL b r n).length * P := by
  unfold sitL
  rw [flat_len (c := P) _ (fun x _ => by simp)]
theorem sitL_10 (d : Desk) (h : d.ok) : (sitL 10 1 d.room d.n).length ≤ 1367631 := by
  obtain ⟨h1, h3, r1, r3, m6, _⟩ := h
  rw [sitL_len]
  generalize d.n = n at *
  generalize d.room = r at *
  have en : n = 1 ∨ n = 2 ∨ n = 3 := by omega
  have er : r = 1 ∨ r = 2 ∨ r = 3 := by omega
  rcases en with rfl | rfl | rfl <;> rcases er with rfl | rfl | rfl <;> first | (exfalso; omega) | (simp only [qsL_1, qsL_2, qsL_3, qL_1, qL_2, qL_3]; omega)
theorem sitL_1 (d : Desk) (h : d.ok) : (sitL 1 6 d.room d.n).length ≤ 1367631 := by
  obtain ⟨h1, h3, r1, r3, m6, _⟩ := h
  rw [sitL_len]
  generalize d.n = n at *
  generalize d.room = r at *
  have en : n = 1 ∨ n = 2 ∨ n = 3 := by omega
  have er : r = 1 ∨ r = 2 ∨ r = 3 := by omega
  rcases en with rfl | rfl | rfl <;> rcases er with rfl | rfl | rfl <;> first | (exfalso; omega) | (simp only [qsL_1, qsL_2, qsL_3, qL_1, qL_2, qL_3]; omega)
end Qz
namespace Qz
open PySem PySem.Spec PyProof.Rows L2
/-! ages stay low -/
def cntG (qs : List (List Nat)) (t : Nat) : Nat := tot (qs.map fun q => q.filter fun y => decide (t ≤ y))
theorem qAt_filter (qs : List (List Nat)) (t l : Nat) : qAt (qs.map fun q => q.filter fun y => decide (t ≤ y)) l = (qAt qs l).filter fun y => decide (t ≤ y) := by
  unfold qAt; rw [List.getD, List.getElem?_map, List.getD]; cases qs[l]? <;> rfl
theorem cntG_set (qs : List (List Nat)) (l t : Nat) (q : List Nat) (h : l < qs.length) : cntG (qs.set l q) t + ((qAt qs l).filter fun y => decide (t ≤ y)).length = cntG qs t + (q.filter fun y => decide (t ≤ y)).length := by
  have := tot_set (qs.map fun q => q.filter fun y => decide (t ≤ y)) l (q.filter fun y => decide (t ≤ y)) (by simpa using h)
  rw [qAt_filter] at this
  unfold cntG
  rw [List.map_set]
  exact this
theorem cntG_older (qs : List (List Nat)) (t : Nat) : cntG (older qs) (t + 1) = cntG qs t := by
  unfold cntG older tot
  rw [List.map_map, List.map_map, List.map_map]
  congr 1
  refine List.map_congr_left fun q _ => ?_
  simp only [Function.comp_apply, List.filter_map, List.length_map]
  congr 2
  funext y
  simp
theorem cntG_come {room : Nat} {r : List (List Nat) × List Nat} {l t : Nat} (h : l < r.1.length) : cntG (come room r l).1 (t + 1) = cntG r.1 (t + 1) := by
  unfold come
  split
  · have := cntG_set r.1 l (t + 1) (qAt r.1 l ++ [0]) h
    have e : ((qAt r.1 l ++ [0]).filter fun y => decide (t + 1 ≤ y)).length = ((qAt r.1 l).filter fun y => decide (t + 1 ≤ y)).length := by
      rw [List.filter_append]; simp
    rw [e] at this
    simp only; omega
  · rfl
theorem cntG_fold {room t : Nat} : ∀ (a : List Nat) (r : List (List Nat) × List Nat), (∀ x ∈ a, x < r.1.length) → cntG (a.foldl (come room) r).1 (t + 1) = cntG r.1 (t + 1)
  | [], r, _ => rfl
  | x :: xs, r, h => by
    rw [List.foldl_cons, cntG_fold xs _ (fun y hy => by rw [come_len]; exact h y (by simp [hy])), cntG_come (h x (by simp))]
theorem cntG_arrived {d : Desk} {s : Sit} (hs : SitOk d s) {a : List Nat} (ha : ArrOk d.n a) (t : Nat) : cntG (arrived d.room s.qs a).1 (t + 1) = cntG s.qs t := by
  unfold arrived
  rw [cntG_fold a _ fun x hx => by simp [older, hs.len]; exact ha.lt x hx]
  exact cntG_older s.qs t
theorem cntG_leave {qs : List (List Nat)} {l t : Nat} (h : l < qs.length) (hne : qAt qs l ≠ []) (ht : t ≤ (qAt qs l).headD 0) : cntG (leave qs (some l)) t + 1 = cntG qs t := by
  have := cntG_set qs l t (qAt qs l).tail h
  show cntG (qs.set l (qAt qs l).tail) t + 1 = _
  cases e : qAt qs l with
  | nil => exact absurd e hne
  | cons x xs =>
    rw [e] at this ht
    simp only [List.headD_cons] at ht
    simp only [List.tail_cons] at this ⊢
    rw [List.filter_cons_of_pos (by simpa using ht), List.length_cons] at this
    omega
theorem tot_filter (qs : List (List Nat)) (t : Nat) : cntG qs t ≤ tot qs := by
  unfold cntG
  induction qs with
  | nil => simp [tot]
  | cons q qs ih =>
    have := List.length_filter_le (fun y => decide (t ≤ y)) q
    simp only [tot, List.map_cons, List.sum_cons] at ih ⊢
    omega
theorem cntG_pos {qs : List (List Nat)} {own x t : Nat} (hx : x ∈ qAt qs own) (ht : t ≤ x) : 1 ≤ cntG qs t := by
  have ho : own < qs.length := by
    unfold qAt at hx
    rw [List.getD] at hx
    cases e : qs[own]? with
    | none => rw [e] at hx; simp at hx
    | some q => exact (List.getElem?_eq_some_iff.mp e).1
  have h1 := cntG_set qs own t [] ho
  have h2 : 0 < ((qAt qs own).filter fun y => decide (t ≤ y)).length := List.length_pos_of_mem (List.mem_filter.mpr ⟨hx, by simpa using ht⟩)
  simp at h1
  omega
theorem tot_six {d : Desk} (h : d.ok) {s : Sit} (hs : SitOk d s) : tot s.qs ≤ 6 := by
  have : ∀ (qs : List (List Nat)) (r : Nat), (∀ q ∈ qs, q.length ≤ r) → tot qs ≤ qs.length * r := by
    intro qs r
    induction qs with
    | nil => intro _; simp [tot]
    | cons q qs ih =>
      intro hq
      have h1 := ih fun x hx => hq x (by simp [hx])
      have h2 := hq q (by simp)
      simp only [tot, List.map_cons, List.sum_cons, List.length_cons, Nat.succ_mul] at h1 ⊢
      omega
  have h1 := this s.qs d.room hs.room
  rw [hs.len] at h1
  have := h.m6; omega
def AgeI (s : Sit) : Prop := ∀ own, ∀ x ∈ qAt s.qs own, 4 ≤ x → cntG s.qs (x - 4) + (x - 4) ≤ 6
def Seen (d : Desk) : Prop := (∃ ps, d.rule = .points ps) ∨ d.rule = .oldest
theorem ch_seen {d : Desk} (h : d.ok) (hr : Seen d) {qs : List (List Nat)} {p l own : Nat} (e : (chosenF d qs p).1 = some l) (ho : own ∈ there d.n qs) : (qAt qs own).headD 0 ≤ (qAt qs l).headD 0 + 4 := by
  rcases hr with ⟨ps, hr⟩ | hr
  · have h1 := ch_points hr e ho
    have h2 := h.ru
    rw [hr] at h2
    have h3 : ps.getD l 0 ≤ 4 := by
      rw [List.getD]
      cases e2 : ps[l]? with
      | none => simp
      | some x => exact h2.2 x (List.mem_of_getElem? e2)
    omega
  · have := ch_oldest hr e ho; omega
theorem age_step {d : Desk} (h : d.ok) (hr : Seen d) {s : Sit} (hs : SitOk d s) {a : List Nat} (ha : ArrOk d.n a) (hD : Dec s) (hI : AgeI s) : AgeI (movedF d s a).1 := by
  intro own x hx h4
  have hs' := moved_sit hs a
  rcases Nat.lt_or_ge 4 x with h5 | h5
  · have hxa : x ∈ qAt (arrived d.room s.qs a).1 own := by
      rw [moved_qAt h hs] at hx
      split at hx
      · exact List.mem_of_mem_tail hx
      · exact hx
    have hold : ∃ y, y ∈ qAt s.qs own ∧ x = y + 1 := by
      rw [arrived_qAt hs ha own] at hxa
      rcases List.mem_append.mp hxa with h1 | h1
      · obtain ⟨y, hy, rfl⟩ := List.mem_map.mp h1; exact ⟨y, hy, rfl⟩
      · split at h1
        · simp at h1; omega
        · simp at h1
    obtain ⟨y, hy, rfl⟩ := hold
    have hi := hI own y hy (by omega)
    obtain ⟨z, rfl⟩ : ∃ z, y = z + 4 := ⟨y - 4, by omega⟩
    rw [Nat.add_sub_cancel] at hi
    have e1 := cntG_arrived hs ha z
    have hlen := (arrived_ok hs a).1
    have hth : own ∈ there d.n (arrived d.room s.qs a).1 := there_of hlen hxa
    have hhead := dec_head (arrived_dec hs ha hD own) _ hxa
    have e2 : cntG (movedF d s a).1.qs (z + 1) + 1 = cntG (arrived d.room s.qs a).1 (z + 1) := by
      show cntG (leave (arrived d.room s.qs a).1 (chosenF d (arrived d.room s.qs a).1 s.p).1) (z + 1) + 1 = _
      cases e : (chosenF d (arrived d.room s.qs a).1 s.p).1 with
      | none => rw [chosenF_none.mp e] at hth; simp at hth
      | some l =>
        obtain ⟨g1, g2⟩ := there_mem.mp (chosenF_mem h e)
        have := ch_seen h hr e hth
        exact cntG_leave (by omega) g2 (by omega)
    rw [show z + 4 + 1 - 4 = z + 1 by omega]
    omega
  · have : x = 4 := by omega
    subst this
    have h1 := tot_filter (movedF d s a).1.qs (4 - 4)
    have h2 := tot_six h hs'
    omega
theorem age_run {d : Desk} (h : d.ok) (hr : Seen d) (f : Nat → List Nat) (hf : ∀ k, ArrOk d.n (f k)) : ∀ k, AgeI (vS d f k) ∧ Dec (vS d f k)
  | 0 => ⟨fun own x hx => by rw [show vS d f 0 = startF d from rfl, start_qAt] at hx; simp at hx, start_dec d⟩
  | k + 1 => ⟨age_step h hr (vS_ok d f k) (hf k) (age_run h hr f hf k).2 (age_run h hr f hf k).1, moved_dec h (vS_ok d f k) (hf k) (age_run h hr f hf k).2⟩
theorem age_low {d : Desk} (h : d.ok) (hr : Seen d) (f : Nat → List Nat) (hf : ∀ k, ArrOk d.n (f k)) (k own x : Nat) (hx : x ∈ qAt (vS d f k).qs own) : x < 10 := by
  have h1 := (age_run h hr f hf k).1 own x hx
  rcases Nat.lt_or_ge x 4 with h4 | h4
  · omega
  · have h2 := h1 h4
    have h3 := cntG_pos hx (t := x - 4) (by omega)
    omega
end Qz
namespace Qz
open PySem PySem.Spec PyProof.Rows L2
theorem ch_ptr {d : Desk} (h : d.ok) (qs : List (List Nat)) (p : Nat) : (p < 6 → (chosenF d qs p).2 < 6) ∧ (Seen d → (chosenF d qs p).2 = p) := by
  have h1 := h.n1; have h3 := h.n3
  unfold chosenF
  split
  · exact ⟨fun h => h, fun _ => rfl⟩
  · cases hr : d.rule with
    | order xs => exact ⟨fun h => h, fun _ => rfl⟩
    | longest => exact ⟨fun h => h, fun _ => rfl⟩
    | points ps => exact ⟨fun h => h, fun _ => rfl⟩
    | oldest => exact ⟨fun h => h, fun _ => rfl⟩
    | round =>
      refine ⟨fun _ => ?_, fun hs => ?_⟩
      · show ((turnR d.n p).filter fun l => decide (l ∈ there d.n qs)).headD 0 < 6
        cases e : (turnR d.n p).filter fun l => decide (l ∈ there d.n qs) with
        | nil => simp
        | cons x xs =>
          have : x ∈ (turnR d.n p).filter fun l => decide (l ∈ there d.n qs) := by rw [e]; simp
          have := turnR_lt (List.mem_filter.mp this).1 (by omega)
          simp; omega
      · rcases hs with ⟨ps, e⟩ | e <;> rw [hr] at e <;> cases e
    | cycle xs =>
      refine ⟨fun _ => ?_, fun hs => ?_⟩
      · have h2 := h.ru
        rw [hr] at h2
        have h4 := rule_len h2 h1
        have := Nat.mod_lt (slotC xs (there d.n qs) p + 1) h4
        have := h2.1
        show (slotC xs (there d.n qs) p + 1) % xs.length < 6
        omega
      · rcases hs with ⟨ps, e⟩ | e <;> rw [hr] at e <;> cases e
theorem vS_ptr {d : Desk} (h : d.ok) (f : Nat → List Nat) : ∀ k, (vS d f k).p < 6 ∧ (Seen d → (vS d f k).p = 0)
  | 0 => by
    have h3 := h.n3
    show (startF d).p < 6 ∧ (Seen d → (startF d).p = 0)
    unfold startF
    cases hr : d.rule with
    | round =>
      refine ⟨by show d.n - 1 < 6; omega, fun hs => ?_⟩
      rcases hs with ⟨ps, e⟩ | e <;> rw [hr] at e <;> cases e
    | order xs => exact ⟨by show 0 < 6; omega, fun _ => rfl⟩
    | cycle xs => exact ⟨by show 0 < 6; omega, fun _ => rfl⟩
    | longest => exact ⟨by show 0 < 6; omega, fun _ => rfl⟩
    | points ps => exact ⟨by show 0 < 6; omega, fun _ => rfl⟩
    | oldest => exact ⟨by show 0 < 6; omega, fun _ => rfl⟩
  | k + 1 => by
    obtain ⟨h1, h2⟩ := vS_ptr h f k
    have h3 := ch_ptr h (arrived d.room (vS d f k).qs (f k)).1 (vS d f k).p
    show (chosenF d (arrived d.room (vS d f k).qs (f k)).1 (vS d f k).p).2 < 6 ∧ (Seen d → (chosenF d (arrived d.room (vS d f k).qs (f k)).1 (vS d f k).p).2 = 0)
    exact ⟨h3.1 h1, fun hs => by rw [h3.2 hs]; exact h2 hs⟩
theorem mem_qAt {qs : List (List Nat)} {q : List Nat} (h : q ∈ qs) : ∃ l, qAt qs l = q := by
  obtain ⟨l, hl⟩ := List.mem_iff_getElem?.mp h
  exact ⟨l, by unfold qAt; rw [List.getD, hl]; rfl⟩
theorem vS_fin {d : Desk} (h : d.ok) (hr : Seen d) (f : Nat → List Nat) (hf : ∀ k, ArrOk d.n (f k)) (k : Nat) : vS d f k ∈ sitL 10 1 d.room d.n := by
  refine sitL_mem (vS_ok d f k).len (fun q hq => ⟨(vS_ok d f k).room q hq, fun x hx => ?_⟩) (by rw [(vS_ptr h f k).2 hr]; omega)
  obtain ⟨l, rfl⟩ := mem_qAt hq
  exact age_low h hr f hf k l x hx
theorem zero_fin {d : Desk} (h : d.ok) (f : Nat → List Nat) (k : Nat) : (vS d f k).mp (fun _ => 0) ∈ sitL 1 6 d.room d.n := by
  refine sitL_mem (by simpa [Sit.mp] using (vS_ok d f k).len) (fun q hq => ?_) (vS_ptr h f k).1
  obtain ⟨q', hq', rfl⟩ := List.mem_map.mp hq
  refine ⟨by simpa using (vS_ok d f k).room q' hq', fun x hx => ?_⟩
  obtain ⟨y, _, rfl⟩ := List.mem_map.mp hx
  omega
def lkF (d : Desk) (s : Sit) : Sit := match d.rule with
  | .points _ => s
  | .oldest => s
  | _ => s.mp fun _ => 0
theorem lk_fin {d : Desk} (h : d.ok) (f : Nat → List Nat) (hf : ∀ k, ArrOk d.n (f k)) : ∃ U : List Sit, U.length ≤ 1367631 ∧ ∀ k, lkF d (vS d f k) ∈ U := by
  unfold lkF
  cases hr : d.rule with
  | points ps => exact ⟨_, sitL_10 d h, vS_fin h (.inl ⟨ps, hr⟩) f hf⟩
  | oldest => exact ⟨_, sitL_10 d h, vS_fin h (.inr hr) f hf⟩
  | order xs => exact ⟨_, sitL_1 d h, zero_fin h f⟩
  | round => exact ⟨_, sitL_1 d h, zero_fin h f⟩
  | cycle xs => exact ⟨_, sitL_1 d h, zero_fin h f⟩
  | longest => exact ⟨_, sitL_1 d h, zero_fin h f⟩
theorem uS_settled (d : Desk) (f : Nat → List Nat) : ∀ k, ∃ x, SitOk d x ∧ uS d f k = settledF d x
  | 0 => ⟨_, start_sit d, rfl⟩
  | k + 1 => ⟨_, moved_sit (uS_ok d f k) (f k), rfl⟩
theorem uS_p {d : Desk} (f : Nat → List Nat) (k : Nat) : (uS d f k).p = (vS d f k).p := by
  obtain ⟨φ, e, _⟩ := uS_map d f k
  rw [e]; rfl
theorem uS_zero {d : Desk} (h : d.ok) (f : Nat → List Nat) (hz : ∀ x, settledF d x = ⟨x.qs.map fun q => q.map fun _ => 0, x.p⟩) (k : Nat) : uS d f k ∈ sitL 1 6 d.room d.n := by
  obtain ⟨x, hx, e⟩ := uS_settled d f k
  refine sitL_mem (uS_ok d f k).len (fun q hq => ⟨(uS_ok d f k).room q hq, fun y hy => ?_⟩) (by rw [uS_p]; exact (vS_ptr h f k).1)
  rw [e, hz] at hq
  obtain ⟨q', _, rfl⟩ := List.mem_map.mp hq
  obtain ⟨z, _, rfl⟩ := List.mem_map.mp hy
  omega
theorem flat_nine {d : Desk} (h : d.ok) {s : Sit} (hs : SitOk d s) : s.qs.flatten.length ≤ 6 := by
  have := tot_six h hs
  rw [List.length_flatten]; exact this
theorem uS_fin {d : Desk} (h : d.ok) (f : Nat → List Nat) (hf : ∀ k, ArrOk d.n (f k)) : ∃ U : List Sit, U.length ≤ 1367631 ∧ ∀ k, uS d f k ∈ U := by
  cases hr : d.rule with
  | points ps =>
    refine ⟨_, sitL_10 d h, fun k => ?_⟩
    obtain ⟨φ, e, hm⟩ := uS_map d f k
    unfold MapOk at hm
    rw [hr] at hm
    have : φ = id := funext hm
    rw [e, this, mp_id]
    exact vS_fin h (.inl ⟨ps, hr⟩) f hf k
  | oldest =>
    refine ⟨_, sitL_10 d h, fun k => ?_⟩
    obtain ⟨x, hx, e⟩ := uS_settled d f k
    refine sitL_mem (uS_ok d f k).len (fun q hq => ⟨(uS_ok d f k).room q hq, fun y hy => ?_⟩) (by rw [uS_p, (vS_ptr h f k).2 (.inr hr)]; omega)
    rw [e] at hq
    unfold settledF at hq
    rw [hr] at hq
    obtain ⟨q', hq', rfl⟩ := List.mem_map.mp hq
    obtain ⟨z, hz, rfl⟩ := List.mem_map.mp hy
    have h1 := rank_le (ages := x.qs.flatten) (List.mem_flatten.mpr ⟨q', hq', hz⟩)
    have h2 := flat_nine h hx
    omega
  | order xs => exact ⟨_, sitL_1 d h, uS_zero h f fun x => by unfold settledF; rw [hr]⟩
  | round => exact ⟨_, sitL_1 d h, uS_zero h f fun x => by unfold settledF; rw [hr]⟩
  | cycle xs => exact ⟨_, sitL_1 d h, uS_zero h f fun x => by unfold settledF; rw [hr]⟩
  | longest => exact ⟨_, sitL_1 d h, uS_zero h f fun x => by unfold settledF; rw [hr]⟩
/-! periods -/
theorem u_per {d : Desk} {f : Nat → List Nat} {a b : Nat} (he : uS d f a = uS d f b) (hf : ∀ t, f (a + t) = f (b + t)) : ∀ t, uS d f (a + t) = uS d f (b + t)
  | 0 => he
  | t + 1 => by
    show settledF d (movedF d (uS d f (a + t)) (f (a + t))).1 = settledF d (movedF d (uS d f (b + t)) (f (b + t))).1
    rw [u_per he hf t, hf t]
theorem u_perT {d : Desk} {f : Nat → List Nat} {a b : Nat} (he : uS d f a = uS d f b) (hf : ∀ t, f (a + t) = f (b + t)) (t : Nat) : vT d f (a + t) = vT d f (b + t) := by
  rw [← uT_eq, ← uT_eq]
  unfold uT
  rw [u_per he hf t, hf t]
theorem mp_mp (s : Sit) (φ ψ : Nat → Nat) : (s.mp φ).mp ψ = s.mp fun x => ψ (φ x) := by
  unfold Sit.mp
  simp only [List.map_map, Function.comp_def]
theorem lk_step {d : Desk} {s t : Sit} (h : lkF d s = lkF d t) (a : List Nat) : lkF d (movedF d s a).1 = lkF d (movedF d t a).1 ∧ (movedF d s a).2.line = (movedF d t a).2.line ∧ (movedF d s a).2.away = (movedF d t a).2.away := by
  have hz : ∀ (hm : ∀ s : Sit, MapOk d (fun _ => 0) s), s.mp (fun _ => 0) = t.mp (fun _ => 0) → (movedF d s a).1.mp (fun _ => 0) = (movedF d t a).1.mp (fun _ => 0) ∧ (movedF d s a).2.line = (movedF d t a).2.line ∧ (movedF d s a).2.away = (movedF d t a).2.away := by
    intro hm e
    obtain ⟨a1, a2, a3, _⟩ := moved_map (hm s) a
    obtain ⟨b1, b2, b3, _⟩ := moved_map (hm t) a
    refine ⟨?_, by rw [← a2, ← b2, e], by rw [← a3, ← b3, e]⟩
    have := congrArg (fun z : Sit => z.mp fun _ => 0) (a1.symm.trans ((by rw [e] : (movedF d (s.mp fun _ => 0) a).1 = (movedF d (t.mp fun _ => 0) a).1).trans b1))
    simp only [mp_mp] at this
    exact this
  unfold lkF at h ⊢
  cases hr : d.rule with
  | points ps => rw [hr] at h; simp only at h; subst h; exact ⟨rfl, rfl, rfl⟩
  | oldest => rw [hr] at h; simp only at h; subst h; exact ⟨rfl, rfl, rfl⟩
  | order xs => rw [hr] at h; exact hz (fun s => by unfold MapOk; rw [hr]; trivial) h
  | round => rw [hr] at h; exact hz (fun s => by unfold MapOk; rw [hr]; trivial) h
  | cycle xs => rw [hr] at h; exact hz (fun s => by unfold MapOk; rw [hr]; trivial) h
  | longest => rw [hr] at h; exact hz (fun s => by unfold MapOk; rw [hr]; trivial) h
theorem l_per {d : Desk} {f : Nat → List Nat} {a b : Nat} (he : lkF d (vS d f a) = lkF d (vS d f b)) (hf : ∀ t, f (a + t) = f (b + t)) : ∀ t, lkF d (vS d f (a + t)) = lkF d (vS d f (b + t))
  | 0 => he
  | t + 1 => by
    have := (lk_step (l_per he hf t) (f (a + t))).1
    show lkF d (movedF d (vS d f (a + t)) (f (a + t))).1 = lkF d (movedF d (vS d f (b + t)) (f (b + t))).1
    rw [this, hf t]
theorem l_perT {d : Desk} {f : Nat → List Nat} {a b : Nat} (he : lkF d (vS d f a) = lkF d (vS d f b)) (hf : ∀ t, f (a + t) = f (b + t)) (t : Nat) : vT d f (a + t) = vT d f (b + t) := by
  obtain ⟨_, h2, h3⟩ := lk_step (l_per he hf t) (f (a + t))
  unfold vT
  rw [h2, h3, hf t]
end Qz
namespace Qz
open PySem PySem.Spec PyProof.Rows L2
/-! two desks side by side: keys, sources -/
abbrev Jt := Sit × Sit
abbrev Src := List (Jt × Option (Jt × List Nat))
def Jd (k : Jt) : PyData := .tuple [k.1.d, k.2.d]
def Jk (k : Jt) : NestedKey := .tup [sK k.1, sK k.2]
def Jv : Option (Jt × List Nat) → PyData
  | none => .none
  | some (k, a) => .tuple [Jd k, dT a]
theorem keyOf_sit (s : Sit) : keyOf s.d = some (sK s) ∧ (sK s).depth ≤ 3 := by
  have e : keysOf (s.qs.map dT) = some (s.qs.map kT) := keysOf_map s.qs fun x _ => keyOf_dT x
  refine ⟨?_, ?_⟩
  · show keyOf (.tuple [.tuple (s.qs.map dT), dN s.p]) = _
    rw [keyOf_tuple, keysOf_cons, keyOf_tuple, e]
    simp [sK]
  · have h1 : NestedKey.depthAll (s.qs.map kT) ≤ 1 := depthAll_le fun k hk => by
      obtain ⟨q, _, rfl⟩ := List.mem_map.mp hk
      exact depth_kT q
    simp only [sK, NestedKey.depth, NestedKey.depthAll]
    omega
theorem keyT'_J (k : Jt) : keyT' (Jd k) = some (Jk k) := by
  obtain ⟨e1, d1⟩ := keyOf_sit k.1
  obtain ⟨e2, d2⟩ := keyOf_sit k.2
  refine keyT'_of ?_ ?_
  · rw [keyOf_tuple, keysOf_cons, e1, keysOf_cons, e2]
    simp [Jk]
  · simp only [Jk, NestedKey.depth, NestedKey.depthAll]
    omega
theorem Jk_inj {k l : Jt} (e : Jk k = Jk l) : k = l := by
  unfold Jk at e
  injection e with e1
  injection e1 with e2 e3
  injection e3 with e4 _
  exact Prod.ext (sK_inj e2) (sK_inj e4)
def srcK' (S : Src) : List NestedKey := S.map fun e => Jk e.1
def srcO (S : Src) : List OV := S.map fun e => .fz (Jv e.2)
theorem src_mem {S : Src} {k : Jt} : Jk k ∈ srcK' S ↔ k ∈ S.map Prod.fst := by
  unfold srcK'
  constructor
  · intro h
    obtain ⟨e, he, hk⟩ := List.mem_map.mp h
    exact List.mem_map.mpr ⟨e, he, Jk_inj hk⟩
  · intro h
    obtain ⟨e, he, rfl⟩ := List.mem_map.mp h
    exact List.mem_map.mpr ⟨e, he, rfl⟩
/-- the value behind a key, when keys are distinct -/
theorem src_at {S : Src} (hd : (S.map Prod.fst).Nodup) {k : Jt} {v : Option (Jt × List Nat)} (h : (k, v) ∈ S) : ∃ j, kIx (srcK' S) (Jk k) = some j ∧ (srcO S)[j]? = some (.fz (Jv v)) := by
  obtain ⟨j, h1, h2⟩ := kIx_mem (src_mem.mpr (List.mem_map.mpr ⟨(k, v), h, rfl⟩))
  refine ⟨j, h1, ?_⟩
  unfold srcK' at h2
  rw [List.getElem?_map] at h2
  obtain ⟨e, he, hk⟩ := Option.map_eq_some_iff.mp h2
  have hke : e.1 = k := Jk_inj hk
  have hev : e = (k, v) := by
    obtain ⟨i, hi⟩ := List.mem_iff_getElem?.mp h
    obtain ⟨l1, g1⟩ := List.getElem?_eq_some_iff.mp he
    obtain ⟨l2, g2⟩ := List.getElem?_eq_some_iff.mp hi
    have hij : j = i := by
      have hp := List.pairwise_iff_getElem.mp hd
      rcases Nat.lt_trichotomy j i with h3 | h3 | h3
      · exfalso
        have := hp j i (by simpa using l1) (by simpa using l2) h3
        simp [g1, g2, hke] at this
      · exact h3
      · exfalso
        have := hp i j (by simpa using l2) (by simpa using l1) h3
        simp [g1, g2, hke] at this
    subst hij
    rw [he] at hi
    exact Option.some.inj hi
  unfold srcO
  rw [List.getElem?_map, he, hev]
  rfl
inductive Path (S : Src) : Jt → List (List Nat) → Prop
  | nil {k : Jt} : (k, none) ∈ S → Path S k []
  | snoc {k l : Jt} {a : List Nat} {r : List (List Nat)} : (k, some (l, a)) ∈ S → Path S l r → Path S k (r ++ [a])
theorem Path.mono {S T : Src} (h : ∀ e ∈ S, e ∈ T) {k : Jt} {r : List (List Nat)} (p : Path S k r) : Path T k r := by
  induction p with
  | nil h1 => exact .nil (h _ h1)
  | snoc h1 _ ih => exact .snoc (h _ h1) ih
/-! row_to -/
theorem row_to_loop {S : Src} (hd : (S.map Prod.fst).Nodup) {k : Jt} {r : List (List Nat)} (p : Path S k r) : ∀ (N : Nat) (acc : List (List Nat)) (v1 v3 : SV), r.length < N → acc.length + r.length ≤ 16777214 → (v1 = .bo (.fz (Jd k)) ∨ v1 = .ow (.fz (Jd k))) → Lo v3 →
    ∃ w1 w3, Lo w3 ∧ whileL (fB (f2 gIsNot (fR2 gIxN (frName 0) (fName 1)) (f0 (some (.fr .none))))) l_row_to_0 N [.bo (.nd (.dct (srcK' S)) (srcO S)), v1, .ow (.ls (acc.map fun a => .fz (dT a))), v3] = some (.nx, [.bo (.nd (.dct (srcK' S)) (srcO S)), w1, .ow (.ls ((acc ++ r.reverse).map fun a => .fz (dT a))), w3]) := by
  induction p with
  | @nil k h1 =>
    intro N acc v1 v3 hN hl hv h3
    obtain ⟨j, e1, e2⟩ := src_at hd h1
    have ek := keyT'_J k
    refine ⟨v1, v3, h3, ?_⟩
    cases N with
    | zero => simp at hN
    | succ N =>
      have hc : fB (f2 gIsNot (fR2 gIxN (frName 0) (fName 1)) (f0 (some (.fr .none)))) [.bo (.nd (.dct (srcK' S)) (srcO S)), v1, .ow (.ls (acc.map fun a => .fz (dT a))), v3] = some (false, [.bo (.nd (.dct (srcK' S)) (srcO S)), v1, .ow (.ls (acc.map fun a => .fz (dT a))), v3]) := by
        rcases hv with rfl | rfl <;> cases h3 <;> simp [ek, e1, e2, Jv]
      unfold whileL
      rw [hc]
      simp
  | @snoc k l a r h1 _ ih =>
    intro N acc v1 v3 hN hl hv h3
    obtain ⟨j, e1, e2⟩ := src_at hd h1
    have ek := keyT'_J k
    cases N with
    | zero => simp at hN
    | succ N =>
      obtain ⟨w1, w3, hw, g⟩ := ih N (acc ++ [a]) (.ow (.fz (Jd l))) (.ow (.fz (dT a))) (by simp at hN; omega) (by simp at hl ⊢; omega) (.inr rfl) .fz
      refine ⟨w1, w3, hw, ?_⟩
      have hc : fB (f2 gIsNot (fR2 gIxN (frName 0) (fName 1)) (f0 (some (.fr .none)))) [.bo (.nd (.dct (srcK' S)) (srcO S)), v1, .ow (.ls (acc.map fun a => .fz (dT a))), v3] = some (true, [.bo (.nd (.dct (srcK' S)) (srcO S)), v1, .ow (.ls (acc.map fun a => .fz (dT a))), v3]) := by
        rcases hv with rfl | rfl <;> cases h3 <;> simp [ek, e1, e2, Jv]
      have hs : acc.length < sizeLine := by rw [sizeLine_eq]; omega
      have hb : l_row_to_0 [.bo (.nd (.dct (srcK' S)) (srcO S)), v1, .ow (.ls (acc.map fun a => .fz (dT a))), v3] = some (.nx, [.bo (.nd (.dct (srcK' S)) (srcO S)), .ow (.fz (Jd l)), .ow (.ls ((acc ++ [a]).map fun a => .fz (dT a))), .ow (.fz (dT a))]) := by
        rcases hv with rfl | rfl <;> cases h3 <;> simp [l_row_to_0, ek, e1, e2, Jv, hs]
      unfold whileL
      rw [hc]
      simp only [hb]
      rw [g]
      simp
theorem row_to_ok {S : Src} (hd : (S.map Prod.fst).Nodup) {k : Jt} {r : List (List Nat)} (p : Path S k r) (hr : r.length ≤ 16777214) : m_row_to [.nd (.dct (srcK' S)) (srcO S), .fz (Jd k)] = some (.ls (r.map fun a => .fz (dT a))) := by
  obtain ⟨w1, w3, hw, g⟩ := row_to_loop hd p 1000000000 [] (.bo (.fz (Jd k))) .no (by omega) (by simp; omega) (.inl rfl) .no
  obtain ⟨q, hq⟩ : ∃ q, q = r.reverse := ⟨_, rfl⟩
  have hr2 : r = q.reverse := by rw [hq, List.reverse_reverse]
  simp only [List.map_nil, List.nil_append, ← hq] at g
  rw [hr2]
  simp [m_row_to, f_row_to, mFun, g]
end Qz
namespace Qz
open PySem PySem.Spec PyProof.Rows L2
/-! a search by levels, in plain words -/
section
variable (A : List (List Nat)) (stp : Jt → List Nat → Jt) (bad : Jt → List Nat → Bool) (k0 : Jt) (G : Jt → Prop)
def runJ (k : Jt) (r : List (List Nat)) : Jt := r.foldl stp k
theorem runJ_snoc (k : Jt) (r : List (List Nat)) (a : List Nat) : runJ stp k (r ++ [a]) = stp (runJ stp k r) a := by simp [runJ]
structure Lev (n : Nat) (S : Src) (lev : List Jt) : Prop where
  nd : (S.map Prod.fst).Nodup
  st : k0 ∈ S.map Prod.fst
  sub : ∀ k ∈ lev, ∃ r, Path S k r ∧ r.length = n ∧ runJ stp k0 r = k ∧ ∀ a ∈ r, a ∈ A
  clo : ∀ k ∈ S.map Prod.fst, k ∉ lev → ∀ a ∈ A, bad k a = false ∧ stp k a ∈ S.map Prod.fst
  far : ∀ k ∈ lev, ∀ r, (∀ a ∈ r, a ∈ A) → runJ stp k0 r = k → n ≤ r.length
  gd : ∀ k ∈ S.map Prod.fst, G k
variable {A stp bad k0 G}
theorem Lev.near {n : Nat} {S : Src} {lev : List Jt} (L : Lev A stp bad k0 G n S lev) : ∀ (r : List (List Nat)), (∀ a ∈ r, a ∈ A) → r.length ≤ n → runJ stp k0 r ∈ S.map Prod.fst := by
  intro r
  induction hr : r.length generalizing r with
  | zero => intro _ _; rw [List.length_eq_zero_iff.mp hr]; exact L.st
  | succ m ih =>
    intro hA hn
    obtain ⟨q, a, rfl⟩ : ∃ q a, r = q ++ [a] := by
      rcases List.eq_nil_or_concat r with h | ⟨q, a, h⟩
      · rw [h] at hr; simp at hr
      · exact ⟨q, a, by rw [h, List.concat_eq_append]⟩
    have hq : q.length = m := by simp at hr; exact hr
    have hA' : ∀ x ∈ q, x ∈ A := fun x hx => hA x (by simp [hx])
    have h1 := ih q hq hA' (by omega)
    rw [runJ_snoc]
    refine (L.clo _ h1 (fun hl => ?_) a (hA a (by simp))).2
    have := L.far _ hl q hA' rfl
    omega
theorem Lev.good {n : Nat} {S : Src} {lev : List Jt} (L : Lev A stp bad k0 G n S lev) (q : List (List Nat)) (a : List Nat) (hA : ∀ x ∈ q, x ∈ A) (ha : a ∈ A) (hn : q.length < n) : bad (runJ stp k0 q) a = false := by
  refine (L.clo _ (L.near q hA (by omega)) (fun hl => ?_) a ha).1
  have := L.far _ hl q hA rfl
  omega
theorem Lev.end_ {n : Nat} {S : Src} (L : Lev A stp bad k0 G n S []) : ∀ (q : List (List Nat)) (a : List Nat), (∀ x ∈ q, x ∈ A) → a ∈ A → bad (runJ stp k0 q) a = false := by
  have key : ∀ (m : Nat) (r : List (List Nat)), r.length = m → (∀ a ∈ r, a ∈ A) → runJ stp k0 r ∈ S.map Prod.fst := by
    intro m
    induction m with
    | zero => intro r hr _; rw [List.length_eq_zero_iff.mp hr]; exact L.st
    | succ m ih =>
      intro r hr hA
      obtain ⟨q, a, rfl⟩ : ∃ q a, r = q ++ [a] := by
        rcases List.eq_nil_or_concat r with h | ⟨q, a, h⟩
        · rw [h] at hr; simp at hr
        · exact ⟨q, a, by rw [h, List.concat_eq_append]⟩
      rw [runJ_snoc]
      exact (L.clo _ (ih q (by simpa using hr) fun x hx => hA x (by simp [hx])) (by simp) a (hA a (by simp))).2
  intro q a hA ha
  exact (L.clo _ (key _ q rfl hA) (by simp) a ha).1
variable (A stp bad)
structure Pass (S0 : Src) (lev : List Jt) (pr : Jt → List Nat → Prop) (S : Src) (later : List Jt) : Prop where
  ext : ∃ E : Src, S = S0 ++ E ∧ later = E.map Prod.fst ∧ ∀ e ∈ E, ∃ k a, k ∈ lev ∧ a ∈ A ∧ bad k a = false ∧ e = (stp k a, some (k, a))
  nd : (S.map Prod.fst).Nodup
  did : ∀ k a, pr k a → bad k a = false ∧ stp k a ∈ S.map Prod.fst
variable {A stp bad}
theorem Pass.old {S0 S : Src} {lev later : List Jt} {pr : Jt → List Nat → Prop} (P : Pass A stp bad S0 lev pr S later) {k : Jt} {a : List Nat} (hb : bad k a = false) (hm : stp k a ∈ S.map Prod.fst) : Pass A stp bad S0 lev (fun l b => pr l b ∨ (l = k ∧ b = a)) S later :=
  ⟨P.ext, P.nd, fun l b h => by
    rcases h with h | ⟨rfl, rfl⟩
    · exact P.did l b h
    · exact ⟨hb, hm⟩⟩
theorem Pass.new {S0 S : Src} {lev later : List Jt} {pr : Jt → List Nat → Prop} (P : Pass A stp bad S0 lev pr S later) {k : Jt} {a : List Nat} (hk : k ∈ lev) (ha : a ∈ A) (hb : bad k a = false) (hm : stp k a ∉ S.map Prod.fst) : Pass A stp bad S0 lev (fun l b => pr l b ∨ (l = k ∧ b = a)) (S ++ [(stp k a, some (k, a))]) (later ++ [stp k a]) := by
  obtain ⟨E, e1, e2, e3⟩ := P.ext
  refine ⟨⟨E ++ [(stp k a, some (k, a))], by rw [e1, List.append_assoc], by rw [e2]; simp, fun e he => ?_⟩, ?_, fun l b h => ?_⟩
  · rcases List.mem_append.mp he with he | he
    · exact e3 e he
    · simp at he; exact ⟨k, a, hk, ha, hb, he⟩
  · rw [List.map_append]
    refine List.nodup_append.mpr ⟨P.nd, by simp, fun x hx y hy e => ?_⟩
    simp at hy
    subst e
    rw [hy] at hx
    exact hm hx
  · rw [List.map_append]
    rcases h with h | ⟨rfl, rfl⟩
    · exact ⟨(P.did l b h).1, List.mem_append_left _ (P.did l b h).2⟩
    · exact ⟨hb, List.mem_append_right _ (by simp)⟩
theorem Pass.start {S0 : Src} (h : (S0.map Prod.fst).Nodup) (lev : List Jt) : Pass A stp bad S0 lev (fun _ _ => False) S0 [] :=
  ⟨⟨[], by simp, rfl, by simp⟩, h, fun _ _ h => h.elim⟩
theorem Pass.weak {S0 S : Src} {lev later : List Jt} {pr qr : Jt → List Nat → Prop} (P : Pass A stp bad S0 lev pr S later) (h : ∀ k a, qr k a → pr k a) : Pass A stp bad S0 lev qr S later := ⟨P.ext, P.nd, fun k a hq => P.did k a (h k a hq)⟩
theorem Path.mem {S : Src} {k : Jt} {r : List (List Nat)} (p : Path S k r) : k ∈ S.map Prod.fst := by
  cases p with
  | nil h => exact List.mem_map.mpr ⟨_, h, rfl⟩
  | snoc h _ => exact List.mem_map.mpr ⟨_, h, rfl⟩
theorem Pass.good {n : Nat} {S0 S : Src} {lev later : List Jt} {pr : Jt → List Nat → Prop} (P : Pass A stp bad S0 lev pr S later) (L : Lev A stp bad k0 G n S0 lev) (hG : ∀ k a, G k → a ∈ A → bad k a = false → G (stp k a)) : ∀ k ∈ S.map Prod.fst, G k := by
  obtain ⟨E, e1, e2, e3⟩ := P.ext
  intro k hk
  rw [e1, List.map_append] at hk
  rcases List.mem_append.mp hk with h | h
  · exact L.gd k h
  · obtain ⟨e, he, rfl⟩ := List.mem_map.mp h
    obtain ⟨l, a, hl, ha, hb, rfl⟩ := e3 e he
    obtain ⟨r, p, _⟩ := L.sub l hl
    exact hG l a (L.gd l p.mem) ha hb
theorem Lev.next {n : Nat} {S0 S : Src} {lev later : List Jt} {pr : Jt → List Nat → Prop} (L : Lev A stp bad k0 G n S0 lev) (P : Pass A stp bad S0 lev pr S later) (hall : ∀ k ∈ lev, ∀ a ∈ A, pr k a) (hG : ∀ k a, G k → a ∈ A → bad k a = false → G (stp k a)) : Lev A stp bad k0 G (n + 1) S later := by
  obtain ⟨E, e1, e2, e3⟩ := P.ext
  have hin : ∀ k ∈ S0.map Prod.fst, k ∈ S.map Prod.fst := fun k hk => by rw [e1, List.map_append]; exact List.mem_append_left _ hk
  have hnew : ∀ k ∈ later, k ∉ S0.map Prod.fst := by
    intro k hk hk2
    have := P.nd
    rw [e1, List.map_append, ← e2] at this
    exact (List.nodup_append.mp this).2.2 k hk2 k hk rfl
  refine ⟨P.nd, hin _ L.st, fun k hk => ?_, fun k hk hn a ha => ?_, fun k hk r hr he => ?_, P.good L hG⟩
  · rw [e2] at hk
    obtain ⟨e, he, rfl⟩ := List.mem_map.mp hk
    obtain ⟨l, a, hl, ha, _, rfl⟩ := e3 e he
    obtain ⟨r, p, h1, h2, h3⟩ := L.sub l hl
    refine ⟨r ++ [a], .snoc (by rw [e1]; exact List.mem_append_right _ he) (p.mono fun e he => by rw [e1]; exact List.mem_append_left _ he), by simp [h1], by rw [runJ_snoc, h2], fun x hx => ?_⟩
    rcases List.mem_append.mp hx with hx | hx
    · exact h3 x hx
    · simp at hx; rw [hx]; exact ha
  · have hk0 : k ∈ S0.map Prod.fst := by
      rw [e1, List.map_append, ← e2] at hk
      rcases List.mem_append.mp hk with h | h
      · exact h
      · exact absurd h hn
    by_cases hl : k ∈ lev
    · exact P.did k a (hall k hl a ha)
    · obtain ⟨h1, h2⟩ := L.clo k hk0 hl a ha
      exact ⟨h1, hin _ h2⟩
  · rcases Nat.lt_or_ge n r.length with h | h
    · exact h
    · have := L.near r hr h
      rw [he] at this
      exact absurd this (hnew k hk)
theorem Lev.found {n : Nat} {S0 S : Src} {lev later : List Jt} {pr : Jt → List Nat → Prop} (L : Lev A stp bad k0 G n S0 lev) (P : Pass A stp bad S0 lev pr S later) {k : Jt} (hk : k ∈ lev) : ∃ r, Path S k r ∧ r.length = n ∧ runJ stp k0 r = k ∧ ∀ a ∈ r, a ∈ A := by
  obtain ⟨E, e1, _, _⟩ := P.ext
  obtain ⟨r, p, h1, h2, h3⟩ := L.sub k hk
  exact ⟨r, p.mono fun e he => by rw [e1]; exact List.mem_append_left _ he, h1, h2, h3⟩
theorem Lev.first (h0 : G k0) : Lev A stp bad k0 G 0 [(k0, none)] [k0] where
  nd := by simp
  st := by simp
  sub := fun k hk => by
    simp at hk; subst hk
    exact ⟨[], .nil (by simp), rfl, rfl, by simp⟩
  clo := fun k hk hn => by simp at hk hn; exact absurd hk hn
  far := fun k _ r _ _ => Nat.zero_le _
  gd := fun k hk => by simp at hk; subst hk; exact h0
end
end Qz
namespace Qz
open PySem PySem.Spec PyProof.Rows L2
theorem arrivals_of_ok (d : Desk) (h1 : 1 ≤ d.n) (h3 : d.n ≤ 3) : m_arrivals_of [.fz d.d] = some (.ls ((arrs d.n).map fun a => .fz (dT a))) := by
  obtain ⟨n, room, rule⟩ := d
  have z0 : ∀ k : Nat, k < 100 → (k < sizeLine) = True := fun k h => by rw [sizeLine_eq]; simp; omega
  have z1 : ∀ k : Nat, k < 100 → (k ≤ sizeLine) = True := fun k h => by rw [sizeLine_eq]; simp; omega
  rcases (show n = 1 ∨ n = 2 ∨ n = 3 by simp at h1 h3; omega) with rfl | rfl | rfl <;>
    simp [m_arrivals_of, mFun, f_arrivals_of, l_arrivals_of_0, c_arrivals_of_0, Desk.d, rgD, List.range_succ, forL, compL, arrs, dT, z0, z1]
/-! parting -/
def stpJ (d e : Desk) (k : Jt) (a : List Nat) : Jt := (settledF d (movedF d k.1 a).1, settledF e (movedF e k.2 a).1)
def badJ (d e : Desk) (k : Jt) (a : List Nat) : Bool := !decide ((movedF d k.1 a).2.line = (movedF e k.2 a).2.line)
abbrev pS (d e : Desk) (k0 : Jt) (S : Src) (lev later : List Jt) (v6 v7 v8 v9 : SV) : Sta :=
  [.bo (.fz d.d), .bo (.fz e.d), .ow (.fz (Jd k0)), .ow (.nd (.dct (srcK' S)) (srcO S)), .ow (.fz (.list (lev.map Jd))), .ow (.ls (later.map fun k => .fz (Jd k))), v6, v7, v8, v9]
section
variable (d e : Desk) (hd : d.ok) (he : e.ok) (hn : d.n = e.n) (k0 : Jt) (S : Src) (lev later : List Jt)
include hd he hn
theorem parting_par (k : Jt) (h1 : SitOk d k.1) (h2 : SitOk e k.2) (a : List Nat) (ha : ArrOk d.n a) (v8 v9 : SV) (h8 : Lo v8) (h9 : Lo v9) : ∃ w8 w9 : PyData,
    w8 = .tuple [(stpJ d e k a).1.d, dO (movedF d k.1 a).2.line, .list ((movedF d k.1 a).2.away.map dN)] ∧ w9 = .tuple [(stpJ d e k a).2.d, dO (movedF e k.2 a).2.line, .list ((movedF e k.2 a).2.away.map dN)] ∧
    sPar [(true, 8), (true, 9)] [(fCall m_after [(fName 0), (f2 gIx (fName 6) (f0 (some (.fr (.int 0))))), (fName 7)]), (fCall m_after [(fName 1), (f2 gIx (fName 6) (f0 (some (.fr (.int 1))))), (fName 7)])] (pS d e k0 S lev later (.ow (.fz (Jd k))) (.ow (.fz (dT a))) v8 v9) =
      some (.nx, pS d e k0 S lev later (.ow (.fz (Jd k))) (.ow (.fz (dT a))) (.ow (.fz w8)) (.ow (.fz w9))) := by
  have c1 := after_ok d hd k.1 h1 a ha
  have c2 := after_ok e he k.2 h2 a (hn ▸ ha)
  refine ⟨_, _, rfl, rfl, ?_⟩
  have e1 : settledF d (movedF d k.1 a).1 = (stpJ d e k a).1 := rfl
  have e2 : settledF e (movedF e k.2 a).1 = (stpJ d e k a).2 := rfl
  rw [e1] at c1
  rw [e2] at c2
  have ek : Jd k = .tuple [k.1.d, k.2.d] := rfl
  rw [ek]
  generalize (stpJ d e k a) = q at *
  generalize (movedF d k.1 a).2 = t1 at *
  generalize (movedF e k.2 a).2 = t2 at *
  cases h8 <;> cases h9 <;> simp [c1, c2]
theorem parting_bad (k : Jt) (h1 : SitOk d k.1) (h2 : SitOk e k.2) (a : List Nat) (ha : ArrOk d.n a) (hb : badJ d e k a = true) (hS : (S.map Prod.fst).Nodup) {r : List (List Nat)} (p : Path S k r) (hr : r.length ≤ 16777214) (v8 v9 : SV) (h8 : Lo v8) (h9 : Lo v9) : ∃ L',
    l_parting_0 (pS d e k0 S lev later (.ow (.fz (Jd k))) (.ow (.fz (dT a))) v8 v9) = some (.rt (.ls ((r ++ [a]).map fun a => .fz (dT a))), L') := by
  obtain ⟨w8, w9, e8, e9, s0⟩ := parting_par d e hd he hn k0 S lev later k h1 h2 a ha v8 v9 h8 h9
  have c := row_to_ok hS p hr
  have hz : r.length + 1 ≤ sizeLine := by rw [sizeLine_eq]; omega
  have hb' : ¬ (movedF d k.1 a).2.line = (movedF e k.2 a).2.line := by unfold badJ at hb; simpa using hb
  refine ⟨pS d e k0 S lev later (.ow (.fz (Jd k))) (.ow (.fz (dT a))) (.ow (.fz w8)) (.ow (.fz w9)), ?_⟩
  unfold l_parting_0
  rw [sSeq_ap, s0]; simp only
  subst e8; subst e9
  generalize (movedF d k.1 a).2 = t1 at *
  generalize (movedF e k.2 a).2 = t2 at *
  generalize (stpJ d e k a) = q at *
  generalize Jd k = jk at *
  simp [hb', c, hz]
open Classical in
theorem parting_good (k : Jt) (h1 : SitOk d k.1) (h2 : SitOk e k.2) (a : List Nat) (ha : ArrOk d.n a) (hb : badJ d e k a = false) (hz : S.length < sizeLine) (hz2 : later.length < sizeLine) (v8 v9 : SV) (h8 : Lo v8) (h9 : Lo v9) : ∃ w8 w9, Lo w8 ∧ Lo w9 ∧
    l_parting_0 (pS d e k0 S lev later (.ow (.fz (Jd k))) (.ow (.fz (dT a))) v8 v9) = some (.nx, if stpJ d e k a ∈ S.map Prod.fst then pS d e k0 S lev later (.ow (.fz (Jd k))) (.ow (.fz (dT a))) w8 w9 else
      pS d e k0 (S ++ [(stpJ d e k a, some (k, a))]) lev (later ++ [stpJ d e k a]) (.ow (.fz (Jd k))) (.ow (.fz (dT a))) w8 w9) := by
  obtain ⟨w8, w9, e8, e9, s0⟩ := parting_par d e hd he hn k0 S lev later k h1 h2 a ha v8 v9 h8 h9
  have hb' : (movedF d k.1 a).2.line = (movedF e k.2 a).2.line := by unfold badJ at hb; simpa using hb
  refine ⟨.ow (.fz w8), .ow (.fz w9), .fz, .fz, ?_⟩
  unfold l_parting_0
  rw [sSeq_ap, s0]; simp only
  have ek := keyT'_J (stpJ d e k a)
  have ej : Jd (stpJ d e k a) = .tuple [(stpJ d e k a).1.d, (stpJ d e k a).2.d] := rfl
  have ev : Jv (some (k, a)) = .tuple [Jd k, dT a] := rfl
  have hS : (srcK' S).length < sizeLine := by simpa [srcK'] using hz
  subst e8; subst e9
  by_cases hm : stpJ d e k a ∈ S.map Prod.fst
  · rw [if_pos hm]
    obtain ⟨j, hj, _⟩ := kIx_mem (src_mem.mpr hm)
    rw [ej] at ek
    generalize (movedF d k.1 a).2 = t1 at *
    generalize (movedF e k.2 a).2 = t2 at *
    generalize Jk (stpJ d e k a) = jj at *
    generalize (stpJ d e k a).1.d = q1 at *
    generalize (stpJ d e k a).2.d = q2 at *
    generalize Jd k = jk at *
    simp [hb', ek, hj]
  · rw [if_neg hm]
    have hj : kIx (srcK' S) (Jk (stpJ d e k a)) = none := kIx_notin fun h => hm (src_mem.mp h)
    have eK : srcK' (S ++ [(stpJ d e k a, some (k, a))]) = srcK' S ++ [Jk (stpJ d e k a)] := by simp [srcK']
    have eO : srcO (S ++ [(stpJ d e k a, some (k, a))]) = srcO S ++ [.fz (.tuple [Jd k, dT a])] := by simp [srcO, Jv]
    have eL : ((later ++ [stpJ d e k a]).map fun k => OV.fz (Jd k)) = (later.map fun k => OV.fz (Jd k)) ++ [.fz (.tuple [(stpJ d e k a).1.d, (stpJ d e k a).2.d])] := by rw [← ej]; simp
    have eD : dput (srcK' S) (srcO S) (Jk (stpJ d e k a)) (.fz (.tuple [Jd k, dT a])) = .nd (.dct (srcK' S ++ [Jk (stpJ d e k a)])) (srcO S ++ [.fz (.tuple [Jd k, dT a])]) := by unfold dput; rw [hj]
    have hz3 : (later.map fun k => OV.fz (Jd k)).length < sizeLine := by simpa using hz2
    unfold pS
    rw [eK, eO, eL]
    rw [ej] at ek
    generalize (movedF d k.1 a).2 = t1 at *
    generalize (movedF e k.2 a).2 = t2 at *
    generalize Jk (stpJ d e k a) = jj at *
    generalize (stpJ d e k a).1.d = q1 at *
    generalize (stpJ d e k a).2.d = q2 at *
    generalize (later.map fun k => OV.fz (Jd k)) = ll at *
    generalize Jd k = jk at *
    simp [hb', ek, hj, hS, eD, hz3]
end
end Qz
namespace Qz
open PySem PySem.Spec PyProof.Rows L2
section
variable (d e : Desk) (hd : d.ok) (he : e.ok) (hn : d.n = e.n) (k0 : Jt) (G : Jt → Prop) (hG : ∀ k a, G k → a ∈ arrs d.n → badJ d e k a = false → G (stpJ d e k a)) (hS : ∀ k, G k → SitOk d k.1 ∧ SitOk e k.2) (hU : ∀ S : Src, (S.map Prod.fst).Nodup → (∀ k ∈ S.map Prod.fst, G k) → S.length < sizeLine)
include hd he hn hG hS hU
/-- what a search has found: a row whose last tick parts the desks, none shorter does -/
def Found (d e : Desk) (k0 : Jt) (n : Nat) (o : OV) : Prop := ∃ r a, (∀ x ∈ r, x ∈ arrs d.n) ∧ a ∈ arrs d.n ∧ r.length = n ∧ badJ d e (runJ (stpJ d e) k0 r) a = true ∧ o = .ls ((r ++ [a]).map fun a => .fz (dT a))
open Classical in
theorem parting_for1 {n : Nat} {S0 : Src} {lev : List Jt} (L : Lev (arrs d.n) (stpJ d e) (badJ d e) k0 G n S0 lev) (hn6 : n ≤ 16777214) (k : Jt) (hk : k ∈ lev) : ∀ (as : List (List Nat)), (∀ a ∈ as, a ∈ arrs d.n) → ∀ (S : Src) (later : List Jt) (pr : Jt → List Nat → Prop) (v7 v8 v9 : SV), Lo v7 → Lo v8 → Lo v9 → Pass (arrs d.n) (stpJ d e) (badJ d e) S0 lev pr S later →
    (∃ S' later' w7 w8 w9, Lo w7 ∧ Lo w8 ∧ Lo w9 ∧ forL (.nm 7) l_parting_0 (as.map dT) (pS d e k0 S lev later (.ow (.fz (Jd k))) v7 v8 v9) = some (.nx, pS d e k0 S' lev later' (.ow (.fz (Jd k))) w7 w8 w9) ∧ Pass (arrs d.n) (stpJ d e) (badJ d e) S0 lev (fun l b => pr l b ∨ (l = k ∧ b ∈ as)) S' later') ∨
    (∃ o L', Found d e k0 n o ∧ forL (.nm 7) l_parting_0 (as.map dT) (pS d e k0 S lev later (.ow (.fz (Jd k))) v7 v8 v9) = some (.rt o, L'))
  | [], _, S, later, pr, v7, v8, v9, h7, h8, h9, P => .inl ⟨S, later, v7, v8, v9, h7, h8, h9, rfl, P.weak fun l b h => by rcases h with h | ⟨_, h⟩; exact h; simp at h⟩
  | a :: as, hA, S, later, pr, v7, v8, v9, h7, h8, h9, P => by
    have ha := hA a (by simp)
    obtain ⟨r, p, hr1, hr2, hr3⟩ := L.found P hk
    have hGk : G k := by
      obtain ⟨r, p, _⟩ := L.sub k hk
      exact L.gd k p.mem
    obtain ⟨s1, s2⟩ := hS k hGk
    have hz := hU S P.nd (P.good L hG)
    have hz2 : later.length ≤ S.length := by
      obtain ⟨E, e1, e2, _⟩ := P.ext
      rw [e1, e2]; simp
    have hasg : asg (.nm 7) (dT a) (pS d e k0 S lev later (.ow (.fz (Jd k))) v7 v8 v9) = some (pS d e k0 S lev later (.ow (.fz (Jd k))) (.ow (.fz (dT a))) v8 v9) := by
      cases h7 <;> cases h8 <;> cases h9 <;> simp
    rw [List.map_cons]
    unfold forL
    rw [hasg]
    simp only
    cases hb : badJ d e k a with
    | true =>
      obtain ⟨L', g⟩ := parting_bad d e hd he hn k0 S lev later k s1 s2 a (arrs_ok ha) hb P.nd p (by omega) v8 v9 h8 h9
      refine .inr ⟨_, L', ⟨r, a, hr3, ha, hr1, by rw [hr2]; exact hb, rfl⟩, ?_⟩
      rw [g]
    | false =>
      obtain ⟨w8, w9, k8, k9, g⟩ := parting_good d e hd he hn k0 S lev later k s1 s2 a (arrs_ok ha) hb hz (by omega) v8 v9 h8 h9
      rw [g]
      simp only
      by_cases hm : stpJ d e k a ∈ S.map Prod.fst
      · rw [if_pos hm]
        rcases parting_for1 L hn6 k hk as (fun x hx => hA x (by simp [hx])) S later _ _ w8 w9 .fz k8 k9 (P.old hb hm) with ⟨S', later', u7, u8, u9, i7, i8, i9, g2, P2⟩ | h
        · exact .inl ⟨S', later', u7, u8, u9, i7, i8, i9, g2, P2.weak fun l b h => by
            rcases h with h | ⟨rfl, h⟩
            · exact .inl (.inl h)
            · rcases List.mem_cons.mp h with rfl | h
              · exact .inl (.inr ⟨rfl, rfl⟩)
              · exact .inr ⟨rfl, h⟩⟩
        · exact .inr h
      · rw [if_neg hm]
        rcases parting_for1 L hn6 k hk as (fun x hx => hA x (by simp [hx])) _ _ _ _ w8 w9 .fz k8 k9 (P.new hk ha hb hm) with ⟨S', later', u7, u8, u9, i7, i8, i9, g2, P2⟩ | h
        · exact .inl ⟨S', later', u7, u8, u9, i7, i8, i9, g2, P2.weak fun l b h => by
            rcases h with h | ⟨rfl, h⟩
            · exact .inl (.inl h)
            · rcases List.mem_cons.mp h with rfl | h
              · exact .inl (.inr ⟨rfl, rfl⟩)
              · exact .inr ⟨rfl, h⟩⟩
        · exact .inr h
end
end Qz
namespace Qz
open PySem PySem.Spec PyProof.Rows L2
theorem shaped_J (ks : List Jt) : SeqAt.shaped (.list (ks.map Jd)) = true := okD_shaped (by simp [Jd, Sit.d])
section
variable (d e : Desk) (hd : d.ok) (he : e.ok) (hn : d.n = e.n) (k0 : Jt) (G : Jt → Prop) (hG : ∀ k a, G k → a ∈ arrs d.n → badJ d e k a = false → G (stpJ d e k a)) (hS : ∀ k, G k → SitOk d k.1 ∧ SitOk e k.2) (hU : ∀ S : Src, (S.map Prod.fst).Nodup → (∀ k ∈ S.map Prod.fst, G k) → S.length < sizeLine)
include hd he hn hG hS hU
theorem parting_for2 {n : Nat} {S0 : Src} {lev : List Jt} (L : Lev (arrs d.n) (stpJ d e) (badJ d e) k0 G n S0 lev) (hn6 : n ≤ 16777214) : ∀ (ks : List Jt), (∀ k ∈ ks, k ∈ lev) → ∀ (S : Src) (later : List Jt) (pr : Jt → List Nat → Prop) (v6 v7 v8 v9 : SV), Lo v6 → Lo v7 → Lo v8 → Lo v9 → Pass (arrs d.n) (stpJ d e) (badJ d e) S0 lev pr S later →
    (∃ S' later' w6 w7 w8 w9, Lo w6 ∧ Lo w7 ∧ Lo w8 ∧ Lo w9 ∧ forL (.nm 6) l_parting_1 (ks.map Jd) (pS d e k0 S lev later v6 v7 v8 v9) = some (.nx, pS d e k0 S' lev later' w6 w7 w8 w9) ∧ Pass (arrs d.n) (stpJ d e) (badJ d e) S0 lev (fun l b => pr l b ∨ (l ∈ ks ∧ b ∈ arrs d.n)) S' later') ∨
    (∃ o L', Found d e k0 n o ∧ forL (.nm 6) l_parting_1 (ks.map Jd) (pS d e k0 S lev later v6 v7 v8 v9) = some (.rt o, L'))
  | [], _, S, later, pr, v6, v7, v8, v9, h6, h7, h8, h9, P => .inl ⟨S, later, v6, v7, v8, v9, h6, h7, h8, h9, rfl, P.weak fun l b h => by rcases h with h | ⟨h, _⟩; exact h; simp at h⟩
  | k :: ks, hK, S, later, pr, v6, v7, v8, v9, h6, h7, h8, h9, P => by
    have hk := hK k (by simp)
    have hasg : asg (.nm 6) (Jd k) (pS d e k0 S lev later v6 v7 v8 v9) = some (pS d e k0 S lev later (.ow (.fz (Jd k))) v7 v8 v9) := by
      cases h6 <;> cases h7 <;> cases h8 <;> cases h9 <;> simp
    have ca := arrivals_of_ok d hd.n1 hd.n3
    have hl1 : l_parting_1 (pS d e k0 S lev later (.ow (.fz (Jd k))) v7 v8 v9) = forL (.nm 7) l_parting_0 ((arrs d.n).map dT) (pS d e k0 S lev later (.ow (.fz (Jd k))) v7 v8 v9) := by
      unfold l_parting_1
      generalize arrs d.n = AA at *
      cases h7 <;> cases h8 <;> cases h9 <;> simp [ca]
    rw [List.map_cons]
    unfold forL
    rw [hasg]
    simp only
    rw [hl1]
    rcases parting_for1 d e hd he hn k0 G hG hS hU L hn6 k hk (arrs d.n) (fun _ h => h) S later pr v7 v8 v9 h7 h8 h9 P with ⟨S', later', w7, w8, w9, i7, i8, i9, g, P2⟩ | ⟨o, L', F, g⟩
    · rw [g]
      simp only
      rcases parting_for2 L hn6 ks (fun x hx => hK x (by simp [hx])) S' later' _ (.ow (.fz (Jd k))) w7 w8 w9 .fz i7 i8 i9 P2 with ⟨S2, later2, u6, u7, u8, u9, j6, j7, j8, j9, g2, P3⟩ | ⟨o, L', F, g2⟩
      · exact .inl ⟨S2, later2, u6, u7, u8, u9, j6, j7, j8, j9, g2, P3.weak fun l b h => by
          rcases h with h | ⟨h, hb⟩
          · exact .inl (.inl h)
          · rcases List.mem_cons.mp h with rfl | h
            · exact .inl (.inr ⟨rfl, hb⟩)
            · exact .inr ⟨h, hb⟩⟩
      · exact .inr ⟨o, L', F, g2⟩
    · rw [g]
      exact .inr ⟨o, L', F, rfl⟩
abbrev qS (d e : Desk) (k0 : Jt) (S : Src) (lev : List Jt) (v5 v6 v7 v8 v9 : SV) : Sta :=
  [.bo (.fz d.d), .bo (.fz e.d), .ow (.fz (Jd k0)), .ow (.nd (.dct (srcK' S)) (srcO S)), .ow (.fz (.list (lev.map Jd))), v5, v6, v7, v8, v9]
theorem parting_loop : ∀ (N n : Nat) (S0 : Src) (lev : List Jt), Lev (arrs d.n) (stpJ d e) (badJ d e) k0 G n S0 lev → (lev = [] ∨ n + 1 ≤ S0.length) → n ≤ 16777215 → 16777218 ≤ n + N → ∀ (v5 v6 v7 v8 v9 : SV), Lo v5 → Lo v6 → Lo v7 → Lo v8 → Lo v9 →
    (∃ L', whileL (fB (f2 gNe (fName 4) (fLst []))) l_parting_2 N (qS d e k0 S0 lev v5 v6 v7 v8 v9) = some (.nx, L') ∧ ∀ q a, (∀ x ∈ q, x ∈ arrs d.n) → a ∈ arrs d.n → badJ d e (runJ (stpJ d e) k0 q) a = false) ∨
    (∃ m o L', whileL (fB (f2 gNe (fName 4) (fLst []))) l_parting_2 N (qS d e k0 S0 lev v5 v6 v7 v8 v9) = some (.rt o, L') ∧ (∃ S : Src, (S.map Prod.fst).Nodup ∧ (∀ k ∈ S.map Prod.fst, G k) ∧ m + 1 ≤ S.length) ∧ Found d e k0 m o ∧ ∀ q a, (∀ x ∈ q, x ∈ arrs d.n) → a ∈ arrs d.n → q.length < m → badJ d e (runJ (stpJ d e) k0 q) a = false)
  | 0, n, S0, lev, L, hl, h1, h2, v5, v6, v7, v8, v9, h5, h6, h7, h8, h9 => by omega
  | N + 1, n, S0, lev, L, hl, h1, h2, v5, v6, v7, v8, v9, h5, h6, h7, h8, h9 => by
    have hsh := shaped_J lev
    have hc : fB (f2 gNe (fName 4) (fLst [])) (qS d e k0 S0 lev v5 v6 v7 v8 v9) = some (!lev.isEmpty, qS d e k0 S0 lev v5 v6 v7 v8 v9) := by
      cases h5 <;> cases h6 <;> cases h7 <;> cases h8 <;> cases h9 <;> simp [hsh]
    unfold whileL
    rw [hc]
    cases hle : lev with
    | nil =>
      subst hle
      exact .inl ⟨_, rfl, L.end_⟩
    | cons k ks =>
      rw [← hle]
      have hne : lev.isEmpty = false := by rw [hle]; rfl
      rw [hne]
      simp only [Bool.not_false]
      have hlen : n + 1 ≤ S0.length := by
        rcases hl with h | h
        · rw [hle] at h; cases h
        · exact h
      have hsz := hU S0 L.nd L.gd
      have hsl := sizeLine_eq
      have a1 : sSet false 5 (fLst []) (qS d e k0 S0 lev v5 v6 v7 v8 v9) = some (.nx, pS d e k0 S0 lev [] v6 v7 v8 v9) := by
        cases h5 <;> cases h6 <;> cases h7 <;> cases h8 <;> cases h9 <;> simp
      have a2 : sFor (iSrc (fName 4)) (.nm 6) l_parting_1 (pS d e k0 S0 lev [] v6 v7 v8 v9) = forL (.nm 6) l_parting_1 (lev.map Jd) (pS d e k0 S0 lev [] v6 v7 v8 v9) := by
        simp
      unfold l_parting_2
      rw [sSeq_ap, a1]
      simp only
      rw [sSeq_ap, a2]
      rcases parting_for2 d e hd he hn k0 G hG hS hU L (by omega) lev (fun _ h => h) S0 [] (fun _ _ => False) v6 v7 v8 v9 h6 h7 h8 h9 (Pass.start L.nd lev) with ⟨S', later', w6, w7, w8, w9, i6, i7, i8, i9, g, P2⟩ | ⟨o, L', F, g⟩
      · rw [g]
        simp only
        have a3 : sSet true 4 (fName 5) (pS d e k0 S' lev later' w6 w7 w8 w9) = some (.nx, qS d e k0 S' later' (.ow (.fz (.list (later'.map Jd)))) w6 w7 w8 w9) := by
          cases i6 <;> cases i7 <;> cases i8 <;> cases i9 <;> simp
        rw [a3]
        simp only
        have L2 := L.next P2 (fun k hk a ha => .inr ⟨hk, ha⟩) hG
        have hcase : later' = [] ∨ n + 1 + 1 ≤ S'.length := by
          obtain ⟨E, e1, e2, _⟩ := P2.ext
          cases hE : later' with
          | nil => exact .inl rfl
          | cons x xs =>
            refine .inr ?_
            have : 0 < E.length := by
              rw [hE] at e2
              have := congrArg List.length e2
              simp at this; omega
            rw [e1]; simp; omega
        exact parting_loop N (n + 1) S' later' L2 hcase (by omega) (by omega) _ w6 w7 w8 w9 .fz i6 i7 i8 i9
      · rw [g]
        exact .inr ⟨n, o, L', rfl, ⟨S0, L.nd, L.gd, hlen⟩, F, fun q a hq ha hl => L.good q a hq ha hl⟩
end
end Qz
namespace Qz
open PySem PySem.Spec PyProof.Rows L2
/-! a settled situation is fixed by the true one -/
theorem up_at {xs : List Int} (h : xs.Pairwise (· < ·)) {i j : Nat} {z : Int} (hi : xs[i]? = some z) (hj : xs[j]? = some z) : i = j := by
  obtain ⟨l1, g1⟩ := List.getElem?_eq_some_iff.mp hi
  obtain ⟨l2, g2⟩ := List.getElem?_eq_some_iff.mp hj
  rcases Nat.lt_trichotomy i j with h1 | h1 | h1
  · have := List.pairwise_iff_getElem.mp h _ _ l1 l2 h1
    rw [g1, g2] at this; omega
  · exact h1
  · have := List.pairwise_iff_getElem.mp h _ _ l2 l1 h1
    rw [g1, g2] at this; omega
theorem rank_map {xs : List Nat} {φ : Nat → Nat} (hm : ∀ x ∈ xs, ∀ y ∈ xs, x < y → φ x < φ y) {a : Nat} (ha : a ∈ xs) : rankF (xs.map φ) (φ a) = rankF xs a := by
  have e1 := (ixOf_some (rank_ix ha)).1
  have e2 := (ixOf_some (rank_ix (List.mem_map.mpr ⟨a, ha, rfl⟩ : φ a ∈ xs.map φ))).1
  have hmem : ∀ z ∈ sdI (zI xs), ∃ x ∈ xs, z = (x : Int) := fun z hz => by
    obtain ⟨x, hx, rfl⟩ := List.mem_map.mp (sdI_mem.mp hz)
    exact ⟨x, hx, rfl⟩
  have hup : ((sdI (zI xs)).map fun z => ((φ z.toNat : Nat) : Int)).Pairwise (· < ·) := by
    rw [List.pairwise_map]
    refine List.Pairwise.imp_of_mem ?_ (sdI_up (zI xs))
    intro u v hu hv huv
    obtain ⟨x, hx, rfl⟩ := hmem u hu
    obtain ⟨y, hy, rfl⟩ := hmem v hv
    have := hm x hx y hy (by omega)
    simp only [Int.toNat_natCast]; omega
  have heq : ((sdI (zI xs)).map fun z => ((φ z.toNat : Nat) : Int)) = sdI (zI (xs.map φ)) := up_unique hup (sdI_up _) fun k => by
    rw [sdI_mem]
    constructor
    · intro h
      obtain ⟨z, hz, rfl⟩ := List.mem_map.mp h
      obtain ⟨x, hx, rfl⟩ := hmem z hz
      exact List.mem_map.mpr ⟨φ x, List.mem_map.mpr ⟨x, hx, rfl⟩, by simp⟩
    · intro h
      obtain ⟨y, hy, rfl⟩ := List.mem_map.mp h
      obtain ⟨x, hx, rfl⟩ := List.mem_map.mp hy
      exact List.mem_map.mpr ⟨(x : Int), sdI_mem.mpr (List.mem_map.mpr ⟨x, hx, rfl⟩), by simp⟩
  rw [← heq] at e2
  refine up_at hup e2 ?_
  rw [List.getElem?_map, e1]
  simp
theorem settled_mp {d : Desk} {φ : Nat → Nat} {s : Sit} (h : MapOk d φ s) : settledF d (s.mp φ) = settledF d s := by
  unfold settledF
  cases hr : d.rule with
  | points ps =>
    unfold MapOk at h
    rw [hr] at h
    have : φ = id := funext h
    rw [this, mp_id]
  | oldest =>
    unfold MapOk at h
    rw [hr] at h
    simp only [Sit.mk.injEq]
    refine ⟨?_, rfl⟩
    have hf : (s.mp φ).qs.flatten = s.qs.flatten.map φ := map_flat _ _
    rw [hf]
    show (s.qs.map fun q => q.map φ).map _ = _
    rw [List.map_map]
    refine List.map_congr_left fun q hq => ?_
    simp only [Function.comp_apply, List.map_map]
    exact List.map_congr_left fun x hx => rank_map h (List.mem_flatten.mpr ⟨q, hq, hx⟩)
  | order xs => unfold Sit.mp; simp only [List.map_map, Function.comp_def]
  | round => unfold Sit.mp; simp only [List.map_map, Function.comp_def]
  | cycle xs => unfold Sit.mp; simp only [List.map_map, Function.comp_def]
  | longest => unfold Sit.mp; simp only [List.map_map, Function.comp_def]
theorem uS_eq (d : Desk) (f : Nat → List Nat) : ∀ k, uS d f k = settledF d (vS d f k)
  | 0 => rfl
  | k + 1 => by
    obtain ⟨φ, e, h⟩ := uS_map d f k
    obtain ⟨h1, _, _, h4⟩ := moved_map h (f k)
    show settledF d (movedF d (uS d f k) (f k)).1 = settledF d (movedF d (vS d f k) (f k)).1
    rw [e, h1]
    exact settled_mp h4
/-- only the arrivals before matter -/
theorem vS_cong {d : Desk} {f g : Nat → List Nat} : ∀ k, (∀ t, t < k → f t = g t) → vS d f k = vS d g k
  | 0, _ => rfl
  | k + 1, h => by
    show (movedF d (vS d f k) (f k)).1 = (movedF d (vS d g k) (g k)).1
    rw [vS_cong k fun t ht => h t (by omega), h k (by omega)]
end Qz
namespace Qz
open PySem PySem.Spec PyProof.Rows L2
theorem set_step (d : Desk) (V : Sit) (a : List Nat) : settledF d (movedF d (settledF d V) a).1 = settledF d (movedF d V a).1 ∧ (movedF d (settledF d V) a).2.line = (movedF d V a).2.line := by
  obtain ⟨ψ, e, h⟩ := settled_map (id_ok d V)
  rw [mp_id] at e
  obtain ⟨h1, h2, _, h4⟩ := moved_map h a
  rw [e, h1, h2]
  exact ⟨settled_mp h4, rfl⟩
def GJ (d e : Desk) (k : Jt) : Prop := ∃ f i, (∀ t, f t ∈ arrs d.n) ∧ k = (settledF d (vS d f i), settledF e (vS e f i)) ∧ (vS d f i).qs = (vS e f i).qs
theorem GJ_step {d e : Desk} (hr : d.room = e.room) {k : Jt} {a : List Nat} (h : GJ d e k) (ha : a ∈ arrs d.n) (hb : badJ d e k a = false) : GJ d e (stpJ d e k a) := by
  obtain ⟨f, i, hf, rfl, hq⟩ := h
  have c1 : vS d (fun t => if t < i then f t else a) i = vS d f i := vS_cong i fun t ht => by simp [ht]
  have c2 : vS e (fun t => if t < i then f t else a) i = vS e f i := vS_cong i fun t ht => by simp [ht]
  have n1 : vS d (fun t => if t < i then f t else a) (i + 1) = (movedF d (vS d f i) a).1 := by
    show (movedF d (vS d _ i) (if i < i then f i else a)).1 = _
    rw [c1, if_neg (Nat.lt_irrefl i)]
  have n2 : vS e (fun t => if t < i then f t else a) (i + 1) = (movedF e (vS e f i) a).1 := by
    show (movedF e (vS e _ i) (if i < i then f i else a)).1 = _
    rw [c2, if_neg (Nat.lt_irrefl i)]
  obtain ⟨s1, l1⟩ := set_step d (vS d f i) a
  obtain ⟨s2, l2⟩ := set_step e (vS e f i) a
  refine ⟨fun t => if t < i then f t else a, i + 1, fun t => ?_, ?_, ?_⟩
  · by_cases ht : t < i
    · simp [ht, hf t]
    · simp [ht, ha]
  · rw [n1, n2]
    unfold stpJ
    simp only
    rw [s1, s2]
  · rw [n1, n2]
    unfold badJ at hb
    simp only [l1, l2] at hb
    have hl : (movedF d (vS d f i) a).2.line = (movedF e (vS e f i) a).2.line := by simpa using hb
    show leave (arrived d.room (vS d f i).qs a).1 (movedF d (vS d f i) a).2.line = leave (arrived e.room (vS e f i).qs a).1 (movedF e (vS e f i) a).2.line
    rw [hl, hq, hr]
theorem GJ_ok {d e : Desk} {k : Jt} (h : GJ d e k) : SitOk d k.1 ∧ SitOk e k.2 := by
  obtain ⟨f, i, _, rfl, _⟩ := h
  exact ⟨settled_sit (vS_ok d f i), settled_sit (vS_ok e f i)⟩
def allJ (d e : Desk) (b P Q : Nat) : List Jt := (qsL b d.room d.n).flatMap fun qs => (List.range P).flatMap fun p => (List.range Q).map fun q => (settledF d ⟨qs, p⟩, settledF e ⟨qs, q⟩)
theorem allJ_len (d e : Desk) (b P Q : Nat) : (allJ d e b P Q).length = (qsL b d.room d.n).length * (P * Q) := by
  unfold allJ
  rw [flat_len (c := P * Q) _ (fun x _ => by rw [flat_len (c := Q) _ (fun y _ => by simp)]; simp)]
theorem qs_all {d : Desk} {qs : List (List Nat)} {b : Nat} (hs : SitOk d ⟨qs, 0⟩) (h : ∀ l, ∀ x ∈ qAt qs l, x < b) : qs ∈ qsL b d.room d.n :=
  qsL_mem d.n qs hs.len fun q hq => ⟨hs.room q hq, fun x hx => by
    obtain ⟨l, rfl⟩ := mem_qAt hq
    exact h l x hx⟩
theorem allJ_mem {d e : Desk} {b P Q : Nat} {qs : List (List Nat)} {p q : Nat} (h : qs ∈ qsL b d.room d.n) (hp : p < P) (hq : q < Q) : (settledF d ⟨qs, p⟩, settledF e ⟨qs, q⟩) ∈ allJ d e b P Q :=
  List.mem_flatMap.mpr ⟨qs, h, List.mem_flatMap.mpr ⟨p, List.mem_range.mpr hp, List.mem_map.mpr ⟨q, List.mem_range.mpr hq, rfl⟩⟩⟩
theorem seen_or (d : Desk) : Seen d ∨ ∀ x, settledF d x = ⟨x.qs.map fun q => q.map fun _ => 0, x.p⟩ := by
  cases hr : d.rule with
  | points ps => exact .inl (.inl ⟨ps, hr⟩)
  | oldest => exact .inl (.inr hr)
  | order xs => exact .inr fun x => by unfold settledF; rw [hr]
  | round => exact .inr fun x => by unfold settledF; rw [hr]
  | cycle xs => exact .inr fun x => by unfold settledF; rw [hr]
  | longest => exact .inr fun x => by unfold settledF; rw [hr]
theorem GJ_fin {d e : Desk} (hd : d.ok) (he : e.ok) (hn : d.n = e.n) (hr : d.room = e.room) : ∃ U : List Jt, U.length < sizeLine ∧ ∀ k, GJ d e k → k ∈ U := by
  have hsz := sizeLine_eq
  have b10 := sitL_10 d hd
  have b1 := sitL_1 d hd
  rw [sitL_len] at b10 b1
  rcases seen_or d with sd | zd
  · refine ⟨allJ d e 10 1 6, by rw [allJ_len]; omega, fun k hk => ?_⟩
    obtain ⟨f, i, hf, rfl, hq⟩ := hk
    have hm := allJ_mem (e := e) (qs_all (d := d) (qs := (vS d f i).qs) ⟨(vS_ok d f i).len, (vS_ok d f i).room⟩ (age_low hd sd f (fun t => arrs_ok (hf t)) i)) (show (vS d f i).p < 1 by rw [(vS_ptr hd f i).2 sd]; omega) (vS_ptr he f i).1
    have e2 : (Sit.mk (vS d f i).qs (vS e f i).p) = vS e f i := by rw [hq]
    rw [e2] at hm
    exact hm
  · rcases seen_or e with se | ze
    · refine ⟨allJ d e 10 6 1, by rw [allJ_len]; omega, fun k hk => ?_⟩
      obtain ⟨f, i, hf, rfl, hq⟩ := hk
      have hm := allJ_mem (e := e) (qs_all (d := d) (qs := (vS d f i).qs) ⟨(vS_ok d f i).len, (vS_ok d f i).room⟩ (by rw [hq]; exact age_low he se f (fun t => arrs_ok (hn ▸ hf t)) i)) (vS_ptr hd f i).1 (show (vS e f i).p < 1 by rw [(vS_ptr he f i).2 se]; omega)
      have e2 : (Sit.mk (vS d f i).qs (vS e f i).p) = vS e f i := by rw [hq]
      rw [e2] at hm
      exact hm
    · refine ⟨allJ d e 1 6 6, by rw [allJ_len]; omega, fun k hk => ?_⟩
      obtain ⟨f, i, hf, rfl, hq⟩ := hk
      have hz : SitOk d ⟨(vS d f i).qs.map fun q => q.map fun _ => 0, 0⟩ := ⟨by simpa using (vS_ok d f i).len, fun q hq => by
        obtain ⟨q', h1, rfl⟩ := List.mem_map.mp hq
        simpa using (vS_ok d f i).room q' h1⟩
      have hm := allJ_mem (e := e) (qs_all (b := 1) hz (fun l x hx => by
        rw [qAt_map] at hx
        obtain ⟨y, _, rfl⟩ := List.mem_map.mp hx
        omega)) (vS_ptr hd f i).1 (vS_ptr he f i).1
      rw [zd, ze] at hm ⊢
      simp only [List.map_map, Function.comp_def] at hm
      rw [← hq]
      exact hm
theorem GJ_few {d e : Desk} (hd : d.ok) (he : e.ok) (hn : d.n = e.n) (hr : d.room = e.room) (S : Src) (h1 : (S.map Prod.fst).Nodup) (h2 : ∀ k ∈ S.map Prod.fst, GJ d e k) : S.length < sizeLine := by
  classical
  obtain ⟨U, hU, hin⟩ := GJ_fin hd he hn hr
  have := nodup_len _ U h1 fun x hx => hin x (h2 x hx)
  simp at this
  omega
end Qz
namespace Qz
open PySem PySem.Spec PyProof.Rows L2
theorem alike_ok (d e : Desk) (hd : d.ok) (he : e.ok) : m_alike [.fz d.d, .fz e.d] = some (.fz (.bool (decide (d.n = e.n ∧ d.room = e.room)))) := by
  have c1 := need_desk_ok d hd
  have c2 := need_desk_ok e he
  have kk : ∀ x y z : PyData, cutD [x, y, z] none (some 2) = [x, y] := fun x y z => cutK (k := 2)
  have hs : ∀ a b : Nat, SeqAt.shaped (.tuple [dN a, dN b]) = true := fun a b => okD_shaped (by simp)
  have hb : ∀ x y : Nat, ((x : Int) == (y : Int)) = decide (x = y) := fun x y => by
    by_cases h : x = y
    · simp [h]
    · rw [beq_eq_false_iff_ne.mpr (by omega)]; simp [h]
  simp only [show ∀ z : Desk, z.d = .tuple [dN z.n, dN z.room, z.rule.d] from fun _ => rfl] at c1 c2 ⊢
  simp [m_alike, f_alike, mFun, c1, c2, kk, hs, hb]
theorem nil_arrs {n : Nat} (h1 : 1 ≤ n) (h3 : n ≤ 3) : [] ∈ arrs n := by
  rcases (show n = 1 ∨ n = 2 ∨ n = 3 by omega) with rfl | rfl | rfl <;> simp [arrs]
def k0J (d e : Desk) : Jt := (settledF d (startF d), settledF e (startF e))
theorem parting_run (d e : Desk) (hd : d.ok) (he : e.ok) (hn : d.n = e.n) (hr : d.room = e.room) :
    (m_parting [.fz d.d, .fz e.d] = some (.fz .none) ∧ ∀ q a, (∀ x ∈ q, x ∈ arrs d.n) → a ∈ arrs d.n → badJ d e (runJ (stpJ d e) (k0J d e) q) a = false) ∨
    (∃ m o, m_parting [.fz d.d, .fz e.d] = some o ∧ (∃ S : Src, (S.map Prod.fst).Nodup ∧ (∀ k ∈ S.map Prod.fst, GJ d e k) ∧ m + 1 ≤ S.length) ∧ Found d e (k0J d e) m o ∧ ∀ q a, (∀ x ∈ q, x ∈ arrs d.n) → a ∈ arrs d.n → q.length < m → badJ d e (runJ (stpJ d e) (k0J d e) q) a = false) := by
  have ca := alike_ok d e hd he
  have hdec : decide (d.n = e.n ∧ d.room = e.room) = true := by simp [hn, hr]
  rw [hdec] at ca
  have s1 := start_of_ok d hd
  have s2 := start_of_ok e he
  have t1 := settled_ok d hd (startF d) (start_sit d)
  have t2 := settled_ok e he (startF e) (start_sit e)
  have h0 : GJ d e (k0J d e) := ⟨fun _ => [], 0, fun _ => nil_arrs hd.n1 hd.n3, rfl, by show List.replicate d.n [] = List.replicate e.n []; rw [hn]⟩
  have L0 := Lev.first (A := arrs d.n) (stp := stpJ d e) (bad := badJ d e) (k0 := k0J d e) (G := GJ d e) h0
  have W := parting_loop d e hd he hn (k0J d e) (GJ d e) (fun k a hk ha hb => GJ_step hr hk ha hb) (fun k hk => GJ_ok hk) (GJ_few hd he hn hr) 1000000000 0 _ _ L0 (.inr (by simp)) (by omega) (by omega) .no .no .no .no .no .no .no .no .no .no
  have ek := keyT'_J (k0J d e)
  have ej : Jd (k0J d e) = .tuple [(settledF d (startF d)).d, (settledF e (startF e)).d] := rfl
  have eq : qS d e (k0J d e) [(k0J d e, none)] [k0J d e] .no .no .no .no .no = [.bo (.fz d.d), .bo (.fz e.d), .ow (.fz (.tuple [(settledF d (startF d)).d, (settledF e (startF e)).d])), .ow (.nd (.dct [Jk (k0J d e)]) [.fz .none]), .ow (.fz (.list [.tuple [(settledF d (startF d)).d, (settledF e (startF e)).d]])), .no, .no, .no, .no, .no] := by
    unfold qS
    rw [ej]; rfl
  rw [eq] at W
  rw [ej] at ek
  rcases W with ⟨L', g, hall⟩ | ⟨m, o, L', g, hm, F, hmin⟩
  · refine .inl ⟨?_, hall⟩
    generalize Jk (k0J d e) = jj at *
    generalize (settledF d (startF d)).d = x1 at *
    generalize (settledF e (startF e)).d = x2 at *
    simp [m_parting, f_parting, mFun, ca, s1, s2, t1, t2, ek, g]
  · refine .inr ⟨m, o, ?_, hm, F, hmin⟩
    generalize Jk (k0J d e) = jj at *
    generalize (settledF d (startF d)).d = x1 at *
    generalize (settledF e (startF e)).d = x2 at *
    simp [m_parting, f_parting, mFun, ca, s1, s2, t1, t2, ek, g]
end Qz
namespace Qz
open PySem PySem.Spec PyProof.Rows L2
/-! parting, in terms of the true lines -/
def linesF (d : Desk) (row : List (List Nat)) : List (Option Nat) := (tks d (startF d) row).map Tick.line
theorem sts_snoc (d : Desk) : ∀ (q : List (List Nat)) (s : Sit) (a : List Nat), sts d s (q ++ [a]) = (movedF d (sts d s q) a).1
  | [], s, a => rfl
  | x :: q, s, a => sts_snoc d q _ a
theorem tks_snoc (d : Desk) : ∀ (q : List (List Nat)) (s : Sit) (a : List Nat), tks d s (q ++ [a]) = tks d s q ++ [(movedF d (sts d s q) a).2]
  | [], s, a => rfl
  | x :: q, s, a => by
    show _ :: tks d _ (q ++ [a]) = _ :: (tks d _ q ++ _)
    rw [tks_snoc d q _ a]; rfl
theorem snoc_ind {α : Type} {P : List α → Prop} (h0 : P []) (h1 : ∀ q a, P q → P (q ++ [a])) (r : List α) : P r := by
  have : ∀ n (r : List α), r.length = n → P r := by
    intro n
    induction n with
    | zero => intro r hr; rw [List.length_eq_zero_iff.mp hr]; exact h0
    | succ n ih =>
      intro r hr
      rcases List.eq_nil_or_concat r with h | ⟨q, a, h⟩
      · rw [h]; exact h0
      · rw [h, List.concat_eq_append] at hr ⊢
        exact h1 q a (ih q (by simpa using hr))
  exact this _ r rfl
theorem run_true (d e : Desk) (q : List (List Nat)) : runJ (stpJ d e) (k0J d e) q = (settledF d (sts d (startF d) q), settledF e (sts e (startF e) q)) := by
  refine snoc_ind (P := fun q => runJ (stpJ d e) (k0J d e) q = (settledF d (sts d (startF d) q), settledF e (sts e (startF e) q))) rfl (fun q a ih => ?_) q
  rw [runJ_snoc, ih, sts_snoc, sts_snoc]
  unfold stpJ
  simp only
  rw [(set_step d _ a).1, (set_step e _ a).1]
theorem bad_true (d e : Desk) (q : List (List Nat)) (a : List Nat) : badJ d e (runJ (stpJ d e) (k0J d e) q) a = !decide ((movedF d (sts d (startF d) q) a).2.line = (movedF e (sts e (startF e) q) a).2.line) := by
  rw [run_true]
  unfold badJ
  simp only
  rw [(set_step d _ a).2, (set_step e _ a).2]
theorem lines_snoc (d : Desk) (q : List (List Nat)) (a : List Nat) : linesF d (q ++ [a]) = linesF d q ++ [(movedF d (sts d (startF d) q) a).2.line] := by
  unfold linesF
  rw [tks_snoc]; simp
theorem lines_same {d e : Desk} {A : List (List Nat)} (row : List (List Nat)) : (∀ q a, (∀ x ∈ q, x ∈ A) → a ∈ A → q.length < row.length → badJ d e (runJ (stpJ d e) (k0J d e) q) a = false) → (∀ x ∈ row, x ∈ A) → linesF d row = linesF e row := by
  refine snoc_ind (P := fun row => (∀ q a, (∀ x ∈ q, x ∈ A) → a ∈ A → q.length < row.length → badJ d e (runJ (stpJ d e) (k0J d e) q) a = false) → (∀ x ∈ row, x ∈ A) → linesF d row = linesF e row) (fun _ _ => rfl) (fun q a ih h hA => ?_) row
  have hq : ∀ x ∈ q, x ∈ A := fun x hx => hA x (by simp [hx])
  have hb := h q a hq (hA a (by simp)) (by simp)
  rw [bad_true] at hb
  rw [lines_snoc, lines_snoc, ih (fun q' a' h1 h2 h3 => h q' a' h1 h2 (by simp; omega)) hq]
  have : (movedF d (sts d (startF d) q) a).2.line = (movedF e (sts e (startF e) q) a).2.line := by simpa using hb
  rw [this]
theorem parting_ok (d e : Desk) (hd : d.ok) (he : e.ok) (hn : d.n = e.n) (hr : d.room = e.room) :
    (m_parting [.fz d.d, .fz e.d] = some (.fz .none) ∧ ∀ row, (∀ x ∈ row, x ∈ arrs d.n) → linesF d row = linesF e row) ∨
    (∃ r a, m_parting [.fz d.d, .fz e.d] = some (.ls ((r ++ [a]).map fun a => .fz (dT a))) ∧ (∀ x ∈ r ++ [a], x ∈ arrs d.n) ∧ (∃ S : Src, (S.map Prod.fst).Nodup ∧ (∀ k ∈ S.map Prod.fst, GJ d e k) ∧ r.length + 1 ≤ S.length) ∧ linesF d (r ++ [a]) ≠ linesF e (r ++ [a]) ∧ ∀ row, (∀ x ∈ row, x ∈ arrs d.n) → row.length ≤ r.length → linesF d row = linesF e row) := by
  rcases parting_run d e hd he hn hr with ⟨g, hall⟩ | ⟨m, o, g, hm, ⟨r, a, h1, h2, h3, h4, rfl⟩, hmin⟩
  · exact .inl ⟨g, fun row hrow => lines_same row (fun q a hq ha _ => hall q a hq ha) hrow⟩
  · have same : ∀ row, (∀ x ∈ row, x ∈ arrs d.n) → row.length ≤ r.length → linesF d row = linesF e row := fun row hrow hl => lines_same row (fun q a hq ha hlt => hmin q a hq ha (by omega)) hrow
    refine .inr ⟨r, a, g, fun x hx => ?_, by rw [h3]; exact hm, fun e0 => ?_, same⟩
    · rcases List.mem_append.mp hx with h | h
      · exact h1 x h
      · simp at h; rw [h]; exact h2
    · rw [bad_true] at h4
      rw [lines_snoc, lines_snoc, same r h1 (Nat.le_refl _)] at e0
      have := List.append_cancel_left e0
      simp at this h4
      exact h4 this
end Qz
namespace Qz
open PySem PySem.Spec PyProof.Rows L2
/-! falling queues are fewer -/
def dL : Nat → Nat → List (List Nat)
  | 0, _ => [[]]
  | r + 1, b => [] :: (List.range b).flatMap fun a => (dL r a).map (a :: ·)
theorem dL_mem : ∀ (r b : Nat) (q : List Nat), q.length ≤ r → (∀ x ∈ q, x < b) → q.Pairwise (fun x y => y < x) → q ∈ dL r b
  | 0, b, q, h, _, _ => by
    have : q = [] := List.length_eq_zero_iff.mp (by omega)
    subst this; simp [dL]
  | r + 1, b, [], _, _, _ => by simp [dL]
  | r + 1, b, x :: q, h, hx, hp => by
    have hp' := List.pairwise_cons.mp hp
    exact List.mem_cons_of_mem _ (List.mem_flatMap.mpr ⟨x, List.mem_range.mpr (hx x (by simp)), List.mem_map.mpr ⟨q, dL_mem r x q (by simpa using h) (fun y hy => hp'.1 y hy) hp'.2, rfl⟩⟩)
theorem dL_1 : (dL 1 10).length = 11 := by decide
theorem dL_2 : (dL 2 10).length = 56 := by decide +kernel
theorem dL_3 : (dL 3 10).length = 176 := by decide +kernel
def dsL (r : Nat) : Nat → List (List (List Nat))
  | 0 => [[]]
  | n + 1 => (dL r 10).flatMap fun q => (dsL r n).map (q :: ·)
theorem dsL_mem {r : Nat} : ∀ (n : Nat) (qs : List (List Nat)), qs.length = n → (∀ q ∈ qs, q.length ≤ r ∧ (∀ x ∈ q, x < 10) ∧ q.Pairwise (fun x y => y < x)) → qs ∈ dsL r n
  | 0, qs, h, _ => by
    have : qs = [] := List.length_eq_zero_iff.mp h
    subst this; simp [dsL]
  | n + 1, [], h, _ => by simp at h
  | n + 1, q :: qs, h, hx => by
    obtain ⟨h1, h2, h3⟩ := hx q (by simp)
    exact List.mem_flatMap.mpr ⟨q, dL_mem r 10 q h1 h2 h3, List.mem_map.mpr ⟨qs, dsL_mem n qs (by simpa using h) fun y hy => hx y (by simp [hy]), rfl⟩⟩
theorem dsL_len (r n : Nat) : (dsL r (n + 1)).length = (dL r 10).length * (dsL r n).length := by
  show ((dL r 10).flatMap fun q => (dsL r n).map (q :: ·)).length = _
  rw [flat_len (c := (dsL r n).length) _ (fun x _ => by simp)]
theorem dsL_1 (r : Nat) : (dsL r 1).length = (dL r 10).length * 1 := dsL_len r 0
theorem dsL_2 (r : Nat) : (dsL r 2).length = (dL r 10).length * ((dL r 10).length * 1) := (dsL_len r 1).trans (by rw [dsL_1])
theorem dsL_3 (r : Nat) : (dsL r 3).length = (dL r 10).length * ((dL r 10).length * ((dL r 10).length * 1)) := (dsL_len r 2).trans (by rw [dsL_2])
theorem dsL_few (d : Desk) (h : d.ok) : (dsL d.room d.n).length ≤ 175616 := by
  obtain ⟨h1, h3, r1, r3, m6, _⟩ := h
  generalize d.n = n at *
  generalize d.room = r at *
  have en : n = 1 ∨ n = 2 ∨ n = 3 := by omega
  have er : r = 1 ∨ r = 2 ∨ r = 3 := by omega
  rcases en with rfl | rfl | rfl <;> rcases er with rfl | rfl | rfl <;> first | (exfalso; omega) | (simp only [dsL_1, dsL_2, dsL_3, dL_1, dL_2, dL_3]; omega)
end Qz
namespace Qz
open PySem PySem.Spec PyProof.Rows L2
theorem qsL1_few (d : Desk) (h : d.ok) : (qsL 1 d.room d.n).length ≤ 27 := by
  obtain ⟨h1, h3, r1, r3, m6, _⟩ := h
  generalize d.n = n at *
  generalize d.room = r at *
  have en : n = 1 ∨ n = 2 ∨ n = 3 := by omega
  have er : r = 1 ∨ r = 2 ∨ r = 3 := by omega
  rcases en with rfl | rfl | rfl <;> rcases er with rfl | rfl | rfl <;> first | (exfalso; omega) | (simp only [qsL_1, qsL_2, qsL_3, qL_1, qL_2, qL_3]; omega)
def allQ (d e : Desk) (B : List (List (List Nat))) (P Q : Nat) : List Jt := B.flatMap fun qs => (List.range P).flatMap fun p => (List.range Q).map fun q => (settledF d ⟨qs, p⟩, settledF e ⟨qs, q⟩)
theorem allQ_len (d e : Desk) (B : List (List (List Nat))) (P Q : Nat) : (allQ d e B P Q).length = B.length * (P * Q) := by
  unfold allQ
  rw [flat_len (c := P * Q) _ (fun x _ => by rw [flat_len (c := Q) _ (fun y _ => by simp)]; simp)]
theorem allQ_mem {d e : Desk} {B : List (List (List Nat))} {P Q : Nat} {qs : List (List Nat)} {p q : Nat} (h : qs ∈ B) (hp : p < P) (hq : q < Q) : (settledF d ⟨qs, p⟩, settledF e ⟨qs, q⟩) ∈ allQ d e B P Q :=
  List.mem_flatMap.mpr ⟨qs, h, List.mem_flatMap.mpr ⟨p, List.mem_range.mpr hp, List.mem_map.mpr ⟨q, List.mem_range.mpr hq, rfl⟩⟩⟩
theorem ds_all {d : Desk} {s : Sit} (hs : SitOk d s) (h : ∀ l, ∀ x ∈ qAt s.qs l, x < 10) (hD : Dec s) : s.qs ∈ dsL d.room d.n :=
  dsL_mem d.n s.qs hs.len fun q hq => by
    obtain ⟨l, rfl⟩ := mem_qAt hq
    exact ⟨hs.room _ hq, h l, hD l⟩
theorem GJ_fin2 {d e : Desk} (hd : d.ok) (he : e.ok) (hn : d.n = e.n) (hr : d.room = e.room) : ∃ U : List Jt, U.length ≤ 1053696 ∧ ∀ k, GJ d e k → k ∈ U := by
  have bd := dsL_few d hd
  have b1 := qsL1_few d hd
  rcases seen_or d with sd | zd
  · refine ⟨allQ d e (dsL d.room d.n) 1 6, by rw [allQ_len]; omega, fun k hk => ?_⟩
    obtain ⟨f, i, hf, rfl, hq⟩ := hk
    have hm := allQ_mem (d := d) (e := e) (ds_all (vS_ok d f i) (age_low hd sd f (fun t => arrs_ok (hf t)) i) (age_run hd sd f (fun t => arrs_ok (hf t)) i).2) (show (vS d f i).p < 1 by rw [(vS_ptr hd f i).2 sd]; omega) (vS_ptr he f i).1
    have e2 : (Sit.mk (vS d f i).qs (vS e f i).p) = vS e f i := by rw [hq]
    rw [e2] at hm
    exact hm
  · rcases seen_or e with se | ze
    · refine ⟨allQ d e (dsL d.room d.n) 6 1, by rw [allQ_len]; omega, fun k hk => ?_⟩
      obtain ⟨f, i, hf, rfl, hq⟩ := hk
      have h1 := ds_all (vS_ok e f i) (age_low he se f (fun t => arrs_ok (hn ▸ hf t)) i) (age_run he se f (fun t => arrs_ok (hn ▸ hf t)) i).2
      rw [← hn, ← hr, ← hq] at h1
      have hm := allQ_mem (d := d) (e := e) h1 (vS_ptr hd f i).1 (show (vS e f i).p < 1 by rw [(vS_ptr he f i).2 se]; omega)
      have e2 : (Sit.mk (vS d f i).qs (vS e f i).p) = vS e f i := by rw [hq]
      rw [e2] at hm
      exact hm
    · refine ⟨allQ d e (qsL 1 d.room d.n) 6 6, by rw [allQ_len]; omega, fun k hk => ?_⟩
      obtain ⟨f, i, hf, rfl, hq⟩ := hk
      have hz : SitOk d ⟨(vS d f i).qs.map fun q => q.map fun _ => 0, 0⟩ := ⟨by simpa using (vS_ok d f i).len, fun q hq => by
        obtain ⟨q', h1, rfl⟩ := List.mem_map.mp hq
        simpa using (vS_ok d f i).room q' h1⟩
      have hm := allQ_mem (d := d) (e := e) (qs_all (b := 1) hz (fun l x hx => by
        rw [qAt_map] at hx
        obtain ⟨y, _, rfl⟩ := List.mem_map.mp hx
        omega)) (vS_ptr hd f i).1 (vS_ptr he f i).1
      rw [zd, ze] at hm ⊢
      simp only [List.map_map, Function.comp_def] at hm
      rw [← hq]
      exact hm
/-- the row that parts two desks is no longer than there are joint situations -/
theorem part_len {d e : Desk} (hd : d.ok) (he : e.ok) (hn : d.n = e.n) (hr : d.room = e.room) {r : List (List Nat)} (h : ∃ S : Src, (S.map Prod.fst).Nodup ∧ (∀ k ∈ S.map Prod.fst, GJ d e k) ∧ r.length + 1 ≤ S.length) : r.length < 1053696 := by
  classical
  obtain ⟨S, h1, h2, h3⟩ := h
  obtain ⟨U, hU, hin⟩ := GJ_fin2 hd he hn hr
  have := nodup_len _ U h1 fun x hx => hin x (h2 x hx)
  simp at this
  omega
end Qz
namespace Qz
open PySem PySem.Spec PyProof.Rows L2
/-! what parting tells -/
def rD (r : List (List Nat)) : PyData := .list (r.map dT)
theorem arr_in {n : Nat} (h3 : n ≤ 3) (h1 : 1 ≤ n) {a : List Nat} (h : ArrOk n a) : a ∈ arrs n := by
  have hl := arr_len h
  obtain ⟨up, lt⟩ := h
  have en : n = 1 ∨ n = 2 ∨ n = 3 := by omega
  match a, up, lt, hl with
  | [], _, _, _ => rcases en with rfl | rfl | rfl <;> simp [arrs]
  | [x], up, lt, _ =>
    simp at lt
    rcases en with rfl | rfl | rfl
    · have : x = 0 := by omega
      subst this; simp [arrs]
    · rcases (show x = 0 ∨ x = 1 by omega) with rfl | rfl <;> simp [arrs]
    · rcases (show x = 0 ∨ x = 1 ∨ x = 2 by omega) with rfl | rfl | rfl <;> simp [arrs]
  | [x, y], up, lt, _ =>
    simp at lt up
    rcases en with rfl | rfl | rfl
    · omega
    · have e1 : x = 0 := by omega
      have e2 : y = 1 := by omega
      subst e1 e2; simp [arrs]
    · rcases (show (x = 0 ∧ y = 1) ∨ (x = 0 ∧ y = 2) ∨ (x = 1 ∧ y = 2) by omega) with ⟨rfl, rfl⟩ | ⟨rfl, rfl⟩ | ⟨rfl, rfl⟩ <;> simp [arrs]
  | [x, y, z], up, lt, _ =>
    simp at lt up
    rcases en with rfl | rfl | rfl
    · omega
    · omega
    · have e1 : x = 0 := by omega
      have e2 : y = 1 := by omega
      have e3 : z = 2 := by omega
      subst e1 e2 e3; simp [arrs]
  | _ :: _ :: _ :: _ :: _, _, _, hl => simp at hl; omega
def toldD : Option (List (List Nat)) → PyData
  | none => .none
  | some r => rD r
structure Part (d e : Desk) (t : Option (List (List Nat))) : Prop where
  no : t = none → ∀ row, (∀ x ∈ row, x ∈ arrs d.n) → linesF d row = linesF e row
  yes : ∀ r, t = some r → (∀ x ∈ r, x ∈ arrs d.n) ∧ 0 < r.length ∧ r.length ≤ 1053696 ∧ linesF d r ≠ linesF e r ∧ ∀ row, (∀ x ∈ row, x ∈ arrs d.n) → row.length < r.length → linesF d row = linesF e row
theorem part_ok (d e : Desk) (hd : d.ok) (he : e.ok) (hn : d.n = e.n) (hr : d.room = e.room) : ∃ t o, m_parting [.fz d.d, .fz e.d] = some o ∧ o.dat = some (toldD t) ∧ Part d e t := by
  rcases parting_ok d e hd he hn hr with ⟨g, h⟩ | ⟨r, a, g, h1, h2, h3, h4⟩
  · exact ⟨none, _, g, rfl, fun _ => h, fun r hr => by cases hr⟩
  · have hl := part_len hd he hn hr h2
    refine ⟨some (r ++ [a]), _, g, by simp [toldD, rD], ?_, ?_⟩
    · intro h
      cases h
    · intro r' e1
      cases e1
      exact ⟨h1, by simp, by simp; omega, h3, fun row hrow hlt => h4 row hrow (by simp at hlt; omega)⟩
theorem part_self {d : Desk} {t : Option (List (List Nat))} (h : Part d d t) : t = none := by
  cases t with
  | none => rfl
  | some r => exact absurd rfl (h.yes r rfl).2.2.2.1
theorem part_sym {d e : Desk} (hn : d.n = e.n) {t s : Option (List (List Nat))} (h : Part d e t) (k : Part e d s) : t.map List.length = s.map List.length := by
  cases t with
  | none =>
    cases s with
    | none => rfl
    | some r =>
      obtain ⟨h1, _, _, h4, _⟩ := k.yes r rfl
      exact absurd (h.no rfl r (by rw [hn]; exact h1)).symm h4
  | some q =>
    obtain ⟨g1, _, _, g4, g5⟩ := h.yes q rfl
    cases s with
    | none => exact absurd (k.no rfl q (by rw [← hn]; exact g1)).symm g4
    | some r =>
      obtain ⟨h1, _, _, h4, h5⟩ := k.yes r rfl
      rw [← hn] at h1 h5
      have a1 : ¬ r.length < q.length := fun h => h4 (g5 r h1 h).symm
      have a2 : ¬ q.length < r.length := fun h => g4 (h5 q g1 h).symm
      simp; omega
theorem cutLast {ds : List PyData} : cutD ds none (some (-1)) = ds.dropLast := by
  unfold cutD
  have : HT.sIx ds.length ds.length (some (-1)) = ds.length - 1 := by
    show (if (-1 : Int) < 0 then ((-1 : Int) + (ds.length : Int)).toNat else min (-1 : Int).toNat ds.length) = _
    rw [if_pos (by omega)]; omega
  rw [this, HT.sIx_none, List.dropLast_eq_take]; simp
theorem atI_last {ds : List PyData} : atI ds (-1) = ds.getLast? := by
  unfold atI ixN
  cases ds with
  | nil => rfl
  | cons d ds =>
    rw [if_neg (by omega), if_pos (by simp; omega)]
    have e : ((-1 : Int) + ((d :: ds).length : Int)).toNat = (d :: ds).length - 1 := by simp; omega
    rw [List.getLast?_eq_getElem?, ← e]; rfl
end Qz
namespace Qz
open PySem PySem.Spec PyProof.Rows L2
/-! ### rules that always choose alike -/
theorem bisim {d e : Desk} (hn : d.n = e.n) (hr : d.room = e.room) (R : Nat → Nat → Prop)
    (hs : ∀ qs p q, R p q → (∀ q ∈ qs, q.length ≤ d.room) → qs.length = d.n → (chosenF d qs p).1 = (chosenF e qs q).1 ∧ R (chosenF d qs p).2 (chosenF e qs q).2) :
    ∀ (row : List (List Nat)) (s t : Sit), s.qs = t.qs → R s.p t.p → SitOk d s → (tks d s row).map Tick.line = (tks e t row).map Tick.line
  | [], _, _, _, _, _ => rfl
  | a :: row, s, t, h1, h2, h3 => by
    have hA := arrived_ok h3 a
    obtain ⟨c1, c2⟩ := hs (arrived d.room s.qs a).1 s.p t.p h2 hA.2 hA.1
    have e1 : (arrived e.room t.qs a).1 = (arrived d.room s.qs a).1 := by rw [h1, hr]
    have l1 : (movedF d s a).2.line = (movedF e t a).2.line := by
      show (chosenF d (arrived d.room s.qs a).1 s.p).1 = (chosenF e (arrived e.room t.qs a).1 t.p).1
      rw [e1, c1]
    have l2 : (movedF d s a).1.qs = (movedF e t a).1.qs := by
      show leave (arrived d.room s.qs a).1 (chosenF d (arrived d.room s.qs a).1 s.p).1 = leave (arrived e.room t.qs a).1 (chosenF e (arrived e.room t.qs a).1 t.p).1
      rw [e1, c1]
    have l3 : R (movedF d s a).1.p (movedF e t a).1.p := by
      show R (chosenF d (arrived d.room s.qs a).1 s.p).2 (chosenF e (arrived e.room t.qs a).1 t.p).2
      rw [e1]; exact c2
    have ih := bisim hn hr R hs row _ _ l2 l3 (moved_sit h3 a)
    show (movedF d s a).2.line :: (tks d (movedF d s a).1 row).map Tick.line = (movedF e t a).2.line :: (tks e (movedF e t a).1 row).map Tick.line
    rw [l1, ih]
theorem start_sitok (d : Desk) : SitOk d (startF d) := ⟨by simp [startF], fun q hq => by
  have : q = [] := List.eq_of_mem_replicate hq
  rw [this]; simp⟩
theorem bisimL {d e : Desk} (hn : d.n = e.n) (hr : d.room = e.room) (R : Nat → Nat → Prop) (h0 : R (startF d).p (startF e).p)
    (hs : ∀ qs p q, R p q → (∀ q ∈ qs, q.length ≤ d.room) → qs.length = d.n → (chosenF d qs p).1 = (chosenF e qs q).1 ∧ R (chosenF d qs p).2 (chosenF e qs q).2) (row : List (List Nat)) : linesF d row = linesF e row :=
  bisim hn hr R hs row _ _ (by simp [startF, hn]) h0 (start_sitok d)
/-! the best of many -/
theorem best_shift {f g : Nat → Nat} {c : Nat} : ∀ (xs : List Nat) (x : Nat), (∀ y ∈ x :: xs, f y = g y + c) → best f x xs = best g x xs
  | [], _, _ => rfl
  | y :: ys, x, h => by
    have hx := h x (by simp)
    have hy := h y (by simp)
    have e : (if f x < f y ∨ (f x = f y ∧ y < x) then y else x) = (if g x < g y ∨ (g x = g y ∧ y < x) then y else x) := by
      rw [hx, hy]
      by_cases q : g x < g y ∨ (g x = g y ∧ y < x)
      · rw [if_pos q, if_pos (by omega)]
      · rw [if_neg q, if_neg (by omega)]
    show best f (if f x < f y ∨ (f x = f y ∧ y < x) then y else x) ys = best g (if g x < g y ∨ (g x = g y ∧ y < x) then y else x) ys
    rw [e]
    refine best_shift (c := c) ys _ fun z hz => ?_
    rcases List.mem_cons.mp hz with rfl | hz
    · split
      · exact hy
      · exact hx
    · exact h z (by simp [hz])
theorem bestOf_shift {f g : Nat → Nat} {c : Nat} {ls : List Nat} (h : ∀ y ∈ ls, f y = g y + c) : bestOf f ls = bestOf g ls := by
  cases ls with
  | nil => rfl
  | cons x xs => exact best_shift xs x h
theorem best_flat {f : Nat → Nat} {c : Nat} : ∀ (xs : List Nat) (x : Nat), (∀ y ∈ x :: xs, f y = c) → (∀ y ∈ xs, x < y) → best f x xs = x
  | [], _, _, _ => rfl
  | y :: ys, x, h, hl => by
    have hx := h x (by simp)
    have hy := h y (by simp)
    have hxy := hl y (by simp)
    show best f (if f x < f y ∨ (f x = f y ∧ y < x) then y else x) ys = x
    rw [if_neg (by omega)]
    refine best_flat ys x (fun z hz => h z ?_) (fun z hz => hl z (by simp [hz]))
    rcases List.mem_cons.mp hz with rfl | hz <;> simp [*]
theorem there_up (n : Nat) (qs : List (List Nat)) : (there n qs).Pairwise (· < ·) := List.Pairwise.sublist List.filter_sublist List.pairwise_lt_range
/-! slots in turn -/
theorem head_find {α β : Type} (g : α → β) (P : β → Bool) (z : β) : ∀ xs : List α, ((xs.map g).filter P).headD z = match xs.find? fun x => P (g x) with | some s => g s | none => z
  | [] => rfl
  | x :: xs => by
    rw [List.map_cons]
    by_cases h : P (g x) = true
    · rw [List.filter_cons_of_pos h, List.find?_cons, h]; rfl
    · rw [List.filter_cons_of_neg h, List.find?_cons, Bool.eq_false_iff.mpr h]; exact head_find g P z xs
theorem find_more {P Q : Nat → Bool} {m k : Nat} (hmk : m ≤ k) (hPQ : ∀ s, s < m → P s = Q s) (h : ∃ s, s < m ∧ Q s = true) : ∃ s, s < m ∧ Q s = true ∧ (List.range k).find? P = some s ∧ (List.range m).find? Q = some s := by
  have e1 : (List.range m).find? P = (List.range m).find? Q := by
    have : ∀ xs : List Nat, (∀ x ∈ xs, x < m) → xs.find? P = xs.find? Q := by
      intro xs
      induction xs with
      | nil => intro _; rfl
      | cons x xs ih =>
        intro hx
        rw [List.find?_cons, List.find?_cons, hPQ x (hx x (by simp)), ih fun y hy => hx y (by simp [hy])]
    exact this _ fun x hx => List.mem_range.mp hx
  obtain ⟨s0, hs0, hq0⟩ := h
  cases e : (List.range m).find? Q with
  | none =>
    have := List.find?_eq_none.mp e s0 (List.mem_range.mpr hs0)
    exact absurd hq0 this
  | some s =>
    refine ⟨s, List.mem_range.mp (List.mem_of_find?_eq_some e), List.find?_some e, ?_, rfl⟩
    obtain ⟨j, rfl⟩ : ∃ j, k = m + j := ⟨k - m, by omega⟩
    rw [List.range_add, List.find?_append, e1, e]; rfl
/-- a cycle and its root -/
theorem slot_root {xs us ls : List Nat} {j p : Nat} (hm : 0 < us.length) (hk : xs.length = us.length * j) (hj : 0 < j) (hx : ∀ o, o < xs.length → xs.getD o 0 = us.getD (o % us.length) 0) (hex : ∃ o, o < us.length ∧ us.getD o 0 ∈ ls) :
    slotC xs ls p % us.length = slotC us ls (p % us.length) ∧ slotC xs ls p < xs.length ∧ slotC us ls (p % us.length) < us.length := by
  obtain ⟨m, hm0⟩ : ∃ m, m = us.length := ⟨_, rfl⟩
  obtain ⟨k, hk0⟩ : ∃ k, k = xs.length := ⟨_, rfl⟩
  rw [← hm0] at hm hk hx hex ⊢
  rw [← hk0] at hk hx ⊢
  have hkm : m ≤ k := by rw [hk]; exact Nat.le_mul_of_pos_right _ hj
  have hdv : m ∣ k := ⟨j, hk⟩
  have hk1 : 0 < k := by omega
  have hmod : ∀ s, (p + s) % k % m = (p % m + s) % m := fun s => by rw [Nat.mod_mod_of_dvd _ hdv, Nat.mod_add_mod]
  obtain ⟨s, s1, s2, s3, s4⟩ := find_more (P := fun s => decide (xs.getD ((p + s) % k) 0 ∈ ls)) (Q := fun s => decide (us.getD ((p % m + s) % m) 0 ∈ ls)) hkm (fun s _ => by
    rw [hx _ (Nat.mod_lt _ hk1), hmod]) (by
    obtain ⟨o, ho, hol⟩ := hex
    have h1 : p % m < m := Nat.mod_lt _ hm
    refine ⟨(o + (m - p % m)) % m, Nat.mod_lt _ hm, ?_⟩
    rw [Nat.add_mod_mod, show p % m + (o + (m - p % m)) = o + m by omega, Nat.add_mod_right, Nat.mod_eq_of_lt ho]
    exact decide_eq_true hol)
  have v1 : slotC xs ls p = (p + s) % k := by
    unfold slotC turnC
    rw [head_find, ← hk0, s3]
  have v2 : slotC us ls (p % m) = (p % m + s) % m := by
    unfold slotC turnC
    rw [head_find, ← hm0, s4]
  rw [v1, v2]
  exact ⟨hmod s, Nat.mod_lt _ hk1, Nat.mod_lt _ hm⟩
theorem root_lines {n room : Nat} {xs us : List Nat} {j : Nat} (hm : 0 < us.length) (hk : xs.length = us.length * j) (hj : 0 < j) (hx : ∀ o, o < xs.length → xs.getD o 0 = us.getD (o % us.length) 0) (hon : ∀ i, i < n → i ∈ us) (row : List (List Nat)) :
    linesF ⟨n, room, .cycle xs⟩ row = linesF ⟨n, room, .cycle us⟩ row := by
  refine bisimL (d := ⟨n, room, .cycle xs⟩) (e := ⟨n, room, .cycle us⟩) rfl rfl (fun p q => p % us.length = q) (by simp [startF]) (fun qs p q hR _ _ => ?_) row
  subst hR
  unfold chosenF
  simp only
  by_cases h : there n qs = []
  · rw [if_pos h, if_pos h]; exact ⟨rfl, rfl⟩
  · rw [if_neg h, if_neg h]
    obtain ⟨x0, hx0⟩ : ∃ x, x ∈ there n qs := by
      cases e : there n qs with
      | nil => exact absurd e h
      | cons x _ => exact ⟨x, by simp⟩
    obtain ⟨i, hi, ei⟩ := List.getElem_of_mem (hon x0 (there_mem.mp hx0).1)
    obtain ⟨g1, g2, g3⟩ := slot_root (ls := there n qs) (p := p) hm hk hj hx ⟨i, hi, by simp [List.getD, List.getElem?_eq_getElem hi, ei, hx0]⟩
    simp only
    rw [hx _ g2, g1]
    refine ⟨rfl, ?_⟩
    rw [hk, Nat.mod_mul_right_mod, ← g1, Nat.mod_add_mod]
theorem round_lines {n room : Nat} (hn : 1 ≤ n) (row : List (List Nat)) : linesF ⟨n, room, .round⟩ row = linesF ⟨n, room, .cycle (List.range n)⟩ row := by
  refine bisimL (d := ⟨n, room, .round⟩) (e := ⟨n, room, .cycle (List.range n)⟩) rfl rfl (fun p q => q = (p + 1) % n) (by simp [startF]; rw [show n - 1 + 1 = n by omega]; simp) (fun qs p q hR _ _ => ?_) row
  subst hR
  unfold chosenF
  simp only
  by_cases h : there n qs = []
  · rw [if_pos h, if_pos h]; exact ⟨rfl, rfl⟩
  · rw [if_neg h, if_neg h]
    simp only
    have ht : turnC (List.range n).length ((p + 1) % n) = turnR n p := by
      unfold turnC turnR
      rw [List.length_range]
      exact List.map_congr_left fun s _ => by rw [Nat.mod_add_mod]
    have hf : slotC (List.range n) (there n qs) ((p + 1) % n) = ((turnR n p).filter fun l => decide (l ∈ there n qs)).headD 0 := by
      unfold slotC
      rw [ht]
      congr 1
      refine List.filter_congr fun l hl => ?_
      have := turnR_lt hl (by omega)
      simp [List.getD, List.getElem?_range this]
    obtain ⟨x0, hx0⟩ : ∃ x, x ∈ there n qs := by
      cases e : there n qs with
      | nil => exact absurd e h
      | cons x _ => exact ⟨x, by simp⟩
    obtain ⟨r, f1, f2, f3, f4⟩ := filter_head (xs := turnR n p) (p := fun l => decide (l ∈ there n qs)) (z := 0) ⟨x0, turnR_mem (there_mem.mp hx0).1, by simpa using hx0⟩
    have hr := turnR_lt f3 (by omega)
    rw [hf, f2]
    refine ⟨by simp [List.getD, List.getElem?_range hr], by simp⟩
theorem points_lines {n room c : Nat} {ps qs : List Nat} (h : ∀ l, l < n → ps.getD l 0 = qs.getD l 0 + c) (row : List (List Nat)) : linesF ⟨n, room, .points ps⟩ row = linesF ⟨n, room, .points qs⟩ row := by
  refine bisimL (d := ⟨n, room, .points ps⟩) (e := ⟨n, room, .points qs⟩) (R := fun p q => p = q) rfl rfl rfl (fun zs p q hR _ _ => ?_) row
  subst hR
  unfold chosenF
  simp only
  by_cases h0 : there n zs = []
  · rw [if_pos h0, if_pos h0]; exact ⟨rfl, rfl⟩
  · rw [if_neg h0, if_neg h0]
    simp only
    rw [bestOf_shift (c := c) (f := fun l => ps.getD l 0 + (qAt zs l).headD 0) (g := fun l => qs.getD l 0 + (qAt zs l).headD 0) fun y hy => by
      have := h y (there_mem.mp hy).1
      omega]
    exact ⟨rfl, trivial⟩
theorem oldest_lines {n room : Nat} (row : List (List Nat)) : linesF ⟨n, room, .oldest⟩ row = linesF ⟨n, room, .points (List.replicate n 0)⟩ row := by
  refine bisimL (d := ⟨n, room, .oldest⟩) (e := ⟨n, room, .points (List.replicate n 0)⟩) (R := fun p q => p = q) rfl rfl rfl (fun zs p q hR _ _ => ?_) row
  subst hR
  unfold chosenF
  simp only
  by_cases h0 : there n zs = []
  · rw [if_pos h0, if_pos h0]; exact ⟨rfl, rfl⟩
  · rw [if_neg h0, if_neg h0]
    simp only
    rw [bestOf_shift (c := 0) (f := fun l => 0 + (qAt zs l).headD 0) (g := fun l => (List.replicate n 0).getD l 0 + (qAt zs l).headD 0) fun y hy => by
      have := (there_mem.mp hy).1
      simp [List.getD, List.getElem?_replicate, this]]
    exact ⟨rfl, trivial⟩
theorem longest_lines {n : Nat} (row : List (List Nat)) : linesF ⟨n, 1, .longest⟩ row = linesF ⟨n, 1, .order (List.range n)⟩ row := by
  refine bisimL (d := ⟨n, 1, .longest⟩) (e := ⟨n, 1, .order (List.range n)⟩) (R := fun p q => p = q) rfl rfl rfl (fun zs p q hR hle _ => ?_) row
  subst hR
  unfold chosenF
  simp only
  by_cases h0 : there n zs = []
  · rw [if_pos h0, if_pos h0]; exact ⟨rfl, rfl⟩
  · rw [if_neg h0, if_neg h0]
    simp only
    have e1 : ((List.range n).filter fun l => decide (l ∈ there n zs)) = there n zs := by
      show _ = (List.range n).filter fun l => !(qAt zs l).isEmpty
      refine List.filter_congr fun l hl => ?_
      have hl := List.mem_range.mp hl
      rw [Bool.eq_iff_iff, decide_eq_true_iff, there_mem]
      simp [hl]
    rw [e1]
    have hone : ∀ y ∈ there n zs, (qAt zs y).length = 1 := fun y hy => by
      obtain ⟨y1, y2⟩ := there_mem.mp hy
      have h1 : (qAt zs y).length ≤ 1 := by
        unfold qAt at y2 ⊢
        rw [List.getD] at y2 ⊢
        cases e : zs[y]? with
        | none => rw [e] at y2; exact absurd rfl y2
        | some q => exact hle q (List.mem_of_getElem? e)
      have h2 : 0 < (qAt zs y).length := List.length_pos_iff.mpr y2
      omega
    have hup := there_up n zs
    cases e : there n zs with
    | nil => exact absurd e h0
    | cons x xs =>
      rw [e] at hone hup
      have := best_flat (f := fun l => (qAt zs l).length) xs x hone (List.pairwise_cons.mp hup).1
      exact ⟨by simp [bestOf, this], trivial⟩
theorem one_lines {d e : Desk} (hd : d.ok) (he : e.ok) (hn : d.n = 1) (hn' : e.n = 1) (hr : d.room = e.room) (row : List (List Nat)) : linesF d row = linesF e row := by
  refine bisimL (by rw [hn, hn']) hr (fun _ _ => True) trivial (fun zs p q _ _ _ => ⟨?_, trivial⟩) row
  cases e1 : (chosenF d zs p).1 with
  | none =>
    have h1 := chosenF_none.mp e1
    rw [hn, ← hn'] at h1
    rw [chosenF_none.mpr h1]
  | some l =>
    have h1 := chosenF_mem hd e1
    cases e2 : (chosenF e zs q).1 with
    | none =>
      have h2 := chosenF_none.mp e2
      rw [hn', ← hn] at h2
      rw [h2] at h1; simp at h1
    | some l' =>
      have h2 := chosenF_mem he e2
      have a1 := (there_mem.mp h1).1
      have a2 := (there_mem.mp h2).1
      congr 1
      omega
end Qz
namespace Qz
open PySem PySem.Spec PyProof.Rows L2
/-! ### one row tells all rules of a desk apart -/
def Rule.same : Rule → Rule → Bool
  | .order xs, .order ys => decide (xs = ys)
  | .cycle xs, .cycle ys => decide (xs = ys)
  | .points xs, .points ys => decide (xs = ys)
  | .round, .round => true
  | .oldest, .oldest => true
  | .longest, .longest => true
  | _, _ => false
theorem same_eq {r s : Rule} (h : r.same s = true) : r = s := by
  cases r <;> cases s <;> first | rfl | (cases h; done) | (rw [of_decide_eq_true h])
def codeL (xs : List (Option Nat)) : Nat := xs.foldl (fun a o => 4 * a + (match o with | none => 3 | some x => x)) 1
inductive Ts where
  | nl
  | nd (k : Nat) (r : Rule) (a b : Ts)
def Ts.look : Ts → Nat → Option Rule
  | .nl, _ => none
  | .nd k r a b, x => bif Nat.beq x k then some r else bif Nat.ble x k then a.look x else b.look x
def reps (us : List Nat) : Nat → List Nat
  | 0 => []
  | j + 1 => us ++ reps us j
def rootLen (xs : List Nat) : Nat := ((List.range xs.length).find? fun m => decide (0 < m) && decide (xs.length % m = 0) && decide (xs = reps (xs.take m) (xs.length / m))).getD xs.length
def minL : List Nat → Nat
  | [] => 0
  | [x] => x
  | x :: xs => Nat.min x (minL xs)
def canon (n room : Nat) : Rule → Rule
  | .order xs => .order xs
  | .round => .cycle (List.range n)
  | .cycle xs => .cycle (xs.take (rootLen xs))
  | .longest => if room = 1 then .order (List.range n) else .longest
  | .points ps => .points (ps.map fun x => x - minL ps)
  | .oldest => .points (List.replicate n 0)
theorem reps_get {us : List Nat} (hm : 0 < us.length) : ∀ (j o : Nat), o < us.length * j → (reps us j).getD o 0 = us.getD (o % us.length) 0
  | 0, o, h => by simp at h
  | j + 1, o, h => by
    show (us ++ reps us j).getD o 0 = _
    by_cases c : o < us.length
    · simp [List.getD, List.getElem?_append_left c, Nat.mod_eq_of_lt c]
    · have h2 : o - us.length < us.length * j := by rw [Nat.mul_succ] at h; omega
      have ih := reps_get hm j (o - us.length) h2
      have e1 : (us ++ reps us j).getD o 0 = (reps us j).getD (o - us.length) 0 := by simp [List.getD, List.getElem?_append_right (show us.length ≤ o by omega)]
      rw [e1, ih, Nat.mod_eq_sub_mod (show us.length ≤ o by omega)]
theorem reps_mem {us : List Nat} {x : Nat} : ∀ (j : Nat), x ∈ reps us j → x ∈ us
  | 0, h => by simp [reps] at h
  | j + 1, h => by
    rcases List.mem_append.mp (show x ∈ us ++ reps us j from h) with h | h
    · exact h
    · exact reps_mem j h
theorem root_ok {n room : Nat} {xs : List Nat} (h : (Rule.cycle xs).ok n) (h1 : 1 ≤ n) (row : List (List Nat)) : linesF ⟨n, room, .cycle xs⟩ row = linesF ⟨n, room, .cycle (xs.take (rootLen xs))⟩ row := by
  have hp := rule_len h h1
  unfold rootLen
  cases e : (List.range xs.length).find? fun m => decide (0 < m) && decide (xs.length % m = 0) && decide (xs = reps (xs.take m) (xs.length / m)) with
  | none => simp
  | some m =>
    have hm1 := List.mem_range.mp (List.mem_of_find?_eq_some e)
    have hm2 := List.find?_some e
    simp only [Bool.and_eq_true, decide_eq_true_eq] at hm2
    obtain ⟨⟨a1, a2⟩, a3⟩ := hm2
    simp only [Option.getD_some]
    have hl : (xs.take m).length = m := by rw [List.length_take]; omega
    have hk : xs.length = m * (xs.length / m) := by have := Nat.div_add_mod xs.length m; omega
    have hj : 0 < xs.length / m := Nat.div_pos (by omega) a1
    refine root_lines (j := xs.length / m) (by omega) (by rw [hl]; exact hk) hj (fun o ho => ?_) (fun i hi => ?_) row
    · have := reps_get (us := xs.take m) (by omega) (xs.length / m) o (by rw [hl, ← hk]; exact ho)
      rw [← a3] at this; exact this
    · have := h.2.2 i hi
      rw [a3] at this
      exact reps_mem _ this
theorem minL_le : ∀ (ps : List Nat), ∀ x ∈ ps, minL ps ≤ x
  | [], x, h => by simp at h
  | [y], x, h => by simp at h; subst h; exact Nat.le_refl _
  | y :: z :: ps, x, h => by
    have e : minL (y :: z :: ps) = Nat.min y (minL (z :: ps)) := rfl
    rw [e]
    rcases List.mem_cons.mp h with rfl | h
    · exact Nat.min_le_left _ _
    · exact Nat.le_trans (Nat.min_le_right _ _) (minL_le (z :: ps) x h)
theorem canon_lines {n room : Nat} {r : Rule} (h : r.ok n) (h1 : 1 ≤ n) (row : List (List Nat)) : linesF ⟨n, room, r⟩ row = linesF ⟨n, room, canon n room r⟩ row := by
  cases r with
  | order xs => rfl
  | round => exact round_lines h1 row
  | cycle xs => exact root_ok h h1 row
  | longest =>
    by_cases e : room = 1
    · subst e; exact longest_lines row
    · show _ = linesF ⟨n, room, if room = 1 then .order (List.range n) else .longest⟩ row
      rw [if_neg e]
  | points ps =>
    refine points_lines (c := minL ps) (fun l hl => ?_) row
    have hlp : l < ps.length := by rw [h.1]; exact hl
    have := minL_le ps ps[l] (List.getElem_mem hlp)
    simp [List.getD, List.getElem?_map, List.getElem?_eq_getElem hlp]
    omega
  | oldest => exact oldest_lines row
/-! all rules -/
def words (n : Nat) : Nat → List (List Nat)
  | 0 => [[]]
  | k + 1 => (List.range n).flatMap fun x => (words n k).map (x :: ·)
theorem words_mem {n : Nat} : ∀ (xs : List Nat), (∀ x ∈ xs, x < n) → xs ∈ words n xs.length
  | [], _ => by simp [words]
  | x :: xs, h => List.mem_flatMap.mpr ⟨x, List.mem_range.mpr (h x (by simp)), List.mem_map.mpr ⟨xs, words_mem xs fun y hy => h y (by simp [hy]), rfl⟩⟩
def onto (n : Nat) (xs : List Nat) : Bool := (List.range n).all fun i => xs.any fun x => Nat.beq i x
theorem onto_of {n : Nat} {xs : List Nat} (h : ∀ i, i < n → i ∈ xs) : onto n xs = true := by
  unfold onto
  rw [List.all_eq_true]
  intro i hi
  rw [List.any_eq_true]
  exact ⟨i, h i (List.mem_range.mp hi), Nat.beq_refl i⟩
def allR (n : Nat) : List Rule := [.round, .oldest, .longest] ++ (((words n n).filter (onto n)).map .order ++ ((words 5 n).map .points ++ (((List.range 7).flatMap (words n)).filter (onto n)).map .cycle))
theorem allR_mem {n : Nat} {r : Rule} (h : r.ok n) : r ∈ allR n := by
  unfold allR
  cases r with
  | order xs =>
    have hl : xs.length = n := by have := List.Perm.length_eq h; simpa using this
    have hw := words_mem (n := n) xs fun x hx => List.mem_range.mp ((List.Perm.mem_iff h).mp hx)
    rw [hl] at hw
    exact List.mem_append_right _ (List.mem_append_left _ (List.mem_map.mpr ⟨xs, List.mem_filter.mpr ⟨hw, onto_of fun i hi => (List.Perm.mem_iff h).mpr (List.mem_range.mpr hi)⟩, rfl⟩))
  | round => simp
  | oldest => simp
  | longest => simp
  | points ps =>
    have hw := words_mem (n := 5) ps fun x hx => by have := h.2 x hx; omega
    rw [h.1] at hw
    exact List.mem_append_right _ (List.mem_append_right _ (List.mem_append_left _ (List.mem_map.mpr ⟨ps, hw, rfl⟩)))
  | cycle xs =>
    have hw := words_mem (n := n) xs h.2.1
    exact List.mem_append_right _ (List.mem_append_right _ (List.mem_append_right _ (List.mem_map.mpr ⟨xs, List.mem_filter.mpr ⟨List.mem_flatMap.mpr ⟨xs.length, List.mem_range.mpr (by have := h.1; omega), hw⟩, onto_of h.2.2⟩, rfl⟩)))
def tellsB (n room : Nat) (row : List (List Nat)) (T : Ts) (r : Rule) : Bool := match T.look (codeL (linesF ⟨n, room, r⟩ row)) with | some c => c.same (canon n room r) | none => false
def told (n room : Nat) (row : List (List Nat)) (T : Ts) : Bool := (allR n).all (tellsB n room row T)
def toldC (n room : Nat) (row : List (List Nat)) (T : Ts) (i : Nat) : Bool := (((allR n).drop (60 * i)).take 60).all (tellsB n room row T)
theorem told_of {n room : Nat} {row : List (List Nat)} {T : Ts} {k : Nat} (hl : (allR n).length ≤ 60 * k) (h : ∀ i, i < k → toldC n room row T i = true) : told n room row T = true := by
  unfold told
  rw [List.all_eq_true]
  intro r hr
  obtain ⟨j, hj, e⟩ := List.getElem_of_mem hr
  have h1 := h (j / 60) (by omega)
  unfold toldC at h1
  rw [List.all_eq_true] at h1
  refine h1 r ?_
  refine List.mem_of_getElem? (i := j % 60) ?_
  rw [List.getElem?_take_of_lt (Nat.mod_lt _ (by omega)), List.getElem?_drop, Nat.div_add_mod, List.getElem?_eq_getElem hj, e]
theorem told_ok {n room : Nat} {row : List (List Nat)} {T : Ts} (h : told n room row T = true) {r s : Rule} (hr : r.ok n) (hs : s.ok n) (h1 : 1 ≤ n) (e : linesF ⟨n, room, r⟩ row = linesF ⟨n, room, s⟩ row) (row' : List (List Nat)) : linesF ⟨n, room, r⟩ row' = linesF ⟨n, room, s⟩ row' := by
  unfold told at h
  rw [List.all_eq_true] at h
  have g1 := h r (allR_mem hr)
  have g2 := h s (allR_mem hs)
  unfold tellsB at g1 g2
  rw [e] at g1
  have : canon n room s = canon n room r := by
    cases e0 : T.look (codeL (linesF ⟨n, room, s⟩ row)) with
    | none => rw [e0] at g1; cases g1
    | some c =>
      rw [e0] at g1 g2
      rw [← same_eq g1, ← same_eq g2]
  rw [canon_lines hr h1, canon_lines hs h1, this]
def row21 : List (List Nat) := [[0, 1], [0, 1], [0, 1], [0, 1], [0, 1], [0, 1], [0, 1], [0, 1], [0, 1], [0, 1], [], [0, 1], [], [1], [1], [], [0, 1], [0, 1], [1], [0], [0], [0, 1], [0], [0, 1], [0, 1]]
def ts21 : Ts :=
 (.nd 1219655894913093 (.cycle [0, 1, 1, 1, 1, 1]) (.nd 1149012222414913 (.cycle [0, 0, 1, 1, 1]) (.nd 1131673439440917 (.cycle [0, 0, 0, 1, 1, 1]) (.nd 1130299049906177 (.cycle [0,
  0, 0, 1, 0, 0]) (.nd 1126999709716481 (.cycle [0, 0, 0, 0, 1, 0]) (.nd 1126175075995648 (.points [4, 0]) (.nd 1125900198088704 (.order [0, 1]) .nl .nl) (.nd 1126175075995649
  (.cycle [0, 0, 0, 0, 0, 1]) .nl .nl)) (.nd 1127000515022852 (.cycle [0, 0, 0, 0, 1]) (.nd 1127000515022848 (.points [3, 0]) .nl .nl) (.nd 1127274637955077 (.cycle [0, 0, 0, 0, 1,
  1]) .nl .nl))) (.nd 1130573978144772 (.cycle [0, 0, 0, 1, 0, 1]) (.nd 1130315424468993 (.points [2, 0]) (.nd 1130302539567108 (.cycle [0, 0, 0, 1, 0]) .nl .nl) (.nd
  1130315424469008 (.cycle [0, 0, 0, 1]) .nl .nl)) (.nd 1131402856566804 (.cycle [0, 0, 0, 1, 1]) (.nd 1131398561599493 (.cycle [0, 0, 0, 1, 1, 0]) .nl .nl) .nl))) (.nd
  1144609880949008 (.cycle [0, 0, 1, 0, 1]) (.nd 1143771557007364 (.points [1, 0]) (.nd 1143509564002308 (.cycle [0, 0, 1, 0, 0]) (.nd 1143496679100417 (.cycle [0, 0, 1, 0, 0, 0])
  .nl .nl) (.nd 1143561103609872 (.cycle [0, 0, 1, 0]) .nl .nl)) (.nd 1144596190740548 (.cycle [0, 0, 1, 0, 1, 0]) (.nd 1143771557007425 (.cycle [0, 0, 1]) .nl .nl) .nl)) (.nd
  1147976380321857 (.cycle [0, 0, 1, 1]) (.nd 1147895530983429 (.cycle [0, 0, 1, 1, 0, 0]) (.nd 1144871119032337 (.cycle [0, 0, 1, 0, 1, 1]) .nl .nl) (.nd 1147911955812372 (.cycle
  [0, 0, 1, 1, 0]) .nl .nl)) (.nd 1148995042545685 (.cycle [0, 0, 1, 1, 1, 0]) (.nd 1148170459169092 (.cycle [0, 0, 1, 1, 0, 1]) .nl .nl) .nl)))) (.nd 1202059413884997 (.cycle [0,
  1, 0, 1, 1, 1]) (.nd 1197660562067524 (.cycle [0, 1, 0, 0, 1, 1]) (.nd 1196544625479696 (.cycle [0, 1, 0, 0]) (.nd 1196286122135553 (.cycle [0, 1, 0, 0, 0, 0]) (.nd
  1149269920518209 (.cycle [0, 0, 1, 1, 1, 1]) .nl .nl) (.nd 1196337661743108 (.cycle [0, 1, 0, 0, 0]) .nl .nl)) (.nd 1197385633763393 (.cycle [0, 1, 0]) (.nd 1196561000042500
  (.cycle [0, 1, 0, 0, 0, 1]) .nl .nl) (.nd 1197438029008913 (.cycle [0, 1, 0, 0, 1]) .nl .nl))) (.nd 1200959902204996 (.cycle [0, 1]) (.nd 1200740003221521 (.cycle [0, 1, 0, 1, 0])
  (.nd 1200684973965380 (.cycle [0, 1, 0, 1, 0, 0]) .nl .nl) (.nd 1200959851873297 (.points [0, 0]) .nl .nl)) (.nd 1201840370500677 (.cycle [0, 1, 0, 1, 1]) (.nd 1201784485580817
  (.cycle [0, 1, 0, 1, 1, 0]) .nl .nl) .nl))) (.nd 1215257043030085 (.cycle [0, 1, 1]) (.nd 1214205531066433 (.cycle [0, 1, 1, 0]) (.nd 1213947077988372 (.cycle [0, 1, 1, 0, 0])
  (.nd 1213882653478917 (.cycle [0, 1, 1, 0, 0, 0]) .nl .nl) (.nd 1214157481070661 (.cycle [0, 1, 1, 0, 0, 1]) .nl .nl)) (.nd 1215047394988101 (.cycle [0, 1, 1, 0, 1]) (.nd
  1214982114775060 (.cycle [0, 1, 1, 0, 1, 0]) .nl .nl) .nl)) (.nd 1218620807778373 (.cycle [0, 1, 1, 1]) (.nd 1218349419532353 (.cycle [0, 1, 1, 1, 0]) (.nd 1218281454964757
  (.cycle [0, 1, 1, 1, 0, 0]) .nl .nl) (.nd 1218556383268933 (.cycle [0, 1, 1, 1, 0, 1]) .nl .nl)) (.nd 1219449736479813 (.cycle [0, 1, 1, 1, 1]) (.nd 1219380966658113 (.cycle [0,
  1, 1, 1, 1, 0]) .nl .nl) .nl))))) (.nd 1477829868654597 (.cycle [1, 1, 0, 0, 0, 0]) (.nd 1425040375287812 (.cycle [1, 0, 1, 0, 0, 0]) (.nd 1411842746093633 (.cycle [1, 0, 0]) (.nd
  1408478981394448 (.cycle [1, 0, 0, 0]) (.nd 1407650052706308 (.cycle [1, 0, 0, 0, 0]) (.nd 1407443894276097 (.cycle [1, 0, 0, 0, 0, 0]) .nl .nl) (.nd 1407718822514693 (.cycle [1,
  0, 0, 0, 0, 1]) .nl .nl)) (.nd 1408750369706004 (.cycle [1, 0, 0, 0, 1]) (.nd 1408543405903876 (.cycle [1, 0, 0, 0, 1, 0]) .nl .nl) (.nd 1408818334208021 (.cycle [1, 0, 0, 0, 1,
  1]) .nl .nl))) (.nd 1412942308065604 (.cycle [1, 0, 0, 1, 1, 0]) (.nd 1412117674397713 (.cycle [1, 0, 0, 1, 0, 1]) (.nd 1412052394197264 (.cycle [1, 0, 0, 1, 0]) .nl .nl) (.nd
  1412894258106433 (.cycle [1, 0, 0, 1]) .nl .nl)) (.nd 1413217135693889 (.cycle [1, 0, 0, 1, 1, 1]) (.nd 1413152711118913 (.cycle [1, 0, 0, 1, 1]) .nl .nl) .nl))) (.nd
  1429439227105297 (.cycle [1, 0, 1, 1, 0, 0]) (.nd 1426139937312836 (.points [0, 1]) (.nd 1425315303592004 (.cycle [1, 0, 1, 0, 0, 1]) (.nd 1425259418619921 (.cycle [1, 0, 1, 0,
  0]) .nl .nl) (.nd 1426139886928964 (.cycle [1, 0]) .nl .nl)) (.nd 1426414815233092 (.cycle [1, 0, 1, 0, 1, 1]) (.nd 1426359785899077 (.cycle [1, 0, 1, 0, 1]) .nl .nl) .nl)) (.nd
  1430555163693125 (.cycle [1, 0, 1, 1]) (.nd 1429714155360325 (.cycle [1, 0, 1]) (.nd 1429661760114756 (.cycle [1, 0, 1, 1, 0]) .nl .nl) (.nd 1430538789130309 (.cycle [1, 0, 1, 1,
  1, 0]) .nl .nl)) (.nd 1430813667053637 (.cycle [1, 0, 1, 1, 1, 1]) (.nd 1430762127443013 (.cycle [1, 0, 1, 1, 1]) .nl .nl) .nl)))) (.nd 1495426349731861 (.cycle [1, 1, 1, 0, 0,
  0]) (.nd 1482489908236357 (.cycle [1, 1, 0, 1, 0]) (.nd 1479123408851009 (.cycle [1, 1, 0, 0]) (.nd 1478104746627093 (.cycle [1, 1, 0, 0, 0, 1]) (.nd 1478087566692372 (.cycle [1,
  1, 0, 0, 0]) .nl .nl) (.nd 1478929329967173 (.cycle [1, 1, 0, 0, 1, 0]) .nl .nl)) (.nd 1479204258267457 (.cycle [1, 1, 0, 0, 1, 1]) (.nd 1479187833294913 (.cycle [1, 1, 0, 0, 1])
  .nl .nl) (.nd 1482228670140436 (.cycle [1, 1, 0, 1, 0, 0]) .nl .nl))) (.nd 1483538685562949 (.cycle [1, 1, 0, 1]) (.nd 1483328232116293 (.cycle [1, 1, 0]) (.nd 1482503598457924
  (.cycle [1, 1, 0, 1, 0, 1]) .nl .nl) (.nd 1483328232178757 (.points [0, 2]) .nl .nl)) (.nd 1483603110088773 (.cycle [1, 1, 0, 1, 1, 1]) (.nd 1483590225183813 (.cycle [1, 1, 0, 1,
  1]) .nl .nl) .nl))) (.nd 1496800739283013 (.cycle [1, 1, 1, 0, 1, 1]) (.nd 1496784364703813 (.cycle [1, 1, 1, 0]) (.nd 1495701227651393 (.cycle [1, 1, 1, 0, 0, 1]) (.nd
  1495696932671553 (.cycle [1, 1, 1, 0, 0]) .nl .nl) (.nd 1496525810975813 (.cycle [1, 1, 1, 0, 1, 0]) .nl .nl)) (.nd 1496797249619013 (.cycle [1, 1, 1, 0, 1]) (.nd 1496784364720197
  (.points [0, 3]) .nl .nl) .nl)) (.nd 1500100079472709 (.cycle [1, 1, 1, 1, 0, 1]) (.nd 1500099274163269 (.cycle [1, 1, 1, 1, 0]) (.nd 1499825151217729 (.cycle [1, 1, 1, 1, 0, 0])
  .nl .nl) (.nd 1500099274166341 (.points [0, 4]) .nl .nl)) (.nd 1501199591100485 (.order [1, 0]) (.nd 1500924713193541 (.cycle [1, 1, 1, 1, 1, 0]) .nl .nl) .nl))))))
def row22 : List (List Nat) := [[0, 1], [0, 1], [0, 1], [0, 1], [0, 1], [0, 1], [], [0, 1], [0, 1], [0, 1], [1]]
def ts22 : Ts :=
 (.nd 4543573 (.cycle [0, 1, 1, 1, 1, 1]) (.nd 4281365 (.cycle [0, 0, 1, 1, 1, 1]) (.nd 4215813 (.cycle [0, 0, 0, 1, 1, 1]) (.nd 4210692 (.cycle [0, 0, 0, 1, 0, 0]) (.nd 4198401
  (.cycle [0, 0, 0, 0, 1, 0]) (.nd 4195329 (.cycle [0, 0, 0, 0, 0, 1]) (.nd 4194561 (.order [0, 1]) .nl .nl) (.nd 4195392 (.points [4, 0]) .nl .nl)) (.nd 4198657 (.points [3, 0])
  (.nd 4198404 (.cycle [0, 0, 0, 0, 1]) .nl .nl) (.nd 4199425 (.cycle [0, 0, 0, 0, 1, 1]) .nl .nl))) (.nd 4211728 (.points [2, 0]) (.nd 4210752 (.cycle [0, 0, 0, 1]) (.nd 4210704
  (.cycle [0, 0, 0, 1, 0]) .nl .nl) (.nd 4211716 (.cycle [0, 0, 0, 1, 0, 1]) .nl .nl)) (.nd 4214804 (.cycle [0, 0, 0, 1, 1]) (.nd 4214789 (.cycle [0, 0, 0, 1, 1, 0]) .nl .nl) .nl)))
  (.nd 4264977 (.cycle [0, 0, 1, 0, 1, 1]) (.nd 4260880 (.cycle [0, 0, 1]) (.nd 4259904 (.cycle [0, 0, 1, 0, 0]) (.nd 4259856 (.cycle [0, 0, 1, 0, 0, 0]) .nl .nl) (.nd 4260097
  (.cycle [0, 0, 1, 0]) .nl .nl)) (.nd 4264004 (.cycle [0, 0, 1, 0, 1]) (.nd 4263953 (.cycle [0, 0, 1, 0, 1, 0]) .nl .nl) (.nd 4264016 (.points [1, 0]) .nl .nl))) (.nd 4277268
  (.cycle [0, 0, 1, 1, 0, 1]) (.nd 4276304 (.cycle [0, 0, 1, 1, 0]) (.nd 4276244 (.cycle [0, 0, 1, 1, 0, 0]) .nl .nl) (.nd 4276545 (.cycle [0, 0, 1, 1]) .nl .nl)) (.nd 4280404
  (.cycle [0, 0, 1, 1, 1]) (.nd 4280341 (.cycle [0, 0, 1, 1, 1, 0]) .nl .nl) .nl)))) (.nd 4478021 (.cycle [0, 1, 0, 1, 1, 1]) (.nd 4461633 (.cycle [0, 1, 0, 0, 1, 1]) (.nd 4457476
  (.cycle [0, 1, 0, 0]) (.nd 4456704 (.cycle [0, 1, 0, 0, 0]) (.nd 4456512 (.cycle [0, 1, 0, 0, 0, 0]) .nl .nl) (.nd 4456705 .longest .nl .nl)) (.nd 4460609 (.cycle [0, 1, 0]) (.nd
  4457536 (.cycle [0, 1, 0, 0, 0, 1]) .nl .nl) (.nd 4460804 (.cycle [0, 1, 0, 0, 1]) .nl .nl))) (.nd 4473924 (.cycle [0, 1]) (.nd 4473104 (.cycle [0, 1, 0, 1, 0]) (.nd 4472900
  (.cycle [0, 1, 0, 1, 0, 0]) .nl .nl) (.nd 4473921 (.points [0, 0]) .nl .nl)) (.nd 4477204 (.cycle [0, 1, 0, 1, 1]) (.nd 4476997 (.cycle [0, 1, 0, 1, 1, 0]) .nl .nl) .nl))) (.nd
  4527185 (.cycle [0, 1, 1]) (.nd 4523269 (.cycle [0, 1, 1, 0]) (.nd 4522304 (.cycle [0, 1, 1, 0, 0]) (.nd 4522064 (.cycle [0, 1, 1, 0, 0, 0]) .nl .nl) (.nd 4523088 (.cycle [0, 1,
  1, 0, 0, 1]) .nl .nl)) (.nd 4526404 (.cycle [0, 1, 1, 0, 1]) (.nd 4526161 (.cycle [0, 1, 1, 0, 1, 0]) .nl .nl) .nl)) (.nd 4539717 (.cycle [0, 1, 1, 1]) (.nd 4538704 (.cycle [0, 1,
  1, 1, 0]) (.nd 4538452 (.cycle [0, 1, 1, 1, 0, 0]) .nl .nl) (.nd 4539476 (.cycle [0, 1, 1, 1, 0, 1]) .nl .nl)) (.nd 4542804 (.cycle [0, 1, 1, 1, 1]) (.nd 4542549 (.cycle [0, 1, 1,
  1, 1, 0]) .nl .nl) .nl))))) (.nd 5505344 (.cycle [1, 1, 0, 0, 0, 0]) (.nd 5308688 (.cycle [1, 0, 1, 0, 0, 0]) (.nd 5259524 (.cycle [1, 0, 0]) (.nd 5246992 (.cycle [1, 0, 0, 0])
  (.nd 5243905 (.cycle [1, 0, 0, 0, 0]) (.nd 5243136 (.cycle [1, 0, 0, 0, 0, 0]) .nl .nl) (.nd 5244160 (.cycle [1, 0, 0, 0, 0, 1]) .nl .nl)) (.nd 5248005 (.cycle [1, 0, 0, 0, 1])
  (.nd 5247233 (.cycle [1, 0, 0, 0, 1, 0]) .nl .nl) (.nd 5248257 (.cycle [1, 0, 0, 0, 1, 1]) .nl .nl))) (.nd 5263621 (.cycle [1, 0, 0, 1, 1, 0]) (.nd 5260548 (.cycle [1, 0, 0, 1, 0,
  1]) (.nd 5260305 (.cycle [1, 0, 0, 1, 0]) .nl .nl) (.nd 5263440 (.cycle [1, 0, 0, 1]) .nl .nl)) (.nd 5264645 (.cycle [1, 0, 0, 1, 1, 1]) (.nd 5264405 (.cycle [1, 0, 0, 1, 1]) .nl
  .nl) .nl))) (.nd 5325076 (.cycle [1, 0, 1, 1, 0, 0]) (.nd 5312788 (.points [0, 1]) (.nd 5309712 (.cycle [1, 0, 1, 0, 0, 1]) (.nd 5309505 (.cycle [1, 0, 1, 0, 0]) .nl .nl) (.nd
  5312785 (.cycle [1, 0]) .nl .nl)) (.nd 5313809 (.cycle [1, 0, 1, 0, 1, 1]) (.nd 5313605 (.cycle [1, 0, 1, 0, 1]) .nl .nl) .nl)) (.nd 5329233 (.cycle [1, 0, 1, 1]) (.nd 5326100
  (.cycle [1, 0, 1]) (.nd 5325905 (.cycle [1, 0, 1, 1, 0]) .nl .nl) (.nd 5329173 (.cycle [1, 0, 1, 1, 1, 0]) .nl .nl)) (.nd 5330197 (.cycle [1, 0, 1, 1, 1, 1]) (.nd 5330005 (.cycle
  [1, 0, 1, 1, 1]) .nl .nl) .nl)))) (.nd 5570896 (.cycle [1, 1, 1, 0, 0, 0]) (.nd 5522693 (.points [0, 2]) (.nd 5510164 (.cycle [1, 1, 0, 0]) (.nd 5506368 (.cycle [1, 1, 0, 0, 0,
  1]) (.nd 5506305 (.cycle [1, 1, 0, 0, 0]) .nl .nl) (.nd 5509441 (.cycle [1, 1, 0, 0, 1, 0]) .nl .nl)) (.nd 5510465 (.cycle [1, 1, 0, 0, 1, 1]) (.nd 5510405 (.cycle [1, 1, 0, 0,
  1]) .nl .nl) (.nd 5521732 (.cycle [1, 1, 0, 1, 0, 0]) .nl .nl))) (.nd 5526612 (.cycle [1, 1, 0, 1]) (.nd 5522756 (.cycle [1, 1, 0, 1, 0, 1]) (.nd 5522705 (.cycle [1, 1, 0, 1, 0])
  .nl .nl) (.nd 5525829 (.cycle [1, 1, 0]) .nl .nl)) (.nd 5526853 (.cycle [1, 1, 0, 1, 1, 1]) (.nd 5526805 (.cycle [1, 1, 0, 1, 1]) .nl .nl) .nl))) (.nd 5576017 (.cycle [1, 1, 1, 0,
  1, 1]) (.nd 5574993 (.cycle [1, 1, 1, 0, 1, 0]) (.nd 5571920 (.cycle [1, 1, 1, 0, 0, 1]) (.nd 5571905 (.cycle [1, 1, 1, 0, 0]) .nl .nl) (.nd 5574981 (.points [0, 3]) .nl .nl))
  (.nd 5576005 (.cycle [1, 1, 1, 0, 1]) (.nd 5575957 (.cycle [1, 1, 1, 0]) .nl .nl) .nl)) (.nd 5588308 (.cycle [1, 1, 1, 1, 0, 1]) (.nd 5588052 (.points [0, 4]) (.nd 5587284 (.cycle
  [1, 1, 1, 1, 0, 0]) .nl .nl) (.nd 5588305 (.cycle [1, 1, 1, 1, 0]) .nl .nl)) (.nd 5592149 (.order [1, 0]) (.nd 5591381 (.cycle [1, 1, 1, 1, 1, 0]) .nl .nl) .nl))))))
def row23 : List (List Nat) := [[0, 1], [0, 1], [0, 1], [0, 1], [0, 1], [0, 1], [], [0, 1], [0, 1], [0, 1], [], [0, 1]]
def ts23 : Ts :=
 (.nd 18174293 (.cycle [0, 1, 1, 1, 1, 1]) (.nd 17125461 (.cycle [0, 0, 1, 1, 1, 1]) (.nd 16863253 (.cycle [0, 0, 0, 1, 1, 1]) (.nd 16842768 (.cycle [0, 0, 0, 1, 0, 0]) (.nd
  16793604 (.cycle [0, 0, 0, 0, 1, 0]) (.nd 16781316 (.cycle [0, 0, 0, 0, 0, 1]) (.nd 16778244 (.order [0, 1]) .nl .nl) (.nd 16781632 (.points [4, 0]) .nl .nl)) (.nd 16794689
  (.points [3, 0]) (.nd 16793616 (.cycle [0, 0, 0, 0, 1]) .nl .nl) (.nd 16797701 (.cycle [0, 0, 0, 0, 1, 1]) .nl .nl))) (.nd 16847120 (.points [2, 0]) (.nd 16843009 (.cycle [0, 0,
  0, 1]) (.nd 16842816 (.cycle [0, 0, 0, 1, 0]) .nl .nl) (.nd 16846865 (.cycle [0, 0, 0, 1, 0, 1]) .nl .nl)) (.nd 16859216 (.cycle [0, 0, 0, 1, 1]) (.nd 16859156 (.cycle [0, 0, 0,
  1, 1, 0]) .nl .nl) .nl))) (.nd 17059909 (.cycle [0, 0, 1, 0, 1, 1]) (.nd 17043521 (.cycle [0, 0, 1]) (.nd 17039616 (.cycle [0, 0, 1, 0, 0]) (.nd 17039424 (.cycle [0, 0, 1, 0, 0,
  0]) .nl .nl) (.nd 17040388 (.cycle [0, 0, 1, 0]) .nl .nl)) (.nd 17056016 (.cycle [0, 0, 1, 0, 1]) (.nd 17055812 (.cycle [0, 0, 1, 0, 1, 0]) .nl .nl) (.nd 17056836 (.points [1, 0])
  .nl .nl))) (.nd 17109073 (.cycle [0, 0, 1, 1, 0, 1]) (.nd 17105216 (.cycle [0, 0, 1, 1, 0]) (.nd 17104976 (.cycle [0, 0, 1, 1, 0, 0]) .nl .nl) (.nd 17106181 (.cycle [0, 0, 1, 1])
  .nl .nl)) (.nd 17121616 (.cycle [0, 0, 1, 1, 1]) (.nd 17121364 (.cycle [0, 0, 1, 1, 1, 0]) .nl .nl) .nl)))) (.nd 17912085 (.cycle [0, 1, 0, 1, 1, 1]) (.nd 17891600 (.cycle [0, 1,
  0, 1, 0, 0]) (.nd 17830145 (.cycle [0, 1, 0, 0, 0, 1]) (.nd 17826817 (.cycle [0, 1, 0, 0, 0]) (.nd 17826048 (.cycle [0, 1, 0, 0, 0, 0]) .nl .nl) (.nd 17829904 (.cycle [0, 1, 0,
  0]) .nl .nl)) (.nd 17843217 (.cycle [0, 1, 0, 0, 1]) (.nd 17842436 (.cycle [0, 1, 0]) .nl .nl) (.nd 17846533 (.cycle [0, 1, 0, 0, 1, 1]) .nl .nl))) (.nd 17895697 (.cycle [0, 1])
  (.nd 17892417 (.cycle [0, 1, 0, 1, 0]) (.nd 17892356 .longest .nl .nl) (.nd 17895696 (.points [0, 0]) .nl .nl)) (.nd 17908817 (.cycle [0, 1, 0, 1, 1]) (.nd 17907988 (.cycle [0, 1,
  0, 1, 1, 0]) .nl .nl) .nl))) (.nd 18108741 (.cycle [0, 1, 1]) (.nd 18093076 (.cycle [0, 1, 1, 0]) (.nd 18089217 (.cycle [0, 1, 1, 0, 0]) (.nd 18088256 (.cycle [0, 1, 1, 0, 0, 0])
  .nl .nl) (.nd 18092353 (.cycle [0, 1, 1, 0, 0, 1]) .nl .nl)) (.nd 18105617 (.cycle [0, 1, 1, 0, 1]) (.nd 18104644 (.cycle [0, 1, 1, 0, 1, 0]) .nl .nl) .nl)) (.nd 18158869 (.cycle
  [0, 1, 1, 1]) (.nd 18154817 (.cycle [0, 1, 1, 1, 0]) (.nd 18153808 (.cycle [0, 1, 1, 1, 0, 0]) .nl .nl) (.nd 18157905 (.cycle [0, 1, 1, 1, 0, 1]) .nl .nl)) (.nd 18171217 (.cycle
  [0, 1, 1, 1, 1]) (.nd 18170196 (.cycle [0, 1, 1, 1, 1, 0]) .nl .nl) .nl))))) (.nd 22021376 (.cycle [1, 1, 0, 0, 0, 0]) (.nd 21234752 (.cycle [1, 0, 1, 0, 0, 0]) (.nd 21038096
  (.cycle [1, 0, 0]) (.nd 20987968 (.cycle [1, 0, 0, 0]) (.nd 20975620 (.cycle [1, 0, 0, 0, 0]) (.nd 20972544 (.cycle [1, 0, 0, 0, 0, 0]) .nl .nl) (.nd 20976641 (.cycle [1, 0, 0, 0,
  0, 1]) .nl .nl)) (.nd 20992020 (.cycle [1, 0, 0, 0, 1]) (.nd 20988932 (.cycle [1, 0, 0, 0, 1, 0]) .nl .nl) (.nd 20993029 (.cycle [1, 0, 0, 0, 1, 1]) .nl .nl))) (.nd 21054484
  (.cycle [1, 0, 0, 1, 1, 0]) (.nd 21042193 (.cycle [1, 0, 0, 1, 0, 1]) (.nd 21041220 (.cycle [1, 0, 0, 1, 0]) .nl .nl) (.nd 21053761 (.cycle [1, 0, 0, 1]) .nl .nl)) (.nd 21058581
  (.cycle [1, 0, 0, 1, 1, 1]) (.nd 21057620 (.cycle [1, 0, 0, 1, 1]) .nl .nl) .nl))) (.nd 21300304 (.cycle [1, 0, 1, 1, 0, 0]) (.nd 21251141 (.points [0, 1]) (.nd 21238849 (.cycle
  [1, 0, 1, 0, 0, 1]) (.nd 21238020 (.cycle [1, 0, 1, 0, 0]) .nl .nl) (.nd 21251140 (.cycle [1, 0]) .nl .nl)) (.nd 21255237 (.cycle [1, 0, 1, 0, 1, 1]) (.nd 21254420 (.cycle [1, 0,
  1, 0, 1]) .nl .nl) .nl)) (.nd 21316933 (.cycle [1, 0, 1, 1]) (.nd 21304401 (.cycle [1, 0, 1]) (.nd 21303620 (.cycle [1, 0, 1, 1, 0]) .nl .nl) (.nd 21316692 (.cycle [1, 0, 1, 1, 1,
  0]) .nl .nl)) (.nd 21320789 (.cycle [1, 0, 1, 1, 1, 1]) (.nd 21320020 (.cycle [1, 0, 1, 1, 1]) .nl .nl) .nl)))) (.nd 22283584 (.cycle [1, 1, 1, 0, 0, 0]) (.nd 22090001 (.points
  [0, 2]) (.nd 22040656 (.cycle [1, 1, 0, 0]) (.nd 22025473 (.cycle [1, 1, 0, 0, 0, 1]) (.nd 22025221 (.cycle [1, 1, 0, 0, 0]) .nl .nl) (.nd 22037764 (.cycle [1, 1, 0, 0, 1, 0]) .nl
  .nl)) (.nd 22041861 (.cycle [1, 1, 0, 0, 1, 1]) (.nd 22041621 (.cycle [1, 1, 0, 0, 1]) .nl .nl) (.nd 22086928 (.cycle [1, 1, 0, 1, 0, 0]) .nl .nl))) (.nd 22106449 (.cycle [1, 1,
  0, 1]) (.nd 22091025 (.cycle [1, 1, 0, 1, 0, 1]) (.nd 22090821 (.cycle [1, 1, 0, 1, 0]) .nl .nl) (.nd 22103316 (.cycle [1, 1, 0]) .nl .nl)) (.nd 22107413 (.cycle [1, 1, 0, 1, 1,
  1]) (.nd 22107221 (.cycle [1, 1, 0, 1, 1]) .nl .nl) .nl))) (.nd 22304069 (.cycle [1, 1, 1, 0, 1, 1]) (.nd 22299972 (.cycle [1, 1, 1, 0, 1, 0]) (.nd 22287681 (.cycle [1, 1, 1, 0,
  0, 1]) (.nd 22287621 (.cycle [1, 1, 1, 0, 0]) .nl .nl) (.nd 22299717 (.points [0, 3]) .nl .nl)) (.nd 22304021 (.cycle [1, 1, 1, 0, 1]) (.nd 22303828 (.cycle [1, 1, 1, 0]) .nl .nl)
  .nl)) (.nd 22353233 (.cycle [1, 1, 1, 1, 0, 1]) (.nd 22352148 (.points [0, 4]) (.nd 22349136 (.cycle [1, 1, 1, 1, 0, 0]) .nl .nl) (.nd 22353221 (.cycle [1, 1, 1, 1, 0]) .nl .nl))
  (.nd 22368593 (.order [1, 0]) (.nd 22365521 (.cycle [1, 1, 1, 1, 1, 0]) .nl .nl) .nl))))))
def row31 : List (List Nat) := [[0, 1, 2], [0, 1, 2], [0, 1, 2], [0, 1, 2], [0, 2], [0, 1], [0, 1], [0, 1, 2], [0, 1], [1, 2], [1, 2], [0, 1, 2], [0, 1, 2], [0, 1, 2], [0, 1, 2], [0, 2], [1, 2], [0, 2]]
def ts31_0 : Ts :=
 (.nd 69407510569 (.cycle [0, 0, 0, 2, 2, 1]) (.nd 69122425988 (.points [2, 0, 0]) (.nd 68858036356 (.points [4, 0, 1]) (.nd 68795072584 (.points [4, 1, 0]) (.nd 68719640584 (.order
  [0, 2, 1]) (.nd 68719558660 (.order [0, 1, 2]) .nl .nl) (.nd 68744740882 (.points [4, 0, 0]) .nl .nl)) (.nd 68820238408 (.points [3, 0, 0]) (.nd 68820238360 (.cycle [0, 0, 0, 0,
  1, 2]) .nl .nl) .nl)) (.nd 69021747272 (.points [4, 2, 0]) (.nd 69021565000 (.cycle [0, 0, 0, 1, 0, 2]) (.nd 68870619172 (.cycle [0, 0, 0, 0, 2, 1]) .nl .nl) .nl) (.nd 69122228248
  (.cycle [0, 0, 0, 1, 2, 0]) (.nd 69021762593 (.points [3, 1, 0]) .nl .nl) .nl))) (.nd 69275320416 (.points [3, 0, 1]) (.nd 69122556008 (.cycle [0, 0, 0, 1, 2, 2]) (.nd 69122523526
  (.cycle [0, 0, 0, 1, 2]) (.nd 69122490464 (.cycle [0, 0, 0, 1, 1, 2]) .nl .nl) .nl) (.nd 69273272452 (.cycle [0, 0, 0, 2, 0, 1]) (.nd 69139009561 (.cycle [0, 0, 0, 1, 2, 1]) .nl
  .nl) .nl)) (.nd 69324046921 (.cycle [0, 0, 0, 2, 1]) (.nd 69323604004 (.cycle [0, 0, 0, 2, 1, 0]) (.nd 69275320452 (.points [4, 0, 2]) .nl .nl) .nl) (.nd 69357166630 (.cycle [0,
  0, 0, 2, 1, 2]) (.nd 69340385316 (.cycle [0, 0, 0, 2, 1, 1]) .nl .nl) .nl)))) (.nd 70197314950 (.cycle [0, 0, 1, 1, 2]) (.nd 69931729944 (.points [3, 2, 0]) (.nd 69927731272
  (.cycle [0, 0, 1, 0, 2, 0]) (.nd 69827068168 (.cycle [0, 0, 1, 0, 0, 2]) (.nd 69818665028 (.points [4, 3, 0]) .nl .nl) (.nd 69894168646 (.cycle [0, 0, 1, 0, 1, 2]) .nl .nl)) (.nd
  69928649000 (.cycle [0, 0, 1, 0, 2, 2]) (.nd 69928634386 (.cycle [0, 0, 1, 0, 2]) .nl .nl) .nl)) (.nd 70095544392 (.cycle [0, 0, 1, 1, 0, 2]) (.nd 69944512585 (.cycle [0, 0, 1, 0,
  2, 1]) (.nd 69931730052 (.points [2, 1, 0]) .nl .nl) .nl) (.nd 70197281120 (.cycle [0, 0, 1, 1, 1, 2]) (.nd 70196232288 (.cycle [0, 0, 1, 1, 2, 0]) .nl .nl) .nl))) (.nd
  70347264097 (.cycle [0, 0, 1, 2, 0, 1]) (.nd 70330482784 (.cycle [0, 0, 1, 2, 0, 0]) (.nd 70213013604 (.cycle [0, 0, 1, 1, 2, 1]) (.nd 70197346664 (.cycle [0, 0, 1, 1, 2, 2]) .nl
  .nl) .nl) (.nd 70336479622 (.cycle [0, 0, 1, 2]) (.nd 70331686936 (.cycle [0, 0, 1, 2, 0]) .nl .nl) .nl)) (.nd 70397608036 (.cycle [0, 0, 1, 2, 1, 0]) (.nd 70364045410 (.cycle [0,
  0, 1, 2, 0, 2]) (.nd 70349063302 (.points [1, 0, 0]) .nl .nl) .nl) (.nd 70414389348 (.cycle [0, 0, 1, 2, 1, 1]) (.nd 70398838342 (.cycle [0, 0, 1, 2, 1]) .nl .nl) .nl)))))
def ts31_1 : Ts :=
 (.nd 71272137320 (.cycle [0, 0, 2, 1, 2, 2]) (.nd 70968172678 (.cycle [0, 0, 2, 0, 1, 2]) (.nd 70892275745 (.points [4, 0, 3]) (.nd 70466044328 (.cycle [0, 0, 1, 2, 2, 2]) (.nd
  70464733288 (.cycle [0, 0, 1, 2, 2, 0]) (.nd 70431170662 (.cycle [0, 0, 1, 2, 1, 2]) .nl .nl) (.nd 70466012806 (.cycle [0, 0, 1, 2, 2]) .nl .nl)) (.nd 70884278788 (.cycle [0, 0,
  2, 0, 0, 1]) (.nd 70481514601 (.cycle [0, 0, 1, 2, 2, 1]) .nl .nl) .nl)) (.nd 70942556690 (.points [3, 0, 2]) (.nd 70936265761 (.cycle [0, 0, 2, 0, 1]) (.nd 70934610052 (.cycle
  [0, 0, 2, 0, 1, 0]) .nl .nl) .nl) (.nd 70951391364 (.cycle [0, 0, 2, 0, 1, 1]) (.nd 70942753926 (.points [2, 0, 1]) .nl .nl) .nl))) (.nd 71145163081 (.cycle [0, 0, 2, 1, 1, 1])
  (.nd 71137821257 (.cycle [0, 0, 2, 1, 1, 0]) (.nd 71135985808 (.cycle [0, 0, 2, 1, 0, 0]) (.nd 71018516617 (.cycle [0, 0, 2, 0, 2, 1]) .nl .nl) (.nd 71137792036 (.cycle [0, 0, 2,
  1, 0]) .nl .nl)) (.nd 71145133092 (.cycle [0, 0, 2, 1, 1]) (.nd 71144981065 (.cycle [0, 0, 2, 1]) .nl .nl) .nl)) (.nd 71270236312 (.cycle [0, 0, 2, 1, 2, 0]) (.nd 71169548434
  (.cycle [0, 0, 2, 1, 0, 2]) (.nd 71152767121 (.cycle [0, 0, 2, 1, 0, 1]) .nl .nl) .nl) (.nd 71272106377 (.cycle [0, 0, 2, 1, 2]) (.nd 71272071776 (.cycle [0, 0, 2, 1, 1, 2]) .nl
  .nl) .nl)))) (.nd 73166636068 (.cycle [0, 1, 0, 0, 2, 1]) (.nd 71555518633 (.cycle [0, 0, 2, 2, 2, 1]) (.nd 71473341481 (.cycle [0, 0, 2, 2, 1]) (.nd 71421268129 (.cycle [0, 0, 2,
  2, 0, 1]) (.nd 71287017625 (.cycle [0, 0, 2, 1, 2, 1]) .nl .nl) (.nd 71471612068 (.cycle [0, 0, 2, 2, 1, 0]) .nl .nl)) (.nd 71505174694 (.cycle [0, 0, 2, 2, 1, 2]) (.nd
  71488393380 (.cycle [0, 0, 2, 2, 1, 1]) .nl .nl) .nl)) (.nd 73149858308 (.cycle [0, 1, 0, 0, 2, 0]) (.nd 73116255256 (.cycle [0, 1, 0, 0, 1, 2]) (.nd 73049194628 (.cycle [0, 1, 0,
  0, 0, 2]) .nl .nl) .nl) (.nd 73153020968 (.cycle [0, 1, 0, 0, 2, 2]) (.nd 73153004048 (.cycle [0, 1, 0, 0, 2]) .nl .nl) .nl))) (.nd 73421653089 (.cycle [0, 1, 0, 1, 1, 2]) (.nd
  73317581896 (.cycle [0, 1, 0, 1, 0, 2]) (.nd 73317572882 (.points [3, 3, 0]) (.nd 73317565969 (.points [4, 4, 0]) .nl .nl) .nl) (.nd 73421578520 (.points [2, 2, 0]) (.nd
  73418244376 (.cycle [0, 1, 0, 1, 2, 0]) .nl .nl) .nl)) (.nd 73435025689 (.cycle [0, 1, 0, 1, 2, 1]) (.nd 73421718632 (.cycle [0, 1, 0, 1, 2, 2]) (.nd 73421689220 (.cycle [0, 1, 0,
  1, 2]) .nl .nl) .nl) (.nd 73556051986 (.cycle [0, 1, 0, 2, 0]) (.nd 73552513028 (.cycle [0, 1, 0, 2, 0, 0]) .nl .nl) .nl)))))
def ts31_2 : Ts :=
 (.nd 74626498912 (.cycle [0, 1, 1, 2, 0, 0]) (.nd 74123085064 (.cycle [0, 1, 1, 0, 0, 2]) (.nd 73636401444 (.cycle [0, 1, 0, 2, 1, 1]) (.nd 73619620132 (.cycle [0, 1, 0, 2, 1, 0])
  (.nd 73570288772 (.cycle [0, 1, 0, 2]) (.nd 73569289348 (.cycle [0, 1, 0, 2, 0, 1]) .nl .nl) (.nd 73586082952 (.cycle [0, 1, 0, 2, 0, 2]) .nl .nl)) (.nd 73624805668 (.points [1,
  1, 0]) (.nd 73623212612 (.cycle [0, 1, 0, 2, 1]) .nl .nl) .nl)) (.nd 73690387076 (.cycle [0, 1, 0, 2, 2]) (.nd 73686745384 (.cycle [0, 1, 0, 2, 2, 0]) (.nd 73653182758 (.cycle [0,
  1, 0, 2, 1, 2]) .nl .nl) .nl) (.nd 73703526697 (.cycle [0, 1, 0, 2, 2, 1]) (.nd 73690416296 (.cycle [0, 1, 0, 2, 2, 2]) .nl .nl) .nl))) (.nd 74391560520 (.cycle [0, 1, 1, 1, 0,
  2]) (.nd 74227798548 (.cycle [0, 1, 1, 0, 2]) (.nd 74223747400 (.cycle [0, 1, 1, 0, 2, 0]) (.nd 74190184774 (.cycle [0, 1, 1, 0, 1, 2]) .nl .nl) .nl) (.nd 74240528713 (.cycle [0,
  1, 1, 0, 2, 1]) (.nd 74227811624 (.cycle [0, 1, 1, 0, 2, 2]) .nl .nl) .nl)) (.nd 74496480646 (.cycle [0, 1, 1, 1, 2]) (.nd 74496443745 (.cycle [0, 1, 1, 1, 1, 2]) (.nd 74492248416
  (.cycle [0, 1, 1, 1, 2, 0]) .nl .nl) .nl) (.nd 74509029732 (.cycle [0, 1, 1, 1, 2, 1]) (.nd 74496509288 (.cycle [0, 1, 1, 1, 2, 2]) .nl .nl) .nl)))) (.nd 75163525126 (.cycle [0,
  1, 2, 0, 0, 0]) (.nd 74710405476 (.cycle [0, 1, 1, 2, 1, 1]) (.nd 74660061538 (.cycle [0, 1, 1, 2, 0, 2]) (.nd 74643280225 (.cycle [0, 1, 1, 2, 0, 1]) (.nd 74630846486 (.cycle [0,
  1, 1, 2, 0]) .nl .nl) (.nd 74648215905 (.cycle [0, 1, 1, 2]) .nl .nl)) (.nd 74698004038 (.cycle [0, 1, 1, 2, 1]) (.nd 74693624164 (.cycle [0, 1, 1, 2, 1, 0]) .nl .nl) .nl)) (.nd
  74765178502 (.cycle [0, 1, 1, 2, 2]) (.nd 74760749416 (.cycle [0, 1, 1, 2, 2, 0]) (.nd 74727186790 (.cycle [0, 1, 1, 2, 1, 2]) .nl .nl) .nl) (.nd 74777530729 (.cycle [0, 1, 1, 2,
  2, 1]) (.nd 74765206952 (.cycle [0, 1, 1, 2, 2, 2]) .nl .nl) .nl))) (.nd 75235418392 (.cycle [0, 1, 2, 0, 1]) (.nd 75187192198 (.cycle [0, 1, 2, 0]) (.nd 75180295684 (.cycle [0,
  1, 2, 0, 0, 1]) (.nd 75168317536 (.cycle [0, 1, 2, 0, 0]) .nl .nl) .nl) (.nd 75230626180 (.cycle [0, 1, 2, 0, 1, 0]) (.nd 75197089288 (.cycle [0, 1, 2, 0, 0, 2]) .nl .nl) .nl))
  (.nd 75264188806 (.cycle [0, 1, 2]) (.nd 75263795590 (.points [0, 0, 0]) (.nd 75247407492 (.cycle [0, 1, 2, 0, 1, 1]) .nl .nl) .nl) (.nd 75302593048 (.cycle [0, 1, 2, 0, 2]) (.nd
  75297751432 (.cycle [0, 1, 2, 0, 2, 0]) .nl .nl) .nl)))))
def ts31_3 : Ts :=
 (.nd 75839416426 (.cycle [0, 1, 2, 2, 2]) (.nd 75571272070 (.cycle [0, 1, 2, 1, 2]) (.nd 75456680337 (.cycle [0, 1, 2, 1]) (.nd 75436942361 (.cycle [0, 1, 2, 1, 0]) (.nd
  75314532745 (.cycle [0, 1, 2, 0, 2, 1]) (.nd 75302602280 (.cycle [0, 1, 2, 0, 2, 2]) .nl .nl) (.nd 75432001936 (.cycle [0, 1, 2, 1, 0, 0]) .nl .nl)) (.nd 75448783249 (.cycle [0,
  1, 2, 1, 0, 1]) (.nd 75436983878 (.cycle [0, 1, 2, 1, 1, 0]) .nl .nl) .nl)) (.nd 75465564562 (.cycle [0, 1, 2, 1, 0, 2]) (.nd 75456911686 (.cycle [0, 1, 2, 1, 1, 1]) (.nd
  75456865561 (.cycle [0, 1, 2, 1, 1]) .nl .nl) .nl) (.nd 75571234401 (.cycle [0, 1, 2, 1, 1, 2]) (.nd 75566252440 (.cycle [0, 1, 2, 1, 2, 0]) .nl .nl) .nl))) (.nd 75734065570
  (.cycle [0, 1, 2, 2, 0, 2]) (.nd 75705196648 (.cycle [0, 1, 2, 2, 0]) (.nd 75583033753 (.cycle [0, 1, 2, 1, 2, 1]) (.nd 75571299944 (.cycle [0, 1, 2, 1, 2, 2]) .nl .nl) (.nd
  75700502944 (.cycle [0, 1, 2, 2, 0, 0]) .nl .nl)) (.nd 75726168481 (.cycle [0, 1, 2, 2]) (.nd 75717284257 (.cycle [0, 1, 2, 2, 0, 1]) .nl .nl) .nl)) (.nd 75784409508 (.cycle [0,
  1, 2, 2, 1, 1]) (.nd 75772487962 (.cycle [0, 1, 2, 2, 1]) (.nd 75767628196 (.cycle [0, 1, 2, 2, 1, 0]) .nl .nl) .nl) (.nd 75834753448 (.cycle [0, 1, 2, 2, 2, 0]) (.nd 75801190822
  (.cycle [0, 1, 2, 2, 1, 2]) .nl .nl) .nl)))) (.nd 77612599368 (.cycle [0, 2, 0, 1]) (.nd 77412272152 (.cycle [0, 2, 0, 0, 1, 2]) (.nd 77378715912 (.cycle [0, 2, 0, 0, 1, 0]) (.nd
  75851534761 (.cycle [0, 1, 2, 2, 2, 1]) (.nd 75839416858 (.cycle [0, 1, 2, 2, 2, 2]) .nl .nl) (.nd 77328384072 (.cycle [0, 2, 0, 0, 0, 1]) .nl .nl)) (.nd 77395478548 (.cycle [0,
  2, 0, 0, 1, 1]) (.nd 77385007392 (.cycle [0, 2, 0, 0, 1]) .nl .nl) .nl)) (.nd 77586531361 (.cycle [0, 2, 0, 1, 0]) (.nd 77580043272 (.cycle [0, 2, 0, 1, 0, 0]) (.nd 77462652964
  (.cycle [0, 2, 0, 0, 2, 1]) .nl .nl) .nl) (.nd 77596805188 (.cycle [0, 2, 0, 1, 0, 1]) (.nd 77586565192 (.cycle [0, 2, 0, 1, 1, 0]) .nl .nl) .nl))) (.nd 77713514850 (.cycle [0, 2,
  0, 1, 1, 2]) (.nd 77613598792 (.cycle [0, 2, 0, 1, 0, 2]) (.nd 77612785992 (.cycle [0, 2, 0, 1, 1, 1]) (.nd 77612746017 (.cycle [0, 2, 0, 1, 1]) .nl .nl) .nl) (.nd 77713269126
  (.points [1, 0, 1]) (.nd 77712466313 (.points [2, 0, 2]) .nl .nl) .nl)) (.nd 77714260504 (.cycle [0, 2, 0, 1, 2, 0]) (.nd 77713777058 (.cycle [0, 2, 0, 1, 2, 2]) (.nd 77713671713
  (.cycle [0, 2, 0, 1, 2]) .nl .nl) .nl) (.nd 77865306244 (.cycle [0, 2, 0, 2, 0, 1]) (.nd 77731041817 (.cycle [0, 2, 0, 1, 2, 1]) .nl .nl) .nl)))))
def ts31_4 : Ts :=
 (.nd 78687576648 (.cycle [0, 2, 1, 1, 0, 2]) (.nd 78452638276 (.cycle [0, 2, 1, 0, 1, 0]) (.nd 77999542825 (.cycle [0, 2, 0, 2, 2, 1]) (.nd 77922378312 (.cycle [0, 2, 0, 2, 1])
  (.nd 77872009761 (.points [4, 0, 4]) (.nd 77871997464 (.points [3, 0, 3]) .nl .nl) (.nd 77915636260 (.cycle [0, 2, 0, 2, 1, 0]) .nl .nl)) (.nd 77949198886 (.cycle [0, 2, 0, 2, 1,
  2]) (.nd 77932417572 (.cycle [0, 2, 0, 2, 1, 1]) .nl .nl) .nl)) (.nd 78402308356 (.cycle [0, 2, 1, 0, 0, 1]) (.nd 78392737936 (.cycle [0, 2, 1, 0, 0]) (.nd 78385549321 (.cycle [0,
  2, 1, 0, 0, 0]) .nl .nl) .nl) (.nd 78421049929 (.cycle [0, 2, 1, 0]) (.nd 78419101960 (.cycle [0, 2, 1, 0, 0, 2]) .nl .nl) .nl))) (.nd 78522229922 (.cycle [0, 2, 1, 0, 2, 2]) (.nd
  78486200902 (.cycle [0, 2, 1, 0, 1, 2]) (.nd 78469419588 (.cycle [0, 2, 1, 0, 1, 1]) (.nd 78459801892 (.cycle [0, 2, 1, 0, 1]) .nl .nl) .nl) (.nd 78522126884 (.cycle [0, 2, 1, 0,
  2]) (.nd 78519763528 (.cycle [0, 2, 1, 0, 2, 0]) .nl .nl) .nl)) (.nd 78661325860 (.cycle [0, 2, 1, 1, 0]) (.nd 78654014025 (.cycle [0, 2, 1, 1, 0, 0]) (.nd 78536544841 (.cycle [0,
  2, 1]) .nl .nl) .nl) (.nd 78670795332 (.cycle [0, 2, 1, 1, 0, 1]) (.nd 78661355849 (.cycle [0, 2, 1, 1, 1, 0]) .nl .nl) .nl)))) (.nd 78960026210 (.cycle [0, 2, 1, 2]) (.nd
  78791714210 (.cycle [0, 2, 1, 1, 2, 2]) (.nd 78788264544 (.cycle [0, 2, 1, 1, 2, 0]) (.nd 78690686244 (.cycle [0, 2, 1, 1, 1]) (.nd 78690538057 (.cycle [0, 2, 1, 1]) .nl .nl) (.nd
  78690723145 (.cycle [0, 2, 1, 1, 1, 1]) .nl .nl)) (.nd 78791611942 (.cycle [0, 2, 1, 1, 2]) (.nd 78791452002 (.cycle [0, 2, 1, 1, 1, 2]) .nl .nl) .nl)) (.nd 78930024486 (.cycle
  [0, 2, 1, 2, 0]) (.nd 78922515040 (.cycle [0, 2, 1, 2, 0, 0]) (.nd 78805045860 (.cycle [0, 2, 1, 1, 2, 1]) .nl .nl) .nl) (.nd 78956077666 (.cycle [0, 2, 1, 2, 0, 2]) (.nd
  78939296353 (.cycle [0, 2, 1, 2, 0, 1]) .nl .nl) .nl))) (.nd 79060691098 (.cycle [0, 2, 1, 2, 2]) (.nd 79006421604 (.cycle [0, 2, 1, 2, 1, 1]) (.nd 78997169737 (.cycle [0, 2, 1,
  2, 1]) (.nd 78989640292 (.cycle [0, 2, 1, 2, 1, 0]) .nl .nl) .nl) (.nd 79056765544 (.cycle [0, 2, 1, 2, 2, 0]) (.nd 79023202918 (.cycle [0, 2, 1, 2, 1, 2]) .nl .nl) .nl)) (.nd
  79475875914 (.cycle [0, 2, 2, 0, 0, 1]) (.nd 79073546857 (.cycle [0, 2, 1, 2, 2, 1]) (.nd 79060691494 (.cycle [0, 2, 1, 2, 2, 2]) .nl .nl) .nl) (.nd 79534596392 (.cycle [0, 2, 2,
  0, 1]) (.nd 79526207754 (.cycle [0, 2, 2, 0, 1, 0]) .nl .nl) .nl)))))
def ts31_5 : Ts :=
 (.nd 86050488464 (.cycle [1, 0, 0, 0, 2]) (.nd 79865357706 (.cycle [0, 2, 2, 1, 1, 2]) (.nd 79744485956 (.cycle [0, 2, 2, 1, 0, 1]) (.nd 79727731722 (.cycle [0, 2, 2, 1, 0, 0])
  (.nd 79559756312 (.cycle [0, 2, 2, 0, 1, 2]) (.nd 79542962708 (.cycle [0, 2, 2, 0, 1, 1]) .nl .nl) (.nd 79610137124 (.cycle [0, 2, 2, 0, 2, 1]) .nl .nl)) (.nd 79736146506 (.cycle
  [0, 2, 2, 1, 1, 0]) (.nd 79736120361 (.cycle [0, 2, 2, 1, 0]) .nl .nl) .nl)) (.nd 79764296868 (.cycle [0, 2, 2, 1, 1]) (.nd 79763753546 (.cycle [0, 2, 2, 1]) (.nd 79761279560
  (.cycle [0, 2, 2, 1, 0, 2]) .nl .nl) .nl) (.nd 79862041184 (.cycle [0, 2, 2, 1, 2, 0]) (.nd 79764432202 (.cycle [0, 2, 2, 1, 1, 1]) .nl .nl) .nl))) (.nd 80080087626 (.cycle [0, 2,
  2, 2, 1, 1]) (.nd 80012748874 (.cycle [0, 2, 2, 2, 0, 1]) (.nd 79866010153 (.cycle [0, 2, 2, 1, 2, 2]) (.nd 79866009766 (.cycle [0, 2, 2, 1, 2]) .nl .nl) (.nd 79878834788 (.cycle
  [0, 2, 2, 1, 2, 1]) .nl .nl)) (.nd 80071665962 (.cycle [0, 2, 2, 2, 1]) (.nd 80063277322 (.cycle [0, 2, 2, 2, 1, 0]) .nl .nl) .nl)) (.nd 85937242148 (.cycle [1, 0, 0, 0, 0, 2])
  (.nd 80147163722 (.cycle [0, 2, 2, 2, 2, 1]) (.nd 80096930402 (.cycle [0, 2, 2, 2, 1, 2]) .nl .nl) .nl) (.nd 86037905540 (.cycle [1, 0, 0, 0, 2, 0]) (.nd 86004305945 (.cycle [1,
  0, 0, 0, 1, 2]) .nl .nl) .nl)))) (.nd 86505722000 (.cycle [1, 0, 0, 2]) (.nd 86319206505 (.cycle [1, 0, 0, 1, 2, 2]) (.nd 86306292760 (.cycle [1, 0, 0, 1, 2, 0]) (.nd 86054686756
  (.cycle [1, 0, 0, 0, 2, 1]) (.nd 86050508841 (.cycle [1, 0, 0, 0, 2, 2]) .nl .nl) (.nd 86205632585 (.cycle [1, 0, 0, 1, 0, 2]) .nl .nl)) (.nd 86319186320 (.cycle [1, 0, 0, 1, 2])
  (.nd 86319140964 (.cycle [1, 0, 0, 1, 1, 2]) .nl .nl) .nl)) (.nd 86453535248 (.cycle [1, 0, 0, 2, 0]) (.nd 86440559108 (.cycle [1, 0, 0, 2, 0, 0]) (.nd 86323074073 (.cycle [1, 0,
  0, 1, 2, 1]) .nl .nl) .nl) (.nd 86474133641 (.cycle [1, 0, 0, 2, 0, 2]) (.nd 86457340036 (.cycle [1, 0, 0, 2, 0, 1]) .nl .nl) .nl))) (.nd 86587884176 (.cycle [1, 0, 0, 2, 2]) (.nd
  86524449828 (.cycle [1, 0, 0, 2, 1, 1]) (.nd 86520709705 (.cycle [1, 0, 0, 2, 1]) (.nd 86507668516 (.cycle [1, 0, 0, 2, 1, 0]) .nl .nl) .nl) (.nd 86574793768 (.cycle [1, 0, 0, 2,
  2, 0]) (.nd 86541231142 (.cycle [1, 0, 0, 2, 1, 2]) .nl .nl) .nl)) (.nd 87011135753 (.cycle [1, 0, 1, 0, 0, 2]) (.nd 86591575081 (.cycle [1, 0, 0, 2, 2, 1]) (.nd 86587904169
  (.cycle [1, 0, 0, 2, 2, 2]) .nl .nl) .nl) (.nd 87074890825 (.points [2, 3, 0]) (.nd 87074887750 (.points [3, 4, 0]) .nl .nl) .nl)))))
def ts31_6 : Ts :=
 (.nd 87662694825 (.cycle [1, 0, 1, 2, 2, 2]) (.nd 87528326673 (.cycle [1, 0, 1, 2, 0]) (.nd 87380296801 (.cycle [1, 0, 1, 1, 2, 0]) (.nd 87125299497 (.cycle [1, 0, 1, 0, 2, 2])
  (.nd 87111795784 (.cycle [1, 0, 1, 0, 2, 0]) (.nd 87078233158 (.cycle [1, 0, 1, 0, 1, 2]) .nl .nl) (.nd 87125279889 (.cycle [1, 0, 1, 0, 2]) .nl .nl)) (.nd 87279608905 (.cycle [1,
  0, 1, 1, 0, 2]) (.nd 87128577097 (.cycle [1, 0, 1, 0, 2, 1]) .nl .nl) .nl)) (.nd 87393997161 (.cycle [1, 0, 1, 1, 2, 2]) (.nd 87393977745 (.cycle [1, 0, 1, 1, 2]) (.nd 87393931620
  (.cycle [1, 0, 1, 1, 1, 2]) .nl .nl) .nl) (.nd 87514547296 (.cycle [1, 0, 1, 2, 0, 0]) (.nd 87397078116 (.cycle [1, 0, 1, 1, 2, 1]) .nl .nl) .nl))) (.nd 87583646820 (.cycle [1, 0,
  1, 2]) (.nd 87535523937 (.points [0, 1, 0]) (.nd 87531328609 (.cycle [1, 0, 1, 2, 0, 1]) (.nd 87528331337 (.points [1, 2, 0]) .nl .nl) .nl) (.nd 87581672548 (.cycle [1, 0, 1, 2,
  1, 0]) (.nd 87548109922 (.cycle [1, 0, 1, 2, 0, 2]) .nl .nl) .nl)) (.nd 87615235174 (.cycle [1, 0, 1, 2, 1, 2]) (.nd 87598453860 (.cycle [1, 0, 1, 2, 1, 1]) (.nd 87595501126
  (.cycle [1, 0, 1, 2, 1]) .nl .nl) .nl) (.nd 87662675601 (.cycle [1, 0, 1, 2, 2]) (.nd 87648797800 (.cycle [1, 0, 1, 2, 2, 0]) .nl .nl) .nl)))) (.nd 88200090153 (.cycle [1, 0, 2,
  0, 2, 2]) (.nd 88122623108 (.cycle [1, 0, 2, 0]) (.nd 88068346372 (.cycle [1, 0, 2, 0, 0, 1]) (.nd 88051566596 (.cycle [1, 0, 2, 0, 0, 0]) (.nd 87665579113 (.cycle [1, 0, 1, 2, 2,
  1]) .nl .nl) (.nd 88065802528 (.cycle [1, 0, 2, 0, 0]) .nl .nl)) (.nd 88118674564 (.cycle [1, 0, 2, 0, 1, 0]) (.nd 88085139977 (.cycle [1, 0, 2, 0, 0, 2]) .nl .nl) .nl)) (.nd
  88152237190 (.cycle [1, 0, 2, 0, 1, 2]) (.nd 88135455876 (.cycle [1, 0, 2, 0, 1, 1]) (.nd 88132896840 (.cycle [1, 0, 2, 0, 1]) .nl .nl) .nl) (.nd 88200071314 (.cycle [1, 0, 2, 0,
  2]) (.nd 88185799816 (.cycle [1, 0, 2, 0, 2, 0]) .nl .nl) .nl))) (.nd 88353612946 (.cycle [1, 0, 2]) (.nd 88334420242 (.cycle [1, 0, 2, 1, 0]) (.nd 88320050320 (.cycle [1, 0, 2,
  1, 0, 0]) (.nd 88202581129 (.cycle [1, 0, 2, 0, 2, 1]) .nl .nl) .nl) (.nd 88336831633 (.cycle [1, 0, 2, 1, 0, 1]) (.nd 88334471748 (.cycle [1, 0, 2, 1, 1, 0]) .nl .nl) .nl)) (.nd
  88354399561 (.cycle [1, 0, 2, 1, 1, 1]) (.nd 88354362660 (.cycle [1, 0, 2, 1, 1]) (.nd 88354214473 (.cycle [1, 0, 2, 1]) .nl .nl) .nl) (.nd 88468722276 (.cycle [1, 0, 2, 1, 1, 2])
  (.nd 88454300824 (.cycle [1, 0, 2, 1, 2, 0]) .nl .nl) .nl)))))
def ts31_7 : Ts :=
 (.nd 90602308888 (.cycle [1, 1, 0, 1, 2, 0]) (.nd 88722801832 (.cycle [1, 0, 2, 2, 2, 0]) (.nd 88622113954 (.cycle [1, 0, 2, 2, 0, 2]) (.nd 88588551328 (.cycle [1, 0, 2, 2, 0, 0])
  (.nd 88468787817 (.cycle [1, 0, 2, 1, 2, 2]) (.nd 88468769170 (.cycle [1, 0, 2, 1, 2]) .nl .nl) (.nd 88471082137 (.cycle [1, 0, 2, 1, 2, 1]) .nl .nl)) (.nd 88605332641 (.cycle [1,
  0, 2, 2, 0, 1]) (.nd 88602681640 (.cycle [1, 0, 2, 2, 0]) .nl .nl) .nl)) (.nd 88670021962 (.cycle [1, 0, 2, 2, 1]) (.nd 88661599396 (.cycle [1, 0, 2, 2]) (.nd 88655676580 (.cycle
  [1, 0, 2, 2, 1, 0]) .nl .nl) .nl) (.nd 88689239206 (.cycle [1, 0, 2, 2, 1, 2]) (.nd 88672457892 (.cycle [1, 0, 2, 2, 1, 1]) .nl .nl) .nl))) (.nd 90349654164 (.cycle [1, 1, 0, 0,
  2]) (.nd 90233262116 (.cycle [1, 1, 0, 0, 0, 2]) (.nd 88737098314 (.cycle [1, 0, 2, 2, 2, 2]) (.nd 88737098026 (.cycle [1, 0, 2, 2, 2]) .nl .nl) (.nd 88739583145 (.cycle [1, 0, 2,
  2, 2, 1]) .nl .nl)) (.nd 90333925508 (.cycle [1, 1, 0, 0, 2, 0]) (.nd 90300322841 (.cycle [1, 1, 0, 0, 1, 2]) .nl .nl) .nl)) (.nd 90501649481 (.cycle [1, 1, 0, 1, 0, 2]) (.nd
  90350703652 (.cycle [1, 1, 0, 0, 2, 1]) (.nd 90349671465 (.cycle [1, 1, 0, 0, 2, 2]) .nl .nl) .nl) (.nd 90602300513 (.points [1, 3, 0]) (.nd 90602297620 (.points [2, 4, 0]) .nl
  .nl) .nl)))) (.nd 90820465956 (.cycle [1, 1, 0, 2, 1, 1]) (.nd 90752700948 (.cycle [1, 1, 0, 2, 0]) (.nd 90618369129 (.cycle [1, 1, 0, 1, 2, 2]) (.nd 90618303588 (.cycle [1, 1, 0,
  1, 1, 2]) (.nd 90602312801 (.points [0, 2, 0]) .nl .nl) (.nd 90618352020 (.cycle [1, 1, 0, 1, 2]) .nl .nl)) (.nd 90736579076 (.cycle [1, 1, 0, 2, 0, 0]) (.nd 90619090201 (.cycle
  [1, 1, 0, 1, 2, 1]) .nl .nl) .nl)) (.nd 90803684644 (.cycle [1, 1, 0, 2, 1, 0]) (.nd 90770150537 (.cycle [1, 1, 0, 2, 0, 2]) (.nd 90753356932 (.cycle [1, 1, 0, 2, 0, 1]) .nl .nl)
  .nl) (.nd 90819875401 (.cycle [1, 1, 0, 2, 1]) (.nd 90817504548 (.cycle [1, 1, 0, 2]) .nl .nl) .nl))) (.nd 91307152649 (.cycle [1, 1, 1, 0, 0, 2]) (.nd 90887049876 (.cycle [1, 1,
  0, 2, 2]) (.nd 90870809896 (.cycle [1, 1, 0, 2, 2, 0]) (.nd 90837247270 (.cycle [1, 1, 0, 2, 1, 2]) .nl .nl) .nl) (.nd 90887591209 (.cycle [1, 1, 0, 2, 2, 1]) (.nd 90887066793
  (.cycle [1, 1, 0, 2, 2, 2]) .nl .nl) .nl)) (.nd 91374249286 (.cycle [1, 1, 1, 0, 1, 2]) (.nd 91373265249 (.points [0, 3, 0]) (.nd 91373258310 (.points [1, 4, 0]) .nl .nl) .nl)
  (.nd 91424445588 (.cycle [1, 1, 1, 0, 2]) (.nd 91407811912 (.cycle [1, 1, 1, 0, 2, 0]) .nl .nl) .nl)))))
def ts31_8 : Ts :=
 (.nd 92448253318 (.cycle [1, 1, 2, 0, 1, 2]) (.nd 91844126050 (.cycle [1, 1, 1, 2, 0, 2]) (.nd 91676312929 (.cycle [1, 1, 1, 1, 2, 0]) (.nd 91575572806 (.points [0, 4, 0]) (.nd
  91424593225 (.cycle [1, 1, 1, 0, 2, 1]) (.nd 91424462121 (.cycle [1, 1, 1, 0, 2, 2]) .nl .nl) (.nd 91558860100 (.order [1, 0, 2]) .nl .nl)) (.nd 91676285254 (.points [0, 4, 1])
  (.nd 91575625033 (.cycle [1, 1, 1, 1, 0, 2]) .nl .nl) .nl)) (.nd 91827344737 (.cycle [1, 1, 1, 2, 0, 1]) (.nd 91810563424 (.cycle [1, 1, 1, 2, 0, 0]) (.nd 91693077862 (.order [1,
  2, 0]) .nl .nl) .nl) (.nd 91828279577 (.points [0, 3, 1]) (.nd 91827492374 (.cycle [1, 1, 1, 2, 0]) .nl .nl) .nl))) (.nd 92381156873 (.cycle [1, 1, 2, 0, 0, 2]) (.nd 92347586566
  (.cycle [1, 1, 2, 0, 0, 0]) (.nd 91878660425 (.points [0, 4, 2]) (.nd 91877688676 (.cycle [1, 1, 1, 2, 1, 0]) .nl .nl) (.nd 91944813928 (.cycle [1, 1, 1, 2, 2, 0]) .nl .nl)) (.nd
  92364955744 (.cycle [1, 1, 2, 0, 0]) (.nd 92364363270 (.cycle [1, 1, 2, 0, 0, 1]) .nl .nl) .nl)) (.nd 92432062561 (.cycle [1, 1, 2, 0, 1]) (.nd 92431472006 (.cycle [1, 1, 2, 0, 1,
  1]) (.nd 92414690692 (.cycle [1, 1, 2, 0, 1, 0]) .nl .nl) .nl) (.nd 92447065673 (.points [0, 2, 1]) (.nd 92434433414 (.cycle [1, 1, 2, 0]) .nl .nl) .nl)))) (.nd 92884567456
  (.cycle [1, 1, 2, 2, 0, 0]) (.nd 92633585942 (.cycle [1, 1, 2, 1, 0]) (.nd 92499252777 (.cycle [1, 1, 2, 0, 2, 2]) (.nd 92498597257 (.cycle [1, 1, 2, 0, 2, 1]) (.nd 92481815944
  (.cycle [1, 1, 2, 0, 2, 0]) .nl .nl) (.nd 92499237014 (.cycle [1, 1, 2, 0, 2]) .nl .nl)) (.nd 92632847761 (.cycle [1, 1, 2, 1, 0, 1]) (.nd 92616066448 (.cycle [1, 1, 2, 1, 0, 0])
  .nl .nl) .nl)) (.nd 92649429345 (.points [0, 4, 3]) (.nd 92649133641 (.points [0, 3, 2]) (.nd 92633634374 (.cycle [1, 1, 2, 1, 1, 0]) .nl .nl) .nl) (.nd 92750316952 (.cycle [1, 1,
  2, 1, 2, 0]) (.nd 92649629074 (.cycle [1, 1, 2, 1, 0, 2]) .nl .nl) .nl))) (.nd 94495670296 (.cycle [1, 2, 0, 0, 0, 0]) (.nd 92918130082 (.cycle [1, 1, 2, 2, 0, 2]) (.nd
  92901828712 (.cycle [1, 1, 2, 2, 0]) (.nd 92901348769 (.cycle [1, 1, 2, 2, 0, 1]) .nl .nl) .nl) (.nd 93018817960 (.cycle [1, 1, 2, 2, 2, 0]) (.nd 92951692708 (.cycle [1, 1, 2, 2,
  1, 0]) .nl .nl) .nl)) (.nd 94529282086 (.cycle [1, 2, 0, 0, 0, 2]) (.nd 94514544736 (.cycle [1, 2, 0, 0, 0]) (.nd 94512439318 (.cycle [1, 2, 0, 0, 0, 1]) .nl .nl) .nl) (.nd
  94579546134 (.cycle [1, 2, 0, 0, 1, 1]) (.nd 94562771014 (.cycle [1, 2, 0, 0, 1, 0]) .nl .nl) .nl)))))
def ts31_9 : Ts :=
 (.nd 95066167433 (.cycle [1, 2, 0, 2, 0, 2]) (.nd 94896527457 (.points [0, 1, 1]) (.nd 94646720550 (.cycle [1, 2, 0, 0, 2, 1]) (.nd 94629945478 (.cycle [1, 2, 0, 0, 2, 0]) (.nd
  94590338566 (.cycle [1, 2, 0, 0]) (.nd 94581645408 (.cycle [1, 2, 0, 0, 1]) .nl .nl) (.nd 94596339737 (.cycle [1, 2, 0, 0, 1, 2]) .nl .nl)) (.nd 94640955558 (.cycle [1, 2, 0, 0,
  2, 2]) (.nd 94640898656 (.cycle [1, 2, 0, 0, 2]) .nl .nl) .nl)) (.nd 94783168792 (.cycle [1, 2, 0, 1, 0]) (.nd 94780872774 (.cycle [1, 2, 0, 1, 0, 1]) (.nd 94764097798 (.cycle [1,
  2, 0, 1, 0, 0]) .nl .nl) .nl) (.nd 94797666377 (.cycle [1, 2, 0, 1, 0, 2]) (.nd 94783215686 (.cycle [1, 2, 0, 1, 1, 0]) .nl .nl) .nl))) (.nd 94910383713 (.cycle [1, 2, 0, 1, 2])
  (.nd 94897723489 (.cycle [1, 2, 0, 1]) (.nd 94897575302 (.cycle [1, 2, 0, 1, 1]) (.nd 94897538401 (.cycle [1, 2, 0, 1, 1, 1]) .nl .nl) .nl) (.nd 94910177638 (.cycle [1, 2, 0, 1,
  1, 2]) (.nd 94898325016 (.cycle [1, 2, 0]) .nl .nl) .nl)) (.nd 95032599046 (.cycle [1, 2, 0, 2, 0, 0]) (.nd 94915106329 (.cycle [1, 2, 0, 1, 2, 1]) (.nd 94910439846 (.cycle [1, 2,
  0, 1, 2, 2]) .nl .nl) .nl) (.nd 95051866648 (.cycle [1, 2, 0, 2, 0]) (.nd 95049373830 (.cycle [1, 2, 0, 2, 0, 1]) .nl .nl) .nl)))) (.nd 95603169545 (.cycle [1, 2, 1, 0, 0, 2])
  (.nd 95179647370 (.cycle [1, 2, 0, 2, 2]) (.nd 95129314854 (.cycle [1, 2, 0, 2]) (.nd 95116482086 (.cycle [1, 2, 0, 2, 1, 1]) (.nd 95099700772 (.cycle [1, 2, 0, 2, 1, 0]) .nl .nl)
  (.nd 95119041122 (.cycle [1, 2, 0, 2, 1]) .nl .nl)) (.nd 95166826024 (.cycle [1, 2, 0, 2, 2, 0]) (.nd 95133263398 (.cycle [1, 2, 0, 2, 1, 2]) .nl .nl) .nl)) (.nd 95569601542
  (.cycle [1, 2, 1, 0, 0, 0]) (.nd 95183607337 (.cycle [1, 2, 0, 2, 2, 1]) (.nd 95179647586 (.cycle [1, 2, 0, 2, 2, 2]) .nl .nl) .nl) (.nd 95589339236 (.cycle [1, 2, 1, 0, 0]) (.nd
  95586375942 (.cycle [1, 2, 1, 0, 0, 1]) .nl .nl) .nl))) (.nd 95703828040 (.cycle [1, 2, 1, 0, 2, 0]) (.nd 95656436836 (.cycle [1, 2, 1, 0, 1]) (.nd 95653484102 (.cycle [1, 2, 1,
  0, 1, 1]) (.nd 95636702788 (.cycle [1, 2, 1, 0, 1, 0]) .nl .nl) .nl) (.nd 95670265414 (.cycle [1, 2, 1, 0, 1, 2]) (.nd 95668291142 (.cycle [1, 2, 1, 0]) .nl .nl) .nl)) (.nd
  95718892710 (.cycle [1, 2, 1, 0, 2, 2]) (.nd 95718838884 (.cycle [1, 2, 1, 0, 2]) (.nd 95715665433 (.points [0, 2, 2]) .nl .nl) .nl) (.nd 95838078534 (.cycle [1, 2, 1, 1, 0, 0])
  (.nd 95720609353 (.cycle [1, 2, 1, 0, 2, 1]) .nl .nl) .nl)))))
def ts31_10 : Ts :=
 (.nd 96794204710 (.cycle [1, 2, 2, 0, 2, 1]) (.nd 96240830056 (.cycle [1, 2, 1, 2, 2, 0]) (.nd 96123360865 (.cycle [1, 2, 1, 2, 0, 1]) (.nd 95871641161 (.cycle [1, 2, 1, 1, 0, 2])
  (.nd 95857960217 (.cycle [1, 2, 1, 1, 0]) (.nd 95854859846 (.cycle [1, 2, 1, 1, 0, 1]) .nl .nl) (.nd 95858006342 (.cycle [1, 2, 1, 1, 1, 0]) .nl .nl)) (.nd 96106579552 (.cycle [1,
  2, 1, 2, 0, 0]) (.nd 95972329057 (.cycle [1, 2, 1, 1, 2, 0]) .nl .nl) .nl)) (.nd 96140142178 (.cycle [1, 2, 1, 2, 0, 2]) (.nd 96126658121 (.points [0, 3, 3]) (.nd 96126658073
  (.cycle [1, 2, 1, 2, 0]) .nl .nl) .nl) (.nd 96177063521 (.points [0, 4, 4]) (.nd 96173704804 (.cycle [1, 2, 1, 2, 1, 0]) .nl .nl) .nl))) (.nd 96731228264 (.cycle [1, 2, 2, 0, 1])
  (.nd 96676767782 (.cycle [1, 2, 2, 0, 0, 2]) (.nd 96659925014 (.cycle [1, 2, 2, 0, 0, 1]) (.nd 96643162138 (.cycle [1, 2, 2, 0, 0, 0]) .nl .nl) (.nd 96664133736 (.cycle [1, 2, 2,
  0, 0]) .nl .nl)) (.nd 96727030294 (.cycle [1, 2, 2, 0, 1, 1]) (.nd 96710256710 (.cycle [1, 2, 2, 0, 1, 0]) .nl .nl) .nl)) (.nd 96777431174 (.cycle [1, 2, 2, 0, 2, 0]) (.nd
  96743823897 (.cycle [1, 2, 2, 0, 1, 2]) (.nd 96739138074 (.cycle [1, 2, 2, 0]) .nl .nl) .nl) (.nd 96790284904 (.cycle [1, 2, 2, 0, 2, 2]) (.nd 96790284706 (.cycle [1, 2, 2, 0, 2])
  .nl .nl) .nl)))) (.nd 103104479256 (.cycle [2, 0, 0, 0, 0, 1]) (.nd 97180035098 (.cycle [1, 2, 2, 2, 0, 0]) (.nd 96932796998 (.cycle [1, 2, 2, 1, 1, 0]) (.nd 96928553542 (.cycle
  [1, 2, 2, 1, 0, 1]) (.nd 96911780102 (.cycle [1, 2, 2, 1, 0, 0]) .nl .nl) (.nd 96932751642 (.cycle [1, 2, 2, 1, 0]) .nl .nl)) (.nd 97046108769 (.cycle [1, 2, 2, 1, 2, 0]) (.nd
  96945347145 (.cycle [1, 2, 2, 1, 0, 2]) .nl .nl) .nl)) (.nd 97213639206 (.cycle [1, 2, 2, 2, 0, 2]) (.nd 97201006698 (.cycle [1, 2, 2, 2, 0]) (.nd 97196796438 (.cycle [1, 2, 2, 2,
  0, 1]) .nl .nl) .nl) (.nd 97314253338 (.cycle [1, 2, 2, 2, 2, 0]) (.nd 97247324742 (.cycle [1, 2, 2, 2, 1, 0]) .nl .nl) .nl))) (.nd 103356137736 (.cycle [2, 0, 0, 1, 0, 0]) (.nd
  103179976800 (.cycle [2, 0, 0, 0, 1]) (.nd 103171579926 (.cycle [2, 0, 0, 0, 1, 1]) (.nd 103154810952 (.cycle [2, 0, 0, 0, 1, 0]) .nl .nl) .nl) (.nd 103230365734 (.cycle [2, 0, 0,
  0, 2, 1]) (.nd 103179984922 (.cycle [2, 0, 0, 0, 1, 2]) .nl .nl) .nl)) (.nd 103381508170 (.cycle [2, 0, 0, 1, 0, 2]) (.nd 103381500192 (.cycle [2, 0, 0, 1, 0]) (.nd 103372906566
  (.cycle [2, 0, 0, 1, 0, 1]) .nl .nl) .nl) (.nd 103482269794 (.cycle [2, 0, 0, 1, 2, 0]) (.nd 103381540936 (.cycle [2, 0, 0, 1, 1, 0]) .nl .nl) .nl)))))
def ts31_11 : Ts :=
 (.nd 104292058280 (.cycle [2, 0, 1, 0, 2, 2]) (.nd 103767761062 (.cycle [2, 0, 0, 2, 2, 1]) (.nd 103499063398 (.cycle [2, 0, 0, 1, 2, 1]) (.nd 103483465824 (.cycle [2, 0, 0, 1])
  (.nd 103483311494 (.cycle [2, 0, 0, 1, 1]) (.nd 103483277664 (.cycle [2, 0, 0, 1, 1, 1]) .nl .nl) (.nd 103483343208 (.cycle [2, 0, 0, 1, 1, 2]) .nl .nl)) (.nd 103483605416 (.cycle
  [2, 0, 0, 1, 2, 2]) (.nd 103483573894 (.cycle [2, 0, 0, 1, 2]) .nl .nl) .nl)) (.nd 103708514342 (.cycle [2, 0, 0, 2, 1, 1]) (.nd 103691733028 (.cycle [2, 0, 0, 2, 1, 0]) (.nd
  103641407622 (.cycle [2, 0, 0, 2, 0, 1]) .nl .nl) .nl) (.nd 103717380250 (.cycle [2, 0, 0, 2, 1, 2]) (.nd 103717372512 (.cycle [2, 0, 0, 2, 1]) .nl .nl) .nl))) (.nd 104245516358
  (.cycle [2, 0, 1, 0, 1, 1]) (.nd 104187707920 (.cycle [2, 0, 1, 0, 0]) (.nd 104178409734 (.cycle [2, 0, 1, 0, 0, 1]) (.nd 104161641480 (.cycle [2, 0, 1, 0, 0, 0]) .nl .nl) .nl)
  (.nd 104228735044 (.cycle [2, 0, 1, 0, 1, 0]) (.nd 104187724840 (.cycle [2, 0, 1, 0, 0, 2]) .nl .nl) .nl)) (.nd 104288388232 (.cycle [2, 0, 1, 0, 2, 0]) (.nd 104254775578 (.cycle
  [2, 0, 1, 0, 1, 2]) (.nd 104254768225 (.cycle [2, 0, 1, 0, 1]) .nl .nl) .nl) (.nd 104292029060 (.cycle [2, 0, 1, 0, 2]) (.nd 104291911752 (.cycle [2, 0, 1, 0]) .nl .nl) .nl))))
  (.nd 104561542568 (.cycle [2, 0, 1, 1, 2, 2]) (.nd 104557060450 (.cycle [2, 0, 1, 1, 2, 0]) (.nd 104456291617 (.cycle [2, 0, 1, 1, 0]) (.nd 104430110792 (.cycle [2, 0, 1, 1, 0,
  0]) (.nd 104305156390 (.cycle [2, 0, 1, 0, 2, 1]) .nl .nl) (.nd 104446892102 (.cycle [2, 0, 1, 1, 0, 1]) .nl .nl)) (.nd 104456331592 (.cycle [2, 0, 1, 1, 1, 0]) (.nd 104456298826
  (.cycle [2, 0, 1, 1, 0, 2]) .nl .nl) .nl)) (.nd 104561280360 (.cycle [2, 0, 1, 1, 1, 2]) (.nd 104561251718 (.cycle [2, 0, 1, 1, 1]) (.nd 104561214817 (.cycle [2, 0, 1, 1, 1, 1])
  .nl .nl) .nl) (.nd 104561514118 (.cycle [2, 0, 1, 1, 2]) (.nd 104561399905 (.cycle [2, 0, 1, 1]) .nl .nl) .nl))) (.nd 104724996490 (.cycle [2, 0, 1, 2, 0, 2]) (.nd 104715393121
  (.cycle [2, 0, 1]) (.nd 104698611808 (.cycle [2, 0, 1, 2, 0, 0]) (.nd 104573854054 (.cycle [2, 0, 1, 1, 2, 1]) .nl .nl) .nl) (.nd 104724989473 (.cycle [2, 0, 1, 2, 0]) (.nd
  104715393122 (.points [0, 0, 1]) .nl .nl) .nl)) (.nd 104792163937 (.cycle [2, 0, 1, 2, 1]) (.nd 104782518374 (.cycle [2, 0, 1, 2, 1, 1]) (.nd 104765737060 (.cycle [2, 0, 1, 2, 1,
  0]) .nl .nl) .nl) (.nd 104825758114 (.cycle [2, 0, 1, 2, 2, 0]) (.nd 104792170906 (.cycle [2, 0, 1, 2, 1, 2]) .nl .nl) .nl)))))
def ts31_12 : Ts :=
 (.nd 105648644710 (.cycle [2, 0, 2, 1, 2, 1]) (.nd 105504114832 (.cycle [2, 0, 2, 1, 0, 0]) (.nd 105319520390 (.cycle [2, 0, 2, 0, 1, 1]) (.nd 104842551718 (.cycle [2, 0, 1, 2, 2,
  1]) (.nd 104830445674 (.cycle [2, 0, 1, 2, 2]) (.nd 104830443937 (.cycle [2, 0, 1, 2]) .nl .nl) (.nd 104830446106 (.cycle [2, 0, 1, 2, 2, 2]) .nl .nl)) (.nd 105302739076 (.cycle
  [2, 0, 2, 0, 1, 0]) (.nd 105252413958 (.cycle [2, 0, 2, 0, 0, 1]) .nl .nl) .nl)) (.nd 105329566282 (.points [2, 0, 3]) (.nd 105329566234 (.cycle [2, 0, 2, 0, 1, 2]) (.nd
  105329559650 (.cycle [2, 0, 2, 0, 1]) .nl .nl) .nl) (.nd 105379947046 (.cycle [2, 0, 2, 0, 2, 1]) (.nd 105379947044 (.points [3, 0, 4]) .nl .nl) .nl))) (.nd 105634997602 (.cycle
  [2, 0, 2, 1, 1, 1]) (.nd 105531089482 (.cycle [2, 0, 2, 1, 0, 2]) (.nd 105530300562 (.points [1, 0, 2]) (.nd 105520896145 (.cycle [2, 0, 2, 1, 0, 1]) .nl .nl) (.nd 105531083042
  (.cycle [2, 0, 2, 1, 0]) .nl .nl)) (.nd 105631851106 (.cycle [2, 0, 2, 1, 2, 0]) (.nd 105531122248 (.cycle [2, 0, 2, 1, 1, 0]) .nl .nl) .nl)) (.nd 105635799650 (.cycle [2, 0, 2,
  1]) (.nd 105635259810 (.cycle [2, 0, 2, 1, 1, 2]) (.nd 105635157542 (.cycle [2, 0, 2, 1, 1]) .nl .nl) .nl) (.nd 105635801638 (.cycle [2, 0, 2, 1, 2, 2]) (.nd 105635801242 (.cycle
  [2, 0, 2, 1, 2]) .nl .nl) .nl)))) (.nd 107479142500 (.cycle [2, 1, 0, 0, 1]) (.nd 107383767076 (.cycle [2, 1, 0, 0, 0, 0]) (.nd 105866733962 (.cycle [2, 0, 2, 2, 1]) (.nd
  105839741092 (.cycle [2, 0, 2, 2, 1, 0]) (.nd 105789397153 (.cycle [2, 0, 2, 2, 0, 1]) .nl .nl) (.nd 105856522406 (.cycle [2, 0, 2, 2, 1, 1]) .nl .nl)) (.nd 105917065826 (.cycle
  [2, 0, 2, 2, 2, 1]) (.nd 105866758760 (.cycle [2, 0, 2, 2, 1, 2]) .nl .nl) .nl)) (.nd 107412099113 (.cycle [2, 1, 0, 0, 0, 2]) (.nd 107412078736 (.cycle [2, 1, 0, 0, 0]) (.nd
  107400499225 (.cycle [2, 1, 0, 0, 0, 1]) .nl .nl) .nl) (.nd 107467596822 (.cycle [2, 1, 0, 0, 1, 1]) (.nd 107450830921 (.cycle [2, 1, 0, 0, 1, 0]) .nl .nl) .nl))) (.nd
  107529528358 (.cycle [2, 1, 0, 0, 2, 1]) (.nd 107525769481 (.cycle [2, 1, 0, 0]) (.nd 107512762505 (.cycle [2, 1, 0, 0, 2, 0]) (.nd 107479147546 (.cycle [2, 1, 0, 0, 1, 2]) .nl
  .nl) .nl) (.nd 107525869737 (.cycle [2, 1, 0, 0, 2, 2]) (.nd 107525849744 (.cycle [2, 1, 0, 0, 2]) .nl .nl) .nl)) (.nd 107680665892 (.cycle [2, 1, 0, 1, 0]) (.nd 107668923462
  (.cycle [2, 1, 0, 1, 0, 1]) (.nd 107652157705 (.cycle [2, 1, 0, 1, 0, 0]) .nl .nl) .nl) (.nd 107680703561 (.cycle [2, 1, 0, 1, 1, 0]) (.nd 107680670794 (.cycle [2, 1, 0, 1, 0, 2])
  .nl .nl) .nl)))))
def ts31_13 : Ts :=
 (.nd 108486890537 (.cycle [2, 1, 1, 0, 0, 2]) (.nd 107987749156 (.cycle [2, 1, 0]) (.nd 107795354025 (.cycle [2, 1, 0, 1, 2, 2]) (.nd 107795091817 (.cycle [2, 1, 0, 1, 1, 2]) (.nd
  107795026276 (.cycle [2, 1, 0, 1, 1, 1]) (.nd 107781432418 (.cycle [2, 1, 0, 1, 2, 0]) .nl .nl) (.nd 107795072401 (.cycle [2, 1, 0, 1, 1]) .nl .nl)) (.nd 107795334801 (.cycle [2,
  1, 0, 1, 2]) (.nd 107795257625 (.cycle [2, 1, 0, 1]) .nl .nl) .nl)) (.nd 107937424518 (.cycle [2, 1, 0, 2, 0, 1]) (.nd 107920658953 (.cycle [2, 1, 0, 2, 0, 0]) (.nd 107798226022
  (.cycle [2, 1, 0, 1, 2, 1]) .nl .nl) .nl) (.nd 107949368458 (.cycle [2, 1, 0, 2, 0, 2]) (.nd 107949363748 (.cycle [2, 1, 0, 2, 0]) .nl .nl) .nl))) (.nd 108064450858 (.cycle [2, 1,
  0, 2, 2]) (.nd 108016542874 (.cycle [2, 1, 0, 2, 1, 2]) (.nd 108016538212 (.cycle [2, 1, 0, 2, 1]) (.nd 108004530470 (.cycle [2, 1, 0, 2, 1, 1]) .nl .nl) .nl) (.nd 108064449700
  (.cycle [2, 1, 0, 2]) (.nd 108050130082 (.cycle [2, 1, 0, 2, 2, 0]) .nl .nl) .nl)) (.nd 108457661449 (.cycle [2, 1, 1, 0, 0, 0]) (.nd 108066923686 (.cycle [2, 1, 0, 2, 2, 1]) (.nd
  108064451146 (.cycle [2, 1, 0, 2, 2, 2]) .nl .nl) .nl) (.nd 108486873236 (.cycle [2, 1, 1, 0, 0]) (.nd 108474426630 (.cycle [2, 1, 1, 0, 0, 1]) .nl .nl) .nl)))) (.nd 108755461450
  (.cycle [2, 1, 1, 1, 0, 2]) (.nd 108603789972 (.cycle [2, 1, 1, 0, 2]) (.nd 108553938202 (.cycle [2, 1, 1, 0, 1, 2]) (.nd 108541532486 (.cycle [2, 1, 1, 0, 1, 1]) (.nd
  108524751172 (.cycle [2, 1, 1, 0, 1, 0]) .nl .nl) (.nd 108553933924 (.cycle [2, 1, 1, 0, 1]) .nl .nl)) (.nd 108603722057 (.cycle [2, 1, 1, 0]) (.nd 108587553929 (.cycle [2, 1, 1,
  0, 2, 0]) .nl .nl) .nl)) (.nd 108726126921 (.cycle [2, 1, 1, 1, 0, 0]) (.nd 108604319014 (.cycle [2, 1, 1, 0, 2, 1]) (.nd 108603806889 (.cycle [2, 1, 1, 0, 2, 2]) .nl .nl) .nl)
  (.nd 108755457316 (.cycle [2, 1, 1, 1, 0]) (.nd 108742908230 (.cycle [2, 1, 1, 1, 0, 1]) .nl .nl) .nl))) (.nd 109024159114 (.cycle [2, 1, 1, 2, 0, 2]) (.nd 108994627936 (.cycle
  [2, 1, 1, 2, 0, 0]) (.nd 108856223074 (.cycle [2, 1, 1, 1, 2, 0]) (.nd 108755494217 (.cycle [2, 1, 1, 1, 1, 0]) .nl .nl) .nl) (.nd 109024155174 (.cycle [2, 1, 1, 2, 0]) (.nd
  109011409249 (.cycle [2, 1, 1, 2, 0, 1]) .nl .nl) .nl)) (.nd 109531666441 (.cycle [2, 1, 2, 0, 0, 0]) (.nd 109124920738 (.cycle [2, 1, 1, 2, 2, 0]) (.nd 109061753188 (.cycle [2,
  1, 1, 2, 1, 0]) .nl .nl) .nl) (.nd 109561667736 (.cycle [2, 1, 2, 0, 0]) (.nd 109548430854 (.cycle [2, 1, 2, 0, 0, 1]) .nl .nl) .nl)))))
def ts31_14 : Ts :=
 (.nd 111696519194 (.cycle [2, 2, 0, 0, 0, 1]) (.nd 109800130960 (.cycle [2, 1, 2, 1, 0, 0]) (.nd 109628728858 (.cycle [2, 1, 2, 0, 1, 2]) (.nd 109623928344 (.points [0, 1, 2]) (.nd
  109598755204 (.cycle [2, 1, 2, 0, 1, 0]) (.nd 109561681961 (.cycle [2, 1, 2, 0, 0, 2]) .nl .nl) (.nd 109615536518 (.cycle [2, 1, 2, 0, 1, 1]) .nl .nl)) (.nd 109628725350 (.cycle
  [2, 1, 2, 0, 1]) (.nd 109627147874 (.points [0, 2, 3]) .nl .nl) .nl)) (.nd 109675161994 (.cycle [2, 1, 2, 0, 2]) (.nd 109675161126 (.cycle [2, 1, 2, 0]) (.nd 109662345353 (.cycle
  [2, 1, 2, 0, 2, 0]) .nl .nl) .nl) (.nd 109679109670 (.cycle [2, 1, 2, 0, 2, 1]) (.nd 109675162210 (.cycle [2, 1, 2, 0, 2, 2]) .nl .nl) .nl))) (.nd 110068631968 (.cycle [2, 1, 2,
  2, 0, 0]) (.nd 109830284873 (.cycle [2, 1, 2, 1, 1, 0]) (.nd 109830248742 (.cycle [2, 1, 2, 1, 0]) (.nd 109816912273 (.cycle [2, 1, 2, 1, 0, 1]) .nl .nl) (.nd 109830252106 (.cycle
  [2, 1, 2, 1, 0, 2]) .nl .nl)) (.nd 109931013730 (.cycle [2, 1, 2, 1, 2, 0]) (.nd 109931010438 (.points [0, 3, 4]) .nl .nl) .nl)) (.nd 110098553385 (.cycle [2, 1, 2, 2, 0, 2]) (.nd
  110098540698 (.cycle [2, 1, 2, 2, 0]) (.nd 110085413281 (.cycle [2, 1, 2, 2, 0, 1]) .nl .nl) .nl) (.nd 110199204390 (.cycle [2, 1, 2, 2, 2, 0]) (.nd 110135757220 (.cycle [2, 1, 2,
  2, 1, 0]) .nl .nl) .nl)))) (.nd 112077706886 (.cycle [2, 2, 0, 1, 1]) (.nd 111964940358 (.cycle [2, 2, 0, 1, 0, 1]) (.nd 111770247274 (.cycle [2, 2, 0, 0, 1, 2]) (.nd 111763613718
  (.cycle [2, 2, 0, 0, 1, 1]) (.nd 111746850890 (.cycle [2, 2, 0, 0, 1, 0]) .nl .nl) (.nd 111770239392 (.cycle [2, 2, 0, 0, 1]) .nl .nl)) (.nd 111948177674 (.cycle [2, 2, 0, 1, 0,
  0]) (.nd 111820775578 (.cycle [2, 2, 0, 0, 2, 1]) .nl .nl) .nl)) (.nd 111972491594 (.cycle [2, 2, 0, 1, 1, 0]) (.nd 111972360490 (.cycle [2, 2, 0, 1, 0, 2]) (.nd 111972353185
  (.cycle [2, 2, 0, 1, 0]) .nl .nl) .nl) (.nd 112077473128 (.cycle [2, 2, 0, 1, 1, 1]) (.nd 112073417098 (.cycle [2, 2, 0, 1, 2, 0]) .nl .nl) .nl))) (.nd 112090259866 (.cycle [2, 2,
  0, 1, 2, 1]) (.nd 112078202406 (.points [0, 0, 2]) (.nd 112078201249 (.cycle [2, 2, 0, 1]) (.nd 112077735336 (.cycle [2, 2, 0, 1, 1, 2]) .nl .nl) .nl) (.nd 112078203418 (.cycle
  [2, 2, 0, 1, 2, 2]) (.nd 112078202986 (.cycle [2, 2, 0, 1, 2]) .nl .nl) .nl)) (.nd 112300546598 (.cycle [2, 2, 0, 2, 1, 1]) (.nd 112283765284 (.cycle [2, 2, 0, 2, 1, 0]) (.nd
  112233441414 (.cycle [2, 2, 0, 2, 0, 1]) .nl .nl) .nl) (.nd 112309085734 (.points [1, 0, 3]) (.nd 112308889752 (.points [2, 0, 4]) .nl .nl) .nl)))))
def ts31_15 : Ts :=
 (.nd 113319716486 (.points [0, 2, 4]) (.nd 112896287908 (.cycle [2, 2, 1, 0]) (.nd 112780813354 (.cycle [2, 2, 1, 0, 0, 2]) (.nd 112753681418 (.cycle [2, 2, 1, 0, 0, 0]) (.nd
  112309215850 (.cycle [2, 2, 0, 2, 1, 2]) (.nd 112309209506 (.cycle [2, 2, 0, 2, 1]) .nl .nl) (.nd 112359541352 (.cycle [2, 2, 0, 2, 2, 1]) .nl .nl)) (.nd 112780808356 (.cycle [2,
  2, 1, 0, 0]) (.nd 112770443526 (.cycle [2, 2, 1, 0, 0, 1]) .nl .nl) .nl)) (.nd 112848179620 (.cycle [2, 2, 1, 0, 1]) (.nd 112837548614 (.cycle [2, 2, 1, 0, 1, 1]) (.nd
  112820767300 (.cycle [2, 2, 1, 0, 1, 0]) .nl .nl) .nl) (.nd 112881869962 (.cycle [2, 2, 1, 0, 2, 0]) (.nd 112848184426 (.cycle [2, 2, 1, 0, 1, 2]) .nl .nl) .nl))) (.nd
  113050297642 (.cycle [2, 2, 1, 1, 0, 2]) (.nd 113022143050 (.cycle [2, 2, 1, 1, 0, 0]) (.nd 112896289354 (.cycle [2, 2, 1, 0, 2, 2]) (.nd 112896289066 (.cycle [2, 2, 1, 0, 2]) .nl
  .nl) (.nd 112898712730 (.cycle [2, 2, 1, 0, 2, 1]) .nl .nl)) (.nd 113050293412 (.cycle [2, 2, 1, 1, 0]) (.nd 113038924358 (.cycle [2, 2, 1, 1, 0, 1]) .nl .nl) .nl)) (.nd
  113290644064 (.cycle [2, 2, 1, 2, 0, 0]) (.nd 113151354250 (.cycle [2, 2, 1, 1, 2, 0]) (.nd 113050428746 (.cycle [2, 2, 1, 1, 1, 0]) .nl .nl) .nl) (.nd 113319716390 (.points [0,
  1, 3]) (.nd 113307425377 (.cycle [2, 2, 1, 2, 0, 1]) .nl .nl) .nl)))) (.nd 114095859978 (.cycle [2, 2, 2, 1, 0, 0]) (.nd 113911097878 (.cycle [2, 2, 2, 0, 1, 1]) (.nd 113420442153
  (.cycle [2, 2, 1, 2, 2, 0]) (.nd 113319781930 (.cycle [2, 2, 1, 2, 0, 2]) (.nd 113319778470 (.cycle [2, 2, 1, 2, 0]) .nl .nl) (.nd 113357769316 (.cycle [2, 2, 1, 2, 1, 0]) .nl
  .nl)) (.nd 113894336586 (.cycle [2, 2, 2, 0, 1, 0]) (.nd 113844004890 (.cycle [2, 2, 2, 0, 0, 1]) .nl .nl) .nl)) (.nd 113919796774 (.points [0, 0, 3]) (.nd 113919041962 (.cycle
  [2, 2, 2, 0, 1, 2]) (.nd 113919035041 (.cycle [2, 2, 2, 0, 1]) .nl .nl) .nl) (.nd 113970160234 (.cycle [2, 2, 2, 0, 2, 1]) (.nd 113969883686 (.points [1, 0, 4]) .nl .nl) .nl)))
  (.nd 114225751594 (.cycle [2, 2, 2, 1, 2, 0]) (.nd 114123515050 (.cycle [2, 2, 2, 1, 0, 2]) (.nd 114123510436 (.cycle [2, 2, 2, 1, 0]) (.nd 114112621126 (.cycle [2, 2, 2, 1, 0,
  1]) .nl .nl) .nl) (.nd 114225736290 (.points [0, 1, 4]) (.nd 114124039466 (.cycle [2, 2, 2, 1, 1, 0]) .nl .nl) .nl)) (.nd 114431404618 (.cycle [2, 2, 2, 2, 1, 0]) (.nd
  114380925574 (.points [0, 0, 4]) (.nd 114380876314 (.cycle [2, 2, 2, 2, 0, 1]) .nl .nl) .nl) (.nd 114511227562 (.order [2, 1, 0]) (.nd 114489993898 (.order [2, 0, 1]) .nl .nl)
  .nl)))))
def ts31 : Ts :=
 (.nd 91424462121 (.cycle [1, 1, 1, 0, 2, 2]) (.nd 77871997464 (.points [3, 0, 3]) (.nd 73569289348 (.cycle [0, 1, 0, 2, 0, 1]) (.nd 70431170662 (.cycle [0, 0, 1, 2, 1, 2]) ts31_0
  ts31_1) (.nd 75302602280 (.cycle [0, 1, 2, 0, 2, 2]) ts31_2 ts31_3)) (.nd 87078233158 (.cycle [1, 0, 1, 0, 1, 2]) (.nd 79542962708 (.cycle [0, 2, 2, 0, 1, 1]) ts31_4 ts31_5) (.nd
  88468769170 (.cycle [1, 0, 2, 1, 2]) ts31_6 ts31_7))) (.nd 104830443937 (.cycle [2, 0, 1, 2]) (.nd 95854859846 (.cycle [1, 2, 1, 1, 0, 1]) (.nd 94581645408 (.cycle [1, 2, 0, 0,
  1]) ts31_8 ts31_9) (.nd 103483277664 (.cycle [2, 0, 0, 1, 1, 1]) ts31_10 ts31_11)) (.nd 109561681961 (.cycle [2, 1, 2, 0, 0, 2]) (.nd 107781432418 (.cycle [2, 1, 0, 1, 2, 0])
  ts31_12 ts31_13) (.nd 112309209506 (.cycle [2, 2, 0, 2, 1]) ts31_14 ts31_15))))
theorem told21_0 : toldC 2 1 row21 ts21 0 = true := by decide +kernel
theorem told21_1 : toldC 2 1 row21 ts21 1 = true := by decide +kernel
theorem told21_2 : toldC 2 1 row21 ts21 2 = true := by decide +kernel
theorem told21 : told 2 1 row21 ts21 = true := told_of (k := 3) (by decide +kernel) (fun i hi => by
  match i, hi with
  | 0, _ => exact told21_0
  | 1, _ => exact told21_1
  | 2, _ => exact told21_2
  | _ + 3, h => omega)
theorem told22_0 : toldC 2 2 row22 ts22 0 = true := by decide +kernel
theorem told22_1 : toldC 2 2 row22 ts22 1 = true := by decide +kernel
theorem told22_2 : toldC 2 2 row22 ts22 2 = true := by decide +kernel
theorem told22 : told 2 2 row22 ts22 = true := told_of (k := 3) (by decide +kernel) (fun i hi => by
  match i, hi with
  | 0, _ => exact told22_0
  | 1, _ => exact told22_1
  | 2, _ => exact told22_2
  | _ + 3, h => omega)
theorem told23_0 : toldC 2 3 row23 ts23 0 = true := by decide +kernel
theorem told23_1 : toldC 2 3 row23 ts23 1 = true := by decide +kernel
theorem told23_2 : toldC 2 3 row23 ts23 2 = true := by decide +kernel
theorem told23 : told 2 3 row23 ts23 = true := told_of (k := 3) (by decide +kernel) (fun i hi => by
  match i, hi with
  | 0, _ => exact told23_0
  | 1, _ => exact told23_1
  | 2, _ => exact told23_2
  | _ + 3, h => omega)
theorem told31_0 : toldC 3 1 row31 ts31 0 = true := by decide +kernel
theorem told31_1 : toldC 3 1 row31 ts31 1 = true := by decide +kernel
theorem told31_2 : toldC 3 1 row31 ts31 2 = true := by decide +kernel
theorem told31_3 : toldC 3 1 row31 ts31 3 = true := by decide +kernel
theorem told31_4 : toldC 3 1 row31 ts31 4 = true := by decide +kernel
theorem told31_5 : toldC 3 1 row31 ts31 5 = true := by decide +kernel
theorem told31_6 : toldC 3 1 row31 ts31 6 = true := by decide +kernel
theorem told31_7 : toldC 3 1 row31 ts31 7 = true := by decide +kernel
theorem told31_8 : toldC 3 1 row31 ts31 8 = true := by decide +kernel
theorem told31_9 : toldC 3 1 row31 ts31 9 = true := by decide +kernel
theorem told31_10 : toldC 3 1 row31 ts31 10 = true := by decide +kernel
theorem told31_11 : toldC 3 1 row31 ts31 11 = true := by decide +kernel
theorem told31_12 : toldC 3 1 row31 ts31 12 = true := by decide +kernel
theorem told31_13 : toldC 3 1 row31 ts31 13 = true := by decide +kernel
theorem told31_14 : toldC 3 1 row31 ts31 14 = true := by decide +kernel
theorem told31 : told 3 1 row31 ts31 = true := told_of (k := 15) (by decide +kernel) (fun i hi => by
  match i, hi with
  | 0, _ => exact told31_0
  | 1, _ => exact told31_1
  | 2, _ => exact told31_2
  | 3, _ => exact told31_3
  | 4, _ => exact told31_4
  | 5, _ => exact told31_5
  | 6, _ => exact told31_6
  | 7, _ => exact told31_7
  | 8, _ => exact told31_8
  | 9, _ => exact told31_9
  | 10, _ => exact told31_10
  | 11, _ => exact told31_11
  | 12, _ => exact told31_12
  | 13, _ => exact told31_13
  | 14, _ => exact told31_14
  | _ + 15, h => omega)
theorem few_ticks {d e : Desk} (hd : d.ok) (he : e.ok) (hn : d.n = e.n) (hr : d.room = e.room) (hw : (d.n = 2 ∧ d.room ≤ 3) ∨ (d.n = 3 ∧ d.room = 1) ∨ d.n = 1)
    {r : List (List Nat)} (h1 : linesF d r ≠ linesF e r) (h2 : ∀ row, (∀ x ∈ row, x ∈ arrs d.n) → row.length < r.length → linesF d row = linesF e row) : r.length ≤ 98 := by
  refine Nat.le_of_not_lt fun hlt => h1 ?_
  obtain ⟨n, room, ru⟩ := d
  obtain ⟨n', room', ru'⟩ := e
  have r1 := hd.r1
  have hdr := hd.ru
  have her := he.ru
  simp only at hn hr hw r1 h1 h2 hdr her
  subst hn hr
  rcases hw with ⟨rfl, hrm⟩ | ⟨rfl, rfl⟩ | rfl
  · rcases (show room = 1 ∨ room = 2 ∨ room = 3 by omega) with rfl | rfl | rfl
    · exact told_ok told21 hdr her (by omega) (h2 row21 (by decide) (by have : row21.length = 25 := rfl
                                                                        omega)) r
    · exact told_ok told22 hdr her (by omega) (h2 row22 (by decide) (by have : row22.length = 11 := rfl
                                                                        omega)) r
    · exact told_ok told23 hdr her (by omega) (h2 row23 (by decide) (by have : row23.length = 12 := rfl
                                                                        omega)) r
  · exact told_ok told31 hdr her (by omega) (h2 row31 (by decide) (by have : row31.length = 18 := rfl
                                                                      omega)) r
  · exact one_lines hd he rfl rfl rfl r
end Qz
namespace Qz
open PySem PySem.Spec PyProof.Rows L2
theorem desk13 (ns : List Int) (town : OV) (ht : TownOk town) :
    ∃ (d : Desk) (town' : OV), m__law_desk [scrO ns, town] = some (.fz d.d, town') ∧ d.ok ∧ ((d.n = 2 ∧ d.room ≤ 3) ∨ (d.n = 3 ∧ d.room = 1) ∨ (d.n = 1 ∧ d.room = 2)) ∧ TownOk town' := by
  obtain ⟨p, t1, e, hp, ht1⟩ := pick_ok ns town ht [.fz (.tuple [.int 2, .int 1]), .fz (.tuple [.int 2, .int 2]), .fz (.tuple [.int 2, .int 2]), .fz (.tuple [.int 2, .int 3]), .fz (.tuple [.int 3, .int 1]), .fz (.tuple [.int 1, .int 2])] _ rfl (by simp) (by simp)
  have key : ∃ a b : Nat, p = .tuple [dN a, dN b] ∧ 1 ≤ a ∧ a ≤ 3 ∧ 1 ≤ b ∧ b ≤ 3 ∧ a * b ≤ 6 ∧ ((a = 2 ∧ b ≤ 3) ∨ (a = 3 ∧ b = 1) ∨ (a = 1 ∧ b = 2)) := by
    simp at hp
    rcases hp with rfl | rfl | rfl | rfl | rfl
    · exact ⟨2, 1, rfl, by omega, by omega, by omega, by omega, by omega, by omega⟩
    · exact ⟨2, 2, rfl, by omega, by omega, by omega, by omega, by omega, by omega⟩
    · exact ⟨2, 3, rfl, by omega, by omega, by omega, by omega, by omega, by omega⟩
    · exact ⟨3, 1, rfl, by omega, by omega, by omega, by omega, by omega, by omega⟩
    · exact ⟨1, 2, rfl, by omega, by omega, by omega, by omega, by omega, by omega⟩
  obtain ⟨a, b, rfl, h1, h2, h3, h4, h5, h6⟩ := key
  obtain ⟨r, t2, e2, hr, ht2⟩ := rule_ok ns a h1 h2 t1 ht1
  refine ⟨⟨a, b, r⟩, t2, ?_, ⟨h1, h2, h3, h4, h5, hr⟩, h6, ht2⟩
  have d6 : 6 ≤ sizeLine := by decide
  have d2 : 2 ≤ sizeLine := by decide
  have d3 : 3 ≤ sizeLine := by decide
  simp [m__law_desk, mFunI, f__law_desk, e, e2, d6, d2, d3, Desk.d]
/-! how long two rules agree -/
structure Agr (d e : Desk) (k : Nat) : Prop where
  le : k ≤ 99
  same : ∀ row, (∀ x ∈ row, x ∈ arrs d.n) → row.length < k → linesF d row = linesF e row
  all : k = 99 → ∀ row, (∀ x ∈ row, x ∈ arrs d.n) → linesF d row = linesF e row
  apart : k < 99 → ∃ r, (∀ x ∈ r, x ∈ arrs d.n) ∧ r.length = k ∧ linesF d r ≠ linesF e r
theorem Agr.sym {d e : Desk} {k : Nat} (h : Agr d e k) (hn : d.n = e.n) : Agr e d k :=
  ⟨h.le, fun r h1 h2 => (h.same r (hn ▸ h1) h2).symm, fun e0 r h1 => (h.all e0 r (hn ▸ h1)).symm, fun h0 => by
    obtain ⟨r, h1, h2, h3⟩ := h.apart h0
    exact ⟨r, hn ▸ h1, h2, fun q => h3 q.symm⟩⟩
theorem Agr.tri {d e f : Desk} {a b c : Nat} (h1 : Agr d e a) (h2 : Agr e f b) (h3 : Agr d f c) (hn : d.n = e.n) : a ≤ c ∨ b ≤ c := by
  refine Classical.byContradiction fun q => ?_
  have ha := h1.le
  obtain ⟨r, r1, r2, r3⟩ := h3.apart (by omega)
  refine r3 ((h1.same r r1 (by omega)).trans (h2.same r (hn ▸ r1) (by omega)))
theorem long_ok {d e : Desk} (hd : d.ok) (he : e.ok) (hn : d.n = e.n) (hr : d.room = e.room) (hw : (d.n = 2 ∧ d.room ≤ 3) ∨ (d.n = 3 ∧ d.room = 1) ∨ (d.n = 1 ∧ d.room = 2)) :
    ∃ o k, m_parting [.fz d.d, .fz e.d] = some o ∧ m__law_long [o] = some (.fz (dN k)) ∧ Agr d e k := by
  rcases parting_ok d e hd he hn hr with ⟨g, h⟩ | ⟨r, a, g, h1, h2, h3, h4⟩
  · refine ⟨_, 99, g, by simp [m__law_long, f__law_long, mFun], by omega, fun row hrow _ => h row hrow, fun _ => h, fun q => by omega⟩
  · have hf : (r ++ [a]).length ≤ 98 := few_ticks hd he hn hr (by omega) h3 fun row hrow hlt => h4 row hrow (by simp at hlt; omega)
    refine ⟨_, (r ++ [a]).length, g, ?_, by omega, fun row hrow hlt => h4 row hrow (by simp at hlt; omega), fun q => by omega, fun _ => ⟨r ++ [a], h1, rfl, h3⟩⟩
    have i1 : ∀ os, gIsB false (.ls os) (.fz .none) = some (.fr (.bool false)) := fun _ => rfl
    have f1 : frs ((r ++ [a]).map fun a => OV.fz (dT a)) = some ((r ++ [a]).map dT) := frs_fzc
    have e1 : ((r ++ [a]).map dT).length = (r ++ [a]).length := List.length_map ..
    generalize (r ++ [a]).length = k at *
    generalize (r ++ [a]).map dT = ds at *
    generalize ((r ++ [a]).map fun a => OV.fz (dT a)) = os at *
    simp [m__law_long, f__law_long, mFun, i1, f1, e1]
theorem srt3 (a b c : Int) (h1 : a ≤ c ∨ b ≤ c) (h2 : b ≤ a ∨ c ≤ a) (h3 : a ≤ b ∨ c ≤ b) : ∃ x z, srtI [a, b, c] = [x, x, z] := by
  have key : ∃ x y z, srtI [a, b, c] = [x, y, z] ∧ x = y := by
    simp only [srtI, List.foldr_cons, List.foldr_nil, insS]
    by_cases q1 : b ≤ c <;> by_cases q2 : a ≤ b <;> by_cases q3 : a ≤ c <;> simp only [q1, q2, q3, insS, if_true, if_false]
    all_goals (refine ⟨_, _, _, rfl, ?_⟩; omega)
  obtain ⟨x, y, z, e, rfl⟩ := key
  exact ⟨x, z, e⟩
theorem law_true (ns : List Int) (_ : ns.length ≤ 63) : m_law [scrO ns] = some (.fz (.bool true)) := by
  obtain ⟨d, town1, e1, hd, hw, ht1⟩ := desk13 ns (townO 0 0) ⟨0, 0, by omega, by omega, rfl⟩
  obtain ⟨r, town2, e2, hr, ht2⟩ := rule_ok ns d.n hd.n1 hd.n3 town1 ht1
  obtain ⟨r', town3, e3, hr', ht3⟩ := rule_ok ns d.n hd.n1 hd.n3 town2 ht2
  obtain ⟨e, he0⟩ : ∃ e : Desk, e = ⟨d.n, d.room, r⟩ := ⟨_, rfl⟩
  obtain ⟨f, hf0⟩ : ∃ f : Desk, f = ⟨d.n, d.room, r'⟩ := ⟨_, rfl⟩
  obtain ⟨g, hg0⟩ : ∃ g : Desk, g = ⟨d.n, if d.room > 1 then 1 else 2, d.rule⟩ := ⟨_, rfl⟩
  have he : e.ok := by rw [he0]; exact ⟨hd.n1, hd.n3, hd.r1, hd.r3, hd.m6, hr⟩
  have hf : f.ok := by rw [hf0]; exact ⟨hd.n1, hd.n3, hd.r1, hd.r3, hd.m6, hr'⟩
  have hgn : d.n * (if d.room > 1 then 1 else 2) ≤ 6 := by
    have := hd.n3
    split <;> omega
  have hg : g.ok := by
    rw [hg0]
    refine ⟨hd.n1, hd.n3, ?_, ?_, hgn, hd.ru⟩
    · show 1 ≤ (if d.room > 1 then 1 else 2)
      split <;> omega
    · show (if d.room > 1 then 1 else 2) ≤ 3
      split <;> omega
  have n1 : d.n = e.n := by rw [he0]
  have m1 : d.room = e.room := by rw [he0]
  have n2 : d.n = f.n := by rw [hf0]
  have m2 : d.room = f.room := by rw [hf0]
  have m3 : d.room ≠ g.room := by
    rw [hg0]
    show d.room ≠ (if d.room > 1 then 1 else 2)
    have := hd.r1
    split <;> omega
  have ed : PyData.tuple ([dN d.n, dN d.room] ++ [r.d]) = e.d := by rw [he0]; rfl
  have fd : PyData.tuple ([dN d.n, dN d.room] ++ [r'.d]) = f.d := by rw [hf0]; rfl
  have kk : ∀ x y z : PyData, cutD [x, y, z] none (some 2) = [x, y] := fun x y z => cutK (k := 2)
  have d3 : 3 ≤ sizeLine := by decide
  have d2 : 2 ≤ sizeLine := by decide
  have d1 : 1 ≤ sizeLine := by decide
  have a1 := alike_ok d e hd he
  have a2 := alike_ok e f he hf
  have a3 := alike_ok d g hd hg
  have a4 := alike_ok g d hg hd
  rw [show decide (d.n = e.n ∧ d.room = e.room) = true by simp [← n1, ← m1]] at a1
  rw [show decide (e.n = f.n ∧ e.room = f.room) = true by simp [← n1, ← m1, ← n2, ← m2]] at a2
  rw [show decide (d.n = g.n ∧ d.room = g.room) = false by simp [m3]] at a3
  rw [show decide (g.n = d.n ∧ g.room = d.room) = false by simp [Ne.symm m3]] at a4
  obtain ⟨o1, k1, p1, q1, A1⟩ := long_ok hd he n1 m1 hw
  obtain ⟨o2, k2, p2, q2, A2⟩ := long_ok he hf (n1 ▸ n2) (m1 ▸ m2) (n1 ▸ m1 ▸ hw)
  obtain ⟨o3, k3, p3, q3, A3⟩ := long_ok hd hf n2 m2 hw
  have t1 := A1.tri A2 A3 n1
  have t2 := A3.tri (A2.sym (n1 ▸ n2)) A1 n2
  have t3 := (A1.sym n1).tri A3 A2 n1.symm
  obtain ⟨x, z, hs⟩ := srt3 (k1 : Int) k2 k3 (by omega) (by omega) (by omega)
  have s0 : sSet false 1 (fLst [(f0 (some (.fr (.int 0)))), (f0 (some (.fr (.int 0))))]) [.bo (scrO ns), .no, .no, .no, .no, .no, .no, .no] = some (.nx, [.bo (scrO ns), .ow (townO 0 0), .no, .no, .no, .no, .no, .no]) := by
    simp [townO, d2]
  have s1 : sSet true 2 (fCallI 1 m__law_desk [(fName 0), (fName 1)]) [.bo (scrO ns), .ow (townO 0 0), .no, .no, .no, .no, .no, .no] = some (.nx, [.bo (scrO ns), .ow town1, .ow (.fz d.d), .no, .no, .no, .no, .no]) := by
    simp [e1]
  have s2 : c_law_0 [.bo (scrO ns), .ow town1, .ow (.fz d.d), .no, .no, .no, .no, .no] = some (.ow (.ls [.fz e.d, .fz f.d]), [.bo (scrO ns), .ow town3, .ow (.fz d.d), .no, .no, .no, .no, .no]) := by
    have rg : rgD 2 = [.int 0, .int 1] := rfl
    unfold c_law_0
    have z0 : 0 < sizeLine := by decide
    have z1 : 1 < sizeLine := by decide
    simp [rg, compL, z0, z1, e2, e3, kk, d3, d2, d1, ← ed, ← fd]
  have gd : ∃ dd : PyData, dd = d.d ∧ True := ⟨_, rfl, trivial⟩
  have s7 : sSet true 7 (fTup [(f2 gIx (fName 2) (f0 (some (.fr (.int 0))))), (fIf (fB (f2 gGt (f2 gIx (fName 2) (f0 (some (.fr (.int 1))))) (f0 (some (.fr (.int 1)))))) (f0 (some (.fr (.int 1)))) (f0 (some (.fr (.int 2))))), (f2 gIx (fName 2) (f0 (some (.fr (.int 2)))))]) [.bo (scrO ns), .ow town3, .ow (.fz d.d), .ow (.fz e.d), .ow (.fz f.d), .no, .ow (.fz (.list [.int x, .int x, .int z])), .no]
      = some (.nx, [.bo (scrO ns), .ow town3, .ow (.fz d.d), .ow (.fz e.d), .ow (.fz f.d), .no, .ow (.fz (.list [.int x, .int x, .int z])), .ow (.fz g.d)]) := by
    have eg : g.d = .tuple [dN d.n, dN (if d.room > 1 then 1 else 2), d.rule.d] := by rw [hg0]; rfl
    rw [eg]
    by_cases c : d.room > 1
    · have c' : (1 : Int) < (d.room : Int) := by omega
      simp [c, c', d3]
    · have c' : ¬ (1 : Int) < (d.room : Int) := by omega
      simp [c, c', d3]
  show mFun 8 f_law [scrO ns] = _
  unfold f_law
  simp only [mFun, List.map_cons, List.map_nil, List.length_cons, List.length_nil, List.cons_append, List.nil_append, List.replicate]
  rw [sSeq_ap, s0]; simp only
  rw [sSeq_ap, s1]; simp only
  generalize d.d = x2 at *
  generalize e.d = x3 at *
  generalize f.d = x4 at *
  generalize g.d = x5 at *
  have s3 : sUnpL [(.nm 3), (.nm 4)] c_law_0 [.bo (scrO ns), .ow town1, .ow (.fz x2), .no, .no, .no, .no, .no] = some (.nx, [.bo (scrO ns), .ow town3, .ow (.fz x2), .ow (.fz x3), .ow (.fz x4), .no, .no, .no]) := by
    simp [s2]
  rw [sSeq_ap, s3]; simp only
  rw [sSeq_ap, show (sIf (fOr (fB (f2 gIsNot (fCall m_alike [(fName 2), (fName 3)]) (f0 (some (.fr (.bool true)))))) (fB (f2 gIsNot (fCall m_alike [(fName 3), (fName 4)]) (f0 (some (.fr (.bool true))))))) (sRet (f0 (some (.fr (.bool false))))) sNil) [.bo (scrO ns), .ow town3, .ow (.fz x2), .ow (.fz x3), .ow (.fz x4), .no, .no, .no] = some (.nx, [.bo (scrO ns), .ow town3, .ow (.fz x2), .ow (.fz x3), .ow (.fz x4), .no, .no, .no]) by simp [a1, a2]]
  simp only
  rw [sSeq_ap, show sSet true 6 (f1 gSorted (fLst [(fCall m__law_long [(fCall m_parting [(fName 2), (fName 3)])]), (fCall m__law_long [(fCall m_parting [(fName 3), (fName 4)])]), (fCall m__law_long [(fCall m_parting [(fName 2), (fName 4)])])])) [.bo (scrO ns), .ow town3, .ow (.fz x2), .ow (.fz x3), .ow (.fz x4), .no, .no, .no] = some (.nx, [.bo (scrO ns), .ow town3, .ow (.fz x2), .ow (.fz x3), .ow (.fz x4), .no, .ow (.fz (.list [.int x, .int x, .int z])), .no]) by
    have i3 : intsD [.int (k1 : Int), .int (k2 : Int), .int (k3 : Int)] = some [(k1 : Int), (k2 : Int), (k3 : Int)] := rfl
    simp [p1, p2, p3, q1, q2, q3, gSorted, i3, hs, d3]]
  simp only
  have hx : ∀ y : Int, PyData.eqv (.int y) (.int y) = true := fun y => by simp
  rw [sSeq_ap, show (sIf (fB (f2 gNe (f2 gIx (fName 6) (f0 (some (.fr (.int 0))))) (f2 gIx (fName 6) (f0 (some (.fr (.int 1))))))) (sRet (f0 (some (.fr (.bool false))))) sNil) [.bo (scrO ns), .ow town3, .ow (.fz x2), .ow (.fz x3), .ow (.fz x4), .no, .ow (.fz (.list [.int x, .int x, .int z])), .no] = some (.nx, [.bo (scrO ns), .ow town3, .ow (.fz x2), .ow (.fz x3), .ow (.fz x4), .no, .ow (.fz (.list [.int x, .int x, .int z])), .no]) by simp]
  simp only
  rw [sSeq_ap, s7]; simp only
  simp [a3, a4]
end Qz
namespace Qz
open PySem PySem.Spec PyProof.Rows L2
def topS (i : Nat) : Stmt := PySem.Challenge.pw_clerklines_k13_whole_triangle.main.body.getD i (.Pass ⟨0, 0, 0, 0⟩)
abbrev s_is_count : Stmt := topS 5
theorem sc_is_count : FnScope ["value", "least", "most"] ["value", "least", "most"] (defScope s_is_count) := ⟨rfl, rfl, rfl, by decide +kernel, rfl, by decide +kernel, by decide +kernel⟩
abbrev s_arrivals_of : Stmt := topS 10
theorem sc_arrivals_of : FnScope ["desk", "found", "line", "arrival"] ["desk"] (defScope s_arrivals_of) := ⟨rfl, rfl, rfl, by decide +kernel, rfl, by decide +kernel, by decide +kernel⟩
abbrev s_start_of : Stmt := topS 12
theorem sc_start_of : FnScope ["desk"] ["desk"] (defScope s_start_of) := ⟨rfl, rfl, rfl, by decide +kernel, rfl, by decide +kernel, by decide +kernel⟩
abbrev s_chosen : Stmt := topS 13
theorem sc_chosen : FnScope ["desk", "queues", "pointer", "word", "lines", "line", "turn", "step", "one", "slots", "slot", "points"] ["desk", "queues", "pointer"] (defScope s_chosen) := ⟨rfl, rfl, rfl, by decide +kernel, rfl, by decide +kernel, by decide +kernel⟩
abbrev s_settled : Stmt := topS 16
theorem sc_settled : FnScope ["desk", "situation", "queues", "pointer", "queue", "ages", "age"] ["desk", "situation"] (defScope s_settled) := ⟨rfl, rfl, rfl, by decide +kernel, rfl, by decide +kernel, by decide +kernel⟩
abbrev s_row_to : Stmt := topS 18
theorem sc_row_to : FnScope ["sources", "key", "row", "arrival"] ["sources", "key"] (defScope s_row_to) := ⟨rfl, rfl, rfl, by decide +kernel, rfl, by decide +kernel, by decide +kernel⟩
abbrev s__law_draw : Stmt := topS 23
theorem sc__law_draw : FnScope ["script", "town", "many", "one", "at", "mixed"] ["script", "town", "many"] (defScope s__law_draw) := ⟨rfl, rfl, rfl, by decide +kernel, rfl, by decide +kernel, by decide +kernel⟩
abbrev s__law_long : Stmt := topS 29
theorem sc__law_long : FnScope ["row"] ["row"] (defScope s__law_long) := ⟨rfl, rfl, rfl, by decide +kernel, rfl, by decide +kernel, by decide +kernel⟩
abbrev s_are_counts : Stmt := topS 6
theorem sc_are_counts : FnScope ["value", "least", "most", "long", "one"] ["value", "least", "most", "long"] (defScope s_are_counts) := ⟨rfl, rfl, rfl, by decide +kernel, rfl, by decide +kernel, by decide +kernel⟩
abbrev s_moved : Stmt := topS 14
theorem sc_moved : FnScope ["desk", "situation", "arrival", "queues", "away", "queue", "age", "line", "pointer"] ["desk", "situation", "arrival"] (defScope s_moved) := ⟨rfl, rfl, rfl, by decide +kernel, rfl, by decide +kernel, by decide +kernel⟩
abbrev s__law_pick : Stmt := topS 24
theorem sc__law_pick : FnScope ["script", "town", "some"] ["script", "town", "some"] (defScope s__law_pick) := ⟨rfl, rfl, rfl, by decide +kernel, rfl, by decide +kernel, by decide +kernel⟩
abbrev s__law_rule : Stmt := topS 25
theorem sc__law_rule : FnScope ["script", "town", "lines", "what", "places", "turned", "slots", "at", "k", "line"] ["script", "town", "lines"] (defScope s__law_rule) := ⟨rfl, rfl, rfl, by decide +kernel, rfl, by decide +kernel, by decide +kernel⟩
abbrev s_is_rule : Stmt := topS 7
theorem sc_is_rule : FnScope ["value", "lines", "word"] ["value", "lines"] (defScope s_is_rule) := ⟨rfl, rfl, rfl, by decide +kernel, rfl, by decide +kernel, by decide +kernel⟩
abbrev s_after : Stmt := topS 17
theorem sc_after : FnScope ["desk", "situation", "arrival", "new", "line", "age", "away"] ["desk", "situation", "arrival"] (defScope s_after) := ⟨rfl, rfl, rfl, by decide +kernel, rfl, by decide +kernel, by decide +kernel⟩
abbrev s__law_desk : Stmt := topS 26
theorem sc__law_desk : FnScope ["script", "town", "lines", "room"] ["script", "town"] (defScope s__law_desk) := ⟨rfl, rfl, rfl, by decide +kernel, rfl, by decide +kernel, by decide +kernel⟩
abbrev s_is_desk : Stmt := topS 8
theorem sc_is_desk : FnScope ["value"] ["value"] (defScope s_is_desk) := ⟨rfl, rfl, rfl, by decide +kernel, rfl, by decide +kernel, by decide +kernel⟩
abbrev s_need_desk : Stmt := topS 9
theorem sc_need_desk : FnScope ["value"] ["value"] (defScope s_need_desk) := ⟨rfl, rfl, rfl, by decide +kernel, rfl, by decide +kernel, by decide +kernel⟩
abbrev s_alike : Stmt := topS 20
theorem sc_alike : FnScope ["desk", "other"] ["desk", "other"] (defScope s_alike) := ⟨rfl, rfl, rfl, by decide +kernel, rfl, by decide +kernel, by decide +kernel⟩
abbrev s_parting : Stmt := topS 21
theorem sc_parting : FnScope ["desk", "other", "start", "sources", "level", "later", "key", "arrival", "one", "two"] ["desk", "other"] (defScope s_parting) := ⟨rfl, rfl, rfl, by decide +kernel, rfl, by decide +kernel, by decide +kernel⟩
abbrev s_law : Stmt := topS 30
theorem sc_law : FnScope ["script", "town", "one", "two", "three", "k", "apart", "far"] ["script"] (defScope s_law) := ⟨rfl, rfl, rfl, by decide +kernel, rfl, by decide +kernel, by decide +kernel⟩
structure Tops (K : PySem.W.Frag) (mg : Str → Option Value) where
  a_is_count : Addr
  fd_is_count : FuncData
  F_is_count : Fun K "is_count" "is_count" s_is_count a_is_count fd_is_count
  b_is_count : Binds K fd_is_count ["value", "least", "most"] []
  g_is_count : mg "is_count" = some (.ref a_is_count)
  a_are_counts : Addr
  fd_are_counts : FuncData
  F_are_counts : Fun K "are_counts" "are_counts" s_are_counts a_are_counts fd_are_counts
  b_are_counts : Binds K fd_are_counts ["value", "least", "most", "long"] []
  g_are_counts : mg "are_counts" = some (.ref a_are_counts)
  a_is_rule : Addr
  fd_is_rule : FuncData
  F_is_rule : Fun K "is_rule" "is_rule" s_is_rule a_is_rule fd_is_rule
  b_is_rule : Binds K fd_is_rule ["value", "lines"] []
  g_is_rule : mg "is_rule" = some (.ref a_is_rule)
  a_is_desk : Addr
  fd_is_desk : FuncData
  F_is_desk : Fun K "is_desk" "is_desk" s_is_desk a_is_desk fd_is_desk
  b_is_desk : Binds K fd_is_desk ["value"] []
  g_is_desk : mg "is_desk" = some (.ref a_is_desk)
  a_need_desk : Addr
  fd_need_desk : FuncData
  F_need_desk : Fun K "need_desk" "need_desk" s_need_desk a_need_desk fd_need_desk
  b_need_desk : Binds K fd_need_desk ["value"] []
  g_need_desk : mg "need_desk" = some (.ref a_need_desk)
  a_arrivals_of : Addr
  fd_arrivals_of : FuncData
  F_arrivals_of : Fun K "arrivals_of" "arrivals_of" s_arrivals_of a_arrivals_of fd_arrivals_of
  b_arrivals_of : Binds K fd_arrivals_of ["desk"] []
  g_arrivals_of : mg "arrivals_of" = some (.ref a_arrivals_of)
  a_start_of : Addr
  fd_start_of : FuncData
  F_start_of : Fun K "start_of" "start_of" s_start_of a_start_of fd_start_of
  b_start_of : Binds K fd_start_of ["desk"] []
  g_start_of : mg "start_of" = some (.ref a_start_of)
  a_chosen : Addr
  fd_chosen : FuncData
  F_chosen : Fun K "chosen" "chosen" s_chosen a_chosen fd_chosen
  b_chosen : Binds K fd_chosen ["desk", "queues", "pointer"] []
  g_chosen : mg "chosen" = some (.ref a_chosen)
  a_moved : Addr
  fd_moved : FuncData
  F_moved : Fun K "moved" "moved" s_moved a_moved fd_moved
  b_moved : Binds K fd_moved ["desk", "situation", "arrival"] []
  g_moved : mg "moved" = some (.ref a_moved)
  a_settled : Addr
  fd_settled : FuncData
  F_settled : Fun K "settled" "settled" s_settled a_settled fd_settled
  b_settled : Binds K fd_settled ["desk", "situation"] []
  g_settled : mg "settled" = some (.ref a_settled)
  a_after : Addr
  fd_after : FuncData
  F_after : Fun K "after" "after" s_after a_after fd_after
  b_after : Binds K fd_after ["desk", "situation", "arrival"] []
  g_after : mg "after" = some (.ref a_after)
  a_row_to : Addr
  fd_row_to : FuncData
  F_row_to : Fun K "row_to" "row_to" s_row_to a_row_to fd_row_to
  b_row_to : Binds K fd_row_to ["sources", "key"] []
  g_row_to : mg "row_to" = some (.ref a_row_to)
  a_alike : Addr
  fd_alike : FuncData
  F_alike : Fun K "alike" "alike" s_alike a_alike fd_alike
  b_alike : Binds K fd_alike ["desk", "other"] []
  g_alike : mg "alike" = some (.ref a_alike)
  a_parting : Addr
  fd_parting : FuncData
  F_parting : Fun K "parting" "parting" s_parting a_parting fd_parting
  b_parting : Binds K fd_parting ["desk", "other"] []
  g_parting : mg "parting" = some (.ref a_parting)
  a__law_draw : Addr
  fd__law_draw : FuncData
  F__law_draw : Fun K "_law_draw" "_law_draw" s__law_draw a__law_draw fd__law_draw
  b__law_draw : Binds K fd__law_draw ["script", "town", "many"] []
  g__law_draw : mg "_law_draw" = some (.ref a__law_draw)
  a__law_pick : Addr
  fd__law_pick : FuncData
  F__law_pick : Fun K "_law_pick" "_law_pick" s__law_pick a__law_pick fd__law_pick
  b__law_pick : Binds K fd__law_pick ["script", "town", "some"] []
  g__law_pick : mg "_law_pick" = some (.ref a__law_pick)
  a__law_rule : Addr
  fd__law_rule : FuncData
  F__law_rule : Fun K "_law_rule" "_law_rule" s__law_rule a__law_rule fd__law_rule
  b__law_rule : Binds K fd__law_rule ["script", "town", "lines"] []
  g__law_rule : mg "_law_rule" = some (.ref a__law_rule)
  a__law_desk : Addr
  fd__law_desk : FuncData
  F__law_desk : Fun K "_law_desk" "_law_desk" s__law_desk a__law_desk fd__law_desk
  b__law_desk : Binds K fd__law_desk ["script", "town"] []
  g__law_desk : mg "_law_desk" = some (.ref a__law_desk)
  a__law_long : Addr
  fd__law_long : FuncData
  F__law_long : Fun K "_law_long" "_law_long" s__law_long a__law_long fd__law_long
  b__law_long : Binds K fd__law_long ["row"] []
  g__law_long : mg "_law_long" = some (.ref a__law_long)
  a_law : Addr
  fd_law : FuncData
  F_law : Fun K "law" "law" s_law a_law fd_law
  b_law : Binds K fd_law ["script"] []
  g_law : mg "law" = some (.ref a_law)
  z_isinstance : mg "isinstance" = none
  z_int : mg "int" = none
  z_bool : mg "bool" = none
  z_range : mg "range" = none
  z_len : mg "len" = none
  z_max : mg "max" = none
  z_tuple : mg "tuple" = none
  z_list : mg "list" = none
  z_sum : mg "sum" = none
  z_sorted : mg "sorted" = none
  z_set : mg "set" = none
  z_all : mg "all" = none
  z_str : mg "str" = none
theorem hu65 {k : Nat} {A : Around} (hr : Room k A) : A.units + 65 < cLine := by have := hr.un; omega
section
variable {P : Program} {w : World} {K : PySem.W.Frag} {mg : Str → Option Value} {base : Heap}
set_option maxHeartbeats 4000000
theorem ok_is_count (T : Tops K mg) : FnOk P w K mg base CX0 1 T.a_is_count T.fd_is_count ["value", "least", "most"] (spP ⟨K, P, w⟩ 3 m_is_count) :=
  fn_pure (k := 0) T.F_is_count sc_is_count rfl fun cdv A outer s H E hr => show PBd _ _ f_is_count from
    (b_one (s_ret (d_and (d_isi .int (by rfl) T.z_isinstance (by rfl) T.z_int (by decide +kernel) (d_name 0) (by decide) (by decide)) (d_and (d_not (d_isi .bool (by rfl) T.z_isinstance (by rfl) T.z_bool (by decide +kernel) (d_name 0) (by decide) (by decide))) (d_one (d_chain (d_name 1) (d_name 0) (d_name 2)))))))
theorem ok_arrivals_of (T : Tops K mg) : FnOk P w K mg base CX0 1 T.a_arrivals_of T.fd_arrivals_of ["desk"] (spP ⟨K, P, w⟩ 1 m_arrivals_of) :=
  fn_pure (k := 0) T.F_arrivals_of sc_arrivals_of rfl fun cdv A outer s H E hr => show PBd _ _ f_arrivals_of from
    (b_cons (s_set false (i := 1) sc_arrivals_of.nd rfl (by first | exact .inl rfl | exact .inr rfl) (d_lst (a_cons (d_tup a_nil) a_nil)))
    (b_cons (s_for PassesOwn.never rfl (i_range (by rfl) T.z_range (d_ix (d_name 0) d_int)) (g_name (i := 2) sc_arrivals_of.nd rfl (by first | exact .inl rfl | exact .inr rfl)) (show PBd _ _ l_arrivals_of_0 from (b_one (s_expr (d_extend (d_name 1) (show PEd _ _ c_arrivals_of_0 from (d_lcO 1 rfl (by first | exact Or.inl rfl | exact Or.inr (Or.inl rfl) | exact Or.inr (Or.inr rfl)) (by decide) (by decide) rfl sc_arrivals_of.nd (own := [("arrival", 3)]) (blkOk_by rfl) (fun _ _ _ _ _ => (g_name (i := 3) sc_arrivals_of.nd rfl (by first | exact .inl rfl | exact .inr rfl))) (fun _ _ _ _ _ => ts_nil) (fun _ _ _ _ _ => (d_add (d_name 3) (d_tup (a_cons (d_name 2) a_nil)))))))))))
    (b_one (s_ret (d_name 1)))))
theorem ok_start_of (T : Tops K mg) : FnOk P w K mg base CX0 1 T.a_start_of T.fd_start_of ["desk"] (spP ⟨K, P, w⟩ 1 m_start_of) :=
  fn_pure (k := 0) T.F_start_of sc_start_of rfl fun cdv A outer s H E hr => show PBd _ _ f_start_of from
    (b_one (s_ret (d_tup (a_cons (d_mul (d_tup (a_cons (d_tup a_nil) a_nil)) (d_ix (d_name 0) d_int)) (a_cons (d_if (t_eq hr.units (d_ix (d_ix (d_name 0) d_int) d_int) d_str) (d_sub (d_ix (d_name 0) d_int) d_int) d_int) a_nil)))))
theorem ok_chosen (T : Tops K mg) : FnOk P w K mg base CX0 1 T.a_chosen T.fd_chosen ["desk", "queues", "pointer"] (spP ⟨K, P, w⟩ 3 m_chosen) :=
  fn_pure (k := 0) T.F_chosen sc_chosen rfl fun cdv A outer s H E hr => show PBd _ _ f_chosen from
    (b_cons (s_parC2 (fr1 := true) (fr2 := true) (i := 3) (j := 4) rfl sc_chosen.nd rfl rfl (a_cons (d_ix (d_ix (d_name 0) d_int) d_int) (a_cons (show PEd _ _ c_chosen_0 from (d_lc rfl sc_chosen.nd (i_range (by rfl) T.z_range (d_ix (d_name 0) d_int)) (own := [("line", 5)]) (blkOk_by rfl) (fun _ _ _ _ _ => (g_name (i := 5) sc_chosen.nd rfl (by first | exact .inl rfl | exact .inr rfl))) (fun _ _ _ _ _ => (ts_one (t_ne hr.units (d_ix (d_name 1) (d_name 5)) (d_tup a_nil)))) (fun _ _ _ _ _ => (d_name 5)))) a_nil)) (pg_name (i := 3) sc_chosen.nd rfl (by first | exact .inl rfl | exact .inr rfl)) (pg_name (i := 4) sc_chosen.nd rfl (by first | exact .inl rfl | exact .inr rfl)))
    (b_cons (s_if (t_eq hr.units (d_name 4) (d_lst a_nil)) (b_one (s_ret (d_tup (a_cons d_non (a_cons (d_name 2) a_nil))))) b_nil)
    (b_cons (s_if (t_eq hr.units (d_name 3) d_str) (b_one (s_ret (d_tup (a_cons (d_ix (show PEd _ _ c_chosen_1 from (d_lc rfl sc_chosen.nd (i_src (d_ix (d_ix (d_name 0) d_int) d_int)) (own := [("line", 5)]) (blkOk_by rfl) (fun _ _ _ _ _ => (g_name (i := 5) sc_chosen.nd rfl (by first | exact .inl rfl | exact .inr rfl))) (fun _ _ _ _ _ => (ts_one (t_in (hu65 hr) (d_name 5) (d_name 4)))) (fun _ _ _ _ _ => (d_name 5)))) d_int) (a_cons (d_name 2) a_nil))))) b_nil)
    (b_cons (s_if (t_eq hr.units (d_name 3) d_str) (b_cons (show PSd _ _ (sSet true 6 c_chosen_2) from s_setLc true (i := 6) rfl sc_chosen.nd rfl rfl (sw_true rfl rfl rfl rfl) (i_range (by rfl) T.z_range (d_ix (d_name 0) d_int)) (own := [("step", 7)]) (blkOk_by rfl) (fun _ _ _ _ _ => (g_name (i := 7) sc_chosen.nd rfl (by first | exact .inl rfl | exact .inr rfl))) (fun _ _ _ _ _ => ts_nil) (fun _ _ _ _ _ => (d_mod (d_add (d_add (d_name 2) d_int) (d_name 7)) (d_ix (d_name 0) d_int))))
    (b_cons (s_set true (i := 5) sc_chosen.nd rfl (by first | exact .inl rfl | exact .inr rfl) (d_ix (show PEd _ _ c_chosen_3 from (d_lc rfl sc_chosen.nd (i_src (d_name 6)) (own := [("one", 8)]) (blkOk_by rfl) (fun _ _ _ _ _ => (g_name (i := 8) sc_chosen.nd rfl (by first | exact .inl rfl | exact .inr rfl))) (fun _ _ _ _ _ => (ts_one (t_in (hu65 hr) (d_name 8) (d_name 4)))) (fun _ _ _ _ _ => (d_name 8)))) d_int))
    (b_one (s_ret (d_tup (a_cons (d_name 5) (a_cons (d_name 5) a_nil))))))) b_nil)
    (b_cons (s_if (t_eq hr.units (d_name 3) d_str) (b_cons (s_set true (i := 9) sc_chosen.nd rfl (by first | exact .inl rfl | exact .inr rfl) (d_ix (d_ix (d_name 0) d_int) d_int))
    (b_cons (show PSd _ _ (sSet true 6 c_chosen_4) from s_setLc true (i := 6) rfl sc_chosen.nd rfl rfl (sw_true rfl rfl rfl rfl) (i_range (by rfl) T.z_range (d_len (by rfl) T.z_len (d_name 9))) (own := [("step", 7)]) (blkOk_by rfl) (fun _ _ _ _ _ => (g_name (i := 7) sc_chosen.nd rfl (by first | exact .inl rfl | exact .inr rfl))) (fun _ _ _ _ _ => ts_nil) (fun _ _ _ _ _ => (d_mod (d_add (d_name 2) (d_name 7)) (d_len (by rfl) T.z_len (d_name 9)))))
    (b_cons (s_set true (i := 10) sc_chosen.nd rfl (by first | exact .inl rfl | exact .inr rfl) (d_ix (show PEd _ _ c_chosen_5 from (d_lc rfl sc_chosen.nd (i_src (d_name 6)) (own := [("one", 8)]) (blkOk_by rfl) (fun _ _ _ _ _ => (g_name (i := 8) sc_chosen.nd rfl (by first | exact .inl rfl | exact .inr rfl))) (fun _ _ _ _ _ => (ts_one (t_in (hu65 hr) (d_ix (d_name 9) (d_name 8)) (d_name 4)))) (fun _ _ _ _ _ => (d_name 8)))) d_int))
    (b_one (s_ret (d_tup (a_cons (d_ix (d_name 9) (d_name 10)) (a_cons (d_mod (d_add (d_name 10) d_int) (d_len (by rfl) T.z_len (d_name 9))) a_nil)))))))) b_nil)
    (b_cons (s_if (t_eq hr.units (d_name 3) d_str) (b_one (s_ret (d_tup (a_cons (d_mul (d_ix (d_max rfl hr.units (by rfl) T.z_max (show PEd _ _ c_chosen_6 from (d_lc rfl sc_chosen.nd (i_src (d_name 4)) (own := [("line", 5)]) (blkOk_by rfl) (fun _ _ _ _ _ => (g_name (i := 5) sc_chosen.nd rfl (by first | exact .inl rfl | exact .inr rfl))) (fun _ _ _ _ _ => ts_nil) (fun _ _ _ _ _ => (d_tup (a_cons (d_len (by rfl) T.z_len (d_ix (d_name 1) (d_name 5))) (a_cons (d_neg (d_name 5)) a_nil))))))) d_int) (d_neg d_int)) (a_cons (d_name 2) a_nil))))) b_nil)
    (b_cons (s_set true (i := 11) sc_chosen.nd rfl (by first | exact .inl rfl | exact .inr rfl) (d_if (t_eq hr.units (d_name 3) d_str) (d_ix (d_ix (d_name 0) d_int) d_int) (d_mul (d_tup (a_cons d_int a_nil)) (d_ix (d_name 0) d_int))))
    (b_one (s_ret (d_tup (a_cons (d_mul (d_ix (d_max rfl hr.units (by rfl) T.z_max (show PEd _ _ c_chosen_7 from (d_lc rfl sc_chosen.nd (i_src (d_name 4)) (own := [("line", 5)]) (blkOk_by rfl) (fun _ _ _ _ _ => (g_name (i := 5) sc_chosen.nd rfl (by first | exact .inl rfl | exact .inr rfl))) (fun _ _ _ _ _ => ts_nil) (fun _ _ _ _ _ => (d_tup (a_cons (d_add (d_ix (d_name 11) (d_name 5)) (d_ix (d_ix (d_name 1) (d_name 5)) d_int)) (a_cons (d_neg (d_name 5)) a_nil))))))) d_int) (d_neg d_int)) (a_cons (d_name 2) a_nil))))))))))))
theorem ok_settled (T : Tops K mg) : FnOk P w K mg base CX0 1 T.a_settled T.fd_settled ["desk", "situation"] (spP ⟨K, P, w⟩ 2 m_settled) :=
  fn_pure (k := 0) T.F_settled sc_settled rfl fun cdv A outer s H E hr => show PBd _ _ f_settled from
    (b_cons (s_unp (d_name 1) (g_tup rfl (gs_cons (g_name (i := 2) sc_settled.nd rfl (by first | exact .inl rfl | exact .inr rfl)) (gs_cons (g_name (i := 3) sc_settled.nd rfl (by first | exact .inl rfl | exact .inr rfl)) gs_nil))))
    (b_cons (s_if (t_eq hr.units (d_ix (d_ix (d_name 0) d_int) d_int) d_str) (b_one (s_ret (d_name 1))) b_nil)
    (b_cons (s_if (t_ne hr.units (d_ix (d_ix (d_name 0) d_int) d_int) d_str) (b_one (s_ret (d_tup (a_cons (d_tuple (by rfl) T.z_tuple (show PEd _ _ c_settled_0 from (d_lc rfl sc_settled.nd (i_src (d_name 2)) (own := [("queue", 4)]) (blkOk_by rfl) (fun _ _ _ _ _ => (g_name (i := 4) sc_settled.nd rfl (by first | exact .inl rfl | exact .inr rfl))) (fun _ _ _ _ _ => ts_nil) (fun _ _ _ _ _ => (d_mulZ (d_tup (a_cons d_int a_nil)) (d_len (by rfl) T.z_len (d_name 4))))))) (a_cons (d_name 3) a_nil))))) b_nil)
    (b_cons (s_set true (i := 5) sc_settled.nd rfl (by first | exact .inl rfl | exact .inr rfl) (d_sortSetL rfl (by rfl) T.z_sorted (by rfl) T.z_set (d_sumL rfl (by rfl) T.z_sum (show PEd _ _ c_settled_1 from (d_lc rfl sc_settled.nd (i_src (d_name 2)) (own := [("queue", 4)]) (blkOk_by rfl) (fun _ _ _ _ _ => (g_name (i := 4) sc_settled.nd rfl (by first | exact .inl rfl | exact .inr rfl))) (fun _ _ _ _ _ => ts_nil) (fun _ _ _ _ _ => (d_list (by rfl) T.z_list (d_name 4))))) (d_lst a_nil))))
    (b_one (s_ret (d_tup (a_cons (d_tuple (by rfl) T.z_tuple (show PEd _ _ c_settled_3 from (d_lc rfl sc_settled.nd (i_src (d_name 2)) (own := [("queue", 4)]) (blkOk_by rfl) (fun _ _ _ _ _ => (g_name (i := 4) sc_settled.nd rfl (by first | exact .inl rfl | exact .inr rfl))) (fun _ _ _ _ _ => ts_nil) (fun _ _ _ _ _ => (d_tuple (by rfl) T.z_tuple (show PEd _ _ c_settled_2 from (d_lc rfl sc_settled.nd (i_src (d_name 4)) (own := [("age", 6)]) (blkOk_by rfl) (fun _ _ _ _ _ => (g_name (i := 6) sc_settled.nd rfl (by first | exact .inl rfl | exact .inr rfl))) (fun _ _ _ _ _ => ts_nil) (fun _ _ _ _ _ => (d_index (d_name 5) (d_name 6)))))))))) (a_cons (d_name 3) a_nil)))))))))
theorem ok_row_to (T : Tops K mg) : FnOk P w K mg base CX0 1 T.a_row_to T.fd_row_to ["sources", "key"] (spP ⟨K, P, w⟩ 2 m_row_to) :=
  fn_pure (k := 0) T.F_row_to sc_row_to rfl fun cdv A outer s H E hr => show PBd _ _ f_row_to from
    (b_cons (s_set false (i := 2) sc_row_to.nd rfl (by first | exact .inl rfl | exact .inr rfl) (d_lst a_nil))
    (b_cons (s_while 1000000000 PassesOwn.never (t_isnot (d_ixN hr.units (r_name 0) (d_name 1)) d_non) (show PBd _ _ l_row_to_0 from (b_cons (s_unp (d_ixN hr.units (r_name 0) (d_name 1)) (g_tup rfl (gs_cons (g_name (i := 1) sc_row_to.nd rfl (by first | exact .inl rfl | exact .inr rfl)) (gs_cons (g_name (i := 3) sc_row_to.nd rfl (by first | exact .inl rfl | exact .inr rfl)) gs_nil))))
    (b_one (s_expr (d_append (d_name 2) (d_name 3)))))))
    (b_one (s_ret (d_rev (d_name 2))))))
theorem ok__law_draw (T : Tops K mg) : FnOk P w K mg base CX0 1 T.a__law_draw T.fd__law_draw ["script", "town", "many"] (spI ⟨K, P, w⟩ 3 1 m__law_draw) :=
  fn_io (k := 0) 1 T.F__law_draw sc__law_draw rfl (by decide) fun cdv A outer s H E hr => show PBd _ _ f__law_draw from
    (b_cons (s_if (t_gt (d_ix (d_name 1) d_int) d_int) (b_cons (s_set true (i := 3) sc__law_draw.nd rfl (by first | exact .inl rfl | exact .inr rfl) (d_mod (d_ix (d_name 1) d_int) (d_name 2)))
    (b_cons (s_setIx (d_div (d_ix (d_name 1) d_int) (d_name 2)) (d_name 1) d_int)
    (b_one (s_ret (d_name 3))))) b_nil)
    (b_cons (s_set true (i := 4) sc__law_draw.nd rfl (by first | exact .inl rfl | exact .inr rfl) (d_ix (d_name 1) d_int))
    (b_cons (s_augIx (sub := false) rfl (d_name 1) d_int d_int)
    (b_cons (s_if (t_eq hr.units (d_name 0) (d_lst a_nil)) (b_one (s_ret (d_mod (d_name 4) (d_name 2)))) b_nil)
    (b_cons (s_if (PW.pt (w_and (t_lt (d_name 4) (d_len (by rfl) T.z_len (d_name 0))) (w_and1 (t_ge (d_ix (d_name 0) (d_name 4)) (d_pow d_int d_int))))) (b_cons (s_setIx (d_mod (d_div (d_ix (d_name 0) (d_name 4)) (d_name 2)) (d_mul (d_pow d_int d_int) (d_pow d_int d_int))) (d_name 1) d_int)
    (b_one (s_ret (d_mod (d_ix (d_name 0) (d_name 4)) (d_name 2))))) b_nil)
    (b_cons (s_set true (i := 5) sc__law_draw.nd rfl (by first | exact .inl rfl | exact .inr rfl) (d_mod (d_add (d_add (d_mul (d_ix (d_name 0) (d_mod (d_name 4) (d_len (by rfl) T.z_len (d_name 0)))) d_int) (d_mul d_int (d_name 4))) d_int) d_int))
    (b_one (s_ret (d_mod (d_mod (d_mod (d_pow (d_name 5) d_int) d_int) d_int) (d_name 2))))))))))
theorem ok__law_long (T : Tops K mg) : FnOk P w K mg base CX0 1 T.a__law_long T.fd__law_long ["row"] (spP ⟨K, P, w⟩ 1 m__law_long) :=
  fn_pure (k := 0) T.F__law_long sc__law_long rfl fun cdv A outer s H E hr => show PBd _ _ f__law_long from
    (b_one (s_ret (d_if (t_is (d_name 0) d_non) d_int (d_len (by rfl) T.z_len (d_name 0)))))
theorem ok_are_counts (T : Tops K mg) : FnOk P w K mg base CX0 2 T.a_are_counts T.fd_are_counts ["value", "least", "most", "long"] (spP ⟨K, P, w⟩ 4 m_are_counts) :=
  fn_pure (k := 1) T.F_are_counts sc_are_counts rfl fun cdv A outer s H E hr => show PBd _ _ f_are_counts from
    (b_one (s_ret (d_and (d_isi .tuple (by rfl) T.z_isinstance (by rfl) T.z_tuple (by decide +kernel) (d_name 0) (by decide) (by decide)) (d_and (d_le (d_len (by rfl) T.z_len (d_name 0)) (d_name 3)) (d_one (d_all rfl (by rfl) T.z_all (show PEd _ _ c_are_counts_0 from (d_lc rfl sc_are_counts.nd (i_src (d_name 0)) (own := [("one", 4)]) (blkOk_by rfl) (fun _ _ _ _ _ => (g_name (i := 4) sc_are_counts.nd rfl (by first | exact .inl rfl | exact .inr rfl))) (fun _ _ _ _ _ => ts_nil) (fun _ _ _ _ _ => (d_call (ok_is_count T) (hr.mono (by decide)) (by rfl) T.g_is_count T.F_is_count.kp T.b_is_count pass0 (p_cons (d_name 4) (p_cons (d_name 1) (p_cons (d_name 2) p_nil)))))))))))))
theorem ok_moved (T : Tops K mg) : FnOk P w K mg base CX0 2 T.a_moved T.fd_moved ["desk", "situation", "arrival"] (spP ⟨K, P, w⟩ 3 m_moved) :=
  fn_pure (k := 1) T.F_moved sc_moved rfl fun cdv A outer s H E hr => show PBd _ _ f_moved from
    (b_cons (s_par (fr1 := false) (fr2 := false) (i := 3) (j := 4) rfl sc_moved.nd rfl rfl (by decide) rfl rfl (a_cons (show PEd _ _ c_moved_1 from (d_lc rfl sc_moved.nd (i_src (d_ix (d_name 1) d_int)) (own := [("queue", 5)]) (blkOk_by rfl) (fun _ _ _ _ _ => (g_name (i := 5) sc_moved.nd rfl (by first | exact .inl rfl | exact .inr rfl))) (fun _ _ _ _ _ => ts_nil) (fun _ _ _ _ _ => (d_tuple (by rfl) T.z_tuple (show PEd _ _ c_moved_0 from (d_lc rfl sc_moved.nd (i_src (d_name 5)) (own := [("age", 6)]) (blkOk_by rfl) (fun _ _ _ _ _ => (g_name (i := 6) sc_moved.nd rfl (by first | exact .inl rfl | exact .inr rfl))) (fun _ _ _ _ _ => ts_nil) (fun _ _ _ _ _ => (d_add (d_name 6) d_int)))))))) (a_cons (d_lst a_nil) a_nil)) rfl)
    (b_cons (s_for PassesOwn.never rfl (i_src (d_name 2)) (g_name (i := 7) sc_moved.nd rfl (by first | exact .inl rfl | exact .inr rfl)) (show PBd _ _ l_moved_0 from (b_one (s_if (t_lt (d_len (by rfl) T.z_len (d_ix (d_name 3) (d_name 7))) (d_ix (d_name 0) d_int)) (b_one (s_setIx (d_add (d_ix (d_name 3) (d_name 7)) (d_tup (a_cons d_int a_nil))) (d_name 3) (d_name 7))) (b_one (s_expr (d_append (d_name 4) (d_name 7))))))))
    (b_cons (s_unp (d_call (ok_chosen T) (hr.mono (by decide)) (by rfl) T.g_chosen T.F_chosen.kp T.b_chosen pass0 (p_cons (d_name 0) (p_cons (d_name 3) (p_cons (d_ix (d_name 1) d_int) p_nil)))) (g_tup rfl (gs_cons (g_name (i := 7) sc_moved.nd rfl (by first | exact .inl rfl | exact .inr rfl)) (gs_cons (g_name (i := 8) sc_moved.nd rfl (by first | exact .inl rfl | exact .inr rfl)) gs_nil))))
    (b_cons (s_set true (i := 6) sc_moved.nd rfl (by first | exact .inl rfl | exact .inr rfl) d_non)
    (b_cons (s_if (t_isnot (d_name 7) d_non) (b_cons (s_set true (i := 6) sc_moved.nd rfl (by first | exact .inl rfl | exact .inr rfl) (d_ix (d_ix (d_name 3) (d_name 7)) d_int))
    (b_one (s_setIx (d_slice (d_ix (d_name 3) (d_name 7)) (o_some d_int) o_none) (d_name 3) (d_name 7)))) b_nil)
    (b_one (s_ret (d_tup (a_cons (d_tup (a_cons (d_tuple (by rfl) T.z_tuple (d_name 3)) (a_cons (d_name 8) a_nil))) (a_cons (d_name 7) (a_cons (d_name 6) (a_cons (d_name 4) a_nil))))))))))))
theorem ok__law_pick (T : Tops K mg) : FnOk P w K mg base CX0 2 T.a__law_pick T.fd__law_pick ["script", "town", "some"] (spI ⟨K, P, w⟩ 3 1 m__law_pick) :=
  fn_io (k := 1) 1 T.F__law_pick sc__law_pick rfl (by decide) fun cdv A outer s H E hr => show PBd _ _ f__law_pick from
    (b_one (s_ret (d_ix (d_name 2) (d_callI (ok__law_draw T) (hr.mono (by decide)) (by rfl) T.g__law_draw T.F__law_draw.kp T.b__law_draw pass0 (p_cons (d_name 0) (p_cons (d_name 1) (p_cons (d_len (by rfl) T.z_len (d_name 2)) p_nil)))))))
theorem ok__law_rule (T : Tops K mg) : FnOk P w K mg base CX0 2 T.a__law_rule T.fd__law_rule ["script", "town", "lines"] (spI ⟨K, P, w⟩ 3 1 m__law_rule) :=
  fn_io (k := 1) 1 T.F__law_rule sc__law_rule rfl (by decide) fun cdv A outer s H E hr => show PBd _ _ f__law_rule from
    (b_cons (s_par (fr1 := true) (fr2 := false) (i := 3) (j := 4) rfl sc__law_rule.nd rfl rfl (by decide) rfl rfl (a_cons (d_callI (ok__law_draw T) (hr.mono (by decide)) (by rfl) T.g__law_draw T.F__law_draw.kp T.b__law_draw pass0 (p_cons (d_name 0) (p_cons (d_name 1) (p_cons d_int p_nil)))) (a_cons (d_listRg rfl (by rfl) T.z_list (by rfl) T.z_range (d_name 2)) a_nil)) rfl)
    (b_cons (s_if (t_eq hr.units (d_name 3) d_int) (b_cons (s_set false (i := 5) sc__law_rule.nd rfl (by first | exact .inl rfl | exact .inr rfl) (d_lst a_nil))
    (b_cons (s_while 4 PassesOwn.never (t_ne hr.units (d_name 4) (d_lst a_nil)) (show PBd _ _ l__law_rule_0 from (b_one (s_expr (d_append (d_name 5) (d_popAt (d_name 4) (d_callI (ok__law_draw T) (hr.mono (by decide)) (by rfl) T.g__law_draw T.F__law_draw.kp T.b__law_draw pass0 (p_cons (d_name 0) (p_cons (d_name 1) (p_cons (d_len (by rfl) T.z_len (d_name 4)) p_nil))))))))))
    (b_one (s_ret (d_tup (a_cons d_str (a_cons (d_tuple (by rfl) T.z_tuple (d_name 5)) a_nil))))))) b_nil)
    (b_cons (s_if (t_eq hr.units (d_name 3) d_int) (b_cons (s_set true (i := 6) sc__law_rule.nd rfl (by first | exact .inl rfl | exact .inr rfl) (d_add (d_name 4) (show PEd _ _ c__law_rule_0 from (d_lc rfl sc__law_rule.nd (i_range (by rfl) T.z_range (d_callI (ok__law_draw T) (hr.mono (by decide)) (by rfl) T.g__law_draw T.F__law_draw.kp T.b__law_draw pass0 (p_cons (d_name 0) (p_cons (d_name 1) (p_cons (d_sub d_int (d_name 2)) p_nil))))) (own := [("k", 8)]) (blkOk_by rfl) (fun _ _ _ _ _ => (g_name (i := 8) sc__law_rule.nd rfl (by first | exact .inl rfl | exact .inr rfl))) (fun _ _ _ _ _ => ts_nil) (fun _ _ _ _ _ => (d_callI (ok__law_draw T) (hr.mono (by decide)) (by rfl) T.g__law_draw T.F__law_draw.kp T.b__law_draw pass0 (p_cons (d_name 0) (p_cons (d_name 1) (p_cons (d_name 2) p_nil)))))))))
    (b_cons (s_set true (i := 7) sc__law_rule.nd rfl (by first | exact .inl rfl | exact .inr rfl) (d_callI (ok__law_draw T) (hr.mono (by decide)) (by rfl) T.g__law_draw T.F__law_draw.kp T.b__law_draw pass0 (p_cons (d_name 0) (p_cons (d_name 1) (p_cons (d_len (by rfl) T.z_len (d_name 6)) p_nil)))))
    (b_one (s_ret (d_tup (a_cons d_str (a_cons (d_tuple (by rfl) T.z_tuple (d_add (d_slice (d_name 6) (o_some (d_name 7)) o_none) (d_slice (d_name 6) o_none (o_some (d_name 7))))) a_nil))))))) b_nil)
    (b_cons (s_if (t_eq hr.units (d_name 3) d_int) (b_one (s_ret (d_tup (a_cons d_str (a_cons (d_tuple (by rfl) T.z_tuple (show PEd _ _ c__law_rule_1 from (d_lcO 4 rfl (by first | exact Or.inl rfl | exact Or.inr (Or.inl rfl) | exact Or.inr (Or.inr rfl)) (by decide) (by decide) rfl sc__law_rule.nd (own := [("line", 9)]) (blkOk_by rfl) (fun _ _ _ _ _ => (g_name (i := 9) sc__law_rule.nd rfl (by first | exact .inl rfl | exact .inr rfl))) (fun _ _ _ _ _ => ts_nil) (fun _ _ _ _ _ => (d_callI (ok__law_draw T) (hr.mono (by decide)) (by rfl) T.g__law_draw T.F__law_draw.kp T.b__law_draw pass0 (p_cons (d_name 0) (p_cons (d_name 1) (p_cons d_int p_nil)))))))) a_nil))))) b_nil)
    (b_one (s_ret (d_tup (a_cons (d_ix (d_lst (a_cons d_str (a_cons d_str (a_cons d_str a_nil)))) (d_sub (d_name 3) d_int)) a_nil))))))))
theorem ok_is_rule (T : Tops K mg) : FnOk P w K mg base CX0 3 T.a_is_rule T.fd_is_rule ["value", "lines"] (spP ⟨K, P, w⟩ 2 m_is_rule) :=
  fn_pure (k := 2) T.F_is_rule sc_is_rule rfl fun cdv A outer s H E hr => show PBd _ _ f_is_rule from
    (b_cons (s_if (PW.pt (w_or (t_not (d_tval (d_isi .tuple (by rfl) T.z_isinstance (by rfl) T.z_tuple (by decide +kernel) (d_name 0) (by decide) (by decide)))) (w_or (t_eq hr.units (d_name 0) (d_tup a_nil)) (w_or1 (t_not (d_tval (d_isi .str (by rfl) T.z_isinstance (by rfl) T.z_str (by decide +kernel) (d_ix (d_name 0) d_int) (by decide) (by decide)))))))) (b_one (s_ret d_bl)) b_nil)
    (b_cons (s_set true (i := 2) sc_is_rule.nd rfl (by first | exact .inl rfl | exact .inr rfl) (d_ix (d_name 0) d_int))
    (b_cons (s_if (t_in (hu65 hr) (d_name 2) (d_tup (a_cons d_str (a_cons d_str (a_cons d_str a_nil))))) (b_one (s_ret (d_eq hr.units (d_len (by rfl) T.z_len (d_name 0)) d_int))) b_nil)
    (b_cons (s_if (PW.pt (w_or (t_notin (hu65 hr) (d_name 2) (d_tup (a_cons d_str (a_cons d_str (a_cons d_str a_nil))))) (w_or1 (t_ne hr.units (d_len (by rfl) T.z_len (d_name 0)) d_int)))) (b_one (s_ret d_bl)) b_nil)
    (b_cons (s_if (t_eq hr.units (d_name 2) d_str) (b_one (s_ret (d_and (d_call (ok_are_counts T) (hr.mono (by decide)) (by rfl) T.g_are_counts T.F_are_counts.kp T.b_are_counts pass0 (p_cons (d_ix (d_name 0) d_int) (p_cons d_int (p_cons d_int (p_cons (d_name 1) p_nil))))) (d_one (d_eq hr.units (d_len (by rfl) T.z_len (d_ix (d_name 0) d_int)) (d_name 1)))))) b_nil)
    (b_cons (s_if (t_not (d_tval (d_call (ok_are_counts T) (hr.mono (by decide)) (by rfl) T.g_are_counts T.F_are_counts.kp T.b_are_counts pass0 (p_cons (d_ix (d_name 0) d_int) (p_cons d_int (p_cons (d_sub (d_name 1) d_int) (p_cons (d_if (t_eq hr.units (d_name 2) d_str) (d_name 1) d_int) p_nil))))))) (b_one (s_ret d_bl)) b_nil)
    (b_one (s_ret (d_eq hr.units (d_lenSet rfl (by rfl) T.z_len (by rfl) T.z_set (d_ix (d_name 0) d_int)) (d_name 1))))))))))
theorem ok_after (T : Tops K mg) : FnOk P w K mg base CX0 3 T.a_after T.fd_after ["desk", "situation", "arrival"] (spP ⟨K, P, w⟩ 3 m_after) :=
  fn_pure (k := 2) T.F_after sc_after rfl fun cdv A outer s H E hr => show PBd _ _ f_after from
    (b_cons (s_unp (d_call (ok_moved T) (hr.mono (by decide)) (by rfl) T.g_moved T.F_moved.kp T.b_moved pass0 (p_cons (d_name 0) (p_cons (d_name 1) (p_cons (d_name 2) p_nil)))) (g_tup rfl (gs_cons (g_name (i := 3) sc_after.nd rfl (by first | exact .inl rfl | exact .inr rfl)) (gs_cons (g_name (i := 4) sc_after.nd rfl (by first | exact .inl rfl | exact .inr rfl)) (gs_cons (g_name (i := 5) sc_after.nd rfl (by first | exact .inl rfl | exact .inr rfl)) (gs_cons (g_name (i := 6) sc_after.nd rfl (by first | exact .inl rfl | exact .inr rfl)) gs_nil))))))
    (b_one (s_ret (d_tup (a_cons (d_call (ok_settled T) (hr.mono (by decide)) (by rfl) T.g_settled T.F_settled.kp T.b_settled pass0 (p_cons (d_name 0) (p_cons (d_name 3) p_nil))) (a_cons (d_name 4) (a_cons (d_name 6) a_nil)))))))
theorem ok__law_desk (T : Tops K mg) : FnOk P w K mg base CX0 3 T.a__law_desk T.fd__law_desk ["script", "town"] (spI ⟨K, P, w⟩ 2 1 m__law_desk) :=
  fn_io (k := 2) 1 T.F__law_desk sc__law_desk rfl (by decide) fun cdv A outer s H E hr => show PBd _ _ f__law_desk from
    (b_cons (s_unp (d_callI (ok__law_pick T) (hr.mono (by decide)) (by rfl) T.g__law_pick T.F__law_pick.kp T.b__law_pick pass0 (p_cons (d_name 0) (p_cons (d_name 1) (p_cons (d_lst (a_cons (d_tup (a_cons d_int (a_cons d_int a_nil))) (a_cons (d_tup (a_cons d_int (a_cons d_int a_nil))) (a_cons (d_tup (a_cons d_int (a_cons d_int a_nil))) (a_cons (d_tup (a_cons d_int (a_cons d_int a_nil))) (a_cons (d_tup (a_cons d_int (a_cons d_int a_nil))) (a_cons (d_tup (a_cons d_int (a_cons d_int a_nil))) a_nil))))))) p_nil)))) (g_tup rfl (gs_cons (g_name (i := 2) sc__law_desk.nd rfl (by first | exact .inl rfl | exact .inr rfl)) (gs_cons (g_name (i := 3) sc__law_desk.nd rfl (by first | exact .inl rfl | exact .inr rfl)) gs_nil))))
    (b_one (s_ret (d_tup (a_cons (d_name 2) (a_cons (d_name 3) (a_cons (d_callI (ok__law_rule T) (hr.mono (by decide)) (by rfl) T.g__law_rule T.F__law_rule.kp T.b__law_rule pass0 (p_cons (d_name 0) (p_cons (d_name 1) (p_cons (d_name 2) p_nil)))) a_nil)))))))
theorem ok_is_desk (T : Tops K mg) : FnOk P w K mg base CX0 4 T.a_is_desk T.fd_is_desk ["value"] (spP ⟨K, P, w⟩ 1 m_is_desk) :=
  fn_pure (k := 3) T.F_is_desk sc_is_desk rfl fun cdv A outer s H E hr => show PBd _ _ f_is_desk from
    (b_cons (s_if (PW.pt (w_or (t_not (d_tval (d_isi .tuple (by rfl) T.z_isinstance (by rfl) T.z_tuple (by decide +kernel) (d_name 0) (by decide) (by decide)))) (w_or (t_ne hr.units (d_len (by rfl) T.z_len (d_name 0)) d_int) (w_or (t_not (d_tval (d_call (ok_is_count T) (hr.mono (by decide)) (by rfl) T.g_is_count T.F_is_count.kp T.b_is_count pass0 (p_cons (d_ix (d_name 0) d_int) (p_cons d_int (p_cons d_int p_nil)))))) (w_or1 (t_not (d_tval (d_call (ok_is_count T) (hr.mono (by decide)) (by rfl) T.g_is_count T.F_is_count.kp T.b_is_count pass0 (p_cons (d_ix (d_name 0) d_int) (p_cons d_int (p_cons d_int p_nil))))))))))) (b_one (s_ret d_bl)) b_nil)
    (b_one (s_ret (d_and (d_le (d_mul (d_ix (d_name 0) d_int) (d_ix (d_name 0) d_int)) d_int) (d_one (d_call (ok_is_rule T) (hr.mono (by decide)) (by rfl) T.g_is_rule T.F_is_rule.kp T.b_is_rule pass0 (p_cons (d_ix (d_name 0) d_int) (p_cons (d_ix (d_name 0) d_int) p_nil))))))))
theorem ok_need_desk (T : Tops K mg) : FnOk P w K mg base CX0 5 T.a_need_desk T.fd_need_desk ["value"] (spP ⟨K, P, w⟩ 1 m_need_desk) :=
  fn_pure (k := 4) T.F_need_desk sc_need_desk rfl fun cdv A outer s H E hr => show PBd _ _ f_need_desk from
    (b_one (s_if (t_not (d_tval (d_call (ok_is_desk T) (hr.mono (by decide)) (by rfl) T.g_is_desk T.F_is_desk.kp T.b_is_desk pass0 (p_cons (d_name 0) p_nil)))) (b_one s_never) b_nil))
theorem ok_alike (T : Tops K mg) : FnOk P w K mg base CX0 6 T.a_alike T.fd_alike ["desk", "other"] (spP ⟨K, P, w⟩ 2 m_alike) :=
  fn_pure (k := 5) T.F_alike sc_alike rfl fun cdv A outer s H E hr => show PBd _ _ f_alike from
    (b_cons (s_expr (d_call (ok_need_desk T) (hr.mono (by decide)) (by rfl) T.g_need_desk T.F_need_desk.kp T.b_need_desk pass0 (p_cons (d_name 0) p_nil)))
    (b_cons (s_expr (d_call (ok_need_desk T) (hr.mono (by decide)) (by rfl) T.g_need_desk T.F_need_desk.kp T.b_need_desk pass0 (p_cons (d_name 1) p_nil)))
    (b_one (s_ret (d_eq hr.units (d_slice (d_name 0) o_none (o_some d_int)) (d_slice (d_name 1) o_none (o_some d_int)))))))
theorem ok_parting (T : Tops K mg) : FnOk P w K mg base CX0 7 T.a_parting T.fd_parting ["desk", "other"] (spP ⟨K, P, w⟩ 2 m_parting) :=
  fn_pure (k := 6) T.F_parting sc_parting rfl fun cdv A outer s H E hr => show PBd _ _ f_parting from
    (b_cons (s_if (t_not (d_tval (d_call (ok_alike T) (hr.mono (by decide)) (by rfl) T.g_alike T.F_alike.kp T.b_alike pass0 (p_cons (d_name 0) (p_cons (d_name 1) p_nil))))) (b_one s_never) b_nil)
    (b_cons (s_set true (i := 2) sc_parting.nd rfl (by first | exact .inl rfl | exact .inr rfl) (d_tup (a_cons (d_call (ok_settled T) (hr.mono (by decide)) (by rfl) T.g_settled T.F_settled.kp T.b_settled pass0 (p_cons (d_name 0) (p_cons (d_call (ok_start_of T) (hr.mono (by decide)) (by rfl) T.g_start_of T.F_start_of.kp T.b_start_of pass0 (p_cons (d_name 0) p_nil)) p_nil))) (a_cons (d_call (ok_settled T) (hr.mono (by decide)) (by rfl) T.g_settled T.F_settled.kp T.b_settled pass0 (p_cons (d_name 1) (p_cons (d_call (ok_start_of T) (hr.mono (by decide)) (by rfl) T.g_start_of T.F_start_of.kp T.b_start_of pass0 (p_cons (d_name 1) p_nil)) p_nil))) a_nil))))
    (b_cons (s_par (fr1 := false) (fr2 := true) (i := 3) (j := 4) rfl sc_parting.nd rfl rfl (by decide) rfl rfl (a_cons (d_disp1 hr.units (d_name 2) d_non) (a_cons (d_lst (a_cons (d_name 2) a_nil)) a_nil)) rfl)
    (b_cons (s_while 1000000000 PassesOwn.never (t_ne hr.units (d_name 4) (d_lst a_nil)) (show PBd _ _ l_parting_2 from (b_cons (s_set false (i := 5) sc_parting.nd rfl (by first | exact .inl rfl | exact .inr rfl) (d_lst a_nil))
    (b_cons (s_for PassesOwn.never rfl (i_src (d_name 4)) (g_name (i := 6) sc_parting.nd rfl (by first | exact .inl rfl | exact .inr rfl)) (show PBd _ _ l_parting_1 from (b_one (s_for PassesOwn.never rfl (i_src (d_call (ok_arrivals_of T) (hr.mono (by decide)) (by rfl) T.g_arrivals_of T.F_arrivals_of.kp T.b_arrivals_of pass0 (p_cons (d_name 0) p_nil))) (g_name (i := 7) sc_parting.nd rfl (by first | exact .inl rfl | exact .inr rfl)) (show PBd _ _ l_parting_0 from (b_cons (s_par (fr1 := true) (fr2 := true) (i := 8) (j := 9) rfl sc_parting.nd rfl rfl (by decide) rfl rfl (a_cons (d_call (ok_after T) (hr.mono (by decide)) (by rfl) T.g_after T.F_after.kp T.b_after pass0 (p_cons (d_name 0) (p_cons (d_ix (d_name 6) d_int) (p_cons (d_name 7) p_nil)))) (a_cons (d_call (ok_after T) (hr.mono (by decide)) (by rfl) T.g_after T.F_after.kp T.b_after pass0 (p_cons (d_name 1) (p_cons (d_ix (d_name 6) d_int) (p_cons (d_name 7) p_nil)))) a_nil)) rfl)
    (b_cons (s_if (t_ne hr.units (d_ix (d_name 8) d_int) (d_ix (d_name 9) d_int)) (b_one (s_ret (d_add (d_call (ok_row_to T) (hr.mono (by decide)) (by rfl) T.g_row_to T.F_row_to.kp T.b_row_to pass0 (p_cons (d_name 3) (p_cons (d_name 6) p_nil))) (d_lst (a_cons (d_name 7) a_nil))))) b_nil)
    (b_one (s_if (t_notinN hr.units (d_tup (a_cons (d_ix (d_name 8) d_int) (a_cons (d_ix (d_name 9) d_int) a_nil))) (r_name 3)) (b_cons (s_setKey hr.units (d_tup (a_cons (d_name 6) (a_cons (d_name 7) a_nil))) (l_name 3) (d_tup (a_cons (d_ix (d_name 8) d_int) (a_cons (d_ix (d_name 9) d_int) a_nil))))
    (b_one (s_expr (d_append (d_name 5) (d_tup (a_cons (d_ix (d_name 8) d_int) (a_cons (d_ix (d_name 9) d_int) a_nil))))))) b_nil)))))))))
    (b_one (s_set true (i := 4) sc_parting.nd rfl (by first | exact .inl rfl | exact .inr rfl) (d_name 5)))))))
    (b_one (s_ret d_non))))))
theorem ok_law (T : Tops K mg) : FnOk P w K mg base CX0 8 T.a_law T.fd_law ["script"] (spP ⟨K, P, w⟩ 1 m_law) :=
  fn_pure (k := 7) T.F_law sc_law rfl fun cdv A outer s H E hr => show PBd _ _ f_law from
    (b_cons (s_set false (i := 1) sc_law.nd rfl (by first | exact .inl rfl | exact .inr rfl) (d_lst (a_cons d_int (a_cons d_int a_nil))))
    (b_cons (s_set true (i := 2) sc_law.nd rfl (by first | exact .inl rfl | exact .inr rfl) (d_callI (ok__law_desk T) (hr.mono (by decide)) (by rfl) T.g__law_desk T.F__law_desk.kp T.b__law_desk pass0 (p_cons (d_name 0) (p_cons (d_name 1) p_nil))))
    (b_cons (s_unpL rfl (show PEd _ _ c_law_0 from (d_lc rfl sc_law.nd (i_range (by rfl) T.z_range d_int) (own := [("k", 5)]) (blkOk_by rfl) (fun _ _ _ _ _ => (g_name (i := 5) sc_law.nd rfl (by first | exact .inl rfl | exact .inr rfl))) (fun _ _ _ _ _ => ts_nil) (fun _ _ _ _ _ => (d_add (d_slice (d_name 2) o_none (o_some d_int)) (d_tup (a_cons (d_callI (ok__law_rule T) (hr.mono (by decide)) (by rfl) T.g__law_rule T.F__law_rule.kp T.b__law_rule pass0 (p_cons (d_name 0) (p_cons (d_name 1) (p_cons (d_ix (d_name 2) d_int) p_nil)))) a_nil)))))) (gs_cons (g_name (i := 3) sc_law.nd rfl (by first | exact .inl rfl | exact .inr rfl)) (gs_cons (g_name (i := 4) sc_law.nd rfl (by first | exact .inl rfl | exact .inr rfl)) gs_nil)))
    (b_cons (s_if (PW.pt (w_or (t_isnot (d_call (ok_alike T) (hr.mono (by decide)) (by rfl) T.g_alike T.F_alike.kp T.b_alike pass0 (p_cons (d_name 2) (p_cons (d_name 3) p_nil))) d_bl) (w_or1 (t_isnot (d_call (ok_alike T) (hr.mono (by decide)) (by rfl) T.g_alike T.F_alike.kp T.b_alike pass0 (p_cons (d_name 3) (p_cons (d_name 4) p_nil))) d_bl)))) (b_one (s_ret d_bl)) b_nil)
    (b_cons (s_set true (i := 6) sc_law.nd rfl (by first | exact .inl rfl | exact .inr rfl) (d_sorted (by rfl) T.z_sorted (d_lst (a_cons (d_call (ok__law_long T) (hr.mono (by decide)) (by rfl) T.g__law_long T.F__law_long.kp T.b__law_long pass0 (p_cons (d_call (ok_parting T) (hr.mono (by decide)) (by rfl) T.g_parting T.F_parting.kp T.b_parting pass0 (p_cons (d_name 2) (p_cons (d_name 3) p_nil))) p_nil)) (a_cons (d_call (ok__law_long T) (hr.mono (by decide)) (by rfl) T.g__law_long T.F__law_long.kp T.b__law_long pass0 (p_cons (d_call (ok_parting T) (hr.mono (by decide)) (by rfl) T.g_parting T.F_parting.kp T.b_parting pass0 (p_cons (d_name 3) (p_cons (d_name 4) p_nil))) p_nil)) (a_cons (d_call (ok__law_long T) (hr.mono (by decide)) (by rfl) T.g__law_long T.F__law_long.kp T.b__law_long pass0 (p_cons (d_call (ok_parting T) (hr.mono (by decide)) (by rfl) T.g_parting T.F_parting.kp T.b_parting pass0 (p_cons (d_name 2) (p_cons (d_name 4) p_nil))) p_nil)) a_nil))))))
    (b_cons (s_if (t_ne hr.units (d_ix (d_name 6) d_int) (d_ix (d_name 6) d_int)) (b_one (s_ret d_bl)) b_nil)
    (b_cons (s_set true (i := 7) sc_law.nd rfl (by first | exact .inl rfl | exact .inr rfl) (d_tup (a_cons (d_ix (d_name 2) d_int) (a_cons (d_if (t_gt (d_ix (d_name 2) d_int) d_int) d_int d_int) (a_cons (d_ix (d_name 2) d_int) a_nil)))))
    (b_one (s_ret (d_and (d_is (d_call (ok_alike T) (hr.mono (by decide)) (by rfl) T.g_alike T.F_alike.kp T.b_alike pass0 (p_cons (d_name 2) (p_cons (d_name 7) p_nil))) d_bl) (d_one (d_is (d_call (ok_alike T) (hr.mono (by decide)) (by rfl) T.g_alike T.F_alike.kp T.b_alike pass0 (p_cons (d_name 7) (p_cons (d_name 2) p_nil))) d_bl))))))))))))
end
set_option maxHeartbeats 4000000 in
theorem all_mk {P : Program} {w : World} {K : PySem.W.Frag} {h : Heap} {mg : Str → Option Value} {fa : Addr} (X : K.In h) (G : h.Ns mainGlobals mg) (hfa : mg "law" = some (.ref fa))
    {f0 : Addr} {od0 an0 : Option Addr} {sl0 : Array (Option Value)} {oc0 kV0 dc0 pm0 cd0 ct0 : Value}
    {f1 : Addr} {od1 an1 : Option Addr} {sl1 : Array (Option Value)} {oc1 kV1 dc1 pm1 cd1 ct1 : Value}
    {f2 : Addr} {od2 an2 : Option Addr} {sl2 : Array (Option Value)} {oc2 kV2 dc2 pm2 cd2 ct2 : Value}
    {f3 : Addr} {od3 an3 : Option Addr} {sl3 : Array (Option Value)} {oc3 kV3 dc3 pm3 cd3 ct3 : Value}
    {f4 : Addr} {od4 an4 : Option Addr} {sl4 : Array (Option Value)} {oc4 kV4 dc4 pm4 cd4 ct4 : Value}
    {f5 : Addr} {od5 an5 : Option Addr} {sl5 : Array (Option Value)} {oc5 kV5 dc5 pm5 cd5 ct5 : Value}
    {f6 : Addr} {od6 an6 : Option Addr} {sl6 : Array (Option Value)} {oc6 kV6 dc6 pm6 cd6 ct6 : Value}
    {f7 : Addr} {od7 an7 : Option Addr} {sl7 : Array (Option Value)} {oc7 kV7 dc7 pm7 cd7 ct7 : Value}
    {f8 : Addr} {od8 an8 : Option Addr} {sl8 : Array (Option Value)} {oc8 kV8 dc8 pm8 cd8 ct8 : Value}
    {f9 : Addr} {od9 an9 : Option Addr} {sl9 : Array (Option Value)} {oc9 kV9 dc9 pm9 cd9 ct9 : Value}
    {f10 : Addr} {od10 an10 : Option Addr} {sl10 : Array (Option Value)} {oc10 kV10 dc10 pm10 cd10 ct10 : Value}
    {f11 : Addr} {od11 an11 : Option Addr} {sl11 : Array (Option Value)} {oc11 kV11 dc11 pm11 cd11 ct11 : Value}
    {f12 : Addr} {od12 an12 : Option Addr} {sl12 : Array (Option Value)} {oc12 kV12 dc12 pm12 cd12 ct12 : Value}
    {f13 : Addr} {od13 an13 : Option Addr} {sl13 : Array (Option Value)} {oc13 kV13 dc13 pm13 cd13 ct13 : Value}
    {f14 : Addr} {od14 an14 : Option Addr} {sl14 : Array (Option Value)} {oc14 kV14 dc14 pm14 cd14 ct14 : Value}
    {f15 : Addr} {od15 an15 : Option Addr} {sl15 : Array (Option Value)} {oc15 kV15 dc15 pm15 cd15 ct15 : Value}
    {f16 : Addr} {od16 an16 : Option Addr} {sl16 : Array (Option Value)} {oc16 kV16 dc16 pm16 cd16 ct16 : Value}
    {f17 : Addr} {od17 an17 : Option Addr} {sl17 : Array (Option Value)} {oc17 kV17 dc17 pm17 cd17 ct17 : Value}
    {f18 : Addr} {od18 an18 : Option Addr} {sl18 : Array (Option Value)} {oc18 kV18 dc18 pm18 cd18 ct18 : Value}
    {f19 : Addr} {od19 an19 : Option Addr} {sl19 : Array (Option Value)} {oc19 kV19 dc19 pm19 cd19 ct19 : Value}
    (a0 : PySem.W.nsIn K mainGlobals "is_count" = some (some (.ref f0))) (l0 : K.lookup f0 = some ⟨oc0, od0, .func (PySem.W.fnOf "is_count" "is_count" (defArgs s_is_count) (defBody s_is_count) (defScope s_is_count) .none kV0 dc0 pm0 an0 cd0 ct0), sl0⟩) (c0 : PySem.W.codeIn K cd0 "is_count" = true) (k0 : PySem.W.keepIn K (.ref f0) = true)
    (a1 : PySem.W.nsIn K mainGlobals "are_counts" = some (some (.ref f1))) (l1 : K.lookup f1 = some ⟨oc1, od1, .func (PySem.W.fnOf "are_counts" "are_counts" (defArgs s_are_counts) (defBody s_are_counts) (defScope s_are_counts) .none kV1 dc1 pm1 an1 cd1 ct1), sl1⟩) (c1 : PySem.W.codeIn K cd1 "are_counts" = true) (k1 : PySem.W.keepIn K (.ref f1) = true)
    (a2 : PySem.W.nsIn K mainGlobals "is_rule" = some (some (.ref f2))) (l2 : K.lookup f2 = some ⟨oc2, od2, .func (PySem.W.fnOf "is_rule" "is_rule" (defArgs s_is_rule) (defBody s_is_rule) (defScope s_is_rule) .none kV2 dc2 pm2 an2 cd2 ct2), sl2⟩) (c2 : PySem.W.codeIn K cd2 "is_rule" = true) (k2 : PySem.W.keepIn K (.ref f2) = true)
    (a3 : PySem.W.nsIn K mainGlobals "is_desk" = some (some (.ref f3))) (l3 : K.lookup f3 = some ⟨oc3, od3, .func (PySem.W.fnOf "is_desk" "is_desk" (defArgs s_is_desk) (defBody s_is_desk) (defScope s_is_desk) .none kV3 dc3 pm3 an3 cd3 ct3), sl3⟩) (c3 : PySem.W.codeIn K cd3 "is_desk" = true) (k3 : PySem.W.keepIn K (.ref f3) = true)
    (a4 : PySem.W.nsIn K mainGlobals "need_desk" = some (some (.ref f4))) (l4 : K.lookup f4 = some ⟨oc4, od4, .func (PySem.W.fnOf "need_desk" "need_desk" (defArgs s_need_desk) (defBody s_need_desk) (defScope s_need_desk) .none kV4 dc4 pm4 an4 cd4 ct4), sl4⟩) (c4 : PySem.W.codeIn K cd4 "need_desk" = true) (k4 : PySem.W.keepIn K (.ref f4) = true)
    (a5 : PySem.W.nsIn K mainGlobals "arrivals_of" = some (some (.ref f5))) (l5 : K.lookup f5 = some ⟨oc5, od5, .func (PySem.W.fnOf "arrivals_of" "arrivals_of" (defArgs s_arrivals_of) (defBody s_arrivals_of) (defScope s_arrivals_of) .none kV5 dc5 pm5 an5 cd5 ct5), sl5⟩) (c5 : PySem.W.codeIn K cd5 "arrivals_of" = true) (k5 : PySem.W.keepIn K (.ref f5) = true)
    (a6 : PySem.W.nsIn K mainGlobals "start_of" = some (some (.ref f6))) (l6 : K.lookup f6 = some ⟨oc6, od6, .func (PySem.W.fnOf "start_of" "start_of" (defArgs s_start_of) (defBody s_start_of) (defScope s_start_of) .none kV6 dc6 pm6 an6 cd6 ct6), sl6⟩) (c6 : PySem.W.codeIn K cd6 "start_of" = true) (k6 : PySem.W.keepIn K (.ref f6) = true)
    (a7 : PySem.W.nsIn K mainGlobals "chosen" = some (some (.ref f7))) (l7 : K.lookup f7 = some ⟨oc7, od7, .func (PySem.W.fnOf "chosen" "chosen" (defArgs s_chosen) (defBody s_chosen) (defScope s_chosen) .none kV7 dc7 pm7 an7 cd7 ct7), sl7⟩) (c7 : PySem.W.codeIn K cd7 "chosen" = true) (k7 : PySem.W.keepIn K (.ref f7) = true)
    (a8 : PySem.W.nsIn K mainGlobals "moved" = some (some (.ref f8))) (l8 : K.lookup f8 = some ⟨oc8, od8, .func (PySem.W.fnOf "moved" "moved" (defArgs s_moved) (defBody s_moved) (defScope s_moved) .none kV8 dc8 pm8 an8 cd8 ct8), sl8⟩) (c8 : PySem.W.codeIn K cd8 "moved" = true) (k8 : PySem.W.keepIn K (.ref f8) = true)
    (a9 : PySem.W.nsIn K mainGlobals "settled" = some (some (.ref f9))) (l9 : K.lookup f9 = some ⟨oc9, od9, .func (PySem.W.fnOf "settled" "settled" (defArgs s_settled) (defBody s_settled) (defScope s_settled) .none kV9 dc9 pm9 an9 cd9 ct9), sl9⟩) (c9 : PySem.W.codeIn K cd9 "settled" = true) (k9 : PySem.W.keepIn K (.ref f9) = true)
    (a10 : PySem.W.nsIn K mainGlobals "after" = some (some (.ref f10))) (l10 : K.lookup f10 = some ⟨oc10, od10, .func (PySem.W.fnOf "after" "after" (defArgs s_after) (defBody s_after) (defScope s_after) .none kV10 dc10 pm10 an10 cd10 ct10), sl10⟩) (c10 : PySem.W.codeIn K cd10 "after" = true) (k10 : PySem.W.keepIn K (.ref f10) = true)
    (a11 : PySem.W.nsIn K mainGlobals "row_to" = some (some (.ref f11))) (l11 : K.lookup f11 = some ⟨oc11, od11, .func (PySem.W.fnOf "row_to" "row_to" (defArgs s_row_to) (defBody s_row_to) (defScope s_row_to) .none kV11 dc11 pm11 an11 cd11 ct11), sl11⟩) (c11 : PySem.W.codeIn K cd11 "row_to" = true) (k11 : PySem.W.keepIn K (.ref f11) = true)
    (a12 : PySem.W.nsIn K mainGlobals "alike" = some (some (.ref f12))) (l12 : K.lookup f12 = some ⟨oc12, od12, .func (PySem.W.fnOf "alike" "alike" (defArgs s_alike) (defBody s_alike) (defScope s_alike) .none kV12 dc12 pm12 an12 cd12 ct12), sl12⟩) (c12 : PySem.W.codeIn K cd12 "alike" = true) (k12 : PySem.W.keepIn K (.ref f12) = true)
    (a13 : PySem.W.nsIn K mainGlobals "parting" = some (some (.ref f13))) (l13 : K.lookup f13 = some ⟨oc13, od13, .func (PySem.W.fnOf "parting" "parting" (defArgs s_parting) (defBody s_parting) (defScope s_parting) .none kV13 dc13 pm13 an13 cd13 ct13), sl13⟩) (c13 : PySem.W.codeIn K cd13 "parting" = true) (k13 : PySem.W.keepIn K (.ref f13) = true)
    (a14 : PySem.W.nsIn K mainGlobals "_law_draw" = some (some (.ref f14))) (l14 : K.lookup f14 = some ⟨oc14, od14, .func (PySem.W.fnOf "_law_draw" "_law_draw" (defArgs s__law_draw) (defBody s__law_draw) (defScope s__law_draw) .none kV14 dc14 pm14 an14 cd14 ct14), sl14⟩) (c14 : PySem.W.codeIn K cd14 "_law_draw" = true) (k14 : PySem.W.keepIn K (.ref f14) = true)
    (a15 : PySem.W.nsIn K mainGlobals "_law_pick" = some (some (.ref f15))) (l15 : K.lookup f15 = some ⟨oc15, od15, .func (PySem.W.fnOf "_law_pick" "_law_pick" (defArgs s__law_pick) (defBody s__law_pick) (defScope s__law_pick) .none kV15 dc15 pm15 an15 cd15 ct15), sl15⟩) (c15 : PySem.W.codeIn K cd15 "_law_pick" = true) (k15 : PySem.W.keepIn K (.ref f15) = true)
    (a16 : PySem.W.nsIn K mainGlobals "_law_rule" = some (some (.ref f16))) (l16 : K.lookup f16 = some ⟨oc16, od16, .func (PySem.W.fnOf "_law_rule" "_law_rule" (defArgs s__law_rule) (defBody s__law_rule) (defScope s__law_rule) .none kV16 dc16 pm16 an16 cd16 ct16), sl16⟩) (c16 : PySem.W.codeIn K cd16 "_law_rule" = true) (k16 : PySem.W.keepIn K (.ref f16) = true)
    (a17 : PySem.W.nsIn K mainGlobals "_law_desk" = some (some (.ref f17))) (l17 : K.lookup f17 = some ⟨oc17, od17, .func (PySem.W.fnOf "_law_desk" "_law_desk" (defArgs s__law_desk) (defBody s__law_desk) (defScope s__law_desk) .none kV17 dc17 pm17 an17 cd17 ct17), sl17⟩) (c17 : PySem.W.codeIn K cd17 "_law_desk" = true) (k17 : PySem.W.keepIn K (.ref f17) = true)
    (a18 : PySem.W.nsIn K mainGlobals "_law_long" = some (some (.ref f18))) (l18 : K.lookup f18 = some ⟨oc18, od18, .func (PySem.W.fnOf "_law_long" "_law_long" (defArgs s__law_long) (defBody s__law_long) (defScope s__law_long) .none kV18 dc18 pm18 an18 cd18 ct18), sl18⟩) (c18 : PySem.W.codeIn K cd18 "_law_long" = true) (k18 : PySem.W.keepIn K (.ref f18) = true)
    (a19 : PySem.W.nsIn K mainGlobals "law" = some (some (.ref f19))) (l19 : K.lookup f19 = some ⟨oc19, od19, .func (PySem.W.fnOf "law" "law" (defArgs s_law) (defBody s_law) (defScope s_law) .none kV19 dc19 pm19 an19 cd19 ct19), sl19⟩) (c19 : PySem.W.codeIn K cd19 "law" = true) (k19 : PySem.W.keepIn K (.ref f19) = true)
    (z_isinstance : PySem.W.nsIn K mainGlobals "isinstance" = some none)
    (z_int : PySem.W.nsIn K mainGlobals "int" = some none)
    (z_bool : PySem.W.nsIn K mainGlobals "bool" = some none)
    (z_range : PySem.W.nsIn K mainGlobals "range" = some none)
    (z_len : PySem.W.nsIn K mainGlobals "len" = some none)
    (z_max : PySem.W.nsIn K mainGlobals "max" = some none)
    (z_tuple : PySem.W.nsIn K mainGlobals "tuple" = some none)
    (z_list : PySem.W.nsIn K mainGlobals "list" = some none)
    (z_sum : PySem.W.nsIn K mainGlobals "sum" = some none)
    (z_sorted : PySem.W.nsIn K mainGlobals "sorted" = some none)
    (z_set : PySem.W.nsIn K mainGlobals "set" = some none)
    (z_all : PySem.W.nsIn K mainGlobals "all" = some none)
    (z_str : PySem.W.nsIn K mainGlobals "str" = some none) :
    ∃ fd : FuncData, (∀ (s : Shared) (v : Value), BindsTo s fd ⟨[v], []⟩ [("script", v)]) ∧ ∀ base : Heap, K.In base → base.Ns mainGlobals mg → FnOk P w K mg base CX0 8 fa fd ["script"] (spP ⟨K, P, w⟩ 1 m_law) := by
  have e : f19 = fa := by have e := hfa.symm.trans (PySem.W.mg_of X G a19); cases e; rfl
  subst e
  let T : Tops K mg := { a_is_count := f0, fd_is_count := _, F_is_count := fun_mk (st := s_is_count) l0 c0 k0, b_is_count := (fun_mk (st := s_is_count) l0 c0 k0).binds (ps := ["value", "least", "most"]) (fun _ _ _ _ _ _ us hl => match us, hl with | [_, _, _], _ => rfl), g_is_count := PySem.W.mg_of X G a0, a_are_counts := f1, fd_are_counts := _, F_are_counts := fun_mk (st := s_are_counts) l1 c1 k1, b_are_counts := (fun_mk (st := s_are_counts) l1 c1 k1).binds (ps := ["value", "least", "most", "long"]) (fun _ _ _ _ _ _ us hl => match us, hl with | [_, _, _, _], _ => rfl), g_are_counts := PySem.W.mg_of X G a1, a_is_rule := f2, fd_is_rule := _, F_is_rule := fun_mk (st := s_is_rule) l2 c2 k2, b_is_rule := (fun_mk (st := s_is_rule) l2 c2 k2).binds (ps := ["value", "lines"]) (fun _ _ _ _ _ _ us hl => match us, hl with | [_, _], _ => rfl), g_is_rule := PySem.W.mg_of X G a2, a_is_desk := f3, fd_is_desk := _, F_is_desk := fun_mk (st := s_is_desk) l3 c3 k3, b_is_desk := (fun_mk (st := s_is_desk) l3 c3 k3).binds (ps := ["value"]) (fun _ _ _ _ _ _ us hl => match us, hl with | [_], _ => rfl), g_is_desk := PySem.W.mg_of X G a3, a_need_desk := f4, fd_need_desk := _, F_need_desk := fun_mk (st := s_need_desk) l4 c4 k4, b_need_desk := (fun_mk (st := s_need_desk) l4 c4 k4).binds (ps := ["value"]) (fun _ _ _ _ _ _ us hl => match us, hl with | [_], _ => rfl), g_need_desk := PySem.W.mg_of X G a4, a_arrivals_of := f5, fd_arrivals_of := _, F_arrivals_of := fun_mk (st := s_arrivals_of) l5 c5 k5, b_arrivals_of := (fun_mk (st := s_arrivals_of) l5 c5 k5).binds (ps := ["desk"]) (fun _ _ _ _ _ _ us hl => match us, hl with | [_], _ => rfl), g_arrivals_of := PySem.W.mg_of X G a5, a_start_of := f6, fd_start_of := _, F_start_of := fun_mk (st := s_start_of) l6 c6 k6, b_start_of := (fun_mk (st := s_start_of) l6 c6 k6).binds (ps := ["desk"]) (fun _ _ _ _ _ _ us hl => match us, hl with | [_], _ => rfl), g_start_of := PySem.W.mg_of X G a6, a_chosen := f7, fd_chosen := _, F_chosen := fun_mk (st := s_chosen) l7 c7 k7, b_chosen := (fun_mk (st := s_chosen) l7 c7 k7).binds (ps := ["desk", "queues", "pointer"]) (fun _ _ _ _ _ _ us hl => match us, hl with | [_, _, _], _ => rfl), g_chosen := PySem.W.mg_of X G a7, a_moved := f8, fd_moved := _, F_moved := fun_mk (st := s_moved) l8 c8 k8, b_moved := (fun_mk (st := s_moved) l8 c8 k8).binds (ps := ["desk", "situation", "arrival"]) (fun _ _ _ _ _ _ us hl => match us, hl with | [_, _, _], _ => rfl), g_moved := PySem.W.mg_of X G a8, a_settled := f9, fd_settled := _, F_settled := fun_mk (st := s_settled) l9 c9 k9, b_settled := (fun_mk (st := s_settled) l9 c9 k9).binds (ps := ["desk", "situation"]) (fun _ _ _ _ _ _ us hl => match us, hl with | [_, _], _ => rfl), g_settled := PySem.W.mg_of X G a9, a_after := f10, fd_after := _, F_after := fun_mk (st := s_after) l10 c10 k10, b_after := (fun_mk (st := s_after) l10 c10 k10).binds (ps := ["desk", "situation", "arrival"]) (fun _ _ _ _ _ _ us hl => match us, hl with | [_, _, _], _ => rfl), g_after := PySem.W.mg_of X G a10, a_row_to := f11, fd_row_to := _, F_row_to := fun_mk (st := s_row_to) l11 c11 k11, b_row_to := (fun_mk (st := s_row_to) l11 c11 k11).binds (ps := ["sources", "key"]) (fun _ _ _ _ _ _ us hl => match us, hl with | [_, _], _ => rfl), g_row_to := PySem.W.mg_of X G a11, a_alike := f12, fd_alike := _, F_alike := fun_mk (st := s_alike) l12 c12 k12, b_alike := (fun_mk (st := s_alike) l12 c12 k12).binds (ps := ["desk", "other"]) (fun _ _ _ _ _ _ us hl => match us, hl with | [_, _], _ => rfl), g_alike := PySem.W.mg_of X G a12, a_parting := f13, fd_parting := _, F_parting := fun_mk (st := s_parting) l13 c13 k13, b_parting := (fun_mk (st := s_parting) l13 c13 k13).binds (ps := ["desk", "other"]) (fun _ _ _ _ _ _ us hl => match us, hl with | [_, _], _ => rfl), g_parting := PySem.W.mg_of X G a13, a__law_draw := f14, fd__law_draw := _, F__law_draw := fun_mk (st := s__law_draw) l14 c14 k14, b__law_draw := (fun_mk (st := s__law_draw) l14 c14 k14).binds (ps := ["script", "town", "many"]) (fun _ _ _ _ _ _ us hl => match us, hl with | [_, _, _], _ => rfl), g__law_draw := PySem.W.mg_of X G a14, a__law_pick := f15, fd__law_pick := _, F__law_pick := fun_mk (st := s__law_pick) l15 c15 k15, b__law_pick := (fun_mk (st := s__law_pick) l15 c15 k15).binds (ps := ["script", "town", "some"]) (fun _ _ _ _ _ _ us hl => match us, hl with | [_, _, _], _ => rfl), g__law_pick := PySem.W.mg_of X G a15, a__law_rule := f16, fd__law_rule := _, F__law_rule := fun_mk (st := s__law_rule) l16 c16 k16, b__law_rule := (fun_mk (st := s__law_rule) l16 c16 k16).binds (ps := ["script", "town", "lines"]) (fun _ _ _ _ _ _ us hl => match us, hl with | [_, _, _], _ => rfl), g__law_rule := PySem.W.mg_of X G a16, a__law_desk := f17, fd__law_desk := _, F__law_desk := fun_mk (st := s__law_desk) l17 c17 k17, b__law_desk := (fun_mk (st := s__law_desk) l17 c17 k17).binds (ps := ["script", "town"]) (fun _ _ _ _ _ _ us hl => match us, hl with | [_, _], _ => rfl), g__law_desk := PySem.W.mg_of X G a17, a__law_long := f18, fd__law_long := _, F__law_long := fun_mk (st := s__law_long) l18 c18 k18, b__law_long := (fun_mk (st := s__law_long) l18 c18 k18).binds (ps := ["row"]) (fun _ _ _ _ _ _ us hl => match us, hl with | [_], _ => rfl), g__law_long := PySem.W.mg_of X G a18, a_law := f19, fd_law := _, F_law := fun_mk (st := s_law) l19 c19 k19, b_law := (fun_mk (st := s_law) l19 c19 k19).binds (ps := ["script"]) (fun _ _ _ _ _ _ us hl => match us, hl with | [_], _ => rfl), g_law := PySem.W.mg_of X G a19, z_isinstance := PySem.W.mg_none_of X G z_isinstance, z_int := PySem.W.mg_none_of X G z_int, z_bool := PySem.W.mg_none_of X G z_bool, z_range := PySem.W.mg_none_of X G z_range, z_len := PySem.W.mg_none_of X G z_len, z_max := PySem.W.mg_none_of X G z_max, z_tuple := PySem.W.mg_none_of X G z_tuple, z_list := PySem.W.mg_none_of X G z_list, z_sum := PySem.W.mg_none_of X G z_sum, z_sorted := PySem.W.mg_none_of X G z_sorted, z_set := PySem.W.mg_none_of X G z_set, z_all := PySem.W.mg_none_of X G z_all, z_str := PySem.W.mg_none_of X G z_str }
  exact ⟨T.fd_law, fun s v => .of_eq rfl, fun base _ _ => ok_law T⟩
end Qz

open PySem PySem.W PyProof.Rows
set_option maxHeartbeats 0 in
theorem PySem.Challenge.cw_clerklines_k13_whole_triangle_holds : PySem.Challenge.rw_clerklines_k13_whole_triangle.Holds := by
  w_on; o_law; k_head; (case hw => w_witness2)
  k_fill
  refine L2.walk_of (l := PySem.Challenge.rw_clerklines_k13_whole_triangle) (n := 63) (k := 8) (x := "script") (CX := fun _ => L2.CX0) (sp := fun w => Qz.spP ⟨_, PySem.Challenge.pw_clerklines_k13_whole_triangle, w⟩ 1 Qz.m_law) rfl (by decide) rfl ⟨rfl, by decide, by decide⟩ (fun w h Y => PySem.W.kIn_of Y) ?F (fun w H a ns hl hO hS => Qz.law_end Qz.law_true hl hO hS) (fun _ _ _ _ _ h => h)
  case F =>
    intro w mg fa h KX G hmg
    refine' Qz.all_mk KX G hmg ?a0 ?l0 ?c0 ?k0 ?a1 ?l1 ?c1 ?k1 ?a2 ?l2 ?c2 ?k2 ?a3 ?l3 ?c3 ?k3 ?a4 ?l4 ?c4 ?k4 ?a5 ?l5 ?c5 ?k5 ?a6 ?l6 ?c6 ?k6 ?a7 ?l7 ?c7 ?k7 ?a8 ?l8 ?c8 ?k8 ?a9 ?l9 ?c9 ?k9 ?a10 ?l10 ?c10 ?k10 ?a11 ?l11 ?c11 ?k11 ?a12 ?l12 ?c12 ?k12 ?a13 ?l13 ?c13 ?k13 ?a14 ?l14 ?c14 ?k14 ?a15 ?l15 ?c15 ?k15 ?a16 ?l16 ?c16 ?k16 ?a17 ?l17 ?c17 ?k17 ?a18 ?l18 ?c18 ?k18 ?a19 ?l19 ?c19 ?k19 ?z_isinstance ?z_int ?z_bool ?z_range ?z_len ?z_max ?z_tuple ?z_list ?z_sum ?z_sorted ?z_set ?z_all ?z_str
    (case a0 => k_is); (case l0 => k_is); (case c0 => k_is); (case k0 => k_is); (case a1 => k_is); (case l1 => k_is); (case c1 => k_is); (case k1 => k_is); (case a2 => k_is); (case l2 => k_is); (case c2 => k_is); (case k2 => k_is); (case a3 => k_is); (case l3 => k_is); (case c3 => k_is); (case k3 => k_is); (case a4 => k_is); (case l4 => k_is); (case c4 => k_is); (case k4 => k_is); (case a5 => k_is); (case l5 => k_is); (case c5 => k_is); (case k5 => k_is); (case a6 => k_is); (case l6 => k_is); (case c6 => k_is); (case k6 => k_is); (case a7 => k_is); (case l7 => k_is); (case c7 => k_is); (case k7 => k_is); (case a8 => k_is); (case l8 => k_is); (case c8 => k_is); (case k8 => k_is); (case a9 => k_is); (case l9 => k_is); (case c9 => k_is); (case k9 => k_is); (case a10 => k_is); (case l10 => k_is); (case c10 => k_is); (case k10 => k_is); (case a11 => k_is); (case l11 => k_is); (case c11 => k_is); (case k11 => k_is); (case a12 => k_is); (case l12 => k_is); (case c12 => k_is); (case k12 => k_is); (case a13 => k_is); (case l13 => k_is); (case c13 => k_is); (case k13 => k_is); (case a14 => k_is); (case l14 => k_is); (case c14 => k_is); (case k14 => k_is); (case a15 => k_is); (case l15 => k_is); (case c15 => k_is); (case k15 => k_is); (case a16 => k_is); (case l16 => k_is); (case c16 => k_is); (case k16 => k_is); (case a17 => k_is); (case l17 => k_is); (case c17 => k_is); (case k17 => k_is); (case a18 => k_is); (case l18 => k_is); (case c18 => k_is); (case k18 => k_is); (case a19 => k_is); (case l19 => k_is); (case c19 => k_is); (case k19 => k_is); (case z_isinstance => k_is); (case z_int => k_is); (case z_bool => k_is); (case z_range => k_is); (case z_len => k_is); (case z_max => k_is); (case z_tuple => k_is); (case z_list => k_is); (case z_sum => k_is); (case z_sorted => k_is); (case z_set => k_is); (case z_all => k_is); (case z_str => k_is)

